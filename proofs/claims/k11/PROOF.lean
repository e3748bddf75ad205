import PyProof.Rows.All
import Wide.All
import OpenK.AllK
import Wide.FinOn
import HandS.ForMost
import HandS.ForExc
import HandS.Walk
import HandS.IsInst
import HandS.RaiseMore
import HandS.TupAny
import HandS.Lambda
import HandS.NoneIn
import HandS.Wide
import PyProof.ListStr
import PyProof.ReprRoads
import HandS.More
import HandS.Property
import KE.KCallOwn
import HandS.Set
import PyProof.Rows.SortShellAny
import HandS.Star
import HandS.FStr
import HandS.DictComp
import HandS.IterVal
import KE.KOwnIter
import HandS.ClsMeth
import KE.KEqNest
import KE.KMinBuiltin
import OpenK.KMeth
import HandS.EndTab
import KE.KExcInit
import HandS.ExcField
import HandS.TryMany
import KE.GoesMore
import HandS.Zip
import KE.KDictZip
import KE.KItemsList
import HandS.StrMore
import PyProof.Rows.StrCountLaw
import PyProof.StrBlock2
import PyProof.MeetsIn
import PyProof.NeKinds
import PyProof.FactsAll.dict_2
import KE.KFmtOwn
import HandS.Defaults
import KE.KEqDict
import KE.KDictList
import KE.GoesEnum
import HandS.Replace
import HandS.ReplaceLit
import HandS.Codes
import HandS.ReplaceList
import KE.KExcLine
import PySem.Challenge.RW_fromparts_k11_whole_libraries_and_their
set_option Elab.async false
set_option linter.all false
set_option maxRecDepth 100000
set_option maxHeartbeats 4000000
/-! FP1: a heap-free layer over HandS: data D, worlds, judgements whose readings speak of data alone. -/
namespace FP
open PySem L2
/-- a world: what never changes; what may change under all (the dice, the tables of code); the dice -/
structure Wd where
  H : Hp
  T : Addr → Prop
  Dc : Addr → Prop
/-- data without addresses (a lambda at hand is told by its place and the world at its making) -/
inductive D where
  | non | bl (b : Bool) | int (i : Int) | str (x : Str)
  | tup (xs : List D) | lst (xs : List D) | fz (xs : List D)
  | dct (kvs : List (Key × D)) | ins (c : Str) (fs : List (Str × D)) | tok | cl (c : Str)
  | fn (f : Addr) (W : Wd)
/-- the module: its names, the written part -/
structure Gm where
  mg : Str → Option Value
  K : PySem.W.Frag
/-- the tables of code, with the names of what is made there -/
class Tabl where
  B : List (Addr × Str)
variable [Tabl]
structure Le (W W' : Wd) : Prop where
  h : Same W.H W'.H
  t : ∀ a, W.T a → W'.T a
  dc : ∀ a, W.Dc a → W'.Dc a
theorem Le.refl (W : Wd) : Le W W := ⟨Same.refl _, fun _ h => h, fun _ h => h⟩
theorem Le.trans {W W1 W2 : Wd} (a : Le W W1) (b : Le W1 W2) : Le W W2 := ⟨a.h.trans b.h, fun x h => b.t x (a.t x h), fun x h => b.dc x (a.dc x h)⟩
mutual
inductive Rep (mg : Gm) (W : Wd) : V → D → Prop
  | non : Rep mg W .non .non
  | bl (b : Bool) : Rep mg W (.bl b) (.bl b)
  | int (i : Int) : Rep mg W (.int i) (.int i)
  | str (x : Str) : Rep mg W (.str x) (.str x)
  | tup {a : Addr} {vs : List V} {ds : List D} : W.H a = some (.tup vs) → Reps mg W vs ds → Rep mg W (.ref a) (.tup ds)
  | lst {a : Addr} {vs : List V} {ds : List D} : W.H a = some (.lst vs) → Reps mg W vs ds → Rep mg W (.ref a) (.lst ds)
  | fz {a : Addr} {vs : List V} {ds : List D} : SqL mg.K W.H a vs → Reps mg W vs ds → Rep mg W (.ref a) (.fz ds)
  | dct {a : Addr} {o : Obj} {kvs : List (Key × V)} {ds : List (Key × D)} : W.H a = some (.frz o (.dK kvs)) → kvs.map (·.1) = ds.map (·.1) → Reps mg W (kvs.map (·.2)) (ds.map (·.2)) → Rep mg W (.ref a) (.dct ds)
  | ins {a C dx : Addr} {fs : List (Str × V)} {c : Str} {ds : List (Str × D)} : mg.mg c = some (.ref C) → W.H a = some (.ins C dx fs) → fs.map (·.1) = ds.map (·.1) → Reps mg W (fs.map (·.2)) (ds.map (·.2)) → Rep mg W (.ref a) (.ins c ds)
  | tok {a : Addr} : W.Dc a → Rep mg W (.ref a) .tok
  | cl {C : Addr} {c : Str} : mg.mg c = some (.ref C) → Rep mg W (.ref C) (.cl c)
  | fn {f : Addr} {W0 : Wd} : Le W0 W → Rep mg W (.ref f) (.fn f W0)
inductive Reps (mg : Gm) (W : Wd) : List V → List D → Prop
  | nil : Reps mg W [] []
  | cons {v : V} {vs : List V} {d : D} {ds : List D} : Rep mg W v d → Reps mg W vs ds → Reps mg W (v :: vs) (d :: ds)
end
section
variable {mg : Gm} {W W' : Wd}
mutual
theorem Rep.mono (l : Le W W') : ∀ {v : V} {d : D}, Rep mg W v d → Rep mg W' v d
  | _, _, .non => .non
  | _, _, .bl b => .bl b
  | _, _, .int i => .int i
  | _, _, .str x => .str x
  | _, _, .tup h r => .tup (l.h _ _ h) (Reps.mono l r)
  | _, _, .lst h r => .lst (l.h _ _ h) (Reps.mono l r)
  | _, _, .fz h r => .fz (l.h.seq h) (Reps.mono l r)
  | _, _, .dct h e r => .dct (l.h _ _ h) e (Reps.mono l r)
  | _, _, .ins c h e r => .ins c (l.h _ _ h) e (Reps.mono l r)
  | _, _, .tok t => .tok (l.dc _ t)
  | _, _, .cl h => .cl h
  | _, _, .fn h => .fn (h.trans l)
theorem Reps.mono (l : Le W W') : ∀ {vs : List V} {ds : List D}, Reps mg W vs ds → Reps mg W' vs ds
  | _, _, .nil => .nil
  | _, _, .cons r t => .cons (Rep.mono l r) (Reps.mono l t)
end
theorem Reps.length : ∀ {vs : List V} {ds : List D}, Reps mg W vs ds → vs.length = ds.length
  | _, _, .nil => rfl
  | _, _, .cons _ t => congrArg (· + 1) (Reps.length t)
theorem Reps.append : ∀ {vs : List V} {ds : List D} {us : List V} {es : List D}, Reps mg W vs ds → Reps mg W us es → Reps mg W (vs ++ us) (ds ++ es)
  | _, _, _, _, .nil, s => s
  | _, _, _, _, .cons r t, s => .cons r (Reps.append t s)
theorem Reps.snoc {vs : List V} {ds : List D} {v : V} {d : D} (r : Reps mg W vs ds) (h : Rep mg W v d) : Reps mg W (vs ++ [v]) (ds ++ [d]) := r.append (.cons h .nil)
theorem Reps.get : ∀ {vs : List V} {ds : List D} {i : Nat} {d : D}, Reps mg W vs ds → ds[i]? = some d → ∃ v, vs[i]? = some v ∧ Rep mg W v d
  | _, _, _, _, .nil, e => by simp at e
  | _, _, 0, _, .cons r _, e => by
    simp at e
    subst e
    exact ⟨_, rfl, r⟩
  | _, _, i + 1, d, .cons _ t, e => by
    obtain ⟨v, h1, h2⟩ := Reps.get (i := i) (d := d) t (by simpa using e)
    exact ⟨v, by simpa using h1, h2⟩
theorem Reps.getV : ∀ {vs : List V} {ds : List D} {i : Nat} {v : V}, Reps mg W vs ds → vs[i]? = some v → ∃ d, ds[i]? = some d ∧ Rep mg W v d
  | _, _, _, _, .nil, e => by simp at e
  | _, _, 0, _, .cons r _, e => by
    simp at e
    subst e
    exact ⟨_, rfl, r⟩
  | _, _, i + 1, d, .cons _ t, e => by
    obtain ⟨v, h1, h2⟩ := Reps.getV (i := i) (v := d) t (by simpa using e)
    exact ⟨v, by simpa using h1, h2⟩
theorem Reps.drop : ∀ {vs : List V} {ds : List D} (n : Nat), Reps mg W vs ds → Reps mg W (vs.drop n) (ds.drop n)
  | _, _, 0, r => r
  | _, _, _ + 1, .nil => .nil
  | _, _, n + 1, .cons _ t => Reps.drop n t
theorem Reps.take : ∀ {vs : List V} {ds : List D} (n : Nat), Reps mg W vs ds → Reps mg W (vs.take n) (ds.take n)
  | _, _, 0, _ => .nil
  | _, _, _ + 1, .nil => .nil
  | _, _, n + 1, .cons r t => .cons r (Reps.take n t)
theorem Reps.eraseIdx : ∀ {vs : List V} {ds : List D} (n : Nat), Reps mg W vs ds → Reps mg W (vs.eraseIdx n) (ds.eraseIdx n)
  | _, _, _, .nil => .nil
  | _, _, 0, .cons _ t => t
  | _, _, n + 1, .cons r t => .cons r (Reps.eraseIdx n t)
theorem Reps.set : ∀ {vs : List V} {ds : List D} {v : V} {d : D} (n : Nat), Reps mg W vs ds → Rep mg W v d → Reps mg W (vs.set n v) (ds.set n d)
  | _, _, _, _, _, .nil, _ => .nil
  | _, _, _, _, 0, .cons _ t, h => .cons h t
  | _, _, _, _, n + 1, .cons r t, h => .cons r (Reps.set n t h)
theorem Reps.replicate {v : V} {d : D} (h : Rep mg W v d) : ∀ n, Reps mg W (List.replicate n v) (List.replicate n d)
  | 0 => .nil
  | n + 1 => .cons h (Reps.replicate h n)
theorem Reps.ints : ∀ (ns : List Int), Reps mg W (ns.map V.int) (ns.map D.int)
  | [] => .nil
  | n :: r => .cons (.int n) (Reps.ints r)
theorem Reps.strs : ∀ (ns : List Str), Reps mg W (ns.map V.str) (ns.map D.str)
  | [] => .nil
  | n :: r => .cons (.str n) (Reps.strs r)
end
/-- the heap bears the world -/
structure Holds (W : Wd) (H : Hp) : Prop where
  same : Same W.H H
  exm : ∀ a, W.T a → W.H a = none ∧ ∃ o, H a = some o
  tok : ∀ a, W.Dc a → W.T a ∧ ∃ x y z, H a = some (.lst [.int x, .int y, .int z])
  tab : ∀ p ∈ Tabl.B, W.T p.1 ∧ LamX.TabS H p.1 p.2
  all : ∀ b ps, H b = some (.tbl ps) → ∃ q, (b, q) ∈ Tabl.B
/-- a new object of the unchanging part -/
def Wd.put (W : Wd) (p : Addr) (o : HO) : Wd := { W with H := upd W.H p o }
theorem Holds.nT {W : Wd} {H : Hp} (h : Holds W H) {p : Addr} (n : H p = none) : ¬ W.T p := fun t => by
  obtain ⟨_, o, e⟩ := h.exm p t
  rw [e] at n
  cases n
theorem Holds.lay {W : Wd} {H : Hp} (h : Holds W H) {p : Addr} {o : HO} (n : H p = none) (no : ∀ ps, o ≠ .tbl ps) : Holds W (upd H p o) := by
  have up : ∀ b u, H b = some u → upd H p o b = some u := fun b u e => by
    rw [upd_ne (ne_of_none e n)]
    exact e
  refine ⟨fun b u e => up b u (h.same b u e), fun a t => ?_, fun a t => ?_, fun q hq => ?_, fun b ps e => ?_⟩
  · obtain ⟨h1, u, h2⟩ := h.exm a t
    exact ⟨h1, u, up a u h2⟩
  · obtain ⟨h1, x, y, z, h2⟩ := h.tok a t
    exact ⟨h1, x, y, z, up a _ h2⟩
  · obtain ⟨h1, h2⟩ := h.tab q hq
    exact ⟨h1, h2.ext up⟩
  · by_cases hb : b = p
    · rw [hb, upd_same] at e
      exact absurd (Option.some.inj e) (no ps)
    · rw [upd_ne hb] at e
      exact h.all b ps e
theorem Holds.put {W : Wd} {H : Hp} (h : Holds W H) {p : Addr} {o : HO} (e : H p = some o) (nt : ¬ W.T p) : Holds (W.put p o) H := by
  refine ⟨fun b u q => ?_, fun a t => ?_, h.tok, h.tab, h.all⟩
  · by_cases hb : b = p
    · subst hb
      have q' : upd W.H b o b = some u := q
      rw [upd_same] at q'
      rw [e]
      exact q'
    · have q' : upd W.H p o b = some u := q
      rw [upd_ne hb] at q'
      exact h.same b u q'
  · have na : a ≠ p := fun q => nt (q ▸ t)
    obtain ⟨h1, r⟩ := h.exm a t
    refine ⟨?_, r⟩
    show upd W.H p o a = none
    rw [upd_ne na]
    exact h1
theorem Holds.own {W : Wd} {H : Hp} (h : Holds W H) {p : Addr} {o o' : HO} (e : H p = some o) (nw : W.H p = none) (nt : ¬ W.T p) (nx : ∀ φ, o ≠ .ext φ) (no : ∀ ps, o' ≠ .tbl ps) : Holds W (upd H p o') := by
  refine ⟨fun b u q => ?_, fun a t => ?_, fun a t => ?_, fun q hq => ?_, fun b ps q => ?_⟩
  · rw [upd_ne (ne_of_none q nw)]
    exact h.same b u q
  · have na : a ≠ p := fun q => nt (q ▸ t)
    obtain ⟨h1, u, h2⟩ := h.exm a t
    exact ⟨h1, u, by rw [upd_ne na]; exact h2⟩
  · obtain ⟨h1, x, y, z, h2⟩ := h.tok a t
    have na : a ≠ p := fun q => nt (q ▸ h1)
    exact ⟨h1, x, y, z, by rw [upd_ne na]; exact h2⟩
  · obtain ⟨h1, ps, h2, h3, h4⟩ := h.tab q hq
    have na : q.1 ≠ p := fun z => nt (z ▸ h1)
    refine ⟨h1, ps, by rw [upd_ne na]; exact h2, h3, fun pos cv hc => ?_⟩
    obtain ⟨c, e1, e2⟩ := h4 pos cv hc
    refine ⟨c, e1, ?_⟩
    have nc : c ≠ p := fun z => by
      rw [z, e] at e2
      exact nx _ (Option.some.inj e2)
    rw [upd_ne nc]
    exact e2
  · by_cases hb : b = p
    · rw [hb, upd_same] at q
      exact absurd (Option.some.inj q) (no ps)
    · rw [upd_ne hb] at q
      exact h.all b ps q
structure Step (W : Wd) (H : Hp) (W' : Wd) (H' : Hp) : Prop where
  le : Le W W'
  holds : Holds W' H'
  keep : ∀ b o, H b = some o → ¬ W.T b → H' b = some o
  fresh : ∀ b o, H b = some o → W'.H b = W.H b
  freshT : ∀ b, W'.T b → W.T b ∨ H b = none
  live : ∀ b o, H b = some o → ∃ o', H' b = some o'
theorem Step.refl {W : Wd} {H : Hp} (h : Holds W H) : Step W H W H :=
  ⟨Le.refl W, h, fun _ _ e _ => e, fun _ _ _ => rfl, fun _ t => .inl t, fun _ o e => ⟨o, e⟩⟩
theorem Step.trans {W W1 W2 : Wd} {H H1 H2 : Hp} (a : Step W H W1 H1) (b : Step W1 H1 W2 H2) : Step W H W2 H2 where
  le := a.le.trans b.le
  holds := b.holds
  keep := fun c o e n => by
    refine b.keep c o (a.keep c o e n) fun t => ?_
    rcases a.freshT c t with t | t
    · exact n t
    · rw [e] at t
      cases t
  fresh := fun c o e => by
    obtain ⟨o', e'⟩ := a.live c o e
    rw [b.fresh c o' e', a.fresh c o e]
  freshT := fun c t => by
    rcases b.freshT c t with t | t
    · exact a.freshT c t
    · refine .inr ?_
      cases q : H c with
      | none => rfl
      | some o =>
        obtain ⟨o', e'⟩ := a.live c o q
        rw [e'] at t
        cases t
  live := fun c o e => by
    obtain ⟨o', e'⟩ := a.live c o e
    exact b.live c o' e'
/-- from the same heap on, with a later world -/
theorem Step.rebase {W W1 : Wd} {H H1 : Hp} (a : Step W H W1 H1) : Step W1 H W1 H1 :=
  ⟨Le.refl W1, a.holds, fun b o e n => a.keep b o e fun t => n (a.le.t b t), fun _ _ _ => rfl, fun _ t => .inl t, a.live⟩
theorem Step.join {W W1 W2 : Wd} {H H1 H2 : Hp} (a : Step W H W1 H1) (b : Step W1 H W2 H2) : Step W H W2 H2 where
  le := a.le.trans b.le
  holds := b.holds
  keep := fun c o e n => b.keep c o e fun t => by
    rcases a.freshT c t with t | t
    · exact n t
    · rw [e] at t
      cases t
  fresh := fun c o e => (b.fresh c o e).trans (a.fresh c o e)
  freshT := fun c t => by
    rcases b.freshT c t with t | t
    · exact a.freshT c t
    · exact .inr t
  live := b.live
theorem Wd.put_le {W : Wd} {p : Addr} {o : HO} (nw : W.H p = none) : Le W (W.put p o) := ⟨fun b u e => by
  show upd W.H p o b = some u
  rw [upd_ne (ne_of_none e nw)]
  exact e, fun _ t => t, fun _ t => t⟩
theorem Step.alloc {W : Wd} {H : Hp} (h : Holds W H) {p : Addr} {o : HO} (n : H p = none) (no : ∀ ps, o ≠ .tbl ps := by intro _ h; cases h) : Step W H (W.put p o) (upd H p o) := by
  have nw : W.H p = none := h.same.free n
  refine ⟨Wd.put_le nw, (h.lay n no).put upd_same (h.nT n), fun b u e _ => ?_, fun b u e => ?_, fun b t => .inl t, fun b u e => ?_⟩
  · rw [upd_ne (ne_of_none e n)]
    exact e
  · show upd W.H p o b = W.H b
    rw [upd_ne (ne_of_none e n)]
  · exact ⟨u, by rw [upd_ne (ne_of_none e n)]; exact e⟩
/-- a new object beside the world (owned) -/
theorem Step.lay {W : Wd} {H : Hp} (h : Holds W H) {p : Addr} {o : HO} (n : H p = none) (no : ∀ ps, o ≠ .tbl ps := by intro _ h; cases h) : Step W H W (upd H p o) := by
  refine ⟨Le.refl W, h.lay n no, fun b u e _ => ?_, fun _ _ _ => rfl, fun b t => .inl t, fun b u e => ?_⟩
  · rw [upd_ne (ne_of_none e n)]
    exact e
  · exact ⟨u, by rw [upd_ne (ne_of_none e n)]; exact e⟩
/-- an owned thing is taken into the world -/
theorem Step.take {W : Wd} {H : Hp} (h : Holds W H) {p : Addr} {o : HO} (e : H p = some o) (nw : W.H p = none) (nt : ¬ W.T p) : Le W (W.put p o) ∧ Holds (W.put p o) H := ⟨Wd.put_le nw, h.put e nt⟩
/-- a step that ends with the taking in of an object that was not there at its start -/
theorem Step.taken {W W1 : Wd} {H H1 : Hp} (s : Step W H W1 H1) {p : Addr} {o : HO} (n : H p = none) (e : H1 p = some o) (nw : W1.H p = none) (nt : ¬ W1.T p) : Step W H (W1.put p o) H1 := by
  obtain ⟨l, h⟩ := Step.take s.holds e nw nt
  refine ⟨s.le.trans l, h, s.keep, fun b u q => ?_, s.freshT, s.live⟩
  show upd W1.H p o b = W.H b
  rw [upd_ne (ne_of_none q n)]
  exact s.fresh b u q
/-- an owned thing is changed -/
theorem Step.own {W W1 : Wd} {H H1 : Hp} (s : Step W H W1 H1) {p : Addr} {o o' : HO} (n : H p = none) (e : H1 p = some o) (nw : W1.H p = none) (nt : ¬ W1.T p) (nx : ∀ φ, o ≠ .ext φ := by intro _ h; cases h) (no : ∀ ps, o' ≠ .tbl ps := by intro _ h; cases h) : Step W H W1 (upd H1 p o') := by
  refine ⟨s.le, s.holds.own e nw nt nx no, fun b u q nq => ?_, s.fresh, s.freshT, fun b u q => ?_⟩
  · rw [upd_ne (ne_of_none q n)]
    exact s.keep b u q nq
  · by_cases hb : b = p
    · rw [hb]
      exact ⟨_, upd_same⟩
    · rw [upd_ne hb]
      exact s.live b u q
/-- a field of an owned object: a datum, an owned list, an owned list of owned lists -/
inductive OF where
  | d (x : D) | l (xs : List D) | ll (xss : List (List D))
/-- a local name's place: nothing, a datum, a list that is this def's own, an object that is this def's own, an owned object whose fields may be owned lists (its addresses told) -/
inductive Sl where
  | no | d (x : D) | own (xs : List D) | ob (c : Str) (a : Addr) (fs : List (Str × D)) | ow (c : Str) (as : List Addr) (fs : List (Str × OF))
  | exc (a : Addr) (cls : Value) (d : Option Addr) (c : Str) (fs : List (Str × D))
  | od (kvs : List (Key × D))
abbrev Env := List Sl
/-- the addresses that a place owns -/
def Sl.fp (o : Option V) : Sl → List Addr
  | .own _ => match o with
    | some (.ref a) => [a]
    | _ => []
  | .od _ => match o with
    | some (.ref a) => [a]
    | _ => []
  | .ob _ a _ => [a]
  | .ow _ as _ => as
  | _ => []
/-- an owned field, with its addresses -/
def OFR (mg : Gm) (W : Wd) (H : Hp) (v : V) : OF → List Addr → Prop
  | .d x, as => as = [] ∧ Rep mg W v x
  | .l xs, as => ∃ L vs, as = [L] ∧ v = .ref L ∧ H L = some (.lst vs) ∧ Reps mg W vs xs
  | .ll xss, as => ∃ L Ls, as = L :: Ls ∧ v = .ref L ∧ H L = some (.lst (Ls.map V.ref)) ∧ Ls.length = xss.length ∧ ∀ (i : Nat) (l : Addr) (xs : List D), Ls[i]? = some l → xss[i]? = some xs → ∃ vs, H l = some (.lst vs) ∧ Reps mg W vs xs
def OFs (mg : Gm) (W : Wd) (H : Hp) : List (Str × V) → List (Str × OF) → List Addr → Prop
  | [], [], as => as = []
  | (f, v) :: vs, (g, x) :: fs, as => f = g ∧ ∃ as1 as2, as = as1 ++ as2 ∧ OFR mg W H v x as1 ∧ OFs mg W H vs fs as2
  | _, _, _ => False
/-- an exception's class and its dict -/
def ExcR (mg : Gm) (W : Wd) (cls : Value) (dd : Option Addr) (c : Str) (fs : List (Str × D)) : Prop :=
  ∃ C, mg.mg c = some (.ref C) ∧ cls = .ref C ∧ ((fs = [] ∧ dd = none) ∨ ∃ a vs, dd = some a ∧ W.H a = some (.xd vs) ∧ vs.map (·.1) = fs.map (·.1) ∧ Reps mg W (vs.map (·.2)) (fs.map (·.2)))
theorem ExcR.mono {mg : Gm} {W W' : Wd} {cls : Value} {dd : Option Addr} {c : Str} {fs : List (Str × D)} (h : ExcR mg W cls dd c fs) (l : Le W W') : ExcR mg W' cls dd c fs := by
  obtain ⟨C, h1, h2, h | ⟨a, vs, h3, h4, h5, h6⟩⟩ := h
  · exact ⟨C, h1, h2, .inl h⟩
  · exact ⟨C, h1, h2, .inr ⟨a, vs, h3, l.h _ _ h4, h5, h6.mono l⟩⟩
def SlR (mg : Gm) (B : Hp) (W : Wd) (H : Hp) (o : Option V) : Sl → Prop
  | .no => True
  | .exc a cls d c fs => o = some (.ref a) ∧ ExcR mg W cls d c fs
  | .d x => ∃ v, o = some v ∧ Rep mg W v x
  | .own xs => ∃ a vs, o = some (.ref a) ∧ H a = some (.lst vs) ∧ W.H a = none ∧ ¬ W.T a ∧ B a = none ∧ Reps mg W vs xs
  | .od kvs => ∃ a vs, o = some (.ref a) ∧ H a = some (.dK vs) ∧ W.H a = none ∧ ¬ W.T a ∧ B a = none ∧ vs.map (·.1) = kvs.map (·.1) ∧ Reps mg W (vs.map (·.2)) (kvs.map (·.2))
  | .ob c a fs => ∃ vs, o = some (.ref a) ∧ (∃ C dx, mg.mg c = some (.ref C) ∧ H a = some (.ins C dx vs)) ∧ W.H a = none ∧ ¬ W.T a ∧ B a = none ∧ vs.map (·.1) = fs.map (·.1) ∧ Reps mg W (vs.map (·.2)) (fs.map (·.2))
  | .ow c as fs => ∃ a as' vs, as = a :: as' ∧ o = some (.ref a) ∧ (∃ C dx, mg.mg c = some (.ref C) ∧ H a = some (.ins C dx vs)) ∧ OFs mg W H vs fs as' ∧ as.Nodup ∧ ∀ b ∈ as, (∃ u, H b = some u) ∧ W.H b = none ∧ ¬ W.T b ∧ B b = none
structure EnvR (mg : Gm) (B : Hp) (W : Wd) (H : Hp) (σ : St) (ρ : Env) : Prop where
  len : σ.length = ρ.length
  sl : ∀ (i : Nat) (s : Sl), ρ[i]? = some s → ∃ o, σ[i]? = some o ∧ SlR mg B W H o s
  dis : ∀ (i j : Nat) (s t : Sl) (o o' : Option V) (a : Addr), i ≠ j → ρ[i]? = some s → ρ[j]? = some t → σ[i]? = some o → σ[j]? = some o' → a ∈ s.fp o → a ∈ t.fp o' → False
section
variable {mg : Gm} {B : Hp} {W W' : Wd} {H H' : Hp} {σ : St} {ρ : Env}
/-- what is mine has addresses of its own -/
theorem SlR.at {o : Option V} {s : Sl} (h : SlR mg B W H o s) {a : Addr} (m : a ∈ s.fp o) : ∃ u, H a = some u ∧ W.H a = none ∧ ¬ W.T a ∧ B a = none := by
  cases s with
  | no => cases m
  | exc => cases m
  | d x => cases m
  | own xs =>
    obtain ⟨b, vs, h1, h2, h3, h4, h5, _⟩ := h
    subst h1
    obtain rfl := List.mem_singleton.mp m
    exact ⟨_, h2, h3, h4, h5⟩
  | od xs =>
    obtain ⟨b, vs, h1, h2, h3, h4, h5, _⟩ := h
    subst h1
    obtain rfl := List.mem_singleton.mp m
    exact ⟨_, h2, h3, h4, h5⟩
  | ob c b fs =>
    obtain ⟨vs, h1, ⟨C, dx, _, h2⟩, h3, h4, h5, _⟩ := h
    obtain rfl := List.mem_singleton.mp m
    exact ⟨_, h2, h3, h4, h5⟩
  | ow c as fs =>
    obtain ⟨b, as', vs, _, _, _, _, _, k⟩ := h
    obtain ⟨⟨u, hu⟩, k⟩ := k a m
    exact ⟨u, hu, k⟩
theorem OFR.keep {v : V} {x : OF} {as : List Addr} (h : OFR mg W H v x as) (l : Le W W') (k : ∀ b ∈ as, ∀ u, H b = some u → H' b = some u) : OFR mg W' H' v x as := by
  cases x with
  | d x => exact ⟨h.1, h.2.mono l⟩
  | l xs =>
    obtain ⟨L, vs, rfl, h2, h3, h4⟩ := h
    exact ⟨L, vs, rfl, h2, k L (by simp) _ h3, h4.mono l⟩
  | ll xss =>
    obtain ⟨L, Ls, rfl, h2, h3, h4, h5⟩ := h
    refine ⟨L, Ls, rfl, h2, k L (by simp) _ h3, h4, fun i b xs q1 q2 => ?_⟩
    obtain ⟨vs, g1, g2⟩ := h5 i b xs q1 q2
    exact ⟨vs, k b (List.mem_cons_of_mem _ (List.mem_of_getElem? q1)) _ g1, g2.mono l⟩
theorem OFs.keep : ∀ {vs : List (Str × V)} {fs : List (Str × OF)} {as : List Addr}, OFs mg W H vs fs as → Le W W' → (∀ b ∈ as, ∀ u, H b = some u → H' b = some u) → OFs mg W' H' vs fs as
  | [], [], _, h, _, _ => h
  | _ :: _, _ :: _, _, ⟨e, as1, as2, rfl, h1, h2⟩, l, k => ⟨e, as1, as2, rfl, h1.keep l fun b hb => k b (List.mem_append_left _ hb), OFs.keep h2 l fun b hb => k b (List.mem_append_right _ hb)⟩
  | [], _ :: _, _, h, _, _ => h.elim
  | _ :: _, [], _, h, _, _ => h.elim
/-- a place is kept: the world grows, what is mine stands as it stood -/
theorem SlR.keep {o : Option V} {s : Sl} (h : SlR mg B W H o s) (l : Le W W') (k : ∀ a ∈ s.fp o, ∀ u, H a = some u → W.H a = none → ¬ W.T a → H' a = some u ∧ W'.H a = none ∧ ¬ W'.T a) : SlR mg B W' H' o s := by
  cases s with
  | no => exact True.intro
  | exc => exact ⟨h.1, h.2.mono l⟩
  | d x =>
    obtain ⟨v, q, r⟩ := h
    exact ⟨v, q, r.mono l⟩
  | own xs =>
    obtain ⟨a, vs, h1, h2, h3, h4, h5, r⟩ := h
    subst h1
    obtain ⟨k1, k2, k3⟩ := k a (List.mem_singleton.mpr rfl) _ h2 h3 h4
    exact ⟨a, vs, rfl, k1, k2, k3, h5, r.mono l⟩
  | od xs =>
    obtain ⟨a, vs, h1, h2, h3, h4, h5, hk, r⟩ := h
    subst h1
    obtain ⟨k1, k2, k3⟩ := k a (List.mem_singleton.mpr rfl) _ h2 h3 h4
    exact ⟨a, vs, rfl, k1, k2, k3, h5, hk, r.mono l⟩
  | ob c a fs =>
    obtain ⟨vs, h1, ⟨C, dx, hc, h2⟩, h3, h4, h5, hk, r⟩ := h
    obtain ⟨k1, k2, k3⟩ := k a (List.mem_singleton.mpr rfl) _ h2 h3 h4
    exact ⟨vs, h1, ⟨C, dx, hc, k1⟩, k2, k3, h5, hk, r.mono l⟩
  | ow c as fs =>
    obtain ⟨a, as', vs, rfl, h1, ⟨C, dx, hc, h2⟩, h3, h4, h5⟩ := h
    have kk : ∀ b ∈ a :: as', ∀ u, H b = some u → H' b = some u ∧ W'.H b = none ∧ ¬ W'.T b := fun b hb u hu => k b hb u hu (h5 b hb).2.1 (h5 b hb).2.2.1
    refine ⟨a, as', vs, rfl, h1, ⟨C, dx, hc, (kk a List.mem_cons_self _ h2).1⟩, h3.keep l fun b hb u hu => (kk b (List.mem_cons_of_mem _ hb) u hu).1, h4, fun b hb => ?_⟩
    obtain ⟨⟨u, hu⟩, _, _, g4⟩ := h5 b hb
    obtain ⟨k1, k2, k3⟩ := kk b hb u hu
    exact ⟨⟨u, k1⟩, k2, k3, g4⟩
theorem Step.mine {a : Addr} {u : HO} (s : Step W H W' H') (h2 : H a = some u) (h3 : W.H a = none) (h4 : ¬ W.T a) : H' a = some u ∧ W'.H a = none ∧ ¬ W'.T a := by
  refine ⟨s.keep a _ h2 h4, ?_, fun t => ?_⟩
  · rw [s.fresh a _ h2]
    exact h3
  · rcases s.freshT a t with t | t
    · exact h4 t
    · rw [h2] at t
      cases t
theorem EnvR.step (e : EnvR mg B W H σ ρ) (s : Step W H W' H') : EnvR mg B W' H' σ ρ := by
  refine ⟨e.len, fun i sl h => ?_, e.dis⟩
  obtain ⟨o, h1, h2⟩ := e.sl i sl h
  exact ⟨o, h1, h2.keep s.le fun a _ u h2 h3 h4 => s.mine h2 h3 h4⟩
theorem EnvR.get (e : EnvR mg B W H σ ρ) {i : Nat} {x : D} (h : ρ[i]? = some (.d x)) : ∃ v, σ[i]? = some (some v) ∧ Rep mg W v x := by
  obtain ⟨o, h1, v, q, r⟩ := e.sl i _ h
  exact ⟨v, by rw [h1, q], r⟩
theorem get_set {α : Type} {l : List α} {i j : Nat} {x y : α} (h : (l.set i x)[j]? = some y) : (i = j ∧ x = y) ∨ (i ≠ j ∧ l[j]? = some y) := by
  by_cases e : i = j
  · subst e
    refine .inl ⟨rfl, ?_⟩
    rw [List.getElem?_set_self'] at h
    cases q : l[i]? with
    | none =>
      rw [q] at h
      cases h
    | some z =>
      rw [q] at h
      exact Option.some.inj h
  · rw [List.getElem?_set_ne e] at h
    exact .inr ⟨e, h⟩
theorem set_get {α : Type} {l : List α} {i : Nat} {x y : α} (h : l[i]? = some y) : (l.set i x)[i]? = some x := by
  rw [List.getElem?_set_self', h]
  rfl
/-- a place is stored -/
theorem EnvR.put (e : EnvR mg B W H σ ρ) {i : Nat} {o : Option V} {s : Sl} (n : s.fp o = []) (r : SlR mg B W H o s) : EnvR mg B W H (σ.set i o) (ρ.set i s) := by
  refine ⟨by simpa using e.len, fun j t h => ?_, fun j k s1 s2 o1 o2 a hjk h1 h2 h3 h4 m1 m2 => ?_⟩
  · rcases get_set h with ⟨rfl, rfl⟩ | ⟨nj, h⟩
    · have hl : i < ρ.length := by simpa using (List.getElem?_eq_some_iff.mp h).1
      exact ⟨o, by rw [List.getElem?_set_self (by rw [e.len]; exact hl)], r⟩
    · obtain ⟨o', h1, h2⟩ := e.sl j t h
      exact ⟨o', by rw [List.getElem?_set_ne nj]; exact h1, h2⟩
  · rcases get_set h1 with ⟨e1, z⟩ | ⟨n1, h1⟩
    · rcases get_set h3 with ⟨_, z'⟩ | ⟨q, _⟩
      · rw [← z, ← z', n] at m1
        cases m1
      · exact q e1
    · rcases get_set h2 with ⟨e2, z⟩ | ⟨n2, h2⟩
      · rcases get_set h4 with ⟨_, z'⟩ | ⟨q, _⟩
        · rw [← z, ← z', n] at m2
          cases m2
        · exact q e2
      · rw [List.getElem?_set_ne n1] at h3
        rw [List.getElem?_set_ne n2] at h4
        exact e.dis j k s1 s2 o1 o2 a hjk h1 h2 h3 h4 m1 m2
/-- nothing is said of any place -/
def noEnv (ρ : Env) : Env := ρ.map fun _ => Sl.no
theorem EnvR.noEnv (h : σ.length = ρ.length) : EnvR mg B W H σ (noEnv ρ) := by
  have no : ∀ (i : Nat) (s : Sl), (FP.noEnv ρ)[i]? = some s → s = .no ∧ i < σ.length := fun i s q => by
    unfold FP.noEnv at q
    rw [List.getElem?_map] at q
    cases z : ρ[i]? with
    | none =>
      rw [z] at q
      cases q
    | some y =>
      rw [z] at q
      cases q
      exact ⟨rfl, by rw [h]; exact (List.getElem?_eq_some_iff.mp z).1⟩
  refine ⟨by simpa [FP.noEnv] using h, fun i s q => ?_, fun i j s t o o' a _ h1 _ _ _ m _ => ?_⟩
  · obtain ⟨rfl, hl⟩ := no i s q
    exact ⟨_, List.getElem?_eq_getElem hl, True.intro⟩
  · obtain ⟨rfl, _⟩ := no i s h1
    cases m
theorem EnvR.set (e : EnvR mg B W H σ ρ) {i : Nat} {v : V} {x : D} (r : Rep mg W v x) : EnvR mg B W H (σ.set i (some v)) (ρ.set i (.d x)) := e.put rfl ⟨v, rfl, r⟩
theorem EnvR.no (e : EnvR mg B W H σ ρ) {i : Nat} {o : Option V} : EnvR mg B W H (σ.set i o) (ρ.set i .no) := e.put rfl True.intro
/-- new things of one's own at a place -/
theorem EnvR.news (e : EnvR mg B W H σ ρ) {i : Nat} {o : Option V} {s : Sl} (st : Step W H W H') (n : ∀ a ∈ s.fp o, H a = none) (r : SlR mg B W H' o s) : EnvR mg B W H' (σ.set i o) (ρ.set i s) := by
  have e1 := e.step st
  have old : ∀ (j : Nat) (t : Sl) (o' : Option V) (b : Addr), ρ[j]? = some t → σ[j]? = some o' → b ∈ t.fp o' → b ∈ s.fp o → False := fun j t o' b h1 h2 m m' => by
    obtain ⟨o2, h3, h4⟩ := e.sl j _ h1
    rw [h2] at h3
    cases h3
    obtain ⟨u', h6, _⟩ := h4.at m
    rw [n b m'] at h6
    cases h6
  refine ⟨by simpa using e.len, fun j sl hj => ?_, fun j k s1 s2 o1 o2 a hjk h1 h2 h3 h4 m1 m2 => ?_⟩
  · rcases get_set hj with ⟨rfl, rfl⟩ | ⟨nj, hj⟩
    · have hl : i < ρ.length := by simpa using (List.getElem?_eq_some_iff.mp hj).1
      exact ⟨o, by rw [List.getElem?_set_self (by rw [e.len]; exact hl)], r⟩
    · obtain ⟨o', h1, h2⟩ := e1.sl j sl hj
      exact ⟨o', by rw [List.getElem?_set_ne nj]; exact h1, h2⟩
  · rcases get_set h1 with ⟨e1, z1⟩ | ⟨n1, h1⟩
    · rcases get_set h2 with ⟨q, _⟩ | ⟨n2, h2⟩
      · exact hjk (e1.symm.trans q)
      · rw [List.getElem?_set_ne n2] at h4
        rcases get_set h3 with ⟨_, q⟩ | ⟨q, _⟩
        · rw [← z1, ← q] at m1
          exact old k s2 o2 a h2 h4 m2 m1
        · exact q e1
    · rcases get_set h2 with ⟨e2, z2⟩ | ⟨n2, h2⟩
      · rw [List.getElem?_set_ne n1] at h3
        rcases get_set h4 with ⟨_, q⟩ | ⟨q, _⟩
        · rw [← z2, ← q] at m2
          exact old j s1 o1 a h1 h3 m1 m2
        · exact q e2
      · rw [List.getElem?_set_ne n1] at h3
        rw [List.getElem?_set_ne n2] at h4
        exact e.dis j k s1 s2 o1 o2 a hjk h1 h2 h3 h4 m1 m2
/-- a new list of one's own -/
theorem EnvR.setOwn (e : EnvR mg B W H σ ρ) (h : Holds W H) {i : Nat} {p : Addr} {vs : List V} {xs : List D} (n : H p = none) (nb : B p = none) (r : Reps mg W vs xs) : EnvR mg B W (upd H p (.lst vs)) (σ.set i (some (.ref p))) (ρ.set i (.own xs)) :=
  e.news (Step.lay h n) (fun a ha => by obtain rfl := List.mem_singleton.mp ha; exact n) ⟨p, vs, rfl, upd_same, h.same.free n, h.nT n, nb, r⟩
/-- what is mine at a place is changed, or another thing is said of the place: the heap differs at its addresses alone; new ones are new -/
theorem EnvR.turns (e : EnvR mg B W H σ ρ) {i : Nat} {o : Option V} {s s' : Sl} (hi : ρ[i]? = some s) (hs : σ[i]? = some o) (hH : ∀ b u, H b = some u → b ∉ s.fp o → H' b = some u) (hn : ∀ a ∈ s'.fp o, a ∈ s.fp o ∨ H a = none) (r : SlR mg B W H' o s') : EnvR mg B W H' σ (ρ.set i s') := by
  have off : ∀ (j : Nat) (t : Sl) (o' : Option V) (b : Addr), j ≠ i → ρ[j]? = some t → σ[j]? = some o' → b ∈ t.fp o' → b ∈ s'.fp o → False := fun j t o' b nj h1 h2 m m' => by
    rcases hn b m' with z | z
    · exact e.dis j i t s o' o b nj h1 hi h2 hs m z
    · obtain ⟨o2, h3, h4⟩ := e.sl j _ h1
      rw [h2] at h3
      cases h3
      obtain ⟨u', h6, _⟩ := h4.at m
      rw [z] at h6
      cases h6
  refine ⟨by simpa using e.len, fun j sl hj => ?_, fun j k s1 s2 o1 o2 a hjk h1 h2 h3 h4 m1 m2 => ?_⟩
  · rcases get_set hj with ⟨rfl, rfl⟩ | ⟨nj, hj⟩
    · exact ⟨_, hs, r⟩
    · obtain ⟨o', h1, h2⟩ := e.sl j sl hj
      exact ⟨o', h1, h2.keep (Le.refl W) fun a ha u h5 h6 h7 => ⟨hH a u h5 fun z => e.dis i j s sl o o' a nj hi hj hs h1 z ha, h6, h7⟩⟩
  · rcases get_set h1 with ⟨e1, z1⟩ | ⟨n1, h1⟩
    · rcases get_set h2 with ⟨q, _⟩ | ⟨n2, h2⟩
      · exact hjk (e1.symm.trans q)
      · subst e1
        rw [hs] at h3
        cases h3
        rw [← z1] at m1
        exact off k s2 o2 a (Ne.symm n2) h2 h4 m2 m1
    · rcases get_set h2 with ⟨e2, z2⟩ | ⟨n2, h2⟩
      · subst e2
        rw [hs] at h4
        cases h4
        rw [← z2] at m2
        exact off j s1 o1 a (Ne.symm n1) h1 h3 m1 m2
      · exact e.dis j k s1 s2 o1 o2 a hjk h1 h2 h3 h4 m1 m2
/-- one address of one's own is changed -/
theorem EnvR.turn (e : EnvR mg B W H σ ρ) {i : Nat} {p : Addr} {u : HO} {o : Option V} {s s' : Sl} (hi : ρ[i]? = some s) (hs : σ[i]? = some o) (m : p ∈ s.fp o) (hf : ∀ a ∈ s'.fp o, a ∈ s.fp o) (r : SlR mg B W (upd H p u) o s') : EnvR mg B W (upd H p u) σ (ρ.set i s') :=
  e.turns hi hs (fun b u' h n => by
    have ne : b ≠ p := fun q => n (by rw [q]; exact m)
    rw [upd_ne ne]
    exact h) (fun a ha => .inl (hf a ha)) r
/-- one's own list is changed -/
theorem EnvR.own (e : EnvR mg B W H σ ρ) {i : Nat} {p : Addr} {us vs : List V} {xs ys : List D} (hi : ρ[i]? = some (.own xs)) (hs : σ[i]? = some (some (.ref p))) (r : Reps mg W vs ys) : EnvR mg B W (upd H p (.lst vs)) σ (ρ.set i (.own ys)) := by
  obtain ⟨o, h1, h2⟩ := e.sl i _ hi
  rw [hs] at h1
  cases h1
  obtain ⟨u, h4, h5, h6, h7⟩ := h2.at (a := p) (List.mem_singleton.mpr rfl)
  exact e.turn hi hs (List.mem_singleton.mpr rfl) (fun _ h => h) ⟨p, vs, rfl, upd_same, h5, h6, h7, r⟩
/-- what is mine is handed to the world -/
theorem EnvR.give (e : EnvR mg B W H σ ρ) (h : Holds W H) {i : Nat} {p : Addr} {u : HO} {s : Sl} {x : D} (hi : ρ[i]? = some s) (hs : σ[i]? = some (some (.ref p))) (m : p ∈ s.fp (some (.ref p))) (hu : H p = some u) (hw : W.H p = none) (ht : ¬ W.T p) (r : Rep mg (W.put p u) (.ref p) x) : EnvR mg B (W.put p u) H σ (ρ.set i (.d x)) := by
  obtain ⟨l, hh⟩ := Step.take h hu hw ht
  refine ⟨by simpa using e.len, fun j sl hj => ?_, fun j k s1 s2 o1 o2 a hjk q1 q2 q3 q4 m1 m2 => ?_⟩
  · rcases get_set hj with ⟨rfl, rfl⟩ | ⟨nj, hj⟩
    · exact ⟨_, hs, _, rfl, r⟩
    · obtain ⟨o, g1, g2⟩ := e.sl j sl hj
      refine ⟨o, g1, g2.keep l fun a ha u' h5 h6 h7 => ⟨h5, ?_, h7⟩⟩
      show upd W.H p _ a = none
      have ne : a ≠ p := fun q => e.dis i j s sl _ o p nj hi hj hs g1 m (by rw [← q]; exact ha)
      rw [upd_ne ne]
      exact h6
  · rcases get_set q1 with ⟨_, z⟩ | ⟨n1, q1⟩
    · rw [← z] at m1
      cases m1
    · rcases get_set q2 with ⟨_, z⟩ | ⟨n2, q2⟩
      · rw [← z] at m2
        cases m2
      · exact e.dis j k s1 s2 o1 o2 a hjk q1 q2 q3 q4 m1 m2
/-- one's own list is handed to the world -/
theorem EnvR.freeze (e : EnvR mg B W H σ ρ) (h : Holds W H) {i : Nat} {xs : List D} (hi : ρ[i]? = some (.own xs)) :
    ∃ p vs, σ[i]? = some (some (.ref p)) ∧ H p = some (.lst vs) ∧ W.H p = none ∧ ¬ W.T p ∧ B p = none ∧ Reps mg W vs xs ∧ EnvR mg B (W.put p (.lst vs)) H σ (ρ.set i (.d (.lst xs))) := by
  obtain ⟨o, h1, p, vs, h2, h3, h4, h5, h6, r⟩ := e.sl i _ hi
  subst h2
  obtain ⟨l, hh⟩ := Step.take h h3 h4 h5
  exact ⟨p, vs, h1, h3, h4, h5, h6, r, e.give h hi h1 (List.mem_singleton.mpr rfl) h3 h4 h5 (.lst (show upd W.H p (.lst vs) p = _ from upd_same) (r.mono l))⟩
end
end FP
/-! FP2: judgements over data: expressions, tests, arguments, statements; a def's promise. -/
namespace FP
open PySem L2
variable [Tabl]
/-- an exception as a datum -/
structure XD where
  cls : Str
  fs : List (Str × D)
abbrev M (α : Type) := (α → Prop) → (XD → Prop) → Prop
abbrev DTE := Env → M D
abbrev DTT := Env → M Bool
abbrev DTA := Env → M (List D)
abbrev DTI := Env → M (List D)
structure Nd where
  nx : Env → Prop
  rt : D → Env → Prop
  bk : Env → Prop
  ct : Env → Prop
  rs : XD → Env → Prop
abbrev DTS := Nd → Env → Prop
abbrev F0 : XD → Prop := fun _ => False
abbrev Wx0 : WX := fun _ _ _ _ => False
def RepX (mg : Gm) (W : Wd) (_H : Hp) (cls : Value) (dd : Option Addr) (x : XD) : Prop := ExcR mg W cls dd x.cls x.fs
def ExR (mg : Gm) (Wx : WX) (W : Wd) (H : Hp) (σ : St) (E : XD → Prop) : Prop :=
  ∀ W' H' cls dd x, Step W H W' H' → RepX mg W' H' cls dd x → E x → Wx cls dd σ H'
theorem ExR.step {mg : Gm} {Wx : WX} {W W1 : Wd} {H H1 : Hp} {σ : St} {E : XD → Prop} (e : ExR mg Wx W H σ E) (s : Step W H W1 H1) : ExR mg Wx W1 H1 σ E :=
  fun W' H' cls dd x s' r h => e W' H' cls dd x (s.trans s') r h
theorem ExR.f0 {mg : Gm} {Wx : WX} {W : Wd} {H : Hp} {σ : St} : ExR mg Wx W H σ F0 := fun _ _ _ _ _ _ _ h => h.elim
/-- what is wanted behind a value, by its datum -/
abbrev ToV (mg : Gm) (W : Wd) (H : Hp) (Q : D → Prop) (Q' : VK) : Prop := ∀ W' H' v d, Step W H W' H' → Rep mg W' v d → Q d → Q' v H'
def Cp (mg : Gm) (Wx : WX) (t : TE) (f : DTE) : Prop := ∀ B ρ Q E, f ρ Q E → ∀ W σ H Q', Holds W H → EnvR mg B W H σ ρ → ExR mg Wx W H σ E → ToV mg W H Q Q' → t σ H Q'
def CpT (mg : Gm) (Wx : WX) (t : TT) (f : DTT) : Prop := ∀ B ρ Q E, f ρ Q E → ∀ W σ H Q', Holds W H → EnvR mg B W H σ ρ → ExR mg Wx W H σ E → (∀ W' H' b, Step W H W' H' → Q b → Q' b H') → t σ H Q'
def CpA (mg : Gm) (Wx : WX) (t : TA) (f : DTA) : Prop := ∀ B ρ Q E, f ρ Q E → ∀ W σ H Q', Holds W H → EnvR mg B W H σ ρ → ExR mg Wx W H σ E → (∀ W' H' vs ds, Step W H W' H' → Reps mg W' vs ds → Q ds → Q' vs H') → t σ H Q'
structure EndsR (mg : Gm) (Wx : WX) (W0 : Wd) (B : Hp) (N : Nd) (Ds : Ends) : Prop where
  nx : ∀ W' H' σ' ρ', Step W0 B W' H' → EnvR mg B W' H' σ' ρ' → N.nx ρ' → Ds.nx σ' H'
  rt : ∀ W' H' σ' ρ' v d, Step W0 B W' H' → EnvR mg B W' H' σ' ρ' → Rep mg W' v d → N.rt d ρ' → Ds.rt v H'
  bk : ∀ W' H' σ' ρ', Step W0 B W' H' → EnvR mg B W' H' σ' ρ' → N.bk ρ' → Ds.bk σ' H'
  ct : ∀ W' H' σ' ρ', Step W0 B W' H' → EnvR mg B W' H' σ' ρ' → N.ct ρ' → Ds.ct σ' H'
  rs : ∀ W' H' σ' ρ' cls dd x, Step W0 B W' H' → EnvR mg B W' H' σ' ρ' → RepX mg W' H' cls dd x → N.rs x ρ' → Wx cls dd σ' H'
def CpS (mg : Gm) (Wx : WX) (t : TS) (f : DTS) : Prop := ∀ W0 B N ρ, f N ρ → ∀ W σ H Ds, Step W0 B W H → EnvR mg B W H σ ρ → EndsR mg Wx W0 B N Ds → t Ds σ H
theorem EndsR.ex {mg : Gm} {Wx : WX} {W0 W : Wd} {B H : Hp} {N : Nd} {Ds : Ends} {σ : St} {ρ : Env} (n : EndsR mg Wx W0 B N Ds) (s : Step W0 B W H) (e : EnvR mg B W H σ ρ) : ExR mg Wx W H σ (fun x => N.rs x ρ) :=
  fun W' H' cls dd x s' r h => n.rs W' H' σ ρ cls dd x (s.trans s') (e.step s') r h
section
variable {ι : Type}
def DE (Xs : ι → Cx) (mg : Gm) (Wx : WX) (e : Expr) (f : DTE) : Prop := ∃ t, (∀ i, PE (Xs i) e t) ∧ Cp mg Wx t f
def DT (Xs : ι → Cx) (mg : Gm) (Wx : WX) (e : Expr) (f : DTT) : Prop := ∃ t, (∀ i, PT (Xs i) e t) ∧ CpT mg Wx t f
def DW (Xs : ι → Cx) (mg : Gm) (Wx : WX) (e : Expr) (f : DTT) : Prop := ∃ t, (∀ i, PW (Xs i) e t) ∧ CpT mg Wx t f
def DA (Xs : ι → Cx) (mg : Gm) (Wx : WX) (es : List Expr) (f : DTA) : Prop := ∃ t, (∀ i, PA (Xs i) es t) ∧ CpA mg Wx t f
def DS (Xs : ι → Cx) (mg : Gm) (Wx : WX) (st : Stmt) (f : DTS) : Prop := ∃ t, (∀ i, PS (Xs i) st t) ∧ CpS mg Wx t f
def DSs (Xs : ι → Cx) (mg : Gm) (Wx : WX) (st : List Stmt) (f : DTS) : Prop := ∃ t, (∀ i, PSs (Xs i) st t) ∧ CpS mg Wx t f
end
section
variable {ι : Type} {Xs : ι → Cx} {mg : Gm} {Wx : WX} {pos : Pos}
/-- one of two ways -/
def bit (b : Bool) (A B : Prop) : Prop := match b with
  | true => A
  | false => B
/-- a truth as a datum -/
def blc (d : D) (k : Bool → Prop) : Prop := match d with
  | .bl b => k b
  | _ => False
theorem bit_t (A B : Prop) : bit true A B = A := rfl
theorem bit_f (A B : Prop) : bit false A B = B := rfl
theorem bit_not (b : Bool) (A B : Prop) : bit (!b) A B = bit b B A := by cases b <;> rfl
theorem bit_dec (p : Prop) [Decidable p] (A B : Prop) : bit (decide p) A B = ((p → A) ∧ (¬ p → B)) := by
  by_cases h : p <;> simp [h, bit]
theorem blc_bl (b : Bool) (k : Bool → Prop) : blc (.bl b) k = k b := rfl
/-! ### what is new is locked -/
def tLk (t : TE) : TE := fun σ H Q => t σ H fun v H1 => ∃ p u, v = .ref p ∧ H1 p = some u ∧ Mut (some u) ∧ ∀ od, Q v (upd H1 p (.frz od u))
theorem pe_lk {X : Cx} {e : Expr} {t : TE} (h : PE X e t) : PE X e (tLk t) := by
  refine ⟨fun pins s σ H Q I hw => ?_⟩
  refine thn (h.run pins s σ H _ I hw) fun v s1 ⟨x, H1, I1, r, p, u, e, hp, mu, q⟩ => ?_
  obtain ⟨od, I2⟩ := I1.lock hp mu
  exact ⟨x, _, I2, r, q od⟩
/-! ### names, constants -/
abbrev dVar (i : Nat) : DTE := fun ρ Q _ => match ρ[i]? with
  | some (.d x) => Q x
  | _ => False
theorem de_var (i : Nat) {x : Str} (hN : ∀ j, (Xs j).N[i]? = some x := by intro _; rfl) (hv : ∀ j, Vis (Xs j).env.scope x := by intro _; first | exact Or.inl rfl | exact Or.inr (Or.inl rfl) | exact Or.inr (Or.inr rfl))
    (hd : (x == ("__debug__" : Str)) = false := by decide) (hcd : (x == ("__classdict__" : Str)) = false := by decide) : DE Xs mg Wx (.Name x pos) (dVar i) := by
  refine ⟨tVar i, fun j => pe_var (hN j) (hv j) hd hcd, fun B ρ Q E h W σ H Q' hh e _ q => ?_⟩
  unfold dVar at h
  split at h
  · rename_i z hz
    obtain ⟨v, hv, r⟩ := e.get hz
    exact ⟨v, hv, q W H v z (Step.refl hh) r h⟩
  · exact h.elim
abbrev dC (x : D) : DTE := fun _ Q _ => Q x
theorem Cp.const {v : V} {d : D} (r : ∀ W, Rep mg W v d) : Cp mg Wx (tC v) (dC d) := fun B ρ Q E h W σ H Q' hh _ _ q => q W H v d (Step.refl hh) (r W) h
theorem de_int {i : Int} {j : Nat} : DE Xs mg Wx (.Constant (.int i) j pos) (dC (.int i)) := ⟨_, fun _ => pe_int, Cp.const fun _ => .int i⟩
theorem de_bl {b : Bool} {j : Nat} : DE Xs mg Wx (.Constant (.bool b) j pos) (dC (.bl b)) := ⟨_, fun _ => pe_bl, Cp.const fun _ => .bl b⟩
theorem de_non {j : Nat} : DE Xs mg Wx (.Constant .none j pos) (dC .non) := ⟨_, fun _ => pe_non, Cp.const fun _ => .non⟩
theorem de_str {x : Str} {j : Nat} : DE Xs mg Wx (.Constant (.str x) j pos) (dC (.str x)) := ⟨_, fun _ => pe_str, Cp.const fun _ => .str x⟩
theorem de_gint {x : Str} {i : Int} (hm' : ∃ tk, mg.mg x = some (.int i tk)) (hM : ∀ j, (Xs j).mg = mg.mg := by intro _; rfl) (hg : ∀ j, Gl (Xs j) x := by intro _; rfl) (hd : (x == ("__debug__" : Str)) = false := by decide) : DE Xs mg Wx (.Name x pos) (dC (.int i)) := by
  obtain ⟨tk, hm⟩ := hm'
  exact ⟨_, fun j => pe_glob (v := .int i) (hg j) (by rw [hM j]; exact hm) ⟨tk, rfl⟩ hd, Cp.const fun _ => .int i⟩
theorem de_gstr {x y : Str} (hm' : ∃ tk, mg.mg x = some (.str y tk)) (hM : ∀ j, (Xs j).mg = mg.mg := by intro _; rfl) (hg : ∀ j, Gl (Xs j) x := by intro _; rfl) (hd : (x == ("__debug__" : Str)) = false := by decide) : DE Xs mg Wx (.Name x pos) (dC (.str y)) := by
  obtain ⟨tk, hm⟩ := hm'
  exact ⟨_, fun j => pe_glob (v := .str y) (hg j) (by rw [hM j]; exact hm) ⟨tk, rfl⟩ hd, Cp.const fun _ => .str y⟩
/-! ### operators by data -/
abbrev RD2 := D → D → (D → Prop) → Prop
def OpD (mg : Gm) (r : R2) (rd : RD2) : Prop := ∀ W H x y dx dy Q Q', Holds W H → Rep mg W x dx → Rep mg W y dy → rd dx dy Q → ToV mg W H Q Q' → r x y H Q'
/-- an operator that reads data alone -/
def OpOk (Xs : ι → Cx) (mg : Gm) (f : Value → Value → Sem Value) (rd : RD2) : Prop := ∃ r, (∀ i, OpR (Xs i) f r) ∧ OpD mg r rd
abbrev dOp (rd : RD2) (fa fb : DTE) : DTE := fun ρ Q E => fa ρ (fun x => fb ρ (fun y => rd x y Q) E) E
theorem Cp.op {r : R2} {rd : RD2} {ta tb : TE} {fa fb : DTE} (o : OpD mg r rd) (ha : Cp mg Wx ta fa) (hb : Cp mg Wx tb fb) : Cp mg Wx (tOp r ta tb) (dOp rd fa fb) := by
  intro B ρ Q E h W σ H Q' hh e x q
  refine ha B ρ _ E h W σ H _ hh e x fun W1 H1 v1 d1 s1 r1 h1 => ?_
  refine hb B ρ _ E h1 W1 σ H1 _ s1.holds (e.step s1) (x.step s1) fun W2 H2 v2 d2 s2 r2 h2 => ?_
  exact o W2 H2 v1 v2 d1 d2 _ _ s2.holds (r1.mono s2.le) r2 h2 fun W3 H3 v3 d3 s3 r3 h3 => q W3 H3 v3 d3 ((s1.trans s2).trans s3) r3 h3
theorem de_op {op : Operator} {rd : RD2} {a b : Expr} {fa fb : DTE} (o : OpOk Xs mg (binaryOp op) rd) (ha : DE Xs mg Wx a fa) (hb : DE Xs mg Wx b fb) : DE Xs mg Wx (.BinOp a op b pos) (dOp rd fa fb) := by
  obtain ⟨r, h1, h2⟩ := o
  obtain ⟨ta, a1, a2⟩ := ha
  obtain ⟨tb, b1, b2⟩ := hb
  exact ⟨_, fun i => pe_op (h1 i) (a1 i) (b1 i), Cp.op h2 a2 b2⟩
theorem de_cmp {op : CmpOp} {rd : RD2} {a b : Expr} {fa fb : DTE} (o : OpOk Xs mg (compareOp op) rd) (ha : DE Xs mg Wx a fa) (hb : DE Xs mg Wx b fb) (hm : behindInMarks op b = false := by first | rfl | exact nomark _) : DE Xs mg Wx (.Compare a [op] [b] pos) (dOp rd fa fb) := by
  obtain ⟨r, h1, h2⟩ := o
  obtain ⟨ta, a1, a2⟩ := ha
  obtain ⟨tb, b1, b2⟩ := hb
  exact ⟨_, fun i => pe_cmpR (h1 i) (a1 i) (b1 i) hm, Cp.op h2 a2 b2⟩
abbrev dChain (r r' : RD2) (fa fb fc : DTE) : DTE := fun ρ Q E => fa ρ (fun x => fb ρ (fun y => r x y fun z => blc z fun b => bit b (fc ρ (fun w => r' y w Q) E) (Q (.bl false))) E) E
theorem Cp.chain {r r' : R2} {rd rd' : RD2} {ta tb tc : TE} {fa fb fc : DTE} (h2 : OpD mg r rd) (h2' : OpD mg r' rd') (a2 : Cp mg Wx ta fa) (b2 : Cp mg Wx tb fb) (c2 : Cp mg Wx tc fc) : Cp mg Wx (tChain r r' ta tb tc) (dChain rd rd' fa fb fc) := by
  intro B ρ Q E h W σ H Q' hh e x q
  refine a2 B ρ _ E h W σ H _ hh e x fun W1 H1 v1 d1 s1 r1 h1 => ?_
  refine b2 B ρ _ E h1 W1 σ H1 _ s1.holds (e.step s1) (x.step s1) fun W2 H2 v2 d2 s2 r2 h2x => ?_
  refine h2 W2 H2 v1 v2 d1 d2 _ _ s2.holds (r1.mono s2.le) r2 h2x fun W3 H3 v3 d3 s3 r3 h3 => ?_
  have s13 := (s1.trans s2).trans s3
  cases r3 with
  | bl k =>
    refine ⟨k, rfl, ?_⟩
    cases k with
    | true =>
      rw [if_pos rfl]
      refine c2 B ρ _ E h3 W3 σ H3 _ s3.holds (e.step s13) (x.step s13) fun W4 H4 v4 d4 s4 r4 h4 => ?_
      exact h2' W4 H4 v2 v4 d2 d4 _ _ s4.holds ((r2.mono s3.le).mono s4.le) r4 h4 fun W5 H5 v5 d5 s5 r5 h5 => q W5 H5 v5 d5 ((s13.trans s4).trans s5) r5 h5
    | false =>
      rw [if_neg Bool.false_ne_true]
      exact q W3 H3 _ _ s13 (.bl false) h3
  | _ => exact h3.elim
theorem de_chain {op op' : CmpOp} {rd rd' : RD2} {a b c : Expr} {fa fb fc : DTE} (o : OpOk Xs mg (compareOp op) rd) (o' : OpOk Xs mg (compareOp op') rd') (ha : DE Xs mg Wx a fa) (hb : DE Xs mg Wx b fb) (hc : DE Xs mg Wx c fc) (hm : lastMarks [op, op'] [b, c] = false := by with_unfolding_all rfl) : DE Xs mg Wx (.Compare a [op, op'] [b, c] pos) (dChain rd rd' fa fb fc) := by
  obtain ⟨r, h1, h2⟩ := o
  obtain ⟨r', h1', h2'⟩ := o'
  obtain ⟨ta, a1, a2⟩ := ha
  obtain ⟨tb, b1, b2⟩ := hb
  obtain ⟨tc, c1, c2⟩ := hc
  exact ⟨_, fun i => pe_chain (h1 i) (h1' i) (a1 i) (b1 i) (c1 i) hm, Cp.chain h2 h2' a2 b2 c2⟩
/-! ### tests -/
abbrev dB (f : DTE) : DTT := fun ρ Q E => f ρ (fun x => blc x Q) E
theorem Cp.b {t : TE} {f : DTE} (h : Cp mg Wx t f) : CpT mg Wx (tB t) (dB f) := by
  intro B ρ Q E hf W σ H Q' hh e x q
  refine h B ρ _ E hf W σ H _ hh e x fun W1 H1 v1 d1 s1 r1 h1 => ?_
  cases r1 with
  | bl b => exact ⟨b, rfl, q W1 H1 b s1 h1⟩
  | _ => exact h1.elim
theorem dt_val {e : Expr} {f : DTE} (h : DE Xs mg Wx e f) (he : ∀ i whole, isTrue e (Xs i).env whole = (do let v ← whole; standAt e.pos; holding [v] (truthy v)) := by intro _ _; rfl) : DT Xs mg Wx e (dB f) := by
  obtain ⟨t, h1, h2⟩ := h
  exact ⟨_, fun i => pt_val (h1 i) (he i), h2.b⟩
theorem dt_cmp {op : CmpOp} {rd : RD2} {a b : Expr} {fa fb : DTE} (o : OpOk Xs mg (compareOp op) rd) (ha : DE Xs mg Wx a fa) (hb : DE Xs mg Wx b fb) (hm : behindInMarks op b = false := by first | rfl | exact nomark _) : DT Xs mg Wx (.Compare a [op] [b] pos) (dB (dOp rd fa fb)) := by
  obtain ⟨r, h1, h2⟩ := o
  obtain ⟨ta, a1, a2⟩ := ha
  obtain ⟨tb, b1, b2⟩ := hb
  exact ⟨_, fun i => pt_cmpR (h1 i) (a1 i) (b1 i) hm, Cp.b (Cp.op h2 a2 b2)⟩
abbrev dAnd (f g : DTT) : DTT := fun ρ Q E => f ρ (fun c => bit c (g ρ Q E) (Q false)) E
abbrev dOr (f g : DTT) : DTT := fun ρ Q E => f ρ (fun c => bit c (Q true) (g ρ Q E)) E
abbrev dNot (f : DTT) : DTT := fun ρ Q E => f ρ (fun c => Q (!c)) E
theorem dw_and1 {a : Expr} {f : DTT} (h : DT Xs mg Wx a f) : DW Xs mg Wx (.BoolOp .And [a] pos) f := by
  obtain ⟨t, h1, h2⟩ := h
  exact ⟨t, fun i => pw_and1 (h1 i), h2⟩
theorem dw_or1 {a : Expr} {f : DTT} (h : DT Xs mg Wx a f) : DW Xs mg Wx (.BoolOp .Or [a] pos) f := by
  obtain ⟨t, h1, h2⟩ := h
  exact ⟨t, fun i => pw_or1 (h1 i), h2⟩
theorem dw_and {a b : Expr} {rest : List Expr} {f g : DTT} (h : DT Xs mg Wx a f) (h' : DW Xs mg Wx (.BoolOp .And (b :: rest) pos) g) : DW Xs mg Wx (.BoolOp .And (a :: b :: rest) pos) (dAnd f g) := by
  obtain ⟨t, h1, h2⟩ := h
  obtain ⟨u, g1, g2⟩ := h'
  refine ⟨_, fun i => pw_and (h1 i) (g1 i), ?_⟩
  intro B ρ Q E hf W σ H Q' hh e x q
  refine h2 B ρ _ E hf W σ H _ hh e x fun W1 H1 c s1 k1 => ?_
  cases c with
  | true =>
    rw [if_pos rfl]
    exact g2 B ρ Q E k1 W1 σ H1 _ s1.holds (e.step s1) (x.step s1) fun W2 H2 b s2 k2 => q W2 H2 b (s1.trans s2) k2
  | false =>
    rw [if_neg Bool.false_ne_true]
    exact q W1 H1 false s1 k1
theorem dw_or {a b : Expr} {rest : List Expr} {f g : DTT} (h : DT Xs mg Wx a f) (h' : DW Xs mg Wx (.BoolOp .Or (b :: rest) pos) g) : DW Xs mg Wx (.BoolOp .Or (a :: b :: rest) pos) (dOr f g) := by
  obtain ⟨t, h1, h2⟩ := h
  obtain ⟨u, g1, g2⟩ := h'
  refine ⟨_, fun i => pw_or (h1 i) (g1 i), ?_⟩
  intro B ρ Q E hf W σ H Q' hh e x q
  refine h2 B ρ _ E hf W σ H _ hh e x fun W1 H1 c s1 k1 => ?_
  cases c with
  | true =>
    rw [if_pos rfl]
    exact q W1 H1 true s1 k1
  | false =>
    rw [if_neg Bool.false_ne_true]
    exact g2 B ρ Q E k1 W1 σ H1 _ s1.holds (e.step s1) (x.step s1) fun W2 H2 b s2 k2 => q W2 H2 b (s1.trans s2) k2
theorem dt_w {e : Expr} {f : DTT} (h : DW Xs mg Wx e f) : DT Xs mg Wx e f := by
  obtain ⟨t, h1, h2⟩ := h
  exact ⟨t, fun i => (h1 i).pt, h2⟩
theorem dt_not {a : Expr} {f : DTT} (h : DT Xs mg Wx a f) : DT Xs mg Wx (.UnaryOp .Not a pos) (dNot f) := by
  obtain ⟨t, h1, h2⟩ := h
  exact ⟨_, fun i => pt_not (h1 i), fun B ρ Q E hf W σ H Q' hh e x q => h2 B ρ _ E hf W σ H _ hh e x fun W1 H1 c s1 k1 => q W1 H1 _ s1 k1⟩
/-- and, or, not as values (bools) -/
abbrev dAndV (f g : DTE) : DTE := fun ρ Q E => f ρ (fun c => blc c fun b => bit b (g ρ Q E) (Q (.bl false))) E
abbrev dOrV (f g : DTE) : DTE := fun ρ Q E => f ρ (fun c => blc c fun b => bit b (Q (.bl true)) (g ρ Q E)) E
abbrev dNotV (f : DTE) : DTE := fun ρ Q E => f ρ (fun c => blc c fun b => Q (.bl (!b))) E
theorem de_one {op : BoolOp} {a : Expr} {f : DTE} (h : DE Xs mg Wx a f) : DE Xs mg Wx (.BoolOp op [a] pos) f := by
  obtain ⟨t, h1, h2⟩ := h
  exact ⟨t, fun i => pe_one (h1 i), h2⟩
theorem de_and {a b : Expr} {rest : List Expr} {f g : DTE} (h : DE Xs mg Wx a f) (h' : DE Xs mg Wx (.BoolOp .And (b :: rest) pos) g) : DE Xs mg Wx (.BoolOp .And (a :: b :: rest) pos) (dAndV f g) := by
  obtain ⟨t, h1, h2⟩ := h
  obtain ⟨u, g1, g2⟩ := h'
  refine ⟨_, fun i => pe_and (h1 i) (g1 i), ?_⟩
  intro B ρ Q E hf W σ H Q' hh e x q
  refine h2 B ρ _ E hf W σ H _ hh e x fun W1 H1 v d s1 r1 k1 => ?_
  cases r1 with
  | bl c =>
    refine ⟨c, rfl, ?_⟩
    cases c with
    | true =>
      rw [if_pos rfl]
      exact g2 B ρ Q E k1 W1 σ H1 _ s1.holds (e.step s1) (x.step s1) fun W2 H2 v d s2 r2 k2 => q W2 H2 v d (s1.trans s2) r2 k2
    | false =>
      rw [if_neg Bool.false_ne_true]
      exact q W1 H1 _ _ s1 (.bl false) k1
  | _ => exact k1.elim
abbrev dIf (c : DTT) (f g : DTE) : DTE := fun ρ Q E => c ρ (fun b => bit b (f ρ Q E) (g ρ Q E)) E
theorem de_if {c a b : Expr} {fc : DTT} {fa fb : DTE} (hc : DT Xs mg Wx c fc) (ha : DE Xs mg Wx a fa) (hb : DE Xs mg Wx b fb) : DE Xs mg Wx (.IfExp c a b pos) (dIf fc fa fb) := by
  obtain ⟨tc, c1, c2⟩ := hc
  obtain ⟨ta, a1, a2⟩ := ha
  obtain ⟨tb, b1, b2⟩ := hb
  refine ⟨_, fun i => pe_ifExp (c1 i) (a1 i) (b1 i), ?_⟩
  intro B ρ Q E hf W σ H Q' hh e x q
  refine c2 B ρ _ E hf W σ H _ hh e x fun W1 H1 c s1 k1 => ?_
  cases c with
  | true =>
    rw [if_pos rfl]
    exact a2 B ρ Q E k1 W1 σ H1 _ s1.holds (e.step s1) (x.step s1) fun W2 H2 v d s2 r2 k2 => q W2 H2 v d (s1.trans s2) r2 k2
  | false =>
    rw [if_neg Bool.false_ne_true]
    exact b2 B ρ Q E k1 W1 σ H1 _ s1.holds (e.step s1) (x.step s1) fun W2 H2 v d s2 r2 k2 => q W2 H2 v d (s1.trans s2) r2 k2
/-! ### arguments, displays -/
abbrev dNil : DTA := fun _ Q _ => Q []
abbrev dCons (f : DTE) (g : DTA) : DTA := fun ρ Q E => f ρ (fun x => g ρ (fun xs => Q (x :: xs)) E) E
theorem da_nil : DA Xs mg Wx [] dNil := ⟨_, fun _ => pa_nil, fun B ρ Q E h W σ H Q' hh _ _ q => q W H [] [] (Step.refl hh) .nil h⟩
theorem da_cons {e : Expr} {es : List Expr} {f : DTE} {g : DTA} (h : DE Xs mg Wx e f) (h' : DA Xs mg Wx es g) (hs : ∀ i, starEach (e :: es) (Xs i).env = (false, eval e (Xs i).env) :: starEach es (Xs i).env := by intro _; rfl) : DA Xs mg Wx (e :: es) (dCons f g) := by
  obtain ⟨t, h1, h2⟩ := h
  obtain ⟨u, g1, g2⟩ := h'
  refine ⟨_, fun i => pa_cons (h1 i) (g1 i) (hs i), ?_⟩
  intro B ρ Q E hf W σ H Q' hh e x q
  refine h2 B ρ _ E hf W σ H _ hh e x fun W1 H1 v d s1 r1 k1 => ?_
  exact g2 B ρ _ E k1 W1 σ H1 _ s1.holds (e.step s1) (x.step s1) fun W2 H2 vs ds s2 r2 k2 => q W2 H2 _ _ (s1.trans s2) (.cons (r1.mono s2.le) r2) k2
abbrev dTup (g : DTA) : DTE := fun ρ Q E => g ρ (fun xs => xs.length ≤ sizeLine ∧ Q (.tup xs)) E
abbrev dLst (g : DTA) : DTE := fun ρ Q E => g ρ (fun xs => xs.length ≤ sizeLine ∧ Q (.lst xs)) E
theorem Wd.le_put {W : Wd} {p : Addr} {o : HO} (n : W.H p = none) : Le W (W.put p o) := Wd.put_le n
theorem Rep.newTup {W : Wd} {vs : List V} {ds : List D} {p : Addr} (r : Reps mg W vs ds) (n : W.H p = none) : Rep mg (W.put p (.tup vs)) (.ref p) (.tup ds) :=
  .tup (show upd W.H p _ p = _ from upd_same) (r.mono (Wd.le_put n))
theorem Rep.newLst {W : Wd} {vs : List V} {ds : List D} {p : Addr} (r : Reps mg W vs ds) (n : W.H p = none) : Rep mg (W.put p (.lst vs)) (.ref p) (.lst ds) :=
  .lst (show upd W.H p _ p = _ from upd_same) (r.mono (Wd.le_put n))
/-- what is wanted of a new tuple, of a new list -/
theorem to_tup {W : Wd} {H : Hp} {Q : D → Prop} {Q' : VK} {vs : List V} {ds : List D} (q : ToV mg W H Q Q') (hh : Holds W H) (r : Reps mg W vs ds) (h : Q (.tup ds)) : ∀ p, H p = none → Q' (.ref p) (upd H p (.tup vs)) :=
  fun p n => q _ _ _ _ (Step.alloc hh n) (Rep.newTup r (hh.same.free n)) h
theorem to_lst {W : Wd} {H : Hp} {Q : D → Prop} {Q' : VK} {vs : List V} {ds : List D} (q : ToV mg W H Q Q') (hh : Holds W H) (r : Reps mg W vs ds) (h : Q (.lst ds)) : ∀ p, H p = none → Q' (.ref p) (upd H p (.lst vs)) :=
  fun p n => q _ _ _ _ (Step.alloc hh n) (Rep.newLst r (hh.same.free n)) h
theorem ToV.step {W W1 : Wd} {H H1 : Hp} {Q : D → Prop} {Q' : VK} (q : ToV mg W H Q Q') (s : Step W H W1 H1) : ToV mg W1 H1 Q Q' := fun W' H' v d s' r h => q W' H' v d (s.trans s') r h
theorem de_tup {es : List Expr} {g : DTA} {k : Nat} (h : DA Xs mg Wx es g) : DE Xs mg Wx (.Tuple es k pos) (dTup g) := by
  obtain ⟨t, h1, h2⟩ := h
  refine ⟨_, fun i => pe_tup (h1 i), fun B ρ Q E hf W σ H Q' hh e x q => h2 B ρ _ E hf W σ H _ hh e x fun W1 H1 vs ds s1 r1 k1 => ?_⟩
  exact ⟨by rw [r1.length]; exact k1.1, to_tup (ToV.step q s1) s1.holds r1 k1.2⟩
theorem de_lst {es : List Expr} {g : DTA} (h : DA Xs mg Wx es g) : DE Xs mg Wx (.List es pos) (dLst g) := by
  obtain ⟨t, h1, h2⟩ := h
  refine ⟨_, fun i => pe_lst (h1 i), fun B ρ Q E hf W σ H Q' hh e x q => h2 B ρ _ E hf W σ H _ hh e x fun W1 H1 vs ds s1 r1 k1 => ?_⟩
  exact ⟨by rw [r1.length]; exact k1.1, to_lst (ToV.step q s1) s1.holds r1 k1.2⟩
/-! ### built-in functions and methods by data -/
abbrev RDL := List D → (D → Prop) → Prop
def CallD (mg : Gm) (r : List V → Hp → VK → Prop) (rd : RDL) : Prop := ∀ W H vs ds Q Q', Holds W H → Reps mg W vs ds → rd ds Q → ToV mg W H Q Q' → r vs H Q'
def CallOk (Xs : ι → Cx) (mg : Gm) (f : Value) (rd : RDL) : Prop := ∃ r, (∀ i, CallR (Xs i) f r) ∧ CallD mg r rd
abbrev dCB (rd : RDL) (g : DTA) : DTE := fun ρ Q E => g ρ (fun ds => rd ds Q) E
theorem Cp.cb {r : List V → Hp → VK → Prop} {rd : RDL} {t : TA} {g : DTA} (c : CallD mg r rd) (h : CpA mg Wx t g) : Cp mg Wx (tCB r t) (dCB rd g) := by
  intro B ρ Q E hf W σ H Q' hh e x q
  refine h B ρ _ E hf W σ H _ hh e x fun W1 H1 vs ds s1 r1 k1 => ?_
  exact c W1 H1 vs ds Q Q' s1.holds r1 k1 (ToV.step q s1)
theorem de_callB {id : String} {rd : RDL} {x : Str} {p : Pos} {e : Expr} {es : List Expr} {g : DTA} (c : CallOk Xs mg (.builtin id) rd) (hm : mg.mg x = none) (hv : bootBuiltins x = some (.builtin id)) (ha : DA Xs mg Wx (e :: es) g)
    (hM : ∀ j, (Xs j).mg = mg.mg := by intro _; rfl) (hg : ∀ j, Gl (Xs j) x := by intro _; rfl) (hn : x ≠ "__name__" := by decide) (hd : (x == ("__debug__" : Str)) = false := by decide)
    (he : ∀ i, starEach (e :: es) (Xs i).env = (false, eval e (Xs i).env) :: starEach es (Xs i).env := by intro _; rfl) (hpl : ∀ i, (backTo pos (starEach es (Xs i).env)).any (·.1) = false := by intro _; rfl) : DE Xs mg Wx (.Call (.Name x p) (e :: es) [] pos) (dCB rd g) := by
  obtain ⟨r, c1, c2⟩ := c
  obtain ⟨t, h1, h2⟩ := ha
  exact ⟨_, fun i => pe_callB (c1 i) (hg i) (by rw [hM i]; exact hm) hv (h1 i) hn hd (he i) (hpl i), Cp.cb c2 h2⟩
theorem de_callTy {T : String} {rd : RDL} {x : Str} {p : Pos} {e : Expr} {es : List Expr} {g : DTA} (c : CallOk Xs mg (.type T) rd) (hm : mg.mg x = none) (hv : bootBuiltins x = some (.type T)) (ha : DA Xs mg Wx (e :: es) g)
    (hM : ∀ j, (Xs j).mg = mg.mg := by intro _; rfl) (hg : ∀ j, Gl (Xs j) x := by intro _; rfl) (hn : x ≠ "__name__" := by decide) (hd : (x == ("__debug__" : Str)) = false := by decide)
    (he : ∀ i, starEach (e :: es) (Xs i).env = (false, eval e (Xs i).env) :: starEach es (Xs i).env := by intro _; rfl) (hpl : ∀ i, (backTo pos (starEach es (Xs i).env)).any (·.1) = false := by intro _; rfl) : DE Xs mg Wx (.Call (.Name x p) (e :: es) [] pos) (dCB rd g) := by
  obtain ⟨r, c1, c2⟩ := c
  obtain ⟨t, h1, h2⟩ := ha
  exact ⟨_, fun i => pe_callTy (c1 i) (hg i) (by rw [hM i]; exact hm) hv (h1 i) hn hd (he i) (hpl i), Cp.cb c2 h2⟩
/-! ### a def's promise; room with no repr under way -/
structure RmG (k : Nat) (A : Around) : Prop where
  r : Room k A
  g : A.guards = some []
theorem RmG.mono {j k : Nat} {A : Around} (x : RmG k A) (h : j ≤ k) : RmG j A := ⟨x.r.mono h, x.g⟩
/-- as FnOk, where no repr is under way -/
structure FnG (P : Program) (w : World) (K : PySem.W.Frag) (mg : Str → Option Value) (base : Heap) (k : Nat) (f : Addr) (fd : FuncData) (ps : List Str) (sp : Sp) : Prop where
  ln : ∀ vs H Q E, sp vs H Q E → vs.length = ps.length
  go : ∀ (A : Around) (out : List PySem.Env) (z : Shared) (H : Hp) (ag : Args) (us : List Value) (vs : List V) (Q : VK) (E : XK), RmG k A → Env0 P w K mg base A out z H → BindsTo z fd ag (ps.zip us) → Vals vs us → sp vs H Q E →
    codeAny (model P w) A (.call (.ref f) ag) (CR (L2.CX P w) out P w H z Q E) z
theorem FnG.of {P : Program} {w : World} {K : PySem.W.Frag} {mg : Str → Option Value} {base : Heap} {k : Nat} {f : Addr} {fd : FuncData} {ps : List Str} {sp : Sp} (F : FnOk P w K mg base (L2.CX P w) k f fd ps sp) : FnG P w K mg base k f fd ps sp :=
  ⟨F.len, fun A out z H ag us vs Q E m => F.run A out z H ag us vs Q E m.r⟩
theorem FnG.up {P : Program} {w : World} {K : PySem.W.Frag} {mg : Str → Option Value} {base : Heap} {j k : Nat} {f : Addr} {fd : FuncData} {ps : List Str} {sp : Sp} (F : FnG P w K mg base j f fd ps sp) (h : j ≤ k) : FnG P w K mg base k f fd ps sp :=
  ⟨F.ln, fun A out z H ag us vs Q E m => F.go A out z H ag us vs Q E (m.mono h)⟩
/-- the callee's run, for a caller -/
theorem goG {X : Cx} {k : Nat} {f : Addr} {fd : FuncData} {ps : List Str} {sp : Sp} {Ew : St → XK} {pins : List (Addr × Obj)} {σ : St} {H : Hp} {z : Shared} {Q : VK} {us : List Value} {vs : List V} (F : FnG X.prog X.w X.K X.mg X.base k f fd ps sp) (m : RmG k X.A) (hb : Binds X.K fd ps []) (hx : PassesAt (L2.CX X.prog X.w) X σ (Ew σ))
    (I : Inv X pins σ H z) (rv : Vals vs us) (h : sp vs H Q (Ew σ)) : wpAny (model X.prog X.w) X.A (call (.ref f) us) (EP X pins σ Q) X.xe z := by
  have hl : (us ++ []).length = ps.length := by
    rw [List.append_nil, ← rv.length]
    exact F.ln _ _ _ _ h
  have bd := hb z us I.kIn hl
  rw [List.append_nil] at bd
  have cd := F.go X.A X.stack z H ⟨us, []⟩ us vs Q (Ew σ) m I.env0 bd rv h
  refine wpAny_call (codeAny_mono cd ?_)
  intro res z' hq
  match res, hq with
  | .error e, hq => exact hx pins H z e z' I hq
  | .ok (.ret u), hq => exact I.after hq
  | .ok .next, hq => exact hq.elim
  | .ok .brk, hq => exact hq.elim
  | .ok .cont, hq => exact hq.elim
theorem pe_callG {X : Cx} {k : Nat} {f : Addr} {fd : FuncData} {ps : List Str} {sp : Sp} {Ew : St → XK} {x : Str} {p pos : Pos} {e : Expr} {es : List Expr} {t : TA} (F : FnG X.prog X.w X.K X.mg X.base k f fd ps sp) (m : RmG k X.A) (gx : Gl X x) (mx : X.mg x = some (.ref f)) (kf : PySem.W.keepIn X.K (.ref f) = true) (hb : Binds X.K fd ps [])
    (hx : ∀ σ, PassesAt (L2.CX X.prog X.w) X σ (Ew σ)) (ha : PA X (e :: es) t) (nd : (x == ("__debug__" : Str)) = false) (s1 : starEach (e :: es) X.env = (false, eval e X.env) :: starEach es X.env) (s2 : (backTo pos (starEach es X.env)).any (·.1) = false) : PE X (.Call (.Name x p) (e :: es) [] pos) (tCallS sp Ew t) := by
  constructor
  intro pins z σ H Q I hw
  apply wpAny_Call_Name_kw
  apply ld_glob I gx mx _ nd
  apply PySem.W.callWith_K (h₀ := X.base) I.ok.mod.kin kf _ s1 s2
  refine thn (ha.run pos pins z σ H _ I hw) ?_
  rintro us z1 ⟨vs, H1, I1, rv, q⟩
  exact ⟨I1.kIn, goG F m hb (hx σ) I1 rv q⟩
def spD (mg : Gm) (n : Nat) (f : List D → M D) : Sp := fun vs H Q E => ∃ W ds Qd Ed, Holds W H ∧ Reps mg W vs ds ∧ ds.length = n ∧ f ds Qd Ed ∧ ToV mg W H Qd Q ∧ ∀ W' H' cls dd x, Step W H W' H' → RepX mg W' H' cls dd x → Ed x → E cls dd H'
/-- what a callee lets out is taken -/
def Pas (X : Cx) (W : WX) : Prop := ∀ σ, PassesAt (L2.CX X.prog X.w) X σ (WE W σ)
theorem pas {X : Cx} {W : WX} (tk : Takes X W) : Pas X W := fun σ => passAt tk σ
structure DefOk (P : Program) (w : World) (mg : Gm) (base : Heap) (k : Nat) (x : Str) (n : Nat) (f : List D → M D) : Prop where
  ex : ∃ fa fd ps, mg.mg x = some (.ref fa) ∧ PySem.W.keepIn mg.K (.ref fa) = true ∧ Binds mg.K fd ps [] ∧ ps.length = n ∧ FnG P w mg.K mg.mg base k fa fd ps (spD mg n f)
abbrev dCall (f : List D → M D) (n : Nat) (g : DTA) : DTE := fun ρ Q E => g ρ (fun ds => ds.length = n ∧ f ds Q E) E
theorem Cp.call {n : Nat} {f : List D → M D} {t : TA} {g : DTA} (h : CpA mg Wx t g) : Cp mg Wx (tCallS (spD mg n f) (WE Wx) t) (dCall f n g) := by
  intro B ρ Q E hf W σ H Q' hh e x q
  refine h B ρ _ E hf W σ H _ hh e x fun W1 H1 vs ds s1 r1 k1 => ?_
  exact ⟨W1, ds, Q, E, s1.holds, r1, k1.1, k1.2, ToV.step q s1, fun W' H' cls dd y s' r h => x W' H' cls dd y (s1.trans s') r h⟩
theorem de_call {P : Program} {w : World} {base : Heap} {k n : Nat} {x : Str} {f : List D → M D} {p : Pos} {e : Expr} {es : List Expr} {g : DTA} (F : DefOk P w mg base k x n f) (hr : ∀ i, RmG k (Xs i).A) (tk : ∀ i, Pas (Xs i) Wx) (ha : DA Xs mg Wx (e :: es) g)
    (hP : ∀ j, (Xs j).prog = P ∧ (Xs j).w = w ∧ (Xs j).K = mg.K ∧ (Xs j).mg = mg.mg ∧ (Xs j).base = base := by intro _; exact ⟨rfl, rfl, rfl, rfl, rfl⟩) (hg : ∀ j, Gl (Xs j) x := by intro _; rfl) (hd : (x == ("__debug__" : Str)) = false := by decide)
    (he : ∀ i, starEach (e :: es) (Xs i).env = (false, eval e (Xs i).env) :: starEach es (Xs i).env := by intro _; rfl) (hpl : ∀ i, (backTo pos (starEach es (Xs i).env)).any (·.1) = false := by intro _; rfl) : DE Xs mg Wx (.Call (.Name x p) (e :: es) [] pos) (dCall f n g) := by
  obtain ⟨fa, fd, ps, hm, hk, hb, hl, G⟩ := F.ex
  obtain ⟨t, h1, h2⟩ := ha
  refine ⟨_, fun i => ?_, Cp.call (f := f) (n := n) h2⟩
  obtain ⟨p1, p2, p3, p4, p5⟩ := hP i
  subst p1 p2 p5
  exact pe_callG (by rw [p3, p4]; exact G) (hr i) (hg i) (by rw [p4]; exact hm) (by rw [p3]; exact hk) (by rw [p3]; exact hb) (fun σ => tk i σ) (h1 i) hd (he i) (hpl i)
end
end FP
/-! FP3: statements, targets, what is walked, loops, comprehensions, a def by its body. -/
namespace FP
open PySem L2
variable [Tabl]
section
variable {ι : Type} {Xs : ι → Cx} {mg : Gm} {Wx : WX} {pos : Pos}
/-! ### blocks, small statements -/
abbrev dNext : DTS := fun N ρ => N.nx ρ
abbrev dSeq (f g : DTS) : DTS := fun N ρ => f { N with nx := g N } ρ
theorem dss_nil : DSs Xs mg Wx [] dNext := ⟨_, fun _ => pss_nil, fun W0 B N ρ h W σ H Ds s e n => n.nx W H σ ρ s e h⟩
theorem EndsR.nxt {W0 : Wd} {B : Hp} {N : Nd} {Ds : Ends} {nx : Env → Prop} {nx' : St → Hp → Prop} (n : EndsR mg Wx W0 B N Ds) (h : ∀ W' H' σ' ρ', Step W0 B W' H' → EnvR mg B W' H' σ' ρ' → nx ρ' → nx' σ' H') : EndsR mg Wx W0 B { N with nx := nx } { Ds with nx := nx' } := ⟨h, n.rt, n.bk, n.ct, n.rs⟩
theorem EndsR.rebase {W0 W : Wd} {B H : Hp} {N : Nd} {Ds : Ends} (n : EndsR mg Wx W0 B N Ds) (s : Step W0 B W H) : EndsR mg Wx W B N Ds :=
  ⟨fun W' H' σ' ρ' s' => n.nx W' H' σ' ρ' (s.join s'), fun W' H' σ' ρ' v d s' => n.rt W' H' σ' ρ' v d (s.join s'), fun W' H' σ' ρ' s' => n.bk W' H' σ' ρ' (s.join s'), fun W' H' σ' ρ' s' => n.ct W' H' σ' ρ' (s.join s'), fun W' H' σ' ρ' c d x s' => n.rs W' H' σ' ρ' c d x (s.join s')⟩
theorem dss_cons {st : Stmt} {rest : List Stmt} {f g : DTS} (h : DS Xs mg Wx st f) (h' : DSs Xs mg Wx rest g) : DSs Xs mg Wx (st :: rest) (dSeq f g) := by
  obtain ⟨t, h1, h2⟩ := h
  obtain ⟨u, g1, g2⟩ := h'
  refine ⟨_, fun i => pss_cons (h1 i) (g1 i), fun W0 B N ρ hf W σ H Ds s e n => ?_⟩
  exact h2 W0 B _ ρ hf W σ H _ s e (n.nxt fun W' H' σ' ρ' s' e' k => g2 W0 B N ρ' k W' σ' H' Ds s' e' n)
theorem dss_one {st : Stmt} {f : DTS} (h : DS Xs mg Wx st f) : DSs Xs mg Wx [st] f := by
  obtain ⟨t, h1, h2⟩ := h
  exact ⟨t, fun i => pss_one (h1 i), h2⟩
abbrev dRet (f : DTE) : DTS := fun N ρ => f ρ (fun d => N.rt d ρ) (fun x => N.rs x ρ)
theorem ds_ret {e : Expr} {f : DTE} (h : DE Xs mg Wx e f) : DS Xs mg Wx (.Return (some e) pos) (dRet f) := by
  obtain ⟨t, h1, h2⟩ := h
  refine ⟨_, fun i => ps_ret (h1 i), fun W0 B N ρ hf W σ H Ds s e n => ?_⟩
  exact h2 B ρ _ _ hf W σ H _ s.holds e (n.ex s e) fun W1 H1 v d s1 r1 k1 => n.rt W1 H1 σ ρ v d (s.trans s1) (e.step s1) r1 k1
abbrev dRetN : DTS := fun N ρ => N.rt .non ρ
abbrev dIfS (c : DTT) (f g : DTS) : DTS := fun N ρ => c ρ (fun b => bit b (f N ρ) (g N ρ)) (fun x => N.rs x ρ)
theorem ds_if {c : Expr} {a b : List Stmt} {fc : DTT} {f g : DTS} (hc : DT Xs mg Wx c fc) (ha : DSs Xs mg Wx a f) (hb : DSs Xs mg Wx b g) : DS Xs mg Wx (.If c a b pos) (dIfS fc f g) := by
  obtain ⟨tc, c1, c2⟩ := hc
  obtain ⟨ta, a1, a2⟩ := ha
  obtain ⟨tb, b1, b2⟩ := hb
  refine ⟨_, fun i => ps_if (c1 i) (a1 i) (b1 i), fun W0 B N ρ hf W σ H Ds s e n => ?_⟩
  refine c2 B ρ _ _ hf W σ H _ s.holds e (n.ex s e) fun W1 H1 k s1 k1 => ?_
  cases k with
  | true =>
    rw [if_pos rfl]
    exact a2 W0 B N ρ k1 W1 σ H1 Ds (s.trans s1) (e.step s1) n
  | false =>
    rw [if_neg Bool.false_ne_true]
    exact b2 W0 B N ρ k1 W1 σ H1 Ds (s.trans s1) (e.step s1) n
abbrev dSet (i : Nat) (f : DTE) : DTS := fun N ρ => f ρ (fun d => N.nx (ρ.set i (.d d))) (fun x => N.rs x ρ)
theorem ds_set {i : Nat} {x : Str} {e : Expr} {f : DTE} {pos' : Pos} (h : DE Xs mg Wx e f) (hN : ∀ j, (Xs j).N.Nodup) (hi : ∀ j, (Xs j).N[i]? = some x := by intro _; rfl) (hx : ∀ j, Loc (Xs j).env.scope x := by intro _; first | exact Or.inl rfl | exact Or.inr rfl)
    (hs : ∀ j, swapsWith e (some (.Name x pos')) pos.line (Xs j).env = pure false := by intro _; rfl) (hf : ∀ j, (Xs j).fn x = true ∨ (Xs j).env.scope.names.lookup x = some .local := by intro _; first | exact .inl rfl | exact .inr rfl) : DS Xs mg Wx (.Assign [.Name x pos'] e pos) (dSet i f) := by
  obtain ⟨t, h1, h2⟩ := h
  refine ⟨_, fun j => ps_set (i := i) (hN j) (hi j) (hx j) (h1 j) (hs j) (hf j), fun W0 B N ρ hf W σ H Ds s e n => ?_⟩
  exact h2 B ρ _ _ hf W σ H _ s.holds e (n.ex s e) fun W1 H1 v d s1 r1 k1 => n.nx W1 H1 _ _ (s.trans s1) ((e.step s1).set r1) k1
/-! ### targets -/
inductive Tg where
  | one (i : Nat) | many (is : List Nat) | manyL (is : List Nat)
def putAll : List Nat → List D → Env → Option Env
  | [], [], ρ => some ρ
  | i :: is, d :: ds, ρ => putAll is ds (ρ.set i (.d d))
  | _, _, _ => none
def Tg.put : Tg → D → Env → Option Env
  | .one i, d, ρ => some (ρ.set i (.d d))
  | .many is, .tup ds, ρ => putAll is ds ρ
  | .many _, _, _ => none
  | .manyL is, .lst ds, ρ => putAll is ds ρ
  | .manyL _, _, _ => none
def Tg.slots : Tg → List Nat
  | .one i => [i]
  | .many is => is
  | .manyL is => is
theorem wipe_set_in {σ : St} {i : Nat} {o : Option V} : ∀ {vs : List Nat}, i ∈ vs → wipe (σ.set i o) vs = wipe σ vs
  | [], h => by cases h
  | v :: vs, h => by
    unfold wipe
    by_cases hi : i ∈ vs
    · rw [wipe_set_in hi]
    · have e : i = v := by
        rcases List.mem_cons.mp h with q | q
        · exact q
        · exact absurd q hi
      subst e
      have out : ∀ ws : List Nat, wipe (σ.set i o) ws = wipe σ ws ∨ ∃ o', wipe (σ.set i o) ws = (wipe σ ws).set i o' := by
        intro ws
        induction ws with
        | nil => exact .inr ⟨o, rfl⟩
        | cons w ws ih =>
          unfold wipe
          rcases ih with ih | ⟨o', ih⟩
          · rw [ih]
            exact .inl rfl
          · rw [ih]
            by_cases hw : w = i
            · subst hw
              rw [List.set_set]
              exact .inl rfl
            · exact .inr ⟨o', by rw [List.set_comm _ _ (Ne.symm hw)]⟩
      rcases out vs with q | ⟨o', q⟩
      · rw [q]
      · rw [q, List.set_set]
theorem wipe_wipe (σ : St) (vs : List Nat) : L2.wipe (L2.wipe σ vs) vs = L2.wipe σ vs := by
  have key : ∀ (us ws : List Nat) (τ : St), (∀ i ∈ ws, i ∈ us) → L2.wipe (L2.wipe τ ws) us = L2.wipe τ us := by
    intro us ws
    induction ws with
    | nil => intro τ _; rfl
    | cons w ws ih =>
      intro τ h
      show L2.wipe ((L2.wipe τ ws).set w none) us = _
      rw [wipe_set_in (h w List.mem_cons_self)]
      exact ih τ fun i hi => h i (List.mem_cons_of_mem _ hi)
  exact key vs vs σ fun _ h => h
def CpG (mg : Gm) (g : TG) (T : Tg) : Prop := ∀ B W H x d σ ρ ρ' Q', Holds W H → Rep mg W x d → EnvR mg B W H σ ρ → T.put d ρ = some ρ' → (∀ σ', EnvR mg B W H σ' ρ' → (∀ vs : List Nat, (∀ i ∈ T.slots, i ∈ vs) → wipe σ' vs = wipe σ vs) → Q' σ' H) → g x σ H Q'
def CpGs (mg : Gm) (g : TGs) (is : List Nat) : Prop := ∀ B W H xs ds σ ρ ρ' Q', Holds W H → Reps mg W xs ds → EnvR mg B W H σ ρ → putAll is ds ρ = some ρ' → (∀ σ', EnvR mg B W H σ' ρ' → (∀ vs : List Nat, (∀ i ∈ is, i ∈ vs) → wipe σ' vs = wipe σ vs) → Q' σ' H) → g xs σ H Q'
def DG (Xs : ι → Cx) (mg : Gm) (tg : Expr) (T : Tg) : Prop := ∃ g, (∀ i, PG (Xs i) tg g) ∧ CpG mg g T
def DGs (Xs : ι → Cx) (mg : Gm) (tgs : List Expr) (is : List Nat) : Prop := ∃ g, (∀ i, PGs (Xs i) tgs g) ∧ CpGs mg g is
theorem CpG.name {i : Nat} : CpG mg (gName i) (.one i) := fun B W H x d σ ρ ρ' Q' hh r e h q => by
  cases h
  exact q _ (e.set r) fun vs hv => wipe_set_in (hv i (List.mem_singleton.mpr rfl))
theorem pg_nm {i : Nat} {x : Str} (hN : ∀ j, (Xs j).N.Nodup) (hi : ∀ j, (Xs j).N[i]? = some x) (hx : ∀ j, Loc (Xs j).env.scope x) (hf : ∀ j, (Xs j).fn x = true ∨ (Xs j).env.scope.names.lookup x = some .local) : ∀ j, PG (Xs j) (.Name x pos) (gName i) := fun j => pg_name (hN j) (hi j) (hx j) (hf j)
theorem dg_name {i : Nat} {x : Str} (hN : ∀ j, (Xs j).N.Nodup) (hi : ∀ j, (Xs j).N[i]? = some x := by intro _; rfl) (hx : ∀ j, Loc (Xs j).env.scope x := by intro _; first | exact Or.inl rfl | exact Or.inr rfl)
    (hf : ∀ j, (Xs j).fn x = true ∨ (Xs j).env.scope.names.lookup x = some .local := by intro _; first | exact .inl rfl | exact .inr rfl) : DG Xs mg (.Name x pos) (.one i) := ⟨_, pg_nm hN hi hx hf, CpG.name⟩
theorem dgs_nil : DGs Xs mg [] [] := ⟨_, fun _ => pgs_nil, fun B W H xs ds σ ρ ρ' Q' hh r e h q => by
  cases r with
  | nil =>
    cases h
    exact ⟨rfl, q σ e fun _ _ => rfl⟩
  | cons => cases h⟩
theorem dgs_cons {i : Nat} {is : List Nat} {e : Expr} {es : List Expr} (h : DG Xs mg e (.one i)) (h' : DGs Xs mg es is) (hs : ∀ j, (assignEach (e :: es) (Xs j).env).map (·.2) = assign e (Xs j).env :: (assignEach es (Xs j).env).map (·.2) := by intro _; rfl) : DGs Xs mg (e :: es) (i :: is) := by
  obtain ⟨g, h1, h2⟩ := h
  obtain ⟨gs, g1, g2⟩ := h'
  refine ⟨_, fun j => pgs_cons (h1 j) (g1 j) (hs j), fun B W H xs ds σ ρ ρ' Q' hh r e h q => ?_⟩
  cases r with
  | nil => cases h
  | cons r1 rs =>
    refine ⟨_, _, rfl, h2 B W H _ _ σ ρ _ _ hh r1 e rfl fun σ1 e1 w1 => ?_⟩
    exact g2 B W H _ _ σ1 _ ρ' Q' hh rs e1 h fun σ2 e2 w2 => q σ2 e2 fun vs hv => (w2 vs fun j hj => hv j (List.mem_cons_of_mem _ hj)).trans (w1 vs fun j hj => hv j (by
      rw [List.mem_singleton.mp hj]
      exact List.mem_cons_self))
theorem putAll_len : ∀ {is : List Nat} {ds : List D} {ρ ρ' : Env}, putAll is ds ρ = some ρ' → ds.length = is.length
  | [], [], _, _, _ => rfl
  | _ :: is, _ :: ds, _, _, h => congrArg (· + 1) (putAll_len (is := is) (ds := ds) h)
  | [], _ :: _, _, _, h => by cases h
  | _ :: _, [], _, _, h => by cases h
theorem dg_tup {es : List Expr} {k : Nat} {is : List Nat} (h : DGs Xs mg es is) (hc : ∀ j, (Xs j).calm = true := by intro _; rfl) (hK : ∀ j, (Xs j).K = mg.K := by intro _; rfl) (hn : ∀ j, (assignEach es (Xs j).env).length = is.length := by intro _; rfl) (hst : ∀ j, (assignEach es (Xs j).env).findIdx? (·.1) = none := by intro _; rfl) : DG Xs mg (.Tuple es k pos) (.many is) := by
  obtain ⟨g, h1, h2⟩ := h
  refine ⟨gTup mg.K is.length g, fun j => by
    have z := pg_tup (pos := pos) (k := k) (n := is.length) (hc j) (h1 j) (hn j) (hst j)
    rw [hK j] at z
    exact z, fun B W H x d σ ρ ρ' Q' hh r e h q => ?_⟩
  cases r with
  | tup ha rs => exact ⟨_, _, rfl, SqT.of (hh.same _ _ ha), by rw [rs.length]; exact putAll_len h, h2 B W H _ _ σ ρ ρ' Q' hh rs e h q⟩
  | _ => cases h
abbrev dAsg (T : Tg) (f : DTE) : DTS := fun N ρ => f ρ (fun d => ∃ ρ', T.put d ρ = some ρ' ∧ N.nx ρ') (fun x => N.rs x ρ)
theorem ds_asg {tg e : Expr} {f : DTE} {T : Tg} (h : DE Xs mg Wx e f) (g : DG Xs mg tg T) (hs : ∀ j, swapsWithSole [tg] e pos.line (Xs j).env = pure false := by intro _; rfl) (hw : ∀ j, swappedStores [tg] e (Xs j).env = pure none := by intro _; rfl)
    (ha : ∀ j, (assignEach [tg] (Xs j).env).map (·.2) = [assign tg (Xs j).env] := by intro _; rfl) : DS Xs mg Wx (.Assign [tg] e pos) (dAsg T f) := by
  obtain ⟨t, h1, h2⟩ := h
  obtain ⟨u, g1, g2⟩ := g
  refine ⟨_, fun j => ps_asg (h1 j) (g1 j) (hs j) (hw j) (ha j), fun W0 B N ρ hf W σ H Ds s e n => ?_⟩
  refine h2 B ρ _ _ hf W σ H _ s.holds e (n.ex s e) fun W1 H1 v d s1 r1 k1 => ?_
  obtain ⟨ρ', k2, k3⟩ := k1
  exact g2 B W1 H1 v d σ ρ ρ' _ s1.holds r1 (e.step s1) k2 fun σ' e' _ => n.nx W1 H1 σ' ρ' (s.trans s1) e' k3
/-! ### what is walked -/
def WalkD (mg : Gm) (W : Wd) (J : It) (ds : List D) : Prop := ∀ W1 H1, Le W W1 → Holds W1 H1 → (∀ i, i < ds.length → J.go i H1) ∧ J.stop ds.length H1 ∧ ∀ i x H2, i < ds.length → J.yld i H1 x H2 → ∃ W2 d, Step W1 H1 W2 H2 ∧ ds[i]? = some d ∧ Rep mg W2 x d
def CpI (mg : Gm) (Wx : WX) (w : TI) (f : DTI) : Prop := ∀ B ρ Q E, f ρ Q E → ∀ W σ H Q', Holds W H → EnvR mg B W H σ ρ → ExR mg Wx W H σ E → (∀ W' H' J ds, Step W H W' H' → WalkD mg W' J ds → Q ds → Q' J H') → w σ H Q'
def DI (Xs : ι → Cx) (mg : Gm) (Wx : WX) (tg e : Expr) (f : DTI) : Prop := ∃ w, (∀ i, PI (Xs i) tg e w) ∧ CpI mg Wx w f
/-- a walk that leaves the heap as it was -/
theorem WalkD.of {W : Wd} {J : It} {ds : List D} {G : Hp → Prop} {vs : Nat → Option V} (w : L2.Walk J ds.length G (fun i H x H' => H' = H ∧ vs i = some x)) (hG : ∀ W1 H1, Le W W1 → Holds W1 H1 → G H1) (hv : ∀ i x, i < ds.length → vs i = some x → ∃ d, ds[i]? = some d ∧ Rep mg W x d) : WalkD mg W J ds := by
  intro W1 H1 l hh
  refine ⟨fun i hi => w.goes i H1 hi (hG W1 H1 l hh), w.stops H1 (hG W1 H1 l hh), fun i x H2 hi y => ?_⟩
  obtain ⟨e, hx⟩ := w.yields i H1 x H2 hi (hG W1 H1 l hh) y
  subst e
  obtain ⟨d, h1, h2⟩ := hv i x hi hx
  exact ⟨W1, d, Step.refl hh, h1, h2.mono l⟩
abbrev dIList (f : DTE) : DTI := fun ρ Q E => f ρ (fun x => match x with
  | .lst ds => Q ds
  | .fz ds => Q ds
  | _ => False) E
theorem WalkD.list {W : Wd} {H : Hp} {a : Addr} {vs : List V} {ds : List D} (r : Reps mg W vs ds) (h : ∀ W1 H1, Le W W1 → Holds W1 H1 → SqL mg.K H1 a vs) : WalkD mg W (Itl mg.K a) ds := by
  have e := r.length
  have w := walk_list (K := mg.K) (a := a) (xs := vs)
  rw [e] at w
  exact WalkD.of (vs := fun i => vs[i]?) w h fun i x hi hx => r.getV hx
theorem di_list {tg e : Expr} {f : DTE} (h : DE Xs mg Wx e f) (hK : ∀ j, (Xs j).K = mg.K := by intro _; rfl) : DI Xs mg Wx tg e (dIList f) := by
  obtain ⟨t, h1, h2⟩ := h
  refine ⟨iList mg.K t, fun j => by
    have z := pi_list (tg := tg) (h1 j)
    rw [hK j] at z
    exact z, fun B ρ Q E hf W σ H Q' hh e x q => ?_⟩
  refine h2 B ρ _ E hf W σ H _ hh e x fun W1 H1 v d s1 r1 k1 => ?_
  cases r1 with
  | lst ha rs => exact ⟨_, rfl, ⟨_, SqL.of (s1.holds.same _ _ ha)⟩, q W1 H1 _ _ s1 (WalkD.list (H := H1) rs fun W2 H2 l hh => SqL.of (hh.same _ _ (l.h _ _ ha))) k1⟩
  | fz ha rs => exact ⟨_, rfl, ⟨_, s1.holds.same.seq ha⟩, q W1 H1 _ _ s1 (WalkD.list (H := H1) rs fun W2 H2 l hh => hh.same.seq (l.h.seq ha)) k1⟩
  | _ => exact k1.elim
abbrev dITup (f : DTE) : DTI := fun ρ Q E => f ρ (fun x => match x with
  | .tup ds => Q ds
  | _ => False) E
theorem di_tup {tg e : Expr} {f : DTE} (h : DE Xs mg Wx e f) (hK : ∀ j, (Xs j).K = mg.K := by intro _; rfl) : DI Xs mg Wx tg e (dITup f) := by
  obtain ⟨t, h1, h2⟩ := h
  refine ⟨iTup mg.K t, fun j => by
    have z := pi_tup (tg := tg) (h1 j)
    rw [hK j] at z
    exact z, fun B ρ Q E hf W σ H Q' hh e x q => ?_⟩
  refine h2 B ρ _ E hf W σ H _ hh e x fun W1 H1 v d s1 r1 k1 => ?_
  cases r1 with
  | @tup a vs ds ha rs =>
    refine ⟨_, rfl, ⟨_, SqT.of (s1.holds.same _ _ ha)⟩, q W1 H1 _ ds s1 ?_ k1⟩
    have w := walk_tup (K := mg.K) (a := a) (xs := vs)
    rw [rs.length] at w
    exact WalkD.of (vs := fun i => vs[i]?) w (fun W2 H2 l hh => SqT.of (hh.same _ _ (l.h _ _ ha))) fun i x hi hx => rs.getV hx
  | _ => exact k1.elim
/-- the signs of a text -/
def signsD (x : Str) : List D := x.cps.toList.map fun c => .str ⟨#[c]⟩
theorem signsD_len (x : Str) : (signsD x).length = x.cps.size := by simp [signsD]
abbrev dIStr (f : DTE) : DTI := fun ρ Q E => f ρ (fun x => match x with
  | .str z => Q (signsD z)
  | _ => False) E
theorem di_str {tg e : Expr} {f : DTE} (h : DE Xs mg Wx e f) : DI Xs mg Wx tg e (dIStr f) := by
  obtain ⟨t, h1, h2⟩ := h
  refine ⟨iStr t, fun j => pi_str (h1 j), fun B ρ Q E hf W σ H Q' hh e x q => ?_⟩
  refine h2 B ρ _ E hf W σ H _ hh e x fun W1 H1 v d s1 r1 k1 => ?_
  cases r1 with
  | str z =>
    refine ⟨z, rfl, q W1 H1 _ _ s1 (fun W2 H2 l hh => ?_) k1⟩
    have w := walk_str (z := z)
    refine ⟨fun i hi => w.goes i H2 (by rw [← signsD_len]; exact hi) True.intro, by rw [signsD_len]; exact w.stops H2 True.intro, fun i x H3 hi y => ?_⟩
    obtain ⟨e, c, hc, hx⟩ := w.yields i H2 x H3 (by rw [← signsD_len]; exact hi) True.intro y
    subst e hx
    refine ⟨W2, _, Step.refl hh, ?_, .str _⟩
    unfold signsD
    rw [List.getElem?_map, Array.getElem?_toList, hc]
    rfl
  | _ => exact k1.elim
def rangeD (lo : Int) (n : Nat) : List D := (List.range n).map fun (i : Nat) => D.int (lo + i)
theorem rangeD_len (lo : Int) (n : Nat) : (rangeD lo n).length = n := by simp [rangeD]
theorem WalkD.range {W : Wd} {lo : Int} {n : Nat} : WalkD mg W (Itr lo n) (rangeD lo n) := by
  intro W1 H1 l hh
  have w := walk_range (lo := lo) (n := n)
  refine ⟨fun i hi => w.goes i H1 (by rw [rangeD_len] at hi; exact hi) True.intro, by rw [rangeD_len]; exact w.stops H1 True.intro, fun i x H3 hi y => ?_⟩
  rw [rangeD_len] at hi
  obtain ⟨e, hx⟩ := w.yields i H1 x H3 hi True.intro y
  subst e hx
  refine ⟨W1, _, Step.refl hh, ?_, .int _⟩
  unfold rangeD
  rw [List.getElem?_map, List.getElem?_range hi]
  rfl
abbrev dIRng1 (g : DTA) : DTI := fun ρ Q E => g ρ (fun ds => match ds with
  | [.int j] => -(2 ^ 62) ≤ j ∧ j < 2 ^ 62 ∧ Q (rangeD 0 j.toNat)
  | _ => False) E
theorem di_range1 {tg a : Expr} {p : Pos} {g : DTA} (hm : mg.mg "range" = none) (h : DA Xs mg Wx [a] g) (hM : ∀ j, (Xs j).mg = mg.mg := by intro _; rfl) (hg : ∀ j, Gl (Xs j) "range" := by intro _; rfl) (hs : ∀ j, starEach [a] (Xs j).env = [(false, eval a (Xs j).env)] := by intro _; rfl) :
    DI Xs mg Wx tg (.Call (.Name "range" p) [a] [] pos) (dIRng1 g) := by
  obtain ⟨t, h1, h2⟩ := h
  refine ⟨iRng1 t, fun j => pi_range1 (hg j) (by rw [hM j]; exact hm) (h1 j) (hs j), fun B ρ Q E hf W σ H Q' hh e x q => ?_⟩
  refine h2 B ρ _ E hf W σ H _ hh e x fun W1 H1 vs ds s1 r1 k1 => ?_
  split at k1
  · rename_i j
    cases r1 with
    | cons r rs =>
      cases r
      cases rs
      exact ⟨j, rfl, k1.1, k1.2.1, q W1 H1 _ _ s1 WalkD.range k1.2.2⟩
  · exact k1.elim
/-! ### for -/
def forD (T : Tg) (f : DTS) (N : Nd) : List D → Env → Prop
  | [], ρ => N.nx ρ
  | d :: ds, ρ => ∃ ρ1, T.put d ρ = some ρ1 ∧ f { N with nx := forD T f N ds, ct := forD T f N ds, bk := N.nx } ρ1
abbrev dFor (w : DTI) (T : Tg) (f : DTS) : DTS := fun N ρ => w ρ (fun ds => forD T f N ds ρ) (fun x => N.rs x ρ)
theorem ds_for {tg iter : Expr} {body : List Stmt} {w : DTI} {T : Tg} {f : DTS} (hi : DI Xs mg Wx tg iter w) (hg : DG Xs mg tg T) (hb : DSs Xs mg Wx body f) (hp : ∀ j, PassesOwn (model (Xs j).prog (Xs j).w) (Xs j).A (Xs j).env (Xs j).xe) (hc : ∀ j, (Xs j).calm = true := by intro _; rfl)
    (hs : ∀ j x, foldedSetIterable iter (Xs j).env x = pure x := by intro _ _; rfl) : DS Xs mg Wx (.For tg iter body [] pos) (dFor w T f) := by
  obtain ⟨wi, i1, i2⟩ := hi
  obtain ⟨g, g1, g2⟩ := hg
  obtain ⟨tb, b1, b2⟩ := hb
  refine ⟨_, fun j => ps_for (hp j) (hc j) (i1 j) (g1 j) (b1 j) (hs j), fun W0 B N ρ hf W σ H Ds s e n => ?_⟩
  refine i2 B ρ _ _ hf W σ H _ s.holds e (n.ex s e) fun W1 H1 J ds s1 wk k1 => ?_
  refine ⟨fun i m σ' H' => m = ds.length - i ∧ i ≤ ds.length ∧ ∃ W' ρ', Step W0 B W' H' ∧ EnvR mg B W' H' σ' ρ' ∧ Le W1 W' ∧ forD T f N (ds.drop i) ρ', ⟨ds.length, by simp, Nat.zero_le _, W1, ρ, s.trans s1, e.step s1, Le.refl _, k1⟩, ?_⟩
  rintro i m σ' H' ⟨rfl, hi, W', ρ', s', e', l', k'⟩
  obtain ⟨go, stop, yld⟩ := wk W' H' l' s'.holds
  by_cases hlt : i < ds.length
  · refine .inr ⟨go i hlt, fun σ2 H2 => ∃ W2 ρ2, Step W0 B W2 H2 ∧ EnvR mg B W2 H2 σ2 ρ2 ∧ Le W1 W2 ∧ forD T f N (ds.drop (i + 1)) ρ2, fun σ2 H2 q => ⟨ds.length - (i + 1), by omega, rfl, hlt, q⟩, fun x H2 y => ?_⟩
    obtain ⟨W2, d, s2, hd, r⟩ := yld i x H2 hlt y
    have ed : ds.drop i = d :: ds.drop (i + 1) := by
      rw [List.drop_eq_getElem_cons hlt]
      have := (List.getElem?_eq_some_iff.mp hd).2
      rw [this]
    rw [ed] at k'
    obtain ⟨ρ1, p1, k2⟩ := k'
    refine g2 B W2 H2 x d σ' ρ' ρ1 _ s2.holds r (e'.step s2) p1 fun σ3 e3 _ => ?_
    have s02 := s'.trans s2
    have n2 := n.rebase s02
    refine b2 W2 B _ ρ1 k2 W2 σ3 H2 _ s02.rebase e3 ⟨fun W3 H3 σ4 ρ4 s3 e4 k4 => ⟨W3, ρ4, s02.join s3, e4, (l'.trans s2.le).trans s3.le, k4⟩, n2.rt, n2.nx, fun W3 H3 σ4 ρ4 s3 e4 k4 => ⟨W3, ρ4, s02.join s3, e4, (l'.trans s2.le).trans s3.le, k4⟩, n2.rs⟩
  · have ei : i = ds.length := by omega
    subst ei
    rw [List.drop_length] at k'
    exact .inl ⟨stop, n.nx W' H' σ' ρ' s' e' k'⟩
/-! ### while -/
abbrev dWhile (c : DTT) (f : DTS) : DTS := fun N ρ => ∃ I : Nat → Env → Prop, (∃ m, I m ρ) ∧ ∀ m ρ, I m ρ → c ρ (fun b => bit b (f { N with nx := fun ρ' => ∃ m', m' < m ∧ I m' ρ', ct := fun ρ' => ∃ m', m' < m ∧ I m' ρ', bk := N.nx } ρ) (N.nx ρ)) (fun x => N.rs x ρ)
theorem ds_while {c : Expr} {body : List Stmt} {fc : DTT} {f : DTS} (hc : DT Xs mg Wx c fc) (hb : DSs Xs mg Wx body f) (hp : ∀ j, PassesOwn (model (Xs j).prog (Xs j).w) (Xs j).A (Xs j).env (Xs j).xe) : DS Xs mg Wx (.While c body [] pos) (dWhile fc f) := by
  obtain ⟨tc, c1, c2⟩ := hc
  obtain ⟨tb, b1, b2⟩ := hb
  refine ⟨_, fun j => ps_while (hp j) (c1 j) (b1 j), fun W0 B N ρ hf W σ H Ds s e n => ?_⟩
  obtain ⟨I, ⟨m0, i0⟩, turn⟩ := hf
  refine ⟨fun m σ' H' => ∃ W' ρ', Step W0 B W' H' ∧ EnvR mg B W' H' σ' ρ' ∧ I m ρ', ⟨m0, W, ρ, s, e, i0⟩, ?_⟩
  rintro m σ' H' ⟨W', ρ', s', e', i'⟩
  refine c2 B ρ' _ _ (turn m ρ' i') W' σ' H' _ s'.holds e' (n.ex s' e') fun W1 H1 k s1 k1 => ?_
  cases k with
  | true =>
    rw [if_pos rfl]
    refine ⟨fun σ2 H2 => ∃ m', m' < m ∧ ∃ W2 ρ2, Step W0 B W2 H2 ∧ EnvR mg B W2 H2 σ2 ρ2 ∧ I m' ρ2, fun σ2 H2 q => q, ?_⟩
    exact b2 W0 B _ ρ' k1 W1 σ' H1 _ (s'.trans s1) (e'.step s1) ⟨fun W3 H3 σ4 ρ4 s3 e4 ⟨m', hm, k4⟩ => ⟨m', hm, W3, ρ4, s3, e4, k4⟩, n.rt, n.nx, fun W3 H3 σ4 ρ4 s3 e4 ⟨m', hm, k4⟩ => ⟨m', hm, W3, ρ4, s3, e4, k4⟩, n.rs⟩
  | false =>
    rw [if_neg Bool.false_ne_true]
    exact n.nx W1 H1 σ' ρ' (s'.trans s1) (e'.step s1) k1
/-! ### comprehensions -/
def lcD (body : D → (Option D → Prop) → Prop) : List D → (List D → Prop) → Prop
  | [], Q => Q []
  | d :: ds, Q => body d fun o => lcD body ds fun rs => match o with
    | some r => Q (r :: rs)
    | none => Q rs
def wipeD (ρ : Env) : List Nat → Env
  | [] => ρ
  | v :: vs => (wipeD ρ vs).set v .no
theorem EnvR.wipe {B : Hp} {W : Wd} {H : Hp} {σ : St} {ρ : Env} (e : EnvR mg B W H σ ρ) : ∀ vs : List Nat, EnvR mg B W H (L2.wipe σ vs) (wipeD ρ vs)
  | [] => e
  | v :: vs => (EnvR.wipe e vs).no
abbrev dLc (w : DTI) (T : Tg) (ft : DTT) (fe : DTE) (vs : List Nat) : DTE := fun ρ Q E => w ρ (fun ds => ds.length ≤ sizeLine ∧ lcD (fun d k => ∃ ρ2, T.put d (wipeD ρ vs) = some ρ2 ∧ ft ρ2 (fun b => bit b (fe ρ2 (fun r => k (some r)) F0) (k none)) F0) ds fun rs => Q (.lst rs)) E
abbrev blkF (Xs : ι → Cx) (scope : Scope) : ι × Shared × Hp × Addr × List (Str × Addr) × List Addr → Cx := fun j => (Xs j.1).blk j.2.1 j.2.2.1 scope (compEnvC scope j.2.2.2.2.1 j.2.2.2.1 (Xs j.1).env) j.2.2.2.2.2
def DTs (Xs : ι → Cx) (mg : Gm) (Wx : WX) (ifs : List Expr) (f : DTT) : Prop := ∃ t, (∀ i, PTs (Xs i) ifs t) ∧ CpT mg Wx t f
abbrev dYes : DTT := fun _ Q _ => Q true
theorem dts_nil : DTs Xs mg Wx [] dYes := ⟨_, fun _ => pts_nil, fun B ρ Q E hf W σ H Q' hh e x q => q W H true (Step.refl hh) hf⟩
theorem dts_one {c : Expr} {f : DTT} (h : DT Xs mg Wx c f) : DTs Xs mg Wx [c] f := by
  obtain ⟨t, h1, h2⟩ := h
  exact ⟨t, fun i => pts_one (h1 i), h2⟩
theorem Cp.lc {wi : TI} {g : TG} {tt : TT} {te : TE} {w : DTI} {T : Tg} {ft : DTT} {fe : DTE} {vs : List Nat} (hi : CpI mg Wx wi w) (hg : CpG mg g T) (hv : ∀ i ∈ T.slots, i ∈ vs) (ht : CpT mg Wx0 tt ft) (he : Cp mg Wx0 te fe) : Cp mg Wx (tLc wi g tt te vs) (dLc w T ft fe vs) := by
  intro B ρ Q E hf W σ H Q' hh e x q
  refine hi B ρ _ E hf W σ H _ hh e x fun W1 H1 J ds s1 wk k1 => ?_
  obtain ⟨hsz, k1⟩ := k1
  intro A hA
  have e1 := e.step s1
  refine ⟨fun i m H' => m = ds.length - i ∧ i ≤ ds.length ∧ ∃ W' us acc, Step W1 H1 W' H' ∧ H' A = some (.lst us) ∧ W'.H A = none ∧ ¬ W'.T A ∧ Reps mg W' us acc ∧ acc.length ≤ i ∧ lcD _ (ds.drop i) (fun rs => Q (.lst (acc ++ rs))),
    ⟨ds.length, by simp, Nat.zero_le _, W1, [], [], Step.lay s1.holds hA, upd_same, s1.holds.same.free hA, s1.holds.nT hA, .nil, Nat.le_refl _, k1⟩, ?_⟩
  rintro i m H' ⟨rfl, hi, W', us, acc, s', hL, nw, nt, rs, la, k'⟩
  obtain ⟨go, stop, yld⟩ := wk W' H' s'.le s'.holds
  by_cases hlt : i < ds.length
  · refine .inr ⟨go i hlt, fun H2 => ∃ W2 us2 acc2, Step W1 H1 W2 H2 ∧ H2 A = some (.lst us2) ∧ W2.H A = none ∧ ¬ W2.T A ∧ Reps mg W2 us2 acc2 ∧ acc2.length ≤ i + 1 ∧ lcD _ (ds.drop (i + 1)) (fun rs => Q (.lst (acc2 ++ rs))), fun H2 q => ⟨ds.length - (i + 1), by omega, rfl, hlt, q⟩, fun y H2 hy => ?_⟩
    obtain ⟨W2, d, s2, hd, r⟩ := yld i y H2 hlt hy
    have ed : ds.drop i = d :: ds.drop (i + 1) := by
      rw [List.drop_eq_getElem_cons hlt]
      have := (List.getElem?_eq_some_iff.mp hd).2
      rw [this]
    rw [ed] at k'
    obtain ⟨ρ1, p1, k2⟩ := k'
    have sA : ∀ {Wa Wb : Wd} {Ha Hb : Hp} {ws : List V}, Step Wa Ha Wb Hb → Ha A = some (.lst ws) → Wa.H A = none → ¬ Wa.T A → Hb A = some (.lst ws) ∧ Wb.H A = none ∧ ¬ Wb.T A := fun st a1 a2 a3 => ⟨st.keep A _ a1 a3, by rw [st.fresh A _ a1]; exact a2, fun t => by
      rcases st.freshT A t with t | t
      · exact a3 t
      · rw [a1] at t
        cases t⟩
    refine hg B W2 H2 y d _ _ ρ1 _ s2.holds r ((e1.step s').step s2 |>.wipe vs) p1 fun σ3 e3 w3 => ?_
    refine ⟨(w3 vs hv).trans ?_, ?_⟩
    · have idem : ∀ ws : List Nat, L2.wipe (L2.wipe σ vs) ws = L2.wipe σ vs ∨ True := fun _ => .inr trivial
      exact wipe_wipe σ vs
    refine ht B ρ1 _ _ k2 W2 σ3 H2 _ s2.holds e3 ExR.f0 fun W3 H3 b s3 k3 => ?_
    obtain ⟨b1, b2, b3⟩ := sA (s2.trans s3) hL nw nt
    cases b with
    | true =>
      rw [if_pos rfl]
      refine he B ρ1 _ _ k3 W3 σ3 H3 _ s3.holds (e3.step s3) ExR.f0 fun W4 H4 z dz s4 r4 k4 => ?_
      obtain ⟨c1, c2, c3⟩ := sA s4 b1 b2 b3
      have s14 := (s'.trans s2).trans (s3.trans s4)
      refine ⟨us, c1, ?_, W4, us ++ [z], acc ++ [dz], s14.own hA c1 c2 c3, upd_same, c2, c3, Reps.snoc (rs.mono ((s2.trans s3).trans s4).le) r4, ?_, ?_⟩
      · rw [rs.length]
        omega
      · rw [List.length_append, List.length_singleton]
        omega
      · simpa [List.append_assoc] using k4
    | false =>
      rw [if_neg Bool.false_ne_true]
      exact ⟨W3, us, acc, (s'.trans s2).trans s3, b1, b2, b3, rs.mono (s2.trans s3).le, by omega, k3⟩
  · have ei : i = ds.length := by omega
    subst ei
    rw [List.drop_length] at k'
    refine .inl ⟨stop, q (W'.put A (.lst us)) H' _ _ (s1.trans (s'.taken hA hL nw nt)) (Rep.newLst rs nw) ?_⟩
    have k2 : Q (.lst (acc ++ [])) := k'
    rw [List.append_nil] at k2
    exact k2
theorem de_lc {elt tg iter : Expr} {ifs : List Expr} {scope : Scope} {own : List (Str × Nat)} {w : DTI} {T : Tg} {ft : DTT} {fe : DTE} (hN : ∀ j, (Xs j).N.Nodup) (hi : DI Xs mg Wx tg iter w) (ok : ∀ j, BlkOk (Xs j).N (Xs j).env.scope scope own) (hg : DG (blkF Xs scope) mg tg T) (ht : DTs (blkF Xs scope) mg Wx0 ifs ft) (he : DE (blkF Xs scope) mg Wx0 elt fe)
    (hv : ∀ i ∈ T.slots, i ∈ own.map (·.2) := by decide) (hc : ∀ j, (Xs j).calm = true := by intro _; rfl) (hs : ∀ j x, foldedSetIterable iter (Xs j).env x = pure x := by intro _ _; rfl) : DE Xs mg Wx (.ListComp elt [⟨tg, iter, ifs, 0⟩] scope pos) (dLc w T ft fe (own.map (·.2))) := by
  obtain ⟨wi, i1, i2⟩ := hi
  obtain ⟨g, g1, g2⟩ := hg
  obtain ⟨tt, t1, t2⟩ := ht
  obtain ⟨te, e1, e2⟩ := he
  exact ⟨_, fun j => pe_lc (hc j) (hN j) (i1 j) (ok j) (fun s H C cl fp => g1 (j, s, H, C, cl, fp)) (fun s H C cl fp => t1 (j, s, H, C, cl, fp)) (fun s H C cl fp => e1 (j, s, H, C, cl, fp)) (hs j), Cp.lc i2 g2 hv t2 e2⟩
theorem ds_setLc {i : Nat} {y : Str} {py spos : Pos} {elt tg iter : Expr} {ifs : List Expr} {scope : Scope} {own : List (Str × Nat)} {w : DTI} {T : Tg} {ft : DTT} {fe : DTE} (hN : ∀ j, (Xs j).N.Nodup) (hi : DI Xs mg Wx tg iter w) (ok : ∀ j, BlkOk (Xs j).N (Xs j).env.scope scope own) (hg : DG (blkF Xs scope) mg tg T) (ht : DTs (blkF Xs scope) mg Wx0 ifs ft) (he : DE (blkF Xs scope) mg Wx0 elt fe)
    (hsw : ∀ j, swapsWith (.ListComp elt [⟨tg, iter, ifs, 0⟩] scope pos) (some (.Name y py)) spos.line (Xs j).env = pure true) (hy : ∀ j, (Xs j).N[i]? = some y := by intro _; rfl) (hyl : ∀ j, (Xs j).env.scope.names.lookup y = some .local := by intro _; rfl)
    (hv : ∀ i ∈ T.slots, i ∈ own.map (·.2) := by decide) (hc : ∀ j, (Xs j).calm = true := by intro _; rfl) (hs : ∀ j x, foldedSetIterable iter (Xs j).env x = pure x := by intro _ _; rfl) : DS Xs mg Wx (.Assign [.Name y py] (.ListComp elt [⟨tg, iter, ifs, 0⟩] scope pos) spos) (dSet i (dLc w T ft fe (own.map (·.2)))) := by
  obtain ⟨wi, i1, i2⟩ := hi
  obtain ⟨g, g1, g2⟩ := hg
  obtain ⟨tt, t1, t2⟩ := ht
  obtain ⟨te, e1, e2⟩ := he
  refine ⟨_, fun j => ps_setLc (i := i) (hc j) (hN j) (hy j) (hyl j) (hsw j) (i1 j) (ok j) (fun s H C cl fp => g1 (j, s, H, C, cl, fp)) (fun s H C cl fp => t1 (j, s, H, C, cl, fp)) (fun s H C cl fp => e1 (j, s, H, C, cl, fp)) (hs j), fun W0 B N ρ hf W σ H Ds s e n => ?_⟩
  exact Cp.lc i2 g2 hv t2 e2 B ρ _ _ hf W σ H _ s.holds e (n.ex s e) fun W1 H1 v d s1 r1 k1 => n.nx W1 H1 _ _ (s.trans s1) ((e.step s1).set r1) k1
/-! ### a def by its body -/
def startD (n : Nat) (ds : List D) : Env := ds.map Sl.d ++ List.replicate (n - ds.length) .no
theorem EnvR.start {N : List Str} {W : Wd} {H : Hp} : ∀ {vs : List V} {ds : List D}, Reps mg W vs ds → EnvR mg H W H (L2.start N vs) (startD N.length ds) := by
  intro vs ds r
  have el := r.length
  refine ⟨by simp [L2.start, startD, el], fun i s h => ?_, fun i j xs ys o1 o2 a _ h1 _ _ _ m1 _ => ?_⟩
  · unfold startD at h
    unfold L2.start
    by_cases hi : i < ds.length
    · rw [List.getElem?_append_left (by simpa using hi), List.getElem?_map] at h
      rw [List.getElem?_append_left (by simpa [el] using hi), List.getElem?_map]
      cases q : ds[i]? with
      | none =>
        rw [q] at h
        cases h
      | some d =>
        rw [q] at h
        cases h
        obtain ⟨v, h1, h2⟩ := r.get q
        exact ⟨some v, by rw [h1]; rfl, v, rfl, h2⟩
    · rw [List.getElem?_append_right (by simpa using Nat.le_of_not_lt hi), List.getElem?_replicate] at h
      rw [List.getElem?_append_right (by simpa [el] using Nat.le_of_not_lt hi), List.getElem?_replicate]
      split at h
      · cases h
        rename_i hq
        refine ⟨none, ?_, True.intro⟩
        rw [if_pos]
        simpa [el] using hq
      · cases h
  · unfold startD at h1
    have hm := List.mem_of_getElem? h1
    rcases List.mem_append.mp hm with q | q
    · obtain ⟨_, _, z⟩ := List.mem_map.mp q
      rw [← z] at m1
      cases m1
    · have z := List.eq_of_mem_replicate q
      rw [z] at m1
      cases m1
/-- the rule for a def, where no repr is under way -/
theorem fnG_of {P : Program} {w : World} {K : PySem.W.Frag} {mg : Str → Option Value} {base : Heap} {x qual : Str} {st : Stmt} {fa : Addr} {fd : FuncData} {N ps : List Str} {k : Nat} {sp : Sp} (F : Fun K x qual st fa fd) (S : FnScope N ps (defScope st)) (ln : ∀ vs H Q E, sp vs H Q E → vs.length = ps.length)
    (hb : ∀ (cdv : Value) (A : Around) (out : List PySem.Env) (z : Shared) (H : Hp) (vs : List V) (Q : VK) (E : XK), RmG k (A.deeper (PyProof.Rows.envOfC qual (defScope st) z.heap.objs.size fa cdv)) → sp vs H Q E →
      ∃ t, PSs (cxOf (L2.CX P w) P w K mg base N qual (defScope st) fa cdv A out z H E) (defBody st) t ∧ t { nx := fun _ H' => Q .non H', rt := Q } (L2.start N vs) H) : FnG P w K mg base (k + 1) fa fd ps sp := by
  obtain ⟨oc, od, kV, doc, pm, an, cdv, ct, osl, rfl, lk, hcd⟩ := F.ex
  refine ⟨ln, fun A out z H ag us vs Q E m e0 bd rv hs => ?_⟩
  have inK : K.In z.heap := e0.mod.kin.keeps fun c u q => (e0.bs c u q).1
  have noL : z.heap.NoLimit := e0.mod.nolimit.keeps fun c u q => (e0.bs c u q).1
  have kinds : ∀ y ∈ ps.zip us, (defScope st).names.lookup y.1 = some .local ∨ ((defScope st).names.lookup y.1 = some .cell ∧ ((cellsFrom (z.heap.objs.size + 1) (defScope st).names []).lookup y.1).isSome = true) := by
    rintro ⟨n, v⟩ hy
    refine (S.par n (List.of_mem_zip hy).1).imp id ?_
    intro c
    exact ⟨c, PySem.W.cellsFrom_some _ _ _ (.inl c)⟩
  apply codeAny_call_function m.r.depth (inK _ _ lk) rfl S.co S.gen rfl (PySem.W.codeRec_of inK hcd)
  apply bd
  apply wpAny_newFunctionEnv_cells S.kind kinds
  intro env he z1 inC
  subst he
  obtain ⟨t, pt, tq⟩ := hb cdv A out z H vs Q E ⟨m.r.deeper _, m.g⟩ hs
  have I0 := inv_start (CX := L2.CX P w) (E := E) S m.r.hd e0 (ln _ _ _ _ hs) rv inC
  refine ⟨noL.keeps inC.toInCall.keep, codeAny_func (wpAny_mono (pt.run [] z1 _ H _ I0 tq) ?_ fun _ _ q => q)⟩
  intro fl z' hfl
  match fl, hfl with
  | .ret u, ⟨v, _, H', J, ru, q⟩ => exact ⟨v, H', J.os, J.bare, J.base, J.hok, ru, q⟩
  | .next, ⟨_, H', J, q⟩ => exact ⟨V.non, H', J.os, J.bare, J.base, J.hok, rfl, q⟩
  | .brk, ⟨_, _, _, q⟩ => exact q.elim
  | .cont, ⟨_, _, _, q⟩ => exact q.elim
theorem def_ok {P : Program} {w : World} {base : Heap} {x qual : Str} {st : Stmt} {fa : Addr} {fd : FuncData} {N ps : List Str} {k : Nat} {f : List D → M D} (F : Fun mg.K x qual st fa fd) (S : FnScope N ps (defScope st))
    (h : ∀ (cdv : Value) (A : Around) (outer : List PySem.Env) (s : Shared) (H : Hp) (E : XK), RmG k (A.deeper (PyProof.Rows.envOfC qual (defScope st) s.heap.objs.size fa cdv)) →
      ∃ g, DSs (fun _ : Unit => cxOf (L2.CX P w) P w mg.K mg.mg base N qual (defScope st) fa cdv A outer s H E) mg (fun cls d _ H' => E cls d H') (defBody st) g ∧
        ∀ ds Q Ex, ds.length = ps.length → f ds Q Ex → g ⟨fun _ => Q .non, fun d _ => Q d, fun _ => False, fun _ => False, fun x _ => Ex x⟩ (startD N.length ds)) :
    FnG P w mg.K mg.mg base (k + 1) fa fd ps (spD mg ps.length f) := by
  refine fnG_of F S (fun vs H Q E hs => ?_) (fun cdv A outer s H vs Q E hr hs => ?_)
  · obtain ⟨W, ds, Qd, Ed, _, r, l, _⟩ := hs
    rw [r.length, l]
  · obtain ⟨W, ds, Qd, Ed, hh, r, l, hf, q, x⟩ := hs
    obtain ⟨g, ⟨t, h1, h2⟩, h3⟩ := h cdv A outer s H E hr
    refine ⟨t, h1 (), ?_⟩
    refine h2 W H _ _ (h3 ds Qd Ed l hf) W _ H _ (Step.refl hh) (EnvR.start r) ⟨fun W' H' σ' ρ' s' e' k => q W' H' _ _ s' .non k, fun W' H' _ _ v d s' _ r k => q W' H' v d s' r k, fun _ _ _ _ _ _ k => k, fun _ _ _ _ _ _ k => k, fun W' H' σ' ρ' cls dd y s' e' r' k => x W' H' cls dd y s' r' k⟩
end
end FP
/-! FP4: operators, comparisons, built-in functions by data. -/
namespace FP
open PySem L2
variable [Tabl]
section
variable {ι : Type} {Xs : ι → Cx} {mg : Gm} {Wx : WX} {pos : Pos}
/-! ### arithmetic, joining -/
theorem op_catK {X : Cx} {K : PySem.W.Frag} (h : X.K = K) : OpR X (binaryOp .Add) (rCatA K) := by
  subst h
  exact op_catA
theorem op_inK {X : Cx} {K : PySem.W.Frag} (h : X.K = K) : OpR X (compareOp .In) (rIn K false) := by
  subst h
  exact op_in_seq
theorem op_notInK {X : Cx} {K : PySem.W.Frag} (h : X.K = K) : OpR X (compareOp .NotIn) (rIn K true) := by
  subst h
  exact op_notIn_seq
def rdAdd : RD2 := fun x y Q => match x, y with
  | .int i, .int j => Q (.int (i + j))
  | .str a, .str b => a.length + b.length ≤ sizeLine ∧ Q (.str (a ++ b))
  | .lst xs, .lst ys => xs.length + ys.length ≤ sizeLine ∧ Q (.lst (xs ++ ys))
  | .tup xs, .tup ys => xs.length + ys.length ≤ sizeLine ∧ Q (.tup (xs ++ ys))
  | _, _ => False
theorem ok_add (hK : ∀ j, (Xs j).K = mg.K := by intro _; rfl) : OpOk Xs mg (binaryOp .Add) rdAdd := by
  refine ⟨_, fun j => OpR.or op_add (OpR.or op_add_str (OpR.or op_cat (op_catK (hK j)))), ?_⟩
  intro W H x y dx dy Q Q' hh rx ry h q
  unfold rdAdd at h
  split at h
  · cases rx
    cases ry
    exact .inl ⟨_, _, rfl, rfl, q W H _ _ (Step.refl hh) (.int _) h⟩
  · cases rx
    cases ry
    exact .inr (.inl ⟨_, _, rfl, rfl, h.1, q W H _ _ (Step.refl hh) (.str _) h.2⟩)
  · cases rx with
    | lst ha ra =>
      cases ry with
      | lst hb rb => exact .inr (.inr (.inl ⟨_, _, _, _, rfl, rfl, hh.same _ _ ha, hh.same _ _ hb, by rw [ra.length, rb.length]; exact h.1, to_lst q hh (ra.append rb) h.2⟩))
  · cases rx with
    | tup ha ra =>
      cases ry with
      | tup hb rb =>
        refine .inr (.inr (.inr ⟨_, _, _, _, rfl, rfl, SqT.of (hh.same _ _ ha), SqT.of (hh.same _ _ hb), by rw [ra.length, rb.length]; exact h.1, fun e => ?_, fun _ e => ?_, fun _ _ => to_tup q hh (ra.append rb) h.2⟩))
        · subst e
          cases ra
          exact q W H _ _ (Step.refl hh) (.tup hb rb) h.2
        · subst e
          cases rb
          have h2 := h.2
          rw [List.append_nil] at h2
          exact q W H _ _ (Step.refl hh) (.tup ha ra) h2
  · exact h.elim
def rdSub : RD2 := fun x y Q => match x, y with
  | .int i, .int j => Q (.int (i - j))
  | _, _ => False
theorem ok_sub : OpOk Xs mg (binaryOp .Sub) rdSub := by
  refine ⟨_, fun j => op_sub, ?_⟩
  intro W H x y dx dy Q Q' hh rx ry h q
  unfold rdSub at h
  split at h
  · cases rx
    cases ry
    exact ⟨_, _, rfl, rfl, q W H _ _ (Step.refl hh) (.int _) h⟩
  · exact h.elim
def rdMul : RD2 := fun x y Q => match x, y with
  | .int i, .int j => CMul i j ∧ Q (.int (i * j))
  | .lst xs, .int k => (-(2 ^ 63) ≤ k ∧ k < 2 ^ 63) ∧ xs.length * k.toNat ≤ sizeLine ∧ Q (.lst (List.replicate k.toNat xs).flatten)
  | _, _ => False
theorem Reps.flat {W : Wd} {vs : List V} {ds : List D} (r : Reps mg W vs ds) : ∀ n, Reps mg W (List.replicate n vs).flatten (List.replicate n ds).flatten
  | 0 => .nil
  | n + 1 => by
    rw [List.replicate_succ, List.replicate_succ, List.flatten_cons, List.flatten_cons]
    exact r.append (Reps.flat r n)
theorem ok_mul : OpOk Xs mg (binaryOp .Mult) rdMul := by
  refine ⟨_, fun j => OpR.or op_mul op_rep, ?_⟩
  intro W H x y dx dy Q Q' hh rx ry h q
  unfold rdMul at h
  split at h
  · cases rx
    cases ry
    exact .inl ⟨_, _, rfl, rfl, h.1, q W H _ _ (Step.refl hh) (.int _) h.2⟩
  · cases rx with
    | lst ha ra =>
      cases ry
      exact .inr ⟨_, _, _, rfl, rfl, hh.same _ _ ha, h.1.1, h.1.2, by rw [ra.length]; exact h.2.1, to_lst q hh (ra.flat _) h.2.2⟩
  · exact h.elim
def rdFdiv : RD2 := fun x y Q => match x, y with
  | .int i, .int j => CDivN i j ∧ Q (.int (i.fdiv j))
  | _, _ => False
theorem ok_fdiv : OpOk Xs mg (binaryOp .FloorDiv) rdFdiv := by
  refine ⟨_, fun j => op_fdivN, ?_⟩
  intro W H x y dx dy Q Q' hh rx ry h q
  unfold rdFdiv at h
  split at h
  · cases rx
    cases ry
    exact ⟨_, _, rfl, rfl, h.1, q W H _ _ (Step.refl hh) (.int _) h.2⟩
  · exact h.elim
def rdMod : RD2 := fun x y Q => match x, y with
  | .int i, .int j => 0 < j ∧ Q (.int (i % j))
  | _, _ => False
theorem ok_mod : OpOk Xs mg (binaryOp .Mod) rdMod := by
  refine ⟨_, fun j => op_mod, ?_⟩
  intro W H x y dx dy Q Q' hh rx ry h q
  unfold rdMod at h
  split at h
  · cases rx
    cases ry
    exact ⟨_, _, rfl, rfl, h.1, q W H _ _ (Step.refl hh) (.int _) h.2⟩
  · exact h.elim
def CPowW (a n : Int) : Prop := 0 ≤ n ∧ (Builtin.Int.intBits a : Int) * n ≤ 2 ^ 27
theorem op_powW {X : Cx} : OpR X (binaryOp .Pow) (rI CPowW fun i j => .int (i ^ j.toNat)) := opI fun _ _ _ _ _ _ _ hc q => PyProof.Rows.pow_int hc.1 hc.2 q
def rdPow : RD2 := fun x y Q => match x, y with
  | .int i, .int j => CPowW i j ∧ Q (.int (i ^ j.toNat))
  | _, _ => False
theorem ok_pow : OpOk Xs mg (binaryOp .Pow) rdPow := by
  refine ⟨_, fun j => op_powW, ?_⟩
  intro W H x y dx dy Q Q' hh rx ry h q
  unfold rdPow at h
  split at h
  · cases rx
    cases ry
    exact ⟨_, _, rfl, rfl, h.1, q W H _ _ (Step.refl hh) (.int _) h.2⟩
  · exact h.elim
abbrev dNeg (f : DTE) : DTE := fun ρ Q E => f ρ (fun x => match x with
  | .int i => Q (.int (-i))
  | _ => False) E
theorem de_neg {a : Expr} {f : DTE} (h : DE Xs mg Wx a f) : DE Xs mg Wx (.UnaryOp .USub a pos) (dNeg f) := by
  obtain ⟨t, h1, h2⟩ := h
  refine ⟨_, fun i => pe_un un_neg (h1 i), fun B ρ Q E hf W σ H Q' hh e x q => h2 B ρ _ E hf W σ H _ hh e x fun W1 H1 v d s1 r1 k1 => ?_⟩
  cases r1 with
  | int i => exact ⟨_, rfl, q W1 H1 _ _ s1 (.int _) k1⟩
  | _ => exact k1.elim
/-! ### order -/
def rdLt : RD2 := fun x y Q => match x, y with
  | .int i, .int j => Q (.bl (decide (i < j)))
  | .str a, .str b => Q (.bl (decide (a.cps.toList < b.cps.toList)))
  | _, _ => False
def rdLe : RD2 := fun x y Q => match x, y with
  | .int i, .int j => Q (.bl (decide (i ≤ j)))
  | .str a, .str b => Q (.bl (!decide (b.cps.toList < a.cps.toList)))
  | _, _ => False
def rdGt : RD2 := fun x y Q => match x, y with
  | .int i, .int j => Q (.bl (decide (j < i)))
  | .str a, .str b => Q (.bl (decide (b.cps.toList < a.cps.toList)))
  | _, _ => False
def rdGe : RD2 := fun x y Q => match x, y with
  | .int i, .int j => Q (.bl (decide (j ≤ i)))
  | .str a, .str b => Q (.bl (!decide (a.cps.toList < b.cps.toList)))
  | _, _ => False
theorem ok_lt : OpOk Xs mg (compareOp .Lt) rdLt := by
  refine ⟨_, fun j => OpR.or op_lt op_lt_str, ?_⟩
  intro W H x y dx dy Q Q' hh rx ry h q
  unfold rdLt at h
  split at h
  · cases rx
    cases ry
    exact .inl ⟨_, _, rfl, rfl, q W H _ _ (Step.refl hh) (.bl _) h⟩
  · cases rx
    cases ry
    exact .inr ⟨_, _, rfl, rfl, q W H _ _ (Step.refl hh) (.bl _) h⟩
  · exact h.elim
theorem ok_le : OpOk Xs mg (compareOp .LtE) rdLe := by
  refine ⟨_, fun j => OpR.or op_le op_le_str, ?_⟩
  intro W H x y dx dy Q Q' hh rx ry h q
  unfold rdLe at h
  split at h
  · cases rx
    cases ry
    exact .inl ⟨_, _, rfl, rfl, q W H _ _ (Step.refl hh) (.bl _) h⟩
  · cases rx
    cases ry
    exact .inr ⟨_, _, rfl, rfl, q W H _ _ (Step.refl hh) (.bl _) h⟩
  · exact h.elim
theorem ok_gt : OpOk Xs mg (compareOp .Gt) rdGt := by
  refine ⟨_, fun j => OpR.or op_gt op_gt_str, ?_⟩
  intro W H x y dx dy Q Q' hh rx ry h q
  unfold rdGt at h
  split at h
  · cases rx
    cases ry
    exact .inl ⟨_, _, rfl, rfl, q W H _ _ (Step.refl hh) (.bl _) h⟩
  · cases rx
    cases ry
    exact .inr ⟨_, _, rfl, rfl, q W H _ _ (Step.refl hh) (.bl _) h⟩
  · exact h.elim
/-! ### equality -/
mutual
def toPy : D → Option PyData
  | .non => some .none
  | .bl b => some (.bool b)
  | .int i => some (.int i)
  | .str x => some (.str x)
  | .tup xs => match toPys xs with
    | some ps => some (.tuple ps)
    | none => none
  | .lst xs => match toPys xs with
    | some ps => some (.list ps)
    | none => none
  | .fz _ => none
  | .dct _ => none
  | .ins _ _ => none
  | .tok => none
  | .cl _ => none
  | .fn _ _ => none
def toPys : List D → Option (List PyData)
  | [] => some []
  | x :: xs => match toPy x, toPys xs with
    | some p, some ps => some (p :: ps)
    | _, _ => none
end
mutual
theorem Rep.dp {W : Wd} {H : Hp} (hh : Holds W H) : ∀ {v : V} {d : D} {p : PyData}, Rep mg W v d → toPy d = some p → Dp mg.K H v p
  | _, _, _, .non, e => by
    unfold toPy at e
    cases e
    exact .non
  | _, _, _, .bl b, e => by
    unfold toPy at e
    cases e
    exact .bl b
  | _, _, _, .int i, e => by
    unfold toPy at e
    cases e
    exact .int i
  | _, _, _, .str x, e => by
    unfold toPy at e
    cases e
    exact .str x
  | _, _, _, .tup ha r, e => by
    unfold toPy at e
    split at e
    · rename_i ps hp
      cases e
      exact .tup (SqT.of (hh.same _ _ ha)) (Reps.dp hh r hp)
    · cases e
  | _, _, _, .lst ha r, e => by
    unfold toPy at e
    split at e
    · rename_i ps hp
      cases e
      exact .lst (SqL.of (hh.same _ _ ha)) (Reps.dp hh r hp)
    · cases e
  | _, _, _, .fz _ _, e => by
    unfold toPy at e
    cases e
  | _, _, _, .dct _ _ _, e => by
    unfold toPy at e
    cases e
  | _, _, _, .ins _ _ _ _, e => by
    unfold toPy at e
    cases e
  | _, _, _, .tok _, e => by
    unfold toPy at e
    cases e
  | _, _, _, .cl _, e => by
    unfold toPy at e
    cases e
  | _, _, _, .fn _, e => by
    unfold toPy at e
    cases e
theorem Reps.dp {W : Wd} {H : Hp} (hh : Holds W H) : ∀ {vs : List V} {ds : List D} {ps : List PyData}, Reps mg W vs ds → toPys ds = some ps → DpAll mg.K H vs ps
  | _, _, _, .nil, e => by
    unfold toPys at e
    cases e
    exact .nil
  | _, _, _, .cons r rs, e => by
    unfold toPys at e
    split at e
    · rename_i p ps h1 h2
      cases e
      exact .cons (Rep.dp hh r h1) (Reps.dp hh rs h2)
    · cases e
end
/-- two plain values -/
def eqS : D → D → Option Bool
  | .str a, .str b => some (decide (a = b))
  | .int a, .int b => some (decide (a = b))
  | .bl a, .bl b => some (decide (a = b))
  | .non, .non => some true
  | .non, .str _ => some false
  | .str _, .non => some false
  | .non, .int _ => some false
  | .int _, .non => some false
  | _, _ => none
def rdEq : RD2 := fun x y Q => match eqS x y with
  | some b => Q (.bl b)
  | none => ∃ p q, toPy x = some p ∧ toPy y = some q ∧ SeqAt.shaped p = true ∧ SeqAt.shaped q = true ∧ Q (.bl (PyData.eqv p q))
def rdNe : RD2 := fun x y Q => match eqS x y with
  | some b => Q (.bl (!b))
  | none => ∃ p q, toPy x = some p ∧ toPy y = some q ∧ SeqAt.shaped p = true ∧ SeqAt.shaped q = true ∧ Q (.bl (!PyData.eqv p q))
theorem eqS_v {W : Wd} {x y : V} {dx dy : D} {b : Bool} (rx : Rep mg W x dx) (ry : Rep mg W y dy) (h : eqS dx dy = some b) : scal x y = true ∧ decide (x = y) = b := by
  unfold eqS at h
  split at h
  all_goals first | (cases h; done) | skip
  all_goals (cases rx; cases ry; cases h; refine ⟨rfl, ?_⟩; try rfl)
  · rw [Bool.eq_iff_iff, decide_eq_true_iff, decide_eq_true_iff]
    exact ⟨fun q => V.str.inj q, fun q => by rw [q]⟩
  · rw [Bool.eq_iff_iff, decide_eq_true_iff, decide_eq_true_iff]
    exact ⟨fun q => V.int.inj q, fun q => by rw [q]⟩
  · rw [Bool.eq_iff_iff, decide_eq_true_iff, decide_eq_true_iff]
    exact ⟨fun q => V.bl.inj q, fun q => by rw [q]⟩
theorem ok_eq (hu : ∀ j, (Xs j).A.units + 64 < cLine) (hK : ∀ j, (Xs j).K = mg.K := by intro _; rfl) : OpOk Xs mg (compareOp .Eq) rdEq := by
  refine ⟨fun x y H Q => rEq x y H Q ∨ rEqD mg.K x y H Q, fun j => OpR.or op_eq (by rw [← hK j]; exact op_eqD (hu j)), ?_⟩
  intro W H x y dx dy Q Q' hh rx ry h q
  unfold rdEq at h
  split at h
  · rename_i b hb
    obtain ⟨h1, h2⟩ := eqS_v rx ry hb
    exact .inl ⟨h1, by rw [h2]; exact q W H _ _ (Step.refl hh) (.bl _) h⟩
  · obtain ⟨p, p', h1, h2, h3, h4, h5⟩ := h
    exact .inr ⟨p, p', rx.dp hh h1, ry.dp hh h2, h3, h4, q W H _ _ (Step.refl hh) (.bl _) h5⟩
theorem ok_ne (hu : ∀ j, (Xs j).A.units + 64 < cLine) (hK : ∀ j, (Xs j).K = mg.K := by intro _; rfl) : OpOk Xs mg (compareOp .NotEq) rdNe := by
  refine ⟨fun x y H Q => rNe x y H Q ∨ rNeD mg.K x y H Q, fun j => OpR.or op_ne (by rw [← hK j]; exact op_neD (hu j)), ?_⟩
  intro W H x y dx dy Q Q' hh rx ry h q
  unfold rdNe at h
  split at h
  · rename_i b hb
    obtain ⟨h1, h2⟩ := eqS_v rx ry hb
    exact .inl ⟨h1, by rw [h2]; exact q W H _ _ (Step.refl hh) (.bl _) h⟩
  · obtain ⟨p, p', h1, h2, h3, h4, h5⟩ := h
    exact .inr ⟨p, p', rx.dp hh h1, ry.dp hh h2, h3, h4, q W H _ _ (Step.refl hh) (.bl _) h5⟩
/-- is None, is not None -/
def isNon : D → Bool
  | .non => true
  | _ => false
theorem isNon_v {W : Wd} {x : V} {d : D} (r : Rep mg W x d) : decide (x = .non) = isNon d := by
  cases r <;> rfl
def rdIs : RD2 := fun x y Q => match y with
  | .non => Q (.bl (isNon x))
  | _ => False
theorem ok_is : OpOk Xs mg (compareOp .Is) rdIs := by
  refine ⟨_, fun j => op_isN, ?_⟩
  intro W H x y dx dy Q Q' hh rx ry h q
  cases ry with
  | non => exact ⟨rfl, by rw [isNon_v rx]; exact q W H _ _ (Step.refl hh) (.bl _) h⟩
  | _ => exact h.elim
/-! ### in -/
/-- the texts and numbers that stand in a row, as values -/
def flatD : D → Option V
  | .non => some .non
  | .bl b => some (.bl b)
  | .int i => some (.int i)
  | .str x => some (.str x)
  | _ => none
def flatsD : List D → Option (List V)
  | [] => some []
  | x :: xs => match flatD x, flatsD xs with
    | some p, some ps => some (p :: ps)
    | _, _ => none
theorem flat_v {W : Wd} {x v : V} {d : D} (r : Rep mg W x d) (h : flatD d = some v) : x = v := by
  cases r <;> first | (cases h; rfl) | cases h
theorem flats_v {W : Wd} : ∀ {xs vs : List V} {ds : List D}, Reps mg W xs ds → flatsD ds = some vs → xs = vs
  | _, _, _, .nil, h => by
    cases h
    rfl
  | _, _, _, .cons r rs, h => by
    unfold flatsD at h
    split at h
    · rename_i p ps h1 h2
      cases h
      rw [flat_v r h1, flats_v rs h2]
    · cases h
/-- x in y: a sign in a text, a text in a row of texts -/
def inD (x y : D) : Option Bool := match x, y with
  | .str a, .str z => match a.cps.toList with
    | [c] => some (decide (c ∈ z.cps.toList))
    | _ => none
  | x, .lst ys => match flatD x, flatsD ys with
    | some v, some vs => if flatV v = true ∧ vs.all flatV = true then some (inV v vs) else none
    | _, _ => none
  | x, .tup ys => match flatD x, flatsD ys with
    | some v, some vs => if flatV v = true ∧ vs.all flatV = true then some (inV v vs) else none
    | _, _ => none
  | _, _ => none
def rdIn : RD2 := fun x y Q => match inD x y with
  | some b => Q (.bl b)
  | none => False
def rdNotIn : RD2 := fun x y Q => match inD x y with
  | some b => Q (.bl (!b))
  | none => False
theorem str_one {a : Str} {c : Nat} (h : a.cps.toList = [c]) : a = ⟨#[c]⟩ := by
  cases a with
  | mk cps =>
    have e : cps = #[c] := by
      apply Array.ext'
      simpa using h
    rw [e]
theorem inD_v {W : Wd} {H : Hp} {x y : V} {dx dy : D} {b : Bool} (hh : Holds W H) (rx : Rep mg W x dx) (ry : Rep mg W y dy) (h : inD dx dy = some b) :
    (∃ (c : Nat) (z : Str), x = .str ⟨#[c]⟩ ∧ y = .str z ∧ decide (c ∈ z.cps.toList) = b) ∨ ∃ p xs, y = .ref p ∧ (SqL mg.K H p xs ∨ SqT mg.K H p xs) ∧ flatV x = true ∧ xs.all flatV = true ∧ inV x xs = b := by
  unfold inD at h
  split at h
  · cases rx
    cases ry
    split at h
    · rename_i c hc
      cases h
      exact .inl ⟨c, _, by rw [str_one hc], rfl, rfl⟩
    · cases h
  · cases ry with
    | lst ha ra =>
      split at h
      · rename_i v vs h1 h2
        have e1 := flat_v rx h1
        have e2 := flats_v ra h2
        subst e1 e2
        split at h
        · rename_i hf
          cases h
          exact .inr ⟨_, _, rfl, .inl (SqL.of (hh.same _ _ ha)), hf.1, hf.2, rfl⟩
        · cases h
      · cases h
  · cases ry with
    | tup ha ra =>
      split at h
      · rename_i v vs h1 h2
        have e1 := flat_v rx h1
        have e2 := flats_v ra h2
        subst e1 e2
        split at h
        · rename_i hf
          cases h
          exact .inr ⟨_, _, rfl, .inr (SqT.of (hh.same _ _ ha)), hf.1, hf.2, rfl⟩
        · cases h
      · cases h
  · cases h
theorem ok_in (hK : ∀ j, (Xs j).K = mg.K := by intro _; rfl) : OpOk Xs mg (compareOp .In) rdIn := by
  refine ⟨_, fun j => OpR.or op_in_sign (op_inK (hK j)), ?_⟩
  intro W H x y dx dy Q Q' hh rx ry h q
  unfold rdIn at h
  split at h
  · rename_i b hb
    rcases inD_v hh rx ry hb with ⟨c, z, e1, e2, e3⟩ | ⟨p, xs, e1, e2, e3, e4, e5⟩
    · exact .inl ⟨c, z, e1, e2, by rw [e3]; exact q W H _ _ (Step.refl hh) (.bl _) h⟩
    · exact .inr ⟨p, xs, e1, e2, e3, e4, by
        show Q' (.bl (inV x xs)) H
        rw [e5]
        exact q W H _ _ (Step.refl hh) (.bl _) h⟩
  · exact h.elim
theorem ok_notIn (hK : ∀ j, (Xs j).K = mg.K := by intro _; rfl) : OpOk Xs mg (compareOp .NotIn) rdNotIn := by
  refine ⟨_, fun j => OpR.or op_notIn_sign (op_notInK (hK j)), ?_⟩
  intro W H x y dx dy Q Q' hh rx ry h q
  unfold rdNotIn at h
  split at h
  · rename_i b hb
    rcases inD_v hh rx ry hb with ⟨c, z, e1, e2, e3⟩ | ⟨p, xs, e1, e2, e3, e4, e5⟩
    · exact .inl ⟨c, z, e1, e2, by rw [e3]; exact q W H _ _ (Step.refl hh) (.bl _) h⟩
    · exact .inr ⟨p, xs, e1, e2, e3, e4, by
        show Q' (.bl (!inV x xs)) H
        rw [e5]
        exact q W H _ _ (Step.refl hh) (.bl _) h⟩
  · exact h.elim
end
end FP
/-! FP5: built-in functions by data. -/
namespace FP
open PySem L2
variable [Tabl]
section
variable {ι : Type} {Xs : ι → Cx} {mg : Gm} {Wx : WX} {pos : Pos}
def rdLen : RDL := fun ds Q => match ds with
  | [.str z] => z.length ≤ sizeLine ∧ Q (.int z.length)
  | [.lst xs] => Q (.int xs.length)
  | [.fz xs] => Q (.int xs.length)
  | [.tup xs] => Q (.int xs.length)
  | [.dct kvs] => Q (.int kvs.length)
  | _ => False
theorem call_lenK {X : Cx} {K : PySem.W.Frag} (h : X.K = K) : CallR X (.builtin "len") (fun xs H Q => ∃ x n, xs = [x] ∧ LenV K x H n ∧ Q (.int n) H) := by
  subst h
  exact call_len
theorem call_lenF {X : Cx} : CallR X (.builtin "len") (fun xs H Q => ∃ a kvs, xs = [V.ref a] ∧ Rd H a (.dK kvs) ∧ Q (.int kvs.length) H) := by
  intro pins s σ H xs us Q I r h
  obtain ⟨a, kvs, rfl, ha, q⟩ := h
  rw [Vals.ref1 r]
  exact d_len I ha fun t s' I' => ⟨.int kvs.length, H, I', ⟨t, rfl⟩, q⟩
theorem ok_len (hK : ∀ j, (Xs j).K = mg.K := by intro _; rfl) : CallOk Xs mg (.builtin "len") rdLen := by
  refine ⟨_, fun j => CallR.or (call_lenK (hK j)) call_lenF, ?_⟩
  intro W H vs ds Q Q' hh r h q
  unfold rdLen at h
  split at h
  · cases r with
    | cons r rs =>
      cases rs
      cases r
      exact .inl ⟨_, _, rfl, ⟨h.1, rfl⟩, q W H _ _ (Step.refl hh) (.int _) h.2⟩
  · cases r with
    | cons r rs =>
      cases rs
      cases r with
      | lst ha ra => exact .inl ⟨_, _, rfl, .inl ⟨_, SqL.of (hh.same _ _ ha), rfl⟩, by rw [ra.length]; exact q W H _ _ (Step.refl hh) (.int _) h⟩
  · cases r with
    | cons r rs =>
      cases rs
      cases r with
      | fz ha ra => exact .inl ⟨_, _, rfl, .inl ⟨_, hh.same.seq ha, rfl⟩, by rw [ra.length]; exact q W H _ _ (Step.refl hh) (.int _) h⟩
  · cases r with
    | cons r rs =>
      cases rs
      cases r with
      | tup ha ra => exact .inl ⟨_, _, rfl, .inr ⟨_, SqT.of (hh.same _ _ ha), rfl⟩, by rw [ra.length]; exact q W H _ _ (Step.refl hh) (.int _) h⟩
  · cases r with
    | cons r rs =>
      cases rs
      cases r with
      | dct ha hk ra =>
        refine .inr ⟨_, _, rfl, .inr ⟨_, hh.same _ _ ha⟩, ?_⟩
        have e := congrArg List.length hk
        simp only [List.length_map] at e
        rw [e]
        exact q W H _ _ (Step.refl hh) (.int _) h
  · exact h.elim
def rdInt : RDL := fun ds Q => match ds with
  | [.int i] => Q (.int i)
  | [.bl b] => Q (.int (if b then 1 else 0))
  | [.str a] => ∃ n, PySem.intText? a = some n ∧ a.length ≤ 640 ∧ Q (.int n)
  | _ => False
theorem ok_int : CallOk Xs mg (.type "int") rdInt := by
  refine ⟨_, fun j => CallR.or call_int1 call_int_str, ?_⟩
  intro W H vs ds Q Q' hh r h q
  unfold rdInt at h
  split at h
  · cases r with
    | cons r rs =>
      cases rs
      cases r
      exact .inl (.inl ⟨_, rfl, q W H _ _ (Step.refl hh) (.int _) h⟩)
  · cases r with
    | cons r rs =>
      cases rs
      cases r
      exact .inl (.inr ⟨_, rfl, q W H _ _ (Step.refl hh) (.int _) h⟩)
  · cases r with
    | cons r rs =>
      cases rs
      cases r
      obtain ⟨n, h1, h2, h3⟩ := h
      exact .inr ⟨_, n, rfl, h1, h2, q W H _ _ (Step.refl hh) (.int _) h3⟩
  · exact h.elim
def rdAbs : RDL := fun ds Q => match ds with
  | [.int i] => Q (.int (if i < 0 then -i else i))
  | _ => False
theorem ok_abs : CallOk Xs mg (.builtin "abs") rdAbs := by
  refine ⟨_, fun j => call_abs, ?_⟩
  intro W H vs ds Q Q' hh r h q
  unfold rdAbs at h
  split at h
  · cases r with
    | cons r rs =>
      cases rs
      cases r
      exact ⟨_, rfl, q W H _ _ (Step.refl hh) (.int _) h⟩
  · exact h.elim
def rdMax : RDL := fun ds Q => match ds with
  | [.int i, .int j] => Q (.int (if j > i then j else i))
  | _ => False
def rdMin : RDL := fun ds Q => match ds with
  | [.int i, .int j] => Q (.int (if j < i then j else i))
  | _ => False
theorem ok_max (hc : ∀ j, (Xs j).calm = true := by intro _; rfl) : CallOk Xs mg (.builtin "max") rdMax := by
  refine ⟨_, fun j => call_max2 (hc j), ?_⟩
  intro W H vs ds Q Q' hh r h q
  unfold rdMax at h
  split at h
  · cases r with
    | cons r rs =>
      cases rs with
      | cons r2 rs =>
        cases rs
        cases r
        cases r2
        exact ⟨_, _, rfl, q W H _ _ (Step.refl hh) (.int _) h⟩
  · exact h.elim
theorem ok_min (hc : ∀ j, (Xs j).calm = true := by intro _; rfl) : CallOk Xs mg (.builtin "min") rdMin := by
  refine ⟨_, fun j => call_min2 (hc j), ?_⟩
  intro W H vs ds Q Q' hh r h q
  unfold rdMin at h
  split at h
  · cases r with
    | cons r rs =>
      cases rs with
      | cons r2 rs =>
        cases rs
        cases r
        cases r2
        exact ⟨_, _, rfl, q W H _ _ (Step.refl hh) (.int _) h⟩
  · exact h.elim
def rdStr : RDL := fun ds Q => match ds with
  | [.int i] => i.natAbs.log2 < 1920 ∧ Q (.str (toString i))
  | [.str a] => Q (.str a)
  | _ => False
theorem ok_str : CallOk Xs mg (.type "str") rdStr := by
  refine ⟨_, fun j => CallR.or call_str_int SkE.call_str_str, ?_⟩
  intro W H vs ds Q Q' hh r h q
  unfold rdStr at h
  split at h
  · cases r with
    | cons r rs =>
      cases rs
      cases r
      exact .inl ⟨_, rfl, h.1, q W H _ _ (Step.refl hh) (.str _) h.2⟩
  · cases r with
    | cons r rs =>
      cases rs
      cases r
      exact .inr ⟨_, rfl, q W H _ _ (Step.refl hh) (.str _) h⟩
  · exact h.elim
/-- truths as data -/
def blsD : List D → Option (List Bool)
  | [] => some []
  | .bl b :: r => match blsD r with
    | some bs => some (b :: bs)
    | none => none
  | _ :: _ => none
theorem bls_v {W : Wd} : ∀ {vs : List V} {ds : List D} {bs : List Bool}, Reps mg W vs ds → blsD ds = some bs → vs = bs.map V.bl
  | _, _, _, .nil, h => by
    cases h
    rfl
  | _, _, _, .cons r rs, h => by
    cases r with
    | bl b =>
      unfold blsD at h
      split at h
      · rename_i bs' hb
        cases h
        rw [bls_v rs hb]
        rfl
      · cases h
    | _ => cases h
theorem blsD_map (bs : List Bool) : blsD (bs.map D.bl) = some bs := by
  induction bs with
  | nil => rfl
  | cons b bs ih =>
    show (match blsD (bs.map D.bl) with | some bs => some (b :: bs) | none => none) = _
    rw [ih]
def rdAll : RDL := fun ds Q => match ds with
  | [.lst xs] => ∃ bs, blsD xs = some bs ∧ Q (.bl (bs.all id))
  | _ => False
theorem cr_allK {X : Cx} {K : PySem.W.Frag} (h : X.K = K) (hc : X.calm = true) : CallR X (.builtin "all") (rAll K) := by
  subst h
  exact cr_all hc
theorem ok_all (hK : ∀ j, (Xs j).K = mg.K := by intro _; rfl) (hc : ∀ j, (Xs j).calm = true := by intro _; rfl) : CallOk Xs mg (.builtin "all") rdAll := by
  refine ⟨_, fun j => cr_allK (hK j) (hc j), ?_⟩
  intro W H vs ds Q Q' hh r h q
  unfold rdAll at h
  split at h
  · cases r with
    | cons r rs =>
      cases rs
      cases r with
      | lst ha ra =>
        obtain ⟨bs, h1, h2⟩ := h
        have e := bls_v ra h1
        subst e
        exact ⟨_, bs, rfl, SqL.of (hh.same _ _ ha), q W H _ _ (Step.refl hh) (.bl _) h2⟩
  · exact h.elim
/-! ### list(x), tuple(x) -/
def rListS : List V → Hp → VK → Prop := fun xs H Q => ∃ z : Str, xs = [.str z] ∧ z.cps.size ≤ sizeLine ∧ ∀ l, H l = none → Q (.ref l) (upd H l (.lst (z.cps.toList.map fun c => V.str ⟨#[c]⟩)))
theorem call_listS {X : Cx} (hh : X.A.handled = none) : CallR X (.type "list") rListS := by
  intro pins s σ H xs us Q I r h
  obtain ⟨z, rfl, hz, q⟩ := h
  obtain ⟨u, rfl, rx⟩ := vals1 r
  obtain ⟨t, rfl⟩ := (show ∃ t, u = Value.str z t from rx)
  refine call_list_str hh z t (fun h' tk acc' c' kp e it => ?_) hz
  have rv : Vals (z.cps.toList.map fun c => V.str ⟨#[c]⟩) acc'.toList := by
    have key : ∀ (cs : List Nat) (ws : List Value), cs.length = ws.length → (∀ (j : Nat) (v : Value), ws[j]? = some v → ∃ c u, cs[j]? = some c ∧ v = Value.str ⟨#[c]⟩ u) → Vals (cs.map fun c => V.str ⟨#[c]⟩) ws := by
      intro cs
      induction cs with
      | nil =>
        intro ws hl _
        cases ws with
        | nil => exact .nil
        | cons => cases hl
      | cons c cs ih =>
        intro ws hl hw
        cases ws with
        | nil => cases hl
        | cons v ws =>
          obtain ⟨c', u, h1, h2⟩ := hw 0 v rfl
          cases h1
          exact .cons ⟨u, h2⟩ (ih ws (Nat.succ.inj hl) fun j v' hj => hw (j + 1) v' hj)
    refine key _ _ ?_ fun j v hj => ?_
    · rw [Array.length_toList, Array.length_toList]
      exact it.1.symm
    · rw [Array.getElem?_toList] at hj
      obtain ⟨c, u, h1, h2⟩ := it.2 j v hj
      exact ⟨c, u, by rw [Array.getElem?_toList]; exact h1, h2⟩
  refine ⟨.ref s.heap.objs.size, _, I.laid (t' := tk) kp (Nat.le_refl _) (show ObjOk X.prog X.w _ h' _ (.lst (z.cps.toList.map fun c => V.str ⟨#[c]⟩)) from ⟨?_, acc'.toList, c', rv, ?_⟩), rfl, q _ (I.hok.fresh (Nat.le_refl _))⟩
  · rw [List.length_map, Array.length_toList]
    exact hz
  · simpa using e
def rdList : RDL := fun ds Q => match ds with
  | [.lst xs] => Q (.lst xs)
  | [.tup xs] => Q (.lst xs)
  | [.str z] => z.cps.size ≤ sizeLine ∧ Q (.lst (signsD z))
  | [.dct kvs] => Q (.lst (kvs.map fun kv => match kv.1 with | .inl i => .int i | .inr x => .str x))
  | _ => False
theorem call_listK {X : Cx} {K : PySem.W.Frag} (h : X.K = K) : CallR X (.type "list") (fun xs H Q => ∃ p ys, xs = [.ref p] ∧ (SqL K H p ys ∨ SqT K H p ys) ∧ ∀ l, H l = none → Q (.ref l) (upd H l (.lst ys))) := by
  subst h
  exact call_list_of
theorem signs_reps {W : Wd} (z : Str) : Reps mg W (z.cps.toList.map fun c => V.str ⟨#[c]⟩) (signsD z) := by
  unfold signsD
  induction z.cps.toList with
  | nil => exact .nil
  | cons c r ih => exact .cons (.str _) ih
theorem keys_reps {W : Wd} : ∀ es : List (Key × D), Reps mg W ((es.map (·.1)).map kV) (es.map fun kv => match kv.1 with | .inl i => .int i | .inr x => .str x)
  | [] => .nil
  | (.inl i, _) :: r => .cons (.int i) (keys_reps r)
  | (.inr y, _) :: r => .cons (.str y) (keys_reps r)
theorem ok_list (hK : ∀ j, (Xs j).K = mg.K := by intro _; rfl) (ha : ∀ j, (Xs j).A.handled = none) (hc : ∀ j, (Xs j).calm = true := by intro _; rfl) : CallOk Xs mg (.type "list") rdList := by
  refine ⟨_, fun j => CallR.or (call_listK (hK j)) (CallR.or (call_listS (ha j)) (call_listD (hc j))), ?_⟩
  intro W H vs ds Q Q' hh r h q
  unfold rdList at h
  split at h
  · cases r with
    | cons r rs =>
      cases rs
      cases r with
      | lst ha ra => exact .inl ⟨_, _, rfl, .inl (SqL.of (hh.same _ _ ha)), to_lst q hh ra h⟩
  · cases r with
    | cons r rs =>
      cases rs
      cases r with
      | tup ha ra => exact .inl ⟨_, _, rfl, .inr (SqT.of (hh.same _ _ ha)), to_lst q hh ra h⟩
  · cases r with
    | cons r rs =>
      cases rs
      cases r with
      | str => exact .inr (.inl ⟨_, rfl, h.1, to_lst q hh (signs_reps _) h.2⟩)
  · cases r with
    | cons r rs =>
      cases rs
      cases r with
      | @dct a ob kvs es ha hk ra =>
        refine .inr (.inr ⟨_, _, rfl, .inr ⟨_, hh.same _ _ ha⟩, to_lst q hh ?_ h⟩)
        have e : (kvs.map fun kv => kV kv.1) = (kvs.map (·.1)).map kV := by simp
        rw [e, hk]
        exact keys_reps _
  · exact h.elim
def rdTuple : RDL := fun ds Q => match ds with
  | [.lst xs] => Q (.tup xs)
  | [.tup xs] => Q (.tup xs)
  | _ => False
theorem call_tupleK {X : Cx} {K : PySem.W.Frag} (h : X.K = K) : CallR X (.type "tuple") (fun xs H Q => ∃ p ys, xs = [.ref p] ∧ ((SqL K H p ys ∧ ∀ l, H l = none → Q (.ref l) (upd H l (.tup ys))) ∨ (SqT K H p ys ∧ Q (.ref p) H))) := by
  subst h
  exact call_tuple_of
theorem ok_tuple (hK : ∀ j, (Xs j).K = mg.K := by intro _; rfl) : CallOk Xs mg (.type "tuple") rdTuple := by
  refine ⟨_, fun j => call_tupleK (hK j), ?_⟩
  intro W H vs ds Q Q' hh r h q
  unfold rdTuple at h
  split at h
  · cases r with
    | cons r rs =>
      cases rs
      cases r with
      | lst ha ra => exact ⟨_, _, rfl, .inl ⟨SqL.of (hh.same _ _ ha), to_tup q hh ra h⟩⟩
  · cases r with
    | cons r rs =>
      cases rs
      cases r with
      | tup ha ra => exact ⟨_, _, rfl, .inr ⟨SqT.of (hh.same _ _ ha), q W H _ _ (Step.refl hh) (.tup ha ra) h⟩⟩
  · exact h.elim
/-! ### isinstance with a built-in class -/
def tyName : D → Option String
  | .non => some "NoneType"
  | .bl _ => some "bool"
  | .int _ => some "int"
  | .str _ => some "str"
  | .tup _ => some "tuple"
  | .lst _ => some "list"
  | .dct _ => some "dict"
  | .fz _ => none
  | .ins _ _ => none
  | .tok => some "list"
  | .cl _ => none
  | .fn _ _ => none
abbrev dIsi (T : String) (f : DTE) : DTE := fun ρ Q E => f ρ (fun x => match tyName x with
  | some n => ∃ b, kitB n T = some b ∧ Q (.bl b)
  | none => False) E
theorem tyName_v {W : Wd} {H : Hp} {x : V} {d : D} {n : String} (hh : Holds W H) (r : Rep mg W x d) (h : tyName d = some n) : TyX mg.K H x (.type n) := by
  cases r with
  | non => cases h; exact .base .non
  | bl b => cases h; exact .base (.bl b)
  | int i => cases h; exact .base (.int i)
  | str x => cases h; exact .base (.str x)
  | tup ha _ => cases h; exact .base (.tup (hh.same _ _ ha))
  | lst ha _ => cases h; exact .base (.lst (hh.same _ _ ha))
  | dct ha _ _ => cases h; exact .fDict (hh.same _ _ ha)
  | fz _ _ => cases h
  | ins _ _ _ _ => cases h
  | tok t =>
    cases h
    obtain ⟨_, x, y, z, e⟩ := hh.tok _ t
    exact .base (.lst e)
  | cl _ => cases h
  | fn _ => cases h
theorem call_isiK2 {X : Cx} {K : PySem.W.Frag} (h : X.K = K) : CallR X (.builtin "isinstance") (rIsi K) := by
  subst h
  exact call_isi
theorem de_isi {e : Expr} {f : DTE} {T : Str} {n : String} {p p2 : Pos} (h : DE Xs mg Wx e f) (hm : mg.mg "isinstance" = none) (hmT : mg.mg T = none) (hT : bootBuiltins T = some (.type n)) (hv : bootBuiltins "isinstance" = some (.builtin "isinstance"))
    (hK : ∀ j, (Xs j).K = mg.K := by intro _; rfl) (hM : ∀ j, (Xs j).mg = mg.mg := by intro _; rfl) (hg : ∀ j, Gl (Xs j) "isinstance" := by intro _; rfl) (hgT : ∀ j, Gl (Xs j) T := by intro _; rfl) (hn : T ≠ "__name__" := by decide) (hd : (T == ("__debug__" : Str)) = false := by decide)
    (he : ∀ j, starEach [e, .Name T p2] (Xs j).env = (false, eval e (Xs j).env) :: starEach [.Name T p2] (Xs j).env := by intro _; rfl) (he2 : ∀ j, starEach [.Name T p2] (Xs j).env = [(false, eval (.Name T p2) (Xs j).env)] := by intro _; rfl)
    (hpl : ∀ j, (backTo pos (starEach [.Name T p2] (Xs j).env)).any (·.1) = false := by intro _; rfl) : DE Xs mg Wx (.Call (.Name "isinstance" p) [e, .Name T p2] [] pos) (dIsi n f) := by
  obtain ⟨t, h1, h2⟩ := h
  refine ⟨tCB (rIsi mg.K) (tCons t (tCons (tC (.ty n)) tNil)), fun j => ?_, ?_⟩
  · exact pe_callB (call_isiK2 (hK j)) (hg j) (by rw [hM j]; exact hm) hv (pa_cons (h1 j) (pa_cons (pe_bltn (v := .ty n) (hgT j) (by rw [hM j]; exact hmT) hT rfl hn hd) pa_nil (he2 j)) (he j)) (by decide) (by decide) (he j) (hpl j)
  · intro B ρ Q E hf W σ H Q' hh e x q
    refine h2 B ρ _ E hf W σ H _ hh e x fun W1 H1 v d s1 r1 k1 => ?_
    dsimp only at k1
    split at k1
    · rename_i m hm
      obtain ⟨b, hb, hq⟩ := k1
      exact ⟨v, .ty n, .type m, .type n, b, rfl, .ty n, tyName_v s1.holds r1 hm, kit_ty hb, q W1 H1 _ _ s1 (.bl b) hq⟩
    · exact k1.elim
/-! ### items, slices, join -/
def rdIx : RD2 := fun x y Q => match x, y with
  | .lst xs, .int i => ∃ d, atI xs i = some d ∧ Q d
  | .fz xs, .int i => ∃ d, atI xs i = some d ∧ Q d
  | .tup xs, .int i => ∃ d, atI xs i = some d ∧ Q d
  | .str z, .int i => ∃ c, z.length ≤ sizeLine ∧ atI z.cps.toList i = some c ∧ Q (.str ⟨#[c]⟩)
  | .tok, .int i => (0 ≤ i ∧ i < 3) ∧ ∀ j, Q (.int j)
  | _, _ => False
theorem Reps.atI {W : Wd} {vs : List V} {ds : List D} {i : Int} {d : D} (r : Reps mg W vs ds) (h : atI ds i = some d) : ∃ v, L2.atI vs i = some v ∧ Rep mg W v d := by
  unfold L2.atI at h ⊢
  rw [r.length]
  cases q : ixN ds.length i with
  | none =>
    rw [q] at h
    cases h
  | some j =>
    rw [q] at h
    exact r.get h
theorem ix_seqK {X : Cx} {K : PySem.W.Frag} (h : X.K = K) : IxR X (rIx K) := by
  subst h
  exact ix_seq
theorem de_ix {a b : Expr} {fa fb : DTE} (ha : DE Xs mg Wx a fa) (hb : DE Xs mg Wx b fb) (hs : PlainIx b := by exact fun _ _ => rfl) (hK : ∀ j, (Xs j).K = mg.K := by intro _; rfl) : DE Xs mg Wx (.Subscript a b pos) (dOp rdIx fa fb) := by
  obtain ⟨ta, a1, a2⟩ := ha
  obtain ⟨tb, b1, b2⟩ := hb
  refine ⟨_, fun j => pe_ix (ix_seqK (hK j)) (a1 j) (b1 j) hs, Cp.op ?_ a2 b2⟩
  intro W H x y dx dy Q Q' hh rx ry h q
  unfold rdIx at h
  split at h
  · obtain ⟨d, h1, h2⟩ := h
    cases ry
    cases rx with
    | lst ha ra =>
      obtain ⟨v, g1, g2⟩ := ra.atI h1
      exact .inl ⟨_, _, _, v, rfl, rfl, SqL.of (hh.same _ _ ha), g1, q W H _ _ (Step.refl hh) g2 h2⟩
  · obtain ⟨d, h1, h2⟩ := h
    cases ry
    cases rx with
    | fz ha ra =>
      obtain ⟨v, g1, g2⟩ := ra.atI h1
      exact .inl ⟨_, _, _, v, rfl, rfl, hh.same.seq ha, g1, q W H _ _ (Step.refl hh) g2 h2⟩
  · obtain ⟨d, h1, h2⟩ := h
    cases ry
    cases rx with
    | tup ha ra =>
      obtain ⟨v, g1, g2⟩ := ra.atI h1
      exact .inr (.inl ⟨_, _, _, v, rfl, rfl, SqT.of (hh.same _ _ ha), g1, q W H _ _ (Step.refl hh) g2 h2⟩)
  · obtain ⟨c, h1, h2, h3⟩ := h
    cases ry
    cases rx
    exact .inr (.inr ⟨_, _, c, rfl, rfl, h1, h2, q W H _ _ (Step.refl hh) (.str _) h3⟩)
  · rename_i i
    obtain ⟨h1, h2⟩ := h
    cases ry with
    | int =>
      cases rx with
      | tok t =>
        obtain ⟨_, x, y, z, e⟩ := hh.tok _ t
        have hj : ∃ j, L2.atI [V.int x, V.int y, V.int z] i = some (.int j) := by
          have hi : i = 0 ∨ i = 1 ∨ i = 2 := by omega
          rcases hi with rfl | rfl | rfl
          · exact ⟨x, rfl⟩
          · exact ⟨y, rfl⟩
          · exact ⟨z, rfl⟩
        obtain ⟨j, hj⟩ := hj
        exact .inl ⟨_, _, _, _, rfl, rfl, SqL.of e, hj, q W H _ _ (Step.refl hh) (.int j) (h2 j)⟩
  · exact h.elim
/-- texts as data -/
def strsD : List D → Option (List Str)
  | [] => some []
  | .str b :: r => match strsD r with
    | some bs => some (b :: bs)
    | none => none
  | _ :: _ => none
theorem strs_v {W : Wd} : ∀ {vs : List V} {ds : List D} {bs : List Str}, Reps mg W vs ds → strsD ds = some bs → vs = bs.map V.str
  | _, _, _, .nil, h => by
    cases h
    rfl
  | _, _, _, .cons r rs, h => by
    cases r with
    | str b =>
      unfold strsD at h
      split at h
      · rename_i bs' hb
        cases h
        rw [strs_v rs hb]
        rfl
      · cases h
    | _ => cases h
theorem strsD_map (bs : List Str) : strsD (bs.map D.str) = some bs := by
  induction bs with
  | nil => rfl
  | cons b bs ih =>
    show (match strsD (bs.map D.str) with | some bs => some (b :: bs) | none => none) = _
    rw [ih]
abbrev dJoin (fo fe : DTE) : DTE := fun ρ Q E => fo ρ (fun x => match x with
  | .str a => fe ρ (fun y => match y with
    | .lst xs => ∃ ys, strsD xs = some ys ∧ (ys.map (·.length)).sum + ys.length * a.length ≤ 16777216 ∧ Q (.str (Txt.join a ys))
    | .tup xs => ∃ ys, strsD xs = some ys ∧ (ys.map (·.length)).sum + ys.length * a.length ≤ 16777216 ∧ Q (.str (Txt.join a ys))
    | _ => False) E
  | _ => False) E
theorem de_join {o e : Expr} {fo fe : DTE} {apos : Pos} (ho : DE Xs mg Wx o fo) (he : DE Xs mg Wx e fe) (hK : ∀ j, (Xs j).K = mg.K := by intro _; rfl) (hs : ∀ j, starEach [e] (Xs j).env = [(false, eval e (Xs j).env)] := by intro _; rfl)
    (hb : ∀ j, attributeBase o "join" (Xs j).env (eval o (Xs j).env) = eval o (Xs j).env := by intro _; rfl) (hl : (apos.endLine == pos.line) = true := by rfl) : DE Xs mg Wx (.Call (.Attribute o "join" apos) [e] [] pos) (dJoin fo fe) := by
  obtain ⟨ta, a1, a2⟩ := ho
  obtain ⟨tb, b1, b2⟩ := he
  refine ⟨tM1 (fun x xs H Q => ∃ a p, ∃ ys : List Str, x = .str a ∧ xs = [.ref p] ∧ (SqL mg.K H p (ys.map V.str) ∨ SqT mg.K H p (ys.map V.str)) ∧ (ys.map (·.length)).sum + ys.length * a.length ≤ 16777216 ∧ Q (.str (Txt.join a ys)) H) ta tb, fun j => ?_, ?_⟩
  · have z := pe_join (apos := apos) (pos := pos) (a1 j) (b1 j) (hs j) (hb j) hl
    rw [hK j] at z
    exact z
  · intro B ρ Q E h W σ H Q' hh e x q
    refine a2 B ρ _ E h W σ H _ hh e x fun W1 H1 v1 d1 s1 r1 h1 => ?_
    cases r1 with
    | str a =>
      refine ⟨⟨a, rfl⟩, b2 B ρ _ E h1 W1 σ H1 _ s1.holds (e.step s1) (x.step s1) fun W2 H2 v2 d2 s2 r2 h2 => ?_⟩
      cases r2 with
      | lst ha ra =>
        obtain ⟨ys, g1, g2, g3⟩ := h2
        have e' := strs_v ra g1
        subst e'
        exact ⟨a, _, ys, rfl, rfl, .inl (SqL.of (s2.holds.same _ _ ha)), g2, q W2 H2 _ _ (s1.trans s2) (.str _) g3⟩
      | tup ha ra =>
        obtain ⟨ys, g1, g2, g3⟩ := h2
        have e' := strs_v ra g1
        subst e'
        exact ⟨a, _, ys, rfl, rfl, .inr (SqT.of (s2.holds.same _ _ ha)), g2, q W2 H2 _ _ (s1.trans s2) (.str _) g3⟩
      | _ => exact h2.elim
    | _ => exact h1.elim
end
end FP
/-! FP6: repr, lists of one's own, the end of a law. -/
namespace FP
open PySem L2
variable [Tabl]
section
variable {ι : Type} {Xs : ι → Cx} {mg : Gm} {Wx : WX} {pos : Pos}
/-! ### repr -/
def rRepr (K : PySem.W.Frag) : List V → Hp → VK → Prop := fun xs H Q => ∃ x d, xs = [x] ∧ Dp K H x d ∧ d.showable = true ∧ d.hasDict = false ∧ d.depth ≤ 60 ∧ d.shown.length ≤ sizeLine ∧ Q (.str d.shown) H
theorem call_reprD {X : Cx} {K : PySem.W.Frag} (hK : X.K = K) (hg : X.A.guards = some []) (hu : X.A.units + 64 < cLine) : CallR X (.builtin "repr") (rRepr K) := by
  subst hK
  intro pins s σ H xs us Q I r h
  obtain ⟨x, d, rfl, dp, hs, hd, hdp, hl, q⟩ := h
  obtain ⟨u, rfl, rx⟩ := vals1 r
  obtain ⟨as, rd⟩ := Dp.reads I d x u dp rx
  have byRef : ∀ a, u = .ref a → wpAny (model X.prog X.w) X.A (call (.builtin "repr") [u]) (EP X pins σ Q) X.xe s := fun a e => by
    subst e
    refine repr_of_reads' rd hs (fun z => ?_) hg (by omega) (fun _ _ q => q) (fun h' u tk kp => ⟨.str d.shown, H, I.kept kp, ⟨u, rfl⟩, q⟩) hl
    rw [hd] at z
    cases z
  cases dp with
  | non =>
    cases rx
    exact PySem.P.repr_of_none ⟨.str _, H, I.tok _, ⟨_, rfl⟩, q⟩
  | bl b =>
    cases rx
    exact PySem.P.repr_of_bool ⟨.str _, H, I.tok _, ⟨_, rfl⟩, q⟩
  | int i =>
    obtain ⟨t, rfl⟩ := (show ∃ t, u = Value.int i t from rx)
    exact PySem.P.repr_of_int (of_decide_eq_true hs) ⟨.str _, H, I.tok _, ⟨_, rfl⟩, q⟩
  | str y =>
    obtain ⟨t, rfl⟩ := (show ∃ t, u = Value.str y t from rx)
    exact PySem.P.repr_of_str ⟨.str _, H, I.tok _, ⟨_, rfl⟩, q⟩ hl
  | lst _ _ => exact byRef _ rx
  | tup _ _ => exact byRef _ rx
def rdRepr : RDL := fun ds Q => match ds with
  | [d] => ∃ p, toPy d = some p ∧ p.showable = true ∧ p.hasDict = false ∧ p.depth ≤ 60 ∧ p.shown.length ≤ sizeLine ∧ Q (.str p.shown)
  | _ => False
theorem ok_repr (hg : ∀ j, (Xs j).A.guards = some []) (hu : ∀ j, (Xs j).A.units + 64 < cLine) (hK : ∀ j, (Xs j).K = mg.K := by intro _; rfl) : CallOk Xs mg (.builtin "repr") rdRepr := by
  refine ⟨_, fun j => call_reprD (hK j) (hg j) (hu j), ?_⟩
  intro W H vs ds Q Q' hh r h q
  unfold rdRepr at h
  split at h
  · cases r with
    | cons r rs =>
      cases rs
      obtain ⟨p, h1, h2, h3, h4, h5, h6⟩ := h
      exact ⟨_, p, rfl, r.dp hh h1, h2, h3, h4, h5, q W H _ _ (Step.refl hh) (.str _) h6⟩
  · exact h.elim
/-! ### lists of one's own -/
def CpO (mg : Gm) (Wx : WX) (t : TE) (g : DTA) : Prop := ∀ B ρ Q E, g ρ Q E → ∀ W σ H Q', Holds W H → EnvR mg B W H σ ρ → ExR mg Wx W H σ E → (∀ W' H' p vs ds, Step W H W' H' → H' p = none → Reps mg W' vs ds → Q ds → Q' (.ref p) (upd H' p (.lst vs))) → t σ H Q'
/-- an expression that gives a new list -/
def DO (Xs : ι → Cx) (mg : Gm) (Wx : WX) (e : Expr) (g : DTA) : Prop := ∃ t, (∀ i, PE (Xs i) e t) ∧ CpO mg Wx t g
abbrev dLen (g : DTA) : DTA := fun ρ Q E => g ρ (fun xs => xs.length ≤ sizeLine ∧ Q xs) E
theorem do_lst {es : List Expr} {g : DTA} (h : DA Xs mg Wx es g) : DO Xs mg Wx (.List es pos) (dLen g) := by
  obtain ⟨t, h1, h2⟩ := h
  refine ⟨_, fun i => pe_lst (h1 i), fun B ρ Q E hf W σ H Q' hh e x q => h2 B ρ _ E hf W σ H _ hh e x fun W1 H1 vs ds s1 r1 k1 => ?_⟩
  exact ⟨by rw [r1.length]; exact k1.1, fun p hp => q W1 H1 p vs ds s1 hp r1 k1.2⟩
abbrev dSetO (i : Nat) (g : DTA) : DTS := fun N ρ => g ρ (fun ds => N.nx (ρ.set i (.own ds))) (fun x => N.rs x ρ)
theorem ds_setO {i : Nat} {x : Str} {e : Expr} {g : DTA} {pos' : Pos} (h : DO Xs mg Wx e g) (hN : ∀ j, (Xs j).N.Nodup) (hi : ∀ j, (Xs j).N[i]? = some x := by intro _; rfl) (hx : ∀ j, Loc (Xs j).env.scope x := by intro _; first | exact Or.inl rfl | exact Or.inr rfl)
    (hs : ∀ j, swapsWith e (some (.Name x pos')) pos.line (Xs j).env = pure false := by intro _; rfl) (hf : ∀ j, (Xs j).fn x = true ∨ (Xs j).env.scope.names.lookup x = some .local := by intro _; first | exact .inl rfl | exact .inr rfl) : DS Xs mg Wx (.Assign [.Name x pos'] e pos) (dSetO i g) := by
  obtain ⟨t, h1, h2⟩ := h
  refine ⟨_, fun j => ps_set (i := i) (hN j) (hi j) (hx j) (h1 j) (hs j) (hf j), fun W0 B N ρ hf W σ H Ds s e n => ?_⟩
  refine h2 B ρ _ _ hf W σ H _ s.holds e (n.ex s e) fun W1 H1 p vs ds s1 hp r1 k1 => ?_
  have s01 := s.trans s1
  have bp : B p = none := by
    cases q : B p with
    | none => rfl
    | some o =>
      obtain ⟨o', e'⟩ := s01.live p o q
      rw [e'] at hp
      cases hp
  exact n.nx W1 _ _ _ (s01.trans (Step.lay s01.holds hp)) ((e.step s1).setOwn s01.holds hp bp r1) k1
/-- the own list is handed on ahead of a statement -/
abbrev dFrz (i : Nat) (f : DTS) : DTS := fun N ρ => match ρ[i]? with
  | some (.own xs) => f N (ρ.set i (.d (.lst xs)))
  | _ => False
theorem CpS.frz {i : Nat} {t : TS} {f : DTS} (h : CpS mg Wx t f) : CpS mg Wx t (dFrz i f) := by
  intro W0 B N ρ hf W σ H Ds s e n
  unfold dFrz at hf
  split at hf
  · rename_i xs hx
    obtain ⟨p, vs, h1, h2, h3, h4, h5, r, e'⟩ := e.freeze s.holds hx
    exact h W0 B N _ hf _ σ H Ds (s.taken h5 h2 h3 h4) e' n
  · exact hf.elim
theorem ds_frz (i : Nat) {st : Stmt} {f : DTS} (h : DS Xs mg Wx st f) : DS Xs mg Wx st (dFrz i f) := by
  obtain ⟨t, h1, h2⟩ := h
  exact ⟨t, h1, h2.frz⟩
/-- x.append(e), x one's own -/
abbrev dApp (i : Nat) (f : DTE) : DTS := fun N ρ => match ρ[i]? with
  | some (.own xs) => f ρ (fun d => xs.length < sizeLine ∧ N.nx (ρ.set i (.own (xs ++ [d])))) (fun x => N.rs x ρ)
  | _ => False
theorem ds_append (i : Nat) {x : Str} {e : Expr} {f : DTE} {p apos cpos : Pos} (h : DE Xs mg Wx e f) (hN : ∀ j, (Xs j).N[i]? = some x := by intro _; rfl) (hv : ∀ j, Vis (Xs j).env.scope x := by intro _; first | exact Or.inl rfl | exact Or.inr (Or.inl rfl) | exact Or.inr (Or.inr rfl))
    (hd : (x == ("__debug__" : Str)) = false := by decide) (hcd : (x == ("__classdict__" : Str)) = false := by decide)
    (pe : ∀ j t, PE (Xs j) e t → PS (Xs j) (.Expr (.Call (.Attribute (.Name x p) "append" apos) [e] [] cpos) pos) (tDrop (tBM (Xs j).K "list" rAppend (tVar i) (tCons t tNil)))) (hK : ∀ j, (Xs j).K = mg.K := by intro _; rfl) :
    DS Xs mg Wx (.Expr (.Call (.Attribute (.Name x p) "append" apos) [e] [] cpos) pos) (dApp i f) := by
  obtain ⟨t, h1, h2⟩ := h
  refine ⟨tDrop (tBM mg.K "list" rAppend (tVar i) (tCons t tNil)), fun j => by rw [← hK j]; exact pe j t (h1 j), fun W0 B N ρ hf W σ H Ds s e n => ?_⟩
  unfold dApp at hf
  split at hf
  · rename_i xs hx
    obtain ⟨o, g1, a, vs, g2, g3, g4, g5, g6, r⟩ := e.sl i _ hx
    subst g2
    refine ⟨.ref a, g1, .inl ⟨rfl, _, SqL.of g3⟩, ?_⟩
    refine h2 B ρ _ _ hf W σ H _ s.holds e (n.ex s e) fun W1 H1 v d s1 r1 k1 => ?_
    have e1 := e.step s1
    obtain ⟨o', q1, a', vs', q2, q3, q4, q5, q6, r'⟩ := e1.sl i _ hx
    rw [g1] at q1
    cases q1
    cases q2
    refine ⟨a, vs', v, rfl, rfl, q3, by rw [r'.length]; exact k1.1, ?_⟩
    exact n.nx W1 _ σ _ ((s.trans s1).own q6 q3 q4 q5) (e1.own (us := vs') hx g1 (r'.snoc r1)) k1.2
  · exact hf.elim
end
end FP
namespace FP
open PySem PySem.Spec PyProof.Rows L2
variable [Tabl]
/-! ### the end of a law -/
section
variable {P : Program} {w : World} {K : PySem.W.Frag} {mg mb : Str → Option Value} {k : Nat} {fa a : Addr} {sp : Sp} {z₁ : Shared} {vs : List Value} {ns : List Int}
/-- what is asked of the call -/
abbrev Fine (z₁ : Shared) : Result → Shared → Prop := fun r z' => r = .ok (.ret (.bool true)) ∧ OldK z₁.heap z'.heap ∧ z'.os = z₁.os ∧ AllBare z'.gens
theorem end_at (KX : K.In z₁.heap) (gl : z₁.heap.Ns mainGlobals mg) (bl : z₁.heap.Ns builtinsNs mb) (bb : ∀ y : Str, y ≠ "__name__" → mb y = bootBuiltins y) (lim : z₁.heap.NoLimit) (gn : z₁.gens = #[])
    (ha : z₁.heap.get? a = some { cls := .type "list", data := .seq vs.toArray }) (hr : RmG k callerA) (F : ∀ base : Heap, K.In base → base.Ns mainGlobals mg → ∃ fd ps, Binds K fd ps [] ∧ FnG P w K mg base k fa fd ps sp)
    {H : Hp} (only : Only H) (hok : HOk P w H z₁.heap) (atA : ∀ b, H b ≠ none → b = a) (offK : H a ≠ none → K.lookup a = none) (want : sp [.ref a] H (fun v _ => v = .bl true) fun _ _ _ => False) (noX : ∀ e z', L2.CX P w [] H z₁ (fun _ _ _ => False) e z' → False) :
    codeAny (model P w) callerA (.call (.ref fa) ⟨[.ref a], []⟩) (Fine z₁) z₁ := by
  -- dicts are not tracked
  have free : ∀ {c : Addr} {o : Obj} {es : Array DictEntry} {ep : Nat}, z₁.heap.get? c = some o → o.data = .dict es ep → H c = none := by
    intro c o es ep hc hd
    rcases hH : H c with _ | u
    · rfl
    · have ca : c = a := atA c (by rw [hH]; exact Option.some_ne_none u)
      rw [ca, ha] at hc
      cases hc
      cases hd
  have ns' : ∀ {c : Addr} {m : Str → Option Value}, z₁.heap.Ns c m → (hidT z₁.heap H).Ns c m := by
    rintro c m ⟨o, es, ep, h1, h2, h3⟩
    exact ⟨o, es, ep, hidT_get h1 (free h1 h2), h2, h3⟩
  have kin : K.In (hidT z₁.heap H) := by
    intro c o hc
    refine hidT_get (KX c o hc) ?_
    rcases hH : H c with _ | u
    · rfl
    · have ca : c = a := atA c (by rw [hH]; exact Option.some_ne_none u)
      subst ca
      rw [offK (by rw [hH]; exact Option.some_ne_none u)] at hc
      cases hc
  obtain ⟨mc, l1, l2⟩ := lim
  have md : Mod K mg (hidT z₁.heap H) := ⟨kin, ns' gl, ⟨mb, ns' bl, bb⟩, ⟨mc, ns' l1, l2⟩⟩
  have en : Env0 P w K mg (hidT z₁.heap H) callerA [] z₁ H := by
    refine ⟨rfl, md, fun c o q => of_hidT q, Nat.le_of_eq (hidT_size _ _), trivial, ?_, hok, .of_eq gn⟩
    intro c hc
    cases hc
  obtain ⟨fd, ps, bd, fn⟩ := F _ kin (ns' gl)
  have bz := bd z₁ [.ref a] KX (fn.ln _ _ _ _ want)
  rw [List.append_nil] at bz
  have run := fn.go callerA [] z₁ H ⟨[.ref a], []⟩ [.ref a] [.ref a] _ _ hr en bz (.cons rfl .nil) want
  refine codeAny_mono run ?_
  intro res z' hres
  match res, hres with
  | .error e, hq => exact (noX e z' hq).elim
  | .ok .next, hq => exact hq.elim
  | .ok .brk, hq => exact hq.elim
  | .ok .cont, hq => exact hq.elim
  | .ok (.ret u), ⟨v, H', os, bare, un, ok', ru, hv⟩ =>
    have hv' : v = .bl true := hv
    subst hv'
    have hu : u = Value.bool true := ru
    subst hu
    refine ⟨rfl, OldK.of_keep ?_, os, bare⟩
    intro c o hc
    rcases only c with hn | ⟨ob, xs, hf⟩
    · exact un.keep c o hc hn (by intro q; cases q) (by intro q; cases q)
    · have f2 := un.frzs c ob _ hf
      have g1 := (hok c _ hf).1
      have g2 := (ok' c _ f2).1
      rw [hc] at g1
      cases g1
      exact g2
theorem end_law (KX : K.In z₁.heap) (gl : z₁.heap.Ns mainGlobals mg) (bl : z₁.heap.Ns builtinsNs mb) (bb : ∀ y : Str, y ≠ "__name__" → mb y = bootBuiltins y) (lim : z₁.heap.NoLimit) (gn : z₁.gens = #[])
    (ha : z₁.heap.get? a = some { cls := .type "list", data := .seq vs.toArray }) (hi : IntsAre vs ns) (hl : ns.length ≤ sizeLine) (hr : RmG k callerA) (F : ∀ base : Heap, K.In base → base.Ns mainGlobals mg → ∃ fd ps, Binds K fd ps [] ∧ FnG P w K mg base k fa fd ps sp)
    (want : ∀ H : Hp, Only H → SqL K H a (ns.map V.int) → sp [.ref a] H (fun v _ => v = .bl true) fun _ _ _ => False) (noX : ∀ H e z', L2.CX P w [] H z₁ (fun _ _ _ => False) e z' → False) :
    codeAny (model P w) callerA (.call (.ref fa) ⟨[.ref a], []⟩) (Fine z₁) z₁ := by
  have rv := vals_ints hi
  have lv := hi.length
  rcases hk : K.lookup a with _ | o
  · have only : Only (upd (fun _ => none) a (.frz { cls := .type "list", data := .seq vs.toArray } (.lst (ns.map V.int)))) := by
      intro c
      by_cases hc : c = a
      · subst hc
        exact .inr ⟨_, _, upd_same⟩
      · exact .inl (upd_ne hc)
    refine end_at KX gl bl bb lim gn ha hr F only ?_ ?_ (fun _ => hk) (want _ only (.inl (.inr ⟨_, upd_same⟩))) (noX _)
    · intro c u hc
      by_cases hca : c = a
      · subst hca
        rw [upd_same] at hc
        cases hc
        refine ⟨ha, ?_, vs, _, rv, ha⟩
        rw [List.length_map]
        exact hl
      · rw [upd_ne hca] at hc
        cases hc
    · intro c hc
      by_cases hca : c = a
      · exact hca
      · exact absurd (upd_ne hca) hc
  · have ho := KX a o hk
    rw [ha] at ho
    cases ho
    have only : Only (fun _ => none) := fun _ => .inl rfl
    refine end_at KX gl bl bb lim gn ha hr F only (fun c u hc => by cases hc) (fun c hc => absurd rfl hc) (fun hc => absurd rfl hc) (want _ only (.inr ⟨_, vs.toArray, _, hk, rfl, rfl, rfl, ?_, by simpa using rv⟩)) (noX _)
    rw [List.size_toArray, lv]
    exact hl
end
/-- the script as a datum -/
abbrev scriptD (ns : List Int) : D := .fz (ns.map D.int)
theorem walkG {l : PySem.W.OpenLaw} {k : Nat} {q : Program} {loose : List Str} {XP : (Str → Option Value) → Heap → Prop} {YP : World → Heap → Prop} {d : DefRec} {K : Params → PySem.W.Frag} {f : List D → M D}
    (hB : Tabl.B = []) (hn : l.most = some 63) (hdf : d.params.defaults = []) (hr : RmG k callerA) (hY : ∀ (w : World) (h : Heap), YP w h → (K w.params).In h)
    (F : ∀ (w : World) (mg : Str → Option Value) (h : Heap), (K w.params).In h → h.Ns mainGlobals mg → ∀ base : Heap, DefOk l.prog w ⟨mg, K w.params⟩ base k d.name 1 f)
    (hf : ∀ ns : List Int, ns.length ≤ 63 → f [scriptD ns] (fun d => d = .bl true) F0) : PySem.W.WalkO q loose XP YP l.row.toRowW d [] (fun f vs => PySem.call f vs) := by
  refine Att.attach_call hn hdf fun w z₀ z₁ mg mb fa o pm cd doc a vs ns G Y ho hd hcd hmg hobj hints hlen hg => ?_
  have KX := hY w _ Y
  refine end_law (sp := spD ⟨mg, K w.params⟩ 1 f) KX G.T.g G.T.b G.T.builtins G.T.nolimit hg hobj hints (Nat.le_trans hlen (by decide)) hr (fun base _ _ => ?_) (fun H only hS => ?_) fun H e z' c => ?_
  · obtain ⟨fa', fd, ps, h1, h2, h3, h4, h5⟩ := (F w mg _ KX G.T.g base).ex
    have e : fa' = fa := by
      have e' := h1.symm.trans hmg
      cases e'
      rfl
    subst e
    exact ⟨fd, ps, h3, h5⟩
  · refine ⟨⟨H, fun _ => False, fun _ => False⟩, [scriptD ns], _, _, ⟨Same.refl H, fun _ t => t.elim, fun _ t => t.elim, fun _ h => (by rw [hB] at h; cases h), fun b ps e => by rcases only b with z | ⟨_, _, z⟩ <;> rw [z] at e <;> cases e⟩, .cons (.fz hS (Reps.ints ns)) .nil, rfl, hf ns hlen, fun W' H' v d _ r e => ?_, fun _ _ _ _ _ _ _ h => h⟩
    subst e
    cases r
    rfl
  · obtain ⟨_, _, _, _, _, _, _, _, _, _, _, _, z⟩ := c
    exact z.elim
end FP
/-! FP7: the dice; a comprehension that empties a list of one's own. -/
namespace FP
open PySem L2
variable [Tabl]
section
variable {ι : Type} {Xs : ι → Cx} {mg : Gm} {Wx : WX} {pos : Pos}
/-! ### dice -/
theorem Step.dice {W : Wd} {H : Hp} (h : Holds W H) {a : Addr} (t : W.Dc a) {x y z : Int} : Step W H W (upd H a (.lst [.int x, .int y, .int z])) := by
  obtain ⟨ta, x0, y0, z0, ea⟩ := h.tok a t
  obtain ⟨na, _⟩ := h.exm a ta
  refine ⟨Le.refl W, ⟨fun b u e => ?_, fun b tb => ?_, fun b tb => ?_, fun q hq => ?_, fun b ps e => ?_⟩, fun b u e n => ?_, fun _ _ _ => rfl, fun b t => .inl t, fun b u e => ?_⟩
  · rw [upd_ne (ne_of_none e na)]
    exact h.same b u e
  · obtain ⟨h1, u, h2⟩ := h.exm b tb
    by_cases hb : b = a
    · subst hb
      exact ⟨h1, _, upd_same⟩
    · exact ⟨h1, u, by rw [upd_ne hb]; exact h2⟩
  · by_cases hb : b = a
    · subst hb
      exact ⟨ta, x, y, z, upd_same⟩
    · rw [upd_ne hb]
      exact h.tok b tb
  · obtain ⟨h1, ps, h2, h3, h4⟩ := h.tab q hq
    have nq : q.1 ≠ a := fun z => by
      rw [z, ea] at h2
      cases h2
    refine ⟨h1, ps, by rw [upd_ne nq]; exact h2, h3, fun pos cv hc => ?_⟩
    obtain ⟨c, e1, e2⟩ := h4 pos cv hc
    have nc : c ≠ a := fun z => by
      rw [z, ea] at e2
      cases e2
    exact ⟨c, e1, by rw [upd_ne nc]; exact e2⟩
  · by_cases hb : b = a
    · rw [hb, upd_same] at e
      cases e
    · rw [upd_ne hb] at e
      exact h.all b ps e
  · rw [upd_ne fun q => n (by rw [q]; exact ta)]
    exact e
  · by_cases hb : b = a
    · subst hb
      exact ⟨_, upd_same⟩
    · rw [upd_ne hb]
      exact ⟨u, e⟩
/-- x[k] = e, x dice -/
abbrev dTok (i : Nat) (k : Int) (f : DTE) : DTS := fun N ρ => f ρ (fun d => match d, ρ[i]? with
  | .int _, some (.d .tok) => (0 ≤ k ∧ k < 3) ∧ N.nx ρ
  | _, _ => False) (fun x => N.rs x ρ)
theorem ds_tok (i : Nat) {x : Str} {k : Int} {e : Expr} {f : DTE} {p p2 p3 : Pos} {jj : Nat} (h : DE Xs mg Wx e f) (hN : ∀ j, (Xs j).N[i]? = some x := by intro _; rfl) (hv : ∀ j, Vis (Xs j).env.scope x := by intro _; first | exact Or.inl rfl | exact Or.inr (Or.inl rfl) | exact Or.inr (Or.inr rfl))
    (pg : ∀ j t, PE (Xs j) e t → PS (Xs j) (.Assign [.Subscript (.Name x p) (.Constant (.int k) jj p2) p3] e pos) (tAsg t (gSub (tVar i) (tC (.int k)) rSetL))) : DS Xs mg Wx (.Assign [.Subscript (.Name x p) (.Constant (.int k) jj p2) p3] e pos) (dTok i k f) := by
  obtain ⟨t, h1, h2⟩ := h
  refine ⟨_, fun j => pg j t (h1 j), fun W0 B N ρ hf W σ H Ds s e n => ?_⟩
  refine h2 B ρ _ _ hf W σ H _ s.holds e (n.ex s e) fun W1 H1 v d s1 r1 k1 => ?_
  dsimp only at k1
  split at k1
  · rename_i c hr
    obtain ⟨hk, k2⟩ := k1
    have e1 := e.step s1
    obtain ⟨v', g1, g2⟩ := e1.get hr
    cases r1
    cases g2 with
    | @tok a ta =>
      obtain ⟨_, x0, y0, z0, ha⟩ := s1.holds.tok a ta
      have hj : ∃ j u1 u2 u3, ixN 3 k = some j ∧ ([V.int x0, V.int y0, V.int z0].set j (V.int c)) = [V.int u1, V.int u2, V.int u3] := by
        have hi : k = 0 ∨ k = 1 ∨ k = 2 := by omega
        rcases hi with rfl | rfl | rfl
        · exact ⟨0, c, y0, z0, rfl, rfl⟩
        · exact ⟨1, x0, c, z0, rfl, rfl⟩
        · exact ⟨2, x0, y0, c, rfl, rfl⟩
      obtain ⟨j, u1, u2, u3, hj, hs⟩ := hj
      have st := Step.dice s1.holds ta (x := u1) (y := u2) (z := u3)
      refine ⟨_, g1, a, _, k, j, rfl, rfl, ha, hj, ?_⟩
      rw [hs]
      exact n.nx W1 _ σ ρ ((s.trans s1).trans st) (e1.step st) k2
  · exact k1.elim
/-- return [a, b, c]: new dice -/
abbrev dRetTok (g : DTA) : DTS := fun N ρ => g ρ (fun ds => match ds with
  | [.int _, .int _, .int _] => N.rt .tok ρ
  | _ => False) (fun x => N.rs x ρ)
theorem ds_retTok {es : List Expr} {g : DTA} {p : Pos} (h : DA Xs mg Wx es g) : DS Xs mg Wx (.Return (some (.List es p)) pos) (dRetTok g) := by
  obtain ⟨t, h1, h2⟩ := h
  refine ⟨_, fun j => ps_ret (pe_lst (h1 j)), fun W0 B N ρ hf W σ H Ds s e n => ?_⟩
  refine h2 B ρ _ _ hf W σ H _ s.holds e (n.ex s e) fun W1 H1 vs ds s1 r1 k1 => ?_
  split at k1
  · rename_i x y z
    cases r1 with
    | cons r rs =>
      cases r
      cases rs with
      | cons r rs =>
        cases r
        cases rs with
        | cons r rs =>
          cases r
          cases rs
          refine ⟨by show 3 ≤ sizeLine; decide, fun p hp => ?_⟩
          have hh := s1.holds
          have nw := hh.same.free hp
          have h0 := hh.lay (o := .lst [.int x, .int y, .int z]) hp (by intro _ h; cases h)
          have st : Step W1 H1 { W1 with T := fun b => W1.T b ∨ b = p, Dc := fun b => W1.Dc b ∨ b = p } (upd H1 p (.lst [.int x, .int y, .int z])) := by
            refine ⟨⟨Same.refl _, fun _ t => .inl t, fun _ t => .inl t⟩, ⟨h0.same, fun b tb => ?_, fun b tb => ?_, fun q hq => ⟨.inl (h0.tab q hq).1, (h0.tab q hq).2⟩, h0.all⟩, fun b u q _ => ?_, fun _ _ _ => rfl, fun b tb => ?_, fun b u q => ?_⟩
            · rcases tb with tb | rfl
              · exact h0.exm b tb
              · exact ⟨nw, _, upd_same⟩
            · rcases tb with tb | rfl
              · exact ⟨.inl (h0.tok b tb).1, (h0.tok b tb).2⟩
              · exact ⟨.inr rfl, x, y, z, upd_same⟩
            · rw [upd_ne (ne_of_none q hp)]
              exact q
            · rcases tb with tb | rfl
              · exact .inl tb
              · exact .inr hp
            · exact ⟨u, by rw [upd_ne (ne_of_none q hp)]; exact q⟩
          exact n.rt _ _ σ ρ _ _ ((s.trans s1).trans st) (e.step (s1.trans st)) (.tok (.inr rfl)) k1
  · exact k1.elim
/-! ### list(x) as a list of one's own; its length -/
abbrev dListO (g : DTA) : DTA := fun ρ Q E => g ρ (fun ds => match ds with
  | [.lst xs] => Q xs
  | [.tup xs] => Q xs
  | _ => False) E
theorem do_list {e : Expr} {g : DTA} {p : Pos} (h : DA Xs mg Wx [e] g) (hm : mg.mg "list" = none) (hv : bootBuiltins "list" = some (.type "list")) (hK : ∀ j, (Xs j).K = mg.K := by intro _; rfl) (hM : ∀ j, (Xs j).mg = mg.mg := by intro _; rfl) (hg : ∀ j, Gl (Xs j) "list" := by intro _; rfl)
    (he : ∀ j, starEach [e] (Xs j).env = [(false, eval e (Xs j).env)] := by intro _; rfl) : DO Xs mg Wx (.Call (.Name "list" p) [e] [] pos) (dListO g) := by
  obtain ⟨t, h1, h2⟩ := h
  refine ⟨_, fun j => pe_callTy (call_listK (hK j)) (hg j) (by rw [hM j]; exact hm) hv (h1 j) (by decide) (by decide) (he j) rfl, fun B ρ Q E hf W σ H Q' hh e x q => ?_⟩
  refine h2 B ρ _ E hf W σ H _ hh e x fun W1 H1 vs ds s1 r1 k1 => ?_
  split at k1
  · cases r1 with
    | cons r rs =>
      cases rs
      cases r with
      | lst ha ra => exact ⟨_, _, rfl, .inl (SqL.of (s1.holds.same _ _ ha)), fun l hl => q W1 H1 l _ _ s1 hl ra k1⟩
  · cases r1 with
    | cons r rs =>
      cases rs
      cases r with
      | tup ha ra => exact ⟨_, _, rfl, .inr (SqT.of (s1.holds.same _ _ ha)), fun l hl => q W1 H1 l _ _ s1 hl ra k1⟩
  · exact k1.elim
abbrev dLenO (i : Nat) : DTE := fun ρ Q _ => match ρ[i]? with
  | some (.own xs) => Q (.int xs.length)
  | _ => False
theorem de_lenO (i : Nat) {x : Str} {p p2 : Pos} (hm : mg.mg "len" = none) (hN : ∀ j, (Xs j).N[i]? = some x := by intro _; rfl) (hv : ∀ j, Vis (Xs j).env.scope x := by intro _; first | exact Or.inl rfl | exact Or.inr (Or.inl rfl) | exact Or.inr (Or.inr rfl))
    (hd : (x == ("__debug__" : Str)) = false := by decide) (hcd : (x == ("__classdict__" : Str)) = false := by decide) (hK : ∀ j, (Xs j).K = mg.K := by intro _; rfl) (hM : ∀ j, (Xs j).mg = mg.mg := by intro _; rfl) (hg : ∀ j, Gl (Xs j) "len" := by intro _; rfl)
    (he : ∀ j, starEach [.Name x p2] (Xs j).env = [(false, eval (.Name x p2) (Xs j).env)] := by intro _; rfl) : DE Xs mg Wx (.Call (.Name "len" p) [.Name x p2] [] pos) (dLenO i) := by
  refine ⟨_, fun j => pe_callB (call_lenK (hK j)) (hg j) (by rw [hM j]; exact hm) PySem.boot_len (pa_cons (pe_var (i := i) (hN j) (hv j) hd hcd) pa_nil (he j)) (by decide) (by decide) (he j) rfl, fun B ρ Q E hf W σ H Q' hh e x q => ?_⟩
  unfold dLenO at hf
  split at hf
  · rename_i xs hx
    obtain ⟨o, g1, a, vs, g2, g3, g4, g5, g6, r⟩ := e.sl i _ hx
    subst g2
    refine ⟨_, g1, _, _, rfl, .inl ⟨_, SqL.of g3, rfl⟩, ?_⟩
    rw [r.length]
    exact q W H _ _ (Step.refl hh) (.int _) hf
  · exact hf.elim
/-! ### return [own.pop(index) for .. in ..] -/
theorem EnvR.off {B : Hp} {W : Wd} {H : Hp} {σ : St} {ρ : Env} (e : EnvR mg B W H σ ρ) {A : Addr} {o : HO} (h : ∀ (j : Nat) (t : Sl) (o : Option V), ρ[j]? = some t → σ[j]? = some o → A ∉ t.fp o) : EnvR mg B W (upd H A o) σ ρ := by
  refine ⟨e.len, fun j sl hj => ?_, e.dis⟩
  obtain ⟨o', h1, h2⟩ := e.sl j sl hj
  refine ⟨o', h1, h2.keep (Le.refl W) fun a ha u h5 h6 h7 => ⟨?_, h6, h7⟩⟩
  have ne : a ≠ A := fun q => h j sl o' hj h1 (by rw [← q]; exact ha)
  rw [upd_ne ne]
  exact h5
def popD (T : Tg) (i : Nat) (f : DTE) (ρ : Env) (vs : List Nat) : List D → List D → (List D → Prop) → Prop
  | [], _, Q => Q []
  | d :: ds, xs, Q => ∃ ρ2, T.put d (wipeD (ρ.set i (.own xs)) vs) = some ρ2 ∧ ρ2[i]? = some (.own xs) ∧ f ρ2 (fun z => match z with
    | .int k => ∃ y, (0 ≤ k ∧ k < xs.length ∧ k < 2 ^ 62) ∧ xs[k.toNat]? = some y ∧ popD T i f ρ vs ds (xs.eraseIdx k.toNat) fun rs => Q (y :: rs)
    | _ => False) F0
abbrev dRetPop (w : DTI) (T : Tg) (i : Nat) (f : DTE) (vs : List Nat) : DTS := fun N ρ => match ρ[i]? with
  | some (.own xs) => w ρ (fun ds => ds.length ≤ sizeLine ∧ popD T i f ρ vs ds xs fun rs => N.rt (.lst rs) (noEnv ρ)) (fun x => N.rs x ρ)
  | _ => False
theorem ds_retPop {i : Nat} {tg iter idx : Expr} {x : Str} {p apos cpos lpos : Pos} {scope : Scope} {own : List (Str × Nat)} {w : DTI} {T : Tg} {f : DTE} (hN : ∀ j, (Xs j).N.Nodup) (hi : DI Xs mg Wx tg iter w) (ok : ∀ j, BlkOk (Xs j).N (Xs j).env.scope scope own) (hg : DG (blkF Xs scope) mg tg T) (he : DE (blkF Xs scope) mg Wx0 idx f)
    (pe : ∀ j t, PE (blkF Xs scope j) idx t → PE (blkF Xs scope j) (.Call (.Attribute (.Name x p) "pop" apos) [idx] [] cpos) (tBM (blkF Xs scope j).K "list" rPopAt (tVar i) (tCons t tNil))) (hio : i ∉ own.map (·.2) := by decide) (hK : ∀ j, (Xs j).K = mg.K := by intro _; rfl)
    (hv : ∀ k ∈ T.slots, k ∈ own.map (·.2) := by decide) (hc : ∀ j, (Xs j).calm = true := by intro _; rfl) (hs : ∀ j x, foldedSetIterable iter (Xs j).env x = pure x := by intro _ _; rfl) :
    DS Xs mg Wx (.Return (some (.ListComp (.Call (.Attribute (.Name x p) "pop" apos) [idx] [] cpos) [⟨tg, iter, [], 0⟩] scope lpos)) pos) (dRetPop w T i f (own.map (·.2))) := by
  obtain ⟨wi, i1, i2⟩ := hi
  obtain ⟨g, g1, g2⟩ := hg
  obtain ⟨te, e1, e2⟩ := he
  have pe' : ∀ j, PE (blkF Xs scope j) (.Call (.Attribute (.Name x p) "pop" apos) [idx] [] cpos) (tBM mg.K "list" rPopAt (tVar i) (tCons te tNil)) := fun j => by
    have z := pe j te (e1 j)
    have hk : (blkF Xs scope j).K = mg.K := hK j.1
    rw [hk] at z
    exact z
  refine ⟨_, fun j => ps_ret (pe_lc (tt := tYes) (hc j) (hN j) (i1 j) (ok j) (fun s H C cl fp => g1 (j, s, H, C, cl, fp)) (fun _ _ _ _ _ => pts_nil) (fun s H C cl fp => pe' (j, s, H, C, cl, fp)) (hs j)), fun W0 B N ρ hf W σ H Ds s e n => ?_⟩
  unfold dRetPop at hf
  split at hf
  · rename_i xs0 hx0
    refine i2 B ρ _ _ hf W σ H _ s.holds e (n.ex s e) fun W1 H1 J ds s1 wk k1 => ?_
    obtain ⟨hsz, k1⟩ := k1
    intro A hA
    have s01 := s.trans s1
    have bA : B A = none := by
      cases q : B A with
      | none => rfl
      | some o =>
        obtain ⟨o', e'⟩ := s01.live A o q
        rw [e'] at hA
        cases hA
    have e1 := e.step s1
    have offA : ∀ (j : Nat) (t : Sl) (o : Option V), ρ[j]? = some t → σ[j]? = some o → A ∉ t.fp o := fun j t o hj q mt => by
      obtain ⟨o', h1, h2⟩ := e1.sl j _ hj
      rw [q] at h1
      cases h1
      obtain ⟨u, h4, _⟩ := h2.at mt
      rw [h4] at hA
      cases hA
    have offB : ∀ (xs : List D) (j : Nat) (t : Sl) (o : Option V), (ρ.set i (.own xs))[j]? = some t → σ[j]? = some o → A ∉ t.fp o := fun xs j t o hj ho => by
      rcases get_set hj with ⟨rfl, z⟩ | ⟨_, q⟩
      · rw [← z]
        exact offA i (.own xs0) o hx0 ho
      · exact offA j t o q ho
    have own0 : ρ.set i (.own xs0) = ρ := by
      apply List.ext_getElem?
      intro j
      by_cases hj : i = j
      · subst hj
        rw [set_get hx0, hx0]
      · rw [List.getElem?_set_ne hj]
    refine ⟨fun m k H' => k = ds.length - m ∧ m ≤ ds.length ∧ ∃ W' us acc xs, Step W0 B W' H' ∧ Le W1 W' ∧ H' A = some (.lst us) ∧ W'.H A = none ∧ ¬ W'.T A ∧ Reps mg W' us acc ∧ acc.length ≤ m ∧ EnvR mg B W' H' σ (ρ.set i (.own xs)) ∧ popD T i f ρ (own.map (·.2)) (ds.drop m) xs (fun rs => N.rt (.lst (acc ++ rs)) (noEnv ρ)),
      ⟨ds.length, by simp, Nat.zero_le _, W1, [], [], xs0, s01.trans (Step.lay s01.holds hA), Le.refl _, upd_same, s01.holds.same.free hA, s01.holds.nT hA, .nil, Nat.le_refl _, by rw [own0]; exact e1.off offA, k1⟩, ?_⟩
    rintro m k H' ⟨rfl, hm, W', us, acc, xs, s', l', hL, nw, nt, rs, la, e', k'⟩
    obtain ⟨go, stop, yld⟩ := wk W' H' l' s'.holds
    by_cases hlt : m < ds.length
    · refine .inr ⟨go m hlt, fun H2 => ∃ W2 us2 acc2 xs2, Step W0 B W2 H2 ∧ Le W1 W2 ∧ H2 A = some (.lst us2) ∧ W2.H A = none ∧ ¬ W2.T A ∧ Reps mg W2 us2 acc2 ∧ acc2.length ≤ m + 1 ∧ EnvR mg B W2 H2 σ (ρ.set i (.own xs2)) ∧ popD T i f ρ (own.map (·.2)) (ds.drop (m + 1)) xs2 (fun rs => N.rt (.lst (acc2 ++ rs)) (noEnv ρ)), fun H2 q => ⟨ds.length - (m + 1), by omega, rfl, hlt, q⟩, fun y H2 hy => ?_⟩
      obtain ⟨W2, d, s2, hd, r⟩ := yld m y H2 hlt hy
      have ed : ds.drop m = d :: ds.drop (m + 1) := by
        rw [List.drop_eq_getElem_cons hlt]
        have := (List.getElem?_eq_some_iff.mp hd).2
        rw [this]
      rw [ed] at k'
      obtain ⟨ρ1, p1, p2, k2⟩ := k'
      have sA : ∀ {Wa Wb : Wd} {Ha Hb : Hp} {ws : List V}, Step Wa Ha Wb Hb → Ha A = some (.lst ws) → Wa.H A = none → ¬ Wa.T A → Hb A = some (.lst ws) ∧ Wb.H A = none ∧ ¬ Wb.T A := fun st a1 a2 a3 => ⟨st.keep A _ a1 a3, by rw [st.fresh A _ a1]; exact a2, fun t => by
        rcases st.freshT A t with t | t
        · exact a3 t
        · rw [a1] at t
          cases t⟩
      have eW := e'.step s2
      refine g2 B W2 H2 y d _ _ ρ1 _ s2.holds r (eW.wipe _) p1 fun σ3 e3 w3 => ?_
      refine ⟨(w3 _ hv).trans (wipe_wipe σ _), ?_⟩
      dsimp only [tYes]
      rw [if_pos rfl]
      obtain ⟨b1, b2, b3⟩ := sA s2 hL nw nt
      obtain ⟨o, q1, a, ws, q2, q3, q4, q5, q6, rw0⟩ := e3.sl i _ p2
      subst q2
      refine ⟨.ref a, q1, .inl ⟨rfl, _, SqL.of q3⟩, ?_⟩
      refine e2 B ρ1 _ _ k2 W2 σ3 H2 _ s2.holds e3 ExR.f0 fun W3 H3 z dz s3 r3 k3 => ?_
      dsimp only at k3
      split at k3
      · rename_i kk
        cases r3
        obtain ⟨yy, hk, hy2, k4⟩ := k3
        have e4 := e3.step s3
        obtain ⟨o', q1', a', ws', q2', q3', q4', q5', q6', rw1⟩ := e4.sl i _ p2
        rw [q1] at q1'
        cases q1'
        cases q2'
        obtain ⟨c1, c2, c3⟩ := sA s3 b1 b2 b3
        obtain ⟨vy, hvy, ry⟩ := rw1.get hy2
        have hseq : seqIndex? kk ws'.length = some kk.toNat := by
          unfold seqIndex?
          rw [rw1.length]
          have h0 : ¬ kk < 0 := by omega
          have hand : (decide (0 ≤ kk) && decide (kk < (xs.length : Int))) = true := by
            rw [Bool.and_eq_true]
            exact ⟨decide_eq_true hk.1, decide_eq_true hk.2.1⟩
          simp only [if_neg h0]
          rw [if_pos hand]
        refine ⟨a, ws', kk, kk.toNat, vy, rfl, rfl, q3', by omega, by omega, hseq, hvy, ?_⟩
        have na : a ≠ A := fun q => by
          subst q
          have sg : σ[i]? = some (some (V.ref a)) := by
            have hw := w3 _ hv
            have h1 : (L2.wipe σ3 (own.map (·.2)))[i]? = some (some (V.ref a)) := by
              have keep : ∀ us : List Nat, i ∉ us → (L2.wipe σ3 us)[i]? = σ3[i]? := by
                intro us
                induction us with
                | nil => intro _; rfl
                | cons u us ih =>
                  intro hu
                  show ((L2.wipe σ3 us).set u none)[i]? = _
                  rw [List.getElem?_set_ne (fun (q : u = i) => hu (by rw [q]; exact List.mem_cons_self))]
                  exact ih fun q => hu (List.mem_cons_of_mem _ q)
              rw [keep _ hio]
              exact q1
            rw [hw, wipe_wipe] at h1
            exact (wipe_some h1).1
          exact offA i _ _ hx0 sg (List.mem_singleton.mpr rfl)
        have st3 := (s'.trans s2).trans s3
        have st4 : Step W0 B W3 (upd H3 a (.lst (ws'.eraseIdx kk.toNat))) := st3.own q6' q3' q4' q5'
        have d1 : (upd H3 a (.lst (ws'.eraseIdx kk.toNat))) A = some (.lst us) := by
          rw [upd_ne (Ne.symm na)]
          exact c1
        refine ⟨us, d1, ?_, W3, us ++ [vy], acc ++ [yy], xs.eraseIdx kk.toNat, st4.own bA d1 c2 c3, (l'.trans s2.le).trans s3.le, upd_same, c2, c3, Reps.snoc (rs.mono (s2.trans s3).le) ry, ?_, ?_, ?_⟩
        · rw [rs.length]
          omega
        · rw [List.length_append, List.length_singleton]
          omega
        · have sg : σ[i]? = some (some (V.ref a)) := by
            have e5 := eW.sl i (.own xs) (set_get hx0)
            have hw := w3 _ hv
            have keep : ∀ (τ : St) (us : List Nat), i ∉ us → (L2.wipe τ us)[i]? = τ[i]? := by
              intro τ us
              induction us with
              | nil => intro _; rfl
              | cons u us ih =>
                intro hu
                show ((L2.wipe τ us).set u none)[i]? = _
                rw [List.getElem?_set_ne (fun (q : u = i) => hu (by rw [q]; exact List.mem_cons_self))]
                exact ih fun q => hu (List.mem_cons_of_mem _ q)
            have h1 := keep σ3 _ hio
            rw [hw, wipe_wipe, keep σ _ hio, q1] at h1
            exact h1
          have e6 := (eW.step s3).own (us := ws') (xs := xs) (set_get hx0) sg (rw1.eraseIdx kk.toNat)
          rw [List.set_set] at e6
          exact e6.off (offB _)
        · simpa [List.append_assoc] using k4
      · exact k3.elim
    · have em : m = ds.length := by omega
      subst em
      rw [List.drop_length] at k'
      have k2 : N.rt (.lst (acc ++ [])) (noEnv ρ) := k'
      rw [List.append_nil] at k2
      exact .inl ⟨stop, n.rt (W'.put A (.lst us)) H' σ (noEnv ρ) _ _ (s'.taken bA hL nw nt) (EnvR.noEnv e.len) (Rep.newLst rs nw) k2⟩
  · exact hf.elim
end
end FP
/-! FP8: a def of the text; empty dicts; what the dice helpers promise. -/
namespace FP
open PySem L2
variable [Tabl]
theorem boot_len : bootBuiltins "len" = some (.builtin "len") := by decide +kernel
theorem boot_abs : bootBuiltins "abs" = some (.builtin "abs") := by decide +kernel
theorem boot_max : bootBuiltins "max" = some (.builtin "max") := by decide +kernel
theorem boot_min : bootBuiltins "min" = some (.builtin "min") := by decide +kernel
theorem boot_all : bootBuiltins "all" = some (.builtin "all") := by decide +kernel
theorem boot_repr : bootBuiltins "repr" = some (.builtin "repr") := by decide +kernel
theorem boot_sorted : bootBuiltins "sorted" = some (.builtin "sorted") := by decide +kernel
theorem boot_isinstance : bootBuiltins "isinstance" = some (.builtin "isinstance") := by decide +kernel
theorem boot_int : bootBuiltins "int" = some (.type "int") := by decide +kernel
theorem boot_str : bootBuiltins "str" = some (.type "str") := by decide +kernel
theorem boot_list : bootBuiltins "list" = some (.type "list") := by decide +kernel
theorem boot_tuple : bootBuiltins "tuple" = some (.type "tuple") := by decide +kernel
theorem boot_dict : bootBuiltins "dict" = some (.type "dict") := by decide +kernel
theorem boot_set : bootBuiltins "set" = some (.type "set") := by decide +kernel
section
variable {ι : Type} {Xs : ι → Cx} {mg : Gm} {Wx : WX} {pos : Pos}
theorem mkDef {P : Program} {w : World} {base : Heap} {x : Str} {st : Stmt} {N ps : List Str} {k : Nat} {f : List D → M D} (d : ∃ fa fd, mg.mg x = some (.ref fa) ∧ Fun mg.K x x st fa fd) (S : FnScope N ps (defScope st))
    (hb : ∀ (kV doc pm : Value) (an : Option Addr) (cdv ct : Value) (us : List Value), us.length = ps.length → bindArgs (PySem.W.fnOf x x (defArgs st) (defBody st) (defScope st) .none kV doc pm an cdv ct) ⟨us, []⟩ = pure (ps.zip us))
    (h : ∀ (fa : Addr) (cdv : Value) (A : Around) (outer : List PySem.Env) (s : Shared) (H : Hp) (E : XK), RmG k (A.deeper (PyProof.Rows.envOfC x (defScope st) s.heap.objs.size fa cdv)) →
      ∃ g, DSs (fun _ : Unit => cxOf (L2.CX P w) P w mg.K mg.mg base N x (defScope st) fa cdv A outer s H E) mg (fun cls d _ H' => E cls d H') (defBody st) g ∧
        ∀ ds Q Ex, ds.length = ps.length → f ds Q Ex → g ⟨fun _ => Q .non, fun d _ => Q d, fun _ => False, fun _ => False, fun x _ => Ex x⟩ (startD N.length ds)) :
    DefOk P w mg base (k + 1) x ps.length f := by
  obtain ⟨fa, fd, hm, F⟩ := d
  exact ⟨fa, fd, ps, hm, F.kp, F.binds hb, rfl, def_ok F S (h fa)⟩
abbrev dNewD : DTE := fun _ Q _ => Q (.dct [])
theorem de_dnew : DE Xs mg Wx (.Dict [] [] pos) dNewD := by
  refine ⟨_, fun _ => pe_lk pe_dnewK, fun B ρ Q E hf W σ H Q' hh e x q p hp => ?_⟩
  refine ⟨p, _, rfl, upd_same, True.intro, fun od => ?_⟩
  rw [upd_upd]
  exact q _ _ _ _ (Step.alloc hh hp) (.dct (kvs := []) (show upd W.H p _ p = _ from upd_same) rfl .nil) hf
end
/-! ### the dice helpers -/
def f_dice : List D → M D := fun ds Q _ => match ds with
  | [.fz xs, .int k] => (∃ ns : List Int, xs = ns.map D.int) ∧ (0 ≤ k ∧ k < 1000) ∧ Q .tok
  | _ => False
def f_roll : List D → M D := fun ds Q _ => match ds with
  | [.tok, .int n] => (0 < n ∧ n < 1073741824) ∧ ∀ r, 0 ≤ r → r < n → Q (.int r)
  | _ => False
def f_pick : List D → M D := fun ds Q _ => match ds with
  | [.tok, .lst xs] => (0 < xs.length ∧ xs.length < 1073741824) ∧ ∀ d, d ∈ xs → Q d
  | [.tok, .tup xs] => (0 < xs.length ∧ xs.length < 1073741824) ∧ ∀ d, d ∈ xs → Q d
  | _ => False
def f_some : List D → M D := fun ds Q _ => match ds with
  | [.tok, .lst xs, .int k] => (xs.length < 1000000) ∧ (0 ≤ k ∧ k < 1000000) ∧ ∀ ys zs, (ys ++ zs).Perm xs → ys.length = min k.toNat xs.length → Q (.lst ys)
  | [.tok, .tup xs, .int k] => (xs.length < 1000000) ∧ (0 ≤ k ∧ k < 1000000) ∧ ∀ ys zs, (ys ++ zs).Perm xs → ys.length = min k.toNat xs.length → Q (.lst ys)
  | _ => False
theorem at_of {α : Type} {xs : List α} {z : Int} {j : Nat} {v : α} (e : z = (j : Int)) (h : xs[j]? = some v) : atI xs z = some v := by
  rw [e]
  exact atI_nat h
theorem atI_mem {xs : List D} {r : Int} (h0 : 0 ≤ r) (h1 : r < xs.length) : ∃ d, atI xs r = some d ∧ d ∈ xs := by
  have hr : r.toNat < xs.length := by omega
  refine ⟨xs[r.toNat], ?_, List.getElem_mem hr⟩
  exact at_of (j := r.toNat) (by omega) (by simp [hr])
theorem atI_ints {ns : List Int} {r : Int} (h0 : 0 ≤ r) (h1 : r < (ns.map D.int).length) : ∃ i, atI (ns.map D.int) r = some (.int i) := by
  obtain ⟨d, h, hm⟩ := atI_mem h0 h1
  obtain ⟨i, _, e⟩ := List.mem_map.mp hm
  exact ⟨i, by rw [h, e]⟩
theorem erase_perm {α : Type} : ∀ {xs : List α} {i : Nat} {y : α}, xs[i]? = some y → (y :: xs.eraseIdx i).Perm xs
  | [], _, _, h => by simp at h
  | x :: xs, 0, y, h => by
    simp at h
    subst h
    exact List.Perm.refl _
  | x :: xs, i + 1, y, h => by
    have ih := erase_perm (xs := xs) (i := i) (y := y) (by simpa using h)
    exact (List.Perm.swap x y _).trans (ih.cons x)
theorem pop_some {a b c e : Sl} : ∀ (ds xs : List D) (Q : List D → Prop), ds.length ≤ xs.length → xs.length < 1000000 → (∀ ys zs, (ys ++ zs).Perm xs → ys.length = ds.length → Q ys) →
    popD (Tg.one 4) 3 (dCall f_roll 2 (dCons (dVar 0) (dCons (dLenO 3) dNil))) [Sl.d .tok, a, b, c, e] [4] ds xs Q
  | [], xs, Q, _, _, h => h [] xs (List.Perm.refl _) rfl
  | d :: ds, xs, Q, hl, hz, h => by
    have hl' : ds.length + 1 ≤ xs.length := hl
    refine ⟨[Sl.d .tok, a, b, .own xs, .d d], rfl, rfl, rfl, ⟨by omega, by omega⟩, fun r h0 h1 => ?_⟩
    have hr : r.toNat < xs.length := by omega
    have hg : xs[r.toNat]? = some xs[r.toNat] := by simp [hr]
    have el : (xs.eraseIdx r.toNat).length = xs.length - 1 := by simp [List.length_eraseIdx, hr]
    refine ⟨xs[r.toNat], ⟨h0, h1, by omega⟩, hg, pop_some ds _ _ (by omega) (by omega) fun ys zs hp hn => ?_⟩
    refine h (xs[r.toNat] :: ys) zs ?_ (by rw [List.length_cons, hn]; rfl)
    exact (hp.cons _).trans (erase_perm hg)
/-! ### comprehensions in pure words -/
theorem lcD_fm {body : D → (Option D → Prop) → Prop} (F : D → Option D) : ∀ (ds : List D) (Q : List D → Prop), (∀ d ∈ ds, ∀ k : Option D → Prop, k (F d) → body d k) → Q (ds.filterMap F) → lcD body ds Q
  | [], Q, _, h => h
  | d :: ds, Q, hb, h => by
    refine hb d List.mem_cons_self _ ?_
    refine lcD_fm F ds _ (fun e he => hb e (List.mem_cons_of_mem _ he)) ?_
    rw [List.filterMap_cons] at h
    cases q : F d with
    | none =>
      rw [q] at h
      exact h
    | some r =>
      rw [q] at h
      exact h
theorem lcD_map {body : D → (Option D → Prop) → Prop} (F : D → D) (ds : List D) (Q : List D → Prop) (hb : ∀ d ∈ ds, ∀ k : Option D → Prop, k (some (F d)) → body d k) (h : Q (ds.map F)) : lcD body ds Q := by
  refine lcD_fm (fun d => some (F d)) ds Q hb ?_
  rw [List.filterMap_eq_map']
  exact h
/-- a loop by what holds between its turns -/
theorem forD_inv {T : Tg} {f : DTS} {N : Nd} (I : Env → Prop) : ∀ (ds : List D) (ρ : Env), I ρ → (∀ d ∈ ds, ∀ (ρ : Env) (K : Env → Prop), I ρ → (∀ ρ', I ρ' → K ρ') → ∃ ρ1, T.put d ρ = some ρ1 ∧ f { N with nx := K, ct := K, bk := N.nx } ρ1) → (∀ ρ, I ρ → N.nx ρ) → forD T f N ds ρ
  | [], ρ, h, _, he => he ρ h
  | d :: ds, ρ, h, hs, he => hs d List.mem_cons_self ρ _ h fun ρ' h' => forD_inv I ds ρ' h' (fun e h2 => hs e (List.mem_cons_of_mem _ h2)) he
/-- one statement, then the others, by what holds between them -/
theorem seq_by {f g : DTS} {N : Nd} {ρ : Env} (I : Env → Prop) (h1 : ∀ nx : Env → Prop, (∀ ρ', I ρ' → nx ρ') → f { N with nx := nx } ρ) (h2 : ∀ ρ', I ρ' → g N ρ') : dSeq f g N ρ := h1 _ h2
theorem mem_range {lo : Int} {n : Nat} {d : D} (h : d ∈ rangeD lo n) : ∃ j : Nat, d = .int (lo + j) ∧ j < n := by
  unfold rangeD at h
  obtain ⟨j, hj, e⟩ := List.mem_map.mp h
  exact ⟨j, e.symm, List.mem_range.mp hj⟩
/-! ### texts -/
theorem str_app (a b : Str) : (a ++ b).cps.toList = a.cps.toList ++ b.cps.toList := by
  show (a.cps ++ b.cps).toList = _
  simp
theorem str_len (a : Str) : a.length = a.cps.toList.length := by
  show a.cps.size = _
  simp
theorem eqv_nil (ps : List PyData) : PyData.eqv (.list ps) (.list []) = ps.isEmpty := by
  cases ps <;> rfl
/-! ### values of the judged kinds -/
def okStr (z : Str) : Prop := z.length ≤ 1000 ∧ ∀ c ∈ z.cps.toList, c < 1114112
def okV : D → Prop
  | .fz _ => False
  | .ins _ _ => False
  | .cl _ => False
  | .fn _ _ => False
  | .str z => okStr z
  | _ => True
def isStr : D → Bool
  | .str _ => true
  | _ => false
theorem isi_str {d : D} (h : okV d) : ∃ n, tyName d = some n ∧ kitB n "str" = some (isStr d) := by
  cases d with
  | fz _ => exact h.elim
  | cl _ => exact h.elim
  | fn _ _ => exact h.elim
  | ins _ _ => exact h.elim
  | non => exact ⟨_, rfl, by decide +kernel⟩
  | bl _ => exact ⟨_, rfl, by show kitB "bool" "str" = some false; decide +kernel⟩
  | int _ => exact ⟨_, rfl, by show kitB "int" "str" = some false; decide +kernel⟩
  | str _ => exact ⟨_, rfl, by show kitB "str" "str" = some true; decide +kernel⟩
  | tup _ => exact ⟨_, rfl, by show kitB "tuple" "str" = some false; decide +kernel⟩
  | lst _ => exact ⟨_, rfl, by show kitB "list" "str" = some false; decide +kernel⟩
  | dct _ => exact ⟨_, rfl, by show kitB "dict" "str" = some false; decide +kernel⟩
  | tok => exact ⟨_, rfl, by decide +kernel⟩
instance (a n : Int) : Decidable (CPowW a n) := by
  unfold CPowW
  exact inferInstance
theorem cmulL {i j : Int} (h : -(2 ^ 64) < i ∧ i < 2 ^ 64) : CMul i j := .inl h
theorem cmulR {i j : Int} (h : -(2 ^ 64) < j ∧ j < 2 ^ 64) : CMul i j := .inr h
end FP
/-! FP9: slices, two names at once, lists joined as one's own. -/
namespace FP
open PySem L2
variable [Tabl]
section
variable {ι : Type} {Xs : ι → Cx} {mg : Gm} {Wx : WX} {pos : Pos}
abbrev DTO := FP.Env → M (Option Int)
def CpP (mg : Gm) (Wx : WX) (t : TO) (f : DTO) : Prop := ∀ B ρ Q E, f ρ Q E → ∀ W σ H Q', Holds W H → EnvR mg B W H σ ρ → ExR mg Wx W H σ E → (∀ W' H' o, Step W H W' H' → Q o → Q' o H') → t σ H Q'
def DP (Xs : ι → Cx) (mg : Gm) (Wx : WX) (e : Option Expr) (f : DTO) : Prop := ∃ t, (∀ i, PO (Xs i) e t) ∧ CpP mg Wx t f
abbrev dONone : DTO := fun _ Q _ => Q none
abbrev dOSome (f : DTE) : DTO := fun ρ Q E => f ρ (fun x => match x with
  | .int i => Q (some i)
  | _ => False) E
theorem do_none : DP Xs mg Wx none dONone := ⟨_, fun _ => po_none, fun B ρ Q E hf W σ H Q' hh e x q => q W H none (Step.refl hh) hf⟩
theorem do_some {e : Expr} {f : DTE} (h : DE Xs mg Wx e f) : DP Xs mg Wx (some e) (dOSome f) := by
  obtain ⟨t, h1, h2⟩ := h
  refine ⟨_, fun i => po_some (h1 i), fun B ρ Q E hf W σ H Q' hh e x q => h2 B ρ _ E hf W σ H _ hh e x fun W1 H1 v d s1 r1 k1 => ?_⟩
  cases r1 with
  | int i => exact ⟨i, rfl, q W1 H1 _ s1 k1⟩
  | _ => exact k1.elim
def cutD (xs : List D) (lo hi : Option Int) : List D := (xs.drop (HT.sIx xs.length 0 lo)).take (HT.sIx xs.length xs.length hi - HT.sIx xs.length 0 lo)
theorem Reps.cut {W : Wd} {vs : List V} {ds : List D} (r : Reps mg W vs ds) (lo hi : Option Int) : Reps mg W (cutV vs lo hi) (cutD ds lo hi) := by
  unfold cutV cutD
  rw [r.length]
  exact (r.drop _).take _
def rdSl (x : D) (lo hi : Option Int) (Q : D → Prop) : Prop := match x with
  | .str z => z.length ≤ sizeLine ∧ Q (.str (cutS z lo hi))
  | .lst xs => Q (.lst (cutD xs lo hi))
  | .tup xs => Q (.tup (cutD xs lo hi))
  | _ => False
abbrev dSl (f : DTE) (l u : DTO) : DTE := fun ρ Q E => f ρ (fun x => l ρ (fun lo => u ρ (fun hi => rdSl x lo hi Q) E) E) E
theorem sl_listK {X : Cx} {K : PySem.W.Frag} (h : X.K = K) : L2.SlR X (rSlL K) := by
  subst h
  exact sl_list
theorem sl_tupK {X : Cx} {K : PySem.W.Frag} (h : X.K = K) : L2.SlR X (rSlA K) := by
  subst h
  exact sl_tupA
theorem de_slice {e : Expr} {lo hi : Option Expr} {f : DTE} {l u : DTO} {p2 : Pos} (h : DE Xs mg Wx e f) (hl : DP Xs mg Wx lo l) (hu : DP Xs mg Wx hi u) (hK : ∀ j, (Xs j).K = mg.K := by intro _; rfl) : DE Xs mg Wx (.Subscript e (.Slice lo hi none p2) pos) (dSl f l u) := by
  obtain ⟨t, h1, h2⟩ := h
  obtain ⟨tl, l1, l2⟩ := hl
  obtain ⟨tu, u1, u2⟩ := hu
  refine ⟨_, fun j => pe_slice (L2.SlR.or (sl_listK (hK j)) (L2.SlR.or sl_str (sl_tupK (hK j)))) (h1 j) (l1 j) (u1 j), fun B ρ Q E hf W σ H Q' hh e x q => ?_⟩
  refine h2 B ρ _ E hf W σ H _ hh e x fun W1 H1 v d s1 r1 k1 => ?_
  refine l2 B ρ _ E k1 W1 σ H1 _ s1.holds (e.step s1) (x.step s1) fun W2 H2 o1 s2 k2 => ?_
  have s12 := s1.trans s2
  refine u2 B ρ _ E k2 W2 σ H2 _ s2.holds (e.step s12) (x.step s12) fun W3 H3 o2 s3 k3 => ?_
  have s13 := s12.trans s3
  have r3 := (r1.mono s2.le).mono s3.le
  have q3 : ToV mg W3 H3 Q Q' := ToV.step q s13
  cases r3 with
  | str z => exact .inr (.inl ⟨z, rfl, k3.1, q3 W3 H3 _ _ (Step.refl s3.holds) (.str _) k3.2⟩)
  | lst ha ra => exact .inl ⟨_, _, rfl, SqL.of (s3.holds.same _ _ ha), to_lst q3 s3.holds (ra.cut o1 o2) k3⟩
  | @tup a vs ds ha ra =>
    refine .inr (.inr ⟨_, _, rfl, SqT.of (s3.holds.same _ _ ha), fun hw => ?_, fun _ => to_tup q3 s3.holds (ra.cut o1 o2) k3⟩)
    have k4 : Q (.tup (cutD ds o1 o2)) := k3
    have e4 : cutD ds o1 o2 = ds := by
      unfold cutD
      rw [← ra.length, hw.1, hw.2, List.drop_zero, Nat.sub_zero, ra.length, List.take_length]
    rw [e4] at k4
    exact q3 W3 H3 _ _ (Step.refl s3.holds) (.tup ha ra) k4
  | _ => exact k3.elim
/-- a, b = e1, e2 -/
abbrev dPar (i j : Nat) (g : DTA) : DTS := fun N ρ => g ρ (fun ds => match ds with
  | [x, y] => N.nx ((ρ.set i (.d x)).set j (.d y))
  | _ => False) (fun x => N.rs x ρ)
theorem ds_par {i j : Nat} {x y : Str} {a b : Expr} {g : DTA} {px py pt : Pos} {kt k2 : Nat} {pt2 : Pos} (h : DA Xs mg Wx [a, b] g) (hN : ∀ l, (Xs l).N.Nodup)
    (hw : ∀ l, swappedStores [.Tuple [.Name x px, .Name y py] kt pt] (.Tuple [a, b] k2 pt2) (Xs l).env = pure (some [x, y]) := by intro _; rfl) (hij : i ≠ j := by decide) (hi : ∀ l, (Xs l).N[i]? = some x := by intro _; rfl) (hj : ∀ l, (Xs l).N[j]? = some y := by intro _; rfl)
    (hx : ∀ l, (Xs l).env.scope.names.lookup x = some .local := by intro _; rfl) (hy : ∀ l, (Xs l).env.scope.names.lookup y = some .local := by intro _; rfl) (hc : ∀ l, (Xs l).calm = true := by intro _; rfl)
    (hs : ∀ l, swapsWithSole [.Tuple [.Name x px, .Name y py] kt pt] (.Tuple [a, b] k2 pt2) pos.line (Xs l).env = pure false := by intro _; rfl) : DS Xs mg Wx (.Assign [.Tuple [.Name x px, .Name y py] kt pt] (.Tuple [a, b] k2 pt2) pos) (dPar i j g) := by
  obtain ⟨t, h1, h2⟩ := h
  refine ⟨_, fun l => ps_par (i := i) (j := j) (hc l) (hN l) (hi l) (hj l) hij (hx l) (hy l) (h1 l) (hw l) (hs l), fun W0 B N ρ hf W σ H Ds s e n => ?_⟩
  refine h2 B ρ _ _ hf W σ H _ s.holds e (n.ex s e) fun W1 H1 vs ds s1 r1 k1 => ?_
  split at k1
  · cases r1 with
    | cons r rs =>
      cases rs with
      | cons r2 rs =>
        cases rs
        exact ⟨_, _, rfl, n.nx W1 H1 _ _ (s.trans s1) (((e.step s1).set r).set r2) k1⟩
  · exact k1.elim
end
/-! ### pure words -/
theorem blsD_fn {α : Type} (f : α → Bool) (cs : List α) : blsD (cs.map fun c => D.bl (f c)) = some (cs.map f) := by
  have e := blsD_map (cs.map f)
  rw [List.map_map] at e
  exact e
theorem signs_ok {z : Str} (h : okStr z) : (signsD z).length ≤ sizeLine := by
  rw [signsD_len]
  exact Nat.le_trans h.1 (by decide)
theorem len_ok {z : Str} (h : okStr z) : z.length ≤ sizeLine := Nat.le_trans h.1 (by decide)
theorem kit_ss : kitB "str" "str" = some true := by decide +kernel
theorem line {n : Nat} (h : Nat.ble n 16777216 = true) : n ≤ sizeLine := Nat.le_of_ble_eq_true h
end FP
/-! FP10: classes of one's own: fields, making, methods, properties, isinstance. -/
namespace FP
open PySem L2
variable [Tabl]
theorem RmG.in1 {k : Nat} {A : Around} (m : RmG (k + 1) A) : RmG k A.in1 := ⟨m.r.in1, m.g⟩
/-- a class of the text -/
structure ClsF (mg : Gm) (c : Str) (C : Addr) : Prop where
  nm : mg.mg c = some (.ref C)
  cl : Cls mg.K C
  ha : PySem.W.findIn mg.K (.ref C) "__class__" = some (some (.builtin "object.__class__"))
  hn : PySem.W.specialIn mg.K (.builtin "object.__class__") "__get__" = some (some (.builtin "getset_descriptor.__get__"))
  htk : PySem.W.takesIn mg.K (.builtin "object.__class__") = some true
  hm : PySem.W.mroIn mg.K C (.type "object") = some true
theorem ClsF.eq {mg : Gm} {c : Str} {C C' : Addr} (f : ClsF mg c C) (h : mg.mg c = some (.ref C')) : C' = C := by
  have e := h.symm.trans f.nm
  cases e
  rfl
section
variable {ι : Type} {Xs : ι → Cx} {mg : Gm} {Wx : WX} {pos : Pos}
/-! ### fields -/
theorem lookup_reps {W : Wd} : ∀ {vs : List (Str × V)} {ds : List (Str × D)} {f : Str} {d : D}, vs.map (·.1) = ds.map (·.1) → Reps mg W (vs.map (·.2)) (ds.map (·.2)) → ds.lookup f = some d → ∃ v, vs.lookup f = some v ∧ Rep mg W v d
  | [], [], _, _, _, _, h => by cases h
  | [], _ :: _, _, _, h, _, _ => by cases h
  | _ :: _, [], _, _, h, _, _ => by cases h
  | (a, v) :: vs, (b, e) :: ds, f, d, hk, hr, hl => by
    simp only [List.map_cons, List.cons.injEq] at hk
    obtain ⟨rfl, hk⟩ := hk
    cases hr with
    | cons r rs =>
      rw [List.lookup_cons] at hl ⊢
      split at hl
      · cases hl
        exact ⟨v, rfl, r⟩
      · exact lookup_reps hk rs hl
abbrev dFld (c f : Str) (g : DTE) : DTE := fun ρ Q E => g ρ (fun x => match x with
  | .ins c' fs => c' = c ∧ ∃ d, fs.lookup f = some d ∧ Q d
  | _ => False) E
theorem de_fld {c f : Str} {C : Addr} {e : Expr} {g : DTE} (F : ClsF mg c C) (na : NoAttr mg.K C f) (h : DE Xs mg Wx e g) (hK : ∀ j, (Xs j).K = mg.K := by intro _; rfl) (hb : ∀ j, attributeBase e f (Xs j).env (eval e (Xs j).env) = eval e (Xs j).env := by intro _; rfl) : DE Xs mg Wx (.Attribute e f pos) (dFld c f g) := by
  obtain ⟨t, h1, h2⟩ := h
  refine ⟨tFld mg.K t f, fun j => by
    have z := pe_fld (pos := pos) (h1 j) (hb j)
    rw [hK j] at z
    exact z, fun B ρ Q E hf W σ H Q' hh e x q => ?_⟩
  refine h2 B ρ _ E hf W σ H _ hh e x fun W1 H1 v d s1 r1 k1 => ?_
  cases r1 with
  | @ins a C' dx fs c' ds hc ha hk rs =>
    obtain ⟨rfl, d', hd, hq⟩ := k1
    have ec := F.eq hc
    subst ec
    obtain ⟨v', hv, rv⟩ := lookup_reps hk rs hd
    exact ⟨a, C', dx, fs, v', rfl, s1.holds.same _ _ ha, F.cl, na, hv, q W1 H1 v' d' s1 rv hq⟩
  | _ => exact k1.elim
/-- a field of an object that is being made -/
abbrev dFldO (i : Nat) (c f : Str) : DTE := fun ρ Q _ => match ρ[i]? with
  | some (.ob c' _ fs) => c' = c ∧ ∃ d, fs.lookup f = some d ∧ Q d
  | _ => False
theorem de_fldO (i : Nat) {c x f : Str} {C : Addr} {p : Pos} (F : ClsF mg c C) (na : NoAttr mg.K C f) (hK : ∀ j, (Xs j).K = mg.K := by intro _; rfl) (hN : ∀ j, (Xs j).N[i]? = some x := by intro _; rfl)
    (hv : ∀ j, Vis (Xs j).env.scope x := by intro _; first | exact Or.inl rfl | exact Or.inr (Or.inl rfl) | exact Or.inr (Or.inr rfl)) (hd : (x == ("__debug__" : Str)) = false := by decide) (hcd : (x == ("__classdict__" : Str)) = false := by decide)
    (hb : ∀ j, attributeBase (.Name x p) f (Xs j).env (eval (.Name x p) (Xs j).env) = eval (.Name x p) (Xs j).env := by intro _; rfl) : DE Xs mg Wx (.Attribute (.Name x p) f pos) (dFldO i c f) := by
  refine ⟨tFld mg.K (tVar i) f, fun j => by
    have z := pe_fld (pos := pos) (pe_var (i := i) (pos := p) (hN j) (hv j) hd hcd) (hb j)
    rw [hK j] at z
    exact z, fun B ρ Q E hf W σ H Q' hh e x q => ?_⟩
  unfold dFldO at hf
  split at hf
  · rename_i c' a fs hs
    obtain ⟨rfl, d, hd, hq⟩ := hf
    obtain ⟨o, h1, vs, h2, ⟨C', dx, hc, h3⟩, _, _, _, hk, rs⟩ := e.sl i _ hs
    subst h2
    have ec := F.eq hc
    subst ec
    obtain ⟨v', hv, rv⟩ := lookup_reps hk rs hd
    exact ⟨.ref a, h1, a, C', dx, vs, v', rfl, h3, F.cl, na, hv, q W H v' d (Step.refl hh) rv hq⟩
  · exact hf.elim
/-- an attribute put -/
def putD (f : Str) (d : D) : List (Str × D) → List (Str × D)
  | [] => [(f, d)]
  | (g, e) :: r => if g = f then (f, d) :: r else (g, e) :: putD f d r
theorem putF_reps {W : Wd} {f : Str} {v : V} {d : D} (r : Rep mg W v d) : ∀ {vs : List (Str × V)} {ds : List (Str × D)}, vs.map (·.1) = ds.map (·.1) → Reps mg W (vs.map (·.2)) (ds.map (·.2)) → (putF f v vs).map (·.1) = (putD f d ds).map (·.1) ∧ Reps mg W ((putF f v vs).map (·.2)) ((putD f d ds).map (·.2))
  | [], [], _, _ => ⟨rfl, .cons r .nil⟩
  | [], _ :: _, h, _ => by cases h
  | _ :: _, [], h, _ => by cases h
  | (a, w) :: vs, (b, e) :: ds, hk, hr => by
    simp only [List.map_cons, List.cons.injEq] at hk
    obtain ⟨rfl, hk⟩ := hk
    cases hr with
    | cons r1 rs =>
      unfold putF putD
      by_cases ha : a = f
      · rw [if_pos ha, if_pos ha]
        exact ⟨by simp [hk, ha], .cons r rs⟩
      · rw [if_neg ha, if_neg ha]
        obtain ⟨h1, h2⟩ := putF_reps r hk rs
        exact ⟨by simp [h1], .cons r1 h2⟩
abbrev dSetF (i : Nat) (c f : Str) (g : DTE) : DTS := fun N ρ => g ρ (fun d => match ρ[i]? with
  | some (.ob c' a fs) => c' = c ∧ fs.length < 1000 ∧ N.nx (ρ.set i (.ob c a (putD f d fs)))
  | _ => False) (fun x => N.rs x ρ)
theorem ds_setF (i : Nat) {c x f : Str} {C : Addr} {p p' : Pos} {e : Expr} {g : DTE} (F : ClsF mg c C) (na : NoAttr mg.K C f) (h : DE Xs mg Wx e g) (hK : ∀ j, (Xs j).K = mg.K := by intro _; rfl) (hN : ∀ j, (Xs j).N[i]? = some x := by intro _; rfl)
    (hv : ∀ j, Vis (Xs j).env.scope x := by intro _; first | exact Or.inl rfl | exact Or.inr (Or.inl rfl) | exact Or.inr (Or.inr rfl)) (hd : (x == ("__debug__" : Str)) = false := by decide) (hcd : (x == ("__classdict__" : Str)) = false := by decide)
    (hs : ∀ j, swapsWith e (some (.Attribute (.Name x p) f p')) pos.line (Xs j).env = pure false := by intro _; rfl) : DS Xs mg Wx (.Assign [.Attribute (.Name x p) f p'] e pos) (dSetF i c f g) := by
  obtain ⟨t, h1, h2⟩ := h
  refine ⟨sFld mg.K (tVar i) t f, fun j => by
    have z := ps_fld (pe_var (i := i) (pos := p) (hN j) (hv j) hd hcd) (h1 j) (hs j)
    rw [hK j] at z
    exact z, fun W0 B N ρ hf W σ H Ds s e n => ?_⟩
  refine h2 B ρ _ _ hf W σ H _ s.holds e (n.ex s e) fun W1 H1 v d s1 r1 k1 => ?_
  have e1 := e.step s1
  dsimp only at k1
  split at k1
  · rename_i c' a fs hs'
    obtain ⟨rfl, hl, hq⟩ := k1
    obtain ⟨o, g1, vs, g2, ⟨C', dx, hc, g3⟩, g4, g5, g6, hk, rs⟩ := e1.sl i _ hs'
    subst g2
    have ec := F.eq hc
    subst ec
    have el : vs.length = fs.length := by
      have q := congrArg List.length hk
      simpa using q
    obtain ⟨k2, k3⟩ := putF_reps (f := f) r1 hk rs
    refine ⟨.ref a, g1, a, C', dx, vs, rfl, g3, F.cl, na, by omega, ?_⟩
    refine n.nx W1 _ σ _ ((s.trans s1).own g6 g3 g4 g5) (e1.turn (s' := .ob c' a (putD f d fs)) hs' g1 (List.mem_singleton.mpr rfl) (fun _ h => h) ⟨_, rfl, ⟨C', dx, hc, upd_same⟩, g4, g5, g6, k2, k3⟩) hq
  · exact k1.elim
/-! ### making an object -/
/-- an __init__'s promise: the fields that the object has behind it -/
def spI (mg : Gm) (c : Str) (C : Addr) (n : Nat) (f : List D → ((List (Str × D)) → Prop) → (XD → Prop) → Prop) : Sp := fun vs H Q E => ∃ W ds us H1 x dx Qd Ed, vs = .ref x :: us ∧ H1 x = none ∧ H1 dx = none ∧ dx ≠ x ∧ H = upd (upd H1 dx (.own x)) x (.ins C dx []) ∧ Holds W H1 ∧ Reps mg W us ds ∧ ds.length = n ∧ f ds Qd Ed ∧
  (∀ W' H' gs fs dy, Step W H1 W' H' → H' x = some (.ins C dy gs) → W'.H x = none → ¬ W'.T x → gs.map (·.1) = fs.map (·.1) → Reps mg W' (gs.map (·.2)) (fs.map (·.2)) → Qd fs → Q .non H') ∧ ∀ W' H' cls dd y, Step W H1 W' H' → RepX mg W' H' cls dd y → Ed y → E cls dd H'
structure InitOk (P : Program) (w : World) (mg : Gm) (base : Heap) (k : Nat) (c : Str) (C : Addr) (n : Nat) (f : List D → ((List (Str × D)) → Prop) → (XD → Prop) → Prop) : Prop where
  ex : ∃ fa fd ps, Mk mg.K C fa ∧ Binds mg.K fd ps [] ∧ ps.length = n + 1 ∧ FnG P w mg.K mg.mg base k fa fd ps (spI mg c C n f)
/-- the making, where no repr is under way -/
theorem makeG {X : Cx} {C f : Addr} {k : Nat} {fd : FuncData} {ps : List Str} {sp : Sp} {Ex : XK} {pins : List (Addr × Obj)} {σ : St} {H : Hp} {z : Shared} {Q : VK} {us : List Value} {vs : List V} (M : Mk X.K C f) (F : FnG X.prog X.w X.K X.mg X.base k f fd ps sp) (m : RmG (k + 1) X.A) (hb : Binds X.K fd ps [])
    (hx : PassesAt (L2.CX X.prog X.w) X σ Ex) (I : Inv X pins σ H z) (rv : Vals vs us)
    (h : ∀ x dx, H x = none → H dx = none → dx ≠ x → sp (.ref x :: vs) (upd (upd H dx (.own x)) x (.ins C dx [])) (fun v H2 => v = .non ∧ Q (.ref x) H2) Ex) : wpAny (model X.prog X.w) X.A (call (.ref C) us) (EP X pins σ Q) X.xe z := by
  have fr0 := I.hok.fresh (Nat.le_refl z.heap.objs.size)
  have fr1 := I.hok.fresh (Nat.le_succ z.heap.objs.size)
  have want := h (z.heap.objs.size + 1) z.heap.objs.size fr1 fr0 (Nat.ne_of_lt (Nat.lt_succ_self _))
  have J := Inv.made (C := C) I
  have rv2 : Vals (V.ref (z.heap.objs.size + 1) :: vs) (Value.ref (z.heap.objs.size + 1) :: us) := .cons rfl rv
  have ln : (Value.ref (z.heap.objs.size + 1) :: us ++ []).length = ps.length := by
    rw [List.append_nil, ← rv2.length]
    exact F.ln _ _ _ _ want
  have bd := hb _ (Value.ref (z.heap.objs.size + 1) :: us) J.kIn ln
  rw [List.append_nil] at bd
  have gd : (X.A.under (.builtin "type.__call__" ⟨.ref C :: us, []⟩)).guards = some [] := by
    simp [Around.under, Code.guards, Code.isGuard, guardIds, pushGuards, m.g]
  have cd := F.go _ X.stack _ _ ⟨Value.ref (z.heap.objs.size + 1) :: us, []⟩ _ _ _ Ex ⟨m.r.make C us [], gd⟩ (J.env0.make C us []) bd rv2 want
  refine wpAny_call (make_map (f := f) I.kIn M.makes M.init (beq_iff_eq.mp M.fn) (codeAny_mono cd ?_))
  intro res z' hq
  match res, hq with
  | .error e, hq => exact hx pins _ _ e z' J hq
  | .ok .next, hq => exact hq.elim
  | .ok .brk, hq => exact hq.elim
  | .ok .cont, hq => exact hq.elim
  | .ok (.ret u), hq =>
    obtain ⟨v, H', I3, ru, ev, q3⟩ := J.after hq
    subst ev
    exact ⟨ru, ⟨V.ref (z.heap.objs.size + 1), H', I3, rfl, q3⟩⟩
abbrev dMake (c : Str) (f : List D → ((List (Str × D)) → Prop) → (XD → Prop) → Prop) (n : Nat) (g : DTA) : DTE := fun ρ Q E => g ρ (fun ds => ds.length = n ∧ f ds (fun fs => Q (.ins c fs)) E) E
theorem de_make {P : Program} {w : World} {base : Heap} {k n : Nat} {c : Str} {C : Addr} {f : List D → ((List (Str × D)) → Prop) → (XD → Prop) → Prop} {p : Pos} {e : Expr} {es : List Expr} {g : DTA} (Fc : ClsF mg c C) (F : InitOk P w mg base k c C n f) (hr : ∀ i, RmG (k + 1) (Xs i).A) (tk : ∀ i, Pas (Xs i) Wx) (ha : DA Xs mg Wx (e :: es) g)
    (hP : ∀ j, (Xs j).prog = P ∧ (Xs j).w = w ∧ (Xs j).K = mg.K ∧ (Xs j).mg = mg.mg ∧ (Xs j).base = base := by intro _; exact ⟨rfl, rfl, rfl, rfl, rfl⟩) (hg : ∀ j, Gl (Xs j) c := by intro _; rfl) (hd : (c == ("__debug__" : Str)) = false := by decide)
    (he : ∀ i, starEach (e :: es) (Xs i).env = (false, eval e (Xs i).env) :: starEach es (Xs i).env := by intro _; rfl) (hpl : ∀ i, (backTo pos (starEach es (Xs i).env)).any (·.1) = false := by intro _; rfl) : DE Xs mg Wx (.Call (.Name c p) (e :: es) [] pos) (dMake c f n g) := by
  obtain ⟨fa, fd, ps, M, hb, hl, G⟩ := F.ex
  obtain ⟨t, h1, h2⟩ := ha
  refine ⟨fun σ H Q => t σ H fun vs H1 => ∀ x dx, H1 x = none → H1 dx = none → dx ≠ x → spI mg c C n f (.ref x :: vs) (upd (upd H1 dx (.own x)) x (.ins C dx [])) (fun v H2 => v = .non ∧ Q (.ref x) H2) (WE Wx σ), fun i => ?_, ?_⟩
  · obtain ⟨p1, p2, p3, p4, p5⟩ := hP i
    subst p1 p2 p5
    constructor
    intro pins z σ H Q I hw
    apply wpAny_Call_Name_kw
    apply ld_glob I (hg i) (by rw [p4]; exact Fc.nm) _ hd
    apply PySem.W.callWith_K (h₀ := (Xs i).base) I.ok.mod.kin (by rw [p3]; exact M.kp) _ (he i) (hpl i)
    refine thn ((h1 i).run pos pins z σ H _ I hw) ?_
    rintro us z1 ⟨vs, H1, I1, rv, q⟩
    exact ⟨I1.kIn, makeG (by rw [p3]; exact M) (by rw [p3, p4]; exact G) (hr i) (by rw [p3]; exact hb) (tk i σ) I1 rv q⟩
  · intro B ρ Q E hf W σ H Q' hh e x q
    refine h2 B ρ _ E hf W σ H _ hh e x fun W1 H1 vs ds s1 r1 k1 => ?_
    intro a dx na ndx ne
    refine ⟨W1, ds, vs, H1, a, dx, _, E, rfl, na, ndx, ne, rfl, s1.holds, r1, k1.1, k1.2, fun W' H' gs fs dy s' ha' nw nt hk rs hq => ⟨rfl, ?_⟩, fun W' H' cls dd y s' r h => x W' H' cls dd y (s1.trans s') r h⟩
    have st := s'.taken na ha' nw nt
    exact q _ _ _ _ (s1.trans st) (.ins Fc.nm (show upd W'.H a _ a = _ from upd_same) hk (rs.mono (Wd.le_put nw))) hq
/-- an __init__ by its body: the object stands in slot 0 -/
theorem mkInit {P : Program} {w : World} {base : Heap} {c : Str} {C : Addr} {qual : Str} {st : Stmt} {N ps : List Str} {k n : Nat} {f : List D → ((List (Str × D)) → Prop) → (XD → Prop) → Prop} (Fc : ClsF mg c C) (d : ∃ fa fd, Mk mg.K C fa ∧ Fun mg.K "__init__" qual st fa fd) (S : FnScope N ps (defScope st)) (hn : ps.length = n + 1)
    (hb : ∀ (kV doc pm : Value) (an : Option Addr) (cdv ct : Value) (us : List Value), us.length = ps.length → bindArgs (PySem.W.fnOf "__init__" qual (defArgs st) (defBody st) (defScope st) .none kV doc pm an cdv ct) ⟨us, []⟩ = pure (ps.zip us))
    (h : ∀ (fa : Addr) (cdv : Value) (A : Around) (outer : List PySem.Env) (s : Shared) (H : Hp) (E : XK), RmG k (A.deeper (PyProof.Rows.envOfC qual (defScope st) s.heap.objs.size fa cdv)) →
      ∃ g, DSs (fun _ : Unit => cxOf (L2.CX P w) P w mg.K mg.mg base N qual (defScope st) fa cdv A outer s H E) mg (fun cls d _ H' => E cls d H') (defBody st) g ∧
        ∀ x ds Q Ex, ds.length = n → f ds Q Ex → g ⟨fun ρ => ∃ fs r, ρ = .ob c x fs :: r ∧ Q fs, fun _ _ => False, fun _ => False, fun _ => False, fun x _ => Ex x⟩ (.ob c x [] :: startD (N.length - 1) ds)) :
    InitOk P w mg base (k + 1) c C n f := by
  obtain ⟨fa, fd, M, F⟩ := d
  refine ⟨fa, fd, ps, M, F.binds hb, hn, ?_⟩
  refine fnG_of F S (fun vs H Q E hs => ?_) (fun cdv A outer s H vs Q E hr hs => ?_)
  · obtain ⟨W, ds, us, H1, x, dx, Qd, Ed, rfl, _, _, _, _, _, r, l, _⟩ := hs
    rw [List.length_cons, r.length, l, hn]
  · obtain ⟨W, ds, us, H1, x, dx, Qd, Ed, rfl, nx, ndx, ne, rfl, hh, r, l, hf, q, ex⟩ := hs
    obtain ⟨g, ⟨t, h1, h2⟩, h3⟩ := h fa cdv A outer s _ E hr
    have lu : us.length = n := by rw [r.length, l]
    have sd : Step W H1 W (upd H1 dx (.own x)) := Step.lay hh ndx
    have nx2 : (upd H1 dx (.own x)) x = none := by
      rw [upd_ne (Ne.symm ne)]
      exact nx
    have sx : Step W H1 W (upd (upd H1 dx (.own x)) x (.ins C dx [])) := sd.trans (Step.lay sd.holds nx2)
    refine ⟨t, h1 (), ?_⟩
    have hN : N.length = (N.length - 1) + 1 := by
      have q1 := congrArg List.length S.pre
      rw [List.length_take, hn] at q1
      omega
    have e0 : EnvR mg H1 W (upd (upd H1 dx (.own x)) x (.ins C dx [])) (L2.start N (.ref x :: us)) (.ob c x [] :: startD (N.length - 1) ds) := by
      have base0 := EnvR.start (N := N.tail) (mg := mg) (H := H1) r
      have lt : N.tail.length = N.length - 1 := List.length_tail
      have es : L2.start N (.ref x :: us) = some (.ref x) :: L2.start N.tail us := by
        unfold L2.start
        rw [List.map_cons, List.cons_append, List.length_cons, lt, Nat.sub_sub, Nat.add_comm 1]
      rw [es, ← lt]
      refine ⟨congrArg (· + 1) base0.len, fun i sl hi => ?_, fun i j s1 s2 o1 o2 a hij q1 q2 q3 q4 m1 m2 => ?_⟩
      · cases i with
        | zero =>
          cases hi
          exact ⟨_, rfl, [], rfl, ⟨C, dx, Fc.nm, upd_same⟩, hh.same.free nx, hh.nT nx, nx, rfl, .nil⟩
        | succ i =>
          obtain ⟨o, g1, g2⟩ := base0.sl i sl hi
          refine ⟨o, g1, g2.keep (Le.refl W) fun a _ u h5 h6 h7 => sx.mine h5 h6 h7⟩
      · have none2 : ∀ (j : Nat) (s : Sl) (o : Option V), (startD N.tail.length ds)[j]? = some s → a ∉ s.fp o := fun j s o hj m => by
          unfold startD at hj
          rcases List.mem_append.mp (List.mem_of_getElem? hj) with z | z
          · obtain ⟨_, _, z⟩ := List.mem_map.mp z
            rw [← z] at m
            cases m
          · have z := List.eq_of_mem_replicate z
            rw [z] at m
            cases m
        cases i with
        | succ i => exact none2 i s1 o1 q1 m1
        | zero =>
          cases j with
          | zero => exact hij rfl
          | succ j => exact none2 j s2 o2 q2 m2
    refine h2 W H1 _ _ (h3 x ds Qd Ed l hf) W _ _ _ sx e0 ⟨fun W' H' σ' ρ' s' e' k => ?_, fun _ _ _ _ _ _ _ _ _ k => k.elim, fun _ _ _ _ _ _ k => k.elim, fun _ _ _ _ _ _ k => k.elim, fun W' H' σ' ρ' cls dd y s' e' r' k => ex W' H' cls dd y s' r' k⟩
    obtain ⟨fs, rr, rfl, hq⟩ := k
    obtain ⟨o, g1, vs, g2, ⟨C', dy, hc, g3⟩, g4, g5, g6, hk, rs⟩ := e'.sl 0 _ rfl
    have ec := Fc.eq hc
    subst ec
    exact q W' H' vs fs dy s' g3 g4 g5 hk rs hq
end
end FP
/-! FP11: methods, properties, isinstance with an own class, len, in, [], str of own objects. -/
namespace FP
open PySem L2
variable [Tabl]
section
variable {ι : Type} {Xs : ι → Cx} {mg : Gm} {Wx : WX} {pos : Pos}
/-! ### methods -/
structure MethOk (P : Program) (w : World) (mg : Gm) (base : Heap) (k : Nat) (C : Addr) (m : Str) (n : Nat) (f : List D → M D) : Prop where
  ex : ∃ fa fd ps, Meth mg.K C m fa ∧ Binds mg.K fd ps [] ∧ ps.length = n ∧ FnG P w mg.K mg.mg base k fa fd ps (spD mg n f)
theorem mkMeth {P : Program} {w : World} {base : Heap} {C : Addr} {m qual : Str} {st : Stmt} {N ps : List Str} {k : Nat} {f : List D → M D} (d : ∃ fa fd, Meth mg.K C m fa ∧ Fun mg.K m qual st fa fd) (S : FnScope N ps (defScope st))
    (hb : ∀ (kV doc pm : Value) (an : Option Addr) (cdv ct : Value) (us : List Value), us.length = ps.length → bindArgs (PySem.W.fnOf m qual (defArgs st) (defBody st) (defScope st) .none kV doc pm an cdv ct) ⟨us, []⟩ = pure (ps.zip us))
    (h : ∀ (fa : Addr) (cdv : Value) (A : Around) (outer : List PySem.Env) (s : Shared) (H : Hp) (E : XK), RmG k (A.deeper (PyProof.Rows.envOfC qual (defScope st) s.heap.objs.size fa cdv)) →
      ∃ g, DSs (fun _ : Unit => cxOf (L2.CX P w) P w mg.K mg.mg base N qual (defScope st) fa cdv A outer s H E) mg (fun cls d _ H' => E cls d H') (defBody st) g ∧
        ∀ ds Q Ex, ds.length = ps.length → f ds Q Ex → g ⟨fun _ => Q .non, fun d _ => Q d, fun _ => False, fun _ => False, fun x _ => Ex x⟩ (startD N.length ds)) :
    MethOk P w mg base (k + 1) C m ps.length f := by
  obtain ⟨fa, fd, hm, F⟩ := d
  exact ⟨fa, fd, ps, hm, F.binds hb, rfl, def_ok F S (h fa)⟩
theorem lookup_none {α β : Type} : ∀ {vs : List (Str × α)} {ds : List (Str × β)} {f : Str}, vs.map (·.1) = ds.map (·.1) → ds.lookup f = none → vs.lookup f = none
  | [], [], _, _, _ => rfl
  | [], _ :: _, _, h, _ => by cases h
  | _ :: _, [], _, h, _ => by cases h
  | (a, v) :: vs, (b, e) :: ds, f, hk, hl => by
    simp only [List.map_cons, List.cons.injEq] at hk
    obtain ⟨rfl, hk⟩ := hk
    rw [List.lookup_cons] at hl ⊢
    split at hl
    · cases hl
    · exact lookup_none hk hl
/-! ### properties -/
structure PropOk (P : Program) (w : World) (mg : Gm) (base : Heap) (k : Nat) (C : Addr) (m : Str) (f : List D → M D) : Prop where
  ex : ∃ p fa fd ps, PropOf mg.K C m p fa ∧ Binds mg.K fd ps [] ∧ ps.length = 1 ∧ FnG P w mg.K mg.mg base k fa fd ps (spD mg 1 f)
theorem mkProp {P : Program} {w : World} {base : Heap} {C : Addr} {m qual : Str} {st : Stmt} {N ps : List Str} {k : Nat} {f : List D → M D} (d : ∃ p fa fd, PropOf mg.K C m p fa ∧ Fun mg.K m qual st fa fd) (S : FnScope N ps (defScope st)) (h1 : ps.length = 1)
    (hb : ∀ (kV doc pm : Value) (an : Option Addr) (cdv ct : Value) (us : List Value), us.length = ps.length → bindArgs (PySem.W.fnOf m qual (defArgs st) (defBody st) (defScope st) .none kV doc pm an cdv ct) ⟨us, []⟩ = pure (ps.zip us))
    (h : ∀ (fa : Addr) (cdv : Value) (A : Around) (outer : List PySem.Env) (s : Shared) (H : Hp) (E : XK), RmG k (A.deeper (PyProof.Rows.envOfC qual (defScope st) s.heap.objs.size fa cdv)) →
      ∃ g, DSs (fun _ : Unit => cxOf (L2.CX P w) P w mg.K mg.mg base N qual (defScope st) fa cdv A outer s H E) mg (fun cls d _ H' => E cls d H') (defBody st) g ∧
        ∀ ds Q Ex, ds.length = ps.length → f ds Q Ex → g ⟨fun _ => Q .non, fun d _ => Q d, fun _ => False, fun _ => False, fun x _ => Ex x⟩ (startD N.length ds)) :
    PropOk P w mg base (k + 1) C m f := by
  obtain ⟨p, fa, fd, hm, F⟩ := d
  have G := def_ok F S (h fa)
  rw [h1] at G
  exact ⟨p, fa, fd, ps, hm, F.binds hb, h1, G⟩
/-- a property that raises nothing -/
abbrev dProp (c : Str) (f : List D → M D) (go : DTE) : DTE := fun ρ Q E => go ρ (fun x => match x with
  | .ins c' fs => c' = c ∧ f [.ins c' fs] Q F0
  | _ => False) E
theorem getpropG {X : Cx} {k : Nat} {C p g a dx : Addr} {fs : List (Str × V)} {f : Str} {fd : FuncData} {ps : List Str} {sp : Sp} {pins : List (Addr × Obj)} {σ : St} {H : Hp} {z : Shared} {Q : VK} {b : Bool} {E' : Value → Shared → Prop} (I : Inv X pins σ H z) (ea : H a = some (.ins C dx fs)) (c : Cls X.K C) (hp : PropOf X.K C f p g)
    (F : FnG X.prog X.w X.K X.mg X.base k g fd ps sp) (m : RmG (k + 1) X.A) (hb : Binds X.K fd ps []) (h : sp [.ref a] H Q E0) : wpAny (model X.prog X.w) X.A (getAttr (.ref a) f b) (EP X pins σ Q) E' z := by
  obtain ⟨mA, O, _⟩ := ins_get I.hok ea
  obtain ⟨od, J, _⟩ := O.look
  obtain ⟨rest, hrec⟩ := hp.rec_
  have I1 := I.tok (z.toks + 1)
  have hc : (PySem.W.clsIn X.K C).isSome = true := by
    obtain ⟨cd, q, _⟩ := PySem.W.any_some c.hd
    rw [q]
    rfl
  have plain := PySem.W.plainGet_of (c.get f)
  refine PySem.W.get_bind I.kIn J plain.1 (PySem.W.findObj_data hc hp.at_ hp.get hp.tak) plain.2 (wpAny_call (PySem.W.prop_get (s := { z with toks := z.toks + 1 }) I.kIn hrec ?_))
  have bd := hb { z with toks := z.toks + 1 } [.ref a] I1.kIn (F.ln _ _ _ _ h)
  rw [List.append_nil] at bd
  have cd := F.go X.A.in1 X.stack { z with toks := z.toks + 1 } H ⟨[.ref a], []⟩ [.ref a] [.ref a] Q E0 m.in1 I1.env0.in1 bd (.cons rfl .nil) h
  refine codeAny_mono cd ?_
  intro res z' hq
  match res, hq with
  | .error e, hq =>
    obtain ⟨_, _, _, _, _, _, _, _, _, _, _, _, w⟩ := hq
    exact w.elim
  | .ok .next, hq => exact hq.elim
  | .ok .brk, hq => exact hq.elim
  | .ok .cont, hq => exact hq.elim
  | .ok (.ret u), hq =>
    obtain ⟨v, H', I3, rv, q3⟩ := I1.after hq
    show wpAny _ _ (handedOut u) _ _ _
    rw [PySem.W.handedOut_of (handed_of rv)]
    exact wpAny_pure ⟨v, H', I3, rv, q3⟩
theorem de_prop {P : Program} {w : World} {base : Heap} {k : Nat} {c m : Str} {C : Addr} {f : List D → M D} {o : Expr} {go : DTE} (Fc : ClsF mg c C) (F : PropOk P w mg base k C m f) (hr : ∀ i, RmG (k + 1) (Xs i).A) (ho : DE Xs mg Wx o go)
    (hP : ∀ j, (Xs j).prog = P ∧ (Xs j).w = w ∧ (Xs j).K = mg.K ∧ (Xs j).mg = mg.mg ∧ (Xs j).base = base := by intro _; exact ⟨rfl, rfl, rfl, rfl, rfl⟩) (hab : ∀ j, attributeBase o m (Xs j).env (eval o (Xs j).env) = eval o (Xs j).env := by intro _; rfl) : DE Xs mg Wx (.Attribute o m pos) (dProp c f go) := by
  obtain ⟨p, fa, fd, ps, hm, hb, hl, G⟩ := F.ex
  obtain ⟨to, o1, o2⟩ := ho
  refine ⟨fun σ H Q => to σ H fun x H1 => ∃ a dx fs, x = .ref a ∧ H1 a = some (.ins C dx fs) ∧ spD mg 1 f [.ref a] H1 Q E0, fun i => ?_, ?_⟩
  · obtain ⟨p1, p2, p3, p4, p5⟩ := hP i
    subst p1 p2 p5
    constructor
    intro pins z σ H Q I hw
    refine attr_of (hab i) (thn ((o1 i).run pins z σ H _ I hw) ?_)
    rintro u z1 ⟨x, H1, I1, rx, a, dx, fs, ex, ea, q⟩
    subst ex
    have eu : u = Value.ref a := rx
    subst eu
    exact getpropG I1 ea (by rw [p3]; exact Fc.cl) (by rw [p3]; exact hm) (by rw [p3, p4]; exact G) (hr i) (by rw [p3]; exact hb) q
  · intro B ρ Q E hf W σ H Q' hh e x q
    refine o2 B ρ _ E hf W σ H _ hh e x fun W1 H1 v d s1 r1 k1 => ?_
    cases r1 with
    | @ins a C' dx fs c' ds hc ha hk rs =>
      obtain ⟨rfl, k2⟩ := k1
      have ec := Fc.eq hc
      subst ec
      exact ⟨a, dx, fs, rfl, s1.holds.same _ _ ha, W1, _, Q, F0, s1.holds, .cons (.ins hc ha hk rs) .nil, rfl, k2, ToV.step q s1, fun _ _ _ _ _ _ _ h => h⟩
    | _ => exact k1.elim
/-! ### isinstance with a class of the text -/
/-- what isinstance says of built-in kinds and of the classes cs -/
structure IsiF (mg : Gm) (C : Addr) (cs : List Str) (yes : Str → Bool) : Prop where
  bn : ∀ n ∈ ["NoneType", "bool", "int", "str", "tuple", "list", "dict"], PySem.W.kitOne mg.K (.type n) (.ref C) = some false
  cl : ∀ c ∈ cs, ∃ C', ClsF mg c C' ∧ PySem.W.kitOne mg.K (.ref C') (.ref C) = some (yes c)
def isiD (cs : List Str) (yes : Str → Bool) : D → Option Bool
  | .ins c _ => if c ∈ cs then some (yes c) else none
  | .fz _ => none
  | .cl _ => none
  | .fn _ _ => none
  | _ => some false
abbrev dIsiO (cs : List Str) (yes : Str → Bool) (f : DTE) : DTE := fun ρ Q E => f ρ (fun x => match isiD cs yes x with
  | some b => Q (.bl b)
  | none => False) E
theorem isiD_v {W : Wd} {H : Hp} {C : Addr} {cs : List Str} {yes : Str → Bool} {x : V} {d : D} {b : Bool} (K : IsiF mg C cs yes) (hh : Holds W H) (r : Rep mg W x d) (h : isiD cs yes d = some b) : ∃ t, TyX mg.K H x t ∧ PySem.W.kitOne mg.K t (.ref C) = some b := by
  cases r with
  | @ins a C0 dx fs c ds hc ha hk rs =>
    have h' : (if c ∈ cs then some (yes c) else none) = some b := h
    by_cases hm : c ∈ cs
    · rw [if_pos hm] at h'
      cases h'
      obtain ⟨C', F, hy⟩ := K.cl _ hm
      have ec := F.eq hc
      subst ec
      exact ⟨_, .base (.ins (hh.same _ _ ha) F.cl F.ha F.hn F.htk F.hm), hy⟩
    · rw [if_neg hm] at h'
      cases h'
  | fz _ _ => cases h
  | cl _ => cases h
  | fn _ => cases h
  | non => cases h; exact ⟨_, tyName_v (mg := mg) hh .non rfl, K.bn _ (by decide)⟩
  | bl k => cases h; exact ⟨_, tyName_v (mg := mg) hh (.bl k) rfl, K.bn _ (by decide)⟩
  | int k => cases h; exact ⟨_, tyName_v (mg := mg) hh (.int k) rfl, K.bn _ (by decide)⟩
  | str k => cases h; exact ⟨_, tyName_v (mg := mg) hh (.str k) rfl, K.bn _ (by decide)⟩
  | tup ha rs => cases h; exact ⟨_, tyName_v (mg := mg) hh (.tup ha rs) rfl, K.bn _ (by decide)⟩
  | lst ha rs => cases h; exact ⟨_, tyName_v (mg := mg) hh (.lst ha rs) rfl, K.bn _ (by decide)⟩
  | dct ha hk rs => cases h; exact ⟨_, tyName_v (mg := mg) hh (.dct ha hk rs) rfl, K.bn _ (by decide)⟩
  | tok t => cases h; exact ⟨_, tyName_v (mg := mg) hh (.tok t) rfl, K.bn _ (by decide)⟩
theorem de_isiO {e : Expr} {f : DTE} {c : Str} {C : Addr} {cs : List Str} {yes : Str → Bool} {p p2 : Pos} (h : DE Xs mg Wx e f) (hm : mg.mg "isinstance" = none) (Fc : mg.mg c = some (.ref C)) (K : IsiF mg C cs yes) (hv : bootBuiltins "isinstance" = some (.builtin "isinstance"))
    (hK : ∀ j, (Xs j).K = mg.K := by intro _; rfl) (hM : ∀ j, (Xs j).mg = mg.mg := by intro _; rfl) (hg : ∀ j, Gl (Xs j) "isinstance" := by intro _; rfl) (hgT : ∀ j, Gl (Xs j) c := by intro _; rfl) (hd : (c == ("__debug__" : Str)) = false := by decide)
    (he : ∀ j, starEach [e, .Name c p2] (Xs j).env = (false, eval e (Xs j).env) :: starEach [.Name c p2] (Xs j).env := by intro _; rfl) (he2 : ∀ j, starEach [.Name c p2] (Xs j).env = [(false, eval (.Name c p2) (Xs j).env)] := by intro _; rfl)
    (hpl : ∀ j, (backTo pos (starEach [.Name c p2] (Xs j).env)).any (·.1) = false := by intro _; rfl) : DE Xs mg Wx (.Call (.Name "isinstance" p) [e, .Name c p2] [] pos) (dIsiO cs yes f) := by
  obtain ⟨t, h1, h2⟩ := h
  refine ⟨tCB (rIsi mg.K) (tCons t (tCons (tC (.ref C)) tNil)), fun j => ?_, ?_⟩
  · exact pe_callB (call_isiK2 (hK j)) (hg j) (by rw [hM j]; exact hm) hv (pa_cons (h1 j) (pa_cons (pe_glob (v := .ref C) (hgT j) (by rw [hM j]; exact Fc) rfl hd) pa_nil (he2 j)) (he j)) (by decide) (by decide) (he j) (hpl j)
  · intro B ρ Q E hf W σ H Q' hh e x q
    refine h2 B ρ _ E hf W σ H _ hh e x fun W1 H1 v d s1 r1 k1 => ?_
    dsimp only at k1
    split at k1
    · rename_i b hb
      obtain ⟨ty, hy, hk⟩ := isiD_v K s1.holds r1 hb
      exact ⟨v, .ref C, ty, .ref C, b, rfl, .own C, hy, hk, q W1 H1 _ _ s1 (.bl b) k1⟩
    · exact k1.elim
end
end FP
/-! FP12: what Python asks of own objects by special methods: len, in, ==, str, []. -/
namespace FP
open PySem L2
variable [Tabl]
theorem CX.none {P : Program} {w : World} {out : List PySem.Env} {H : Hp} {z : Shared} {e : Value} {z' : Shared} (h : L2.CX P w out H z E0 e z') : False := by
  obtain ⟨_, _, _, _, _, _, _, _, _, _, _, _, w⟩ := h
  exact w
/-- a callee that raises nothing, at any place -/
theorem callAt0 {X : Cx} {k : Nat} {f : Addr} {fd : FuncData} {ps : List Str} {sp : Sp} {pins : List (Addr × Obj)} {σ : St} {H : Hp} {z : Shared} {Q : VK} {us : List Value} {vs : List V} {E' : Value → Shared → Prop} (F : FnG X.prog X.w X.K X.mg X.base k f fd ps sp) {A' : Around} (m : RmG k A') (hA : A'.frames = X.A.frames)
    (hb : Binds X.K fd ps []) (I : Inv X pins σ H z) (rv : Vals vs us) (h : sp vs H Q E0) : wpAny (model X.prog X.w) A' (call (.ref f) us) (EP X pins σ Q) E' z := by
  have hl : (us ++ []).length = ps.length := by
    rw [List.append_nil, ← rv.length]
    exact F.ln _ _ _ _ h
  have bd := hb z us I.kIn hl
  rw [List.append_nil] at bd
  have e0 := I.env0
  have cd := F.go A' X.stack z H ⟨us, []⟩ us vs Q E0 m ⟨by rw [hA]; exact e0.frames, e0.mod, e0.bs, e0.bsz, e0.funs, e0.frf, e0.hok, e0.bare⟩ bd rv h
  refine wpAny_call (codeAny_mono cd ?_)
  intro res z' hq
  match res, hq with
  | .error e, hq => exact (CX.none hq).elim
  | .ok (.ret u), hq => exact I.after hq
  | .ok .next, hq => exact hq.elim
  | .ok .brk, hq => exact hq.elim
  | .ok .cont, hq => exact hq.elim
/-- a special method of a class: found, a def of the text, with its promise -/
structure SpecOk (P : Program) (w : World) (mg : Gm) (base : Heap) (k : Nat) (C : Addr) (m : Str) (n : Nat) (f : List D → M D) : Prop where
  ex : ∃ fa fd ps, PySem.W.findIn mg.K (.ref C) m = some (some (.ref fa)) ∧ PySem.W.isFn mg.K (.ref fa) = true ∧ PySem.W.fnIn mg.K fa = true ∧ Binds mg.K fd ps [] ∧ ps.length = n ∧ FnG P w mg.K mg.mg base k fa fd ps (spD mg n f)
section
variable {ι : Type} {Xs : ι → Cx} {mg : Gm} {Wx : WX} {pos : Pos} {P : Program} {w : World} {base : Heap} {k : Nat} {c : Str} {C : Addr} {f : List D → M D}
/-- the contexts are those of the module -/
abbrev HPs (Xs : ι → Cx) (P : Program) (w : World) (mg : Gm) (base : Heap) : Prop := ∀ j, (Xs j).prog = P ∧ (Xs j).w = w ∧ (Xs j).K = mg.K ∧ (Xs j).mg = mg.mg ∧ (Xs j).base = base
theorem spD_of {W : Wd} {H : Hp} {Q : D → Prop} {Q' : VK} {vs : List V} {ds : List D} {n : Nat} (hh : Holds W H) (r : Reps mg W vs ds) (hl : ds.length = n) (h : f ds Q F0) (q : ToV mg W H Q Q') : spD mg n f vs H Q' E0 :=
  ⟨W, ds, Q, F0, hh, r, hl, h, q, fun _ _ _ _ _ _ _ h => h⟩
/-! ### len -/
def rdLenM (c : Str) (f : List D → M D) : RDL := fun ds Q => match ds with
  | [.ins c' fs] => c' = c ∧ f [.ins c' fs] (fun d => match d with
    | .int n => (0 ≤ n ∧ n < 2 ^ 63) ∧ Q (.int n)
    | _ => False) F0
  | _ => False
theorem ok_lenM (Fc : ClsF mg c C) (S : SpecOk P w mg base k C "__len__" 1 f) (hr : ∀ j, RmG (k + 1) (Xs j).A) (hP : HPs Xs P w mg base := by intro _; exact ⟨rfl, rfl, rfl, rfl, rfl⟩) : CallOk Xs mg (.builtin "len") (rdLenM c f) := by
  obtain ⟨fa, fd, ps, h1, h2, h3, hb, hl, G⟩ := S.ex
  refine ⟨fun xs H Q => ∃ a dx fs, xs = [.ref a] ∧ H a = some (.ins C dx fs) ∧ spD mg 1 f [.ref a] H (fun v H' => ∃ n : Int, v = .int n ∧ (0 ≤ n ∧ n < 2 ^ 63) ∧ Q (.int n) H') E0, fun j => ?_, ?_⟩
  · obtain ⟨p1, p2, p3, p4, p5⟩ := hP j
    subst p1 p2 p5
    intro pins z σ H xs us Q I rv h
    obtain ⟨a, dx, fs, rfl, ea, hs⟩ := h
    obtain ⟨u, rfl, ru⟩ := vals1 rv
    cases ru
    obtain ⟨mA, O, _⟩ := ins_get I.hok ea
    obtain ⟨od, J, _⟩ := O.look
    obtain ⟨m, hF⟩ := I.fr
    refine PySem.W.len_K hF I.ok.mod.kin J (by rw [p3]; exact h1) (by rw [p3]; exact h2) ?_
    refine wpAny_mono (callAt0 (X := Xs j) (by rw [p3, p4]; exact G) (hr j).in1 rfl (by rw [p3]; exact hb) I (vs := [.ref a]) (.cons (show RelV (.ref _) (.ref _) from rfl) .nil) hs) (fun v z' hv => ?_) fun _ _ q => q
    obtain ⟨x, H', I', rx, n, rfl, hn, hq⟩ := hv
    obtain ⟨t, rfl⟩ := (show ∃ t, v = Value.int n t from rx)
    exact ⟨hn, .int n, H', I'.tok _, ⟨_, rfl⟩, hq⟩
  · intro W H vs ds Q Q' hh r h q
    unfold rdLenM at h
    split at h
    · cases r with
      | cons r rs =>
        cases rs
        cases r with
        | @ins a C' dx fs c' ds hc ha hk rs =>
          obtain ⟨rfl, h⟩ := h
          have ec := Fc.eq hc
          subst ec
          refine ⟨a, dx, fs, rfl, hh.same _ _ ha, spD_of hh (.cons (.ins hc ha hk rs) .nil) rfl h fun W' H' v d s' r' hd => ?_⟩
          cases r' with
          | int n => exact ⟨n, rfl, hd.1, q W' H' _ _ s' (.int n) hd.2⟩
          | _ => exact hd.elim
    · exact h.elim
/-! ### in -/
/-! ### str -/
/-! ### == -/
/-- the class does not stand ahead of the other's, for the kinds of values at hand -/
structure EqF (mg : Gm) (C : Addr) (cs : List Str) : Prop where
  bn : ∀ n ∈ ["NoneType", "bool", "int", "str", "tuple", "list", "dict"], PySem.W.notFirst mg.K C (.type n) = true
  cl : ∀ c ∈ cs, ∃ C', ClsF mg c C' ∧ PySem.W.notFirst mg.K C (.ref C') = true
def eqKind (cs : List Str) : D → Prop
  | .ins c _ => c ∈ cs
  | .fz _ => False
  | .cl _ => False
  | .fn _ _ => False
  | _ => True
def rdEqM (cs : List Str) (c : Str) (f : List D → M D) : RD2 := fun x y Q => match x with
  | .ins c' fs => c' = c ∧ eqKind cs y ∧ f [.ins c' fs, y] (fun d => blc d fun b => Q (.bl b)) F0
  | _ => False
/-- the type of a value; frozen dicts too -/
def TyL (K : PySem.W.Frag) (H : Hp) (x : V) (t : Value) : Prop := TyOf K H x t ∨ ∃ a o kvs, x = .ref a ∧ H a = some (.frz o (.dK kvs)) ∧ t = .type "dict"
theorem type_looks0 {X : Cx} {pins : List (Addr × Obj)} {σ : St} {H : Hp} {z : Shared} {x : V} {u t : Value} {M : Model} (I : Inv X pins σ H z) (rx : RelV x u) (ty : TyOf X.K H x t) : PySem.W.Looks M z.heap (typeOf u) t := by
  have ref : ∀ {a : Addr} {o : Obj} {t : Value}, z.heap.get? a = some o → o.cls = t → PySem.W.Looks M z.heap (typeOf (.ref a)) t := fun h1 h2 => h2 ▸ (PySem.W.Looks.ld h1).andThen .now
  cases ty with
  | non => cases rx; exact PySem.W.Looks.of_pure rfl
  | bl b => cases rx; exact PySem.W.Looks.of_pure rfl
  | int i => obtain ⟨t, rfl⟩ := (show ∃ t, u = Value.int i t from rx); exact PySem.W.Looks.of_pure rfl
  | str y => obtain ⟨t, rfl⟩ := (show ∃ t, u = Value.str y t from rx); exact PySem.W.Looks.of_pure rfl
  | flt y => obtain ⟨t, rfl⟩ := (show ∃ t, u = Value.float y t from rx); exact PySem.W.Looks.of_pure rfl
  | @lst a xs ea =>
    cases rx
    obtain ⟨_, _, n, _, h1⟩ := (show ObjOk X.prog X.w H z.heap a (.lst xs) from I.hok a _ ea)
    exact ref h1 rfl
  | @frz a ob xs ea =>
    cases rx
    obtain ⟨_, _, _, n, _, h1⟩ := (show ObjOk X.prog X.w H z.heap a (.frz ob (.lst xs)) from I.hok a _ ea)
    exact ref h1 rfl
  | @tup a xs ea =>
    cases rx
    obtain ⟨_, _, _, o, h1, h2, _⟩ := (show ObjOk X.prog X.w H z.heap a (.tup xs) from I.hok a _ ea)
    exact ref h1 h2
  | @dK a kvs ea =>
    cases rx
    obtain ⟨_, _, vs, _, o, es, ep, h1, h2, _⟩ := (show ObjOk X.prog X.w H z.heap a (.dK kvs) from I.hok a _ ea)
    exact ref h1 h2.1
  | @dT a kvs ea =>
    cases rx
    obtain ⟨_, _, xs, _, o, es, ep, h1, h2, _⟩ := (show ObjOk X.prog X.w H z.heap a (.dT kvs) from I.hok a _ ea)
    exact ref h1 h2.1
  | @ins a C dx fs ea cl ha hn htk hm =>
    cases rx
    obtain ⟨mA, O, _⟩ := ins_get I.hok ea
    obtain ⟨od, J, _⟩ := O.look
    exact J.type
theorem type_looks {X : Cx} {pins : List (Addr × Obj)} {σ : St} {H : Hp} {z : Shared} {x : V} {u t : Value} {M : Model} (I : Inv X pins σ H z) (rx : RelV x u) (ty : TyL X.K H x t) : PySem.W.Looks M z.heap (typeOf u) t := by
  rcases ty with ty | ⟨a, o, kvs, rfl, ea, rfl⟩
  · exact type_looks0 I rx ty
  · cases rx
    obtain ⟨_, hx⟩ := (show ObjOk X.prog X.w H z.heap a (.frz o (.dK kvs)) from I.hok a _ ea)
    obtain ⟨_, _, vs, _, o', es, ep, h1, h2, _⟩ := hx
    exact h2.1 ▸ (PySem.W.Looks.ld h1).andThen .now
/-- the kinds of values that may stand on the other side, with their types -/
theorem eqKind_v {W : Wd} {H : Hp} {C : Addr} {cs : List Str} {x : V} {d : D} (K : EqF mg C cs) (hh : Holds W H) (r : Rep mg W x d) (h : eqKind cs d) : ∃ t, TyL mg.K H x t ∧ PySem.W.notFirst mg.K C t = true := by
  cases r with
  | @ins a C0 dx fs c ds hc ha hk rs =>
    obtain ⟨C', F, hy⟩ := K.cl _ h
    have ec := F.eq hc
    subst ec
    exact ⟨_, .inl (.ins (hh.same _ _ ha) F.cl F.ha F.hn F.htk F.hm), hy⟩
  | fz ha => exact h.elim
  | cl ha => exact h.elim
  | fn ha => exact h.elim
  | non => exact ⟨_, .inl .non, K.bn _ (by decide)⟩
  | bl b => exact ⟨_, .inl (.bl b), K.bn _ (by decide)⟩
  | int b => exact ⟨_, .inl (.int b), K.bn _ (by decide)⟩
  | str b => exact ⟨_, .inl (.str b), K.bn _ (by decide)⟩
  | lst ha rs => exact ⟨_, .inl (.lst (hh.same _ _ ha)), K.bn _ (by decide)⟩
  | tup ha rs => exact ⟨_, .inl (.tup (hh.same _ _ ha)), K.bn _ (by decide)⟩
  | dct ha hk rs => exact ⟨_, .inr ⟨_, _, _, rfl, hh.same _ _ ha, rfl⟩, K.bn _ (by decide)⟩
  | tok t =>
    obtain ⟨_, _, _, _, h2⟩ := hh.tok _ t
    exact ⟨_, .inl (.lst h2), K.bn _ (by decide)⟩
theorem ok_eqM {cs : List Str} (Fc : ClsF mg c C) (S : SpecOk P w mg base k C "__eq__" 2 f) (K : EqF mg C cs) (hr : ∀ j, RmG k (Xs j).A) (hP : HPs Xs P w mg base := by intro _; exact ⟨rfl, rfl, rfl, rfl, rfl⟩) : OpOk Xs mg (compareOp .Eq) (rdEqM cs c f) := by
  obtain ⟨fa, fd, ps, h1, h2, h3, hb, hl, G⟩ := S.ex
  refine ⟨fun x y H Q => ∃ a dx fs t, x = .ref a ∧ H a = some (.ins C dx fs) ∧ TyL mg.K H y t ∧ PySem.W.notFirst mg.K C t = true ∧ spD mg 2 f [.ref a, y] H (fun v H' => ∃ b, v = .bl b ∧ Q (.bl b) H') E0, fun j => ?_, ?_⟩
  · obtain ⟨p1, p2, p3, p4, p5⟩ := hP j
    subst p1 p2 p5
    intro pins z σ H x y v u Q I rx ry h
    obtain ⟨a, dx, fs, t, rfl, ea, ty, hn, hs⟩ := h
    cases rx
    obtain ⟨mA, O, _⟩ := ins_get I.hok ea
    obtain ⟨od, J, _⟩ := O.look
    obtain ⟨m, hF⟩ := I.fr
    refine PySem.W.cmp_K (op := .Eq) (by have := (hr j).r.un; omega) hF I.ok.mod.kin J (type_looks I ry (by rw [p3]; exact ty)) (by rw [p3]; exact hn) (by rw [p3]; exact h1) (by rw [p3]; exact h2) ?_
    refine wpAny_mono (callAt0 (X := Xs j) (by rw [p3, p4]; exact G) (hr j) rfl (by rw [p3]; exact hb) I (vs := [.ref a, y]) (.cons (show RelV (.ref _) (.ref _) from rfl) (.cons ry .nil)) hs) (fun r z' hv => ?_) fun _ _ q => q
    obtain ⟨y, H', I', ry, b, rfl, hq⟩ := hv
    cases ry
    exact ⟨.bl b, H', I', rfl, hq⟩
  · intro W H x y dx dy Q Q' hh rx ry h q
    cases rx with
    | @ins a C' ax fs c' ds hc ha hk rs =>
      obtain ⟨rfl, hy, h⟩ := h
      have ec := Fc.eq hc
      subst ec
      obtain ⟨t, ty, hn⟩ := eqKind_v K hh ry hy
      refine ⟨a, ax, fs, t, rfl, hh.same _ _ ha, ty, hn, spD_of hh (.cons (.ins hc ha hk rs) (.cons ry .nil)) rfl h fun W' H' v d s' r' hd => ?_⟩
      cases r' with
      | bl b => exact ⟨b, rfl, q W' H' _ _ s' (.bl b) hd⟩
      | _ => exact hd.elim
    | _ => exact h.elim
/-! ### != by an own == -/
theorem ifBoundS {M : Model} {A : Around} {E : Value → Shared → Prop} {s : Shared} {K : PySem.W.Frag} {x C : Addr} {ox : Obj} {od : Option Obj} {name : Str} {id : String} {args : List Value} {Q : Option Value → Shared → Prop} (X : K.In s.heap) (I : PySem.W.InstAt s.heap x ox C od)
    (hs : PySem.W.findIn K (.ref C) name = some (some (.builtin id))) (hb : ∀ self, bindSpecial (.builtin id) self = pure (.builtin id, [self])) (h : wpAny M A (call (.builtin id) (.ref x :: args)) (fun v => Q (some v)) E s) : wpAny M A (callSpecialIfBound? (.ref x) name args) Q E s := by
  simp only [callSpecialIfBound?, bindSpecialIfBound?]
  refine wpAny_holding (wpAny_bind (wpAny_bind (wpAny_bind (I.type.here ((PySem.W.looks_findIn X hs).here ?_)))))
  refine wpAny_bind (wpAny_askSetting (wpAny_ite ?_))
  have fin : wpAny M A (call (.builtin id) ([.ref x] ++ args) >>= fun v => pure (some v)) Q E s := wpAny_bind (wpAny_mono h (fun v s' h' => wpAny_pure h') fun _ _ h' => h')
  split
  · exact wpAny_bind ((PySem.W.Looks.of_pure (hb _)).here (wpAny_pure (by exact fin)))
  · exact wpAny_tryCatch (wpAny_bind ((PySem.W.Looks.of_pure (hb _)).here (wpAny_pure (by exact fin))))
theorem neK {prog : Program} {w : World} {A : Around} {E : Value → Shared → Prop} {s : Shared} {K : PySem.W.Frag} {x C f : Addr} {ox : Obj} {od : Option Obj} {b tb : Value} {Q : Value → Shared → Prop} (hu : A.units + 1 < cLine) (X : K.In s.heap) (I : PySem.W.InstAt s.heap x ox C od)
    (hb : PySem.W.Looks (model prog w) s.heap (typeOf b) tb) (hn : PySem.W.notFirst K C tb = true) (hne : PySem.W.findIn K (.ref C) "__ne__" = some (some (.builtin "object.__ne__"))) (hm : PySem.W.mroIn K C (.type "object") = some true)
    (hs : PySem.W.findIn K (.ref C) "__eq__" = some (some (.ref f))) (hf : PySem.W.isFn K (.ref f) = true)
    (h : wpAny (model prog w) A.in1 (call (.ref f) [.ref x, b]) (fun v s' => ∃ c, v = .bool c ∧ Q (.bool (!c)) s') E s) : wpAny (model prog w) A (richCompare .NotEq (.ref x) b) Q E s := by
  have one : wpAny (model prog w) A (tryCompare (.ref x) (cmpInfo .NotEq).2.1 b) (fun r s' => ∃ v, r = some v ∧ Q v s') E s := by
    unfold tryCompare
    refine wpAny_bind (ifBoundS X I hne PySem.F.cmp_object.ne.bind (wpAny_call (codeAny_call_builtin PySem.F.cmp_object.ne.plain PySem.F.cmpEntry_ne (PySem.W.check_slot (i := "object.__ne__") (owner := "object") (n := "__ne__") PySem.F.cmpKind_ne PySem.F.cmpSplit_ne (I.type.andThen (PySem.W.looks_mroIn X hm)) (PySem.F.cmpArgs_ne _ _) ?_))))
    unfold Builtin.«object.__ne__»
    refine wpAny_bind (m := slotArgs "__ne__" 1 _) (wpAny_pure ?_)
    refine wpAny_bind (m := cRoomFor _ _) (wpAny_cRoomFor hu ?_)
    refine wpAny_bind (m := callSpecialIfBound? (.ref x) (Str.ofString "__eq__") _) (PySem.W.ifBound_K X I hs hf (wpAny_mono h (fun r s' hq => ?_) fun _ _ y => y))
    obtain ⟨c, rfl, hq⟩ := hq
    exact wpAny_bind (wpAny_truthy_bool (wpAny_pure (wpAny_pure ⟨_, rfl, hq⟩)))
  unfold richCompare
  simp only [oneThing_ref]
  refine wpAny_holding (wpAny_bind (wpAny_cRoomFor (Nat.lt_of_succ_lt hu) ?_))
  refine wpAny_bind (I.type.here (wpAny_bind (hb.here ?_)))
  split
  · rename_i q
    have e : PySem.W.subIn K tb (.ref C) = some false := by
      rcases Bool.or_eq_true_iff.mp hn with e | e
      · rw [beq_iff_eq.mp e] at q; simp at q
      · exact beq_iff_eq.mp e
    refine wpAny_bind ((PySem.W.looks_subIn X e).here ?_)
    simp only [Bool.false_eq_true, if_false]
    refine wpAny_bind (wpAny_mono one (fun r s' z => ?_) fun _ _ e => e)
    obtain ⟨v, rfl, hq⟩ := z
    exact wpAny_pure hq
  · refine wpAny_bind (wpAny_pure ?_)
    simp only [Bool.false_eq_true, if_false]
    refine wpAny_bind (wpAny_mono one (fun r s' z => ?_) fun _ _ e => e)
    obtain ⟨v, rfl, hq⟩ := z
    exact wpAny_pure hq
def rdNeM (cs : List Str) (c : Str) (f : List D → M D) : RD2 := fun x y Q => match x with
  | .ins c' fs => c' = c ∧ eqKind cs y ∧ f [.ins c' fs, y] (fun d => blc d fun b => Q (.bl (!b))) F0
  | _ => False
theorem ok_neM {cs : List Str} (Fc : ClsF mg c C) (S : SpecOk P w mg base k C "__eq__" 2 f) (K : EqF mg C cs) (hne : PySem.W.findIn mg.K (.ref C) "__ne__" = some (some (.builtin "object.__ne__"))) (hr : ∀ j, RmG (k + 1) (Xs j).A) (hP : HPs Xs P w mg base := by intro _; exact ⟨rfl, rfl, rfl, rfl, rfl⟩) : OpOk Xs mg (compareOp .NotEq) (rdNeM cs c f) := by
  obtain ⟨fa, fd, ps, h1, h2, h3, hb, hl, G⟩ := S.ex
  refine ⟨fun x y H Q => ∃ a dx fs t, x = .ref a ∧ H a = some (.ins C dx fs) ∧ TyL mg.K H y t ∧ PySem.W.notFirst mg.K C t = true ∧ spD mg 2 f [.ref a, y] H (fun v H' => ∃ b, v = .bl b ∧ Q (.bl (!b)) H') E0, fun j => ?_, ?_⟩
  · obtain ⟨p1, p2, p3, p4, p5⟩ := hP j
    subst p1 p2 p5
    intro pins z σ H x y v u Q I rx ry h
    obtain ⟨a, dx, fs, t, rfl, ea, ty, hn, hs⟩ := h
    cases rx
    obtain ⟨mA, O, _⟩ := ins_get I.hok ea
    obtain ⟨od, J, _⟩ := O.look
    have kin := I.kIn
    rw [p3] at kin
    refine neK (by have := (hr j).r.un; omega) kin J (type_looks I ry (by rw [p3]; exact ty)) hn hne Fc.hm h1 h2 ?_
    refine wpAny_mono (callAt0 (X := Xs j) (by rw [p3, p4]; exact G) (hr j).in1 rfl (by rw [p3]; exact hb) I (vs := [.ref a, y]) (.cons (show RelV (.ref _) (.ref _) from rfl) (.cons ry .nil)) hs) (fun r z' hv => ?_) fun _ _ q => q
    obtain ⟨y, H', I', ry, b, rfl, hq⟩ := hv
    cases ry
    exact ⟨b, rfl, .bl (!b), H', I', rfl, hq⟩
  · intro W H x y dx dy Q Q' hh rx ry h q
    cases rx with
    | @ins a C' ax fs c' ds hc ha hk rs =>
      obtain ⟨rfl, hy, h⟩ := h
      have ec := Fc.eq hc
      subst ec
      obtain ⟨t, ty, hn⟩ := eqKind_v K hh ry hy
      refine ⟨a, ax, fs, t, rfl, hh.same _ _ ha, ty, hn, spD_of hh (.cons (.ins hc ha hk rs) (.cons ry .nil)) rfl h fun W' H' v d s' r' hd => ?_⟩
      cases r' with
      | bl b => exact ⟨b, rfl, q W' H' _ _ s' (.bl _) hd⟩
      | _ => exact hd.elim
    | _ => exact h.elim
end
end FP
/-! FP13: sets of texts: set(list of texts), sorted(set(..)), len(set(..)). -/
namespace FP
open PySem L2 PySem.Spec PyProof.Rows
variable [Tabl]
def keyS (e : Int × Value) : Str := match e.2 with
  | .str k _ => k
  | _ => Str.empty
def GoodS (w : World) (e : Int × Value) : Prop := ∃ k tk, e.2 = Value.str k tk ∧ e.1 = hashStr w k
/-- the set of texts at a has the members of M; its table can be walked -/
def SetS (w : World) (h : Heap) (a : Addr) (M : List Str) : Prop :=
  ∃ o es ep t, h.get? a = some o ∧ o.ExactSet ∧ o.data = .set es ep t ∧ (∀ e ∈ es.toList, GoodS w e) ∧ (es.toList.map keyS).Nodup ∧ (∀ k, k ∈ M ↔ k ∈ es.toList.map keyS) ∧
    es.size < scanBound ∧ t.fits es.size = true ∧ es.size ≤ M.length ∧ Ris t.place.toList ∧ (w.params.followText "set-order" = true ∨ t.led = true)
section
variable {P : Program} {w : World} {h h' : Heap} {a : Addr} {M : List Str}
theorem SetS.at (R : SetS w h a M) (k : ∀ o, h.get? a = some o → h'.get? a = some o) : SetS w h' a M := by
  obtain ⟨o, es, ep, t, ho, r⟩ := R
  exact ⟨o, es, ep, t, k o ho, r⟩
theorem goodS_elems {l : List (Int × Value)} (g : ∀ e ∈ l, GoodS w e) : ElemsOf (PySem.strKind P w) l := fun e he => by
  obtain ⟨k, tk, h1, h2⟩ := g e he
  exact ⟨⟨k, by rw [h1]; exact strKind_is P w k tk, h2⟩, by rw [h1] <;> rfl⟩
theorem goodS_is {e : Int × Value} (g : GoodS w e) (k : Str) : (PySem.strKind P w).is k e.2 = true ↔ keyS e = k := by
  obtain ⟨k0, tk, h1, _⟩ := g
  unfold keyS
  rw [h1]
  constructor
  · intro q
    obtain ⟨t, e⟩ := Value.isStrOf_shape (x := k) (v := .str k0 tk) q
    injection e
  · intro q
    have q' : k0 = k := q
    rw [q']
    exact strKind_is P w k tk
theorem goodS_mem {l : List (Int × Value)} (g : ∀ e ∈ l, GoodS w e) (k : Str) : k ∈ l.map keyS ↔ ∃ e ∈ l, (PySem.strKind P w).is k e.2 = true := by
  rw [List.mem_map]
  constructor
  · rintro ⟨e, he, q⟩
    exact ⟨e, he, (goodS_is (g e he) k).2 q⟩
  · rintro ⟨e, he, q⟩
    exact ⟨e, he, (goodS_is (g e he) k).1 q⟩
end
section
variable {P : Program} {w : World} {A : Around} {E : Value → Shared → Prop} {s : Shared} {a : Addr} {M : List Str}
theorem setS_tail {g : Bool → Sem Unit} (hg : ∀ (b : Bool) (s₁ : Shared) (Q' : Unit → Shared → Prop), Q' () s₁ → wpAny (model P w) A (g b) Q' E s₁)
    {o : Obj} {es : Array (Int × Value)} {ep : Nat} {t : SetTable} (ho : s.heap.get? a = some o) (hex : o.ExactSet) (hd : o.data = .set es ep t)
    {es1 : Array (Int × Value)} {t2 : SetTable} {M' : List Str} (g1 : ∀ e ∈ es1.toList, GoodS w e) (nd1 : (es1.toList.map keyS).Nodup) (m1 : ∀ k, k ∈ M' ↔ k ∈ es1.toList.map keyS)
    (hb1 : es1.size < scanBound) (hf2 : t2.fits es1.size = true) (hz : es1.size ≤ M'.length) (hr : Ris t2.place.toList) (hl : w.params.followText "set-order" = true ∨ t2.led = true) {wasDummy : Bool} {R : Option Bool → Shared → Prop}
    (hR : ∀ h', Heap.SameBut a s.heap h' → SetS w h' a M' → R (some true) { s with heap := h' }) :
    wpAny (model P w) A (do
        storeSet a es1 t2
        if (!wasDummy && t2.tooFull) = true then do
            g (relayAll t2 es1 (SetTable.grown es1.size)).2.2
            storeSet a (relayAll t2 es1 (SetTable.grown es1.size)).1 (relayAll t2 es1 (SetTable.grown es1.size)).2.1
            pure (some true)
          else pure (some true)) R E s := by
  refine wpAny_bind (wpAny_storeSet_of ho hd ?_ (fits_of_scanBound hb1))
  have ho1 := store_at (es' := es1) (t' := t2) ho hd
  have sb1 := Heap.SameBut.update s.heap a (Obj.putSet es1 t2)
  split
  · have pm := relayAll_perm t2 es1 (SetTable.grown es1.size)
    have hf3 := relayAll_fits t2 es1 (SetTable.grown es1.size)
    have hr3 := relayAll_ris t2 es1 (SetTable.grown es1.size)
    have hl3 := relayAll_led t2 es1 (SetTable.grown es1.size)
    generalize relayAll t2 es1 (SetTable.grown es1.size) = Z at pm hf3 hr3 hl3 ⊢
    obtain ⟨es2, t3, gave⟩ := Z
    dsimp only at pm hf3 hr3 hl3 ⊢
    have hsz : es2.size = es1.size := by rw [← Array.length_toList, pm.length_eq, Array.length_toList]
    have hb2 : es2.size < scanBound := by rw [hsz]; exact hb1
    refine wpAny_bind (hg _ _ _ ?_)
    refine wpAny_bind (wpAny_storeSet_of ho1 rfl ?_ (fits_of_scanBound hb2))
    have ho2 := store_at (es' := es2) (t' := t3) ho1 rfl
    refine wpAny_pure (hR _ (sb1.trans (Heap.SameBut.update _ a _)) ?_)
    exact ⟨_, es2, _, t3, ho2, hex, rfl, fun e he => g1 e (pm.mem_iff.mp he), (pm.map keyS).nodup_iff.mpr nd1, fun k => (m1 k).trans (pm.map keyS).mem_iff.symm, hb2, hf3, by rw [hsz]; exact hz, hr3,
      hl.imp id fun z => by rw [hl3]; exact z⟩
  · exact wpAny_pure (hR _ sb1 ⟨_, es1, _, t2, ho1, hex, rfl, g1, nd1, m1, hb1, hf2, hz, hr, hl⟩)
theorem setS_add_hashed {k : Str} {tk : Tok} {Q : Bool → Shared → Prop} (R : SetS w s.heap a M) (room : M.length + 1 < scanBound)
    (hQ : ∀ b h', Heap.SameBut a s.heap h' → SetS w h' a (M ++ [k]) → Q b { s with heap := h' }) :
    wpAny (model P w) A (setAddHashed a (.str k tk) ((PySem.strKind P w).hash k)) Q E s := by
  obtain ⟨o, es, ep, t, ho, hex, hd, g, nd, hm, hb, hf, hn, hr, hl⟩ := R
  have hkey : (PySem.strKind P w).is k (.str k tk) = true := strKind_is P w k tk
  have hsc : (Value.str k tk).scannable = true := rfl
  have hel : ElemsOf (PySem.strKind P w) es.toList := goodS_elems g
  unfold setAddHashed setAddHashedIn
  refine wpAny_holding (wpAny_bind (wpAny_setState_of ho hd hf ?_))
  dsimp only
  rw [byScan_of hsc hb hel]
  simp only [↓reduceIte]
  unfold setAddByScan
  refine wpAny_bind ?_
  refine wpAny_bind (wpAny_rule ?_)
  refine wpAny_bind (wpAny_setScan_of hkey ho hd hf hel ?_)
  cases hfi : List.findIdx? (fun e => (PySem.strKind P w).is k e.2) es.toList with
  | some j =>
    dsimp only
    obtain ⟨hj, pj, _⟩ := List.findIdx?_eq_some_iff_getElem.mp hfi
    have hSk : k ∈ M := (hm k).2 ((goodS_mem (P := P) (w := w) g k).2 ⟨es.toList[j], List.getElem_mem hj, pj⟩)
    refine wpAny_pure (wpAny_pure ?_)
    exact hQ _ s.heap (Heap.SameBut.refl a s.heap) ⟨o, es, ep, t, ho, hex, hd, g, nd, fun i => by
      rw [List.mem_append, List.mem_singleton, ← hm i]
      exact ⟨fun z => z.elim id (fun e => e ▸ hSk), .inl⟩, hb, hf, by rw [List.length_append]; omega, hr, hl⟩
  | none =>
    dsimp only
    have hnk : k ∉ es.toList.map keyS := fun z => by
      obtain ⟨e, he, q⟩ := (goodS_mem (P := P) (w := w) g k).1 z
      have c := List.findIdx?_eq_none_iff.mp hfi e he
      rw [q] at c
      cases c
    have hgw : ∀ (b : Bool) {s₁ : Shared} {Q' : Unit → Shared → Prop}, Q' () s₁ → wpAny (model P w) A (match b with | true => rule "set.scan.the-table-gave-way" | false => pure ()) Q' E s₁ :=
      fun b s₁ Q' q => by cases b <;> first | exact wpAny_pure q | exact wpAny_rule q
    have pm := layNew_perm t es ((PySem.strKind P w).hash k) (.str k tk)
    have hf1 := layNew_fits t es ((PySem.strKind P w).hash k) (.str k tk)
    have hr1 := layNew_ris t es ((PySem.strKind P w).hash k) (.str k tk) hr
    have hl1 := layNew_led t es ((PySem.strKind P w).hash k) (.str k tk)
    generalize layNew t es ((PySem.strKind P w).hash k) (.str k tk) = Z at pm hf1 hr1 hl1 ⊢
    obtain ⟨es1, t1, wasDummy, gave⟩ := Z
    dsimp only at pm hf1 hr1 hl1 ⊢
    rw [Array.toList_push] at pm
    have pc : es1.toList.Perm (((PySem.strKind P w).hash k, Value.str k tk) :: es.toList) := pm.trans (List.perm_append_singleton _ _)
    have pk : (es1.toList.map keyS).Perm (k :: es.toList.map keyS) := pc.map keyS
    have g1 : ∀ e ∈ es1.toList, GoodS w e := fun e he => by
      rcases List.mem_cons.mp (pc.mem_iff.mp he) with z | z
      · rw [z]; exact ⟨k, tk, rfl, rfl⟩
      · exact g e z
    have nd1 : (es1.toList.map keyS).Nodup := pk.nodup_iff.mpr (List.nodup_cons.mpr ⟨hnk, nd⟩)
    have m1 : ∀ i, i ∈ M ++ [k] ↔ i ∈ es1.toList.map keyS := fun i => by
      rw [List.mem_append, List.mem_singleton, hm i, pk.mem_iff, List.mem_cons]
      exact Or.comm
    have hsz : es1.size = es.size + 1 := by rw [← Array.length_toList, pc.length_eq, List.length_cons, Array.length_toList]
    have hb1 : es1.size < scanBound := by rw [hsz]; omega
    have hzz : es1.size ≤ (M ++ [k]).length := by rw [hsz, List.length_append]; simp; exact hn
    have hled : w.params.followText "set-order" = true ∨ t1.led = true := hl.imp id fun z => by rw [hl1]; exact z
    refine wpAny_bind (hgw _ ?_)
    split
    · refine wpAny_bind ?_
      rw [hashByValue_scannable 8 hsc]
      refine wpAny_pure ?_
      refine setS_tail (M' := M ++ [k]) ?_ ho hex hd g1 nd1 m1 hb1 ?_ hzz ?_ ?_ ?_
      · intro b s₁ Q' q; cases b <;> first | exact wpAny_pure q | exact wpAny_rule q
      · first | (split <;> first | exact hf1 | exact SetTable.fits_plain_off hf1) | exact hf1
      · first | (split <;> exact hr1) | exact hr1
      · first | (split <;> exact hled) | exact hled
      · intro h' sb r; dsimp only; exact wpAny_pure (hQ _ h' sb r)
    · refine wpAny_bind (wpAny_pure ?_)
      simp only [↓reduceIte]
      refine setS_tail (M' := M ++ [k]) ?_ ho hex hd g1 nd1 m1 hb1 hf1 hzz hr1 hled ?_
      · intro b s₁ Q' q; cases b <;> first | exact wpAny_pure q | exact wpAny_rule q
      · intro h' sb r; dsimp only; exact wpAny_pure (hQ _ h' sb r)
end
/-! ### set(list of texts) -/
theorem strsAt : ∀ {us : List Value} {xs : List Str}, StrsAre us xs → ∀ (i : Nat) (v : Value), us[i]? = some v → ∃ t, v = .str (xs.getD i Str.empty) t
  | _, _, .nil, i, v, h => by simp at h
  | _, _, .cons n t hr, 0, v, h => by simp at h; exact ⟨t, by rw [← h]; rfl⟩
  | _, _, .cons n t hr, i + 1, v, h => by
    simp only [List.getElem?_cons_succ] at h
    obtain ⟨t', e⟩ := strsAt hr i v h
    exact ⟨t', by rw [e]; rfl⟩
section
variable {prog : Program} {w : World} {A : Around} {R : Result → Shared → Prop} {I : Addr} {fp wr : List Addr} {G : Array GenState → Array GenState → Prop} {n : Nat} {P : Nat → Value → Prop} {St : Nat → Shared → Prop}
theorem loopS (W : WalksS prog w A.in1 I fp wr G n P St) (S : Addr) (hSf : S ∉ fp) (xs : List Str) (hsz : xs.length = n) (hb : n + 1 < scanBound)
    (hval : ∀ i v, P i v → ∃ t, v = .str (xs.getD i Str.empty) t) :
    ∀ (k i : Nat) (s : Shared), n - i = k → i ≤ n → St i s → SetS w s.heap S (xs.take i) →
      (∀ s', Moved (S :: wr) G s s' → SetS w s'.heap S xs → R (.ok (.ret .none)) s') →
      codeAny (model prog w) A (.builtin "set.update.loop" ⟨[.ref S, .ref I], []⟩) R s := by
  have hSw : S ∉ wr := fun h => hSf (W.sub _ h)
  have hsub : ∀ b ∈ wr, b ∈ S :: wr := fun b hb => List.mem_cons_of_mem _ hb
  intro k
  induction k with
  | zero =>
    intro i s hk hi hst hS hR
    have hin : i = n := by omega
    subst hin
    refine codeAny_builtin PyProof.Rows.F.entry_set_update_loop ?_
    rw [Around.under_plainId PyProof.Rows.F.plain_set_update_loop _]
    show wpAny _ A.in1 (pyNext (.ref I) >>= _) _ _ s
    refine wpAny_bind (W.done s _ _ hst fun s' hm => ?_)
    show wpAny _ A.in1 (ret Value.none) _ _ s'
    rw [List.take_of_length_le (by omega)] at hS
    exact wpAny_pure (hR s' (hm.mono hsub) (hS.at fun o e => hm.heap S o hSw e))
  | succ k ih =>
    intro i s hk hi hst hS hR
    have hlt : i < n := by omega
    refine codeAny_builtin PyProof.Rows.F.entry_set_update_loop ?_
    rw [Around.under_plainId PyProof.Rows.F.plain_set_update_loop _]
    show wpAny _ A.in1 (pyNext (.ref I) >>= _) _ _ s
    refine wpAny_bind (W.item i s _ _ hlt hst fun v s' hP hst' hm => ?_)
    obtain ⟨t, rfl⟩ := hval i v hP
    have hS' := hS.at (h' := s'.heap) fun o e => hm.heap S o hSw e
    show wpAny _ A.in1 (holding [Value.str (xs.getD i Str.empty) t] (setAdd S (.str (xs.getD i Str.empty) t)) >>= _) _ _ s'
    refine wpAny_bind (wpAny_holding ?_)
    unfold setAdd
    refine wpAny_holding ?_
    refine wpAny_bind ((PySem.strKind prog w).pyHash (k := xs.getD i Str.empty) (strKind_is _ _ _ _) ?_)
    refine setS_add_hashed (s := { s' with toks := s'.toks + 1 }) hS' (by rw [List.length_take]; omega) fun b h' hsb hS2 => ?_
    have e1 : xs.take i ++ [xs.getD i Str.empty] = xs.take (i + 1) := by
      rw [List.take_add_one, List.getElem?_eq_getElem (by omega), List.getD_eq_getElem?_getD, List.getElem?_eq_getElem (by omega)]
      rfl
    rw [e1] at hS2
    refine wpAny_pure ⟨plainId_quiet PyProof.Rows.F.plain_set_update_loop _, ih (i + 1) _ (by omega) hlt (W.frame _ s' _ _ hst' (Nat.le_succ _) fun b hb o e => ?_) hS2 fun s'' hm'' hS'' => ?_⟩
    · rw [hsb.2 b (fun h : b = S => hSf (by rw [← h]; exact hb))]; exact e
    · refine hR s'' (Moved.trans W.gtrans ((hm.mono hsub).then_heap (Nat.le_succ _) fun b o hb e => ?_) hm'') hS''
      rw [hsb.2 b (fun h : b = S => hb (by rw [h]; exact List.mem_cons_self))]; exact e
end
section
variable {prog : Program} {w : World} {A : Around} {E : Value → Shared → Prop} {s : Shared}
theorem setNew_led (a : Value) {Q₁ : Value → Shared → Prop}
    (h : Q₁ (.ref s.heap.objs.size) { s with heap := s.heap.push { cls := .type "set", dict := none, data := .set #[] 0 (.fresh 0 0 (!w.params.followText "set-order")) } }) :
    codeAny (model prog w) A (.call (.builtin "set.__new__") ⟨[.type "set", a], []⟩) (wants Q₁ E) s := by
  refine codeAny_of_tree ?_
  show wpAny _ A.in1 (do checkBuiltinCall "set.__new__" ⟨[.type "set", a], []⟩; again (.builtin "set.__new__" ⟨[.type "set", a], []⟩)) _ _ s
  refine wpAny_bind (wpAny_of_eq (PySem.F.newCall_set_1 a) (wpAny_pure ⟨plainId_quiet PySem.F.plain_set_new _, codeAny_builtin PySem.F.entry_set_new ?_⟩))
  rw [Around.under_plainId PySem.F.plain_set_new _]
  unfold Builtin.«set.__new__» Builtin.Frozenset.newClass
  have hsub := sub_set_self
  obtain ⟨hp, g, d, tk, os⟩ := s
  dsimp only
  wp_walk
  refine wpAny_askSetting (wpAny_pure ?_)
  dsimp only
  simp only [newObj]
  refine wpAny_bind (wpAny_alloc (wpAny_pure ?_))
  exact wpAny_pure h
theorem setS_fresh {h : Heap} (w : World) : SetS w (h.push { cls := .type "set", dict := none, data := .set #[] 0 (.fresh 0 0 (!w.params.followText "set-order")) }) h.objs.size [] :=
  ⟨_, #[], 0, _, Heap.get?_push_size _ rfl, ⟨rfl, rfl, rfl⟩, rfl, (fun e he => by simp at he), (by simp), (fun k => by simp), (by decide), (by rfl), Nat.le_refl _, List.Pairwise.nil, by
    show _ ∨ (!w.params.followText "set-order") = true
    cases w.params.followText "set-order"
    · exact .inr rfl
    · exact .inl rfl⟩
theorem setS_list {l : Addr} {items : Array Value} {xs : List Str} {Q : Value → Shared → Prop}
    (hh : A.handled = none) (hl : s.heap.IsList l items) (hi : PyProof.Rows.StrsAre items.toList xs) (hb : xs.length + 1 < scanBound)
    (h : ∀ (h' : Heap) (tk : Nat), SetS w h' s.heap.objs.size xs → (∀ b o, b < s.heap.objs.size → s.heap.get? b = some o → h'.get? b = some o) → Q (.ref s.heap.objs.size) { s with heap := h', toks := tk }) :
    wpAny (model prog w) A (call (.type "set") [.ref l]) Q E s := by
  obtain ⟨c, tl, hmro⟩ := PySem.F.called_set.mro
  have hmade := PySem.F.called_set.made
  have hsub := PySem.F.called_set.sub
  refine wpAny_call (codeAny_of_tree ?_)
  show wpAny _ _ (callAny (.type "set") _) _ _ _
  refine wpAny_pure ⟨Code.quiet_builtin _ (by decide +kernel), codeAny_builtin PySem.F.entry_type_call ?_⟩
  rw [Around.under_plain (weight_type_call_type "set" [.ref l] []) rfl]
  have h1 := PySem.F.called_set.notType
  have h2 := PySem.F.called_set.canCreate
  have hct := PySem.F.typeCall_set_1 (.ref l)
  repeat (any_goals (first | assumption | wp_step))
  generalize hled : (!w.params.followText "set-order") = led
  refine codeAny_mono (setNew_led (.ref l) (E := E) (Q₁ := fun obj s₁ => obj = .ref s.heap.objs.size ∧ s₁ = { s with heap := s.heap.push { cls := .type "set", dict := none, data := .set #[] 0 (.fresh 0 0 led) } }) (by rw [hled]; exact ⟨rfl, rfl⟩)) fun r s₁ hr => ?_
  cases r with
  | error e => exact hr
  | ok fl =>
    cases fl with
    | ret obj =>
      obtain ⟨rfl, rfl⟩ := hr
      have hS : (s.heap.push { cls := .type "set", dict := none, data := .set #[] 0 (.fresh 0 0 led) }).get? s.heap.objs.size = some { cls := .type "set", dict := none, data := .set #[] 0 (.fresh 0 0 led) } := Heap.get?_push_size _ rfl
      have hT : Shared.TypeIs { s with heap := s.heap.push { cls := .type "set", dict := none, data := .set #[] 0 (.fresh 0 0 led) } } (.ref s.heap.objs.size) "set" := ⟨_, hS, rfl⟩
      have hli := PySem.F.called_set.init.lookup
      have hbi := PySem.F.called_set.init.bind (.ref s.heap.objs.size)
      repeat (any_goals (first | assumption | wp_step))
      refine codeAny_mono (codeAny_call_builtin (R := wants (fun r s₂ => r = .none ∧ ∃ h' tk, s₂ = { s with heap := h', toks := tk } ∧
          SetS w h' s.heap.objs.size xs ∧ (∀ b o, b < s.heap.objs.size → s.heap.get? b = some o → h'.get? b = some o)) E) PySem.F.called_set.init.plain PySem.F.entry_set_init (check_set_init_1 hT ?_)) fun r₂ s₂ hr₂ => ?_
      · obtain ⟨ol, hol, hcl, nl, hdl⟩ := hl
        obtain ⟨ocls, odict, odata, oslots⟩ := ol
        simp only at hcl hdl
        subst hcl; subst hdl
        have hol' : (s.heap.push { cls := .type "set", dict := none, data := .set #[] 0 (.fresh 0 0 led) }).get? l = some { cls := .type "list", dict := odict, data := .seq items nl, slots := oslots } := Heap.get?_push_of_some _ hol
        have hsls := PySem.F.sub_list_set
        have hslf := PySem.F.sub_list_frozenset
        have hne : (Value.type "list" == Value.type "dict") = false := by decide
        have hl1 : (s.heap.push { cls := .type "set", dict := none, data := .set #[] 0 (.fresh 0 0 led) }).IsList l items := ⟨_, hol', rfl, nl, rfl⟩
        unfold Builtin.«set.__init__» noKeywords Builtin.Frozenset.updateFrom
        generalize hPI : pyIter = PI
        wp_walk
        subst hPI
        refine wpAny_pyIter_list hl1 ?_
        refine wpAny_bind (wpAny_runValue ?_)
        have hlS : l < s.heap.objs.size := Heap.lt_size hol
        have hh3 : A.in1.in1.in1.handled = none := by simp [hh]
        have hneI : l ≠ (s.heap.push { cls := .type "set", dict := none, data := .set #[] 0 (.fresh 0 0 led) }).objs.size := by
          rw [Heap.size_push]; exact Nat.ne_of_lt (Nat.lt_succ_of_lt hlS)
        have hSf : s.heap.objs.size ∉ [(s.heap.push { cls := .type "set", dict := none, data := .set #[] 0 (.fresh 0 0 led) }).objs.size, l] := by
          rw [Heap.size_push]; simp only [List.mem_cons, List.mem_singleton, List.not_mem_nil, or_false, not_or]
          exact ⟨Nat.ne_of_lt (Nat.lt_succ_self _), Nat.ne_of_gt hlS⟩
        have hsz : xs.length = items.size := by rw [← StrsAre.len_eq hi, Array.length_toList]
        have hval : ∀ (i : Nat) (v : Value), items[i]? = some v → ∃ t, v = .str (xs.getD i Str.empty) t := fun i v hv => strsAt hi i v (by rw [Array.getElem?_toList]; exact hv)
        refine loopS ((Walks.list hh3 _ l hneI items).toS) s.heap.objs.size
          hSf xs hsz (by rw [← hsz]; exact hb) hval (items.size - 0) 0 _ (by omega) (Nat.zero_le _)
          ⟨⟨_, Heap.get?_push_size _ rfl, rfl, rfl⟩, (hl1.push _)⟩ ?hS0 ?hR
        case hS0 =>
          rw [List.take_zero, ← hled]
          exact (setS_fresh w).at fun o e => Heap.get?_push_of_some _ e
        case hR =>
          intro s' hm hS'
          obtain ⟨h', g', d', tk', os'⟩ := s'
          have eg : g' = s.gens := hm.gens
          have ed : d' = s.drawn := hm.drawn
          have eo : os' = s.os := hm.os
          subst eg; subst ed; subst eo
          show wpAny _ _ _ _ _ _
          refine wpAny_pure ?_
          show wpAny _ _ (ret Value.none) _ _ _
          refine wpAny_pure ⟨rfl, h', tk', rfl, hS', fun b o hb e => ?_⟩
          have hb1 : b ≠ s.heap.objs.size := Nat.ne_of_lt hb
          have hb2 : b ≠ (s.heap.push { cls := .type "set", dict := none, data := .set #[] 0 (.fresh 0 0 led) }).objs.size := by
            rw [Heap.size_push]; exact Nat.ne_of_lt (Nat.lt_succ_of_lt hb)
          exact hm.heap b o (by simp only [List.mem_cons, List.mem_singleton, List.not_mem_nil, or_false, not_or]; exact ⟨hb1, hb2⟩) (Heap.get?_push_of_some _ (Heap.get?_push_of_some _ e))
      · cases r₂ with
        | error e => exact hr₂
        | ok fl₂ =>
          cases fl₂ with
          | ret r =>
            obtain ⟨rfl, h', tk, rfl, hS', hk'⟩ := hr₂
            repeat (any_goals (first | assumption | wp_step))
            exact h _ _ hS' hk'
          | _ => exact hr₂.elim
    | _ => exact hr.elim
end
end FP
/-! FP14: the order of texts; sorted(texts), sorted(set(texts)), len(set(texts)). -/
namespace FP
open PySem L2 PySem.Spec PyProof.Rows
variable [Tabl]
/-! ### the order of texts, pure -/
abbrev ltS (a b : Str) : Bool := ltCps a.cps.toList b.cps.toList
theorem ltS_iff {a b : Str} : ltS a b = true ↔ a.cps.toList < b.cps.toList := by
  unfold ltS
  rw [ltCps_eq]
  exact decide_eq_true_iff
theorem ltS_irrefl (a : Str) : ltS a a = false := by
  cases q : ltS a a with
  | false => rfl
  | true => exact (List.lt_irrefl _ (ltS_iff.mp q)).elim
theorem ltS_trans {a b c : Str} (h : ltS a b = true) (g : ltS b c = true) : ltS a c = true := ltS_iff.mpr (List.lt_trans (ltS_iff.mp h) (ltS_iff.mp g))
theorem str_of_list {a b : Str} (h : a.cps.toList = b.cps.toList) : a = b := by
  cases a; cases b
  simp only [Str.mk.injEq]
  exact Array.toList_inj.mp h
theorem ltS_tri {a b : Str} (h : ltS a b = false) (g : ltS b a = false) : a = b := by
  have h1 : ¬ a.cps.toList < b.cps.toList := fun z => by rw [ltS_iff.mpr z] at h; cases h
  have h2 : ¬ b.cps.toList < a.cps.toList := fun z => by rw [ltS_iff.mpr z] at g; cases g
  exact str_of_list (List.le_antisymm (List.not_lt.mp h2) (List.not_lt.mp h1))
theorem ltS_asym {a b : Str} (h : ltS a b = true) : ltS b a = false := by
  cases q : ltS b a with
  | false => rfl
  | true => have := ltS_trans h q; rw [ltS_irrefl] at this; cases this
theorem geS_trans {a b c : Str} (h : ltS b a = false) (g : ltS c b = false) : ltS c a = false := by
  cases q : ltS c a with
  | false => rfl
  | true =>
    by_cases e : a = b
    · rw [e] at q; rw [q] at g; cases g
    · have : ltS a b = true := by
        cases z : ltS a b with
        | true => rfl
        | false => exact (e (ltS_tri z h)).elim
      rw [ltS_trans q this] at g
      cases g
abbrev UpS (l : List Str) : Prop := l.Pairwise (fun a b => ltS b a = false)
theorem risingS_up : ∀ (l : List Str) (p : Str), risingS p l = true → (∀ x ∈ l, ltS x p = false) ∧ UpS l
  | [], p, _ => ⟨(fun x h => by cases h), List.Pairwise.nil⟩
  | y :: r, p, h => by
    have h' : (!ltS y p && risingS y r) = true := h
    rw [Bool.and_eq_true, Bool.not_eq_true'] at h'
    obtain ⟨i1, i2⟩ := risingS_up r y h'.2
    refine ⟨fun x hx => ?_, List.pairwise_cons.mpr ⟨i1, i2⟩⟩
    cases hx with
    | head => exact h'.1
    | tail _ hx => exact geS_trans h'.1 (i1 x hx)
theorem sortedS_up {l : List Str} (h : sortedS l = true) : UpS l := by
  cases l with
  | nil => exact .nil
  | cons x r =>
    obtain ⟨i1, i2⟩ := risingS_up r x h
    exact List.pairwise_cons.mpr ⟨i1, i2⟩
def insS (x : Str) : List Str → List Str
  | [] => [x]
  | y :: r => if ltS y x then y :: insS x r else x :: y :: r
def sortS : List Str → List Str
  | [] => []
  | x :: r => insS x (sortS r)
theorem insS_perm (x : Str) : ∀ l, (insS x l).Perm (x :: l)
  | [] => .refl _
  | y :: r => by
    unfold insS
    split
    · exact ((insS_perm x r).cons y).trans (.swap ..)
    · exact .refl _
theorem sortS_perm : ∀ l, (sortS l).Perm l
  | [] => .refl _
  | x :: r => (insS_perm x _).trans ((sortS_perm r).cons x)
theorem insS_up {x : Str} : ∀ {l}, UpS l → UpS (insS x l)
  | [], _ => List.pairwise_singleton _ _
  | y :: r, h => by
    obtain ⟨h1, h2⟩ := List.pairwise_cons.mp h
    unfold insS
    split
    · rename_i q
      refine List.pairwise_cons.mpr ⟨fun z hz => ?_, insS_up h2⟩
      rcases List.mem_cons.mp ((insS_perm x r).mem_iff.mp hz) with e | e
      · rw [e]; exact ltS_asym q
      · exact h1 z e
    · rename_i q
      have q' : ltS y x = false := by simpa using q
      refine List.pairwise_cons.mpr ⟨fun z hz => ?_, h⟩
      rcases List.mem_cons.mp hz with e | e
      · rw [e]; exact q'
      · exact geS_trans q' (h1 z e)
theorem sortS_up : ∀ l, UpS (sortS l)
  | [] => .nil
  | x :: r => insS_up (sortS_up r)
theorem upS_eq {l l' : List Str} (h : UpS l) (h' : UpS l') (p : l.Perm l') : l = l' := List.Perm.eq_of_pairwise (fun a b _ _ x y => ltS_tri y x) h h' p
theorem sortS_eq {l xs : List Str} (p : l.Perm xs) (h : sortedS l = true) : l = sortS xs := upS_eq (sortedS_up h) (sortS_up xs) (p.trans (sortS_perm xs).symm)
/-- without what comes twice -/
def nubS : List Str → List Str
  | [] => []
  | x :: r => if x ∈ nubS r then nubS r else x :: nubS r
theorem nubS_mem {k : Str} : ∀ {l}, k ∈ nubS l ↔ k ∈ l
  | [] => Iff.rfl
  | x :: r => by
    unfold nubS
    split
    · rename_i h
      rw [nubS_mem, List.mem_cons]
      exact ⟨.inr, fun z => z.elim (fun e => by rw [e]; exact nubS_mem.mp h) id⟩
    · rw [List.mem_cons, List.mem_cons, nubS_mem]
theorem nubS_nodup : ∀ l, (nubS l).Nodup
  | [] => .nil
  | x :: r => by
    unfold nubS
    split
    · exact nubS_nodup r
    · rename_i h
      exact List.nodup_cons.mpr ⟨h, nubS_nodup r⟩
/-- sorted(set(l)) -/
def sortU (l : List Str) : List Str := sortS (nubS l)
theorem sortU_mem {k : Str} {l : List Str} : k ∈ sortU l ↔ k ∈ l := by
  unfold sortU
  rw [(sortS_perm _).mem_iff, nubS_mem]
theorem sortU_nodup (l : List Str) : (sortU l).Nodup := (sortS_perm _).nodup_iff.mpr (nubS_nodup l)
theorem nodup_perm {l l' : List Str} (h : l.Nodup) (h' : l'.Nodup) (m : ∀ k, k ∈ l ↔ k ∈ l') : l.Perm l' := by
  rw [List.perm_iff_count]
  intro a
  rw [h.count, h'.count]
  by_cases q : a ∈ l
  · rw [if_pos q, if_pos ((m a).mp q)]
  · rw [if_neg q, if_neg fun z => q ((m a).mpr z)]
theorem sortU_congr {l l' : List Str} (m : ∀ k, k ∈ l ↔ k ∈ l') : sortU l = sortU l' :=
  upS_eq (sortS_up _) (sortS_up _) (nodup_perm (sortU_nodup l) (sortU_nodup l') fun k => by rw [sortU_mem, sortU_mem]; exact m k)
/-! ### the rules -/
def SetSO (w : World) (a : Addr) (M : List Str) : HO := .ext fun h => SetS w h a M
section
variable {X : Cx}
theorem setSO_new {w : World} {P : Program} {H : Hp} {h : Heap} {a : Addr} {M : List Str} (R : SetS w h a M) : ObjOk P w H h a (SetSO w a M) := by
  have ⟨o, _, _, _, ho, _⟩ := R
  exact ⟨R, ⟨o, ho⟩, fun h1 h2 p k => SetS.at p k⟩
theorem setSO_get {pins : List (Addr × Obj)} {σ : L2.St} {H : Hp} {s : Shared} {a : Addr} {M : List Str} (I : Inv X pins σ H s) (ha : H a = some (SetSO X.w a M)) : SetS X.w s.heap a M := (I.hok a _ ha).1
def rSetL (K : PySem.W.Frag) (w : World) : List V → Hp → VK → Prop := fun vs H Q => ∃ (l : Addr) (xs : List Str), vs = [V.ref l] ∧ SqL K H l (xs.map V.str) ∧ xs.length + 1 < scanBound ∧ ∀ p, H p = none → Q (.ref p) (upd H p (SetSO w p xs))
theorem cr_setL (hc : X.calm = true) : CallR X (.type "set") (rSetL X.K X.w) := by
  intro pins s σ H vs us Q I r h
  obtain ⟨a, xs, rfl, hs, hb, q⟩ := h
  obtain ⟨its, rv, hl, _⟩ := I.list hs
  rw [Vals.ref1 r]
  refine setS_list (I.ok.hd hc) hl.isList rv.strs hb fun h' tk new k => ?_
  exact ⟨.ref _, upd H s.heap.objs.size (SetSO X.w s.heap.objs.size xs), I.laid (t' := tk) (fun b u e => k b u (Heap.lt_size e) e) (Nat.le_refl _) (setSO_new new), rfl, q _ (I.hok.fresh (Nat.le_refl _))⟩
theorem setS_perm {w : World} {es : Array (Int × Value)} {M : List Str} (nd : (es.toList.map keyS).Nodup) (hm : ∀ k, k ∈ M ↔ k ∈ es.toList.map keyS) : (es.toList.map keyS).Perm (sortU M) :=
  nodup_perm nd (sortU_nodup M) fun k => by rw [sortU_mem, hm k]
theorem strsOf : ∀ (l : List Value), (∀ v ∈ l, ∃ k tk, v = Value.str k tk) → StrsAre l (l.map fun v => keyS (0, v))
  | [], _ => .nil
  | v :: l, h => by
    obtain ⟨k, tk, rfl⟩ := h v List.mem_cons_self
    exact .cons k tk (strsOf l fun u hu => h u (List.mem_cons_of_mem _ hu))
def rSortSS (w : World) : List V → Hp → VK → Prop := fun vs H Q => ∃ (a : Addr) (M : List Str), vs = [V.ref a] ∧ H a = some (SetSO w a M) ∧ ∀ p, H p = none → Q (.ref p) (upd H p (.lst ((sortU M).map V.str)))
theorem cr_sortSS (hc : X.calm = true) : CallR X (.builtin "sorted") (rSortSS X.w) := by
  intro pins s σ H vs us Q I r h
  obtain ⟨a, M, rfl, ha, q⟩ := h
  obtain ⟨o, es, ep, t, ho, hex, hd, g, nd, hm, hb, hf, hn, hr, hl⟩ := setSO_get I ha
  rw [Vals.ref1 r]
  have pe := setS_perm (w := X.w) nd hm
  refine Calls.call_function_entry kind_sorted plain_sorted entry_sorted (args_sorted1 _) ?_
  unfold Builtin.«sorted»
  refine wpAny_bind (m := checkCount "sorted" 1 1 _) (wpAny_pure ?_)
  refine wpAny_bind (collect_set (A := X.A.in1) (I.ok.hd hc) ⟨o, ho, hex.1, hd⟩ hf hb hr hl fun s1 vs k1 hz g1 o1 pm => ?_)
  have hvl : vs.length = es.size := by rw [pm.length_eq, List.length_map, Array.length_toList]
  have h4 : es.size < 4096 := hb
  have hs0 : vs.length ≤ sizeLine := by rw [hvl, sizeLine_eq]; omega
  have hI : StrsAre vs (vs.map fun v => keyS (0, v)) := strsOf vs fun v hv => by
    obtain ⟨e, he, q⟩ := List.mem_map.mp (pm.mem_iff.mp hv)
    obtain ⟨k, tk, h1, _⟩ := g e he
    exact ⟨k, tk, by rw [← q]; exact h1⟩
  have pk : (vs.map fun v => keyS (0, v)).Perm (es.toList.map keyS) := by
    have q := pm.map fun v => keyS (0, v)
    rw [List.map_map] at q
    exact q
  refine wpAny_bind (wpAny_newList ?_ hs0)
  have hoL : (s1.heap.push (seqObj "list" vs.toArray 0)).get? s1.heap.objs.size = some (seqObj "list" vs.toArray 0) := Heap.get?_push_size _ rfl
  refine wpAny_bind (wpAny_holding (wpAny_call_entry slot_list_sort ⟨_, hoL, rfl⟩ entry_list_sort (list_sort_treeKAny strKind_oneLt hoL hI.keysOf (fun v₁ v₂ rest e => keyKind_strs (by rw [← e]; exact hI)) hs0 fun st' hp hs => ⟨_, rfl, ?_⟩) (args_list_sort _)))
  obtain ⟨ys, q1, q2, q3⟩ := sorted_out_str hI hp hs
  obtain ⟨c, hc'⟩ := sortedHeap_at (vs := vs) (out := (arrOf st').map (·.2)) hoL
  have ey : ys = sortU M := upS_eq (sortedS_up q3) (sortS_up _) (q2.trans (pk.trans pe))
  subst ey
  have hlen : ((sortU M).map V.str).length ≤ sizeLine := by rw [List.length_map, q2.length_eq, List.length_map]; exact hs0
  have hn : H s1.heap.objs.size = none := I.hok.fresh hz
  have kk : ∀ b u, s.heap.get? b = some u → (sortedHeap (s1.heap.push (seqObj "list" vs.toArray 0)) s1.heap.objs.size vs ((arrOf st').map (·.2))).get? b = some u := fun b u e => by
    have q := k1 b u e
    have hlt := Heap.lt_size q
    rw [sortedHeap_old (Nat.ne_of_lt hlt) (by rw [size_push']; exact Nat.lt_succ_of_lt hlt)]
    exact Heap.get?_push_of_some _ q
  have J : Inv X pins σ (upd H s1.heap.objs.size (.lst ((sortU M).map V.str))) { s with heap := sortedHeap (s1.heap.push (seqObj "list" vs.toArray 0)) s1.heap.objs.size vs ((arrOf st').map (·.2)), gens := s1.gens, drawn := s1.drawn, toks := s1.toks } :=
    I.call (ch := []) (Un.laid kk hz hn) (I.hok.laid kk hz ⟨hlen, ((arrOf st').map (·.2)).toList, c, vals_of_strs q1, by rw [Array.toArray_toList]; exact hc'⟩) (by rw [g1]; exact I.bare) (fun _ z => nomatch z)
  have e : ({ s1 with heap := sortedHeap (s1.heap.push (seqObj "list" vs.toArray 0)) s1.heap.objs.size vs ((arrOf st').map (·.2)) } : Shared) = { s with heap := sortedHeap (s1.heap.push (seqObj "list" vs.toArray 0)) s1.heap.objs.size vs ((arrOf st').map (·.2)), gens := s1.gens, drawn := s1.drawn, toks := s1.toks } := by
    cases s1
    cases s
    cases o1
    rfl
  refine wpAny_pure ⟨_, rfl, ?_⟩
  rw [e]
  exact ⟨.ref s1.heap.objs.size, _, J, rfl, q s1.heap.objs.size hn⟩
/-- sorted(list of texts), of any length -/
def rSortLS (K : PySem.W.Frag) : List V → Hp → VK → Prop := fun vs H Q => ∃ (a : Addr) (xs : List Str), vs = [V.ref a] ∧ SqL K H a (xs.map V.str) ∧ ∀ p, H p = none → Q (.ref p) (upd H p (.lst ((sortS xs).map V.str)))
theorem cr_sortLS : CallR X (.builtin "sorted") (rSortLS X.K) := by
  intro pins s σ H vs us Q I r h
  obtain ⟨a, xs, rfl, hs, q⟩ := h
  obtain ⟨its, rv, hl, hz⟩ := I.list hs
  rw [Vals.ref1 r]
  have hlen0 := rv.length
  refine PyProof.Rows.sorted_strsAny hl.isList rv.strs (by rw [← hlen0]; exact hz) fun out ys h1 h2 h3 => ?_
  obtain ⟨ep, he'⟩ := PyProof.Rows.sortedAll_at s.heap its out
  have ey := sortS_eq h2 h3
  subst ey
  have hlen : ((sortS xs).map V.str).length ≤ sizeLine := by rw [List.length_map, h2.length_eq, ← List.length_map (f := V.str)]; exact hz
  exact ⟨.ref _, upd H (s.heap.objs.size + 1) (.lst ((sortS xs).map V.str)), I.laid (t' := s.toks) (fun _ _ => PyProof.Rows.sortedAll_old) (Nat.le_succ _) ⟨hlen, out.toList, ep, vals_of_strs h1, he'⟩, rfl, q _ (I.hok.fresh (Nat.le_succ _))⟩
end
end FP
/-! FP15: sorted(set(..)), len(set(..)), sorted(..) by data; o[i]; star displays; two-clause comprehensions. -/
namespace FP
open PySem L2
variable [Tabl]
section
variable {ι : Type} {Xs : ι → Cx} {mg : Gm} {Wx : WX} {pos : Pos}
theorem cr_setLK {X : Cx} {K : PySem.W.Frag} {w : World} (h : X.K = K) (hw : X.w = w) (hc : X.calm = true) : CallR X (.type "set") (rSetL K w) := by
  subst h hw
  exact cr_setL hc
theorem cr_sortSSK {X : Cx} {w : World} (hw : X.w = w) (hc : X.calm = true) : CallR X (.builtin "sorted") (rSortSS w) := by
  subst hw
  exact cr_sortSS hc
theorem cr_sortLSK {X : Cx} {K : PySem.W.Frag} (h : X.K = K) : CallR X (.builtin "sorted") (rSortLS K) := by
  subst h
  exact cr_sortLS
abbrev dSortSet (f : DTE) : DTE := fun ρ Q E => f ρ (fun x => match x with
  | .lst xs => ∃ ss, strsD xs = some ss ∧ ss.length < 4000 ∧ Q (.lst ((sortU ss).map .str))
  | _ => False) E
theorem de_sortSet {w : World} {e : Expr} {f : DTE} {p p2 q : Pos} (h : DE Xs mg Wx e f) (hm : mg.mg "sorted" = none) (hm2 : mg.mg "set" = none) (hv : bootBuiltins "sorted" = some (.builtin "sorted")) (hv2 : bootBuiltins "set" = some (.type "set"))
    (hw : ∀ j, (Xs j).w = w := by intro _; rfl) (hK : ∀ j, (Xs j).K = mg.K := by intro _; rfl) (hM : ∀ j, (Xs j).mg = mg.mg := by intro _; rfl) (hc : ∀ j, (Xs j).calm = true := by intro _; rfl) (hg : ∀ j, Gl (Xs j) "sorted" := by intro _; rfl) (hg2 : ∀ j, Gl (Xs j) "set" := by intro _; rfl)
    (he : ∀ j, starEach [e] (Xs j).env = [(false, eval e (Xs j).env)] := by intro _; rfl)
    (he2 : ∀ j, starEach [.Call (.Name "set" p2) [e] [] q] (Xs j).env = [(false, eval (.Call (.Name "set" p2) [e] [] q) (Xs j).env)] := by intro _; rfl) :
    DE Xs mg Wx (.Call (.Name "sorted" p) [.Call (.Name "set" p2) [e] [] q] [] pos) (dSortSet f) := by
  obtain ⟨t, h1, h2⟩ := h
  refine ⟨tCB (rSortSS w) (tCons (tCB (rSetL mg.K w) (tCons t tNil)) tNil), fun j => ?_, ?_⟩
  · exact pe_callB (cr_sortSSK (hw j) (hc j)) (hg j) (by rw [hM j]; exact hm) hv (pa_cons (pe_callTy (cr_setLK (hK j) (hw j) (hc j)) (hg2 j) (by rw [hM j]; exact hm2) hv2 (pa_cons (h1 j) pa_nil (he j)) (by decide) (by decide) (he j) rfl) pa_nil (he2 j)) (by decide) (by decide) (he2 j) rfl
  · intro B ρ Q E hf W σ H Q' hh e x q
    refine h2 B ρ _ E hf W σ H _ hh e x fun W1 H1 v d s1 r1 k1 => ?_
    dsimp only at k1
    split at k1
    · cases r1 with
      | lst ha ra =>
        obtain ⟨ss, g1, g2, g3⟩ := k1
        have ev := strs_v ra g1
        subst ev
        refine ⟨_, ss, rfl, SqL.of (s1.holds.same _ _ ha), (show ss.length + 1 < 4096 by omega), fun p1 n1 => ⟨p1, ss, rfl, upd_same, fun p2 n2 => ?_⟩⟩
        have s2 := s1.trans (Step.lay s1.holds (o := SetSO w p1 ss) n1)
        exact to_lst (ToV.step q s2) s2.holds (Reps.strs _) g3 p2 n2
    · exact k1.elim
def rdSorted : RDL := fun ds Q => match ds with
  | [.lst xs] => ∃ ss, strsD xs = some ss ∧ Q (.lst ((sortS ss).map .str))
  | _ => False
theorem ok_sorted (hK : ∀ j, (Xs j).K = mg.K := by intro _; rfl) : CallOk Xs mg (.builtin "sorted") rdSorted := by
  refine ⟨_, fun j => cr_sortLSK (hK j), ?_⟩
  intro W H vs ds Q Q' hh r h q
  unfold rdSorted at h
  split at h
  · cases r with
    | cons r rs =>
      cases rs
      cases r with
      | lst ha ra =>
        obtain ⟨ss, h1, h2⟩ := h
        have e := strs_v ra h1
        subst e
        exact ⟨_, ss, rfl, SqL.of (hh.same _ _ ha), to_lst q hh (Reps.strs _) h2⟩
  · exact h.elim
/-! ### *e among arguments and in displays -/
abbrev dStar (f : DTE) (g : DTA) : DTA := fun ρ Q E => f ρ (fun x => match x with
  | .lst xs => g ρ (fun ys => Q (xs ++ ys)) E
  | .fz xs => g ρ (fun ys => Q (xs ++ ys)) E
  | .tup xs => g ρ (fun ys => Q (xs ++ ys)) E
  | _ => False) E
theorem pa_starK {X : Cx} {K : PySem.W.Frag} {e : Expr} {es : List Expr} {te : TE} {t : TA} {p : Pos} (h : X.K = K) (he : PE X e te) (hr : PA X es t) (hs : starEach (.Starred e p :: es) X.env = (true, eval e X.env) :: starEach es X.env) : PA X (.Starred e p :: es) (StX.tStar K te t) := by
  subst h
  exact StX.pa_star he hr hs
theorem da_star {e : Expr} {es : List Expr} {f : DTE} {g : DTA} {p : Pos} (h : DE Xs mg Wx e f) (h' : DA Xs mg Wx es g) (hK : ∀ j, (Xs j).K = mg.K := by intro _; rfl) (hs : ∀ i, starEach (.Starred e p :: es) (Xs i).env = (true, eval e (Xs i).env) :: starEach es (Xs i).env := by intro _; rfl) :
    DA Xs mg Wx (.Starred e p :: es) (dStar f g) := by
  obtain ⟨t, h1, h2⟩ := h
  obtain ⟨u, g1, g2⟩ := h'
  refine ⟨_, fun i => pa_starK (hK i) (h1 i) (g1 i) (hs i), ?_⟩
  intro B ρ Q E hf W σ H Q' hh e x q
  refine h2 B ρ _ E hf W σ H _ hh e x fun W1 H1 v d s1 r1 k1 => ?_
  have fin : ∀ {xs : List V} {ds : List D}, Reps mg W1 xs ds → g ρ (fun ys => Q (ds ++ ys)) E → u σ H1 fun ys H2 => Q' (xs ++ ys) H2 := fun {xs ds} ra k => g2 B ρ _ E k W1 σ H1 _ s1.holds (e.step s1) (x.step s1) fun W2 H2 vs ds2 s2 r2 k2 => q W2 H2 _ _ (s1.trans s2) ((ra.mono s2.le).append r2) k2
  dsimp only at k1
  split at k1
  · cases r1 with
    | lst ha ra => exact ⟨_, _, rfl, .inr (SqL.of (s1.holds.same _ _ ha)), fin ra k1⟩
  · cases r1 with
    | fz ha ra => exact ⟨_, _, rfl, .inr (s1.holds.same.seq ha), fin ra k1⟩
  · cases r1 with
    | tup ha ra => exact ⟨_, _, rfl, .inl (SqT.of (s1.holds.same _ _ ha)), fin ra k1⟩
  · exact k1.elim
/-! ### o[i] of an own class -/
end
end FP
/-! FP16: comprehensions with two clauses. -/
namespace FP
open PySem L2
variable [Tabl]
section
variable {ι : Type} {Xs : ι → Cx} {mg : Gm} {Wx : WX} {pos : Pos}
def lcS (body : D → (List D → Prop) → Prop) : List D → (List D → Prop) → Prop
  | [], Q => Q []
  | d :: ds, Q => body d fun r => lcS body ds fun rs => Q (r ++ rs)
/-- so many items that no list is too long -/
def few : Nat := 4000
abbrev fewD (ds : List D) : Prop := ds.length ≤ few
theorem few_mul {a i j : Nat} (h : a ≤ i * few + j) (hi : i < few) (hj : j < few) : a < sizeLine := by
  unfold few at *
  rw [PySem.sizeLine_eq]
  omega
abbrev dLc2 (w : DTI) (T : Tg) (ft : DTT) (w1 : DTI) (T1 : Tg) (ft1 : DTT) (fe : DTE) (vs vs1 : List Nat) : DTE := fun ρ Q E => w ρ (fun ds => fewD ds ∧ lcS (fun d k => ∃ ρ2, T.put d (wipeD ρ vs) = some ρ2 ∧ ft ρ2 (fun b => bit b
  (w1 ρ2 (fun es => fewD es ∧ lcD (fun e k => ∃ ρ3, T1.put e (wipeD ρ2 vs1) = some ρ3 ∧ ft1 ρ3 (fun b => bit b (fe ρ3 (fun r => k (some r)) F0) (k none)) F0) es fun rs => k rs) F0) (k [])) F0) ds fun rs => Q (.lst rs)) E
theorem EnvR.mark {B : Hp} {W : Wd} {H : Hp} {σ : St} {ρ : Env} (e : EnvR mg B W H σ ρ) {A : Addr} {o : HO} (n : H A = none) : EnvR mg (upd B A o) W H σ ρ := by
  refine ⟨e.len, fun i s h => ?_, e.dis⟩
  obtain ⟨v, h1, h2⟩ := e.sl i s h
  refine ⟨v, h1, ?_⟩
  cases s with
  | no => exact True.intro
  | exc => exact h2
  | d x => exact h2
  | own xs =>
    obtain ⟨a, vs, q1, q2, q3, q4, q5, q6⟩ := h2
    exact ⟨a, vs, q1, q2, q3, q4, by rw [upd_ne (ne_of_none q2 n)]; exact q5, q6⟩
  | od xs =>
    obtain ⟨a, vs, q1, q2, q3, q4, q5, q6⟩ := h2
    exact ⟨a, vs, q1, q2, q3, q4, by rw [upd_ne (ne_of_none q2 n)]; exact q5, q6⟩
  | ob c a fs =>
    obtain ⟨vs, q1, ⟨C, dx, q0, q2⟩, q3, q4, q5, q6⟩ := h2
    exact ⟨vs, q1, ⟨C, dx, q0, q2⟩, q3, q4, by rw [upd_ne (ne_of_none q2 n)]; exact q5, q6⟩
  | ow c as fs =>
    obtain ⟨a, as', vs, q0, q1, q2, q3, q4, q5⟩ := h2
    exact ⟨a, as', vs, q0, q1, q2, q3, q4, fun b hb => by
      obtain ⟨⟨u, hu⟩, k2, k3, k4⟩ := q5 b hb
      exact ⟨⟨u, hu⟩, k2, k3, by rw [upd_ne (ne_of_none hu n)]; exact k4⟩⟩
theorem EnvR.beside {B : Hp} {W : Wd} {H : Hp} {σ : St} {ρ : Env} (e : EnvR mg B W H σ ρ) {A : Addr} {o o' : HO} (n : B A = some o') : EnvR mg B W (upd H A o) σ ρ := by
  refine ⟨e.len, fun i s h => ?_, e.dis⟩
  obtain ⟨v, h1, h2⟩ := e.sl i s h
  refine ⟨v, h1, h2.keep (Le.refl W) fun a ha u h5 h6 h7 => ⟨?_, h6, h7⟩⟩
  obtain ⟨_, _, _, _, z⟩ := h2.at ha
  have ne : a ≠ A := fun q => by rw [q, n] at z; cases z
  rw [upd_ne ne]
  exact h5
theorem Cp.lc2 {wi wi1 : TI} {g g1 : TG} {tt tt1 : TT} {te : TE} {w w1 : DTI} {T T1 : Tg} {ft ft1 : DTT} {fe : DTE} {vs vs1 : List Nat} (hi : CpI mg Wx wi w) (hg : CpG mg g T) (hv : ∀ i ∈ T.slots, i ∈ vs) (ht : CpT mg Wx0 tt ft)
    (hi1 : CpI mg Wx0 wi1 w1) (hg1 : CpG mg g1 T1) (hv1 : ∀ i ∈ T1.slots, i ∈ vs1) (ht1 : CpT mg Wx0 tt1 ft1) (he : Cp mg Wx0 te fe) : Cp mg Wx (tLc2 wi g tt wi1 g1 tt1 te vs vs1) (dLc2 w T ft w1 T1 ft1 fe vs vs1) := by
  intro B ρ Q E hf W σ H Q' hh e x q
  refine hi B ρ _ E hf W σ H _ hh e x fun W1 H1 J ds s1 wk k1 => ?_
  obtain ⟨hsz, k1⟩ := k1
  intro A hA
  have e1 := (e.step s1).mark (o := .lst []) hA
  generalize hBm : upd B A (.lst []) = B' at e1
  have hBA : B' A = some (.lst []) := by rw [← hBm]; exact upd_same
  have sA : ∀ {Wa Wb : Wd} {Ha Hb : Hp} {ws : List V}, Step Wa Ha Wb Hb → Ha A = some (.lst ws) → Wa.H A = none → ¬ Wa.T A → Hb A = some (.lst ws) ∧ Wb.H A = none ∧ ¬ Wb.T A := fun st a1 a2 a3 => ⟨st.keep A _ a1 a3, by rw [st.fresh A _ a1]; exact a2, fun t => by
    rcases st.freshT A t with t | t
    · exact a3 t
    · rw [a1] at t
      cases t⟩
  refine ⟨fun i m H' => m = ds.length - i ∧ i ≤ ds.length ∧ ∃ W' us acc, Step W1 H1 W' H' ∧ H' A = some (.lst us) ∧ W'.H A = none ∧ ¬ W'.T A ∧ Reps mg W' us acc ∧ acc.length ≤ i * few ∧ lcS _ (ds.drop i) (fun rs => Q (.lst (acc ++ rs))),
    ⟨ds.length, by simp, Nat.zero_le _, W1, [], [], Step.lay s1.holds hA, upd_same, s1.holds.same.free hA, s1.holds.nT hA, .nil, Nat.zero_le _, k1⟩, ?_⟩
  rintro i m H' ⟨rfl, hi, W', us, acc, s', hL, nw, nt, rs, la, k'⟩
  obtain ⟨go, stop, yld⟩ := wk W' H' s'.le s'.holds
  by_cases hlt : i < ds.length
  · refine .inr ⟨go i hlt, fun H2 => ∃ W2 us2 acc2, Step W1 H1 W2 H2 ∧ H2 A = some (.lst us2) ∧ W2.H A = none ∧ ¬ W2.T A ∧ Reps mg W2 us2 acc2 ∧ acc2.length ≤ (i + 1) * few ∧ lcS _ (ds.drop (i + 1)) (fun rs => Q (.lst (acc2 ++ rs))), fun H2 q => ⟨ds.length - (i + 1), by omega, rfl, hlt, q⟩, fun y H2 hy => ?_⟩
    obtain ⟨W2, d, s2, hd, r⟩ := yld i y H2 hlt hy
    have ed : ds.drop i = d :: ds.drop (i + 1) := by
      rw [List.drop_eq_getElem_cons hlt]
      have := (List.getElem?_eq_some_iff.mp hd).2
      rw [this]
    rw [ed] at k'
    obtain ⟨ρ1, p1, k2⟩ := k'
    refine hg B' W2 H2 y d _ _ ρ1 _ s2.holds r ((e1.step s').step s2 |>.wipe vs) p1 fun σ3 e3 w3 => ?_
    refine ⟨(w3 vs hv).trans (wipe_wipe σ vs), ?_⟩
    refine ht B' ρ1 _ _ k2 W2 σ3 H2 _ s2.holds e3 ExR.f0 fun W3 H3 b s3 k3 => ?_
    obtain ⟨b1, b2, b3⟩ := sA (s2.trans s3) hL nw nt
    have rs3 := rs.mono (s2.trans s3).le
    have s13 := (s'.trans s2).trans s3
    cases b with
    | false =>
      rw [if_neg Bool.false_ne_true]
      exact ⟨W3, us, acc, s13, b1, b2, b3, rs3, by rw [Nat.succ_mul]; omega, k3⟩
    | true =>
      rw [if_pos rfl]
      refine hi1 B' ρ1 _ _ k3 W3 σ3 H3 _ s3.holds (e3.step s3) ExR.f0 fun W4 H4 J1 es s4 wk1 k4 => ?_
      obtain ⟨hsz1, k4⟩ := k4
      obtain ⟨c1, c2, c3⟩ := sA s4 b1 b2 b3
      have e4 := (e3.step s3).step s4
      have s14 := s13.trans s4
      refine ⟨fun j k H' => k = es.length - j ∧ j ≤ es.length ∧ ∃ W' us' acc', Step W1 H1 W' H' ∧ Le W4 W' ∧ EnvR mg B' W' H' σ3 ρ1 ∧ H' A = some (.lst us') ∧ W'.H A = none ∧ ¬ W'.T A ∧ Reps mg W' us' acc' ∧ acc'.length ≤ i * few + j ∧ lcD _ (es.drop j) (fun r => lcS _ (ds.drop (i + 1)) (fun rs => Q (.lst (acc' ++ (r ++ rs))))),
        ⟨es.length, by simp, Nat.zero_le _, W4, us, acc, s14, Le.refl _, e4, c1, c2, c3, rs3.mono s4.le, by omega, k4⟩, ?_⟩
      rintro j k H5 ⟨rfl, hj, W5, us5, acc5, s5, l45, e5, hL5, nw5, nt5, rs5, la5, k5⟩
      obtain ⟨go1, stop1, yld1⟩ := wk1 W5 H5 l45 s5.holds
      by_cases hlt1 : j < es.length
      · refine .inr ⟨go1 j hlt1, fun H6 => ∃ W6 us6 acc6, Step W1 H1 W6 H6 ∧ Le W4 W6 ∧ EnvR mg B' W6 H6 σ3 ρ1 ∧ H6 A = some (.lst us6) ∧ W6.H A = none ∧ ¬ W6.T A ∧ Reps mg W6 us6 acc6 ∧ acc6.length ≤ i * few + (j + 1) ∧ lcD _ (es.drop (j + 1)) (fun r => lcS _ (ds.drop (i + 1)) (fun rs => Q (.lst (acc6 ++ (r ++ rs))))), fun H6 q => ⟨es.length - (j + 1), by omega, rfl, hlt1, q⟩, fun y1 H6 hy1 => ?_⟩
        obtain ⟨W6, d1, s6, hd1, r6⟩ := yld1 j y1 H6 hlt1 hy1
        have ed1 : es.drop j = d1 :: es.drop (j + 1) := by
          rw [List.drop_eq_getElem_cons hlt1]
          have := (List.getElem?_eq_some_iff.mp hd1).2
          rw [this]
        rw [ed1] at k5
        obtain ⟨ρ3, p3, k6⟩ := k5
        refine hg1 B' W6 H6 y1 d1 _ _ ρ3 _ s6.holds r6 ((e5.step s6).wipe vs1) p3 fun σ6 e6 w6 => ?_
        refine ⟨(w6 vs1 hv1).trans (wipe_wipe σ3 vs1), ?_⟩
        refine ht1 B' ρ3 _ _ k6 W6 σ6 H6 _ s6.holds e6 ExR.f0 fun W7 H7 b s7 k7 => ?_
        obtain ⟨d1, d2, d3⟩ := sA (s6.trans s7) hL5 nw5 nt5
        cases b with
        | true =>
          rw [if_pos rfl]
          refine he B' ρ3 _ _ k7 W7 σ6 H7 _ s7.holds (e6.step s7) ExR.f0 fun W8 H8 z dz s8 r8 k8 => ?_
          obtain ⟨c1, c2, c3⟩ := sA s8 d1 d2 d3
          have s18 := (s5.trans s6).trans (s7.trans s8)
          refine ⟨us5, c1, ?_, W8, us5 ++ [z], acc5 ++ [dz], s18.own hA c1 c2 c3, l45.trans ((s6.trans s7).trans s8).le, (e5.step ((s6.trans s7).trans s8)).beside hBA, upd_same, c2, c3, Reps.snoc (rs5.mono ((s6.trans s7).trans s8).le) r8, ?_, ?_⟩
          · rw [rs5.length]
            exact few_mul la5 (Nat.lt_of_lt_of_le hlt hsz) (Nat.lt_of_lt_of_le hlt1 hsz1)
          · rw [List.length_append, List.length_singleton]
            omega
          · simpa [List.append_assoc] using k8
        | false =>
          rw [if_neg Bool.false_ne_true]
          exact ⟨W7, us5, acc5, (s5.trans s6).trans s7, l45.trans (s6.trans s7).le, e5.step (s6.trans s7), d1, d2, d3, rs5.mono (s6.trans s7).le, by omega, k7⟩
      · have ej : j = es.length := by omega
        subst ej
        rw [List.drop_length] at k5
        refine .inl ⟨stop1, W5, us5, acc5, s5, hL5, nw5, nt5, rs5, ?_, k5⟩
        have : es.length ≤ few := hsz1
        rw [Nat.succ_mul]
        omega
  · have ei : i = ds.length := by omega
    subst ei
    rw [List.drop_length] at k'
    refine .inl ⟨stop, q (W'.put A (.lst us)) H' _ _ (s1.trans (s'.taken hA hL nw nt)) (Rep.newLst rs nw) ?_⟩
    have k2 : Q (.lst (acc ++ [])) := k'
    rw [List.append_nil] at k2
    exact k2
theorem de_lc2 {elt tg iter tg1 iter1 : Expr} {ifs ifs1 : List Expr} {scope : Scope} {own : List (Str × Nat)} {vs1 : List Nat} {w w1 : DTI} {T T1 : Tg} {ft ft1 : DTT} {fe : DTE} (hN : ∀ j, (Xs j).N.Nodup) (hi : DI Xs mg Wx tg iter w) (ok : ∀ j, BlkOk (Xs j).N (Xs j).env.scope scope own) (hg : DG (blkF Xs scope) mg tg T) (ht : DTs (blkF Xs scope) mg Wx0 ifs ft)
    (hi1 : DI (blkF Xs scope) mg Wx0 tg1 iter1 w1) (hg1 : DG (blkF Xs scope) mg tg1 T1) (ht1 : DTs (blkF Xs scope) mg Wx0 ifs1 ft1) (he : DE (blkF Xs scope) mg Wx0 elt fe)
    (hw : ∀ i ∈ vs1, i ∈ own.map (·.2) := by decide) (hv : ∀ i ∈ T.slots, i ∈ own.map (·.2) := by decide) (hv1 : ∀ i ∈ T1.slots, i ∈ vs1 := by decide) (hc : ∀ j, (Xs j).calm = true := by intro _; rfl) (hs : ∀ j x, foldedSetIterable iter (Xs j).env x = pure x := by intro _ _; rfl) (hs1 : ∀ env x, foldedSetIterable iter1 env x = pure x := by intro _ _; rfl) :
    DE Xs mg Wx (.ListComp elt [⟨tg, iter, ifs, 0⟩, ⟨tg1, iter1, ifs1, 0⟩] scope pos) (dLc2 w T ft w1 T1 ft1 fe (own.map (·.2)) vs1) := by
  obtain ⟨wi, i1, i2⟩ := hi
  obtain ⟨g, g1, g2⟩ := hg
  obtain ⟨tt, t1, t2⟩ := ht
  obtain ⟨wi1, i3, i4⟩ := hi1
  obtain ⟨g', g3, g4⟩ := hg1
  obtain ⟨tt', t3, t4⟩ := ht1
  obtain ⟨te, e1, e2⟩ := he
  exact ⟨_, fun j => pe_lc2 (hc j) (hN j) (i1 j) (ok j) hw (fun s H C cl fp => g1 (j, s, H, C, cl, fp)) (fun s H C cl fp => t1 (j, s, H, C, cl, fp)) (fun s H C cl fp => i3 (j, s, H, C, cl, fp)) (fun s H C cl fp => g3 (j, s, H, C, cl, fp)) (fun s H C cl fp => t3 (j, s, H, C, cl, fp)) (fun s H C cl fp => e1 (j, s, H, C, cl, fp)) (hs j) hs1, Cp.lc2 i2 g2 hv t2 i4 g4 hv1 t4 e2⟩
end
end FP
/-! FP17: f-strings; dicts: d[k], k in d, dict comprehensions. -/
namespace FP
open PySem L2
variable [Tabl]
section
variable {ι : Type} {Xs : ι → Cx} {mg : Gm} {Wx : WX} {pos : Pos}
/-! ### f-strings -/
def fmtD : D → (Str → Prop) → Prop := fun x Q => match x with
  | .str y => y.length ≤ sizeLine ∧ Q y
  | .int i => i.natAbs.log2 < 1920 ∧ Q (toString i)
  | _ => False
abbrev dFmt (f : DTE) : DTE := fun ρ Q E => f ρ (fun x => fmtD x fun y => Q (.str y)) E
theorem de_fmt {e : Expr} {f : DTE} (h : DE Xs mg Wx e f) : DE Xs mg Wx (.FormattedValue e (-1) none pos) (dFmt f) := by
  obtain ⟨t, h1, h2⟩ := h
  refine ⟨_, fun i => pe_fmt (h1 i), fun B ρ Q E hf W σ H Q' hh e x q => h2 B ρ _ E hf W σ H _ hh e x fun W1 H1 v d s1 r1 k1 => ?_⟩
  unfold fmtD at k1
  dsimp only at k1
  split at k1
  · cases r1
    exact .inl ⟨_, rfl, k1.1, q W1 H1 _ _ s1 (.str _) k1.2⟩
  · cases r1
    exact .inr ⟨_, rfl, k1.1, q W1 H1 _ _ s1 (.str _) k1.2⟩
  · exact k1.elim
/-- the parts of an f-string -/
abbrev DJT := Env → Str → (Str → Prop) → (XD → Prop) → Prop
def CpJ (mg : Gm) (Wx : WX) (ts : List TE) (f : DJT) : Prop := ∀ B ρ acc Q E, f ρ acc Q E → ∀ W σ H Q', Holds W H → EnvR mg B W H σ ρ → ExR mg Wx W H σ E → (∀ W' H' z, Step W H W' H' → Q z → Q' z H') → tJs ts acc σ H Q'
def DJ (Xs : ι → Cx) (mg : Gm) (Wx : WX) (es : List Expr) (f : DJT) : Prop := ∃ ts, (∀ i, PJ (Xs i) es ts) ∧ CpJ mg Wx ts f
abbrev dJNil : DJT := fun _ acc Q _ => Q acc
abbrev dJCons (f : DTE) (g : DJT) : DJT := fun ρ acc Q E => f ρ (fun x => match x with
  | .str y => (acc ++ y).length ≤ sizeLine ∧ g ρ (acc ++ y) Q E
  | _ => False) E
theorem dj_nil : DJ Xs mg Wx [] dJNil := ⟨[], fun _ => .nil, fun B ρ acc Q E hf W σ H Q' hh e x q => q W H acc (Step.refl hh) hf⟩
theorem dj_cons {e : Expr} {es : List Expr} {f : DTE} {g : DJT} (h : DE Xs mg Wx e f) (h' : DJ Xs mg Wx es g) : DJ Xs mg Wx (e :: es) (dJCons f g) := by
  obtain ⟨t, h1, h2⟩ := h
  obtain ⟨ts, g1, g2⟩ := h'
  refine ⟨t :: ts, fun i => .cons (h1 i) (g1 i), fun B ρ acc Q E hf W σ H Q' hh e x q => ?_⟩
  refine h2 B ρ _ E hf W σ H _ hh e x fun W1 H1 v d s1 r1 k1 => ?_
  dsimp only at k1
  split at k1
  · cases r1
    exact ⟨_, rfl, k1.1, g2 B ρ _ Q E k1.2 W1 σ H1 _ s1.holds (e.step s1) (x.step s1) fun W2 H2 z s2 k2 => q W2 H2 z (s1.trans s2) k2⟩
  · exact k1.elim
abbrev dJoined (g : DJT) : DTE := fun ρ Q E => g ρ Str.empty (fun z => Q (.str z)) E
theorem de_joined {v1 v2 : Expr} {rest : List Expr} {g : DJT} (h : DJ Xs mg Wx (v1 :: v2 :: rest) g) : DE Xs mg Wx (.JoinedStr (v1 :: v2 :: rest) pos) (dJoined g) := by
  obtain ⟨ts, h1, h2⟩ := h
  exact ⟨_, fun i => pe_joined (h1 i), fun B ρ Q E hf W σ H Q' hh e x q => h2 B ρ _ _ E hf W σ H _ hh e x fun W1 H1 z s1 k1 => q W1 H1 _ _ s1 (.str z) k1⟩
/-! ### dicts -/
def keyD : D → Option Key
  | .int i => some (.inl i)
  | .str z => some (.inr z)
  | _ => none
def valD (kvs : List (Key × D)) (k : Key) : Option D := (kvs.find? fun kv => decide (kv.1 = k)).map (·.2)
def putKD (kvs : List (Key × D)) (k : Key) (v : D) : List (Key × D) :=
  if (kvs.any fun kv => decide (kv.1 = k)) = true then kvs.map (fun kv => if kv.1 = k then (kv.1, v) else kv) else kvs ++ [(k, v)]
theorem keyD_v {W : Wd} {x : V} {d : D} {k : Key} (r : Rep mg W x d) (h : keyD d = some k) : x = kV k := by
  cases r with
  | int i => cases h; rfl
  | str i => cases h; rfl
  | _ => cases h
theorem valD_cons (p : Key × D) (r : List (Key × D)) (k : Key) : valD (p :: r) k = if p.1 = k then some p.2 else valD r k := by
  unfold valD
  rw [List.find?_cons]
  by_cases q : p.1 = k <;> simp [q]
theorem valV_cons (p : Key × V) (r : List (Key × V)) (k : Key) : valV (p :: r) k = if p.1 = k then some p.2 else valV r k := by
  unfold valV
  rw [List.find?_cons]
  by_cases q : p.1 = k <;> simp [q]
theorem val_rep {W : Wd} {k : Key} : ∀ {kvs : List (Key × V)} {ds : List (Key × D)}, kvs.map (·.1) = ds.map (·.1) → Reps mg W (kvs.map (·.2)) (ds.map (·.2)) →
    (valD ds k = none ∧ valV kvs k = none) ∨ ∃ v d, valD ds k = some d ∧ valV kvs k = some v ∧ Rep mg W v d
  | [], [], _, _ => .inl ⟨rfl, rfl⟩
  | p :: kvs, q :: ds, hk, hr => by
    obtain ⟨h1, h2⟩ := List.cons.inj hk
    cases hr with
    | cons r rs =>
      rw [valD_cons, valV_cons]
      by_cases e : q.1 = k
      · rw [if_pos e, if_pos (h1.trans e)]
        exact .inr ⟨_, _, rfl, rfl, r⟩
      · rw [if_neg e, if_neg (fun z => e (h1.symm.trans z))]
        exact val_rep h2 rs
  | [], _ :: _, hk, _ => by cases hk
  | _ :: _, [], hk, _ => by cases hk
theorem any_key {k : Key} : ∀ {kvs : List (Key × V)} {ds : List (Key × D)}, kvs.map (·.1) = ds.map (·.1) → (kvs.any fun kv => decide (kv.1 = k)) = (ds.any fun kv => decide (kv.1 = k))
  | [], [], _ => rfl
  | p :: kvs, q :: ds, hk => by
    obtain ⟨h1, h2⟩ := List.cons.inj hk
    have h1 : p.1 = q.1 := h1
    rw [List.any_cons, List.any_cons, h1, any_key h2]
  | [], _ :: _, hk => by cases hk
  | _ :: _, [], hk => by cases hk
theorem put_rep {W : Wd} {k : Key} {v : V} {d : D} {kvs : List (Key × V)} {ds : List (Key × D)} (hk : kvs.map (·.1) = ds.map (·.1)) (hr : Reps mg W (kvs.map (·.2)) (ds.map (·.2))) (r : Rep mg W v d) :
    (putK kvs k v).map (·.1) = (putKD ds k d).map (·.1) ∧ Reps mg W ((putK kvs k v).map (·.2)) ((putKD ds k d).map (·.2)) := by
  unfold putK putKD
  rw [any_key hk]
  split
  · rename_i hq
    clear hq
    induction kvs generalizing ds with
    | nil =>
      cases ds with
      | nil => exact ⟨rfl, .nil⟩
      | cons q ds => cases hk
    | cons p kvs ih =>
      cases ds with
      | nil => cases hk
      | cons q ds =>
        obtain ⟨h1, h2⟩ := List.cons.inj hk
        cases hr with
        | cons r1 rs =>
          obtain ⟨i1, i2⟩ := ih h2 rs
          simp only [List.map_cons]
          by_cases e : q.1 = k
          · have e' : p.1 = k := h1.trans e
            rw [if_pos e, if_pos e']
            exact ⟨by rw [i1]; exact congrArg (· :: _) h1, .cons r i2⟩
          · have e' : ¬ p.1 = k := fun z => e (h1.symm.trans z)
            rw [if_neg e, if_neg e']
            exact ⟨by rw [i1]; exact congrArg (· :: _) h1, .cons r1 i2⟩
  · rw [List.map_append, List.map_append, List.map_append, List.map_append]
    exact ⟨by rw [hk]; rfl, hr.append (.cons r .nil)⟩
theorem DGet.kf {H : Hp} {a : Addr} {o : Obj} {kvs : List (Key × V)} {k : Key} (e : H a = some (.frz o (.dK kvs))) : DGet H a (kV k) (valV kvs k) := .inl ⟨kvs, k, .inr ⟨o, e⟩, rfl, rfl⟩
def rdDGet : RD2 := fun x y Q => match x with
  | .dct kvs => ∃ k d, keyD y = some k ∧ valD kvs k = some d ∧ Q d
  | _ => False
theorem de_dget {k : Nat} {a b : Expr} {fa fb : DTE} (hr : ∀ j, RmG k (Xs j).A) (ha : DE Xs mg Wx a fa) (hb : DE Xs mg Wx b fb) (hs : NoSl b := by exact fun _ _ => rfl) : DE Xs mg Wx (.Subscript a b pos) (dOp rdDGet fa fb) := by
  obtain ⟨ta, a1, a2⟩ := ha
  obtain ⟨tb, b1, b2⟩ := hb
  refine ⟨tDGet ta tb, fun j => pe_dget (by have := (hr j).r.un; omega) (a1 j) (b1 j) hs, ?_⟩
  refine Cp.op (r := fun x y H Q => ∃ a v, x = .ref a ∧ DGet H a y (some v) ∧ Q v H) ?_ a2 b2
  intro W H x y dx dy Q Q' hh rx ry h q
  unfold rdDGet at h
  split at h
  · obtain ⟨k, d, h1, h2, h3⟩ := h
    cases rx with
    | dct ha hk rs =>
      have ey := keyD_v ry h1
      subst ey
      rcases val_rep (k := k) hk rs with ⟨z, _⟩ | ⟨v, d', z1, z2, z3⟩
      · rw [z] at h2
        cases h2
      · rw [z1] at h2
        cases h2
        refine ⟨_, v, rfl, ?_, q W H _ _ (Step.refl hh) z3 h3⟩
        rw [← z2]
        exact DGet.kf (hh.same _ _ ha)
  · exact h.elim
end
end FP
/-! FP18: dict comprehensions. -/
namespace FP
open PySem L2
variable [Tabl]
section
variable {ι : Type} {Xs : ι → Cx} {mg : Gm} {Wx : WX} {pos : Pos}
def dcD (body : D → (Option (Key × D) → Prop) → Prop) : List D → List (Key × D) → (List (Key × D) → Prop) → Prop
  | [], acc, Q => Q acc
  | d :: ds, acc, Q => body d fun o => match o with
    | some kv => dcD body ds (putKD acc kv.1 kv.2) Q
    | none => dcD body ds acc Q
abbrev dDc (w : DTI) (T : Tg) (ft : DTT) (fk fv : DTE) (vs : List Nat) : DTE := fun ρ Q E => w ρ (fun ds => ds.length ≤ sizeLine ∧ dcD (fun d k => ∃ ρ2, T.put d (wipeD ρ vs) = some ρ2 ∧ ft ρ2 (fun b => bit b
  (fk ρ2 (fun y => fv ρ2 (fun z => ∃ kk, keyD y = some kk ∧ k (some (kk, z))) F0) F0) (k none)) F0) ds [] fun kvs => Q (.dct kvs)) E
theorem putKD_len (kvs : List (Key × D)) (k : Key) (v : D) : (putKD kvs k v).length ≤ kvs.length + 1 := by
  unfold putKD
  split
  · rw [List.length_map]; omega
  · rw [List.length_append]; exact Nat.le_refl _
theorem Rep.newDct {W : Wd} {kvs : List (Key × V)} {ds : List (Key × D)} {p : Addr} {o : Obj} (hk : kvs.map (·.1) = ds.map (·.1)) (r : Reps mg W (kvs.map (·.2)) (ds.map (·.2))) (n : W.H p = none) : Rep mg (W.put p (.frz o (.dK kvs))) (.ref p) (.dct ds) :=
  .dct (show upd W.H p _ p = _ from upd_same) hk (r.mono (Wd.le_put n))
theorem len_keys {kvs : List (Key × V)} {ds : List (Key × D)} (h : kvs.map (·.1) = ds.map (·.1)) : kvs.length = ds.length := by
  have := congrArg List.length h
  simpa using this
theorem Cp.dc {wi : TI} {g : TG} {tt : TT} {tk tv : TE} {w : DTI} {T : Tg} {ft : DTT} {fk fv : DTE} {vs : List Nat} (hi : CpI mg Wx wi w) (hg : CpG mg g T) (hv : ∀ i ∈ T.slots, i ∈ vs) (ht : CpT mg Wx0 tt ft) (hk : Cp mg Wx0 tk fk) (he : Cp mg Wx0 tv fv) : Cp mg Wx (tLk (tDc wi g tt tk tv vs)) (dDc w T ft fk fv vs) := by
  intro B ρ Q E hf W σ H Q' hh e x q
  refine hi B ρ _ E hf W σ H _ hh e x fun W1 H1 J ds s1 wk k1 => ?_
  obtain ⟨hsz, k1⟩ := k1
  intro A hA
  have e1 := e.step s1
  refine ⟨fun i m H' => m = ds.length - i ∧ i ≤ ds.length ∧ ∃ W' us acc, Step W1 H1 W' H' ∧ H' A = some (.dK us) ∧ W'.H A = none ∧ ¬ W'.T A ∧ us.map (·.1) = acc.map (·.1) ∧ Reps mg W' (us.map (·.2)) (acc.map (·.2)) ∧ acc.length ≤ i ∧ dcD _ (ds.drop i) acc (fun kvs => Q (.dct kvs)),
    ⟨ds.length, by simp, Nat.zero_le _, W1, [], [], Step.lay s1.holds hA, upd_same, s1.holds.same.free hA, s1.holds.nT hA, rfl, .nil, Nat.le_refl _, k1⟩, ?_⟩
  rintro i m H' ⟨rfl, hi, W', us, acc, s', hL, nw, nt, ks, rs, la, k'⟩
  obtain ⟨go, stop, yld⟩ := wk W' H' s'.le s'.holds
  by_cases hlt : i < ds.length
  · refine .inr ⟨go i hlt, fun H2 => ∃ W2 us2 acc2, Step W1 H1 W2 H2 ∧ H2 A = some (.dK us2) ∧ W2.H A = none ∧ ¬ W2.T A ∧ us2.map (·.1) = acc2.map (·.1) ∧ Reps mg W2 (us2.map (·.2)) (acc2.map (·.2)) ∧ acc2.length ≤ i + 1 ∧ dcD _ (ds.drop (i + 1)) acc2 (fun kvs => Q (.dct kvs)), fun H2 q => ⟨ds.length - (i + 1), by omega, rfl, hlt, q⟩, fun y H2 hy => ?_⟩
    obtain ⟨W2, d, s2, hd, r⟩ := yld i y H2 hlt hy
    have ed : ds.drop i = d :: ds.drop (i + 1) := by
      rw [List.drop_eq_getElem_cons hlt]
      have := (List.getElem?_eq_some_iff.mp hd).2
      rw [this]
    rw [ed] at k'
    obtain ⟨ρ1, p1, k2⟩ := k'
    have sA : ∀ {Wa Wb : Wd} {Ha Hb : Hp} {ws : List (Key × V)}, Step Wa Ha Wb Hb → Ha A = some (.dK ws) → Wa.H A = none → ¬ Wa.T A → Hb A = some (.dK ws) ∧ Wb.H A = none ∧ ¬ Wb.T A := fun st a1 a2 a3 => ⟨st.keep A _ a1 a3, by rw [st.fresh A _ a1]; exact a2, fun t => by
      rcases st.freshT A t with t | t
      · exact a3 t
      · rw [a1] at t
        cases t⟩
    refine hg B W2 H2 y d _ _ ρ1 _ s2.holds r ((e1.step s').step s2 |>.wipe vs) p1 fun σ3 e3 w3 => ?_
    refine ⟨(w3 vs hv).trans (wipe_wipe σ vs), ?_⟩
    refine ht B ρ1 _ _ k2 W2 σ3 H2 _ s2.holds e3 ExR.f0 fun W3 H3 b s3 k3 => ?_
    obtain ⟨b1, b2, b3⟩ := sA (s2.trans s3) hL nw nt
    cases b with
    | true =>
      rw [if_pos rfl]
      refine hk B ρ1 _ _ k3 W3 σ3 H3 _ s3.holds (e3.step s3) ExR.f0 fun W4 H4 y dy s4 r4 k4 => ?_
      refine he B ρ1 _ _ k4 W4 σ3 H4 _ s4.holds ((e3.step s3).step s4) ExR.f0 fun W5 H5 z dz s5 r5 k5 => ?_
      obtain ⟨kk, h1, k6⟩ := k5
      have ey := keyD_v r4 h1
      subst ey
      obtain ⟨c1, c2, c3⟩ := sA (s4.trans s5) b1 b2 b3
      have s15 := (s'.trans s2).trans (s3.trans (s4.trans s5))
      have rs5 := rs.mono ((s2.trans s3).trans (s4.trans s5)).le
      obtain ⟨u1, u2⟩ := put_rep (k := kk) ks rs5 r5
      refine ⟨us, kk, rfl, c1, ?_, W5, putK us kk z, putKD acc kk dz, s15.own hA c1 c2 c3, upd_same, c2, c3, u1, u2, ?_, k6⟩
      · rw [len_keys ks]
        omega
      · have := putKD_len acc kk dz
        omega
    | false =>
      rw [if_neg Bool.false_ne_true]
      exact ⟨W3, us, acc, (s'.trans s2).trans s3, b1, b2, b3, ks, rs.mono (s2.trans s3).le, by omega, k3⟩
  · have ei : i = ds.length := by omega
    subst ei
    rw [List.drop_length] at k'
    exact .inl ⟨stop, A, _, rfl, hL, True.intro, fun od => q (W'.put A (.frz od (.dK us))) _ _ _ (s1.trans ((s'.own hA hL nw nt).taken hA upd_same nw nt)) (Rep.newDct ks rs nw) k'⟩
theorem de_dc {kx vx tg iter : Expr} {ifs : List Expr} {scope : Scope} {own : List (Str × Nat)} {w : DTI} {T : Tg} {ft : DTT} {fk fv : DTE} (hN : ∀ j, (Xs j).N.Nodup) (hi : DI Xs mg Wx tg iter w) (ok : ∀ j, BlkOk (Xs j).N (Xs j).env.scope scope own) (hg : DG (blkF Xs scope) mg tg T) (ht : DTs (blkF Xs scope) mg Wx0 ifs ft) (hk : DE (blkF Xs scope) mg Wx0 kx fk) (he : DE (blkF Xs scope) mg Wx0 vx fv)
    (hv : ∀ i ∈ T.slots, i ∈ own.map (·.2) := by decide) (hc : ∀ j, (Xs j).calm = true := by intro _; rfl) (hs : ∀ j x, foldedSetIterable iter (Xs j).env x = pure x := by intro _ _; rfl) : DE Xs mg Wx (.DictComp kx vx [⟨tg, iter, ifs, 0⟩] scope pos) (dDc w T ft fk fv (own.map (·.2))) := by
  obtain ⟨wi, i1, i2⟩ := hi
  obtain ⟨g, g1, g2⟩ := hg
  obtain ⟨tt, t1, t2⟩ := ht
  obtain ⟨tk, q1, q2⟩ := hk
  obtain ⟨te, e1, e2⟩ := he
  exact ⟨_, fun j => pe_lk (pe_dc (hc j) (hN j) (i1 j) (ok j) (fun s H C cl fp => g1 (j, s, H, C, cl, fp)) (fun s H C cl fp => t1 (j, s, H, C, cl, fp)) (fun s H C cl fp => q1 (j, s, H, C, cl, fp)) (fun s H C cl fp => e1 (j, s, H, C, cl, fp)) (hs j)), Cp.dc i2 g2 hv t2 q2 e2⟩
end
end FP
/-! FP19: for x in o, where o's class has an __iter__ that returns iter(self.f), f a tuple. -/
namespace FP
open PySem L2
end FP
/-! FP20: classes as values, classmethods, cls(..). -/
namespace FP
open PySem L2
variable [Tabl]
theorem goGc {X : Cx} {k : Nat} {f : Addr} {fd : FuncData} {ps : List Str} {sp : Sp} {Ex : XK} {pins : List (Addr × Obj)} {σ : St} {H : Hp} {z : Shared} {Q : VK} {us : List Value} {vs : List V} (F : FnG X.prog X.w X.K X.mg X.base k f fd ps sp) (m : RmG k X.A) (hb : Binds X.K fd ps []) (hx : PassesAt (L2.CX X.prog X.w) X σ Ex)
    (I : Inv X pins σ H z) (rv : Vals vs us) (h : sp vs H Q Ex) : codeAny (model X.prog X.w) X.A (.call (.ref f) ⟨us, []⟩) (fun r s' => match r with | .ok (.ret v) => EP X pins σ Q v s' | .ok _ => False | .error e => X.xe e s') z := by
  have hl : (us ++ []).length = ps.length := by
    rw [List.append_nil, ← rv.length]
    exact F.ln _ _ _ _ h
  have bd := hb z us I.kIn hl
  rw [List.append_nil] at bd
  have cd := F.go X.A X.stack z H ⟨us, []⟩ us vs Q Ex m I.env0 bd rv h
  refine codeAny_mono cd ?_
  intro res z' hq
  match res, hq with
  | .error e, hq => exact hx pins H z e z' I hq
  | .ok (.ret u), hq => exact I.after hq
  | .ok .next, hq => exact hq.elim
  | .ok .brk, hq => exact hq.elim
  | .ok .cont, hq => exact hq.elim
section
variable {ι : Type} {Xs : ι → Cx} {mg : Gm} {Wx : WX} {pos : Pos}
structure CMethOk (P : Program) (w : World) (mg : Gm) (base : Heap) (k : Nat) (C : Addr) (m : Str) (n : Nat) (f : List D → M D) : Prop where
  ex : ∃ mc p g fd ps, ClX.CRead mg.K C mc ∧ ClX.CMet mg.K C mc m p g ∧ Binds mg.K fd ps [] ∧ ps.length = n ∧ FnG P w mg.K mg.mg base k g fd ps (spD mg n f)
theorem mkCMeth {P : Program} {w : World} {base : Heap} {C : Addr} {m qual : Str} {st : Stmt} {N ps : List Str} {k : Nat} {f : List D → M D} (d : ∃ mc p fa fd, ClX.CRead mg.K C mc ∧ ClX.CMet mg.K C mc m p fa ∧ Fun mg.K m qual st fa fd) (S : FnScope N ps (defScope st))
    (hb : ∀ (kV doc pm : Value) (an : Option Addr) (cdv ct : Value) (us : List Value), us.length = ps.length → bindArgs (PySem.W.fnOf m qual (defArgs st) (defBody st) (defScope st) .none kV doc pm an cdv ct) ⟨us, []⟩ = pure (ps.zip us))
    (h : ∀ (fa : Addr) (cdv : Value) (A : Around) (outer : List PySem.Env) (s : Shared) (H : Hp) (E : XK), RmG k (A.deeper (PyProof.Rows.envOfC qual (defScope st) s.heap.objs.size fa cdv)) →
      ∃ g, DSs (fun _ : Unit => cxOf (L2.CX P w) P w mg.K mg.mg base N qual (defScope st) fa cdv A outer s H E) mg (fun cls d _ H' => E cls d H') (defBody st) g ∧
        ∀ ds Q Ex, ds.length = ps.length → f ds Q Ex → g ⟨fun _ => Q .non, fun d _ => Q d, fun _ => False, fun _ => False, fun x _ => Ex x⟩ (startD N.length ds)) :
    CMethOk P w mg base (k + 1) C m ps.length f := by
  obtain ⟨mc, p, fa, fd, h1, h2, F⟩ := d
  exact ⟨mc, p, fa, fd, ps, h1, h2, F.binds hb, rfl, def_ok F S (h fa)⟩
abbrev dCMeth (c : Str) (f : List D → M D) (n : Nat) (g : DTA) : DTE := fun ρ Q E => g ρ (fun ds => ds.length + 1 = n ∧ f (.cl c :: ds) Q E) E
theorem de_cmeth {P : Program} {w : World} {base : Heap} {k n : Nat} {c m : Str} {C : Addr} {f : List D → M D} {p apos : Pos} {e : Expr} {es : List Expr} {g : DTA} {pl : ι → Sem Bool} (Fc : ClsF mg c C) (F : CMethOk P w mg base k C m n f) (hr : ∀ i, RmG k (Xs i).A) (tk : ∀ i, Pas (Xs i) Wx) (ha : DA Xs mg Wx (e :: es) g)
    (hP : HPs Xs P w mg base := by intro _; exact ⟨rfl, rfl, rfl, rfl, rfl⟩) (hg : ∀ j, Gl (Xs j) c := by intro _; rfl) (hd : (c == ("__debug__" : Str)) = false := by decide)
    (he : ∀ i, starEach (e :: es) (Xs i).env = (false, eval e (Xs i).env) :: starEach es (Xs i).env := by intro _; rfl) (hpl : ∀ i, (backTo pos (starEach es (Xs i).env)).any (·.1) = false := by intro _; rfl)
    (ht : ∀ i, eval (.Call (.Attribute (.Name c p) m apos) (e :: es) [] pos) (Xs i).env = (do
      let ov ← eval (.Name c p) (Xs i).env
      standAt apos.atName
      let (f, first) ← holding [ov] (getMethod ov m (pl i))
      callWith pos f first (backTo pos (starEach (e :: es) (Xs i).env)) (backToKw pos (keywordEach [] (Xs i).env))) := by intro _; rfl) : DE Xs mg Wx (.Call (.Attribute (.Name c p) m apos) (e :: es) [] pos) (dCMeth c f n g) := by
  obtain ⟨mc, p1, ga, fd, ps, hrd, hcm, hb, hl, G⟩ := F.ex
  obtain ⟨t, h1, h2⟩ := ha
  refine ⟨fun σ H Q => t σ H fun vs H1 => spD mg n f (.ref C :: vs) H1 Q (WE Wx σ), fun i => ?_, ?_⟩
  · obtain ⟨e1, e2, e3, e4, e5⟩ := hP i
    subst e1 e2 e5
    refine ⟨fun pins s σ H Q I h => ?_⟩
    refine PySem.W.methodCall_KW (pl := pl i) (ld_glob I (hg i) (by rw [e4]; exact Fc.nm) ?_ hd) (ht i)
    refine ClX.getmethcm_ok I (by rw [e3]; exact hrd) (by rw [e3]; exact hcm) fun s2 I2 => ?_
    refine ClX.callwith_cm I2 (ClX.base_none I (Nat.le_refl _)) (by rw [e3]; exact hcm.fi) (thn ((h1 i).run pos _ s2 σ H _ I2 h) fun us s3 ⟨vs, H2, I3, rv, q2⟩ => ⟨⟨ClX.pin_at I3, I3.kIn⟩, ?_⟩) (he i) (hpl i)
    have z := wpAny_call (PySem.W.method_call (ClX.pin_at I3) (goGc (us := .ref C :: us) (vs := .ref C :: vs) (by rw [e3, e4]; exact G) (hr i) (by rw [e3]; exact hb) (tk i σ) I3 (.cons rfl rv) q2))
    exact thn z fun _ _ y => ClX.unpinE y
  · intro B ρ Q E hf W σ H Q' hh e x q
    refine h2 B ρ _ E hf W σ H _ hh e x fun W1 H1 vs ds s1 r1 k1 => ?_
    exact ⟨W1, _, Q, E, s1.holds, .cons (.cl Fc.nm) r1, k1.1, k1.2, ToV.step q s1, fun W' H' cls dd y s' r h => x W' H' cls dd y (s1.trans s') r h⟩
/-- cls(..), the class in a local name -/
abbrev dMakeV (i : Nat) (c : Str) (f : List D → ((List (Str × D)) → Prop) → (XD → Prop) → Prop) (n : Nat) (g : DTA) : DTE := fun ρ Q E => ρ[i]? = some (.d (.cl c)) ∧ g ρ (fun ds => ds.length = n ∧ f ds (fun fs => Q (.ins c fs)) E) E
theorem de_makeV (i0 : Nat) {P : Program} {w : World} {base : Heap} {k n : Nat} {c x : Str} {C : Addr} {f : List D → ((List (Str × D)) → Prop) → (XD → Prop) → Prop} {p : Pos} {e : Expr} {es : List Expr} {g : DTA} (Fc : ClsF mg c C) (F : InitOk P w mg base k c C n f) (hr : ∀ i, RmG (k + 1) (Xs i).A) (tk : ∀ i, Pas (Xs i) Wx) (ha : DA Xs mg Wx (e :: es) g)
    (hP : HPs Xs P w mg base := by intro _; exact ⟨rfl, rfl, rfl, rfl, rfl⟩) (hN : ∀ j, (Xs j).N[i0]? = some x := by intro _; rfl)
    (hv : ∀ j, Vis (Xs j).env.scope x := by intro _; first | exact Or.inl rfl | exact Or.inr (Or.inl rfl) | exact Or.inr (Or.inr rfl)) (hd : (x == ("__debug__" : Str)) = false := by decide) (hcd : (x == ("__classdict__" : Str)) = false := by decide)
    (he : ∀ i, starEach (e :: es) (Xs i).env = (false, eval e (Xs i).env) :: starEach es (Xs i).env := by intro _; rfl) (hpl : ∀ i, (backTo pos (starEach es (Xs i).env)).any (·.1) = false := by intro _; rfl) : DE Xs mg Wx (.Call (.Name x p) (e :: es) [] pos) (dMakeV i0 c f n g) := by
  obtain ⟨fa, fd, ps, M, hb, hl, G⟩ := F.ex
  obtain ⟨t, h1, h2⟩ := ha
  refine ⟨fun σ H Q => σ[i0]? = some (some (.ref C)) ∧ t σ H fun vs H1 => ∀ x dx, H1 x = none → H1 dx = none → dx ≠ x → spI mg c C n f (.ref x :: vs) (upd (upd H1 dx (.own x)) x (.ins C dx [])) (fun v H2 => v = .non ∧ Q (.ref x) H2) (WE Wx σ), fun i => ?_, ?_⟩
  · obtain ⟨p1, p2, p3, p4, p5⟩ := hP i
    subst p1 p2 p5
    constructor
    intro pins z σ H Q I hw
    obtain ⟨hs, hw⟩ := hw
    refine wpAny_Call_Name_kw (thn ((pe_var (pos := p) (i := i0) (hN i) (hv i) hd hcd).run pins z σ H (fun v H1 => v = .ref C ∧ H1 = H) I ⟨.ref C, hs, rfl, rfl⟩) fun u s1 ⟨v, H1, I1, r1, ev, eH⟩ => ?_)
    subst ev
    rw [eH] at I1
    cases r1
    apply PySem.W.callWith_K (h₀ := (Xs i).base) I.ok.mod.kin (by rw [p3]; exact M.kp) _ (he i) (hpl i)
    refine thn ((h1 i).run pos pins s1 σ H _ I1 hw) ?_
    rintro us z1 ⟨vs, H2, I2, rv, q⟩
    exact ⟨I2.kIn, makeG (by rw [p3]; exact M) (by rw [p3, p4]; exact G) (hr i) (by rw [p3]; exact hb) (tk i σ) I2 rv q⟩
  · intro B ρ Q E hf W σ H Q' hh e x q
    obtain ⟨hs, hf⟩ := hf
    obtain ⟨o, g1, v, g2, g3⟩ := e.sl i0 _ hs
    subst g2
    cases g3 with
    | @cl C' _ hc =>
      have ec := Fc.eq hc
      subst ec
      refine ⟨g1, h2 B ρ _ E hf W σ H _ hh e x fun W1 H1 vs ds s1 r1 k1 => ?_⟩
      intro a dx na ndx ne
      refine ⟨W1, ds, vs, H1, a, dx, _, E, rfl, na, ndx, ne, rfl, s1.holds, r1, k1.1, k1.2, fun W' H' gs fs dy s' ha' nw nt hk rs hq => ⟨rfl, ?_⟩, fun W' H' cls dd y s' r h => x W' H' cls dd y (s1.trans s') r h⟩
      have st := s'.taken na ha' nw nt
      exact q _ _ _ _ (s1.trans st) (.ins Fc.nm (show upd W'.H a _ a = _ from upd_same) hk (rs.mono (Wd.le_put nw))) hq
end
end FP
/-! FP21: raise X('..'); try .. except X. -/
namespace FP
open PySem L2
variable [Tabl]
section
variable {ι : Type} {Xs : ι → Cx} {mg : Gm} {Wx : WX} {pos : Pos}
abbrev dRaise (x : Str) : DTS := fun N ρ => N.rs ⟨x, []⟩ ρ
/-- an own exception without own __init__ -/
structure ExcF (mg : Gm) (x : Str) (C : Addr) (bmB : List Value) (newId : String) : Prop where
  nm : mg.mg x = some (.ref C)
  ei : PySem.W.excIn mg.K C bmB newId = true
  kp : PySem.W.keepIn mg.K (.ref C) = true
  sb : PySem.W.subIn mg.K (.ref C) (.type "BaseException") = some true
  ty : PySem.W.typeIn mg.K (.ref C) = some (.type "type")
theorem ds_raise {x m : Str} {C : Addr} {bmB : List Value} {B newId initId : String} {j : Nat} {p p2 q : Pos} (F : ExcBaseFacts B newId initId bmB) (X : ExcF mg x C bmB newId) (tk : ∀ i, Takes (Xs i) Wx) (hK : ∀ j, (Xs j).K = mg.K := by intro _; rfl) (hM : ∀ j, (Xs j).mg = mg.mg := by intro _; rfl)
    (hc : ∀ j, (Xs j).calm = true := by intro _; rfl) (hg : ∀ j, Gl (Xs j) x := by intro _; rfl) (hdb : (x == ("__debug__" : Str)) = false := by decide) : DS Xs mg Wx (.Raise (some (.Call (.Name x p) [.Constant (.str m) j p2] [] q)) none pos) (dRaise x) := by
  refine ⟨fun _ σ H => Wx (.ref C) none σ H, fun i => ?_, fun W0 B N ρ hf W σ H Ds s e n => ?_⟩
  · have z := ps_raise (pos := pos) (hc i) (tk i) (pmk_own (m := m) (j := j) (p := p) (p2 := p2) (pos := q) (X := Xs i) F (by rw [hK i]; exact X.ei) (by rw [hM i]; exact X.nm) (by rw [hK i]; exact X.kp) (raises_own (by rw [hK i]; exact X.sb) (by rw [hK i]; exact X.ty)) (hg i) hdb)
    exact z
  · exact n.rs W H σ ρ _ _ _ s e ⟨C, X.nm, rfl, .inl ⟨rfl, rfl⟩⟩ hf
/-- which of the errors cs the clause takes -/
structure CatF (mg : Gm) (c : Value) (cs : List Str) (yes : Str → Bool) : Prop where
  cl : ∀ x ∈ cs, ∃ C, mg.mg x = some (.ref C) ∧ PySem.W.exmOne mg.K (.ref C) c = some (yes x)
abbrev trI (Xs : ι → Cx) (W : WX) : Type := { j : ι × List (Addr × Obj) × (Value → Shared → Prop) // Takes ((Xs j.1).tr j.2.1 j.2.2) W ∧ PassesOwn (model (Xs j.1).prog (Xs j.1).w) (Xs j.1).A (Xs j.1).env j.2.2 }
abbrev trF (Xs : ι → Cx) (W : WX) : trI Xs W → Cx := fun j => (Xs j.1.1).tr j.1.2.1 j.1.2.2
abbrev suI (ι : Type) : Type := { j : ι × Addr × Obj × List (Addr × Obj) // ∃ vs, j.2.2.1.data = .fields vs }
abbrev suF (Xs : ι → Cx) : suI ι → Cx := fun j => (Xs j.1.1).suite j.1.2.1 ((j.1.2.1, j.1.2.2.1) :: j.1.2.2.2)
abbrev dTry (cs : List Str) (yes : Str → Bool) (fb fs : DTS) : DTS := fun N ρ => fb { N with rs := fun x ρ' => x.cls ∈ cs ∧ bit (yes x.cls) (fs { N with rs := fun _ _ => False } ρ') (N.rs x ρ') } ρ
theorem ds_try {x : Str} {c : Value} {cs : List Str} {yes : Str → Bool} {body suite : List Stmt} {b₀ : Stmt} {np pos' : Pos} {fb fs : DTS} (hnm : ∀ j, Names (Xs j) x c) (K : CatF mg c cs yes) (tk : ∀ i, Takes (Xs i) Wx)
    (hb : ∀ W : WX, DSs (trF Xs W) mg W body fb) (hsu : DSs (suF Xs) mg Wx0 (b₀ :: suite) fs) (hK : ∀ j, (Xs j).K = mg.K := by intro _; rfl) (hs : ∀ j, (Xs j).stack = (Xs j).env :: (Xs j).outer := by intro _; rfl) (hf : ∀ j, (Xs j).env.frame = some (Xs j).env.locals := by intro _; rfl) :
    DS Xs mg Wx (.Try body [.ExceptHandler (some (.Name x np)) none (b₀ :: suite) pos'] [] [] pos) (dTry cs yes fb fs) := by
  obtain ⟨ts, s1, s2⟩ := hsu
  have hbt : ∃ tb : WX → TS, (∀ W, ∀ i, PSs (trF Xs W i) body (tb W)) ∧ ∀ W, CpS mg W (tb W) fb := by
    refine ⟨fun W => (hb W).choose, fun W => (hb W).choose_spec.1, fun W => (hb W).choose_spec.2⟩
  obtain ⟨tb, b1, b2⟩ := hbt
  refine ⟨fun D σ H => tb (wOnly mg.K c (fun _ _ _ => ts) Wx D) D σ H, fun i => ?_, fun W0 B N ρ hf W σ H Ds s e n => ?_⟩
  · have z := ps_try_only (X := Xs i) (np := np) (pos := pos) (pos' := pos') (tb := tb) (ts := fun _ _ _ => ts) (Wout := Wx) (hs i) (hf i) (hnm i) (tk i) (fun W pn xe h1 h2 => b1 W ⟨(i, pn, xe), h1, h2⟩) (fun a oe cls d pn _ hv => s1 ⟨(i, a, oe, pn), hv⟩)
    rw [hK i] at z
    exact z
  · refine b2 _ W0 B _ ρ hf W σ H Ds s e ⟨n.nx, n.rt, n.bk, n.ct, fun W' H' σ' ρ' cls dd y s' e' r k => ?_⟩
    obtain ⟨hm, k⟩ := k
    obtain ⟨C, hC, hy⟩ := K.cl _ hm
    obtain ⟨C', h1, h2, h3⟩ := id r
    rw [hC] at h1
    cases h1
    subst h2
    refine ⟨_, hy, fun hb a ha => ?_, fun hb => ?_⟩
    · rw [hb] at k
      exact s2 W0 B _ ρ' k W' σ' H' Ds s' e' ⟨n.nx, n.rt, n.bk, n.ct, fun _ _ _ _ _ _ _ _ _ _ k => k⟩
    · rw [hb] at k
      exact n.rs W' H' σ' ρ' _ _ _ s' e' r k
end
end FP
/-! FP22: owned objects: a pure expression reads one as data (view). -/
namespace FP
open PySem L2
variable [Tabl]
def OF.toD : OF → D
  | .d x => x
  | .l xs => .lst xs
  | .ll xss => .lst (xss.map .lst)
def toDs (fs : List (Str × OF)) : List (Str × D) := fs.map fun p => (p.1, p.2.toD)
def plainD : D → Bool
  | .non => true
  | .bl _ => true
  | .int _ => true
  | .str _ => true
  | _ => false
theorem Rep.flat {mg : Gm} {W W' : Wd} {v : V} {d : D} (r : Rep mg W v d) (h : plainD d = true) : Rep mg W' v d := by
  cases r with
  | non => exact .non
  | bl b => exact .bl b
  | int b => exact .int b
  | str b => exact .str b
  | _ => cases h
/-- the world with some addresses as they stand -/
def Wd.seen (W : Wd) (H : Hp) (as : List Addr) : Wd := { W with H := fun b => if b ∈ as then H b else W.H b }
def Wd.cut (W : Wd) (as : List Addr) : Wd := { W with H := fun b => if b ∈ as then none else W.H b }
section
variable {mg : Gm} {B : Hp} {W W' : Wd} {H H' : Hp} {σ : St} {ρ : Env} {as : List Addr}
theorem seen_le (k : ∀ b ∈ as, W.H b = none) : Le W (W.seen H as) := ⟨fun b o e => by
  show (if b ∈ as then H b else W.H b) = some o
  by_cases q : b ∈ as
  · rw [k b q] at e
    cases e
  · rw [if_neg q]
    exact e, fun _ t => t, fun _ t => t⟩
theorem seen_holds (h : Holds W H) (k : ∀ b ∈ as, ¬ W.T b) : Holds (W.seen H as) H := ⟨fun b o e => by
  have e : (if b ∈ as then H b else W.H b) = some o := e
  by_cases q : b ∈ as
  · rw [if_pos q] at e
    exact e
  · rw [if_neg q] at e
    exact h.same b o e, fun a t => by
  obtain ⟨h1, h2⟩ := h.exm a t
  refine ⟨?_, h2⟩
  show (if a ∈ as then H a else W.H a) = none
  rw [if_neg fun q => k a q t]
  exact h1, h.tok, h.tab, h.all⟩
theorem seen_step {W1 : Wd} {H1 : Hp} (s : Step (W.seen H as) H W1 H1) (k : ∀ b ∈ as, W.H b = none) : Step W H (W1.cut as) H1 := by
  refine ⟨⟨fun b o e => ?_, s.le.t, s.le.dc⟩, ⟨fun b o e => ?_, fun a t => ?_, s.holds.tok, s.holds.tab, s.holds.all⟩, s.keep, fun b o e => ?_, s.freshT, s.live⟩
  · show (if b ∈ as then none else W1.H b) = some o
    have q : b ∉ as := fun q => by rw [k b q] at e; cases e
    rw [if_neg q]
    exact s.le.h b o ((seen_le k).h b o e)
  · have e : (if b ∈ as then none else W1.H b) = some o := e
    by_cases q : b ∈ as
    · rw [if_pos q] at e
      cases e
    · rw [if_neg q] at e
      exact s.holds.same b o e
  · obtain ⟨h1, h2⟩ := s.holds.exm a t
    refine ⟨?_, h2⟩
    show (if a ∈ as then none else W1.H a) = none
    by_cases q : a ∈ as
    · rw [if_pos q]
    · rw [if_neg q]
      exact h1
  · show (if b ∈ as then none else W1.H b) = W.H b
    by_cases q : b ∈ as
    · rw [if_pos q, k b q]
    · rw [if_neg q, s.fresh b o e]
      show (if b ∈ as then H b else W.H b) = W.H b
      rw [if_neg q]
theorem seen_in {b : Addr} (h : b ∈ as) : (W.seen H as).H b = H b := if_pos h
theorem Reps.lsts {W : Wd} : ∀ {Ls : List Addr} {xss : List (List D)}, Ls.length = xss.length → (∀ (i : Nat) (l : Addr) (xs : List D), Ls[i]? = some l → xss[i]? = some xs → ∃ vs, W.H l = some (.lst vs) ∧ Reps mg W vs xs) → Reps mg W (Ls.map V.ref) (xss.map D.lst)
  | [], [], _, _ => .nil
  | L :: Ls, xs :: xss, hl, h => by
    obtain ⟨vs, h1, h2⟩ := h 0 L xs rfl rfl
    exact .cons (.lst h1 h2) (Reps.lsts (by simpa using hl) fun i l ys q1 q2 => h (i + 1) l ys q1 q2)
  | [], _ :: _, hl, _ => by cases hl
  | _ :: _, [], hl, _ => by cases hl
theorem OFR.rep {v : V} {x : OF} {bs : List Addr} (h : OFR mg W H v x bs) (l : Le W (W.seen H as)) (k : ∀ b ∈ bs, b ∈ as) : Rep mg (W.seen H as) v x.toD := by
  cases x with
  | d x => exact h.2.mono l
  | l xs =>
    obtain ⟨L, vs, rfl, rfl, h3, h4⟩ := h
    exact .lst (by rw [seen_in (k L (by simp))]; exact h3) (h4.mono l)
  | ll xss =>
    obtain ⟨L, Ls, rfl, rfl, h3, h4, h5⟩ := h
    refine .lst (by rw [seen_in (k L (by simp))]; exact h3) (Reps.lsts h4 fun i b xs q1 q2 => ?_)
    obtain ⟨vs, g1, g2⟩ := h5 i b xs q1 q2
    exact ⟨vs, by rw [seen_in (k b (List.mem_cons_of_mem _ (List.mem_of_getElem? q1)))]; exact g1, g2.mono l⟩
theorem OFs.rep (l : Le W (W.seen H as)) : ∀ {vs : List (Str × V)} {fs : List (Str × OF)} {bs : List Addr}, OFs mg W H vs fs bs → (∀ b ∈ bs, b ∈ as) → vs.map (·.1) = (toDs fs).map (·.1) ∧ Reps mg (W.seen H as) (vs.map (·.2)) ((toDs fs).map (·.2))
  | [], [], _, _, _ => ⟨rfl, .nil⟩
  | (f, v) :: vs, (g, x) :: fs, _, ⟨e, as1, as2, rfl, h1, h2⟩, k => by
    obtain ⟨i1, i2⟩ := OFs.rep l h2 fun b hb => k b (List.mem_append_right _ hb)
    refine ⟨?_, .cons (h1.rep l fun b hb => k b (List.mem_append_left _ hb)) i2⟩
    show f :: vs.map (·.1) = g :: (toDs fs).map (·.1)
    rw [e, i1]
  | [], _ :: _, _, h, _ => h.elim
  | _ :: _, [], _, h, _ => h.elim
/-- the environment seen -/
theorem EnvR.seen (e : EnvR mg B W H σ ρ) {i : Nat} {c : Str} {fs : List (Str × OF)} (hi : ρ[i]? = some (.ow c as fs)) :
    (∀ b ∈ as, W.H b = none ∧ ¬ W.T b) ∧ EnvR mg B (W.seen H as) H σ (ρ.set i (.d (.ins c (toDs fs)))) := by
  obtain ⟨o, h1, a, as', vs, ea, ho, ⟨C, dx, hc, h2⟩, h3, h4, h5⟩ := e.sl i _ hi
  have k : ∀ b ∈ as, W.H b = none ∧ ¬ W.T b := fun b hb => ⟨(h5 b hb).2.1, (h5 b hb).2.2.1⟩
  have l := seen_le (W := W) (H := H) fun b hb => (k b hb).1
  refine ⟨k, by simpa using e.len, fun j sl hj => ?_, fun j m s1 s2 o1 o2 b hjk q1 q2 q3 q4 m1 m2 => ?_⟩
  · rcases get_set hj with ⟨rfl, rfl⟩ | ⟨nj, hj⟩
    · obtain ⟨g1, g2⟩ := OFs.rep (as := as) l h3 fun b hb => by rw [ea]; exact List.mem_cons_of_mem _ hb
      exact ⟨o, h1, _, ho, .ins hc (by rw [seen_in (by rw [ea]; exact List.mem_cons_self)]; exact h2) g1 g2⟩
    · obtain ⟨o', g1, g2⟩ := e.sl j sl hj
      refine ⟨o', g1, g2.keep l fun b hb u h5 h6 h7 => ⟨h5, ?_, h7⟩⟩
      show (if b ∈ as then H b else W.H b) = none
      have nb : b ∉ as := fun q => e.dis i j _ sl o o' b nj hi hj h1 g1 q hb
      rw [if_neg nb]
      exact h6
  · rcases get_set q1 with ⟨_, z⟩ | ⟨n1, q1⟩
    · rw [← z] at m1
      cases m1
    · rcases get_set q2 with ⟨_, z⟩ | ⟨n2, q2⟩
      · rw [← z] at m2
        cases m2
      · exact e.dis j m s1 s2 o1 o2 b hjk q1 q2 q3 q4 m1 m2
end
section
variable {ι : Type} {Xs : ι → Cx} {mg : Gm} {Wx : WX} {pos : Pos}
abbrev dView (i : Nat) (f : DTE) : DTE := fun ρ Q _ => match ρ[i]? with
  | some (.ow c _ fs) => f (ρ.set i (.d (.ins c (toDs fs)))) (fun d => plainD d = true ∧ Q d) F0
  | _ => False
abbrev dViewT (i : Nat) (f : DTT) : DTT := fun ρ Q _ => match ρ[i]? with
  | some (.ow c _ fs) => f (ρ.set i (.d (.ins c (toDs fs)))) Q F0
  | _ => False
theorem de_view (i : Nat) {e : Expr} {f : DTE} (h : DE Xs mg Wx e f) : DE Xs mg Wx e (dView i f) := by
  obtain ⟨t, h1, h2⟩ := h
  refine ⟨t, h1, fun B ρ Q E hf W σ H Q' hh e x q => ?_⟩
  unfold dView at hf
  split at hf
  · rename_i c as fs hi
    obtain ⟨k, e1⟩ := e.seen hi
    refine h2 B _ _ _ hf _ σ H _ (seen_holds hh fun b hb => (k b hb).2) e1 ExR.f0 fun W1 H1 v d s1 r1 k1 => ?_
    exact q _ H1 v d (seen_step s1 fun b hb => (k b hb).1) (r1.flat k1.1) k1.2
  · exact hf.elim
theorem dt_view (i : Nat) {e : Expr} {f : DTT} (h : DT Xs mg Wx e f) : DT Xs mg Wx e (dViewT i f) := by
  obtain ⟨t, h1, h2⟩ := h
  refine ⟨t, h1, fun B ρ Q E hf W σ H Q' hh e x q => ?_⟩
  unfold dViewT at hf
  split at hf
  · rename_i c as fs hi
    obtain ⟨k, e1⟩ := e.seen hi
    refine h2 B _ _ _ hf _ σ H _ (seen_holds hh fun b hb => (k b hb).2) e1 ExR.f0 fun W1 H1 b s1 k1 => ?_
    exact q _ H1 b (seen_step s1 fun b hb => (k b hb).1) k1
  · exact hf.elim
end
end FP
/-! FP23: owned objects: what changes them. -/
namespace FP
open PySem L2
variable [Tabl]
def putO (f : Str) (x : OF) : List (Str × OF) → List (Str × OF)
  | [] => []
  | (g, y) :: r => if f == g then (g, x) :: r else (g, y) :: putO f x r
section
variable {mg : Gm} {B : Hp} {W : Wd} {H : Hp} {σ : St} {ρ : Env} {as : List Addr}
/-- a field is found; another thing is put in its place, its address kept -/
theorem OFs.get {f : Str} {x : OF} : ∀ {vs : List (Str × V)} {fs : List (Str × OF)} {as : List Addr}, OFs mg W H vs fs as → fs.lookup f = some x → as.Nodup →
    ∃ v pre bs post, vs.lookup f = some v ∧ as = pre ++ (bs ++ post) ∧ OFR mg W H v x bs ∧
      ∀ x' bs' H', (∀ b u, H b = some u → b ∉ bs → H' b = some u) → OFR mg W H' v x' bs' → OFs mg W H' vs (putO f x' fs) (pre ++ (bs' ++ post))
  | [], [], _, _, hl, _ => by cases hl
  | (g, v) :: vs, (g', y) :: fs, as, ⟨e, as1, as2, ea, h1, h2⟩, hl, nd => by
    subst e
    rw [List.lookup_cons] at hl
    rw [List.lookup_cons]
    rw [ea] at nd
    by_cases q : (f == g) = true
    · rw [q] at hl ⊢
      cases hl
      refine ⟨v, [], as1, as2, rfl, ea, h1, fun x' bs' H' hH r => ?_⟩
      have ep : putO f x' ((g, x) :: fs) = (g, x') :: fs := by
        show (if (f == g) = true then _ else _) = _
        rw [if_pos q]
      rw [ep]
      refine ⟨rfl, bs', as2, rfl, r, h2.keep (Le.refl W) fun b hb u hu => hH b u hu fun z => ?_⟩
      exact (List.nodup_append.mp nd).2.2 b z b hb rfl
    · have q : (f == g) = false := by simpa using q
      rw [q] at hl ⊢
      obtain ⟨w, pre, bs, post, g1, g2, g3, g4⟩ := OFs.get h2 hl (List.nodup_append.mp nd).2.1
      refine ⟨w, as1 ++ pre, bs, post, g1, by rw [ea, g2, List.append_assoc], g3, fun x' bs' H' hH r => ?_⟩
      have ep : putO f x' ((g, y) :: fs) = (g, y) :: putO f x' fs := by
        show (if (f == g) = true then _ else _) = _
        rw [q, if_neg Bool.false_ne_true]
      rw [ep, List.append_assoc]
      refine ⟨rfl, as1, _, rfl, h1.keep (Le.refl W) fun b hb u hu => hH b u hu fun z => ?_, g4 x' bs' H' hH r⟩
      exact (List.nodup_append.mp nd).2.2 b hb b (by rw [g2]; exact List.mem_append_right _ (List.mem_append_left _ z)) rfl
  | [], _ :: _, _, h, _, _ => h.elim
  | _ :: _, [], _, h, _, _ => h.elim
/-- an owned object's field, and how it may be changed -/
theorem EnvR.field (e : EnvR mg B W H σ ρ) (hh : Holds W H) {i : Nat} {c f : Str} {fs : List (Str × OF)} {x : OF} (hi : ρ[i]? = some (.ow c as fs)) (hf : fs.lookup f = some x) :
    ∃ a C dx vs v pre bs post, σ[i]? = some (some (.ref a)) ∧ mg.mg c = some (.ref C) ∧ H a = some (.ins C dx vs) ∧ vs.lookup f = some v ∧ as = a :: (pre ++ (bs ++ post)) ∧ OFR mg W H v x bs ∧ a ∉ bs ∧ (∀ b ∈ bs, (∃ u, H b = some u) ∧ W.H b = none ∧ ¬ W.T b ∧ B b = none) ∧
      ∀ x' bs' H', (∀ b u, H b = some u → b ∉ bs → H' b = some u) → (∀ b ∈ bs', (∃ u, H' b = some u) ∧ (b ∈ bs ∨ H b = none ∧ B b = none)) → bs'.Nodup → OFR mg W H' v x' bs' →
        EnvR mg B W H' σ (ρ.set i (.ow c (a :: (pre ++ (bs' ++ post))) (putO f x' fs))) := by
  obtain ⟨o, h1, a, as', vs, ea, ho, ⟨C, dx, hc, h2⟩, h3, h4, h5⟩ := e.sl i _ hi
  subst ho
  have nd : as'.Nodup := by rw [ea] at h4; exact (List.nodup_cons.mp h4).2
  have na : a ∉ as' := by rw [ea] at h4; exact (List.nodup_cons.mp h4).1
  obtain ⟨v, pre, bs, post, g1, g2, g3, g4⟩ := OFs.get h3 hf nd
  have inA : ∀ b ∈ pre ++ (bs ++ post), b ∈ as := fun b hb => by rw [ea, g2]; exact List.mem_cons_of_mem _ hb
  have nab : a ∉ bs := fun z => na (by rw [g2]; exact List.mem_append_right _ (List.mem_append_left _ z))
  refine ⟨a, C, dx, vs, v, pre, bs, post, h1, hc, h2, g1, by rw [ea, g2], g3, nab, fun b hb => h5 b (inA b (List.mem_append_right _ (List.mem_append_left _ hb))), fun x' bs' H' hH hb' nd' r => ?_⟩
  rw [g2] at nd na
  obtain ⟨n1, n2, n3⟩ := List.nodup_append.mp nd
  obtain ⟨n4, n5, n6⟩ := List.nodup_append.mp n2
  have mem : ∀ b, b ∈ pre ++ (bs' ++ post) → b ∈ pre ∨ b ∈ bs' ∨ b ∈ post := fun b hb => by
    rcases List.mem_append.mp hb with z | z
    · exact .inl z
    · exact .inr (List.mem_append.mp z)
  have old : ∀ b, b ∈ pre ∨ b ∈ post → b ∈ as ∧ b ∉ bs := fun b hb => by
    rcases hb with z | z
    · exact ⟨inA b (List.mem_append_left _ z), fun y => n3 b z b (List.mem_append_left _ y) rfl⟩
    · exact ⟨inA b (List.mem_append_right _ (List.mem_append_right _ z)), fun y => n6 b y b z rfl⟩
  have dis' : ∀ b, b ∈ bs' → b ∈ as → b ∈ bs := fun b hb ha => by
    rcases (hb' b hb).2 with z | z
    · exact z
    · obtain ⟨⟨u, hu⟩, _⟩ := h5 b ha
      rw [z.1] at hu
      cases hu
  have aas : a ∈ as := by rw [ea]; exact List.mem_cons_self
  have keepA : ∀ b, b ∈ as → b ∉ bs → ∃ u, H' b = some u := fun b hb nb => by
    obtain ⟨⟨u, hu⟩, _⟩ := h5 b hb
    exact ⟨u, hH b u hu nb⟩
  refine e.turns hi h1 (fun b u hu nb => hH b u hu fun z => nb (inA b (List.mem_append_right _ (List.mem_append_left _ z)))) ?_ ?_
  · intro b hb
    rcases List.mem_cons.mp hb with z | z
    · exact .inl (by rw [z]; exact aas)
    · rcases mem b z with z | z | z
      · exact .inl (old b (.inl z)).1
      · rcases (hb' b z).2 with y | y
        · exact .inl (inA b (List.mem_append_right _ (List.mem_append_left _ y)))
        · exact .inr y.1
      · exact .inl (old b (.inr z)).1
  · refine ⟨a, _, vs, rfl, rfl, ⟨C, dx, hc, hH a _ h2 nab⟩, g4 x' bs' H' hH r, ?_, fun b hb => ?_⟩
    · refine List.nodup_cons.mpr ⟨fun z => ?_, List.nodup_append.mpr ⟨n1, List.nodup_append.mpr ⟨nd', n5, fun b hb b' hb' q => ?_⟩, fun b hb b' hb' q => ?_⟩⟩
      · rcases mem a z with z | z | z
        · exact na (List.mem_append_left _ z)
        · exact nab (dis' a z aas)
        · exact na (List.mem_append_right _ (List.mem_append_right _ z))
      · subst q
        exact (old b (.inr hb')).2 (dis' b hb (old b (.inr hb')).1)
      · subst q
        rcases List.mem_append.mp hb' with z | z
        · exact (old b (.inl hb)).2 (dis' b z (old b (.inl hb)).1)
        · exact n3 b hb b (List.mem_append_right _ z) rfl
    · have fin : ∀ b, b ∈ as → b ∉ bs → (∃ u, H' b = some u) ∧ W.H b = none ∧ ¬ W.T b ∧ B b = none := fun b hb nb => ⟨keepA b hb nb, (h5 b hb).2⟩
      rcases List.mem_cons.mp hb with z | z
      · rw [z]
        exact fin a aas nab
      · rcases mem b z with z | z | z
        · exact fin b (old b (.inl z)).1 (old b (.inl z)).2
        · refine ⟨(hb' b z).1, ?_⟩
          rcases (hb' b z).2 with y | y
          · exact (h5 b (inA b (List.mem_append_right _ (List.mem_append_left _ y)))).2
          · exact ⟨hh.same.free y.1, hh.nT y.1, y.2⟩
        · exact fin b (old b (.inr z)).1 (old b (.inr z)).2
end
end FP
/-! FP24: owned objects: fields stored. -/
namespace FP
open PySem L2
variable [Tabl]
/-- a field is put, at the end if it is new -/
def setO (f : Str) (x : OF) : List (Str × OF) → List (Str × OF)
  | [] => [(f, x)]
  | (g, y) :: r => if g = f then (f, x) :: r else (g, y) :: setO f x r
section
variable {mg : Gm} {B : Hp} {W : Wd} {H : Hp} {σ : St} {ρ : Env} {as : List Addr}
theorem OFs.length : ∀ {vs : List (Str × V)} {fs : List (Str × OF)} {as : List Addr}, OFs mg W H vs fs as → vs.length = fs.length
  | [], [], _, _ => rfl
  | _ :: _, _ :: _, _, ⟨_, _, _, _, _, h⟩ => congrArg (· + 1) (OFs.length h)
  | [], _ :: _, _, h => h.elim
  | _ :: _, [], _, h => h.elim
/-- a datum's field may be stored -/
def datF (f : Str) (fs : List (Str × OF)) : Bool := match fs.lookup f with
  | none => true
  | some (.d _) => true
  | _ => false
theorem OFs.put {f : Str} {v : V} {d : D} (r : Rep mg W v d) : ∀ {vs : List (Str × V)} {fs : List (Str × OF)} {as : List Addr}, OFs mg W H vs fs as → datF f fs = true → OFs mg W H (putF f v vs) (setO f (.d d) fs) as
  | [], [], as, h, _ => by
    have h : as = [] := h
    subst h
    exact ⟨rfl, [], [], rfl, ⟨rfl, r⟩, rfl⟩
  | (g, w) :: vs, (g', y) :: fs, as, ⟨e, as1, as2, ea, h1, h2⟩, hd => by
    subst e
    unfold putF setO
    by_cases q : g = f
    · rw [if_pos q, if_pos q]
      have hy : ∃ d0, y = .d d0 := by
        unfold datF at hd
        rw [List.lookup_cons, show (f == g) = true from by rw [q]; exact beq_self_eq_true f] at hd
        cases y with
        | d d0 => exact ⟨d0, rfl⟩
        | l _ => cases hd
        | ll _ => cases hd
      obtain ⟨d0, rfl⟩ := hy
      obtain ⟨z, _⟩ := h1
      subst z
      exact ⟨q, [], as2, ea, ⟨rfl, r⟩, h2⟩
    · rw [if_neg q, if_neg q]
      refine ⟨rfl, as1, as2, ea, h1, OFs.put r h2 ?_⟩
      unfold datF at hd ⊢
      rw [List.lookup_cons, show (f == g) = false from by simpa using fun z => q z.symm] at hd
      exact hd
  | [], _ :: _, _, h, _ => h.elim
  | _ :: _, [], _, h, _ => h.elim
end
section
variable {ι : Type} {Xs : ι → Cx} {mg : Gm} {Wx : WX} {pos : Pos}
abbrev dOwSet (i : Nat) (c f : Str) (g : DTE) : DTS := fun N ρ => g ρ (fun d => match ρ[i]? with
  | some (.ow c' as fs) => c' = c ∧ fs.length < 1000 ∧ datF f fs = true ∧ N.nx (ρ.set i (.ow c as (setO f (.d d) fs)))
  | _ => False) (fun x => N.rs x ρ)
theorem ds_owSet (i : Nat) {c x f : Str} {C : Addr} {p p' : Pos} {e : Expr} {g : DTE} (F : ClsF mg c C) (na : NoAttr mg.K C f) (h : DE Xs mg Wx e g) (hK : ∀ j, (Xs j).K = mg.K := by intro _; rfl) (hN : ∀ j, (Xs j).N[i]? = some x := by intro _; rfl)
    (hv : ∀ j, Vis (Xs j).env.scope x := by intro _; first | exact Or.inl rfl | exact Or.inr (Or.inl rfl) | exact Or.inr (Or.inr rfl)) (hd : (x == ("__debug__" : Str)) = false := by decide) (hcd : (x == ("__classdict__" : Str)) = false := by decide)
    (hs : ∀ j, swapsWith e (some (.Attribute (.Name x p) f p')) pos.line (Xs j).env = pure false := by intro _; rfl) : DS Xs mg Wx (.Assign [.Attribute (.Name x p) f p'] e pos) (dOwSet i c f g) := by
  obtain ⟨t, h1, h2⟩ := h
  refine ⟨sFld mg.K (tVar i) t f, fun j => by
    have z := ps_fld (pe_var (i := i) (pos := p) (hN j) (hv j) hd hcd) (h1 j) (hs j)
    rw [hK j] at z
    exact z, fun W0 B N ρ hf W σ H Ds s e n => ?_⟩
  refine h2 B ρ _ _ hf W σ H _ s.holds e (n.ex s e) fun W1 H1 v d s1 r1 k1 => ?_
  have e1 := e.step s1
  dsimp only at k1
  split at k1
  · rename_i c' as fs hs'
    obtain ⟨rfl, hl, hdf, hq⟩ := k1
    obtain ⟨o, g1, a, as', vs, ea, rfl, ⟨C', dx, hc, g3⟩, hof, hnd, hk⟩ := e1.sl i _ hs'
    have ec := F.eq hc
    subst ec
    have el := hof.length
    have aas : a ∈ as := by rw [ea]; exact List.mem_cons_self
    obtain ⟨_, g4, g5, g6⟩ := hk a aas
    refine ⟨.ref a, g1, a, C', dx, vs, rfl, g3, F.cl, na, by omega, ?_⟩
    have na' : a ∉ as' := by rw [ea] at hnd; exact (List.nodup_cons.mp hnd).1
    refine n.nx W1 _ σ _ ((s.trans s1).own g6 g3 g4 g5) (e1.turn (s' := .ow c' as (setO f (.d d) fs)) hs' g1 aas (fun _ h => h) ⟨a, as', _, ea, rfl, ⟨C', dx, hc, upd_same⟩, (OFs.put r1 hof hdf).keep (Le.refl _) fun b hb u hu => ?_, hnd, fun b hb => ?_⟩) hq
    · have ne : b ≠ a := fun z => na' (by rw [← z]; exact hb)
      rw [upd_ne ne]
      exact hu
    · obtain ⟨⟨u, hu⟩, k2⟩ := hk b hb
      refine ⟨?_, k2⟩
      by_cases z : b = a
      · rw [z]
        exact ⟨_, upd_same⟩
      · rw [upd_ne z]
        exact ⟨u, hu⟩
  · exact k1.elim
end
end FP
/-! FP25: owned objects: a new field that holds a new list (x.f = []), or a new list of new lists (x.f = [[]]). -/
namespace FP
open PySem L2
variable [Tabl]
section
variable {mg : Gm} {B : Hp} {W : Wd} {H : Hp} {σ : St} {ρ : Env}
theorem OFs.snoc {f : Str} {v : V} {x : OF} {bs : List Addr} (r : OFR mg W H v x bs) : ∀ {vs : List (Str × V)} {fs : List (Str × OF)} {as : List Addr}, OFs mg W H vs fs as → fs.lookup f = none → OFs mg W H (putF f v vs) (fs ++ [(f, x)]) (as ++ bs)
  | [], [], as, h, _ => by
    have h : as = [] := h
    subst h
    exact ⟨rfl, bs, [], by simp, r, rfl⟩
  | (g, w) :: vs, (g', y) :: fs, as, ⟨e, as1, as2, ea, h1, h2⟩, hl => by
    subst e
    rw [List.lookup_cons] at hl
    have q : (f == g) = false := by
      cases z : f == g with
      | false => rfl
      | true => rw [z] at hl; cases hl
    rw [q] at hl
    unfold putF
    rw [if_neg fun z => by rw [z, beq_self_eq_true] at q; cases q]
    exact ⟨rfl, as1, as2 ++ bs, by rw [ea, List.append_assoc], h1, OFs.snoc r h2 hl⟩
  | [], _ :: _, _, h, _ => h.elim
  | _ :: _, [], _, h, _ => h.elim
/-- an owned object gets a field whose addresses are new -/
theorem EnvR.addF (e : EnvR mg B W H σ ρ) (hh : Holds W H) {i : Nat} {c f : Str} {as : List Addr} {fs : List (Str × OF)} {x : OF} {v : V} {bs : List Addr} {H2 : Hp} (hi : ρ[i]? = some (.ow c as fs)) (hl : fs.lookup f = none)
    (nb : ∀ b ∈ bs, H b = none ∧ B b = none) (nd : bs.Nodup) (hH : ∀ b u, H b = some u → H2 b = some u) (hbs : ∀ b ∈ bs, ∃ u, H2 b = some u) (r : OFR mg W H2 v x bs) :
    ∃ a C dx vs, σ[i]? = some (some (.ref a)) ∧ mg.mg c = some (.ref C) ∧ H2 a = some (.ins C dx vs) ∧ vs.length = fs.length ∧ W.H a = none ∧ ¬ W.T a ∧ B a = none ∧
      EnvR mg B W (upd H2 a (.ins C dx (putF f v vs))) σ (ρ.set i (.ow c (as ++ bs) (fs ++ [(f, x)]))) := by
  obtain ⟨o, g1, a, as', vs, ea, rfl, ⟨C, dx, hc, g3⟩, hof, hnd, hk⟩ := e.sl i _ hi
  have aas : a ∈ as := by rw [ea]; exact List.mem_cons_self
  obtain ⟨_, g4, g5, g6⟩ := hk a aas
  have apart : ∀ b, b ∈ as → b ∈ bs → False := fun b h1 h2 => by
    obtain ⟨⟨u, hu⟩, _⟩ := hk b h1
    rw [(nb b h2).1] at hu
    cases hu
  have na' : a ∉ as' := by rw [ea] at hnd; exact (List.nodup_cons.mp hnd).1
  have neA : ∀ b, b ∈ as' ++ bs → b ≠ a := fun b hb z => by
    rcases List.mem_append.mp hb with q | q
    · exact na' (by rw [← z]; exact q)
    · exact apart a aas (by rw [← z]; exact q)
  refine ⟨a, C, dx, vs, g1, hc, hH a _ g3, hof.length, g4, g5, g6, ?_⟩
  refine e.turns hi g1 (fun b u hu nf => ?_) (fun b hb => ?_) ⟨a, as' ++ bs, putF f v vs, by rw [ea]; rfl, rfl, ⟨C, dx, hc, upd_same⟩, ?_, ?_, fun b hb => ?_⟩
  · have ne : b ≠ a := fun z => nf (by rw [z]; exact aas)
    rw [upd_ne ne]
    exact hH b u hu
  · rcases List.mem_append.mp hb with q | q
    · exact .inl q
    · exact .inr (nb b q).1
  · have h2 := OFs.snoc r (hof.keep (Le.refl W) fun b _ u hu => hH b u hu) hl
    exact h2.keep (Le.refl W) fun b hb u hu => by
      rw [upd_ne (neA b hb)]
      exact hu
  · exact List.nodup_append.mpr ⟨hnd, nd, fun b h1 b' h2 q => apart b h1 (by rw [q]; exact h2)⟩
  · rcases List.mem_append.mp hb with q | q
    · obtain ⟨⟨u, hu⟩, k2⟩ := hk b q
      refine ⟨?_, k2⟩
      by_cases z : b = a
      · rw [z]
        exact ⟨_, upd_same⟩
      · rw [upd_ne z]
        exact ⟨u, hH b u hu⟩
    · obtain ⟨u, hu⟩ := hbs b q
      refine ⟨⟨u, ?_⟩, hh.same.free (nb b q).1, hh.nT (nb b q).1, (nb b q).2⟩
      rw [upd_ne (neA b (List.mem_append_right _ q))]
      exact hu
end
section
variable {ι : Type} {Xs : ι → Cx} {mg : Gm} {Wx : WX} {pos : Pos}
theorem Step.noB {W0 W : Wd} {B H : Hp} (s : Step W0 B W H) {p : Addr} (h : H p = none) : B p = none := by
  cases q : B p with
  | none => rfl
  | some o =>
    obtain ⟨o', e'⟩ := s.live p o q
    rw [e'] at h
    cases h
/-- x.f = [[]] -/
abbrev dOwNewLL (i : Nat) (c f : Str) : DTS := fun N ρ => match ρ[i]? with
  | some (.ow c' as fs) => c' = c ∧ fs.length < 1000 ∧ fs.lookup f = none ∧ ∀ p q, N.nx (ρ.set i (.ow c (as ++ [p, q]) (fs ++ [(f, .ll [[]])])))
  | _ => False
theorem ds_owNewLL (i : Nat) {c x f : Str} {C : Addr} {p p' p1 p2 : Pos} (F : ClsF mg c C) (na : NoAttr mg.K C f) (hK : ∀ j, (Xs j).K = mg.K := by intro _; rfl) (hN : ∀ j, (Xs j).N[i]? = some x := by intro _; rfl)
    (hv : ∀ j, Vis (Xs j).env.scope x := by intro _; first | exact Or.inl rfl | exact Or.inr (Or.inl rfl) | exact Or.inr (Or.inr rfl)) (hd : (x == ("__debug__" : Str)) = false := by decide) (hcd : (x == ("__classdict__" : Str)) = false := by decide)
    (hs : ∀ j, swapsWith (.List [.List [] p2] p1) (some (.Attribute (.Name x p) f p')) pos.line (Xs j).env = pure false := by intro _; rfl) (hst : ∀ j, starEach [.List [] p2] (Xs j).env = [(false, eval (.List [] p2) (Xs j).env)] := by intro _; rfl) :
    DS Xs mg Wx (.Assign [.Attribute (.Name x p) f p'] (.List [.List [] p2] p1) pos) (dOwNewLL i c f) := by
  refine ⟨_, fun j => by
    have z := ps_fld (pe_var (i := i) (pos := p) (hN j) (hv j) hd hcd) (pe_lst (pos := p1) (pa_cons (pe_lst (pos := p2) pa_nil) pa_nil (hst j))) (hs j)
    rw [hK j] at z
    exact z, fun W0 B N ρ hf W σ H Ds s e n => ?_⟩
  unfold dOwNewLL at hf
  split at hf
  · rename_i c' as fs hs'
    obtain ⟨rfl, hl, hlk, hq2⟩ := hf
    refine ⟨Nat.zero_le _, fun q1 n1 => ⟨by show 1 ≤ sizeLine; rw [PySem.sizeLine_eq]; omega, fun q2 n2 => ?_⟩⟩
    have s1 := Step.lay s.holds (o := .lst []) n1
    have s2 := s1.trans (Step.lay s1.holds (o := .lst [.ref q1]) n2)
    have ne : q2 ≠ q1 := fun z => by rw [z, upd_same] at n2; cases n2
    have n2' : H q2 = none := by rw [upd_ne ne] at n2; exact n2
    have hq1 : (upd (upd H q1 (.lst [])) q2 (.lst [.ref q1])) q1 = some (.lst []) := by rw [upd_ne (Ne.symm ne)]; exact upd_same
    obtain ⟨a, C', dx, us, g1, hc, g3, gl, g4, g5, g6, e2⟩ := e.addF (x := .ll [[]]) (v := .ref q2) (bs := [q2, q1]) (H2 := upd (upd H q1 (.lst [])) q2 (.lst [.ref q1])) s.holds hs' hlk (fun b hb => by
      rcases List.mem_cons.mp hb with z | z
      · rw [z]; exact ⟨n2', s.noB n2'⟩
      · rw [List.mem_singleton.mp z]; exact ⟨n1, s.noB n1⟩) (by simp [ne]) (fun b u hb => by rw [upd_ne (ne_of_none hb n2'), upd_ne (ne_of_none hb n1)]; exact hb) (fun b hb => by
      rcases List.mem_cons.mp hb with z | z
      · rw [z]; exact ⟨_, upd_same⟩
      · rw [List.mem_singleton.mp z]; exact ⟨_, hq1⟩) ⟨q2, [q1], rfl, rfl, upd_same, rfl, fun k l xs z1 z2 => by
      cases k with
      | zero => cases z1; cases z2; exact ⟨[], hq1, .nil⟩
      | succ k => cases z1⟩
    have ec := F.eq hc
    subst ec
    refine ⟨.ref a, g1, a, C', dx, us, rfl, g3, F.cl, na, by omega, ?_⟩
    exact n.nx W _ σ _ ((s.trans s2).own g6 g3 g4 g5) e2 (hq2 q2 q1)
  · exact hf.elim
end
end FP
/-! FP26: owned lists of owned lists: x.f.append([]), x.f[-1].append(e), y = x.f.pop(). -/
namespace FP
open PySem L2
variable [Tabl]
section
variable {ι : Type} {Xs : ι → Cx} {mg : Gm} {Wx : WX} {pos : Pos}
theorem EnvR.owNd {B : Hp} {W : Wd} {H : Hp} {σ : St} {ρ : Env} {i : Nat} {c : Str} {as : List Addr} {fs : List (Str × OF)} (e : EnvR mg B W H σ ρ) (hi : ρ[i]? = some (.ow c as fs)) : as.Nodup := by
  obtain ⟨_, _, _, _, _, _, _, _, _, h, _⟩ := e.sl i _ hi
  exact h
theorem nd_mid {a : Addr} {pre bs post : List Addr} (h : (a :: (pre ++ (bs ++ post))).Nodup) : bs.Nodup := by
  have h1 := (List.nodup_cons.mp h).2
  exact (List.nodup_append.mp (List.nodup_append.mp h1).2.1).1
abbrev dOwAppNew (i : Nat) (c f : Str) (g : DTA) : DTS := fun N ρ => match ρ[i]? with
  | some (.ow c' as fs) => c' = c ∧ ∃ xss, fs.lookup f = some (.ll xss) ∧ g ρ (fun ds => xss.length < sizeLine ∧ ∀ as', as'.head? = as.head? → N.nx (ρ.set i (.ow c as' (putO f (.ll (xss ++ [ds])) fs)))) (fun x => N.rs x ρ)
  | _ => False
theorem ds_owAppNew (i : Nat) {c f : Str} {C : Addr} {e : Expr} {g : DTA} {st : Stmt} (F : ClsF mg c C) (na : NoAttr mg.K C f) (h : DO Xs mg Wx e g)
    (pe : ∀ j t, PE (Xs j) e t → PS (Xs j) st (tDrop (tBM (Xs j).K "list" rAppend (tFld (Xs j).K (tVar i) f) (tCons t tNil)))) (hK : ∀ j, (Xs j).K = mg.K := by intro _; rfl) : DS Xs mg Wx st (dOwAppNew i c f g) := by
  obtain ⟨t, h1, h2⟩ := h
  refine ⟨tDrop (tBM mg.K "list" rAppend (tFld mg.K (tVar i) f) (tCons t tNil)), fun j => by rw [← hK j]; exact pe j t (h1 j), fun W0 B N ρ hf W σ H Ds s e n => ?_⟩
  unfold dOwAppNew at hf
  split at hf
  · rename_i c' as fs hi
    obtain ⟨rfl, xss, hl, hf⟩ := hf
    obtain ⟨a, C', dx, vs, v, pre, bs, post, q1, q2, q3, q4, q5, ⟨L, Ls, rfl, rfl, q7, q8⟩, q9, q10, _⟩ := e.field s.holds hi hl
    have ec := F.eq q2
    subst ec
    refine ⟨.ref a, q1, a, C', dx, vs, .ref L, rfl, q3, F.cl, na, q4, .inl ⟨rfl, _, SqL.of q7⟩, ?_⟩
    refine h2 B ρ _ _ hf W σ H _ s.holds e (n.ex s e) fun W1 H1 y ys ds s1 hy r1 k1 => ?_
    have e1 := e.step s1
    have s01 := s.trans s1
    have nd := e1.owNd hi
    obtain ⟨a2, C2, dx2, vs2, v2, pre2, bs2, post2, p1, p2, p3, p4, p5, ⟨M, Ms, rfl, rfl, p7, p8, pE⟩, p9, p10, p11⟩ := e1.field s1.holds hi hl
    rw [q1] at p1
    cases p1
    have hka : H1 a = some (.ins C' dx vs) := by
      obtain ⟨o, g1, g2⟩ := e.sl i _ hi
      obtain ⟨u, _, g3, g4, _⟩ := g2.at (a := a) (by rw [q5]; exact List.mem_cons_self)
      exact s1.keep a _ q3 g4
    rw [hka] at p3
    cases p3
    rw [q4] at p4
    cases p4
    have hne : L ≠ y := ne_of_none p7 hy
    have hL : (upd H1 y (.lst ys)) L = some (.lst (Ms.map V.ref)) := by rw [upd_ne hne]; exact p7
    refine ⟨L, Ms.map V.ref, .ref y, rfl, rfl, hL, by rw [List.length_map, p8]; exact k1.1, ?_⟩
    obtain ⟨_, g3, g4, g6⟩ := p10 L List.mem_cons_self
    rw [p5] at nd
    have ndb := nd_mid nd
    have oldM : ∀ b ∈ Ms, b ≠ L ∧ b ≠ y := fun b hb => ⟨fun z => (List.nodup_cons.mp ndb).1 (by rw [← z]; exact hb), fun z => by
      obtain ⟨⟨u, hu⟩, _⟩ := p10 b (List.mem_cons_of_mem _ hb)
      rw [z, hy] at hu
      cases hu⟩
    have hyv : (upd (upd H1 y (.lst ys)) L (.lst (Ms.map V.ref ++ [.ref y]))) y = some (.lst ys) := by rw [upd_ne (Ne.symm hne)]; exact upd_same
    have e2 := p11 (.ll (xss ++ [ds])) (L :: (Ms ++ [y])) (upd (upd H1 y (.lst ys)) L (.lst (Ms.map V.ref ++ [.ref y]))) (fun b u hb nb => by
      have n1 : b ≠ L := fun z => nb (by rw [z]; exact List.mem_cons_self)
      rw [upd_ne n1, upd_ne (ne_of_none hb hy)]
      exact hb) (fun b hb => by
      rcases List.mem_cons.mp hb with z | z
      · rw [z]
        exact ⟨⟨_, upd_same⟩, .inl List.mem_cons_self⟩
      · rcases List.mem_append.mp z with z | z
        · obtain ⟨⟨u, hu⟩, _⟩ := p10 b (List.mem_cons_of_mem _ z)
          exact ⟨⟨u, by rw [upd_ne (oldM b z).1, upd_ne (oldM b z).2]; exact hu⟩, .inl (List.mem_cons_of_mem _ z)⟩
        · rw [List.mem_singleton.mp z]
          exact ⟨⟨_, hyv⟩, .inr ⟨hy, s01.noB hy⟩⟩) (by
      refine List.nodup_cons.mpr ⟨fun z => ?_, List.nodup_append.mpr ⟨(List.nodup_cons.mp ndb).2, by simp, fun b hb b' hb' q => ?_⟩⟩
      · rcases List.mem_append.mp z with z | z
        · exact (List.nodup_cons.mp ndb).1 z
        · exact hne (List.mem_singleton.mp z)
      · rw [List.mem_singleton.mp hb'] at q
        exact (oldM b hb).2 q) ⟨L, Ms ++ [y], rfl, rfl, by rw [List.map_append]; exact upd_same, by rw [List.length_append, List.length_append, p8]; rfl, fun k l xs z1 z2 => by
      by_cases hk : k < Ms.length
      · rw [List.getElem?_append_left hk] at z1
        rw [List.getElem?_append_left (by rw [← p8]; exact hk)] at z2
        obtain ⟨ws, w1, w2⟩ := pE k l xs z1 z2
        have hm := List.mem_of_getElem? z1
        exact ⟨ws, by rw [upd_ne (oldM l hm).1, upd_ne (oldM l hm).2]; exact w1, w2⟩
      · rw [List.getElem?_append_right (by omega)] at z1
        rw [List.getElem?_append_right (by rw [← p8]; omega), ← p8] at z2
        cases hz : k - Ms.length with
        | zero =>
          rw [hz] at z1 z2
          cases z1
          cases z2
          exact ⟨ys, hyv, r1⟩
        | succ m =>
          rw [hz] at z1
          cases z1⟩
    exact n.nx W1 _ σ _ ((s01.trans (Step.lay s01.holds hy)).own g6 hL g3 g4) e2 (k1.2 _ (by rw [p5]; rfl))
  · exact hf.elim
end
end FP
/-! FP27: x.f[-1].append(e). -/
namespace FP
open PySem L2
variable [Tabl]
theorem atI_last {α : Type} {xs : List α} {n : Nat} {x : α} (h : xs.length = n + 1) (hx : xs[n]? = some x) : atI xs (-1) = some x := by
  unfold atI ixN
  rw [if_neg (by omega), if_pos (by omega), h]
  show xs[((-1 : Int) + ((n + 1 : Nat) : Int)).toNat]? = some x
  rw [show ((-1 : Int) + ((n + 1 : Nat) : Int)).toNat = n by omega]
  exact hx
section
variable {ι : Type} {Xs : ι → Cx} {mg : Gm} {Wx : WX} {pos : Pos}
abbrev dOwAppLast (i : Nat) (c f : Str) (g : DTE) : DTS := fun N ρ => match ρ[i]? with
  | some (.ow c' as fs) => c' = c ∧ ∃ xss xs, fs.lookup f = some (.ll (xss ++ [xs])) ∧ g ρ (fun d => xs.length < sizeLine ∧ N.nx (ρ.set i (.ow c as (putO f (.ll (xss ++ [xs ++ [d]])) fs)))) (fun x => N.rs x ρ)
  | _ => False
theorem ds_owAppLast (i : Nat) {c f : Str} {C : Addr} {e : Expr} {g : DTE} {st : Stmt} {ti : TE} (F : ClsF mg c C) (na : NoAttr mg.K C f) (h : DE Xs mg Wx e g) (hti : ∀ σ H Q, Q (.int (-1)) H → ti σ H Q)
    (pe : ∀ j t, PE (Xs j) e t → PS (Xs j) st (tDrop (tBM (Xs j).K "list" rAppend (tOp (rIx (Xs j).K) (tFld (Xs j).K (tVar i) f) ti) (tCons t tNil)))) (hK : ∀ j, (Xs j).K = mg.K := by intro _; rfl) : DS Xs mg Wx st (dOwAppLast i c f g) := by
  obtain ⟨t, h1, h2⟩ := h
  refine ⟨tDrop (tBM mg.K "list" rAppend (tOp (rIx mg.K) (tFld mg.K (tVar i) f) ti) (tCons t tNil)), fun j => by rw [← hK j]; exact pe j t (h1 j), fun W0 B N ρ hf W σ H Ds s e n => ?_⟩
  unfold dOwAppLast at hf
  split at hf
  · rename_i c' as fs hi
    obtain ⟨rfl, xss, xs, hl, hf⟩ := hf
    obtain ⟨a, C', dx, vs, v, pre, bs, post, q1, q2, q3, q4, q5, ⟨L, Ls, rfl, rfl, q7, q8, qE⟩, q9, q10, _⟩ := e.field s.holds hi hl
    have ec := F.eq q2
    subst ec
    have q8 : Ls.length = xss.length + 1 := by rw [q8, List.length_append]; rfl
    have hlast : ∃ l, Ls[xss.length]? = some l := ⟨_, List.getElem?_eq_getElem (by omega)⟩
    obtain ⟨l, hl1⟩ := hlast
    obtain ⟨us, hl2, _⟩ := qE xss.length l xs hl1 (by simp)
    refine ⟨.ref a, q1, a, C', dx, vs, .ref L, rfl, q3, F.cl, na, q4, hti _ _ _ (.inl ⟨L, _, -1, .ref l, rfl, rfl, SqL.of q7, atI_last (n := xss.length) (by rw [List.length_map]; exact q8) (by rw [List.getElem?_map, hl1]; rfl), ?_⟩)⟩
    refine ⟨.inl ⟨rfl, _, SqL.of hl2⟩, ?_⟩
    refine h2 B ρ _ _ hf W σ H _ s.holds e (n.ex s e) fun W1 H1 y d s1 r1 k1 => ?_
    have e1 := e.step s1
    have s01 := s.trans s1
    have nd := e1.owNd hi
    obtain ⟨a2, C2, dx2, vs2, v2, pre2, bs2, post2, p1, p2, p3, p4, p5, ⟨M, Ms, rfl, rfl, p7, p8, pE⟩, p9, p10, p11⟩ := e1.field s1.holds hi hl
    rw [q1] at p1
    cases p1
    obtain ⟨oo, gg1, gg2⟩ := e.sl i _ hi
    have kp : ∀ b u, b ∈ as → H b = some u → H1 b = some u := fun b u hb hu => by
      obtain ⟨_, _, _, g4, _⟩ := gg2.at (a := b) hb
      exact s1.keep b u hu g4
    have hka := kp a _ (by rw [q5]; exact List.mem_cons_self) q3
    rw [hka] at p3
    cases p3
    rw [q4] at p4
    cases p4
    have hkL := kp L _ (by rw [q5]; exact List.mem_cons_of_mem _ (List.mem_append_right _ (List.mem_append_left _ List.mem_cons_self))) q7
    rw [hkL] at p7
    have eMs : Ls = Ms := by
      have z : Ls.map V.ref = Ms.map V.ref := by injection p7 with z; injection z
      exact List.map_inj_right (f := V.ref) (fun x y q => by injection q) |>.mp z
    subst eMs
    obtain ⟨us1, w1, w2⟩ := pE xss.length l xs hl1 (by simp)
    refine ⟨l, us1, y, rfl, rfl, w1, by rw [w2.length]; exact k1.1, ?_⟩
    have hml : l ∈ Ls := List.mem_of_getElem? hl1
    obtain ⟨_, g3, g4, g6⟩ := p10 l (List.mem_cons_of_mem _ hml)
    rw [p5] at nd
    have ndb := nd_mid nd
    have neL : L ≠ l := fun z => (List.nodup_cons.mp ndb).1 (by rw [z]; exact hml)
    have e2 := p11 (.ll (xss ++ [xs ++ [d]])) (L :: Ls) (upd H1 l (.lst (us1 ++ [y]))) (fun b u hb nb => by
      have n1 : b ≠ l := fun z => nb (by rw [z]; exact List.mem_cons_of_mem _ hml)
      rw [upd_ne n1]
      exact hb) (fun b hb => by
      refine ⟨?_, .inl hb⟩
      by_cases z : b = l
      · rw [z]; exact ⟨_, upd_same⟩
      · obtain ⟨⟨u, hu⟩, _⟩ := p10 b hb
        exact ⟨u, by rw [upd_ne z]; exact hu⟩) ndb ⟨L, Ls, rfl, rfl, by rw [upd_ne neL]; exact hkL, by rw [q8, List.length_append]; rfl, fun k l' zs z1 z2 => by
      by_cases hk : k < xss.length
      · rw [List.getElem?_append_left hk] at z2
        obtain ⟨ws, v1, v2⟩ := pE k l' zs z1 (by rw [List.getElem?_append_left hk]; exact z2)
        have ne : l' ≠ l := fun z => by
          have nn := (List.nodup_cons.mp ndb).2
          have e1 := (List.getElem?_eq_some_iff.mp z1)
          have e2 := (List.getElem?_eq_some_iff.mp hl1)
          exact (List.pairwise_iff_getElem.mp nn) k xss.length e1.1 e2.1 hk (by rw [e1.2, e2.2, z])
        exact ⟨ws, by rw [upd_ne ne]; exact v1, v2⟩
      · have hk2 : k < Ls.length := (List.getElem?_eq_some_iff.mp z1).1
        have ek : k = xss.length := by omega
        subst ek
        rw [hl1] at z1
        cases z1
        rw [List.getElem?_append_right (Nat.le_refl _), Nat.sub_self] at z2
        cases z2
        exact ⟨_, upd_same, w2.snoc r1⟩⟩
    rw [← p5] at e2
    exact n.nx W1 _ σ _ (s01.own g6 w1 g3 g4) e2 k1.2
  · exact hf.elim
end
end FP
/-! FP28: y = x.f.pop() of an owned list of owned lists. -/
namespace FP
open PySem L2
variable [Tabl]
section
variable {mg : Gm} {B : Hp} {W : Wd} {H : Hp} {σ : St} {ρ : Env}
/-- a place gets what no place has -/
theorem EnvR.move (e : EnvR mg B W H σ ρ) {k : Nat} {o : Option V} {s : Sl} (n : ∀ (j : Nat) (t : Sl) (o' : Option V) (b : Addr), j ≠ k → ρ[j]? = some t → σ[j]? = some o' → b ∈ t.fp o' → b ∈ s.fp o → False) (r : SlR mg B W H o s) : EnvR mg B W H (σ.set k o) (ρ.set k s) := by
  refine ⟨by simpa using e.len, fun j sl hj => ?_, fun j m s1 s2 o1 o2 a hjk h1 h2 h3 h4 m1 m2 => ?_⟩
  · rcases get_set hj with ⟨rfl, rfl⟩ | ⟨nj, hj⟩
    · have hl : k < ρ.length := by simpa using (List.getElem?_eq_some_iff.mp hj).1
      exact ⟨o, by rw [List.getElem?_set_self (by rw [e.len]; exact hl)], r⟩
    · obtain ⟨o', h1, h2⟩ := e.sl j sl hj
      exact ⟨o', by rw [List.getElem?_set_ne nj]; exact h1, h2⟩
  · rcases get_set h1 with ⟨e1, z1⟩ | ⟨n1, h1⟩
    · rcases get_set h2 with ⟨q, _⟩ | ⟨n2, h2⟩
      · exact hjk (e1.symm.trans q)
      · rw [List.getElem?_set_ne n2] at h4
        rcases get_set h3 with ⟨_, q⟩ | ⟨q, _⟩
        · rw [← z1, ← q] at m1
          exact n m s2 o2 a (Ne.symm n2) h2 h4 m2 m1
        · exact q e1
    · rcases get_set h2 with ⟨e2, z2⟩ | ⟨n2, h2⟩
      · rw [List.getElem?_set_ne n1] at h3
        rcases get_set h4 with ⟨_, q⟩ | ⟨q, _⟩
        · rw [← z2, ← q] at m2
          exact n j s1 o1 a (Ne.symm n1) h1 h3 m1 m2
        · exact q e2
      · rw [List.getElem?_set_ne n1] at h3
        rw [List.getElem?_set_ne n2] at h4
        exact e.dis j m s1 s2 o1 o2 a hjk h1 h2 h3 h4 m1 m2
end
section
variable {ι : Type} {Xs : ι → Cx} {mg : Gm} {Wx : WX} {pos : Pos}
abbrev dOwPop (i k : Nat) (c f : Str) : DTS := fun N ρ => match ρ[i]? with
  | some (.ow c' as fs) => c' = c ∧ ∃ xss xs, fs.lookup f = some (.ll (xss ++ [xs])) ∧ ∀ as', as'.head? = as.head? → N.nx ((ρ.set i (.ow c as' (putO f (.ll xss) fs))).set k (.own xs))
  | _ => False
theorem ds_owPop (i k : Nat) {c f : Str} {C : Addr} {st : Stmt} (F : ClsF mg c C) (na : NoAttr mg.K C f) (hik : i ≠ k)
    (pe : ∀ j, PS (Xs j) st (tAsg (tBM0 (Xs j).K "list" rPop (tFld (Xs j).K (tVar i) f)) (gName k))) (hK : ∀ j, (Xs j).K = mg.K := by intro _; rfl) : DS Xs mg Wx st (dOwPop i k c f) := by
  refine ⟨tAsg (tBM0 mg.K "list" rPop (tFld mg.K (tVar i) f)) (gName k), fun j => by rw [← hK j]; exact pe j, fun W0 B N ρ hf W σ H Ds s e n => ?_⟩
  unfold dOwPop at hf
  split at hf
  · rename_i c' as fs hi
    obtain ⟨rfl, xss, xs, hl, hf⟩ := hf
    have nd := e.owNd hi
    obtain ⟨a, C', dx, vs, v, pre, bs, post, q1, q2, q3, q4, q5, ⟨L, Ls, rfl, rfl, q7, q8, qE⟩, q9, q10, q11⟩ := e.field s.holds hi hl
    have ec := F.eq q2
    subst ec
    have q8 : Ls.length = xss.length + 1 := by rw [q8, List.length_append]; rfl
    obtain ⟨l, hl1⟩ : ∃ l, Ls[xss.length]? = some l := ⟨_, List.getElem?_eq_getElem (by omega)⟩
    obtain ⟨us, hl2, rl⟩ := qE xss.length l xs hl1 (by simp)
    have eLs : Ls = Ls.dropLast ++ [l] := by
      have hne : Ls ≠ [] := fun z => by rw [z] at q8; cases q8
      have hg : Ls.getLast hne = l := by
        rw [List.getLast_eq_getElem]
        have := (List.getElem?_eq_some_iff.mp hl1).2
        rw [← this]
        congr 1
        omega
      rw [← hg]
      exact (List.dropLast_concat_getLast hne).symm
    have hml : l ∈ Ls := List.mem_of_getElem? hl1
    rw [q5] at nd
    have ndb := nd_mid nd
    have ndL := (List.nodup_cons.mp ndb).2
    have neL : l ≠ L := fun z => (List.nodup_cons.mp ndb).1 (by rw [← z]; exact hml)
    have hdl : (Ls.map V.ref).dropLast = Ls.dropLast.map V.ref := by rw [List.map_dropLast]
    have hlm : ∀ b, b ∈ Ls.dropLast → b ∈ Ls := fun b hb => by rw [eLs]; exact List.mem_append_left _ hb
    have nl : l ∉ Ls.dropLast := fun z => by
      rw [eLs] at ndL
      exact (List.nodup_append.mp ndL).2.2 l z l (List.mem_singleton.mpr rfl) rfl
    refine ⟨.ref a, q1, a, C', dx, vs, .ref L, rfl, q3, F.cl, na, q4, .inl ⟨rfl, _, SqL.of q7⟩, L, Ls.map V.ref, .ref l, rfl, rfl, q7, by rw [List.length_map, q8, List.getElem?_map]; show Option.map V.ref Ls[xss.length]? = _; rw [hl1]; rfl, ?_⟩
    rw [hdl]
    obtain ⟨_, g3, g4, g6⟩ := q10 L List.mem_cons_self
    obtain ⟨_, k3, k4, k6⟩ := q10 l (List.mem_cons_of_mem _ hml)
    have e2 := q11 (.ll xss) (L :: Ls.dropLast) (upd H L (.lst (Ls.dropLast.map V.ref))) (fun b u hb nb => by
      have n1 : b ≠ L := fun z => nb (by rw [z]; exact List.mem_cons_self)
      rw [upd_ne n1]
      exact hb) (fun b hb => by
      rcases List.mem_cons.mp hb with z | z
      · rw [z]; exact ⟨⟨_, upd_same⟩, .inl List.mem_cons_self⟩
      · have hb' := List.mem_cons_of_mem L (hlm b z)
        obtain ⟨⟨u, hu⟩, _⟩ := q10 b hb'
        have n1 : b ≠ L := fun y => (List.nodup_cons.mp ndb).1 (by rw [← y]; exact hlm b z)
        exact ⟨⟨u, by rw [upd_ne n1]; exact hu⟩, .inl hb'⟩) (List.nodup_cons.mpr ⟨fun z => (List.nodup_cons.mp ndb).1 (hlm L z), by
      rw [eLs] at ndL
      exact (List.nodup_append.mp ndL).1⟩) ⟨L, Ls.dropLast, rfl, rfl, upd_same, by rw [List.length_dropLast, q8]; rfl, fun m l' zs z1 z2 => by
      have hm : m < xss.length := (List.getElem?_eq_some_iff.mp z2).1
      have z1' : Ls[m]? = some l' := by rw [eLs, List.getElem?_append_left (by rw [List.length_dropLast]; omega)]; exact z1
      obtain ⟨ws, w1, w2⟩ := qE m l' zs z1' (by rw [List.getElem?_append_left hm]; exact z2)
      have n1 : l' ≠ L := fun y => (List.nodup_cons.mp ndb).1 (by rw [← y]; exact List.mem_of_getElem? z1')
      exact ⟨ws, by rw [upd_ne n1]; exact w1, w2⟩⟩
    have hlas : l ∈ as := by rw [q5]; exact List.mem_cons_of_mem _ (List.mem_append_right _ (List.mem_append_left _ (List.mem_cons_of_mem _ hml)))
    refine n.nx W _ _ _ (s.own g6 q7 g3 g4) (e2.move (k := k) (o := some (.ref l)) (s := .own xs) (fun j t o' b hj h1 h2 m1 m2 => ?_) ⟨l, us, rfl, by rw [upd_ne neL]; exact hl2, k3, k4, k6, rl⟩) (hf _ (by rw [q5]; rfl))
    obtain rfl := List.mem_singleton.mp m2
    rcases get_set h1 with ⟨rfl, z⟩ | ⟨nj, h1⟩
    · rw [← z] at m1
      have m1 : b ∈ a :: (pre ++ (L :: Ls.dropLast ++ post)) := m1
      have h0 := List.nodup_cons.mp nd
      have h00 := List.nodup_append.mp h0.2
      have h000 := List.nodup_append.mp h00.2.1
      have inb : b ∈ L :: Ls := List.mem_cons_of_mem _ hml
      rcases List.mem_cons.mp m1 with z | z
      · exact q9 (by rw [← z]; exact inb)
      · rcases List.mem_append.mp z with z | z
        · exact h00.2.2 b z b (List.mem_append_left _ inb) rfl
        · rcases List.mem_append.mp z with z | z
          · rcases List.mem_cons.mp z with z | z
            · exact neL z
            · exact nl z
          · exact h000.2.2 b inb b z rfl
    · exact e.dis i j _ t _ o' b nj hi h1 q1 h2 hlas m1
  · exact hf.elim
end
end FP
/-! FP29: methods that change an owned object; making an owned object; handing it to the world. -/
namespace FP
open PySem L2
variable [Tabl]
/-- the heap without some addresses -/
def offH (H : Hp) (as : List Addr) : Hp := fun b => if b ∈ as then none else H b
theorem offH_in {H : Hp} {as : List Addr} {b : Addr} (h : b ∈ as) : offH H as b = none := if_pos h
theorem offH_out {H : Hp} {as : List Addr} {b : Addr} (h : b ∉ as) : offH H as b = H b := if_neg h
theorem offH_some {H : Hp} {as : List Addr} {b : Addr} {o : HO} (h : offH H as b = some o) : b ∉ as ∧ H b = some o := by
  by_cases q : b ∈ as
  · rw [offH_in q] at h
    cases h
  · rw [offH_out q] at h
    exact ⟨q, h⟩
theorem offH_none {H : Hp} {as : List Addr} {b : Addr} (h : offH H as b = none) : b ∈ as ∨ H b = none := by
  by_cases q : b ∈ as
  · exact .inl q
  · rw [offH_out q] at h
    exact .inr h
theorem Step.off {W : Wd} {H : Hp} {as : List Addr} (h : Holds W H) : Step W (offH H as) W H :=
  ⟨Le.refl W, h, fun _ _ e _ => (offH_some e).2, fun _ _ _ => rfl, fun _ t => .inl t, fun _ o e => ⟨o, (offH_some e).2⟩⟩
theorem Step.over {W0 W W' : Wd} {B H H' : Hp} {as : List Addr} (a : Step W0 B W H) (k : ∀ b ∈ as, B b = none) (b : Step W (offH H as) W' H') : Step W0 B W' H' where
  le := a.le.trans b.le
  holds := b.holds
  keep := fun c o e n => by
    have nc : c ∉ as := fun z => by rw [k c z] at e; cases e
    refine b.keep c o (by rw [offH_out nc]; exact a.keep c o e n) fun t => ?_
    rcases a.freshT c t with t | t
    · exact n t
    · rw [e] at t
      cases t
  fresh := fun c o e => by
    have nc : c ∉ as := fun z => by rw [k c z] at e; cases e
    obtain ⟨o', e'⟩ := a.live c o e
    rw [b.fresh c o' (by rw [offH_out nc]; exact e'), a.fresh c o e]
  freshT := fun c t => by
    rcases b.freshT c t with t | t
    · exact a.freshT c t
    · refine .inr ?_
      cases q : B c with
      | none => rfl
      | some o =>
        have nc : c ∉ as := fun z => by rw [k c z] at q; cases q
        obtain ⟨o', e'⟩ := a.live c o q
        rw [offH_out nc, e'] at t
        cases t
  live := fun c o e => by
    have nc : c ∉ as := fun z => by rw [k c z] at e; cases e
    obtain ⟨o', e'⟩ := a.live c o e
    exact b.live c o' (by rw [offH_out nc]; exact e')
section
variable {mg : Gm} {B B' : Hp} {W W' : Wd} {H H' : Hp} {σ : St} {ρ : Env} {as : List Addr}
theorem SlR.rebase {o : Option V} {s : Sl} (h : SlR mg B W H o s) (k : ∀ a ∈ s.fp o, B a = none → B' a = none) : SlR mg B' W H o s := by
  cases s with
  | no => exact h
  | exc => exact h
  | d x => exact h
  | own xs =>
    obtain ⟨a, vs, h1, h2, h3, h4, h5, r⟩ := h
    subst h1
    exact ⟨a, vs, rfl, h2, h3, h4, k a (List.mem_singleton.mpr rfl) h5, r⟩
  | od xs =>
    obtain ⟨a, vs, h1, h2, h3, h4, h5, r⟩ := h
    subst h1
    exact ⟨a, vs, rfl, h2, h3, h4, k a (List.mem_singleton.mpr rfl) h5, r⟩
  | ob c a fs =>
    obtain ⟨vs, h1, h2, h3, h4, h5, r⟩ := h
    exact ⟨vs, h1, h2, h3, h4, k a (List.mem_singleton.mpr rfl) h5, r⟩
  | ow c as fs =>
    obtain ⟨a, as', vs, h1, h2, h3, h4, h5, h6⟩ := h
    exact ⟨a, as', vs, h1, h2, h3, h4, h5, fun b hb => ⟨(h6 b hb).1, (h6 b hb).2.1, (h6 b hb).2.2.1, k b hb (h6 b hb).2.2.2⟩⟩
/-- what is mine at a place was changed by a callee -/
theorem EnvR.over (e : EnvR mg B W H σ ρ) {i : Nat} {o : Option V} {s s' : Sl} (hi : ρ[i]? = some s) (hs : σ[i]? = some o) (st : Step W (offH H (s.fp o)) W' H') (hn : ∀ a ∈ s'.fp o, a ∈ s.fp o ∨ H a = none) (r : SlR mg B W' H' o s') : EnvR mg B W' H' σ (ρ.set i s') := by
  have off : ∀ (j : Nat) (t : Sl) (o' : Option V) (b : Addr), j ≠ i → ρ[j]? = some t → σ[j]? = some o' → b ∈ t.fp o' → b ∈ s'.fp o → False := fun j t o' b nj h1 h2 m m' => by
    rcases hn b m' with z | z
    · exact e.dis j i t s o' o b nj h1 hi h2 hs m z
    · obtain ⟨o2, h3, h4⟩ := e.sl j _ h1
      rw [h2] at h3
      cases h3
      obtain ⟨u', h6, _⟩ := h4.at m
      rw [z] at h6
      cases h6
  refine ⟨by simpa using e.len, fun j sl hj => ?_, fun j k s1 s2 o1 o2 a hjk h1 h2 h3 h4 m1 m2 => ?_⟩
  · rcases get_set hj with ⟨rfl, rfl⟩ | ⟨nj, hj⟩
    · exact ⟨_, hs, r⟩
    · obtain ⟨o', h1, h2⟩ := e.sl j sl hj
      exact ⟨o', h1, h2.keep st.le fun a ha u h5 h6 h7 => st.mine (by rw [offH_out fun z => e.dis i j s sl o o' a nj hi hj hs h1 z ha]; exact h5) h6 h7⟩
  · rcases get_set h1 with ⟨e1, z1⟩ | ⟨n1, h1⟩
    · rcases get_set h2 with ⟨q, _⟩ | ⟨n2, h2⟩
      · exact hjk (e1.symm.trans q)
      · subst e1
        rw [hs] at h3
        cases h3
        rw [← z1] at m1
        exact off k s2 o2 a (Ne.symm n2) h2 h4 m2 m1
    · rcases get_set h2 with ⟨e2, z2⟩ | ⟨n2, h2⟩
      · subst e2
        rw [hs] at h4
        cases h4
        rw [← z2] at m2
        exact off j s1 o1 a (Ne.symm n1) h1 h3 m1 m2
      · exact e.dis j k s1 s2 o1 o2 a hjk h1 h2 h3 h4 m1 m2
/-- new things of one's own at a place, made by a callee -/
theorem EnvR.newsW (e : EnvR mg B W H σ ρ) {i : Nat} {o : Option V} {s : Sl} (st : Step W H W' H') (n : ∀ a ∈ s.fp o, H a = none) (r : SlR mg B W' H' o s) : EnvR mg B W' H' (σ.set i o) (ρ.set i s) := by
  have e1 := e.step st
  have old : ∀ (j : Nat) (t : Sl) (o' : Option V) (b : Addr), ρ[j]? = some t → σ[j]? = some o' → b ∈ t.fp o' → b ∈ s.fp o → False := fun j t o' b h1 h2 m m' => by
    obtain ⟨o2, h3, h4⟩ := e.sl j _ h1
    rw [h2] at h3
    cases h3
    obtain ⟨u', h6, _⟩ := h4.at m
    rw [n b m'] at h6
    cases h6
  refine ⟨by simpa using e.len, fun j sl hj => ?_, fun j k s1 s2 o1 o2 a hjk h1 h2 h3 h4 m1 m2 => ?_⟩
  · rcases get_set hj with ⟨rfl, rfl⟩ | ⟨nj, hj⟩
    · have hl : i < ρ.length := by simpa using (List.getElem?_eq_some_iff.mp hj).1
      exact ⟨o, by rw [List.getElem?_set_self (by rw [e.len]; exact hl)], r⟩
    · obtain ⟨o', h1, h2⟩ := e1.sl j sl hj
      exact ⟨o', by rw [List.getElem?_set_ne nj]; exact h1, h2⟩
  · rcases get_set h1 with ⟨e1, z1⟩ | ⟨n1, h1⟩
    · rcases get_set h2 with ⟨q, _⟩ | ⟨n2, h2⟩
      · exact hjk (e1.symm.trans q)
      · rw [List.getElem?_set_ne n2] at h4
        rcases get_set h3 with ⟨_, q⟩ | ⟨q, _⟩
        · rw [← z1, ← q] at m1
          exact old k s2 o2 a h2 h4 m2 m1
        · exact q e1
    · rcases get_set h2 with ⟨e2, z2⟩ | ⟨n2, h2⟩
      · rw [List.getElem?_set_ne n1] at h3
        rcases get_set h4 with ⟨_, q⟩ | ⟨q, _⟩
        · rw [← z2, ← q] at m2
          exact old j s1 o1 a h1 h3 m1 m2
        · exact q e2
      · rw [List.getElem?_set_ne n1] at h3
        rw [List.getElem?_set_ne n2] at h4
        exact e.dis j k s1 s2 o1 o2 a hjk h1 h2 h3 h4 m1 m2
/-- a start with an owned object in slot 0 -/
theorem EnvR.startO {N : List Str} {o : Option V} {s : Sl} {vs : List V} {ds : List D} {v : V} (hN : N.length = (N.length - 1) + 1) (ho : o = some v) (r : Reps mg W vs ds) (r0 : SlR mg B W H o s) : EnvR mg B W H (L2.start N (v :: vs)) (s :: startD (N.length - 1) ds) := by
  subst ho
  have lt : N.tail.length = N.length - 1 := List.length_tail
  have es : L2.start N (v :: vs) = some v :: L2.start N.tail vs := by
    unfold L2.start
    rw [List.map_cons, List.cons_append, List.length_cons, lt, Nat.sub_sub, Nat.add_comm 1]
  have base0 := EnvR.start (N := N.tail) (mg := mg) (H := H) r
  rw [es, ← lt]
  have none2 : ∀ (j : Nat) (s : Sl) (o : Option V) (a : Addr), (startD N.tail.length ds)[j]? = some s → a ∉ s.fp o := fun j s o a hj m => by
    unfold startD at hj
    rcases List.mem_append.mp (List.mem_of_getElem? hj) with z | z
    · obtain ⟨_, _, z⟩ := List.mem_map.mp z
      rw [← z] at m
      cases m
    · have z := List.eq_of_mem_replicate z
      rw [z] at m
      cases m
  refine ⟨congrArg (· + 1) base0.len, fun i sl hi => ?_, fun i j s1 s2 o1 o2 a hij q1 q2 q3 q4 m1 m2 => ?_⟩
  · cases i with
    | zero =>
      cases hi
      exact ⟨_, rfl, r0⟩
    | succ i =>
      obtain ⟨o, g1, g2⟩ := base0.sl i sl hi
      exact ⟨o, g1, g2.rebase fun a ha _ => (none2 i sl o a hi ha).elim⟩
  · cases i with
    | succ i => exact none2 i s1 o1 a q1 m1
    | zero =>
      cases j with
      | zero => exact hij rfl
      | succ j => exact none2 j s2 o2 a q2 m2
theorem OFs.noField {m : Str} : ∀ {vs : List (Str × V)} {fs : List (Str × OF)} {as : List Addr}, OFs mg W H vs fs as → fs.lookup m = none → vs.lookup m = none
  | [], [], _, _, _ => rfl
  | (g, v) :: vs, (g', y) :: fs, as, ⟨e, as1, as2, ea, h1, h2⟩, hl => by
    subst e
    rw [List.lookup_cons] at hl ⊢
    split at hl
    · cases hl
    · exact OFs.noField h2 hl
  | [], _ :: _, _, h, _ => h.elim
  | _ :: _, [], _, h, _ => h.elim
end
/-! ### the promise of a method that changes its object -/
abbrev FO := List (Str × OF)
abbrev MO := (D → FO → Prop) → (XD → FO → Prop) → Prop
def spO (mg : Gm) (c : Str) (n : Nat) (f : FO → List D → MO) : Sp := fun vs H Q E => ∃ W a us ds as fs Qd Ed, vs = .ref a :: us ∧ Holds W H ∧ SlR mg (offH H as) W H (some (.ref a)) (.ow c as fs) ∧ Reps mg W us ds ∧ ds.length = n ∧ f fs ds Qd Ed ∧
  (∀ W' H' v d as' fs', Step W (offH H as) W' H' → Rep mg W' v d → SlR mg (offH H as) W' H' (some (.ref a)) (.ow c as' fs') → Qd d fs' → Q v H') ∧
  ∀ W' H' cls dd x as' fs', Step W (offH H as) W' H' → RepX mg W' H' cls dd x → SlR mg (offH H as) W' H' (some (.ref a)) (.ow c as' fs') → Ed x fs' → E cls dd H'
structure MethO (P : Program) (w : World) (mg : Gm) (base : Heap) (k : Nat) (c : Str) (C : Addr) (m : Str) (n : Nat) (f : FO → List D → MO) : Prop where
  ex : ∃ fa fd ps, Meth mg.K C m fa ∧ Binds mg.K fd ps [] ∧ ps.length = n + 1 ∧ FnG P w mg.K mg.mg base k fa fd ps (spO mg c n f)
section
variable {ι : Type} {Xs : ι → Cx} {mg : Gm} {Wx : WX} {pos : Pos}
/-- a method by its body: its own object stands in slot 0 -/
theorem mkMethO {P : Program} {w : World} {base : Heap} {c : Str} {C : Addr} {m qual : Str} {st : Stmt} {N ps : List Str} {k n : Nat} {f : FO → List D → MO} (d : ∃ fa fd, Meth mg.K C m fa ∧ Fun mg.K m qual st fa fd) (S : FnScope N ps (defScope st)) (hn : ps.length = n + 1)
    (hb : ∀ (kV doc pm : Value) (an : Option Addr) (cdv ct : Value) (us : List Value), us.length = ps.length → bindArgs (PySem.W.fnOf m qual (defArgs st) (defBody st) (defScope st) .none kV doc pm an cdv ct) ⟨us, []⟩ = pure (ps.zip us))
    (h : ∀ (fa : Addr) (cdv : Value) (A : Around) (outer : List PySem.Env) (s : Shared) (H : Hp) (E : XK), RmG k (A.deeper (PyProof.Rows.envOfC qual (defScope st) s.heap.objs.size fa cdv)) →
      ∃ g, DSs (fun _ : Unit => cxOf (L2.CX P w) P w mg.K mg.mg base N qual (defScope st) fa cdv A outer s H E) mg (fun cls d _ H' => E cls d H') (defBody st) g ∧
        ∀ as fs ds Q Ex, ds.length = n → f fs ds Q Ex → g ⟨fun ρ => ∃ as' fs' r, ρ = .ow c as' fs' :: r ∧ as'.head? = as.head? ∧ Q .non fs', fun d ρ => ∃ as' fs' r, ρ = .ow c as' fs' :: r ∧ as'.head? = as.head? ∧ Q d fs', fun _ => False, fun _ => False, fun x ρ => ∃ as' fs' r, ρ = .ow c as' fs' :: r ∧ as'.head? = as.head? ∧ Ex x fs'⟩ (.ow c as fs :: startD (N.length - 1) ds)) :
    MethO P w mg base (k + 1) c C m n f := by
  obtain ⟨fa, fd, hm, F⟩ := d
  refine ⟨fa, fd, ps, hm, F.binds hb, hn, ?_⟩
  refine fnG_of F S (fun vs H Q E hs => ?_) (fun cdv A outer s H vs Q E hr hs => ?_)
  · obtain ⟨W, a, us, ds, as, fs, Qd, Ed, rfl, _, _, r, l, _⟩ := hs
    rw [List.length_cons, r.length, l, hn]
  · obtain ⟨W, a, us, ds, as, fs, Qd, Ed, rfl, hh, r0, r, l, hf, q, ex⟩ := hs
    obtain ⟨g, ⟨t, h1, h2⟩, h3⟩ := h fa cdv A outer s H E hr
    refine ⟨t, h1 (), ?_⟩
    have hN : N.length = (N.length - 1) + 1 := by
      have q1 := congrArg List.length S.pre
      rw [List.length_take, hn] at q1
      omega
    have hda : as.head? = some a := by
      obtain ⟨a', as', vs, ea, ho, _⟩ := r0
      cases ho
      rw [ea]
      rfl
    have back : ∀ W' H' σ' ρ' as' fs' rr, EnvR mg (offH H as) W' H' σ' ρ' → ρ' = .ow c as' fs' :: rr → as'.head? = as.head? → SlR mg (offH H as) W' H' (some (.ref a)) (.ow c as' fs') := by
      intro W' H' σ' ρ' as' fs' rr e' er eh
      subst er
      obtain ⟨o, g1, g2⟩ := e'.sl 0 _ rfl
      obtain ⟨a', as2, vs, ea, ho, g3⟩ := id g2
      rw [ea, hda] at eh
      cases eh
      rw [ho] at g2
      exact g2
    refine h2 W (offH H as) _ _ (h3 as fs ds Qd Ed l hf) W _ H _ (Step.off hh) (EnvR.startO hN rfl r r0) ⟨fun W' H' σ' ρ' s' e' k => ?_, fun W' H' σ' ρ' v d s' e' rv k => ?_, fun _ _ _ _ _ _ k => k.elim, fun _ _ _ _ _ _ k => k.elim, fun W' H' σ' ρ' cls dd y s' e' ry k => ?_⟩
    · obtain ⟨as', fs', rr, er, eh, hq⟩ := k
      exact q W' H' _ _ as' fs' s' .non (back W' H' σ' ρ' as' fs' rr e' er eh) hq
    · obtain ⟨as', fs', rr, er, eh, hq⟩ := k
      exact q W' H' _ _ as' fs' s' rv (back W' H' σ' ρ' as' fs' rr e' er eh) hq
    · obtain ⟨as', fs', rr, er, eh, hq⟩ := k
      exact ex W' H' _ _ _ as' fs' s' ry (back W' H' σ' ρ' as' fs' rr e' er eh) hq
/-! ### expressions that change what is mine -/
abbrev DTX := Env → (D → Env → Prop) → (XD → Env → Prop) → Prop
def CpX (mg : Gm) (Wx : WX) (t : TE) (f : DTX) : Prop := ∀ W0 B ρ Q E, f ρ Q E → ∀ W σ H Q', Step W0 B W H → EnvR mg B W H σ ρ → (∀ W' H' cls dd x ρ', Step W0 B W' H' → EnvR mg B W' H' σ ρ' → RepX mg W' H' cls dd x → E x ρ' → Wx cls dd σ H') →
  (∀ W' H' v d ρ', Step W0 B W' H' → EnvR mg B W' H' σ ρ' → Rep mg W' v d → Q d ρ' → Q' v H') → t σ H Q'
def DX (Xs : ι → Cx) (mg : Gm) (Wx : WX) (e : Expr) (f : DTX) : Prop := ∃ t, (∀ i, PE (Xs i) e t) ∧ CpX mg Wx t f
abbrev dxMeth (i : Nat) (c m : Str) (n : Nat) (f : FO → List D → MO) (g : DTA) : DTX := fun ρ Q E => match ρ[i]? with
  | some (.ow c' as fs) => c' = c ∧ fs.lookup m = none ∧ g ρ (fun ds => ds.length = n ∧ f fs ds (fun d fs' => ∀ as', as'.head? = as.head? → Q d (ρ.set i (.ow c as' fs'))) (fun x fs' => ∀ as', as'.head? = as.head? → E x (ρ.set i (.ow c as' fs')))) (fun x => E x ρ)
  | _ => False
theorem dx_meth (i0 : Nat) {P : Program} {w : World} {base : Heap} {k n : Nat} {c m x : Str} {C : Addr} {f : FO → List D → MO} {p apos : Pos} {e : Expr} {es : List Expr} {g : DTA} {pl : ι → Sem Bool} (Fc : ClsF mg c C) (F : MethO P w mg base k c C m n f) (hr : ∀ i, RmG k (Xs i).A) (tk : ∀ i, Pas (Xs i) Wx) (ha : DA Xs mg Wx (e :: es) g)
    (hP : ∀ j, (Xs j).prog = P ∧ (Xs j).w = w ∧ (Xs j).K = mg.K ∧ (Xs j).mg = mg.mg ∧ (Xs j).base = base := by intro _; exact ⟨rfl, rfl, rfl, rfl, rfl⟩) (hN : ∀ j, (Xs j).N[i0]? = some x := by intro _; rfl)
    (hv : ∀ j, Vis (Xs j).env.scope x := by intro _; first | exact Or.inl rfl | exact Or.inr (Or.inl rfl) | exact Or.inr (Or.inr rfl)) (hd : (x == ("__debug__" : Str)) = false := by decide) (hcd : (x == ("__classdict__" : Str)) = false := by decide)
    (he : ∀ i, starEach (e :: es) (Xs i).env = (false, eval e (Xs i).env) :: starEach es (Xs i).env := by intro _; rfl) (hpl : ∀ i, (backTo pos (starEach es (Xs i).env)).any (·.1) = false := by intro _; rfl)
    (ht : ∀ i, eval (.Call (.Attribute (.Name x p) m apos) (e :: es) [] pos) (Xs i).env = (do
      let ov ← eval (.Name x p) (Xs i).env
      standAt apos.atName
      let (fn, first) ← holding [ov] (getMethod ov m (pl i))
      callWith pos fn first (backTo pos (starEach (e :: es) (Xs i).env)) (backToKw pos (keywordEach [] (Xs i).env))) := by intro _; rfl) : DX Xs mg Wx (.Call (.Attribute (.Name x p) m apos) (e :: es) [] pos) (dxMeth i0 c m n f g) := by
  obtain ⟨fa, fd, ps, hm, hb, hl, G⟩ := F.ex
  obtain ⟨t, h1, h2⟩ := ha
  refine ⟨fun σ H Q => tVar i0 σ H fun x H1 => ∃ a dx fs, x = .ref a ∧ H1 a = some (.ins C dx fs) ∧ fs.lookup m = none ∧ t σ H1 fun vs H2 => spO mg c n f (x :: vs) H2 Q (WE Wx σ), fun i => ?_, ?_⟩
  · obtain ⟨p1, p2, p3, p4, p5⟩ := hP i
    subst p1 p2 p5
    constructor
    intro pins z σ H Q I hw
    refine PySem.W.methodCall_KW (pl := pl i) (thn ((pe_var (i := i0) (pos := p) (hN i) (hv i) hd hcd).run pins z σ H _ I hw) ?_) (ht i)
    rintro u z1 ⟨x, H1, I1, rx, a, dx, fs, ex, ea, l, q⟩
    subst ex
    have eu : u = Value.ref a := rx
    subst eu
    apply getmeth_ok I1 ea (by rw [p3]; exact Fc.cl) (by rw [p3]; exact hm) l
    apply PySem.W.callWith_K (first := [.ref a]) (h₀ := (Xs i).base) I.ok.mod.kin (by rw [p3]; exact hm.kp) _ (he i) (hpl i)
    refine thn ((h1 i).run pos pins z1 σ H1 _ I1 q) ?_
    rintro us z2 ⟨vs, H2, I2, rv, q2⟩
    exact ⟨I2.kIn, goG (Ew := WE Wx) (us := .ref a :: us) (vs := .ref a :: vs) (by rw [p3, p4]; exact G) (hr i) (by rw [p3]; exact hb) (tk i σ) I2 (.cons rfl rv) q2⟩
  · intro W0 B ρ Q E hf W σ H Q' s e ex q
    unfold dxMeth at hf
    split at hf
    · rename_i c' as fs hi
      obtain ⟨rfl, hno, hf⟩ := hf
      obtain ⟨o, g1, g2⟩ := e.sl i0 _ hi
      obtain ⟨a, as', vs, ea, ho, ⟨C', dx, hc, h3⟩, h4, h5, h6⟩ := id g2
      subst ho
      have ec := Fc.eq hc
      subst ec
      refine ⟨.ref a, g1, a, dx, vs, rfl, h3, OFs.noField h4 hno, ?_⟩
      refine h2 B ρ _ _ hf W σ H _ s.holds e (fun W' H' cls dd y s' ry hy => ex W' H' cls dd y ρ (s.trans s') (e.step s') ry hy) fun W1 H1 us ds s1 r1 k1 => ?_
      have e1 := e.step s1
      have s01 := s.trans s1
      obtain ⟨o2, g3, g4⟩ := e1.sl i0 _ hi
      rw [g1] at g3
      cases g3
      have kb : ∀ b ∈ as, B b = none := fun b hb => (h6 b hb).2.2.2
      have fin : ∀ (W' : Wd) (H' : Hp) (as2 : List Addr) (fs2 : FO), Step W1 (offH H1 as) W' H' → SlR mg (offH H1 as) W' H' (some (.ref a)) (.ow c' as2 fs2) → as2.head? = as.head? ∧ EnvR mg B W' H' σ (ρ.set i0 (.ow c' as2 fs2)) := fun W' H' as2 fs2 s' r' => by
        have hn : ∀ b ∈ as2, b ∈ as ∨ H1 b = none := fun b hb => by
          obtain ⟨_, _, _, _, _, _, _, _, h7⟩ := id r'
          exact offH_none (h7 b hb).2.2.2
        refine ⟨?_, e1.over (s := .ow c' as fs) hi g1 s' hn (r'.rebase fun b hb _ => ?_)⟩
        · obtain ⟨a2, _, _, ea2, ho2, _⟩ := id r'
          cases ho2
          rw [ea, ea2]
          rfl
        · rcases hn b hb with z | z
          · exact kb b z
          · exact s01.noB z
      refine ⟨W1, a, us, ds, as, fs, _, _, rfl, s1.holds, g4.rebase fun b hb _ => offH_in hb, r1, k1.1, k1.2, fun W' H' v d as2 fs2 s' rv r' hq => ?_, fun W' H' cls dd y as2 fs2 s' ry r' hq => ?_⟩
      · obtain ⟨f1, f2⟩ := fin W' H' as2 fs2 s' r'
        exact q W' H' v d _ (s01.over kb s') f2 rv (hq as2 f1)
      · obtain ⟨f1, f2⟩ := fin W' H' as2 fs2 s' r'
        exact ex W' H' cls dd y _ (s01.over kb s') f2 ry (hq as2 f1)
    · exact hf.elim
abbrev dRetX (f : DTX) : DTS := fun N ρ => f ρ (fun d ρ' => N.rt d ρ') (fun x ρ' => N.rs x ρ')
theorem ds_retX {e : Expr} {f : DTX} (h : DX Xs mg Wx e f) : DS Xs mg Wx (.Return (some e) pos) (dRetX f) := by
  obtain ⟨t, h1, h2⟩ := h
  refine ⟨_, fun i => ps_ret (h1 i), fun W0 B N ρ hf W σ H Ds s e n => ?_⟩
  exact h2 W0 B ρ _ _ hf W σ H _ s e (fun W' H' cls dd x ρ' s' e' r k => n.rs W' H' σ ρ' cls dd x s' e' r k) fun W1 H1 v d ρ' s1 e1 r1 k1 => n.rt W1 H1 σ ρ' v d s1 e1 r1 k1
/-- tests that change what is mine -/
abbrev DTTX := Env → (Bool → Env → Prop) → (XD → Env → Prop) → Prop
def CpTX (mg : Gm) (Wx : WX) (t : TT) (f : DTTX) : Prop := ∀ W0 B ρ Q E, f ρ Q E → ∀ W σ H Q', Step W0 B W H → EnvR mg B W H σ ρ → (∀ W' H' cls dd x ρ', Step W0 B W' H' → EnvR mg B W' H' σ ρ' → RepX mg W' H' cls dd x → E x ρ' → Wx cls dd σ H') →
  (∀ W' H' b ρ', Step W0 B W' H' → EnvR mg B W' H' σ ρ' → Q b ρ' → Q' b H') → t σ H Q'
def DTX' (Xs : ι → Cx) (mg : Gm) (Wx : WX) (e : Expr) (f : DTTX) : Prop := ∃ t, (∀ i, PT (Xs i) e t) ∧ CpTX mg Wx t f
abbrev dBX (f : DTX) : DTTX := fun ρ Q E => f ρ (fun d ρ' => blc d fun b => Q b ρ') E
theorem dtx_val {e : Expr} {f : DTX} (h : DX Xs mg Wx e f) (he : ∀ i whole, isTrue e (Xs i).env whole = (do let v ← whole; standAt e.pos; holding [v] (truthy v)) := by intro _ _; rfl) : DTX' Xs mg Wx e (dBX f) := by
  obtain ⟨t, h1, h2⟩ := h
  refine ⟨_, fun i => pt_val (h1 i) (he i), fun W0 B ρ Q E hf W σ H Q' s e ex q => ?_⟩
  refine h2 W0 B ρ _ _ hf W σ H _ s e ex fun W1 H1 v d ρ' s1 e1 r1 k1 => ?_
  cases r1 with
  | bl b => exact ⟨b, rfl, q W1 H1 b ρ' s1 e1 k1⟩
  | _ => exact k1.elim
abbrev dNotX (f : DTTX) : DTTX := fun ρ Q E => f ρ (fun b ρ' => Q (!b) ρ') E
theorem dtx_not {e : Expr} {f : DTTX} (h : DTX' Xs mg Wx e f) : DTX' Xs mg Wx (.UnaryOp .Not e pos) (dNotX f) := by
  obtain ⟨t, h1, h2⟩ := h
  exact ⟨_, fun i => pt_not (h1 i), fun W0 B ρ Q E hf W σ H Q' s e ex q => h2 W0 B ρ _ _ hf W σ H _ s e ex fun W1 H1 b ρ' s1 e1 k1 => q W1 H1 _ ρ' s1 e1 k1⟩
abbrev dIfX (c : DTTX) (f g : DTS) : DTS := fun N ρ => c ρ (fun b ρ' => bit b (f N ρ') (g N ρ')) (fun x ρ' => N.rs x ρ')
theorem ds_ifX {c : Expr} {a b : List Stmt} {fc : DTTX} {f g : DTS} (hc : DTX' Xs mg Wx c fc) (ha : DSs Xs mg Wx a f) (hb : DSs Xs mg Wx b g) : DS Xs mg Wx (.If c a b pos) (dIfX fc f g) := by
  obtain ⟨tc, c1, c2⟩ := hc
  obtain ⟨ta, a1, a2⟩ := ha
  obtain ⟨tb, b1, b2⟩ := hb
  refine ⟨_, fun i => ps_if (c1 i) (a1 i) (b1 i), fun W0 B N ρ hf W σ H Ds s e n => ?_⟩
  refine c2 W0 B ρ _ _ hf W σ H _ s e (fun W' H' cls dd x ρ' s' e' r k => n.rs W' H' σ ρ' cls dd x s' e' r k) fun W1 H1 k ρ' s1 e1 k1 => ?_
  cases k with
  | true =>
    rw [if_pos rfl]
    exact a2 W0 B N ρ' k1 W1 σ H1 Ds s1 e1 n
  | false =>
    rw [if_neg Bool.false_ne_true]
    exact b2 W0 B N ρ' k1 W1 σ H1 Ds s1 e1 n
/-! ### making an owned object -/
def spIO (mg : Gm) (c : Str) (C : Addr) (n : Nat) (f : List D → (FO → Prop) → Prop) : Sp := fun vs H Q E => ∃ W ds us H1 x dx Qd, vs = .ref x :: us ∧ H1 x = none ∧ H1 dx = none ∧ dx ≠ x ∧ H = upd (upd H1 dx (.own x)) x (.ins C dx []) ∧ Holds W H1 ∧ Reps mg W us ds ∧ ds.length = n ∧ f ds Qd ∧
  ∀ W' H' as fs, Step W H1 W' H' → SlR mg H1 W' H' (some (.ref x)) (.ow c as fs) → Qd fs → Q .non H'
structure InitO (P : Program) (w : World) (mg : Gm) (base : Heap) (k : Nat) (c : Str) (C : Addr) (n : Nat) (f : List D → (FO → Prop) → Prop) : Prop where
  ex : ∃ fa fd ps, Mk mg.K C fa ∧ Binds mg.K fd ps [] ∧ ps.length = n + 1 ∧ FnG P w mg.K mg.mg base k fa fd ps (spIO mg c C n f)
theorem mkInitO {P : Program} {w : World} {base : Heap} {c : Str} {C : Addr} {qual : Str} {st : Stmt} {N ps : List Str} {k n : Nat} {f : List D → (FO → Prop) → Prop} (Fc : ClsF mg c C) (d : ∃ fa fd, Mk mg.K C fa ∧ Fun mg.K "__init__" qual st fa fd) (S : FnScope N ps (defScope st)) (hn : ps.length = n + 1)
    (hb : ∀ (kV doc pm : Value) (an : Option Addr) (cdv ct : Value) (us : List Value), us.length = ps.length → bindArgs (PySem.W.fnOf "__init__" qual (defArgs st) (defBody st) (defScope st) .none kV doc pm an cdv ct) ⟨us, []⟩ = pure (ps.zip us))
    (h : ∀ (fa : Addr) (cdv : Value) (A : Around) (outer : List PySem.Env) (s : Shared) (H : Hp) (E : XK), RmG k (A.deeper (PyProof.Rows.envOfC qual (defScope st) s.heap.objs.size fa cdv)) →
      ∃ g, DSs (fun _ : Unit => cxOf (L2.CX P w) P w mg.K mg.mg base N qual (defScope st) fa cdv A outer s H E) mg (fun cls d _ H' => E cls d H') (defBody st) g ∧
        ∀ x ds Q, ds.length = n → f ds Q → g ⟨fun ρ => ∃ as fs r, ρ = .ow c as fs :: r ∧ as.head? = some x ∧ Q fs, fun _ _ => False, fun _ => False, fun _ => False, fun _ _ => False⟩ (.ow c [x] [] :: startD (N.length - 1) ds)) :
    InitO P w mg base (k + 1) c C n f := by
  obtain ⟨fa, fd, M, F⟩ := d
  refine ⟨fa, fd, ps, M, F.binds hb, hn, ?_⟩
  refine fnG_of F S (fun vs H Q E hs => ?_) (fun cdv A outer s H vs Q E hr hs => ?_)
  · obtain ⟨W, ds, us, H1, x, dx, Qd, rfl, _, _, _, _, _, r, l, _⟩ := hs
    rw [List.length_cons, r.length, l, hn]
  · obtain ⟨W, ds, us, H1, x, dx, Qd, rfl, nx, ndx, ne, rfl, hh, r, l, hf, q⟩ := hs
    obtain ⟨g, ⟨t, h1, h2⟩, h3⟩ := h fa cdv A outer s _ E hr
    have sd : Step W H1 W (upd H1 dx (.own x)) := Step.lay hh ndx
    have nx2 : (upd H1 dx (.own x)) x = none := by
      rw [upd_ne (Ne.symm ne)]
      exact nx
    have sx : Step W H1 W (upd (upd H1 dx (.own x)) x (.ins C dx [])) := sd.trans (Step.lay sd.holds nx2)
    refine ⟨t, h1 (), ?_⟩
    have hN : N.length = (N.length - 1) + 1 := by
      have q1 := congrArg List.length S.pre
      rw [List.length_take, hn] at q1
      omega
    have r0 : SlR mg H1 W (upd (upd H1 dx (.own x)) x (.ins C dx [])) (some (.ref x)) (.ow c [x] []) := by
      refine ⟨x, [], [], rfl, rfl, ⟨C, dx, Fc.nm, upd_same⟩, rfl, by simp, fun b hb => ?_⟩
      obtain rfl := List.mem_singleton.mp hb
      exact ⟨⟨_, upd_same⟩, hh.same.free nx, hh.nT nx, nx⟩
    refine h2 W H1 _ _ (h3 x ds Qd l hf) W _ _ _ sx (EnvR.startO hN rfl r r0) ⟨fun W' H' σ' ρ' s' e' k => ?_, fun _ _ _ _ _ _ _ _ _ k => k.elim, fun _ _ _ _ _ _ k => k.elim, fun _ _ _ _ _ _ k => k.elim, fun _ _ _ _ _ _ _ _ _ _ k => k.elim⟩
    obtain ⟨as, fs, rr, rfl, eh, hq⟩ := k
    obtain ⟨o, g1, g2⟩ := e'.sl 0 _ rfl
    obtain ⟨a', as2, vs, ea, ho, _⟩ := id g2
    rw [ea] at eh
    cases eh
    rw [ho] at g2
    exact q W' H' as fs s' g2 hq
/-- x = C() -/
abbrev dMakeO0 (i : Nat) (c : Str) (f : List D → (FO → Prop) → Prop) : DTS := fun N ρ => f [] (fun fs => ∀ as, N.nx (ρ.set i (.ow c as fs)))
theorem ds_makeO0 {i : Nat} {P : Program} {w : World} {base : Heap} {k : Nat} {c y : Str} {C : Addr} {f : List D → (FO → Prop) → Prop} {p py p2 : Pos} (Fc : ClsF mg c C) (F : InitO P w mg base k c C 0 f) (hr : ∀ i, RmG (k + 1) (Xs i).A) (tk : ∀ i, Pas (Xs i) Wx) (hN : ∀ j, (Xs j).N.Nodup)
    (hP : ∀ j, (Xs j).prog = P ∧ (Xs j).w = w ∧ (Xs j).K = mg.K ∧ (Xs j).mg = mg.mg ∧ (Xs j).base = base := by intro _; exact ⟨rfl, rfl, rfl, rfl, rfl⟩) (hg : ∀ j, Gl (Xs j) c := by intro _; rfl) (hd : (c == ("__debug__" : Str)) = false := by decide)
    (hi : ∀ j, (Xs j).N[i]? = some y := by intro _; rfl) (hx : ∀ j, Loc (Xs j).env.scope y := by intro _; first | exact Or.inl rfl | exact Or.inr rfl)
    (hs : ∀ j, swapsWith (.Call (.Name c p) [] [] p2) (some (.Name y py)) pos.line (Xs j).env = pure false := by intro _; rfl) (hf : ∀ j, (Xs j).fn y = true ∨ (Xs j).env.scope.names.lookup y = some .local := by intro _; first | exact .inl rfl | exact .inr rfl) : DS Xs mg Wx (.Assign [.Name y py] (.Call (.Name c p) [] [] p2) pos) (dMakeO0 i c f) := by
  obtain ⟨fa, fd, ps, M, hb, hl, G⟩ := F.ex
  have pe : ∀ j, PE (Xs j) (.Call (.Name c p) [] [] p2) (fun σ H Q => ∀ x dx, H x = none → H dx = none → dx ≠ x → spIO mg c C 0 f [.ref x] (upd (upd H dx (.own x)) x (.ins C dx [])) (fun v H2 => v = .non ∧ Q (.ref x) H2) (WE Wx σ)) := fun j => by
    obtain ⟨p1, p2, p3, p4, p5⟩ := hP j
    subst p1 p2 p5
    constructor
    intro pins z σ H Q I hw
    apply wpAny_Call_Name_kw
    apply ld_glob I (hg j) (by rw [p4]; exact Fc.nm) _ hd
    exact PySem.W.callWith_K0 I.kIn (by rw [p3]; exact M.kp) (makeG (us := []) (vs := []) (by rw [p3]; exact M) (by rw [p3, p4]; exact G) (hr j) (by rw [p3]; exact hb) (tk j σ) I .nil hw)
  refine ⟨_, fun j => ps_set (i := i) (hN j) (hi j) (hx j) (pe j) (hs j) (hf j), fun W0 B N ρ hf W σ H Ds s e n => ?_⟩
  intro x dx nx ndx ne
  refine ⟨W, [], [], H, x, dx, _, rfl, nx, ndx, ne, rfl, s.holds, .nil, rfl, hf, fun W' H' as fs s' r' hq => ⟨rfl, ?_⟩⟩
  have hnone : ∀ b ∈ as, H b = none := fun b hb => by
    obtain ⟨_, _, _, _, _, _, _, _, h7⟩ := id r'
    exact (h7 b hb).2.2.2
  exact n.nx W' H' _ _ (s.trans s') (e.newsW (s := .ow c as fs) s' hnone (r'.rebase fun b hb _ => s.noB (hnone b hb))) (hq as)
/-- an owned object is handed to the world ahead of a statement -/
abbrev dFrzO (i : Nat) (f : DTS) : DTS := fun N ρ => match ρ[i]? with
  | some (.ow c _ fs) => f N (ρ.set i (.d (.ins c (toDs fs))))
  | _ => False
theorem ds_frzO (i : Nat) {st : Stmt} {f : DTS} (h : DS Xs mg Wx st f) : DS Xs mg Wx st (dFrzO i f) := by
  obtain ⟨t, h1, h2⟩ := h
  refine ⟨t, h1, fun W0 B N ρ hf W σ H Ds s e n => ?_⟩
  unfold dFrzO at hf
  split at hf
  · rename_i c as fs hi
    obtain ⟨k, e1⟩ := e.seen hi
    have kb : ∀ b ∈ as, B b = none := fun b hb => by
      obtain ⟨_, _, _, _, _, _, _, _, _, _, h7⟩ := e.sl i _ hi
      exact (h7 b hb).2.2.2
    have l := seen_le (W := W) (H := H) fun b hb => (k b hb).1
    have s2 : Step W0 B (W.seen H as) H := ⟨s.le.trans l, seen_holds s.holds fun b hb => (k b hb).2, s.keep, fun b o q => by
      show (if b ∈ as then H b else W.H b) = _
      rw [if_neg fun z => by rw [kb b z] at q; cases q]
      exact s.fresh b o q, s.freshT, s.live⟩
    exact h2 W0 B N _ hf _ σ H Ds s2 e1 n
  · exact hf.elim
/-- a method without arguments -/
abbrev dMeth0 (c : Str) (f : List D → M D) (m : Str) (go : DTE) : DTE := fun ρ Q E => go ρ (fun x => match x with
  | .ins c' fs => c' = c ∧ fs.lookup m = none ∧ f [.ins c' fs] Q E
  | _ => False) E
theorem de_meth0 {P : Program} {w : World} {base : Heap} {k : Nat} {c m : Str} {C : Addr} {f : List D → M D} {apos : Pos} {o : Expr} {go : DTE} {pl : ι → Sem Bool} (Fc : ClsF mg c C) (F : MethOk P w mg base k C m 1 f) (hr : ∀ i, RmG k (Xs i).A) (tk : ∀ i, Pas (Xs i) Wx) (ho : DE Xs mg Wx o go)
    (hP : ∀ j, (Xs j).prog = P ∧ (Xs j).w = w ∧ (Xs j).K = mg.K ∧ (Xs j).mg = mg.mg ∧ (Xs j).base = base := by intro _; exact ⟨rfl, rfl, rfl, rfl, rfl⟩)
    (ht : ∀ i, eval (.Call (.Attribute o m apos) [] [] pos) (Xs i).env = (do
      let ov ← eval o (Xs i).env
      standAt apos.atName
      let (fn, first) ← holding [ov] (getMethod ov m (pl i))
      callWith pos fn first (backTo pos (starEach [] (Xs i).env)) (backToKw pos (keywordEach [] (Xs i).env))) := by intro _; rfl) : DE Xs mg Wx (.Call (.Attribute o m apos) [] [] pos) (dMeth0 c f m go) := by
  obtain ⟨fa, fd, ps, hm, hb, hl, G⟩ := F.ex
  obtain ⟨to, o1, o2⟩ := ho
  refine ⟨fun σ H Q => to σ H fun x H1 => ∃ a dx fs, x = .ref a ∧ H1 a = some (.ins C dx fs) ∧ fs.lookup m = none ∧ spD mg 1 f [x] H1 Q (WE Wx σ), fun i => ?_, ?_⟩
  · obtain ⟨p1, p2, p3, p4, p5⟩ := hP i
    subst p1 p2 p5
    constructor
    intro pins z σ H Q I hw
    refine PySem.W.methodCall_KW (pl := pl i) (thn ((o1 i).run pins z σ H _ I hw) ?_) (ht i)
    rintro u z1 ⟨x, H1, I1, rx, a, dx, fs, ex, ea, l, q⟩
    subst ex
    have eu : u = Value.ref a := rx
    subst eu
    apply getmeth_ok I1 ea (by rw [p3]; exact Fc.cl) (by rw [p3]; exact hm) l
    exact PySem.W.callWith_K0 (first := [.ref a]) I1.kIn (by rw [p3]; exact hm.kp) (goG (Ew := WE Wx) (us := [.ref a]) (vs := [.ref a]) (by rw [p3, p4]; exact G) (hr i) (by rw [p3]; exact hb) (tk i σ) I1 (.cons rfl .nil) q)
  · intro B ρ Q E hf W σ H Q' hh e x q
    refine o2 B ρ _ E hf W σ H _ hh e x fun W1 H1 v d s1 r1 k1 => ?_
    cases r1 with
    | @ins a C' dx fs c' ds hc ha hk rs =>
      obtain ⟨rfl, hno, k2⟩ := k1
      have ec := Fc.eq hc
      subst ec
      refine ⟨a, dx, fs, rfl, s1.holds.same _ _ ha, lookup_none hk hno, ?_⟩
      exact ⟨W1, _, Q, E, s1.holds, .cons (Rep.ins hc ha hk rs) .nil, rfl, k2, ToV.step q s1, fun W' H' cls dd y s' r h => x W' H' cls dd y (s1.trans s') r h⟩
    | _ => exact k1.elim
end
end FP
/-! FP30: t == (), t != (); max of a list; x, y = [], e; a def that is not called. -/
namespace FP
open PySem L2
variable [Tabl]
section
variable {ι : Type} {Xs : ι → Cx} {mg : Gm} {Wx : WX} {pos : Pos}
def rT0 (K : PySem.W.Frag) (neg : Bool) : R2 := fun x y H Q => ∃ a b xs, x = .ref a ∧ y = .ref b ∧ SqT K H a xs ∧ SqT K H b [] ∧ Q (.bl (if neg then !xs.isEmpty else xs.isEmpty)) H
theorem op_eqT0 {X : Cx} (hu : X.A.units + 64 < cLine) : OpR X (compareOp .Eq) (rT0 X.K false) := by
  intro pins s σ H x y v u Q I rx ry h
  obtain ⟨a, b, xs, rfl, rfl, h1, h2, q⟩ := h
  cases rx
  cases ry
  obtain ⟨its, rv, pl, hz⟩ := I.tuple h1
  obtain ⟨its2, rv2, pl2, hz2⟩ := I.tuple h2
  have e2 : its2 = [] := by
    have := rv2.length
    cases its2 with
    | nil => rfl
    | cons => cases this
  subst e2
  refine SeqAt.rcIn_tuples (e := fun _ => true) (show s.heap.IsTuple a its.toArray from pl) (show s.heap.IsTuple b #[] from pl2) (by omega) (fun j _ h2 => absurd h2 (Nat.not_lt_zero j)) ⟨.bl xs.isEmpty, H, I, ?_, q⟩
  show Value.bool _ = Value.bool _
  congr 1
  have el := rv.length
  cases xs with
  | nil =>
    cases its with
    | nil => rfl
    | cons => cases el
  | cons =>
    cases its with
    | nil => cases el
    | cons => rfl
theorem op_neT0 {X : Cx} (hu : X.A.units + 64 < cLine) : OpR X (compareOp .NotEq) (rT0 X.K true) := by
  intro pins s σ H x y v u Q I rx ry h
  obtain ⟨a, b, xs, rfl, rfl, h1, h2, q⟩ := h
  cases rx
  cases ry
  obtain ⟨its, rv, pl, hz⟩ := I.tuple h1
  obtain ⟨its2, rv2, pl2, hz2⟩ := I.tuple h2
  have e2 : its2 = [] := by
    have := rv2.length
    cases its2 with
    | nil => rfl
    | cons => cases this
  subst e2
  have hl : s.heap.IsTuple a its.toArray := pl
  have hb : s.heap.IsTuple b #[] := pl2
  obtain ⟨⟨cls, dd, data, sl⟩, ho, hc, n, hd⟩ := id hl
  obtain ⟨⟨cls2, dd2, data2, sl2⟩, ho2, hc2, n2, hd2⟩ := id hb
  simp only at hc hd hc2 hd2
  subst hc hd hc2 hd2
  refine wpAny_richCompare_same_room (T := "tuple") (op := .NotEq) ⟨_, ho, rfl⟩ ⟨_, ho2, rfl⟩ F.slot_tuple_ne (call_meets F.slot_tuple_ne ⟨_, ho, rfl⟩ F.entry_tuple_ne (F.args_tuple_ne_2 _ _) (SeqAt.tuple_neAt a b its.toArray #[] n n2 dd dd2 sl sl2 (fun _ => true))
    ⟨ho, ho2, fun j _ h2 => absurd h2 (Nat.not_lt_zero j), (fun x => nomatch x), .bl (!xs.isEmpty), H, I, ?_, q⟩) (by omega)
  show Value.bool _ = Value.bool _
  congr 1
  have el := rv.length
  cases xs with
  | nil =>
    cases its with
    | nil => rfl
    | cons => cases el
  | cons =>
    cases its with
    | nil => cases el
    | cons => rfl
/-- a tuple of anything beside () -/
def rdT0 (neg : Bool) : RD2 := fun x y Q => match x, y with
  | .tup xs, .tup [] => Q (.bl (if neg then !xs.isEmpty else xs.isEmpty))
  | _, _ => False
theorem ok_T0 {neg : Bool} {W : Wd} {H : Hp} {x y : V} {dx dy : D} {Q : D → Prop} {Q' : VK} (hh : Holds W H) (rx : Rep mg W x dx) (ry : Rep mg W y dy) (h : rdT0 neg dx dy Q) (q : ToV mg W H Q Q') : rT0 mg.K neg x y H Q' := by
  unfold rdT0 at h
  split at h
  · rename_i xs
    cases rx with
    | @tup a vs ds ha rs =>
      cases ry with
      | @tup b vs2 ds2 hb rs2 =>
        cases rs2
        have e : vs.isEmpty = xs.isEmpty := by
          cases rs <;> rfl
        refine ⟨a, b, vs, rfl, rfl, SqT.of (hh.same _ _ ha), SqT.of (hh.same _ _ hb), ?_⟩
        rw [e]
        exact q W H _ _ (Step.refl hh) (.bl _) h
  · exact h.elim
theorem ok_eqT0 (hu : ∀ j, (Xs j).A.units + 64 < cLine) (hK : ∀ j, (Xs j).K = mg.K := by intro _; rfl) : OpOk Xs mg (compareOp .Eq) (rdT0 false) :=
  ⟨_, fun j => by rw [← hK j]; exact op_eqT0 (hu j), fun W H x y dx dy Q Q' hh rx ry h q => ok_T0 hh rx ry h q⟩
theorem ok_neT0 (hu : ∀ j, (Xs j).A.units + 64 < cLine) (hK : ∀ j, (Xs j).K = mg.K := by intro _; rfl) : OpOk Xs mg (compareOp .NotEq) (rdT0 true) :=
  ⟨_, fun j => by rw [← hK j]; exact op_neT0 (hu j), fun W H x y dx dy Q Q' hh rx ry h q => ok_T0 hh rx ry h q⟩
/-! ### max of a list of ints -/
def intsD : List D → Option (List Int)
  | [] => some []
  | .int i :: r => (intsD r).map (i :: ·)
  | _ :: _ => none
theorem intsD_map : ∀ ns : List Int, intsD (ns.map D.int) = some ns
  | [] => rfl
  | n :: r => by
    show (intsD (r.map D.int)).map (n :: ·) = _
    rw [intsD_map r]
    rfl
theorem intsD_v {W : Wd} : ∀ {vs : List V} {xs : List D} {ns : List Int}, Reps mg W vs xs → intsD xs = some ns → vs = ns.map V.int
  | [], [], _, _, h => by cases h; rfl
  | _ :: _, .int i :: r', ns, .cons r rs, h => by
    have h : (intsD r').map (i :: ·) = some ns := h
    cases r
    cases q : intsD r' with
    | none => rw [q] at h; cases h
    | some ms =>
      rw [q] at h
      cases h
      rw [intsD_v rs q]
      rfl
  | _ :: _, .non :: _, _, _, h | _ :: _, .bl _ :: _, _, _, h | _ :: _, .str _ :: _, _, _, h | _ :: _, .tup _ :: _, _, _, h | _ :: _, .lst _ :: _, _, _, h | _ :: _, .fz _ :: _, _, _, h | _ :: _, .dct _ :: _, _, _, h | _ :: _, .ins _ _ :: _, _, _, h | _ :: _, .tok :: _, _, _, h | _ :: _, .cl _ :: _, _, _, h | _ :: _, .fn _ _ :: _, _, _, h => by cases h
def rdMaxL : RDL := fun ds Q => match ds with
  | [.lst xs] => ∃ ns, intsD xs = some ns ∧ 0 < ns.length ∧ ∀ m, m ∈ ns → (∀ y ∈ ns, y ≤ m) → Q (.int m)
  | _ => False
theorem cr_maxK {X : Cx} {K : PySem.W.Frag} (h : X.K = K) (hc : X.calm = true) : CallR X (.builtin "max") (rMax K) := by
  subst h
  exact cr_max hc
theorem ok_maxL (hK : ∀ j, (Xs j).K = mg.K := by intro _; rfl) (hc : ∀ j, (Xs j).calm = true := by intro _; rfl) : CallOk Xs mg (.builtin "max") rdMaxL := by
  refine ⟨_, fun j => cr_maxK (hK j) (hc j), ?_⟩
  intro W H vs ds Q Q' hh r h q
  unfold rdMaxL at h
  split at h
  · cases r with
    | cons r rs =>
      cases rs
      cases r with
      | @lst a us ds ha ru =>
        obtain ⟨ns, h1, h2, h3⟩ := h
        have e := intsD_v ru h1
        subst e
        exact ⟨a, ns, rfl, SqL.of (hh.same _ _ ha), h2, fun m hm hy => q W H _ _ (Step.refl hh) (.int m) (h3 m hm hy)⟩
  · exact h.elim
/-! ### x, y = [..], e -/
abbrev dParO (i j : Nat) (g : DTA) (f : DTE) : DTS := fun N ρ => g ρ (fun xs => f ρ (fun d => N.nx ((ρ.set i (.own xs)).set j (.d d))) (fun x => N.rs x ρ)) (fun x => N.rs x ρ)
theorem ds_parO {i j : Nat} {x y : Str} {a b : Expr} {g : DTA} {f : DTE} {px py pt : Pos} {kt k2 : Nat} {pt2 : Pos} (h : DO Xs mg Wx a g) (h' : DE Xs mg Wx b f) (hN : ∀ l, (Xs l).N.Nodup)
    (hw : ∀ l, swappedStores [.Tuple [.Name x px, .Name y py] kt pt] (.Tuple [a, b] k2 pt2) (Xs l).env = pure (some [x, y]) := by intro _; rfl) (hij : i ≠ j := by decide) (hi : ∀ l, (Xs l).N[i]? = some x := by intro _; rfl) (hj : ∀ l, (Xs l).N[j]? = some y := by intro _; rfl)
    (hx : ∀ l, (Xs l).env.scope.names.lookup x = some .local := by intro _; rfl) (hy : ∀ l, (Xs l).env.scope.names.lookup y = some .local := by intro _; rfl) (hc : ∀ l, (Xs l).calm = true := by intro _; rfl)
    (hs : ∀ l, swapsWithSole [.Tuple [.Name x px, .Name y py] kt pt] (.Tuple [a, b] k2 pt2) pos.line (Xs l).env = pure false := by intro _; rfl)
    (he : ∀ i, starEach [a, b] (Xs i).env = (false, eval a (Xs i).env) :: starEach [b] (Xs i).env := by intro _; rfl) (he2 : ∀ i, starEach [b] (Xs i).env = [(false, eval b (Xs i).env)] := by intro _; rfl) : DS Xs mg Wx (.Assign [.Tuple [.Name x px, .Name y py] kt pt] (.Tuple [a, b] k2 pt2) pos) (dParO i j g f) := by
  obtain ⟨t, h1, h2⟩ := h
  obtain ⟨u, g1, g2⟩ := h'
  refine ⟨_, fun l => ps_par (i := i) (j := j) (hc l) (hN l) (hi l) (hj l) hij (hx l) (hy l) (pa_cons (h1 l) (pa_cons (g1 l) pa_nil (he2 l)) (he l)) (hw l) (hs l), fun W0 B N ρ hf W σ H Ds s e n => ?_⟩
  refine h2 B ρ _ _ hf W σ H _ s.holds e (n.ex s e) fun W1 H1 p vs ds s1 hp r1 k1 => ?_
  have e1 := e.step s1
  have s01 := s.trans s1
  have sl := Step.lay (o := .lst vs) s1.holds hp
  have e2 := e1.setOwn (i := i) s1.holds hp (s01.noB hp) r1
  refine g2 B ρ _ _ k1 W1 σ _ _ sl.holds (e1.step sl) (n.ex (s01.trans sl) (e1.step sl)) fun W2 H2 v d s2 r2 k2 => ?_
  exact ⟨_, _, rfl, n.nx W2 H2 _ _ ((s01.trans sl).trans s2) ((e2.step s2).set r2) k2⟩
/-- a def that is not called -/
theorem DefOk.never {P : Program} {w : World} {mg : Gm} {base : Heap} {x qual : Str} {st : Stmt} {ps : List Str} {k : Nat} (d : ∃ fa fd, mg.mg x = some (.ref fa) ∧ Fun mg.K x qual st fa fd)
    (hb : ∀ (kV doc pm : Value) (an : Option Addr) (cdv ct : Value) (us : List Value), us.length = ps.length → bindArgs (PySem.W.fnOf x qual (defArgs st) (defBody st) (defScope st) .none kV doc pm an cdv ct) ⟨us, []⟩ = pure (ps.zip us)) : DefOk P w mg base k x ps.length (fun _ _ _ => False) := by
  obtain ⟨fa, fd, h1, F⟩ := d
  refine ⟨fa, fd, ps, h1, F.kp, F.binds hb, rfl, fun vs H Q E hs => ?_, fun A out z H ag us vs Q E _ _ _ _ hs => ?_⟩
  · obtain ⟨W, ds, Qd, Ed, _, _, _, h, _⟩ := hs
    exact h.elim
  · obtain ⟨W, ds, Qd, Ed, _, _, _, h, _⟩ := hs
    exact h.elim
end
end FP
/-! FP31: class facts put together; special methods by their bodies. -/
namespace FP
open PySem L2
variable [Tabl]
section
variable {mg : Gm}
theorem kit_no {n : String} {C : Addr} (ic : PySem.W.isClsIn mg.K C = true) (ty : PySem.W.typeIn mg.K (.ref C) = some (.type "type")) (h : PySem.W.subIn mg.K (.type n) (.ref C) = some false) : PySem.W.kitOne mg.K (.type n) (.ref C) = some false := by
  have e : (Value.type n == Value.ref C) = false := rfl
  unfold PySem.W.kitOne
  rw [e, if_neg Bool.false_ne_true]
  show (if ((PySem.W.clsIn mg.K C).isSome && PySem.W.typeIn mg.K (.ref C) == some (.type "type")) = true then PySem.W.subIn mg.K (.type n) (.ref C) else none) = _
  have ic : (PySem.W.clsIn mg.K C).isSome = true := ic
  rw [ic, ty, h]
  rfl
theorem isi_mk {c : Str} {C : Addr} (F : ClsF mg c C) (ic : PySem.W.isClsIn mg.K C = true) (ty : PySem.W.typeIn mg.K (.ref C) = some (.type "type")) (h0 : PySem.W.subIn mg.K (.type "NoneType") (.ref C) = some false) (h1 : PySem.W.subIn mg.K (.type "bool") (.ref C) = some false) (h2 : PySem.W.subIn mg.K (.type "int") (.ref C) = some false) (h3 : PySem.W.subIn mg.K (.type "str") (.ref C) = some false)
    (h4 : PySem.W.subIn mg.K (.type "tuple") (.ref C) = some false) (h5 : PySem.W.subIn mg.K (.type "list") (.ref C) = some false) (h6 : PySem.W.subIn mg.K (.type "dict") (.ref C) = some false) : IsiF mg C [c] (fun _ => true) := by
  refine ⟨fun n hn => kit_no ic ty ?_, fun x hx => ?_⟩
  · simp only [List.mem_cons, List.not_mem_nil, or_false] at hn
    rcases hn with rfl | rfl | rfl | rfl | rfl | rfl | rfl <;> assumption
  · rw [List.mem_singleton.mp hx]
    exact ⟨C, F, if_pos (beq_self_eq_true _)⟩
theorem eqF_mk {c : Str} {C : Addr} (F : ClsF mg c C) (h0 : PySem.W.notFirst mg.K C (.type "NoneType") = true) (h1 : PySem.W.notFirst mg.K C (.type "bool") = true) (h2 : PySem.W.notFirst mg.K C (.type "int") = true) (h3 : PySem.W.notFirst mg.K C (.type "str") = true)
    (h4 : PySem.W.notFirst mg.K C (.type "tuple") = true) (h5 : PySem.W.notFirst mg.K C (.type "list") = true) (h6 : PySem.W.notFirst mg.K C (.type "dict") = true) (h7 : PySem.W.notFirst mg.K C (.ref C) = true) : EqF mg C [c] := by
  refine ⟨fun n hn => ?_, fun x hx => ?_⟩
  · simp only [List.mem_cons, List.not_mem_nil, or_false] at hn
    rcases hn with rfl | rfl | rfl | rfl | rfl | rfl | rfl <;> assumption
  · rw [List.mem_singleton.mp hx]
    exact ⟨C, F, h7⟩
theorem mkSpec {P : Program} {w : World} {base : Heap} {C : Addr} {m qual : Str} {st : Stmt} {N ps : List Str} {k : Nat} {f : List D → M D} (d : ∃ fa fd, (Meth mg.K C m fa ∧ PySem.W.fnIn mg.K fa = true) ∧ Fun mg.K m qual st fa fd) (S : FnScope N ps (defScope st))
    (hb : ∀ (kV doc pm : Value) (an : Option Addr) (cdv ct : Value) (us : List Value), us.length = ps.length → bindArgs (PySem.W.fnOf m qual (defArgs st) (defBody st) (defScope st) .none kV doc pm an cdv ct) ⟨us, []⟩ = pure (ps.zip us))
    (h : ∀ (fa : Addr) (cdv : Value) (A : Around) (outer : List PySem.Env) (s : Shared) (H : Hp) (E : XK), RmG k (A.deeper (PyProof.Rows.envOfC qual (defScope st) s.heap.objs.size fa cdv)) →
      ∃ g, DSs (fun _ : Unit => cxOf (L2.CX P w) P w mg.K mg.mg base N qual (defScope st) fa cdv A outer s H E) mg (fun cls d _ H' => E cls d H') (defBody st) g ∧
        ∀ ds Q Ex, ds.length = ps.length → f ds Q Ex → g ⟨fun _ => Q .non, fun d _ => Q d, fun _ => False, fun _ => False, fun x _ => Ex x⟩ (startD N.length ds)) :
    SpecOk P w mg base (k + 1) C m ps.length f := by
  obtain ⟨fa, fd, ⟨hm, hf⟩, F⟩ := d
  exact ⟨fa, fd, ps, hm.at_, hm.fn, hf, F.binds hb, rfl, def_ok F S (h fa)⟩
theorem FnG.imp {P : Program} {w : World} {K : PySem.W.Frag} {mg : Str → Option Value} {base : Heap} {k : Nat} {f : Addr} {fd : FuncData} {ps : List Str} {sp sp' : Sp} (F : FnG P w K mg base k f fd ps sp) (h : ∀ vs H Q E, sp' vs H Q E → sp vs H Q E) : FnG P w K mg base k f fd ps sp' :=
  ⟨fun vs H Q E hs => F.ln vs H Q E (h vs H Q E hs), fun A out z H ag us vs Q E m e0 bd rv hs => F.go A out z H ag us vs Q E m e0 bd rv (h vs H Q E hs)⟩
theorem spD_imp {n : Nat} {f f' : List D → M D} (h : ∀ ds Q E, f' ds Q E → f ds Q E) : ∀ vs H Q E, spD mg n f' vs H Q E → spD mg n f vs H Q E := by
  rintro vs H Q E ⟨W, ds, Qd, Ed, h1, h2, h3, h4, h5⟩
  exact ⟨W, ds, Qd, Ed, h1, h2, h3, h ds Qd Ed h4, h5⟩
theorem DefOk.mono {P : Program} {w : World} {base : Heap} {k k' n : Nat} {x : Str} {f f' : List D → M D} (F : DefOk P w mg base k x n f) (hk : k ≤ k') (h : ∀ ds Q E, f' ds Q E → f ds Q E) : DefOk P w mg base k' x n f' := by
  obtain ⟨fa, fd, ps, h1, h2, h3, h4, G⟩ := F.ex
  exact ⟨fa, fd, ps, h1, h2, h3, h4, (G.up hk).imp (spD_imp h)⟩
/-- nothing is caught -/
theorem CatF.nil {c : Value} {yes : Str → Bool} : CatF mg c [] yes := ⟨fun _ h => absurd h List.not_mem_nil⟩
end
end FP
/-! FP32: max(e, default=d) of whole numbers. -/
namespace FP
open PySem PyProof.Rows L2
end FP
/-! FP33: binary operators of own objects. -/
namespace FP
open PySem PyProof.Rows L2
end FP
/-! FP34: dicts walked (keys, values, items), d.get(k, x), dict(rows of pairs). -/
namespace FP
open PySem L2
variable [Tabl]
section
variable {ι : Type} {Xs : ι → Cx} {mg : Gm} {Wx : WX} {pos : Pos}
/-- a key as a datum -/
def kD : Key → D
  | .inl i => .int i
  | .inr x => .str x
theorem kD_rep {W : Wd} : ∀ k : Key, Rep mg W (kV k) (kD k)
  | .inl i => .int i
  | .inr x => .str x
theorem pair_get {kvs : List (Key × V)} {ds : List (Key × D)} {W : Wd} (hk : kvs.map (·.1) = ds.map (·.1)) (rs : Reps mg W (kvs.map (·.2)) (ds.map (·.2))) {i : Nat} {k : Key} {v : V} (h : kvs[i]? = some (k, v)) : ∃ d, ds[i]? = some (k, d) ∧ Rep mg W v d := by
  have h2 : (kvs.map (·.2))[i]? = some v := by rw [List.getElem?_map, h]; rfl
  obtain ⟨d, h3, r⟩ := rs.getV h2
  rw [List.getElem?_map] at h3
  have h1 : (kvs.map (·.1))[i]? = some k := by rw [List.getElem?_map, h]; rfl
  rw [hk, List.getElem?_map] at h1
  cases q : ds[i]? with
  | none =>
    rw [q] at h3
    cases h3
  | some p =>
    rw [q] at h1 h3
    obtain ⟨k', d'⟩ := p
    cases h1
    cases h3
    exact ⟨_, rfl, r⟩
abbrev dIKeys (f : DTE) : DTI := fun ρ Q E => f ρ (fun x => match x with
  | .dct kvs => Q (kvs.map fun kv => kD kv.1)
  | _ => False) E
theorem di_keys {tg e : Expr} {f : DTE} (h : DE Xs mg Wx e f) : DI Xs mg Wx tg e (dIKeys f) := by
  obtain ⟨t, h1, h2⟩ := h
  refine ⟨_, fun j => pi_keys (h1 j), fun B ρ Q E hf W σ H Q' hh e x q => h2 B ρ _ E hf W σ H _ hh e x fun W1 H1 v d s1 r1 k1 => ?_⟩
  cases r1 with
  | @dct a o kvs ds ha hk rs =>
    refine ⟨a, o, rfl, .inl ⟨kvs, s1.holds.same _ _ ha, q W1 H1 _ _ s1 ?_ k1⟩⟩
    have hl := len_keys hk
    intro W2 H2 le hh2
    have hd := hh2.same _ _ (le.h _ _ ha)
    refine ⟨fun i hi => ⟨hd, by rw [List.length_map] at hi; omega⟩, ⟨hd, by rw [List.length_map]; omega⟩, fun i x H3 hi y => ?_⟩
    obtain ⟨rfl, k, v, hkv, rfl⟩ := y
    obtain ⟨d, hd2, _⟩ := pair_get hk rs hkv
    exact ⟨W2, kD k, Step.refl hh2, by rw [List.getElem?_map, hd2]; rfl, kD_rep k⟩
  | _ => exact k1.elim
abbrev dIVals (f : DTE) : DTI := fun ρ Q E => f ρ (fun x => match x with
  | .dct kvs => Q (kvs.map (·.2))
  | _ => False) E
theorem di_vals {tg e : Expr} {f : DTE} {apos cpos : Pos} (h : DE Xs mg Wx e f) (hb : ∀ j, attributeBase e "values" (Xs j).env (eval e (Xs j).env) = eval e (Xs j).env := by intro _; rfl) (hl : (apos.endLine == cpos.line) = true := by rfl) : DI Xs mg Wx tg (.Call (.Attribute e "values" apos) [] [] cpos) (dIVals f) := by
  obtain ⟨t, h1, h2⟩ := h
  refine ⟨_, fun j => pi_values (h1 j) (hb j) hl, fun B ρ Q E hf W σ H Q' hh e x q => h2 B ρ _ E hf W σ H _ hh e x fun W1 H1 v d s1 r1 k1 => ?_⟩
  cases r1 with
  | @dct a o kvs ds ha hk rs =>
    refine ⟨a, o, kvs, rfl, s1.holds.same _ _ ha, q W1 H1 _ _ s1 ?_ k1⟩
    have hl := len_keys hk
    intro W2 H2 le hh2
    have hd := hh2.same _ _ (le.h _ _ ha)
    refine ⟨fun i hi => ⟨hd, by rw [List.length_map] at hi; omega⟩, ⟨hd, by rw [List.length_map]; omega⟩, fun i x H3 hi y => ?_⟩
    obtain ⟨rfl, k, hkv⟩ := y
    obtain ⟨d, hd2, r⟩ := pair_get hk rs hkv
    exact ⟨W2, d, Step.refl hh2, by rw [List.getElem?_map, hd2]; rfl, r.mono le⟩
  | _ => exact k1.elim
abbrev dIItems (f : DTE) : DTI := fun ρ Q E => f ρ (fun x => match x with
  | .dct kvs => Q (kvs.map fun kv => .tup [kD kv.1, kv.2])
  | _ => False) E
theorem di_items {e : Expr} {f : DTE} {apos cpos tpos : Pos} {elts : List Expr} {kk : Nat} (h : DE Xs mg Wx e f) (hb : ∀ j, attributeBase e "items" (Xs j).env (eval e (Xs j).env) = eval e (Xs j).env := by intro _; rfl) (hl : (apos.endLine == cpos.line) = true := by rfl) : DI Xs mg Wx (.Tuple elts kk tpos) (.Call (.Attribute e "items" apos) [] [] cpos) (dIItems f) := by
  obtain ⟨t, h1, h2⟩ := h
  refine ⟨_, fun j => pi_items (h1 j) (hb j) hl, fun B ρ Q E hf W σ H Q' hh e x q => h2 B ρ _ E hf W σ H _ hh e x fun W1 H1 v d s1 r1 k1 => ?_⟩
  cases r1 with
  | @dct a o kvs ds ha hk rs =>
    refine ⟨a, o, kvs, rfl, s1.holds.same _ _ ha, q W1 H1 _ _ s1 ?_ k1⟩
    have hl := len_keys hk
    intro W2 H2 le hh2
    have hd := hh2.same _ _ (le.h _ _ ha)
    refine ⟨fun i hi => ⟨hd, by rw [List.length_map] at hi; omega⟩, ⟨hd, by rw [List.length_map]; omega⟩, fun i x H3 hi y => ?_⟩
    obtain ⟨T, k, v, hkv, rfl, hT, rfl⟩ := y
    obtain ⟨d, hd2, r⟩ := pair_get hk rs hkv
    refine ⟨W2.put T (.tup [kV k, v]), .tup [kD k, d], Step.alloc hh2 hT, by rw [List.getElem?_map, hd2]; rfl, Rep.newTup (.cons (kD_rep k) (.cons (r.mono le) .nil)) (hh2.same.free hT)⟩
  | _ => exact k1.elim
/-! ### d.get(k, x) -/
end
end FP
/-! FP35: a list comprehension whose element raises. -/
namespace FP
open PySem L2
/-! ### the comprehension: what is wanted of an error, with the frame known -/
/-! ### the block's context, with a wish about errors -/
end FP
/-! FP36: the list comprehension whose element raises, by data. -/
namespace FP
open PySem L2
end FP
/-! FP37: a lambda without parameters is made: the heap behind it, told exactly. -/
namespace FP
open PySem L2 LamX
variable [Tabl]
/-- the heap behind the making: the same, or with one entry more in the table and a new code object -/
def Made (H : Hp) (P : Addr) (q : Str) (H1 : Hp) : Prop := H1 = H ∨ ∃ ps more c, H P = some (.tbl ps) ∧ H c = none ∧ H1 = upd (upd H P (.tbl (ps ++ more))) c (CodeO c q)
/-- the world is borne behind the making -/
theorem Made.step {W : Wd} {H H1 : Hp} {P : Addr} {q : Str} (hh : Holds W H) (mem : (P, q) ∈ Tabl.B) (m : Made H P q H1) (tabs : Tabs Tabl.B H1) : Step W H W H1 := by
  rcases m with rfl | ⟨ps, more, c, hP, nC, rfl⟩
  · exact Step.refl hh
  have tP : W.T P := (hh.tab _ mem).1
  have at' : ∀ b, b ≠ P → b ≠ c → upd (upd H P (.tbl (ps ++ more))) c (CodeO c q) b = H b := fun b h1 h2 => by rw [upd_ne h2, upd_ne h1]
  have atP : upd (upd H P (.tbl (ps ++ more))) c (CodeO c q) P = some (.tbl (ps ++ more)) := by rw [upd_ne (ne_of_none hP nC), upd_same]
  have nc : ∀ {b u}, H b = some u → b ≠ c := fun e => ne_of_none e nC
  have live : ∀ b o, H b = some o → ∃ o', upd (upd H P (.tbl (ps ++ more))) c (CodeO c q) b = some o' := fun b o e => by
    by_cases hb : b = P
    · rw [hb, atP]
      exact ⟨_, rfl⟩
    · rw [at' b hb (nc e)]
      exact ⟨o, e⟩
  have nP : ∀ b o, W.H b = some o → b ≠ P := fun b o e k => by
    rw [k, (hh.exm P tP).1] at e
    cases e
  refine ⟨Le.refl W, ⟨fun b o e => ?_, fun a t => ?_, fun a t => ?_, fun p hp => ⟨(hh.tab p hp).1, tabs p hp⟩, fun b qs e => ?_⟩, fun b o e nt => ?_, fun _ _ _ => rfl, fun _ t => .inl t, live⟩
  · rw [at' b (nP b o e) (nc (hh.same b o e))]
    exact hh.same b o e
  · obtain ⟨h1, o, h2⟩ := hh.exm a t
    exact ⟨h1, live a o h2⟩
  · obtain ⟨h1, x, y, z, h2⟩ := hh.tok a t
    have ne : a ≠ P := fun k => by
      rw [k, hP] at h2
      cases h2
    exact ⟨h1, x, y, z, by rw [at' a ne (nc h2)]; exact h2⟩
  · by_cases hb : b = P
    · exact ⟨q, by rw [hb]; exact mem⟩
    · by_cases hc : b = c
      · rw [hc, upd_same] at e
        exact absurd (Option.some.inj e) (codeO_ne _)
      · rw [at' b hb hc] at e
        exact hh.all b qs e
  · have ne : b ≠ P := fun k => nt (by rw [k]; exact tP)
    rw [at' b ne (nc e)]
    exact e
end FP
/-! FP38: x(lambda: e), where x calls what it got. -/
namespace FP
open PySem L2 LamX
variable [Tabl]
/-- the data of an environment alone -/
def Sl.only : Sl → Sl
  | .d x => .d x
  | _ => .no
abbrev dataE (ρ : Env) : Env := ρ.map Sl.only
theorem EnvR.data {mg : Gm} {B B' : Hp} {W W' : Wd} {H H' : Hp} {σ : St} {ρ : Env} (e : EnvR mg B W H σ ρ) (l : Le W W') : EnvR mg B' W' H' σ (dataE ρ) := by
  refine ⟨by simpa using e.len, fun i s h => ?_, fun i j xs ys o1 o2 a _ h1 _ _ _ m1 _ => ?_⟩
  · rw [List.getElem?_map] at h
    cases q : ρ[i]? with
    | none =>
      rw [q] at h
      cases h
    | some s0 =>
      rw [q] at h
      cases h
      obtain ⟨o, h1, h2⟩ := e.sl _ _ q
      refine ⟨o, h1, ?_⟩
      cases s0 with
      | d x =>
        obtain ⟨v, h3, h4⟩ := h2
        exact ⟨v, h3, h4.mono l⟩
      | _ => exact True.intro
  · rw [List.getElem?_map] at h1
    cases q : ρ[i]? with
    | none =>
      rw [q] at h1
      cases h1
    | some s0 =>
      rw [q] at h1
      cases h1
      cases s0 <;> cases m1
/-! ### what was got is called -/
/-! ### a def that calls what it got -/
end FP
/-! FP39: the end of a law whose defs make lambdas. -/
namespace FP
open PySem PySem.Spec PyProof.Rows L2 LamX
end FP
/-! FP40: dict(list of pairs); facts of operators and of exceptions. -/
namespace FP
open PySem L2
variable [Tabl]
section
variable {ι : Type} {Xs : ι → Cx} {mg : Gm} {Wx : WX} {pos : Pos}
def pairsD : List D → Option (List (Key × D))
  | [] => some []
  | .tup [k, v] :: xs => match keyD k, pairsD xs with
    | some k, some r => some ((k, v) :: r)
    | _, _ => none
  | _ => none
def mergeD (kvs more : List (Key × D)) : List (Key × D) := more.foldl (fun acc kv => putKD acc kv.1 kv.2) kvs
def rdDictP : RDL := fun ds Q => match ds with
  | [.lst xs] => ∃ kvs, pairsD xs = some kvs ∧ Q (.dct (mergeD [] kvs))
  | _ => False
theorem pairs_v {W : Wd} {H : Hp} (hh : Holds W H) : ∀ {vs : List V} {xs : List D} {kvs : List (Key × D)}, Reps mg W vs xs → pairsD xs = some kvs → ∃ (ps : List Addr) (us : List (Key × V)), vs = ps.map V.ref ∧ Paired (fun p kv => SqT mg.K H p [kV kv.1, kv.2]) ps us ∧ us.map (·.1) = kvs.map (·.1) ∧ Reps mg W (us.map (·.2)) (kvs.map (·.2))
  | _, _, _, .nil, e => by
    cases e
    exact ⟨[], [], rfl, .nil, rfl, .nil⟩
  | _, _, kvs, .cons (d := d) (ds := ds) r t, e => by
    cases r with
    | @tup a vs' ds' ha rs =>
      match ds', rs with
      | [k, v], .cons (v := x) rk (.cons (v := y) rv .nil) =>
        unfold pairsD at e
        cases hk : keyD k with
        | none =>
          rw [hk] at e
          cases e
        | some kk =>
          cases hp : pairsD ds with
          | none =>
            rw [hk, hp] at e
            cases e
          | some kr =>
            rw [hk, hp] at e
            cases e
            obtain ⟨ps, us, h1, h2, h3, h4⟩ := pairs_v hh t hp
            have ek := keyD_v rk hk
            subst ek
            exact ⟨a :: ps, (kk, y) :: us, by rw [h1]; rfl, .cons (SqT.of (hh.same _ _ ha)) h2, by rw [List.map_cons, List.map_cons, h3], .cons rv h4⟩
    | _ => cases e
theorem merge_v {W : Wd} : ∀ {us : List (Key × V)} {kvs : List (Key × D)} {us0 : List (Key × V)} {kvs0 : List (Key × D)}, us.map (·.1) = kvs.map (·.1) → Reps mg W (us.map (·.2)) (kvs.map (·.2)) → us0.map (·.1) = kvs0.map (·.1) → Reps mg W (us0.map (·.2)) (kvs0.map (·.2)) →
    (mergeK us0 us).map (·.1) = (mergeD kvs0 kvs).map (·.1) ∧ Reps mg W ((mergeK us0 us).map (·.2)) ((mergeD kvs0 kvs).map (·.2))
  | [], [], _, _, _, _, h3, h4 => ⟨h3, h4⟩
  | (k, v) :: us, (k', d) :: kvs, _, _, h1, h2, h3, h4 => by
    rw [List.map_cons, List.map_cons] at h1
    injection h1 with e1 e2
    have e1 : k = k' := e1
    subst e1
    cases h2 with
    | cons r t =>
      obtain ⟨g1, g2⟩ := put_rep (k := k) h3 h4 r
      exact merge_v (us := us) (kvs := kvs) (us0 := putK _ k v) (kvs0 := putKD _ k d) e2 t g1 g2
  | [], _ :: _, _, _, h1, _, _, _ => by cases h1
  | _ :: _, [], _, _, h1, _, _, _ => by cases h1
theorem cr_dictP {X : Cx} {K : PySem.W.Frag} (h : X.K = K) (hc : X.calm = true) : CallR X (.type "dict") (fun xs H Q => ∃ (a : Addr) (ps : List Addr) (kvs : List (Key × V)), xs = [.ref a] ∧ SqL K H a (ps.map V.ref) ∧ Paired (fun p kv => SqT K H p [kV kv.1, kv.2]) ps kvs ∧
    ∀ p, H p = none → Q (.ref p) (upd H p (.dK (mergeK [] kvs)))) := by
  subst h
  exact call_dictP hc
theorem de_dictP {p : Pos} {e : Expr} {f : DTE} (h : DE Xs mg Wx e f) (hm : mg.mg "dict" = none) (hv : bootBuiltins "dict" = some (.type "dict")) (hK : ∀ j, (Xs j).K = mg.K := by intro _; rfl) (hM : ∀ j, (Xs j).mg = mg.mg := by intro _; rfl) (hc : ∀ j, (Xs j).calm = true := by intro _; rfl) (hg : ∀ j, Gl (Xs j) "dict" := by intro _; rfl)
    (he : ∀ i, starEach [e] (Xs i).env = (false, eval e (Xs i).env) :: starEach [] (Xs i).env := by intro _; rfl) : DE Xs mg Wx (.Call (.Name "dict" p) [e] [] pos) (dCB rdDictP (dCons f dNil)) := by
  obtain ⟨t, h1, h2⟩ := da_cons h da_nil he
  refine ⟨_, fun i => pe_lk (pe_callTy (cr_dictP (hK i) (hc i)) (hg i) (by rw [hM i]; exact hm) hv (h1 i) (by decide) (by decide) (he i) rfl), ?_⟩
  intro B ρ Q E hf W σ H Q' hh en x q
  refine h2 B ρ _ E hf W σ H _ hh en x fun W1 H1 vs ds s1 r1 k1 => ?_
  match ds, r1, k1 with
  | [.lst xs], .cons (v := v) r .nil, ⟨kvs, hk, k2⟩ =>
    cases r with
    | @lst a us _ ha rs =>
      obtain ⟨ps, ws, g1, g2, g3, g4⟩ := pairs_v s1.holds rs hk
      refine ⟨a, ps, ws, rfl, by rw [← g1]; exact SqL.of (s1.holds.same _ _ ha), g2, fun p n => ⟨p, _, rfl, upd_same, True.intro, fun od => ?_⟩⟩
      rw [upd_upd]
      obtain ⟨m1, m2⟩ := merge_v (us0 := []) (kvs0 := []) g3 g4 rfl .nil
      exact q _ _ _ _ (s1.trans (Step.alloc s1.holds n)) (Rep.newDct m1 m2 (s1.holds.same.free n)) k2
/-- one of two readings of an operator -/
theorem OpOk.or {f : Value → Value → Sem Value} {rd rd' : RD2} (a : OpOk Xs mg f rd) (b : OpOk Xs mg f rd') : OpOk Xs mg f (fun x y Q => rd x y Q ∨ rd' x y Q) := by
  obtain ⟨r, a1, a2⟩ := a
  obtain ⟨r', b1, b2⟩ := b
  refine ⟨fun x y H Q => r x y H Q ∨ r' x y H Q, fun i pins s σ H x y v u Q I rx ry h => ?_, fun W H x y dx dy Q Q' hh rx ry h q => ?_⟩
  · rcases h with h | h
    · exact a1 i pins s σ H x y v u Q I rx ry h
    · exact b1 i pins s σ H x y v u Q I rx ry h
  · rcases h with h | h
    · exact .inl (a2 W H x y dx dy Q Q' hh rx ry h q)
    · exact .inr (b2 W H x y dx dy Q Q' hh rx ry h q)
/-! ### facts of operators -/
end
/-! ### facts of exceptions -/
abbrev veBm : List Value := [.type "ValueError", .type "Exception", .type "BaseException", .type "object"]
theorem veB : ExcBaseFacts "ValueError" "ValueError.__new__" "ValueError.__init__" veBm := PySem.F.excBase_ValueError
theorem InitOk.imp {P : Program} {w : World} {mg : Gm} {base : Heap} {k n : Nat} {c : Str} {C : Addr} {f f' : List D → ((List (Str × D)) → Prop) → (XD → Prop) → Prop} (G : InitOk P w mg base k c C n f) (h : ∀ ds Q E, f' ds Q E → f ds Q E) : InitOk P w mg base k c C n f' := by
  obtain ⟨fa, fd, ps, h1, h2, h3, F⟩ := G.ex
  refine ⟨fa, fd, ps, h1, h2, h3, F.imp ?_⟩
  rintro vs H Q E ⟨W, ds, us, H1, x, dx, Qd, Ed, g1, g2, g3, g4, g5, g6, g7, g8, g9, g10⟩
  exact ⟨W, ds, us, H1, x, dx, Qd, Ed, g1, g2, g3, g4, g5, g6, g7, g8, h _ _ _ g9, g10⟩
end FP
/-! FP41: displays of dicts. -/
namespace FP
open PySem L2
variable [Tabl]
section
variable {ι : Type} {Xs : ι → Cx} {mg : Gm} {Wx : WX} {pos : Pos}
abbrev DTP := Env → M (List (Key × D))
def CpPs (mg : Gm) (Wx : WX) (trs : List (TE × TE)) (f : DTP) : Prop := ∀ B ρ Q E, f ρ Q E → ∀ W σ H Q', Holds W H → EnvR mg B W H σ ρ → ExR mg Wx W H σ E →
  (∀ W' H' (kvs : List (Key × V)) (ds : List (Key × D)), Step W H W' H' → kvs.map (·.1) = ds.map (·.1) → Reps mg W' (kvs.map (·.2)) (ds.map (·.2)) → Q ds → Q' (kvs.map fun kv => (kV kv.1, kv.2)) H') → tPairs trs σ H Q'
def DPs (Xs : ι → Cx) (mg : Gm) (Wx : WX) (pos : Pos) (ks : List (Option Expr)) (vs : List Expr) (f : DTP) : Prop := ∃ trs, (∀ i, PPs (Xs i) pos ks vs trs) ∧ CpPs mg Wx trs f
abbrev dPn : DTP := fun _ Q _ => Q []
abbrev dPc (fk fv : DTE) (g : DTP) : DTP := fun ρ Q E => fk ρ (fun x => fv ρ (fun y => ∃ k, keyD x = some k ∧ g ρ (fun r => Q ((k, y) :: r)) E) E) E
theorem dps_nil : DPs Xs mg Wx pos [] [] dPn := ⟨[], fun _ => pps_nil, fun B ρ Q E h W σ H Q' hh _ _ q => q W H [] [] (Step.refl hh) rfl .nil h⟩
theorem dps_cons {k v : Expr} {ks : List (Option Expr)} {vs : List Expr} {fk fv : DTE} {g : DTP} (hk : DE Xs mg Wx k fk) (hv : DE Xs mg Wx v fv) (hr : DPs Xs mg Wx pos ks vs g) : DPs Xs mg Wx pos (some k :: ks) (v :: vs) (dPc fk fv g) := by
  obtain ⟨tk, a1, a2⟩ := hk
  obtain ⟨tv, b1, b2⟩ := hv
  obtain ⟨trs, c1, c2⟩ := hr
  refine ⟨_, fun i => pps_cons (a1 i) (b1 i) (c1 i), fun B ρ Q E hf W σ H Q' hh e x q => ?_⟩
  refine a2 B ρ _ E hf W σ H _ hh e x fun W1 H1 v1 d1 s1 r1 k1 => ?_
  refine b2 B ρ _ E k1 W1 σ H1 _ s1.holds (e.step s1) (x.step s1) fun W2 H2 v2 d2 s2 r2 k2 => ?_
  obtain ⟨kk, hkk, k3⟩ := k2
  have s12 := s1.trans s2
  refine c2 B ρ _ E k3 W2 σ H2 _ s2.holds (e.step s12) (x.step s12) fun W3 H3 kvs ds s3 h1 h2 k4 => ?_
  have ek := keyD_v r1 hkk
  subst ek
  exact q W3 H3 ((kk, v2) :: kvs) ((kk, d2) :: ds) (s12.trans s3) (by rw [List.map_cons, List.map_cons, h1]) (.cons (r2.mono s3.le) h2) k4
abbrev dDisp (g : DTP) : DTE := fun ρ Q E => g ρ (fun kvs => kvs.length ≤ 15 ∧ Q (.dct (mergeD [] kvs))) E
theorem de_disp {ks : List (Option Expr)} {vs : List Expr} {g : DTP} (h : DPs Xs mg Wx pos ks vs g) (hall : ks.all (·.isSome) = true := by rfl) (hl : ks.length = vs.length := by rfl) (h0 : ks ≠ [] := by intro h; cases h) (h15 : ks.length ≤ 15 := by decide) : DE Xs mg Wx (.Dict ks vs pos) (dDisp g) := by
  obtain ⟨trs, h1, h2⟩ := h
  refine ⟨_, fun i => pe_lk (pe_disp (h1 i) hall hl h0 h15), ?_⟩
  intro B ρ Q E hf W σ H Q' hh e x q p hp
  have s0 := Step.lay hh hp (o := .dK [])
  refine h2 B ρ _ E hf W σ (upd H p (.dK [])) _ s0.holds (e.step s0) (x.step s0) fun W' H' kvs ds s1 hk hr ⟨hn, k2⟩ => ?_
  obtain ⟨c1, c2, c3⟩ := s1.mine (a := p) upd_same (hh.same.free hp) (hh.nT hp)
  refine ⟨c1, kvs, rfl, by rw [len_keys hk]; exact hn, p, _, rfl, upd_same, True.intro, fun od => ?_⟩
  rw [upd_upd]
  obtain ⟨m1, m2⟩ := merge_v (us0 := []) (kvs0 := []) hk hr rfl .nil
  exact q _ _ _ _ (((s0.trans s1).own hp c1 c2 c3).taken hp upd_same c2 c3) (Rep.newDct m1 m2 c2) k2
end
end FP
/-! FP42: own exceptions with one field: made and raised; several except clauses, with and without a name; the field read. -/
namespace PySem
namespace XcM
open PySem.W PySem.Calls PyProof.Rows PySem.HandSPX Builtin Builtin.ObjectAttr
/-! ### the text of the __init__ -/
def initA (f : Str) (p1 p2 : Pos) : Arguments := { posonlyargs := [], args := [{ arg := "self", annotation := none, pos := p1 }, { arg := f, annotation := none, pos := p2 }], vararg := none, kwonlyargs := [], kw_defaults := [], kwarg := none, defaults := [] }
def initB (f : Str) (q1 q2 q3 q4 : Pos) : List Stmt := [.Assign [.Attribute (.Name "self" q1) f q2] (.Name f q3) q4]
def initS (f : Str) : Scope := { kind := .function, names := [("self", .local), (f, .local)], isGenerator := false, isCoroutine := false, more := [] }
/-- a def of this text -/
structure IsInit (f : Str) (A : Arguments) (b : List Stmt) (sc : Scope) : Prop where
  ne : f ≠ "self"
  nd : (f == ("__debug__" : Str)) = false
  a : ∃ p1 p2, A = initA f p1 p2
  b : ∃ q1 q2 q3 q4, b = initB f q1 q2 q3 q4
  s : sc = initS f
/-- what the written part says of an own exception class over a built-in one, at C, and of its __init__, at fI, that keeps its one argument -/
structure XcT (K : Frag) (C fI : Addr) (f : Str) (bmB : List Value) (newId : String) : Prop where
  ei : excInitIn K C bmB newId = true
  ov : excOver K C bmB = true
  sa : findIn K (.ref C) "__setattr__" = some (some (.builtin "object.__setattr__"))
  no : findIn K (.ref C) f = some none
  hd : hasDictIn K C = true
  iC : findIn K (.ref C) "__init__" = some (some (.ref fI))
  iF : isFn K (.ref fI) = true
  fn : ∃ (nm qual : Str) (A : Arguments) (b : List Stmt) (sc : Scope) (oc : Value) (od : Option Addr) (dV kV doc pm : Value) (an : Option Addr) (cdv ct : Value) (osl : Array (Option Value)),
    K.lookup fI = some ⟨oc, od, .func (fnOf nm qual A b sc dV kV doc pm an cdv ct), osl⟩ ∧ codeIn K cdv qual = true ∧ IsInit f A b sc ∧
      ∀ x v, bindArgs (fnOf nm qual A b sc dV kV doc pm an cdv ct) ⟨[x, v], []⟩ = pure [(("self" : Str), x), (f, v)]
section
variable {prog : Program} {w : World} {A : Around} {E : Value → Shared → Prop} {R : Result → Shared → Prop} {K : Frag} {C fI : Addr} {f : Str} {B newId initId : String} {bmB : List Value}
/-- the first field of an exception without a dict -/
theorem osa_one {hp : Heap} {g : Array GenState} {d : Drawn} {t : Nat} {os : OsState} {tk : Tok} {v : Value} {x : Addr} {fv : Array Value} (SF : StoreFacts B bmB "object.__setattr__" "object") (X : K.In hp) (T : XcT K C fI f bmB newId) (hx : hp.get? x = some { cls := .ref C, data := .fields fv })
    (hq : ∀ h' tk' dx, (∀ b o, b ≠ x → hp.get? b = some o → h'.get? b = some o) → hp.objs.size ≤ dx → dx ≠ x → h'.get? x = some { cls := .ref C, dict := some dx, data := .fields fv } →
      h'.Ns1 dx (fun y => if y = f then some v else none) → R (.ok (.ret .none)) ⟨h', g, d, tk', os⟩) :
    codeAny (model prog w) A (.call (.builtin "object.__setattr__") ⟨[.ref x, .str f tk, v], []⟩) R ⟨hp, g, d, t, os⟩ := by
  have J : InstAt hp x { cls := .ref C, data := .fields fv } C none := ⟨hx, rfl, rfl, trivial⟩
  have ht : takerIn K C f = some none := by
    unfold takerIn
    rw [T.no]
    rfl
  refine osa_openX SF X J T.ov ht fun b => ?_
  obtain ⟨cd, hc, -⟩ := any_some T.ov
  have hh : cd.hasDict = true := by
    have q := T.hd
    unfold hasDictIn at q
    rw [hc] at q
    exact q
  have hcls : Looks (model prog w) hp (classData C) cd := looks_clsIn X hc
  have hxs : x ≠ hp.objs.size := Nat.ne_of_lt (Heap.lt_size hx)
  show wpAny _ _ (storeInOwnDict (.ref x) (.ref C) (.str f tk) f v b) _ _ _
  obtain ⟨nm, bs, mro, ns, qn, hd, sn, sb, ab, col, del⟩ := cd
  dsimp only at hh
  subst hh
  unfold storeInOwnDict ownDictForStores
  repeat (first | with_reducible refine store_in_new ?_ ?_ | with_reducible refine wpAny_loadPart_at hx ?_ | with_reducible refine hcls.at ?_ | wp_step)
  · exact ⟨_, #[], _, (Heap.get?_update_ne _ _ _ _ hxs.symm).trans (Heap.get?_push_at rfl rfl), rfl, fun e he => absurd he (by simp), fun _ => rfl⟩
  · intro h' tk' hn' hs
    refine hq h' tk' hp.objs.size (fun b o hb ho => ?_) (Nat.le_refl _) hxs.symm ?_ hn'
    · exact (hs.2 b (Nat.ne_of_lt (Heap.lt_size ho))).trans ((Heap.get?_update_ne _ _ _ _ hb).trans (Heap.get?_push_of_some _ ho))
    · exact (hs.2 x hxs).trans (Heap.get?_update_self _ (Heap.get?_push_of_some _ hx) rfl)
/-- what the making leaves: the exception at e, its dict at dd -/
structure XMade (h h' : Heap) (e C dd : Addr) (f : Str) (v : Value) : Prop where
  up : ∀ b o, h.get? b = some o → h'.get? b = some o
  ge : h.objs.size ≤ e
  ob : ∃ oe vs, h'.get? e = some oe ∧ oe.cls = .ref C ∧ oe.dict = some dd ∧ oe.data = .fields vs ∧ vs[1]? = some .none
  gd : h.objs.size ≤ dd
  ne : dd ≠ e
  ns : h'.Ns1 dd (fun y => if y = f then some v else none)
theorem init_run {s : Shared} (SF : StoreFacts B bmB "object.__setattr__" "object") (T : XcT K C fI f bmB newId) {x t0 : Addr} {v : Value} (X : K.In s.heap) (hlim : s.heap.NoLimit) (hx : s.heap.get? x = some (excO C t0)) (hroom : A.depth < recursionLimit)
    (hq : ∀ h' tk dx, (∀ b o, b ≠ x → s.heap.get? b = some o → h'.get? b = some o) → h'.get? x = some { cls := .ref C, dict := some dx, data := .fields #[.ref t0, .none, .none, .none, .bool false, .none] } → s.heap.objs.size ≤ dx → dx ≠ x → h'.Ns1 dx (fun y => if y = f then some v else none) →
      R (.ok (.ret .none)) { s with heap := h', toks := tk }) :
    codeAny (model prog w) A (.call (.ref fI) ⟨[.ref x, v], []⟩) R s := by
  obtain ⟨nm, qual, A', b', sc, oc, od, dV, kV, doc, pm, an, cdv, ct, osl, ho, hcd, ⟨hne, hnd, ⟨p1, p2, rfl⟩, ⟨q1, q2, q3, q4, rfl⟩, rfl⟩, hb⟩ := T.fn
  have lk1 : (initS f).names.lookup ("self" : Str) = some NameKind.local := rfl
  have lk2 : (initS f).names.lookup f = some NameKind.local := by
    have e : (f == ("self" : Str)) = false := by simpa using hne
    simp [initS, List.lookup, e]
  refine Att.call_fn (binds := [(("self" : Str), .ref x), (f, v)]) X hlim ho hcd hroom (BindsTo.of_eq (hb _ _)) (by simp [lk1, lk2]) (fun s₁ IC => ?_) rfl rfl rfl
  obtain ⟨h₁, tk₁, rfl⟩ := IC.toInCall.same
  have k := IC.toInCall.keep
  have hn := IC.toInCall.ns
  have hx₁ := k _ _ hx
  have m1 : bindL (envOfC qual (initS f) s.heap.objs.size fI cdv).kindOf [(("self" : Str), .ref x), (f, v)] (fun _ => none) "self" = some (.ref x) := by
    have z1 : (envOfC qual (initS f) s.heap.objs.size fI cdv).kindOf "self" = some .local := lk1
    have z2 : (envOfC qual (initS f) s.heap.objs.size fI cdv).kindOf f = some .local := lk2
    simp only [bindL, z1, z2, if_pos]
    rw [if_neg (Ne.symm hne)]
  have m2 : bindL (envOfC qual (initS f) s.heap.objs.size fI cdv).kindOf [(("self" : Str), .ref x), (f, v)] (fun _ => none) f = some v := by
    have z2 : (envOfC qual (initS f) s.heap.objs.size fI cdv).kindOf f = some .local := lk2
    simp only [bindL, z2, if_pos]
  show wpAny _ _ (execs _ _) _ _ _
  refine wpAny_execs_cons (plainObj_wpAny_Assign_Attribute ?_)
  refine wpAny_Name (wpAny_loadName_local rfl lk2 hn m2 ?_) hnd
  refine wpAny_Name (wpAny_loadName_local rfl lk1 hn m1 ?_) (by decide)
  refine set_plain (X.keeps k) (ox := excO C t0) (od := none) ⟨hx₁, rfl, rfl, trivial⟩ T.sa ?_
  refine osa_one SF (X.keeps k) T hx₁ fun h₃ tk₃ dx k₃ dn dne hx₃ hn₃ => ?_
  show wpAny _ _ (execs _ _) _ _ _
  exact wpAny_execs_nil (hq h₃ tk₃ dx (fun b o hb e => k₃ b o hb (k b o e)) hx₃ (Nat.le_of_lt (Nat.lt_of_lt_of_le hn.lt dn)) dne hn₃)
theorem made_run {s : Shared} (FB : ExcBaseFacts B newId initId bmB) (SF : StoreFacts B bmB "object.__setattr__" "object") (T : XcT K C fI f bmB newId) {v : Value} (X : K.In s.heap) (hlim : s.heap.NoLimit) (hroom : A.depth + 1 < recursionLimit)
    (hq : ∀ h' tk e d, XMade s.heap h' e C d f v → R (.ok (.ret (.ref e))) { s with heap := h', toks := tk }) : codeAny (model prog w) A (.call (.ref C) ⟨[v], []⟩) R s := by
  obtain ⟨nm, N, qn, bs, bm, hdct, sn, sub, ab, col, dd, k0, k1, k2, k3, k5, hC, hT⟩ := excInit_of X T.ei
  obtain ⟨oI, hoI, hcI⟩ : ∃ oI, s.heap.get? fI = some oI ∧ oI.cls = .type "function" := by
    obtain ⟨o, z1, z2⟩ := Option.map_eq_some_iff.mp (show (K.lookup fI).map (·.cls) = some (.type "function") from beq_iff_eq.mp T.iF)
    exact ⟨o, X _ _ z1, z2⟩
  have hfind : Looks (model prog w) s.heap (typeLookup (.ref C) "__init__") (some (.ref fI)) := looks_findIn X T.iC
  obtain ⟨hp, g, dr, tk, os⟩ := s
  have up : ∀ b o, hp.get? b = some o → ((hp.push (kdv_tup [v])).push (excO C hp.objs.size)).get? b = some o := fun b o e => Heap.get?_push_of_some _ (Heap.get?_push_of_some _ e)
  have new : ((hp.push (kdv_tup [v])).push (excO C hp.objs.size)).get? (hp.objs.size + 1) = some (excO C hp.objs.size) := by heap_get
  refine call_own FB hT hC hfind (fun self => exc_bind hoI hcI self) (by rw [sizeLine_eq]; exact (by decide : 1 ≤ 16777216)) ?_
  refine init_run (s := ⟨(hp.push (kdv_tup [v])).push (excO C hp.objs.size), g, dr, tk, os⟩) SF T (X.keeps up) (hlim.keeps up) new hroom fun h' tk' dx k' hx dn dne hns => ⟨rfl, hq h' tk' (hp.objs.size + 1) dx ⟨fun b o e => ?_, Nat.le_succ _, ⟨_, _, hx, rfl, rfl, rfl, rfl⟩, ?_, dne, hns⟩⟩
  · exact k' b o (Nat.ne_of_lt (Nat.lt_succ_of_lt (Heap.lt_size e))) (up b o e)
  · have q : ((hp.push (kdv_tup [v])).push (excO C hp.objs.size)).objs.size ≤ dx := dn
    rw [Heap.size_push, Heap.size_push] at q
    exact Nat.le_trans (Nat.le_add_right hp.objs.size 2) q
end
end XcM
end PySem
namespace FP
open PySem L2
variable [Tabl]
/-- an own exception class with one field, of the text -/
structure XcF (mg : Gm) (x : Str) (C : Addr) (f : Str) (bmB : List Value) (newId : String) : Prop where
  nm : mg.mg x = some (.ref C)
  t : ∃ fI, PySem.XcM.XcT mg.K C fI f bmB newId
  kp : PySem.W.keepIn mg.K (.ref C) = true
  sb : PySem.W.subIn mg.K (.ref C) (.type "BaseException") = some true
  ty : PySem.W.typeIn mg.K (.ref C) = some (.type "type")
  ga : PySem.W.findIn mg.K (.ref C) "__getattribute__" = some (some (.builtin "BaseException.__getattribute__"))
  gg : PySem.W.findIn mg.K (.ref C) "__getattr__" = some none
section
variable {X : Cx} {C fI : Addr} {f : Str} {B newId initId : String} {bmB : List Value}
theorem relO_one {v : V} {v' : Value} (r : RelV v v') (g : Str) : RelO (List.lookup g [(f, v)]) (if g = f then some v' else none) := by
  by_cases h : g = f
  · subst h
    have q : List.lookup g [(g, v)] = some v := by simp [List.lookup]
    rw [q, if_pos rfl]
    exact r
  · have e : (g == f) = false := by simpa using h
    have q : List.lookup g [(f, v)] = none := by simp [List.lookup, e]
    rw [q, if_neg h]
    exact True.intro
/-- X(e): the exception, its dict -/
theorem pmk_one {a : Expr} {x : Str} {ta : TE} {p pos : Pos} {k : Nat} (FB : ExcBaseFacts B newId initId bmB) (SF : StoreFacts B bmB "object.__setattr__" "object") (T : PySem.XcM.XcT X.K C fI f bmB newId) (gC : X.mg x = some (.ref C)) (kC : PySem.W.keepIn X.K (.ref C) = true) (r : Raises X (.ref C)) (hr : Room k X.A) (ha : PE X a ta) (hg : Gl X x)
    (hdb : (x == ("__debug__" : Str)) = false) (hs : starEach [a] X.env = (false, eval a X.env) :: starEach [] X.env) :
    PMk X (.Call (.Name x p) [a] [] pos) (fun σ H Q => ta σ H fun v H1 => ∀ d, H1 d = none → Q (.ref C) (some d) (upd H1 d (.xd [(f, v)]))) := by
  intro pins s σ H Q I h
  refine wpAny_Call_Name_kw (ld_glob I hg gC ?_ hdb)
  refine PySem.W.callWith_K (h₀ := X.base) I.ok.mod.kin kC ?_ hs (by rfl)
  rw [hs]
  show wpAny _ _ (spliced ((false, eval a X.env) :: backTo pos (starEach [] X.env))) _ _ s
  refine Calls.spliced_cons (thn (ha.run pins s σ H _ I h) fun u s1 ⟨v, H1, I1, rv, q1⟩ => ?_)
  refine Calls.spliced_nil ⟨I1.kIn, ?_⟩
  show wpAny _ _ (call (.ref C) [u]) _ _ _
  have hlim := I1.nolimit
  obtain ⟨hp, g, dr, tk, os⟩ := s1
  refine wpAny_call (PySem.XcM.made_run FB SF T I1.kIn hlim (by have := hr.dp; omega) fun h' tk' e d M => ?_)
  show MkP X pins σ Q (.ref e) ⟨h', g, dr, tk', os⟩
  obtain ⟨oe, fv, hoe, hc, hd, hdat, h1⟩ := M.ob
  obtain ⟨G, g1, g2⟩ := restrict h' fun b => decide (b ≠ e)
  have gk : ∀ b, b ≠ e → G.get? b = h'.get? b := fun b hb => g1 b (decide_eq_true hb)
  have ge : G.get? e = none := g2 e (by simp)
  have ob : ObjOk X.prog X.w (upd H1 d (.xd [(f, v)])) G d (.xd [(f, v)]) := ⟨_, M.ns.at (fun o q => (gk d M.ne).trans q), fun y => relO_one rv y⟩
  have J : Inv X pins σ (upd H1 d (.xd [(f, v)])) ⟨G, g, dr, tk', os⟩ :=
    I1.laid (t' := tk') (fun b o q => (gk b (Nat.ne_of_lt (Nat.lt_of_lt_of_le (Heap.lt_size q) M.ge))).trans (M.up b o q)) M.gd ob
  refine ⟨e, oe, fv, ⟨G, g, dr, tk', os⟩, _, .ref C, some d, rfl, J, fun b o q => ?_, ge, hoe, ⟨hc, hd⟩, hdat, h1, ?_, rfl, I1.bare, r, q1 d (I1.hok.fresh M.gd)⟩
  · by_cases hb : b = e
    · rw [hb] at q
      exact absurd (ge.symm.trans q) (by simp)
    · exact (gk b hb).symm.trans q
  · rw [upd_ne (Ne.symm M.ne)]
    exact I1.hok.fresh M.ge
end
section
variable {ι : Type} {Xs : ι → Cx} {mg : Gm} {Wx : WX} {pos : Pos}
abbrev dRaiseA (x f : Str) (g : DTE) : DTS := fun N ρ => g ρ (fun d => N.rs ⟨x, [(f, d)]⟩ ρ) (fun y => N.rs y ρ)
theorem ds_raiseA {x f : Str} {C : Addr} {bmB : List Value} {B newId initId : String} {e : Expr} {fe : DTE} {p q : Pos} {k : Nat} (FB : ExcBaseFacts B newId initId bmB) (SF : StoreFacts B bmB "object.__setattr__" "object") (X : XcF mg x C f bmB newId) (hr : ∀ i, RmG k (Xs i).A) (tk : ∀ i, Takes (Xs i) Wx) (he : DE Xs mg Wx e fe)
    (hK : ∀ j, (Xs j).K = mg.K := by intro _; rfl) (hM : ∀ j, (Xs j).mg = mg.mg := by intro _; rfl) (hc : ∀ j, (Xs j).calm = true := by intro _; rfl) (hg : ∀ j, Gl (Xs j) x := by intro _; rfl) (hdb : (x == ("__debug__" : Str)) = false := by decide)
    (hs : ∀ j, starEach [e] (Xs j).env = (false, eval e (Xs j).env) :: starEach [] (Xs j).env := by intro _; rfl) : DS Xs mg Wx (.Raise (some (.Call (.Name x p) [e] [] q)) none pos) (dRaiseA x f fe) := by
  obtain ⟨te, e1, e2⟩ := he
  obtain ⟨fI, T⟩ := X.t
  refine ⟨_, fun i => ps_raise (pos := pos) (hc i) (tk i) (pmk_one (p := p) (pos := q) FB SF (by rw [hK i]; exact T) (by rw [hM i]; exact X.nm) (by rw [hK i]; exact X.kp) (raises_own (by rw [hK i]; exact X.sb) (by rw [hK i]; exact X.ty)) (hr i).r (e1 i) (hg i) hdb (hs i)), fun W0 B N ρ hf W σ H Ds s e n => ?_⟩
  refine e2 B ρ _ _ hf W σ H _ s.holds e (n.ex s e) fun W1 H1 v d s1 r1 k1 p hp => ?_
  have st := Step.alloc (o := .xd [(f, v)]) s1.holds hp
  refine n.rs _ _ σ ρ _ _ ⟨x, [(f, d)]⟩ ((s.trans s1).trans st) ((e.step s1).step st) ⟨C, X.nm, rfl, .inr ⟨p, [(f, v)], rfl, upd_same, rfl, .cons (r1.mono st.le) .nil⟩⟩ k1
end
end FP
/-! FP43: try with several except clauses, with and without a name; the field of the error read. -/
namespace FP
open PySem PySem.Spec PyProof.Rows L2
/-- a clause: its class, its name's place, its suite's reading -/
structure Cl where
  c : Value
  i : Option Nat
  ts : Addr → Value → Option Addr → TS
def Cl.ends (k : Cl) (D : Ends) : Ends := match k.i with
  | none => D
  | some i => { nx := fun σ H => D.nx (σ.set i none) H, rt := D.rt, bk := fun σ H => D.bk (σ.set i none) H, ct := fun σ H => D.ct (σ.set i none) H }
def Cl.slots (k : Cl) (a : Addr) (σ : L2.St) : L2.St := match k.i with
  | none => σ
  | some i => σ.set i (some (.ref a))
/-- what the clauses ask of an error, one after the other -/
def wCls (K : PySem.W.Frag) (Wout : WX) (D : Ends) : List Cl → WX
  | [] => Wout
  | k :: r => fun cls d σ H => ∃ b, PySem.W.exmOne K cls k.c = some b ∧ (b = true → ∀ a, H a = none → k.ts a cls d (k.ends D) (k.slots a σ) H) ∧ (b = false → wCls K Wout D r cls d σ H)
/-- a suite's rule, for every error that it may hold -/
def SuOk (X : Cx) (su : List Stmt) (ts : Addr → Value → Option Addr → TS) : Prop :=
  ∀ (a : Addr) (oe : Obj) (cls : Value) (d : Option Addr) (pn : List (Addr × Obj)), Zc cls d oe → (∃ vs, oe.data = .fields vs) → PSs (X.suite a ((a, oe) :: pn)) su (ts a cls d)
inductive ClsOk (X : Cx) : List ExceptHandler → List Cl → Prop
  | nil : ClsOk X [] []
  | cons {x : Str} {c : Value} {ts : Addr → Value → Option Addr → TS} {b₀ : Stmt} {su : List Stmt} {np p : Pos} {hds : List ExceptHandler} {l : List Cl} (hc : Names X x c) (hsu : SuOk X (b₀ :: su) ts) (r : ClsOk X hds l) :
      ClsOk X (.ExceptHandler (some (.Name x np)) none (b₀ :: su) p :: hds) (⟨c, none, ts⟩ :: l)
  | conA {x n : Str} {i : Nat} {c : Value} {ts : Addr → Value → Option Addr → TS} {b₀ : Stmt} {su : List Stmt} {np p : Pos} {hds : List ExceptHandler} {l : List Cl} (hc : Names X x c) (hi : X.N[i]? = some n) (hl : X.env.kindOf n = some .local) (hsu : SuOk X (b₀ :: su) ts) (r : ClsOk X hds l) :
      ClsOk X (.ExceptHandler (some (.Name x np)) (some n) (b₀ :: su) p :: hds) (⟨c, some i, ts⟩ :: l)
section
variable {X : Cx} {body : List Stmt} {h₀ : ExceptHandler} {hds : List ExceptHandler} {l : List Cl} {pos : Pos} {tb : WX → TS} {Wout : WX}
theorem ps_try_cls (hs : X.stack = X.env :: X.outer) (hf : X.env.frame = some X.env.locals) (hN : X.N.Nodup) (tk : Takes X Wout)
    (hb : ∀ (W : WX) (pn : List (Addr × Obj)) (xe : Value → Shared → Prop), Takes (X.tr pn xe) W → PassesOwn (model X.prog X.w) X.A X.env xe → PSs (X.tr pn xe) body (tb W))
    (hh : ClsOk X (h₀ :: hds) l) : PS X (.Try body (h₀ :: hds) [] [] pos) (fun D σ H => tb (wCls X.K Wout D l) D σ H) := by
  constructor
  intro pins s σ H D I h
  have ok := I.ok
  have hfr : X.A.frames = some (X.env :: X.outer) := by rw [ok.frames, hs]
  apply wpAny_Try_except
  let catch_ : Value → Shared → Prop := fun e s₁ => wpAny (model X.prog X.w) X.A (noteFrame e X.env) (fun _ s₂ => wpAny (model X.prog X.w) X.A (setFlight e none) (fun _ s₃ =>
    wpAny (model X.prog X.w) X.A (handleBy e X.env (h₀ :: hds)) (SP X pins D) X.xe s₃) X.xe s₂) X.xe s₁
  have taken : Takes (X.tr (X.pn ++ pins) catch_) (wCls X.K Wout D l) := by
    intro u s' xx
    obtain ⟨a, B, sI, pins', σ', H', cls, d, rfl, J', nb, up, sky, na, os, ag, w⟩ := xx
    have J : Inv X pins σ' H' sI := J'.ofTry ok
    have sky' : Sky B (X.env :: X.outer) a (Zc cls d) X.env.locals s'.heap := by rw [← hs]; exact sky
    show wpAny (model X.prog X.w) X.A (noteFrame (.ref a) X.env) _ _ _
    refine Sky.land Zc.steady hfr hf sky' fun h3 fl3 up3 => ?_
    have J3 : Inv X pins σ' H' { s' with heap := h3 } := J.landed nb fl3.1 (up.trans up3) os ag
    obtain ⟨oe3, vs3, he3, hz3, hd3⟩ := fl3.there
    have off : a ∉ frs (X.env :: X.outer) := fun hm => by
      obtain ⟨_, o', e', hnf⟩ := (show h3.FunFrames B (X.env :: X.outer) from fl3.2.2.1).mem hm
      rw [he3] at e'
      cases e'
      exact hnf _ hd3
    have nL : a ≠ X.env.locals := fun z => off (List.mem_filterMap.mpr ⟨X.env, List.mem_cons_self, by rw [hf, z]⟩)
    have nF : a ∉ X.fs := fun hm => by
      obtain ⟨e, he, q⟩ := List.mem_filterMap.mp hm
      exact off (List.mem_filterMap.mpr ⟨e, List.mem_cons_of_mem _ he, q⟩)
    have S3 := J3.suite he3 hd3 na nL nF
    have LT : PySem.W.Looks (model X.prog X.w) h3 (typeOf (.ref a)) cls := fun A Q E s k q => wpAny_typeOf_ref (k _ _ he3) (by rw [hz3.1]; exact q)
    have named : ∀ {x : Str} {c : Value} {np : Pos} {Q E : Value → Shared → Prop}, Names X x c → Q c { s' with heap := h3 } → wpAny (model X.prog X.w) (X.A.mark (some (.ref a))) (eval (.Name x np) X.env) Q E { s' with heap := h3 } := fun {x c np Q E} hc q => by
      rcases hc with ⟨hg, hdbg, hm | ⟨hm, hv, hnn⟩⟩
      · exact ld_glob (X := X.suite a ((a, oe3) :: (X.pn ++ pins))) S3 hg hm q hdbg
      · exact ld_blt (X := X.suite a ((a, oe3) :: (X.pn ++ pins))) S3 hg hm hv q hnn hdbg
    -- one clause's suite, where it is taken
    have landS : ∀ {A : Around} {E : Value → Shared → Prop} {Q : Unit → Shared → Prop}, (∀ h4 oe4, Inv X pins σ' H' { s' with heap := h4 } → Inv (X.suite a ((a, oe4) :: (X.pn ++ pins))) [] σ' H' { s' with heap := h4 } → Zc cls d oe4 → (∃ vs, oe4.data = .fields vs) → Q () { s' with heap := h4 }) →
        wpAny (model X.prog X.w) A (setFlight (.ref a) none) Q E { s' with heap := h3 } := fun {A E Q} hq => by
      refine HandSPX.lands_againZ fl3 fun h4 fl4 up4 => ?_
      have J4 : Inv X pins σ' H' { s' with heap := h4 } := J.landed nb fl4.1 ((up.trans up3).trans up4) os ag
      obtain ⟨oe4, vs4, he4, hz4, hd4⟩ := fl4.there
      exact hq h4 oe4 J4 (J4.suite he4 hd4 na nL nF) hz4 ⟨_, hd4⟩
    have go : ∀ {hs' : List ExceptHandler} {l' : List Cl}, ClsOk X hs' l' → wCls X.K Wout D l' cls d σ' H' →
        wpAny (model X.prog X.w) X.A (handleBy (.ref a) X.env hs') (SP X pins D) X.xe { s' with heap := h3 } := by
      intro hs' l' hk
      induction hk with
      | nil =>
        intro w
        apply wpAny_handleBy_nil
        obtain ⟨k1, k2, k3, oe, vs, T, oT, ts', he, hz, hd, h1, hr⟩ := id fl3
        unfold PySem.passOn
        refine wpAny_bind (wpAny_field he hd h1 ?_)
        rw [if_neg (show ¬ ((Value.ref T == Value.none) = true) from by simp)]
        have out : wpAny (model X.prog X.w) X.A (setFlight (.ref a) X.env.frame) (fun _ s4 => wpAny (model X.prog X.w) X.A (throw (.ref a) : Sem Flow) (SP X pins D) X.xe s4) X.xe { s' with heap := h3 } := by
          rw [hf]
          refine HandSPX.setFlight_upZ fl3 fun h4 hh4 up4 => wpAny_throw (tk _ _ ?_)
          exact ⟨a, B, sI, pins, σ', H', cls, d, rfl, J, nb, (up.trans up3).trans up4, .inr (.inr (by rw [hs]; exact hh4)), na, os, ag, w⟩
        first
          | exact wpAny_bind (wpAny_pure (wpAny_bind out))
          | exact wpAny_bind out
      | @cons x c ts b₀ su np p hds2 l2 hc hsu r ih =>
        rintro ⟨b, hb1, hyes, hno⟩
        refine wpAny_handleBy_cons (codeAny_handlers_test ?_) (by intro q; cases q)
        refine named hc ((PySem.W.exm_one (M := model X.prog X.w) J3.kIn LT hb1).here ?_)
        cases b with
        | false =>
          show wpAny _ X.A (handleBy (.ref a) X.env hds2) _ _ _
          exact ih (hno rfl)
        | true =>
          refine codeAny_handlers_suite (landS fun h4 oe4 J4 S4 hz4 hd4 => ?_)
          refine wpAny_mono ((hsu a oe4 cls d (X.pn ++ pins) hz4 hd4).run [] _ _ H' _ S4 (hyes rfl a na)) (fun f s6 hsp => ?_) fun _ _ z => z.elim
          cases f with
          | next => exact hsp.elim fun σ6 ⟨H6, S6, q6⟩ => ⟨_, _, S6.unsuite ok, q6⟩
          | brk => exact hsp.elim fun σ6 ⟨H6, S6, q6⟩ => ⟨_, _, S6.unsuite ok, q6⟩
          | cont => exact hsp.elim fun σ6 ⟨H6, S6, q6⟩ => ⟨_, _, S6.unsuite ok, q6⟩
          | ret u => exact hsp.elim fun v6 ⟨σ6, H6, S6, r6, q6⟩ => ⟨_, _, _, S6.unsuite ok, r6, q6⟩
      | @conA x n i c ts b₀ su np p hds2 l2 hc hi hln hsu r ih =>
        rintro ⟨b, hb1, hyes, hno⟩
        refine wpAny_handleBy_cons (codeAny_handlers_test ?_) (by intro q; cases q)
        refine named hc ((PySem.W.exm_one (M := model X.prog X.w) J3.kIn LT hb1).here ?_)
        cases b with
        | false =>
          show wpAny _ X.A (handleBy (.ref a) X.env hds2) _ _ _
          exact ih (hno rfl)
        | true =>
          refine codeAny_handlers_suite_as (landS fun h4 oe4 J4 S4 hz4 hd4 => ?_)
          refine store_ok (X := X.suite a ((a, oe4) :: (X.pn ++ pins))) (v := .ref a) S4 hN hi (.inl hln) rfl (fun s5 S5 => ?_) (.inr hln)
          refine wpAny_mono ((hsu a oe4 cls d (X.pn ++ pins) hz4 hd4).run [] s5 _ H' _ S5 (hyes rfl a na)) (fun f s6 hsp => ?_) fun _ _ z => z.elim
          have gone : ∀ {σ6 : L2.St} {H6 : Hp} {Q : Shared → Prop}, Inv (X.suite a ((a, oe4) :: (X.pn ++ pins))) [] σ6 H6 s6 → (∀ s7, Inv X pins (σ6.set i none) H6 s7 → Q s7) →
              wpAny (model X.prog X.w) X.A (do bindName X.env n .none; unbindBehindTheSuite X.env n p) (fun _ s7 => Q s7) X.xe s6 := fun {σ6 H6 Q} S6 hq => gone_ok (S6.unsuite ok) hN hi hln hq
          cases f with
          | next => exact hsp.elim fun σ6 ⟨H6, S6, q6⟩ => gone S6 fun s7 J7 => ⟨_, _, J7, q6⟩
          | brk => exact hsp.elim fun σ6 ⟨H6, S6, q6⟩ => gone S6 fun s7 J7 => ⟨_, _, J7, q6⟩
          | cont => exact hsp.elim fun σ6 ⟨H6, S6, q6⟩ => gone S6 fun s7 J7 => ⟨_, _, J7, q6⟩
          | ret u => exact hsp.elim fun v6 ⟨σ6, H6, S6, r6, q6⟩ => gone S6 fun s7 J7 => ⟨_, _, _, J7, r6, q6⟩
    exact go hh w
  refine wpAny_mono ((hb (wCls X.K Wout D l) (X.pn ++ pins) catch_ taken PassesOwn.looking).run [] s σ H D (I.toTry _) h) (fun f s1 hsp => ?_) fun e s1 he => he
  cases f with
  | next => exact hsp.elim fun σ' ⟨H', J', q⟩ => wpAny_execs_nil ⟨σ', H', J'.ofTry ok, q⟩
  | brk => exact hsp.elim fun σ' ⟨H', J', q⟩ => ⟨σ', H', J'.ofTry ok, q⟩
  | cont => exact hsp.elim fun σ' ⟨H', J', q⟩ => ⟨σ', H', J'.ofTry ok, q⟩
  | ret u => exact hsp.elim fun v ⟨σ', H', J', r, q⟩ => ⟨v, σ', H', J'.ofTry ok, r, q⟩
end
variable [Tabl]
/-! ### by data -/
/-- a clause by data: which errors it takes; what its suite does with one -/
structure ClD where
  yes : Str → Bool
  run : XD → DTS
def dCls (N : Nd) : List ClD → XD → Env → Prop
  | [], x, ρ => N.rs x ρ
  | c :: r, x, ρ => bit (c.yes x.cls) (c.run x N ρ) (dCls N r x ρ)
abbrev dTryM (cs : List Str) (l : List ClD) (fb : DTS) : DTS := fun N ρ => fb { N with rs := fun x ρ' => x.cls ∈ cs ∧ dCls N l x ρ' } ρ
abbrev suA (cls : Value) (d : Option Addr) (ι : Type) : Type := { j : ι × Obj × List (Addr × Obj) // Zc cls d j.2.1 ∧ ∃ vs, j.2.1.data = .fields vs }
abbrev suB (Xs : ι → Cx) (a : Addr) (cls : Value) (d : Option Addr) : suA cls d ι → Cx := fun j => (Xs j.1.1).suite a ((a, j.1.2.1) :: j.1.2.2)
section
variable {ι : Type} {Xs : ι → Cx} {mg : Gm} {Wx : WX} {pos : Pos}
/-- a clause keeps its reading by data -/
structure CpCl (mg : Gm) (cs : List Str) (k : Cl) (g : ClD) : Prop where
  cl : ∀ x ∈ cs, ∃ C, mg.mg x = some (.ref C) ∧ PySem.W.exmOne mg.K (.ref C) k.c = some (g.yes x)
  su : ∀ (Wx : WX) W0 B N ρ x, g.run x N ρ → ∀ W σ H Ds a cls d, Step W0 B W H → EnvR mg B W H σ ρ → EndsR mg Wx W0 B N Ds → RepX mg W H cls d x → k.ts a cls d (k.ends Ds) (k.slots a σ) H
inductive CpCls (mg : Gm) (cs : List Str) : List Cl → List ClD → Prop
  | nil : CpCls mg cs [] []
  | cons {k : Cl} {g : ClD} {l : List Cl} {gs : List ClD} : CpCl mg cs k g → CpCls mg cs l gs → CpCls mg cs (k :: l) (g :: gs)
def DHs (Xs : ι → Cx) (mg : Gm) (cs : List Str) (hds : List ExceptHandler) (gs : List ClD) : Prop := ∃ l, (∀ i, ClsOk (Xs i) hds l) ∧ CpCls mg cs l gs
theorem dh_nil {cs : List Str} : DHs Xs mg cs [] [] := ⟨[], fun _ => .nil, .nil⟩
abbrev clD (yes : Str → Bool) (f : DTS) : ClD := ⟨yes, fun _ N ρ => f { N with rs := fun _ _ => False } ρ⟩
theorem dh_cons {x : Str} {c : Value} {cs : List Str} {yes : Str → Bool} {b₀ : Stmt} {su : List Stmt} {np p : Pos} {hds : List ExceptHandler} {f : DTS} {gs : List ClD} (hc : ∀ j, Names (Xs j) x c) (K : CatF mg c cs yes) (hsu : DSs (suF Xs) mg Wx0 (b₀ :: su) f) (r : DHs Xs mg cs hds gs) :
    DHs Xs mg cs (.ExceptHandler (some (.Name x np)) none (b₀ :: su) p :: hds) (clD yes f :: gs) := by
  obtain ⟨ts, s1, s2⟩ := hsu
  obtain ⟨l, l1, l2⟩ := r
  refine ⟨⟨c, none, fun _ _ _ => ts⟩ :: l, fun i => .cons (hc i) (fun a oe cls d pn _ hv => s1 ⟨(i, a, oe, pn), hv⟩) (l1 i), .cons ⟨K.cl, fun Wx W0 B N ρ x hr W σ H Ds a cls d s e n _ => ?_⟩ l2⟩
  exact s2 W0 B _ ρ hr W σ H Ds s e ⟨n.nx, n.rt, n.bk, n.ct, fun _ _ _ _ _ _ _ _ _ _ k => k.elim⟩
/-- .. as n: the error's place -/
abbrev clA (yes : Str → Bool) (i : Nat) (f : Addr → Value → Option Addr → DTS) : ClD :=
  ⟨yes, fun x N ρ => ∀ a cls d, f a cls d ⟨fun ρ' => N.nx (ρ'.set i .no), N.rt, fun ρ' => N.bk (ρ'.set i .no), fun ρ' => N.ct (ρ'.set i .no), fun _ _ => False⟩ (ρ.set i (.exc a cls d x.cls x.fs))⟩
theorem dh_as {x n : Str} {i : Nat} {c : Value} {cs : List Str} {yes : Str → Bool} {b₀ : Stmt} {su : List Stmt} {np p : Pos} {hds : List ExceptHandler} {f : Addr → Value → Option Addr → DTS} {gs : List ClD} (hc : ∀ j, Names (Xs j) x c) (K : CatF mg c cs yes)
    (hsu : ∀ a cls d, DSs (suB Xs a cls d) mg Wx0 (b₀ :: su) (f a cls d)) (r : DHs Xs mg cs hds gs) (hi : ∀ j, (Xs j).N[i]? = some n := by intro _; rfl) (hl : ∀ j, (Xs j).env.kindOf n = some .local := by intro _; rfl) :
    DHs Xs mg cs (.ExceptHandler (some (.Name x np)) (some n) (b₀ :: su) p :: hds) (clA yes i f :: gs) := by
  have hts : ∃ ts : Addr → Value → Option Addr → TS, (∀ a cls d j, PSs (suB Xs a cls d j) (b₀ :: su) (ts a cls d)) ∧ ∀ a cls d, CpS mg Wx0 (ts a cls d) (f a cls d) :=
    ⟨fun a cls d => (hsu a cls d).choose, fun a cls d => (hsu a cls d).choose_spec.1, fun a cls d => (hsu a cls d).choose_spec.2⟩
  obtain ⟨ts, s1, s2⟩ := hts
  obtain ⟨l, l1, l2⟩ := r
  refine ⟨⟨c, some i, ts⟩ :: l, fun j => .conA (hc j) (hi j) (hl j) (fun a oe cls d pn hz hv => s1 a cls d ⟨(j, oe, pn), hz, hv⟩) (l1 j), .cons ⟨K.cl, fun Wx W0 B N ρ x hr W σ H Ds a cls d s e n rx => ?_⟩ l2⟩
  exact s2 a cls d W0 B _ _ (hr a cls d) W _ H _ s (e.put rfl ⟨rfl, rx⟩) ⟨fun W' H' σ' ρ' s' e' k => n.nx W' H' _ _ s' e'.no k, n.rt, fun W' H' σ' ρ' s' e' k => n.bk W' H' _ _ s' e'.no k, fun W' H' σ' ρ' s' e' k => n.ct W' H' _ _ s' e'.no k, fun _ _ _ _ _ _ _ _ _ _ k => k.elim⟩
theorem cls_all {cs : List Str} {N : Nd} {Ds : Ends} {W0 : Wd} {B : Hp} (n : EndsR mg Wx W0 B N Ds) : ∀ {l : List Cl} {gs : List ClD}, CpCls mg cs l gs → ∀ {W' H' σ' ρ' cls dd x}, Step W0 B W' H' → EnvR mg B W' H' σ' ρ' → RepX mg W' H' cls dd x → x.cls ∈ cs → dCls N gs x ρ' → wCls mg.K Wx Ds l cls dd σ' H'
  | [], [], .nil, W', H', σ', ρ', cls, dd, x, s, e, r, _, k => n.rs W' H' σ' ρ' cls dd x s e r k
  | k :: l, g :: gs, .cons c cr, W', H', σ', ρ', cls, dd, x, s, e, r, hm, hk => by
    obtain ⟨C, hC, hy⟩ := c.cl _ hm
    obtain ⟨C', h1, h2, h3⟩ := id r
    rw [hC] at h1
    cases h1
    subst h2
    refine ⟨_, hy, fun hb a ha => ?_, fun hb => ?_⟩
    · have hk2 : bit (g.yes x.cls) (g.run x N ρ') (dCls N gs x ρ') := hk
      rw [hb] at hk2
      exact c.su Wx W0 B N ρ' x hk2 W' σ' H' Ds a _ dd s e n r
    · have hk2 : bit (g.yes x.cls) (g.run x N ρ') (dCls N gs x ρ') := hk
      rw [hb] at hk2
      exact cls_all n cr s e r hm hk2
theorem ds_tryM {cs : List Str} {body : List Stmt} {h₀ : ExceptHandler} {hds : List ExceptHandler} {fb : DTS} {gs : List ClD} (tk : ∀ i, Takes (Xs i) Wx) (hb : ∀ W : WX, DSs (trF Xs W) mg W body fb) (hh : DHs Xs mg cs (h₀ :: hds) gs) (hN : ∀ j, (Xs j).N.Nodup)
    (hK : ∀ j, (Xs j).K = mg.K := by intro _; rfl) (hs : ∀ j, (Xs j).stack = (Xs j).env :: (Xs j).outer := by intro _; rfl) (hf : ∀ j, (Xs j).env.frame = some (Xs j).env.locals := by intro _; rfl) : DS Xs mg Wx (.Try body (h₀ :: hds) [] [] pos) (dTryM cs gs fb) := by
  obtain ⟨l, l1, l2⟩ := hh
  have hbt : ∃ tb : WX → TS, (∀ W, ∀ i, PSs (trF Xs W i) body (tb W)) ∧ ∀ W, CpS mg W (tb W) fb := ⟨fun W => (hb W).choose, fun W => (hb W).choose_spec.1, fun W => (hb W).choose_spec.2⟩
  obtain ⟨tb, b1, b2⟩ := hbt
  refine ⟨fun D σ H => tb (wCls mg.K Wx D l) D σ H, fun i => ?_, fun W0 B N ρ hf W σ H Ds s e n => ?_⟩
  · have z := ps_try_cls (X := Xs i) (pos := pos) (tb := tb) (Wout := Wx) (hs i) (hf i) (hN i) (tk i) (fun W pn xe h1 h2 => b1 W ⟨(i, pn, xe), h1, h2⟩) (l1 i)
    rw [hK i] at z
    exact z
  · exact b2 _ W0 B _ ρ hf W σ H Ds s e ⟨n.nx, n.rt, n.bk, n.ct, fun W' H' σ' ρ' cls dd y s' e' r k => cls_all n l2 s' e' r k.1 k.2⟩
/-- n.f, n the error of the suite, of the class x -/
abbrev dXf (a : Addr) (cls : Value) (d : Option Addr) (i : Nat) (x f : Str) : DTE := fun ρ Q _ => match ρ[i]? with
  | some (.exc a' cls' d' c fs) => a' = a ∧ cls' = cls ∧ d' = d ∧ c = x ∧ ∃ v, fs.lookup f = some v ∧ Q v
  | _ => False
theorem keys_lookup {vs : List (Str × V)} {fs : List (Str × D)} {W : Wd} {f : Str} {v : D} (h : vs.map (·.1) = fs.map (·.1)) (r : Reps mg W (vs.map (·.2)) (fs.map (·.2))) (e : fs.lookup f = some v) : ∃ u, vs.lookup f = some u ∧ Rep mg W u v := by
  induction vs generalizing fs with
  | nil =>
    cases fs with
    | nil => cases e
    | cons => cases h
  | cons p vs ih =>
    cases fs with
    | nil => cases h
    | cons q fs =>
      obtain ⟨g, u⟩ := p
      obtain ⟨g', y⟩ := q
      obtain ⟨rfl, h2⟩ := List.cons.inj h
      cases r with
      | cons r1 rs =>
        by_cases z : (f == g) = true
        · simp only [List.lookup, z] at e ⊢
          cases e
          exact ⟨u, rfl, r1⟩
        · simp only [Bool.not_eq_true] at z
          simp only [List.lookup, z] at e ⊢
          exact ih h2 rs e
theorem de_xf {x nm f : Str} {C : Addr} {bmB : List Value} {newId : String} {i : Nat} {a : Addr} {cls : Value} {d : Option Addr} {p : Pos} (F : XcF mg x C f bmB newId) (hN : ∀ j, (Xs j).N[i]? = some nm := by intro _; rfl) (hv : ∀ j, Vis (Xs j).env.scope nm := by intro _; first | exact Or.inl rfl | exact Or.inr (Or.inl rfl) | exact Or.inr (Or.inr rfl))
    (hd : (nm == ("__debug__" : Str)) = false := by decide) (hcd : (nm == ("__classdict__" : Str)) = false := by decide) (hK : ∀ j, (Xs j).K = mg.K := by intro _; rfl) (hb : ∀ j, attributeBase (.Name nm p) f (Xs j).env (eval (.Name nm p) (Xs j).env) = eval (.Name nm p) (Xs j).env := by intro _; rfl) :
    DE (suB Xs a cls d) mg Wx0 (.Attribute (.Name nm p) f pos) (dXf a cls d i x f) := by
  obtain ⟨fI, T⟩ := F.t
  refine ⟨tXf a cls d C f (tVar i), fun j => ?_, fun B ρ Q E h W σ H Q' hh e _ q => ?_⟩
  · exact pe_xf (X := Xs j.1.1) (by rw [hK]; exact ⟨F.ga, F.gg, F.sb, T.hd⟩) (by rw [hK]; exact T.no) j.2.1 j.2.2 (pe_var (hN j.1.1) (hv j.1.1) hd hcd) (hb j.1.1)
  · unfold dXf at h
    split at h
    · rename_i a' cls' d' c fs hz
      obtain ⟨rfl, rfl, rfl, rfl, v, hl, hq⟩ := h
      obtain ⟨o, h1, h2, C', h3, h4, h5⟩ := e.sl i _ hz
      rw [F.nm] at h3
      cases h3
      rcases h5 with ⟨h5, _⟩ | ⟨dd, vs, h5, h6, h7, h8⟩
      · rw [h5] at hl
        cases hl
      · obtain ⟨u, hu, ru⟩ := keys_lookup h7 h8 hl
        refine ⟨.ref a', by rw [h1, h2], rfl, h4, dd, vs, u, h5, hh.same _ _ h6, hu, q W H u v (Step.refl hh) ru hq⟩
    · exact h.elim
end
end FP
/-! FP44: zip of lists and tuples, in any mixture. -/
namespace FP
open PySem PySem.Spec PyProof.Rows L2
/-- a list or a tuple -/
inductive Sd where
  | l | t
def Sd.sq (K : PySem.W.Frag) (H : Hp) (a : Addr) (xs : List V) : Sd → Prop
  | .l => SqL K H a xs
  | .t => SqT K H a xs
def Sd.is (h : Heap) (a : Addr) (its : Array Value) : Sd → Prop
  | .l => h.IsList a its
  | .t => h.IsTuple a its
def Sd.it (h : Heap) (i a : Addr) (n : Nat) : Sd → Prop
  | .l => h.IsListIter i a n
  | .t => h.IsTupleIter i a n
def Sd.ob (a : Addr) : Sd → Obj
  | .l => { cls := .type "list_iterator", data := .fields #[.ref a, .int 0 0] }
  | .t => { cls := .type "tuple_iterator", data := .fields #[.ref a, .int 0 0] }
theorem Sd.draws {prog : Program} {w : World} {A : Around} (s : Sd) (hh : A.handled = none) (i a : Addr) (ne : a ≠ i) (its : Array Value) : Draws prog w A i [i, a] its.size (fun k v => its[k]? = some v) (fun k h => s.it h i a k ∧ s.is h a its) := by
  cases s with
  | l => exact .list hh i a ne its
  | t => exact .tuple hh i a ne its
theorem Sd.begins (s : Sd) (a : Addr) (its : Array Value) : Begins (.ref a) (s.ob a) (fun h => s.is h a its) := by
  cases s with
  | l => exact begins_list a its
  | t => exact begins_tuple a its
theorem Sd.first {h : Heap} {i a : Addr} {s : Sd} (e : h.get? i = some (s.ob a)) : s.it h i a 0 := by
  cases s with
  | l => exact ⟨_, e, rfl, rfl⟩
  | t => exact ⟨_, e, rfl, rfl⟩
theorem Sd.it_at {h h' : Heap} {i a : Addr} {n : Nat} {s : Sd} (x : s.it h i a n) (k : ∀ o, h.get? i = some o → h'.get? i = some o) : s.it h' i a n := by
  cases s with
  | l => exact (show h.IsListIter i a n from x).at k
  | t => exact (show h.IsTupleIter i a n from x).at k
theorem Sd.it_ob {h : Heap} {i a : Addr} {n : Nat} {s : Sd} (x : s.it h i a n) : ∃ o, h.get? i = some o ∧ ∀ v, o.data ≠ .cell v := by
  cases s with
  | l =>
    obtain ⟨o, e, _, d⟩ := (show h.IsListIter i a n from x)
    exact ⟨o, e, fun v q => by rw [d] at q; cases q⟩
  | t =>
    obtain ⟨o, e, _, d⟩ := (show h.IsTupleIter i a n from x)
    exact ⟨o, e, fun v q => by rw [d] at q; cases q⟩
theorem Sd.is_lt {h : Heap} {a : Addr} {its : Array Value} {s : Sd} (x : s.is h a its) : a < h.objs.size := by
  cases s with
  | l =>
    obtain ⟨o, e, _⟩ := (show h.IsList a its from x)
    exact Heap.lt_size e
  | t =>
    obtain ⟨o, e, _⟩ := (show h.IsTuple a its from x)
    exact Heap.lt_size e
theorem Sd.look {X : Cx} {pins : List (Addr × Obj)} {σ : L2.St} {H : Hp} {z : Shared} {a : Addr} {xs : List V} {s : Sd} (I : Inv X pins σ H z) (q : s.sq X.K H a xs) : ∃ its : List Value, Vals xs its ∧ s.is z.heap a its.toArray := by
  cases s with
  | l =>
    obtain ⟨its, rv, p, _⟩ := I.list q
    exact ⟨its, rv, p.isList⟩
  | t =>
    obtain ⟨its, rv, p, _⟩ := I.tuple q
    exact ⟨its, rv, p⟩
theorem Sd.inj {X : Cx} {pins : List (Addr × Obj)} {σ : L2.St} {H : Hp} {z : Shared} {a : Addr} {xs ys : List V} {s : Sd} (I : Inv X pins σ H z) (p : s.sq X.K H a xs) (q : s.sq X.K H a ys) : xs = ys := by
  cases s with
  | l => exact I.list_inj p q
  | t => exact I.tuple_inj p q
variable [Tabl]
section
variable {ι : Type} {Xs : ι → Cx} {mg : Gm} {Wx : WX} {pos : Pos}
def seqD : D → Option (List D)
  | .lst xs => some xs
  | .fz xs => some xs
  | .tup xs => some xs
  | _ => none
theorem seq_side {W : Wd} {v : V} {d : D} {ds : List D} (r : Rep mg W v d) (h : seqD d = some ds) : ∃ a vs s, v = .ref a ∧ Reps mg W vs ds ∧ ∀ W1 H1, Le W W1 → Holds W1 H1 → Sd.sq mg.K H1 a vs s := by
  cases r with
  | lst ha rs =>
    cases h
    exact ⟨_, _, .l, rfl, rs, fun W1 H1 l hh => SqL.of (hh.same _ _ (l.h _ _ ha))⟩
  | fz ha rs =>
    cases h
    exact ⟨_, _, .l, rfl, rs, fun W1 H1 l hh => hh.same.seq (l.h.seq ha)⟩
  | tup ha rs =>
    cases h
    exact ⟨_, _, .t, rfl, rs, fun W1 H1 l hh => SqT.of (hh.same _ _ (l.h _ _ ha))⟩
  | _ => cases h
end
end FP
/-! FP45: list(zip(a, b)), a and b lists or tuples. -/
namespace PySem.ZipL
open PySem PySem.W PySem.Calls PyProof.Rows
end PySem.ZipL
/-! FP46: list(zip(a, b)) by data. -/
namespace FP
open PySem PySem.Spec PyProof.Rows L2
end FP
/-! FP47: facts of own exceptions, by their built-in bases. -/
namespace FP
open PySem L2
variable [Tabl]
theorem veS : StoreFacts "ValueError" veBm "object.__setattr__" "object" := PySem.F.store_ValueError
/-! ### the end of a law: facts by the written part -/
theorem CatF.none {mg : Gm} {c : Value} {yes : Str → Bool} : CatF mg c [] yes := ⟨fun _ h => absurd h List.not_mem_nil⟩
theorem CatF.cons {mg : Gm} {c : Value} {cs : List Str} {yes : Str → Bool} {x : Str} {C : Addr} {b : Bool} (h1 : mg.mg x = some (.ref C)) (h2 : PySem.W.exmOne mg.K (.ref C) c = some b) (h3 : yes x = b) (r : CatF mg c cs yes) : CatF mg c (x :: cs) yes := ⟨fun y hy => by
  rcases List.mem_cons.mp hy with e | hy
  · subst e
    exact ⟨C, h1, by rw [h2, h3]⟩
  · exact r.cl y hy⟩
theorem exm_sub {K : PySem.W.Frag} {C C' : Addr} {b : Bool} (h2 : PySem.W.isClsIn K C' = true) (h3 : PySem.W.typeIn K (.ref C') = some (.type "type")) (h4 : PySem.W.subIn K (.ref C') (.type "BaseException") = some true) (h5 : PySem.W.subIn K (.ref C) (.ref C') = some b) : PySem.W.exmOne K (.ref C) (.ref C') = some b := by
  unfold PySem.W.exmOne PySem.W.kitCls
  unfold PySem.W.isClsIn at h2
  simp [h2, h3, h4, h5]
theorem xcF_mk {K : PySem.W.Frag} {mg : Str → Option Value} {x f nm qual : Str} {C fI : Addr} {bmB : List Value} {newId : String} {st : Stmt} {oc : Value} {od : Option Addr} {kV doc pm : Value} {an : Option Addr} {cdv ct : Value} {osl : Array (Option Value)} (h1 : mg x = some (.ref C)) (h2 : PySem.W.excInitIn K C bmB newId = true)
    (h3 : PySem.W.excOver K C bmB = true) (h4 : PySem.W.findIn K (.ref C) "__setattr__" = some (some (.builtin "object.__setattr__"))) (h5 : PySem.W.findIn K (.ref C) f = some none) (h6 : PySem.W.hasDictIn K C = true) (h7 : PySem.W.findIn K (.ref C) "__init__" = some (some (.ref fI))) (h8 : PySem.W.isFn K (.ref fI) = true)
    (h9 : K.lookup fI = some ⟨oc, od, .func (PySem.W.fnOf nm qual (defArgs st) (defBody st) (defScope st) .none kV doc pm an cdv ct), osl⟩) (h10 : PySem.W.codeIn K cdv qual = true) (h11 : PySem.XcM.IsInit f (defArgs st) (defBody st) (defScope st))
    (h12 : ∀ y v, bindArgs (PySem.W.fnOf nm qual (defArgs st) (defBody st) (defScope st) .none kV doc pm an cdv ct) ⟨[y, v], []⟩ = pure [(("self" : Str), y), (f, v)]) (h13 : PySem.W.keepIn K (.ref C) = true) (h14 : PySem.W.subIn K (.ref C) (.type "BaseException") = some true) (h15 : PySem.W.typeIn K (.ref C) = some (.type "type"))
    (h16 : PySem.W.findIn K (.ref C) "__getattribute__" = some (some (.builtin "BaseException.__getattribute__"))) (h17 : PySem.W.findIn K (.ref C) "__getattr__" = some none) : XcF ⟨mg, K⟩ x C f bmB newId :=
  ⟨h1, ⟨fI, h2, h3, h4, h5, h6, h7, h8, ⟨_, _, _, _, _, _, _, _, _, _, _, _, _, _, _, h9, h10, h11, h12⟩⟩, h13, h14, h15, h16, h17⟩
end FP
/-! FP48: list(d.items()). -/
namespace FP
open PySem PySem.Spec PyProof.Rows L2
/-- several new objects -/
def updL (H : Hp) : List (Addr × HO) → Hp
  | [] => H
  | p :: r => updL (upd H p.1 p.2) r
theorem updL_out : ∀ {ps : List (Addr × HO)} {H : Hp} {b : Addr}, b ∉ ps.map (·.1) → updL H ps b = H b
  | [], _, _, _ => rfl
  | p :: r, H, b, h => by
    rw [List.map_cons, List.mem_cons, not_or] at h
    rw [updL, updL_out h.2, upd_ne h.1]
theorem updL_in : ∀ {ps : List (Addr × HO)} {H : Hp} {p : Addr × HO}, (ps.map (·.1)).Nodup → p ∈ ps → updL H ps p.1 = some p.2
  | q :: r, H, p, nd, h => by
    rw [List.map_cons, List.nodup_cons] at nd
    rw [updL]
    rcases List.mem_cons.mp h with e | h
    · rw [e, updL_out nd.1, upd_same]
    · exact updL_in nd.2 h
theorem inv_laids {X : Cx} {pins : List (Addr × Obj)} {σ : L2.St} {H : Hp} {s : Shared} {h' : Heap} {t' : Nat} {ps : List (Addr × HO)} (I : Inv X pins σ H s) (k : ∀ b u, s.heap.get? b = some u → h'.get? b = some u) (hp : ∀ p ∈ ps, s.heap.objs.size ≤ p.1) (nd : (ps.map (·.1)).Nodup)
    (new : ∀ p ∈ ps, ObjOk X.prog X.w (updL H ps) h' p.1 p.2) : Inv X pins σ (updL H ps) { s with heap := h', toks := t' } := by
  have old : ∀ b, b < s.heap.objs.size → b ∉ ps.map (·.1) := fun b lt hm => by
    obtain ⟨p, hpm, rfl⟩ := List.mem_map.mp hm
    exact Nat.lt_irrefl _ (Nat.lt_of_lt_of_le lt (hp p hpm))
  have inH : ∀ {b u}, H b = some u → b ∉ ps.map (·.1) := fun {b u} e hm => by
    obtain ⟨p, hpm, rfl⟩ := List.mem_map.mp hm
    rw [I.hok.fresh (hp p hpm)] at e
    cases e
  have same : ∀ {b u}, H b = some u → updL H ps b = some u := fun {b u} e => (updL_out (inH e)).trans e
  refine I.un (t' := t') {
    keep := fun b u q _ _ _ => k b u q
    slot := fun b u q _ _ _ => ⟨u.slots, k b u q⟩
    free := fun b u q n _ => (updL_out (old b (Heap.lt_size q))).trans n
    there := fun b u q _ => ⟨u, k b u q⟩
    tups := fun b xs q => same q
    frzs := fun b u xs q => same q
    tbls := fun b ps q => ⟨#[], by rw [same q]; simp⟩ } fun b u e => ?_
  by_cases hb : b ∈ ps.map (·.1)
  · obtain ⟨p, hpm, rfl⟩ := List.mem_map.mp hb
    rw [updL_in nd hpm] at e
    cases e
    exact new p hpm
  · rw [updL_out hb] at e
    exact (I.hok b u e).stay (fun c v _ q => k c v q) (fun c q => same q) fun c xs q => same q
/-- what is asked of the new pairs and the list of them -/
def LiW (kvs : List (Key × V)) (H : Hp) (Q : VK) : Prop :=
  ∀ (as : List Addr) (S : Addr), as.length = kvs.length → as.Nodup → S ∉ as → (∀ a ∈ as, H a = none) → H S = none → Q (.ref S) (updL H (List.zipWith (fun a (p : Key × V) => (a, HO.tup [kV p.1, p.2])) as kvs ++ [(S, .lst (as.map V.ref))]))
def tLi (td : TE) : TE := fun σ H Q => td σ H fun x H1 => ∃ d o kvs, x = .ref d ∧ H1 d = some (.frz o (.dK kvs)) ∧ kvs.length ≤ sizeLine ∧ LiW kvs H1 Q
theorem zw_keys : ∀ {as : List Addr} {kvs : List (Key × V)}, as.length = kvs.length → (List.zipWith (fun a (p : Key × V) => (a, HO.tup [kV p.1, p.2])) as kvs).map (·.1) = as
  | [], [], _ => rfl
  | a :: as, p :: kvs, h => by rw [List.zipWith_cons_cons, List.map_cons, zw_keys (by simpa using h)]
theorem vals_refs : ∀ as : List Addr, Vals (as.map V.ref) (as.map Value.ref)
  | [] => .nil
  | a :: as => .cons (show L2.RelV (.ref a) (.ref a) from rfl) (vals_refs as)
theorem pe_li {X : Cx} {e : Expr} {td : TE} {p apos cpos pos : Pos} (hc : X.calm = true) (hg : Gl X "list") (hm : X.mg "list" = none) (he : PE X e td) (hbase : attributeBase e "items" X.env (eval e X.env) = eval e X.env) (hline : (apos.endLine == cpos.line) = true) :
    PE X (.Call (.Name "list" p) [.Call (.Attribute e "items" apos) [] [] cpos] [] pos) (tLi td) := by
  constructor
  intro pins s σ H Q I h
  refine Call_ (ld_blt I hg hm (by decide +kernel : bootBuiltins "list" = some (.type "list")) ?_)
  refine PyProof.Rows.callWith_type1 (PyProof.Rows.args_cons ?_ rfl) rfl rfl
  refine wpAny_Call_method (T := "dict") (id := "dict.items") hbase rfl hline F.plainAttrs_dict F.slot_dict_items F.type_dict_items (thn (he.run pins _ σ H _ (I.tok _) h) fun u s1 ⟨x, H1, I1, rx, d, o, kvs, ex, hd, hn, q⟩ => ?_)
  subst ex
  obtain rfl : u = Value.ref d := rx
  obtain ⟨hs, hgd, hx, es, ep, vs, hdt, hsz, kv, hma⟩ := I1.frzK hd
  have hl : kvs.length = vs.length := Paired.length kv
  refine ⟨hma.dictOf.typeIs, hma.dictOf.mapOf.noDict, ?_⟩
  have I2 : Inv X pins σ H1 { s1 with heap := s1.heap.push { cls := .type "dict_items", data := .fields #[.ref d] } } := I1.kept (t' := s1.toks) fun b ob q => Heap.get?_push_of_some _ q
  show wpAny _ _ (callWith cpos (.builtin "dict.items") [.ref d] [] []) _ X.xe s1
  refine method_meetsIn F.slot_dict_items F.entry_dict_items rfl (PySem.evalArgs_none ⟨rfl, hma.dictOf.typeIs, F.args_dict_items_1 _, _, meets_dict_items (mixKind X.prog X.w) d hs, ⟨vs, hma.dictOf⟩, ?_⟩)
  refine PyProof.Rows.args_nil ?_
  refine PySem.W.kdx_call (knd := mixKind X.prog X.w) (d := d) (kvs := vs) (ep := ep) (I.ok.hd hc) ⟨_, Heap.get?_push_size _ rfl, rfl, rfl⟩ (hma.push _) (by rw [← hl]; exact hn) fun h' tk acc c as hk hS las G hacc => ?_
  have nd : as.Nodup := G.rise.imp fun h => Nat.ne_of_lt h
  have lal : as.length = kvs.length := las.trans hl.symm
  have above : ∀ a ∈ as, (s1.heap.push { cls := .type "dict_items", data := .fields #[.ref d] }).objs.size < a := G.above
  have nS : (s1.heap.push { cls := .type "dict_items", data := .fields #[.ref d] }).objs.size ∉ as := fun hm => Nat.lt_irrefl _ (above _ hm)
  have ek : (List.zipWith (fun a (p : Key × V) => (a, HO.tup [kV p.1, p.2])) as kvs ++ [((s1.heap.push { cls := .type "dict_items", data := .fields #[.ref d] }).objs.size, HO.lst (as.map V.ref))]).map (·.1) = as ++ [(s1.heap.push { cls := .type "dict_items", data := .fields #[.ref d] }).objs.size] := by
    rw [List.map_append, zw_keys lal]
    rfl
  have J := inv_laids I2 (t' := tk) (h' := h') (ps := List.zipWith (fun a (p : Key × V) => (a, HO.tup [kV p.1, p.2])) as kvs ++ [((s1.heap.push { cls := .type "dict_items", data := .fields #[.ref d] }).objs.size, HO.lst (as.map V.ref))]) hk (fun p hp => ?_) (by rw [ek]; exact List.nodup_append.mpr ⟨nd, by simp, fun a ha b hb e => by rw [List.mem_singleton] at hb; rw [hb] at e; exact nS (e ▸ ha)⟩) (fun p hp => ?_)
  · exact ⟨V.ref _, _, J, rfl, q as _ lal nd nS (fun a ha => I2.hok.fresh (Nat.le_of_lt (above a ha))) (I2.hok.fresh (Nat.le_refl _))⟩
  · rcases List.mem_append.mp hp with hp | hp
    · have hm2 : p.1 ∈ as := by
        rw [← zw_keys (as := as) (kvs := kvs) lal]
        exact List.mem_map.mpr ⟨p, hp, rfl⟩
      exact Nat.le_of_lt (above _ hm2)
    · rw [List.mem_singleton] at hp
      rw [hp]
      exact Nat.le_refl _
  · rcases List.mem_append.mp hp with hp | hp
    · obtain ⟨j, hj⟩ := List.mem_iff_getElem?.mp hp
      rw [List.getElem?_zipWith] at hj
      cases ha : as[j]? with
      | none =>
        rw [ha] at hj
        cases hj
      | some a =>
        cases hkv : kvs[j]? with
        | none =>
          rw [ha, hkv] at hj
          cases hj
        | some kx =>
          rw [ha, hkv] at hj
          cases hj
          obtain ⟨k, v⟩ := kx
          obtain ⟨key, k2, x, e1, e2, e3⟩ := G.pairs j a ha
          obtain ⟨u, hu, ru⟩ := kv_get kv hkv
          rw [hu] at e1
          cases e1
          exact ⟨by show 2 ≤ sizeLine; decide, [key, x], .cons (relV_key (show keyIs k key = true from e2)) (.cons ru .nil), ⟨_, e3, rfl, _, rfl⟩⟩
    · rw [List.mem_singleton] at hp
      rw [hp]
      refine ⟨by rw [List.length_map, lal]; exact hn, as.map Value.ref, c, vals_refs as, ?_⟩
      have ea : acc = (as.map Value.ref).toArray := by rw [← hacc]
      rw [ea] at hS
      exact hS
variable [Tabl]
section
variable {ι : Type} {Xs : ι → Cx} {mg : Gm} {Wx : WX} {pos : Pos}
abbrev dLi (f : DTE) : DTE := fun ρ Q E => f ρ (fun x => match x with
  | .dct kvs => kvs.length ≤ sizeLine ∧ Q (.lst (kvs.map fun kv => .tup [kD kv.1, kv.2]))
  | _ => False) E
theorem laid_reps {W : Wd} {H : Hp} (hh : Holds W H) : ∀ {as : List Addr} {kvs : List (Key × V)} {ds : List (Key × D)}, as.length = kvs.length → as.Nodup → (∀ a ∈ as, H a = none) → kvs.map (·.1) = ds.map (·.1) → Reps mg W (kvs.map (·.2)) (ds.map (·.2)) →
    ∃ W', Step W H W' (updL H (List.zipWith (fun a (p : Key × V) => (a, HO.tup [kV p.1, p.2])) as kvs)) ∧ Reps mg W' (as.map V.ref) (ds.map fun kv => .tup [kD kv.1, kv.2])
  | [], [], [], _, _, _, _, _ => ⟨W, Step.refl hh, .nil⟩
  | a :: as, (k, v) :: kvs, (k', d) :: ds, hl, nd, fr, he, hr => by
    rw [List.nodup_cons] at nd
    rw [List.map_cons, List.map_cons] at he hr
    obtain ⟨rfl, he2⟩ := List.cons.inj he
    cases hr with
    | cons r1 rs =>
      have hA := fr a List.mem_cons_self
      have sA := Step.alloc (o := .tup [kV k, v]) hh hA
      have rT : Rep mg (W.put a (.tup [kV k, v])) (.ref a) (.tup [kD k, d]) := Rep.newTup (.cons (kD_rep k) (.cons r1 .nil)) (hh.same.free hA)
      obtain ⟨W', s', r'⟩ := laid_reps sA.holds (as := as) (kvs := kvs) (ds := ds) (by simpa using hl) nd.2 (fun b hb => by
        have ne : b ≠ a := fun e => nd.1 (by rw [← e]; exact hb)
        rw [upd_ne ne]
        exact fr b (List.mem_cons_of_mem _ hb)) he2 (rs.mono sA.le)
      exact ⟨W', sA.trans s', .cons (rT.mono s'.le) r'⟩
theorem updL_app (H : Hp) : ∀ (ps qs : List (Addr × HO)), updL H (ps ++ qs) = updL (updL H ps) qs
  | [], _ => rfl
  | p :: ps, qs => by rw [List.cons_append, updL, updL, updL_app _ ps qs]
theorem de_li {e : Expr} {f : DTE} {p apos cpos : Pos} (hm : mg.mg "list" = none) (h : DE Xs mg Wx e f) (hM : ∀ j, (Xs j).mg = mg.mg := by intro _; rfl) (hc : ∀ j, (Xs j).calm = true := by intro _; rfl) (hg : ∀ j, Gl (Xs j) "list" := by intro _; rfl)
    (hb : ∀ j, attributeBase e "items" (Xs j).env (eval e (Xs j).env) = eval e (Xs j).env := by intro _; rfl) (hl : (apos.endLine == cpos.line) = true := by rfl) : DE Xs mg Wx (.Call (.Name "list" p) [.Call (.Attribute e "items" apos) [] [] cpos] [] pos) (dLi f) := by
  obtain ⟨t, h1, h2⟩ := h
  refine ⟨_, fun j => pe_li (hc j) (hg j) (by rw [hM j]; exact hm) (h1 j) (hb j) hl, fun B ρ Q E hf W σ H Q' hh e x q => h2 B ρ _ E hf W σ H _ hh e x fun W1 H1 v d s1 r1 k1 => ?_⟩
  cases r1 with
  | @dct a o kvs ds ha hk rs =>
    have ln := len_keys hk
    refine ⟨a, o, kvs, rfl, s1.holds.same _ _ ha, by rw [ln]; exact k1.1, fun as S hl2 nd nS fr fS => ?_⟩
    obtain ⟨W2, s2, r2⟩ := laid_reps s1.holds hl2 nd fr hk rs
    rw [updL_app]
    have fS2 : updL H1 (List.zipWith (fun a (p : Key × V) => (a, HO.tup [kV p.1, p.2])) as kvs) S = none := by
      rw [updL_out (by rw [zw_keys hl2]; exact nS)]
      exact fS
    have sL := Step.alloc (o := .lst (as.map V.ref)) s2.holds fS2
    exact q _ _ _ _ ((s1.trans s2).trans sL) (Rep.newLst r2 (s2.holds.same.free fS2)) k1.2
  | _ => exact k1.elim
end
end FP
/-! FP49: text.count(text). -/
namespace FP
open PySem PySem.Spec PyProof.Rows L2
end FP
/-! FP50: isinstance with a built-in class, of data that may be an object of the text. -/
namespace FP
open PySem PySem.Spec PyProof.Rows L2
variable [Tabl]
structure IsbF (mg : Gm) (T : String) (cs : List Str) : Prop where
  cl : ∀ c ∈ cs, ∃ C, ClsF mg c C ∧ PySem.W.kitOne mg.K (.ref C) (.type T) = some false
theorem isb_nil {mg : Gm} {T : String} : IsbF mg T [] := ⟨fun _ h => (List.not_mem_nil h).elim⟩
theorem isb_cons {mg : Gm} {T : String} {c : Str} {C : Addr} {cs : List Str} (F : ClsF mg c C) (km : PySem.W.kitMeta T = true) (h : PySem.W.subIn mg.K (.ref C) (.type T) = some false) (r : IsbF mg T cs) : IsbF mg T (c :: cs) := by
  refine ⟨fun x hx => ?_⟩
  rcases List.mem_cons.mp hx with rfl | q
  · refine ⟨C, F, ?_⟩
    unfold PySem.W.kitOne
    have e : ((Value.ref C) == (Value.type T)) = false := rfl
    rw [e, if_neg Bool.false_ne_true]
    show (if PySem.W.kitMeta T = true then PySem.W.subIn mg.K (.ref C) (.type T) else none) = _
    rw [if_pos km, h]
  · exact r.cl x q
end FP
/-! FP51: a text times a whole number. -/
namespace FP
open PySem PySem.Spec PyProof.Rows L2
end FP
/-! FP52: x != o, where x is no object of the text and o is one. -/
namespace FP
open PySem PySem.Spec PyProof.Rows PySem.W
end FP
/-! FP53: the operator != with a value on the left that is no object of the text. -/
namespace FP
open PySem PySem.Spec PyProof.Rows PySem.W
variable [Tabl]
section
variable {prog : Program} {w : World}
/-- what stands in the way of an answer from the left side -/
def DecA (prog : Program) (w : World) (A : Around) (z : Shared) (v : Value) (x : Addr) (T : String) : Prop :=
  ∃ ida, Slot T (cmpInfo .NotEq).2.1 ida ∧ ∀ (E : Value → Shared → Prop) (Q' : Value → Shared → Prop), Q' .notImplemented z → wpAny (model prog w) A (call (.builtin ida) [v, .ref x]) Q' E z
theorem neL {A : Around} {E : Value → Shared → Prop} {s : Shared} {K : PySem.W.Frag} {x C f : Addr} {ox : Obj} {od : Option Obj} {a : Value} {Ta : String} {Q : Value → Shared → Prop} (hu : A.units + 1 < cLine) (X : K.In s.heap) (I : PySem.W.InstAt s.heap x ox C od)
    (ha : s.TypeIs a Ta) (hsub : PySem.W.subIn K (.ref C) (.type Ta) = some false) (hd : DecA prog w A s a x Ta) (hne : PySem.W.findIn K (.ref C) "__ne__" = some (some (.builtin "object.__ne__"))) (hm : PySem.W.mroIn K C (.type "object") = some true)
    (hs : PySem.W.findIn K (.ref C) "__eq__" = some (some (.ref f))) (hf : PySem.W.isFn K (.ref f) = true)
    (h : wpAny (model prog w) A.in1 (call (.ref f) [.ref x, a]) (fun v s' => ∃ c, v = .bool c ∧ Q (.bool (!c)) s') E s) : wpAny (model prog w) A (richCompare .NotEq a (.ref x)) Q E s := by
  have one : wpAny (model prog w) A (tryCompare (.ref x) (cmpInfo .NotEq).2.2 a) (fun r s' => ∃ v, r = some v ∧ Q v s') E s := by
    unfold tryCompare
    refine wpAny_bind (ifBoundS X I hne PySem.F.cmp_object.ne.bind (wpAny_call (codeAny_call_builtin PySem.F.cmp_object.ne.plain PySem.F.cmpEntry_ne (PySem.W.check_slot (i := "object.__ne__") (owner := "object") (n := "__ne__") PySem.F.cmpKind_ne PySem.F.cmpSplit_ne (I.type.andThen (PySem.W.looks_mroIn X hm)) (PySem.F.cmpArgs_ne _ _) ?_))))
    unfold Builtin.«object.__ne__»
    refine wpAny_bind (m := slotArgs "__ne__" 1 _) (wpAny_pure ?_)
    refine wpAny_bind (m := cRoomFor _ _) (wpAny_cRoomFor hu ?_)
    refine wpAny_bind (m := callSpecialIfBound? (.ref x) (Str.ofString "__eq__") _) (PySem.W.ifBound_K X I hs hf (wpAny_mono h (fun r s' hq => ?_) fun _ _ y => y))
    obtain ⟨c, rfl, hq⟩ := hq
    exact wpAny_bind (wpAny_truthy_bool (wpAny_pure (wpAny_pure ⟨_, rfl, hq⟩)))
  obtain ⟨ida, slot, hd⟩ := hd
  rcases hi : cmpInfo CmpOp.NotEq with ⟨sym, f1, r1⟩
  rw [hi] at slot one
  simp only [richCompare, hi, ha.oneThing_none]
  refine wpAny_holding (wpAny_bind (wpAny_cRoomFor (Nat.lt_of_succ_lt hu) ?_))
  refine wpAny_bind (wpAny_typeOf ha (wpAny_bind (I.type.here ?_)))
  have hne' : (Value.type Ta != Value.ref C) = true := rfl
  simp only [hne', if_true]
  refine wpAny_bind ((PySem.W.looks_subIn X hsub).here ?_)
  simp only [Bool.false_eq_true, if_false, Bool.not_false, if_true]
  refine wpAny_bind (m := tryCompare a _ (.ref x)) (wpAny_tryCompare_declines ha slot (hd _ _ ⟨rfl, ?_⟩))
  refine wpAny_bind (m := tryCompare (.ref x) _ a) (wpAny_mono one (fun r s' z => ?_) fun _ _ e => e)
  obtain ⟨v, rfl, hq⟩ := z
  exact wpAny_pure hq
end
open L2
end FP
/-! FP54: operators of own objects with several kinds on the right. -/
namespace FP
open PySem PySem.Spec PyProof.Rows L2
end FP
/-! FP55: repr, of the empty dict too. -/
namespace FP
open PySem PySem.Spec PyProof.Rows L2
end FP
/-! FP56: dicts of one's own: made, changed, asked, handed on. -/
namespace FP
open PySem L2
variable [Tabl]
section
variable {mg : Gm} {B : Hp} {W W' : Wd} {H H' : Hp} {σ : St} {ρ : Env}
theorem EnvR.setOD (e : EnvR mg B W H σ ρ) (h : Holds W H) {i : Nat} {p : Addr} {vs : List (Key × V)} {kvs : List (Key × D)} (n : H p = none) (nb : B p = none) (hk : vs.map (·.1) = kvs.map (·.1)) (r : Reps mg W (vs.map (·.2)) (kvs.map (·.2))) : EnvR mg B W (upd H p (.dK vs)) (σ.set i (some (.ref p))) (ρ.set i (.od kvs)) :=
  e.news (Step.lay h n) (fun a ha => by obtain rfl := List.mem_singleton.mp ha; exact n) ⟨p, vs, rfl, upd_same, h.same.free n, h.nT n, nb, hk, r⟩
theorem EnvR.odTurn (e : EnvR mg B W H σ ρ) {i : Nat} {p : Addr} {vs : List (Key × V)} {xs ys : List (Key × D)} (hi : ρ[i]? = some (.od xs)) (hs : σ[i]? = some (some (.ref p))) (hk : vs.map (·.1) = ys.map (·.1)) (r : Reps mg W (vs.map (·.2)) (ys.map (·.2))) : EnvR mg B W (upd H p (.dK vs)) σ (ρ.set i (.od ys)) := by
  obtain ⟨o, h1, h2⟩ := e.sl i _ hi
  rw [hs] at h1
  cases h1
  obtain ⟨u, h4, h5, h6, h7⟩ := h2.at (a := p) (List.mem_singleton.mpr rfl)
  exact e.turn hi hs (List.mem_singleton.mpr rfl) (fun _ h => h) ⟨p, vs, rfl, upd_same, h5, h6, h7, hk, r⟩
/-- what is mine is handed to the world, and changed by it -/
theorem EnvR.give2 (e : EnvR mg B W H σ ρ) {i : Nat} {p : Addr} {u : HO} {s : Sl} {x : D} (hi : ρ[i]? = some s) (hs : σ[i]? = some (some (.ref p))) (m : p ∈ s.fp (some (.ref p))) (l : Le W (W.put p u)) (r : Rep mg (W.put p u) (.ref p) x) : EnvR mg B (W.put p u) (upd H p u) σ (ρ.set i (.d x)) := by
  refine ⟨by simpa using e.len, fun j sl hj => ?_, fun j k s1 s2 o1 o2 a hjk q1 q2 q3 q4 m1 m2 => ?_⟩
  · rcases get_set hj with ⟨rfl, rfl⟩ | ⟨nj, hj⟩
    · exact ⟨_, hs, _, rfl, r⟩
    · obtain ⟨o, g1, g2⟩ := e.sl j sl hj
      refine ⟨o, g1, g2.keep l fun a ha u' h5 h6 h7 => ?_⟩
      have ne : a ≠ p := fun q => e.dis i j s sl _ o p nj hi hj hs g1 m (by rw [← q]; exact ha)
      refine ⟨by rw [upd_ne ne]; exact h5, ?_, h7⟩
      show upd W.H p _ a = none
      rw [upd_ne ne]
      exact h6
  · rcases get_set q1 with ⟨_, z⟩ | ⟨n1, q1⟩
    · rw [← z] at m1
      cases m1
    · rcases get_set q2 with ⟨_, z⟩ | ⟨n2, q2⟩
      · rw [← z] at m2
        cases m2
      · exact e.dis j k s1 s2 o1 o2 a hjk q1 q2 q3 q4 m1 m2
end
def dropKD (kvs : List (Key × D)) (k : Key) : List (Key × D) := kvs.filter fun kv => decide (kv.1 ≠ k)
theorem drop_rep {mg : Gm} {W : Wd} {k : Key} : ∀ {kvs : List (Key × V)} {ds : List (Key × D)}, kvs.map (·.1) = ds.map (·.1) → Reps mg W (kvs.map (·.2)) (ds.map (·.2)) →
    (dropK kvs k).map (·.1) = (dropKD ds k).map (·.1) ∧ Reps mg W ((dropK kvs k).map (·.2)) ((dropKD ds k).map (·.2))
  | [], [], _, _ => ⟨rfl, .nil⟩
  | p :: kvs, q :: ds, hk, hr => by
    obtain ⟨h1, h2⟩ := List.cons.inj hk
    have h1 : p.1 = q.1 := h1
    cases hr with
    | cons r rs =>
      obtain ⟨i1, i2⟩ := drop_rep (k := k) h2 rs
      unfold dropK dropKD at i1 i2 ⊢
      rw [List.filter_cons, List.filter_cons, h1]
      by_cases e : q.1 = k
      · have e2 : decide (q.1 ≠ k) = false := decide_eq_false fun n => n e
        rw [e2]
        exact ⟨i1, i2⟩
      · have e2 : decide (q.1 ≠ k) = true := decide_eq_true e
        rw [e2]
        exact ⟨by rw [if_pos rfl, if_pos rfl, List.map_cons, List.map_cons, i1, h1], .cons r i2⟩
  | [], _ :: _, hk, _ => by cases hk
  | _ :: _, [], hk, _ => by cases hk
section
variable {ι : Type} {Xs : ι → Cx} {mg : Gm} {Wx : WX} {pos : Pos}
/-! ### new dicts -/
abbrev DTD := Env → M (List (Key × D))
def CpOD (mg : Gm) (Wx : WX) (t : TE) (g : DTD) : Prop := ∀ B ρ Q E, g ρ Q E → ∀ W σ H Q', Holds W H → EnvR mg B W H σ ρ → ExR mg Wx W H σ E → (∀ W' H' p vs kvs, Step W H W' H' → H' p = none → vs.map (·.1) = kvs.map (·.1) → Reps mg W' (vs.map (·.2)) (kvs.map (·.2)) → Q kvs → Q' (.ref p) (upd H' p (.dK vs))) → t σ H Q'
/-- an expression that gives a new dict -/
def DOD (Xs : ι → Cx) (mg : Gm) (Wx : WX) (e : Expr) (g : DTD) : Prop := ∃ t, (∀ i, PE (Xs i) e t) ∧ CpOD mg Wx t g
abbrev dODn : DTD := fun _ Q _ => Q []
theorem dod_new : DOD Xs mg Wx (.Dict [] [] pos) dODn := ⟨_, fun _ => pe_dnewK, fun B ρ Q E hf W σ H Q' hh e x q p hp => q W H p [] [] (Step.refl hh) hp rfl .nil hf⟩
abbrev dODp (f : DTE) : DTD := fun ρ Q E => f ρ (fun x => match x with
  | .lst xs => ∃ kvs, pairsD xs = some kvs ∧ Q (mergeD [] kvs)
  | _ => False) E
theorem dod_pairs {p : Pos} {e : Expr} {f : DTE} (h : DE Xs mg Wx e f) (hm : mg.mg "dict" = none) (hv : bootBuiltins "dict" = some (.type "dict")) (hK : ∀ j, (Xs j).K = mg.K := by intro _; rfl) (hM : ∀ j, (Xs j).mg = mg.mg := by intro _; rfl) (hc : ∀ j, (Xs j).calm = true := by intro _; rfl) (hg : ∀ j, Gl (Xs j) "dict" := by intro _; rfl)
    (he : ∀ i, starEach [e] (Xs i).env = (false, eval e (Xs i).env) :: starEach [] (Xs i).env := by intro _; rfl) : DOD Xs mg Wx (.Call (.Name "dict" p) [e] [] pos) (dODp f) := by
  obtain ⟨t, h1, h2⟩ := da_cons h da_nil he
  refine ⟨_, fun i => pe_callTy (cr_dictP (hK i) (hc i)) (hg i) (by rw [hM i]; exact hm) hv (h1 i) (by decide) (by decide) (he i) rfl, ?_⟩
  intro B ρ Q E hf W σ H Q' hh en x q
  refine h2 B ρ (fun ds => match ds with
    | [.lst xs] => ∃ kvs, pairsD xs = some kvs ∧ Q (mergeD [] kvs)
    | _ => False) E ?_ W σ H _ hh en x fun W1 H1 vs ds s1 r1 k1 => ?_
  · refine cast ?_ hf
    show f ρ _ E = f ρ _ E
    congr 1
    funext d
    cases d <;> rfl
  match ds, r1, k1 with
  | [.lst xs], .cons (v := v) r .nil, ⟨kvs, hk, k2⟩ =>
    cases r with
    | @lst a us _ ha rs =>
      obtain ⟨ps, ws, g1, g2, g3, g4⟩ := pairs_v s1.holds rs hk
      refine ⟨a, ps, ws, rfl, by rw [← g1]; exact SqL.of (s1.holds.same _ _ ha), g2, fun p n => ?_⟩
      obtain ⟨m1, m2⟩ := merge_v (us0 := []) (kvs0 := []) g3 g4 rfl .nil
      exact q W1 H1 p _ _ s1 n m1 m2 k2
abbrev dSetOD (i : Nat) (g : DTD) : DTS := fun N ρ => g ρ (fun kvs => N.nx (ρ.set i (.od kvs))) (fun x => N.rs x ρ)
theorem ds_setOD {i : Nat} {x : Str} {e : Expr} {g : DTD} {pos' : Pos} (h : DOD Xs mg Wx e g) (hN : ∀ j, (Xs j).N.Nodup) (hi : ∀ j, (Xs j).N[i]? = some x := by intro _; rfl) (hx : ∀ j, Loc (Xs j).env.scope x := by intro _; first | exact Or.inl rfl | exact Or.inr rfl)
    (hs : ∀ j, swapsWith e (some (.Name x pos')) pos.line (Xs j).env = pure false := by intro _; rfl) (hf : ∀ j, (Xs j).fn x = true ∨ (Xs j).env.scope.names.lookup x = some .local := by intro _; first | exact .inl rfl | exact .inr rfl) : DS Xs mg Wx (.Assign [.Name x pos'] e pos) (dSetOD i g) := by
  obtain ⟨t, h1, h2⟩ := h
  refine ⟨_, fun j => ps_set (i := i) (hN j) (hi j) (hx j) (h1 j) (hs j) (hf j), fun W0 B N ρ hf W σ H Ds s e n => ?_⟩
  refine h2 B ρ _ _ hf W σ H _ s.holds e (n.ex s e) fun W1 H1 p vs kvs s1 hp hk r1 k1 => ?_
  have s01 := s.trans s1
  exact n.nx W1 _ _ _ (s01.trans (Step.lay s01.holds hp)) ((e.step s1).setOD s01.holds hp (s01.noB hp) hk r1) k1
/-- a, x = e, a new dict -/
abbrev dParOD (i j : Nat) (f : DTE) (g : DTD) : DTS := fun N ρ => f ρ (fun d => g ρ (fun kvs => N.nx ((ρ.set i (.d d)).set j (.od kvs))) (fun x => N.rs x ρ)) (fun x => N.rs x ρ)
theorem ds_parOD {i j : Nat} {x y : Str} {a b : Expr} {f : DTE} {g : DTD} {px py pt : Pos} {kt k2 : Nat} {pt2 : Pos} (h : DE Xs mg Wx a f) (h' : DOD Xs mg Wx b g) (hN : ∀ l, (Xs l).N.Nodup)
    (hw : ∀ l, swappedStores [.Tuple [.Name x px, .Name y py] kt pt] (.Tuple [a, b] k2 pt2) (Xs l).env = pure (some [x, y]) := by intro _; rfl) (hij : i ≠ j := by decide) (hi : ∀ l, (Xs l).N[i]? = some x := by intro _; rfl) (hj : ∀ l, (Xs l).N[j]? = some y := by intro _; rfl)
    (hx : ∀ l, (Xs l).env.scope.names.lookup x = some .local := by intro _; rfl) (hy : ∀ l, (Xs l).env.scope.names.lookup y = some .local := by intro _; rfl) (hc : ∀ l, (Xs l).calm = true := by intro _; rfl)
    (hs : ∀ l, swapsWithSole [.Tuple [.Name x px, .Name y py] kt pt] (.Tuple [a, b] k2 pt2) pos.line (Xs l).env = pure false := by intro _; rfl)
    (he : ∀ i, starEach [a, b] (Xs i).env = (false, eval a (Xs i).env) :: starEach [b] (Xs i).env := by intro _; rfl) (he2 : ∀ i, starEach [b] (Xs i).env = [(false, eval b (Xs i).env)] := by intro _; rfl) : DS Xs mg Wx (.Assign [.Tuple [.Name x px, .Name y py] kt pt] (.Tuple [a, b] k2 pt2) pos) (dParOD i j f g) := by
  obtain ⟨t, h1, h2⟩ := h
  obtain ⟨u, g1, g2⟩ := h'
  refine ⟨_, fun l => ps_par (i := i) (j := j) (hc l) (hN l) (hi l) (hj l) hij (hx l) (hy l) (pa_cons (h1 l) (pa_cons (g1 l) pa_nil (he2 l)) (he l)) (hw l) (hs l), fun W0 B N ρ hf W σ H Ds s e n => ?_⟩
  refine h2 B ρ _ _ hf W σ H _ s.holds e (n.ex s e) fun W1 H1 v d s1 r1 k1 => ?_
  have e1 := e.step s1
  have s01 := s.trans s1
  refine g2 B ρ _ _ k1 W1 σ _ _ s1.holds e1 (n.ex s01 e1) fun W2 H2 p vs kvs s2 hp hk r2 k2 => ?_
  have s02 := s01.trans s2
  exact ⟨_, _, rfl, n.nx W2 _ _ _ (s02.trans (Step.lay s2.holds hp)) (((e1.step s2).set (r1.mono s2.le)).setOD s2.holds hp (s02.noB hp) hk r2) k2⟩
/-! ### changes -/
abbrev dOdPut (i : Nat) (fk fv : DTE) : DTS := fun N ρ => match ρ[i]? with
  | some (.od kvs) => fv ρ (fun v => fk ρ (fun k => ∃ kk, keyD k = some kk ∧ kvs.length < sizeLine ∧ N.nx (ρ.set i (.od (putKD kvs kk v)))) (fun x => N.rs x ρ)) (fun x => N.rs x ρ)
  | _ => False
theorem ds_odPut (i : Nat) {x : Str} {k v : Expr} {fk fv : DTE} {p tpos : Pos} {m : Nat} (hr : ∀ j, RmG m (Xs j).A) (hk : DE Xs mg Wx k fk) (hv : DE Xs mg Wx v fv) (hN : ∀ j, (Xs j).N[i]? = some x := by intro _; rfl) (hvi : ∀ j, Vis (Xs j).env.scope x := by intro _; first | exact Or.inl rfl | exact Or.inr (Or.inl rfl) | exact Or.inr (Or.inr rfl))
    (hd : (x == ("__debug__" : Str)) = false := by decide) (hcd : (x == ("__classdict__" : Str)) = false := by decide) (hs : ∀ j, swapsWith v (some (.Subscript (.Name x p) k tpos)) pos.line (Xs j).env = pure false := by intro _; rfl) :
    DS Xs mg Wx (.Assign [.Subscript (.Name x p) k tpos] v pos) (dOdPut i fk fv) := by
  obtain ⟨tk, k1, k2⟩ := hk
  obtain ⟨tv, v1, v2⟩ := hv
  refine ⟨_, fun j => ps_dput (by have := (hr j).r.un; omega) (pe_var (hN j) (hvi j) hd hcd) (k1 j) (v1 j) (hs j), fun W0 B N ρ hf W σ H Ds s e n => ?_⟩
  unfold dOdPut at hf
  split at hf
  · rename_i kvs hx
    refine v2 B ρ _ _ hf W σ H _ s.holds e (n.ex s e) fun W1 H1 v1 d1 s1 r1 q1 => ?_
    have e1 := e.step s1
    obtain ⟨o, g1, p, vs, g2, _⟩ := e1.sl i _ hx
    subst g2
    refine ⟨.ref p, g1, ?_⟩
    refine k2 B ρ _ _ q1 W1 σ H1 _ s1.holds e1 (n.ex (s.trans s1) e1) fun W2 H2 v2 d2 s2 r2 q2 => ?_
    obtain ⟨kk, hkk, hl, hq⟩ := q2
    have e2 := e1.step s2
    obtain ⟨o', y1, p', vs', y2, y3, y4, y5, y6, hk2, rr⟩ := e2.sl i _ hx
    rw [g1] at y1
    cases y1
    cases y2
    have ek := keyD_v r2 hkk
    subst ek
    obtain ⟨u1, u2⟩ := put_rep (k := kk) hk2 rr (r1.mono s2.le)
    exact ⟨p, _, rfl, DPut.k y3 (by rw [len_keys hk2]; exact hl), n.nx W2 _ σ _ (((s.trans s1).trans s2).own y6 y3 y4 y5) (e2.odTurn hx g1 u1 u2) hq⟩
  · exact hf.elim
/-- x.pop(k, e), x one's own -/
abbrev dOdPop (i : Nat) (fk fv : DTE) : DTS := fun N ρ => match ρ[i]? with
  | some (.od kvs) => fk ρ (fun k => fv ρ (fun _ => ∃ kk, keyD k = some kk ∧ N.nx (ρ.set i (.od (dropKD kvs kk)))) (fun x => N.rs x ρ)) (fun x => N.rs x ρ)
  | _ => False
theorem dropK_no' {κ : Type} [DecidableEq κ] {kvs : List (κ × V)} {k : κ} (h : valV kvs k = none) : dropK kvs k = kvs := by
  unfold dropK
  unfold valV at h
  rw [List.filter_eq_self]
  intro p hp
  have h1 : (kvs.find? fun kv => decide (kv.1 = k)) = none := by
    cases q : kvs.find? fun kv => decide (kv.1 = k) with
    | none => rfl
    | some y =>
      rw [q] at h
      cases h
  have h2 := List.find?_eq_none.mp h1 p hp
  exact decide_eq_true fun z => h2 (decide_eq_true z)
theorem ds_odPop (i : Nat) {x : Str} {k v : Expr} {fk fv : DTE} {p apos cpos : Pos} (hk : DE Xs mg Wx k fk) (hv : DE Xs mg Wx v fv) (hN : ∀ j, (Xs j).N[i]? = some x := by intro _; rfl) (hvi : ∀ j, Vis (Xs j).env.scope x := by intro _; first | exact Or.inl rfl | exact Or.inr (Or.inl rfl) | exact Or.inr (Or.inr rfl))
    (hd : (x == ("__debug__" : Str)) = false := by decide) (hcd : (x == ("__classdict__" : Str)) = false := by decide) (m : ∀ j, M2 (Xs j) (.Name x p) "pop" apos k v cpos := by intro _; exact ⟨rfl, rfl, rfl, rfl⟩)
    (hs : ∀ j, swapsWith (.Call (.Attribute (.Name x p) "pop" apos) [k, v] [] cpos) none pos.line (Xs j).env = pure false := by intro _; rfl) :
    DS Xs mg Wx (.Expr (.Call (.Attribute (.Name x p) "pop" apos) [k, v] [] cpos) pos) (dOdPop i fk fv) := by
  obtain ⟨tk, k1, k2⟩ := hk
  obtain ⟨tv, v1, v2⟩ := hv
  refine ⟨_, fun j => ps_expr (pe_dpop2 (pe_var (hN j) (hvi j) hd hcd) (k1 j) (v1 j) (m j)) (hs j), fun W0 B N ρ hf W σ H Ds s e n => ?_⟩
  unfold dOdPop at hf
  split at hf
  · rename_i kvs hx
    obtain ⟨o, g1, p, vs, g2, g3, _⟩ := e.sl i _ hx
    subst g2
    refine ⟨.ref p, g1, p, rfl, .inl ⟨_, .inl g3⟩, ?_⟩
    refine k2 B ρ _ _ hf W σ H _ s.holds e (n.ex s e) fun W1 H1 v1 d1 s1 r1 q1 => ?_
    have e1 := e.step s1
    refine v2 B ρ _ _ q1 W1 σ H1 _ s1.holds e1 (n.ex (s.trans s1) e1) fun W2 H2 v2 d2 s2 r2 q2 => ?_
    obtain ⟨kk, hkk, hq⟩ := q2
    have e2 := e1.step s2
    obtain ⟨o', y1, p', vs', y2, y3, y4, y5, y6, hk2, rr⟩ := e2.sl i _ hx
    rw [g1] at y1
    cases y1
    cases y2
    have ek := keyD_v r1 hkk
    subst ek
    obtain ⟨u1, u2⟩ := drop_rep (k := kk) hk2 rr
    have fin := n.nx W2 _ σ _ (((s.trans s1).trans s2).own y6 y3 y4 y5) (e2.odTurn hx g1 u1 u2) hq
    refine ⟨vs', kk, y3, rfl, fun v _ => fin, fun hn => ?_⟩
    rw [dropK_no' hn] at fin
    have e9 : upd H2 p (.dK vs') = H2 := by
      funext b
      by_cases hb : b = p
      · rw [hb, upd_same, y3]
      · rw [upd_ne hb]
    rw [e9] at fin
    exact fin
  · exact hf.elim
/-! ### asked -/
abbrev dInOD (neg : Bool) (i : Nat) (fk : DTE) : DTE := fun ρ Q E => match ρ[i]? with
  | some (.od kvs) => fk ρ (fun k => ∃ kk, keyD k = some kk ∧ Q (.bl (if neg then !(valD kvs kk).isSome else (valD kvs kk).isSome))) E
  | _ => False
theorem cp_inOD (neg : Bool) (i : Nat) {tk : TE} {fk : DTE} (k2 : Cp mg Wx tk fk) : Cp mg Wx (if neg then tDNotIn tk (tVar i) else tDIn tk (tVar i)) (dInOD neg i fk) := by
  have key : ∀ B ρ Q E, dInOD neg i fk ρ Q E → ∀ W σ H Q', Holds W H → EnvR mg B W H σ ρ → ExR mg Wx W H σ E → ToV mg W H Q Q' → tk σ H fun y H1 => ∃ v, σ[i]? = some (some v) ∧ ∃ a o, v = .ref a ∧ DGet H1 a y o ∧ Q' (.bl (if neg then !o.isSome else o.isSome)) H1 := by
    intro B ρ Q E hf W σ H Q' hh e x q
    unfold dInOD at hf
    split at hf
    · rename_i kvs hx
      refine k2 B ρ _ E hf W σ H _ hh e x fun W1 H1 v1 d1 s1 r1 q1 => ?_
      obtain ⟨kk, hkk, hq⟩ := q1
      obtain ⟨o, g1, p, vs, g2, g3, _, _, _, hk, rr⟩ := (e.step s1).sl i _ hx
      subst g2
      have ek := keyD_v r1 hkk
      subst ek
      refine ⟨.ref p, g1, p, valV vs kk, rfl, DGet.k g3, ?_⟩
      have es : (valV vs kk).isSome = (valD kvs kk).isSome := by
        rcases val_rep (k := kk) hk rr with ⟨z1, z2⟩ | ⟨v, d', z1, z2, z3⟩ <;> rw [z1, z2] <;> rfl
      rw [es]
      exact q W1 H1 _ _ s1 (.bl _) hq
    · exact hf.elim
  cases neg with
  | true => exact fun B ρ Q E hf W σ H Q' hh e x q => key B ρ Q E hf W σ H Q' hh e x q
  | false => exact fun B ρ Q E hf W σ H Q' hh e x q => key B ρ Q E hf W σ H Q' hh e x q
theorem dt_inOD (i : Nat) {x : Str} {k : Expr} {fk : DTE} {p : Pos} {m : Nat} (hr : ∀ j, RmG m (Xs j).A) (hk : DE Xs mg Wx k fk) (hN : ∀ j, (Xs j).N[i]? = some x := by intro _; rfl) (hvi : ∀ j, Vis (Xs j).env.scope x := by intro _; first | exact Or.inl rfl | exact Or.inr (Or.inl rfl) | exact Or.inr (Or.inr rfl))
    (hd : (x == ("__debug__" : Str)) = false := by decide) (hcd : (x == ("__classdict__" : Str)) = false := by decide) : DT Xs mg Wx (.Compare k [.In] [.Name x p] pos) (dB (dInOD false i fk)) := by
  obtain ⟨tk, k1, k2⟩ := hk
  exact ⟨_, fun j => pt_cmp (pc_din (by have := (hr j).r.un; omega) (k1 j) (pe_var (hN j) (hvi j) hd hcd)), (cp_inOD false i k2).b⟩
theorem dt_notInOD (i : Nat) {x : Str} {k : Expr} {fk : DTE} {p : Pos} {m : Nat} (hr : ∀ j, RmG m (Xs j).A) (hk : DE Xs mg Wx k fk) (hN : ∀ j, (Xs j).N[i]? = some x := by intro _; rfl) (hvi : ∀ j, Vis (Xs j).env.scope x := by intro _; first | exact Or.inl rfl | exact Or.inr (Or.inl rfl) | exact Or.inr (Or.inr rfl))
    (hd : (x == ("__debug__" : Str)) = false := by decide) (hcd : (x == ("__classdict__" : Str)) = false := by decide) : DT Xs mg Wx (.Compare k [.NotIn] [.Name x p] pos) (dB (dInOD true i fk)) := by
  obtain ⟨tk, k1, k2⟩ := hk
  exact ⟨_, fun j => pt_cmp (pc_dnotin (by have := (hr j).r.un; omega) (k1 j) (pe_var (hN j) (hvi j) hd hcd)), (cp_inOD true i k2).b⟩
/-! ### handed on -/
def tFrz0 (t : TS) : TS := fun D σ H => ∃ d u, H d = some u ∧ Mut (some u) ∧ ∀ od, t D σ (upd H d (.frz od u))
theorem ps_frz0 {X : Cx} {st : Stmt} {t : TS} (h : PS X st t) : PS X st (tFrz0 t) := by
  refine ⟨fun pins s σ H D I hw => ?_⟩
  obtain ⟨d, u, hd, mu, hw⟩ := hw
  obtain ⟨od, I1⟩ := I.lock hd mu
  exact h.run pins s σ _ D I1 (hw od)
/-- the own dict is handed on ahead of a statement -/
abbrev dFrzD (i : Nat) (f : DTS) : DTS := fun N ρ => match ρ[i]? with
  | some (.od kvs) => f N (ρ.set i (.d (.dct kvs)))
  | _ => False
theorem ds_frzD (i : Nat) {st : Stmt} {f : DTS} (h : DS Xs mg Wx st f) : DS Xs mg Wx st (dFrzD i f) := by
  obtain ⟨t, h1, h2⟩ := h
  refine ⟨tFrz0 t, fun j => ps_frz0 (h1 j), fun W0 B N ρ hf W σ H Ds s e n => ?_⟩
  unfold dFrzD at hf
  split at hf
  · rename_i kvs hx
    obtain ⟨o, g1, p, vs, g2, g3, g4, g5, g6, hk, r⟩ := e.sl i _ hx
    subst g2
    refine ⟨p, _, g3, True.intro, fun od => ?_⟩
    have s1 : Step W0 B W (upd H p (.frz od (.dK vs))) := s.own g6 g3 g4 g5
    have s2 := s1.taken g6 upd_same g4 g5
    exact h2 W0 B N _ hf _ σ _ Ds s2 (e.give2 hx g1 (List.mem_singleton.mpr rfl) (Wd.put_le g4) (Rep.newDct hk r g4)) n
  · exact hf.elim
end
end FP
/-! FP57: one statement, then the others, by the values of the first one (small goals). -/
namespace FP
open PySem L2
variable [Tabl]
section
variable {f : DTE} {g : DTS} {N : Nd} {ρ : Env} {i : Nat}
/-- the expression comes to a datum with P -/
abbrev EvP (f : DTE) (ρ : Env) (P : D → Prop) : Prop := ∀ (Q : D → Prop) (E : XD → Prop), (∀ d, P d → Q d) → f ρ Q E
/-- the expression comes to just this datum -/
abbrev Ev (f : DTE) (ρ : Env) (d : D) : Prop := ∀ (Q : D → Prop) (E : XD → Prop), Q d → f ρ Q E
theorem Ev.p {d : D} (h : Ev f ρ d) : EvP f ρ (fun x => x = d) := fun Q E q => h Q E (q d rfl)
theorem seq_p (P : D → Prop) (hf : EvP f ρ P) (hg : ∀ d, P d → g N (ρ.set i (.d d))) : dSeq (dSet i f) g N ρ := hf _ _ hg
theorem seq_v (d : D) (hf : Ev f ρ d) (hg : g N (ρ.set i (.d d))) : dSeq (dSet i f) g N ρ := hf _ _ hg
theorem seq_app {xs : List D} (h : ρ[i]? = some (.own xs)) (d : D) (hs : xs.length < sizeLine) (hf : Ev f ρ d) (hg : g N (ρ.set i (.own (xs ++ [d])))) : dSeq (dApp i f) g N ρ := by
  show dApp i f _ ρ
  unfold dApp
  rw [h]
  exact hf _ _ ⟨hs, hg⟩
theorem ret_v (d : D) (hf : Ev f ρ d) (hq : N.rt d ρ) : dRet f N ρ := hf _ _ hq
/-- a test that comes to just this truth -/
abbrev EvT (f : DTT) (ρ : Env) (b : Bool) : Prop := ∀ (Q : Bool → Prop) (E : XD → Prop), Q b → f ρ Q E
theorem seq_if {c : DTT} {f1 f2 : DTS} (b : Bool) (hc : EvT c ρ b) (h : bit b (dSeq f1 g N ρ) (dSeq f2 g N ρ)) : dSeq (dIfS c f1 f2) g N ρ := hc _ _ h
end
end FP
/-! FP58: list(d), dict(d), sorted(d); own objects in f-strings. -/
namespace FP
open PySem L2
variable [Tabl]
section
variable {ι : Type} {Xs : ι → Cx} {mg : Gm} {Wx : WX} {pos : Pos}
theorem kV_keys {kvs : List (Key × V)} {ds : List (Key × D)} {W : Wd} (h : kvs.map (·.1) = ds.map (·.1)) : Reps mg W (kvs.map fun kv => kV kv.1) (ds.map fun kv => kD kv.1) := by
  have e1 : (kvs.map fun kv => kV kv.1) = (ds.map (·.1)).map kV := by rw [← h, List.map_map]; rfl
  have e2 : (ds.map fun kv => kD kv.1) = (ds.map (·.1)).map kD := by rw [List.map_map]; rfl
  rw [e1, e2]
  generalize ds.map (·.1) = ks
  induction ks with
  | nil => exact .nil
  | cons k r ih => exact .cons (kD_rep k) ih
def rdListD : RDL := fun ds Q => match ds with
  | [.dct kvs] => Q (.lst (kvs.map fun kv => kD kv.1))
  | _ => False
theorem ok_listD (hc : ∀ j, (Xs j).calm = true := by intro _; rfl) : CallOk Xs mg (.type "list") rdListD := by
  refine ⟨_, fun j => call_listD (hc j), ?_⟩
  intro W H vs ds Q Q' hh r h q
  unfold rdListD at h
  split at h
  · cases r with
    | cons r rs =>
      cases rs
      cases r with
      | dct ha hk ra => exact ⟨_, _, rfl, .inr ⟨_, hh.same _ _ ha⟩, to_lst q hh (kV_keys hk) h⟩
  · exact h.elim
def rdSortedD : RDL := fun ds Q => match ds with
  | [.dct kvs] => ∃ ks : List Str, kvs.map (·.1) = ks.map Sum.inr ∧ ks.length < 64 ∧ Q (.lst ((sortS ks).map .str))
  | _ => False
theorem ok_sortedD (hc : ∀ j, (Xs j).calm = true := by intro _; rfl) : CallOk Xs mg (.builtin "sorted") rdSortedD := by
  refine ⟨_, fun j => call_sortedD (hc j), ?_⟩
  intro W H vs ds Q Q' hh r h q
  unfold rdSortedD at h
  split at h
  · cases r with
    | cons r rs =>
      cases rs
      cases r with
      | dct ha hk ra =>
        obtain ⟨ks, h1, h2, h3⟩ := h
        refine ⟨_, _, ks, rfl, .inr ⟨_, hh.same _ _ ha⟩, hk.trans h1, h2, fun ys p hp hs n => ?_⟩
        have e := sortS_eq hp hs
        subst e
        exact to_lst q hh (Reps.strs _) h3 p n
  · exact h.elim
/-! ### {x} of an own object -/
abbrev dFmtM (c : Str) (f : List D → M D) (fe : DTE) : DTE := fun ρ Q E => fe ρ (fun x => match x with
  | .ins c' fs => c' = c ∧ f [.ins c' fs] (fun d => match d with
    | .str y => Q (.str y)
    | _ => False) F0
  | _ => False) E
theorem de_fmtM {P : Program} {w : World} {base : Heap} {k : Nat} {c : Str} {C : Addr} {f : List D → M D} {e : Expr} {fe : DTE} (Fc : ClsF mg c C) (S : SpecOk P w mg base k C "__str__" 1 f) (fm : PySem.W.findIn mg.K (.ref C) "__format__" = some (some (.builtin "object.__format__"))) (hr : ∀ j, RmG (k + 2) (Xs j).A) (h : DE Xs mg Wx e fe)
    (hP : HPs Xs P w mg base := by intro _; exact ⟨rfl, rfl, rfl, rfl, rfl⟩) : DE Xs mg Wx (.FormattedValue e (-1) none pos) (dFmtM c f fe) := by
  obtain ⟨fa, fd, ps, h1, h2, h3, hb, hl, G⟩ := S.ex
  obtain ⟨t, g1, g2⟩ := h
  refine ⟨fun σ H Q => t σ H fun x H1 => ∃ a dx fs, x = .ref a ∧ H1 a = some (.ins C dx fs) ∧ spD mg 1 f [.ref a] H1 (fun v H' => ∃ n : Str, v = .str n ∧ Q (.str n) H') E0, fun j => ⟨fun pins s σ H Q I hq => ?_⟩, ?_⟩
  · obtain ⟨p1, p2, p3, p4, p5⟩ := hP j
    subst p1 p2 p5
    refine wpAny_FormattedValue_plain (thn ((g1 j).run pins s σ H _ I hq) fun v s1 hv => ?_)
    obtain ⟨x, H1, I1, rx, a, dx, fs, rfl, ea, hs⟩ := hv
    obtain rfl : v = Value.ref a := rx
    obtain ⟨mA, O, _⟩ := ins_get I1.hok ea
    obtain ⟨od, J, _⟩ := O.look
    have m2 : RmG k (Xs j).A.in1 := RmG.in1 (k := k) ((hr j).mono (by omega))
    have m3 : RmG k (Xs j).A.in1 := m2
    refine PySem.W.kfo_fieldS m2.r.units0 I1.kIn J (by rw [p3]; exact fm) (by rw [p3]; exact Fc.hm) (by rw [p3]; exact h1) (by rw [p3]; exact h2) ?_
    refine wpAny_mono (callAt0 (X := Xs j) (by rw [p3, p4]; exact G) m2 rfl (by rw [p3]; exact hb) (I1.tok _) (vs := [.ref a]) (.cons (show RelV (.ref _) (.ref _) from rfl) .nil) hs) (fun v z' hv => ?_) fun _ _ q => q
    obtain ⟨x, H', I', rx, n, rfl, hq⟩ := hv
    obtain ⟨t, rfl⟩ := (show ∃ t, v = Value.str n t from rx)
    exact ⟨.str n, H', I', ⟨_, rfl⟩, hq⟩
  · intro B ρ Q E hf W σ H Q' hh en x q
    refine g2 B ρ _ E hf W σ H _ hh en x fun W1 H1 v d s1 r1 k1 => ?_
    dsimp only at k1
    split at k1
    · cases r1 with
      | @ins a C' dx fs c' ds hc ha hk rs =>
        obtain ⟨rfl, k2⟩ := k1
        have ec := Fc.eq hc
        subst ec
        refine ⟨a, dx, fs, rfl, s1.holds.same _ _ ha, spD_of s1.holds (.cons (.ins hc ha hk rs) .nil) rfl k2 fun W' H' v d s' r' hd => ?_⟩
        cases r' with
        | str n => exact ⟨n, rfl, q W' H' _ _ (s1.trans s') (.str n) hd⟩
        | _ => exact hd.elim
    · exact k1.elim
end
end FP
/-! FP59: o[i] of an own class that may raise. -/
namespace FP
open PySem L2
end FP
/-! FP60: defs with a default; C() of a class whose __init__ has one. -/
namespace FP
open PySem L2
variable [Tabl]
/-- a def as it stands, whatever its defaults -/
structure FunA (K : PySem.W.Frag) (x qual : Str) (st : Stmt) (f : Addr) (fd : FuncData) : Prop where
  ex : ∃ (oc : Value) (od : Option Addr) (dV kV doc pm : Value) (an : Option Addr) (cdv ct : Value) (osl : Array (Option Value)),
    fd = PySem.W.fnOf x qual (defArgs st) (defBody st) (defScope st) dV kV doc pm an cdv ct ∧ K.lookup f = some ⟨oc, od, .func fd, osl⟩ ∧ PySem.W.codeIn K cdv qual = true
  kp : PySem.W.keepIn K (.ref f) = true
abbrev FunDf (K : PySem.W.Frag) (x qual : Str) (st : Stmt) (dvs : List V) (f : Addr) (fd : FuncData) : Prop := FunD K x qual (defArgs st) (defBody st) (defScope st) dvs [] f fd
theorem FunDf.any {K : PySem.W.Frag} {x qual : Str} {st : Stmt} {dvs : List V} {f : Addr} {fd : FuncData} (F : FunDf K x qual st dvs f fd) : FunA K x qual st f fd := by
  obtain ⟨oc, od, dV, kV, doc, pm, an, cdv, ct, osl, h1, h2, h3, _, _⟩ := F.ex
  exact ⟨⟨oc, od, dV, kV, doc, pm, an, cdv, ct, osl, h1, h2, h3⟩, F.kp⟩
/-- one default: None -/
theorem funDN_mk {K : PySem.W.Frag} {x qual : Str} {st : Stmt} {f T : Addr} {oc tc : Value} {od an td : Option Addr} {osl tsl : Array (Option Value)} {kV doc pm cdv ct : Value} {tn : Nat} (l : K.lookup f = some ⟨oc, od, .func (PySem.W.fnOf x qual (defArgs st) (defBody st) (defScope st) (.ref T) kV doc pm an cdv ct), osl⟩)
    (c : PySem.W.codeIn K cdv qual = true) (k : PySem.W.keepIn K (.ref f) = true) (t : K.lookup T = some ⟨tc, td, .seq #[.none] tn, tsl⟩) : FunDf K x qual st [.non] f (PySem.W.fnOf x qual (defArgs st) (defBody st) (defScope st) (.ref T) kV doc pm an cdv ct) :=
  ⟨⟨oc, od, .ref T, kV, doc, pm, an, cdv, ct, osl, rfl, l, c, .inr ⟨List.cons_ne_nil _ _, T, _, [.none], tn, rfl, t, rfl, .cons rfl .nil⟩, .inl rfl⟩, k⟩
theorem fnG_ofA {P : Program} {w : World} {K : PySem.W.Frag} {mg : Str → Option Value} {base : Heap} {x qual : Str} {st : Stmt} {fa : Addr} {fd : FuncData} {N ps : List Str} {k : Nat} {sp : Sp} (F : FunA K x qual st fa fd) (S : FnScope N ps (defScope st)) (ln : ∀ vs H Q E, sp vs H Q E → vs.length = ps.length)
    (hb : ∀ (cdv : Value) (A : Around) (out : List PySem.Env) (z : Shared) (H : Hp) (vs : List V) (Q : VK) (E : XK), RmG k (A.deeper (PyProof.Rows.envOfC qual (defScope st) z.heap.objs.size fa cdv)) → sp vs H Q E →
      ∃ t, PSs (cxOf (L2.CX P w) P w K mg base N qual (defScope st) fa cdv A out z H E) (defBody st) t ∧ t { nx := fun _ H' => Q .non H', rt := Q } (L2.start N vs) H) : FnG P w K mg base (k + 1) fa fd ps sp := by
  obtain ⟨oc, od, dV, kV, doc, pm, an, cdv, ct, osl, rfl, lk, hcd⟩ := F.ex
  refine ⟨ln, fun A out z H ag us vs Q E m e0 bd rv hs => ?_⟩
  have inK : K.In z.heap := e0.mod.kin.keeps fun c u q => (e0.bs c u q).1
  have noL : z.heap.NoLimit := e0.mod.nolimit.keeps fun c u q => (e0.bs c u q).1
  have kinds : ∀ y ∈ ps.zip us, (defScope st).names.lookup y.1 = some .local ∨ ((defScope st).names.lookup y.1 = some .cell ∧ ((cellsFrom (z.heap.objs.size + 1) (defScope st).names []).lookup y.1).isSome = true) := by
    rintro ⟨n, v⟩ hy
    refine (S.par n (List.of_mem_zip hy).1).imp id ?_
    intro c
    exact ⟨c, PySem.W.cellsFrom_some _ _ _ (.inl c)⟩
  apply codeAny_call_function m.r.depth (inK _ _ lk) rfl S.co S.gen rfl (PySem.W.codeRec_of inK hcd)
  apply bd
  apply wpAny_newFunctionEnv_cells S.kind kinds
  intro env he z1 inC
  subst he
  obtain ⟨t, pt, tq⟩ := hb cdv A out z H vs Q E ⟨m.r.deeper _, m.g⟩ hs
  have I0 := inv_start (CX := L2.CX P w) (E := E) S m.r.hd e0 (ln _ _ _ _ hs) rv inC
  refine ⟨noL.keeps inC.toInCall.keep, codeAny_func (wpAny_mono (pt.run [] z1 _ H _ I0 tq) ?_ fun _ _ q => q)⟩
  intro fl z' hfl
  match fl, hfl with
  | .ret u, ⟨v, _, H', J, ru, q⟩ => exact ⟨v, H', J.os, J.bare, J.base, J.hok, ru, q⟩
  | .next, ⟨_, H', J, q⟩ => exact ⟨V.non, H', J.os, J.bare, J.base, J.hok, rfl, q⟩
  | .brk, ⟨_, _, _, q⟩ => exact q.elim
  | .cont, ⟨_, _, _, q⟩ => exact q.elim
/-- an __init__ whose last parameter has the default None -/
structure InitDf (P : Program) (w : World) (mg : Gm) (base : Heap) (k : Nat) (c : Str) (C : Addr) (n : Nat) (f : List D → ((List (Str × D)) → Prop) → (XD → Prop) → Prop) : Prop where
  one : InitOk P w mg base k c C n f
  ex : ∃ fa fd ps ds, Mk mg.K C fa ∧ Binds mg.K fd ps ds ∧ Vals [V.non] ds ∧ ps.length = n + 1 ∧ FnG P w mg.K mg.mg base k fa fd ps (spI mg c C n f)
section
variable {ι : Type} {Xs : ι → Cx} {mg : Gm} {Wx : WX} {pos : Pos}
theorem mkInitD {P : Program} {w : World} {base : Heap} {c : Str} {C : Addr} {qual : Str} {st : Stmt} {N ps : List Str} {k n : Nat} {f : List D → ((List (Str × D)) → Prop) → (XD → Prop) → Prop} (Fc : ClsF mg c C) (d : ∃ fa fd, Mk mg.K C fa ∧ FunDf mg.K "__init__" qual st [.non] fa fd) (S : FnScope N ps (defScope st)) (hn : ps.length = n + 1)
    (hb1 : ∀ (T : Addr) (kV doc pm : Value) (an : Option Addr) (cdv ct : Value) (us its : List Value), us.length = n + 1 → its.length = 1 →
      ∃ k, bindArgs (PySem.W.fnOf "__init__" qual (defArgs st) (defBody st) (defScope st) (.ref T) kV doc pm an cdv ct) ⟨us, []⟩ = seqItems? (.ref T) >>= k ∧ k (some its.toArray) = pure (ps.zip (us ++ its.drop 1)))
    (hb0 : ∀ (T : Addr) (kV doc pm : Value) (an : Option Addr) (cdv ct : Value) (us its : List Value), us.length = n → its.length = 1 →
      ∃ k, bindArgs (PySem.W.fnOf "__init__" qual (defArgs st) (defBody st) (defScope st) (.ref T) kV doc pm an cdv ct) ⟨us, []⟩ = seqItems? (.ref T) >>= k ∧ k (some its.toArray) = pure (ps.zip (us ++ its.drop 0)))
    (h : ∀ (fa : Addr) (cdv : Value) (A : Around) (outer : List PySem.Env) (s : Shared) (H : Hp) (E : XK), RmG k (A.deeper (PyProof.Rows.envOfC qual (defScope st) s.heap.objs.size fa cdv)) →
      ∃ g, DSs (fun _ : Unit => cxOf (L2.CX P w) P w mg.K mg.mg base N qual (defScope st) fa cdv A outer s H E) mg (fun cls d _ H' => E cls d H') (defBody st) g ∧
        ∀ x ds Q Ex, ds.length = n → f ds Q Ex → g ⟨fun ρ => ∃ fs r, ρ = .ob c x fs :: r ∧ Q fs, fun _ _ => False, fun _ => False, fun _ => False, fun x _ => Ex x⟩ (.ob c x [] :: startD (N.length - 1) ds)) :
    InitDf P w mg base (k + 1) c C n f := by
  obtain ⟨fa, fd, M, F⟩ := d
  have FA : FunA mg.K "__init__" qual st fa fd := F.any
  have key : FnG P w mg.K mg.mg base (k + 1) fa fd ps (spI mg c C n f) := by
   refine fnG_ofA FA S (fun vs H Q E hs => ?_) (fun cdv A outer s H vs Q E hr hs => ?_)
   · obtain ⟨W, ds, us, H1, x, dx, Qd, Ed, rfl, _, _, _, _, _, r, l, _⟩ := hs
     rw [List.length_cons, r.length, l, hn]
   · obtain ⟨W, ds, us, H1, x, dx, Qd, Ed, rfl, nx, ndx, ne, rfl, hh, r, l, hf, q, ex⟩ := hs
     obtain ⟨g, ⟨t, h1, h2⟩, h3⟩ := h fa cdv A outer s _ E hr
     have lu : us.length = n := by rw [r.length, l]
     have sd : Step W H1 W (upd H1 dx (.own x)) := Step.lay hh ndx
     have nx2 : (upd H1 dx (.own x)) x = none := by
       rw [upd_ne (Ne.symm ne)]
       exact nx
     have sx : Step W H1 W (upd (upd H1 dx (.own x)) x (.ins C dx [])) := sd.trans (Step.lay sd.holds nx2)
     refine ⟨t, h1 (), ?_⟩
     have hN : N.length = (N.length - 1) + 1 := by
       have q1 := congrArg List.length S.pre
       rw [List.length_take, hn] at q1
       omega
     have e0 : EnvR mg H1 W (upd (upd H1 dx (.own x)) x (.ins C dx [])) (L2.start N (.ref x :: us)) (.ob c x [] :: startD (N.length - 1) ds) := by
       have base0 := EnvR.start (N := N.tail) (mg := mg) (H := H1) r
       have lt : N.tail.length = N.length - 1 := List.length_tail
       have es : L2.start N (.ref x :: us) = some (.ref x) :: L2.start N.tail us := by
         unfold L2.start
         rw [List.map_cons, List.cons_append, List.length_cons, lt, Nat.sub_sub, Nat.add_comm 1]
       rw [es, ← lt]
       refine ⟨congrArg (· + 1) base0.len, fun i sl hi => ?_, fun i j s1 s2 o1 o2 a hij q1 q2 q3 q4 m1 m2 => ?_⟩
       · cases i with
         | zero =>
           cases hi
           exact ⟨_, rfl, [], rfl, ⟨C, dx, Fc.nm, upd_same⟩, hh.same.free nx, hh.nT nx, nx, rfl, .nil⟩
         | succ i =>
           obtain ⟨o, g1, g2⟩ := base0.sl i sl hi
           refine ⟨o, g1, g2.keep (Le.refl W) fun a _ u h5 h6 h7 => sx.mine h5 h6 h7⟩
       · have none2 : ∀ (j : Nat) (s : Sl) (o : Option V), (startD N.tail.length ds)[j]? = some s → a ∉ s.fp o := fun j s o hj m => by
           unfold startD at hj
           rcases List.mem_append.mp (List.mem_of_getElem? hj) with z | z
           · obtain ⟨_, _, z⟩ := List.mem_map.mp z
             rw [← z] at m
             cases m
           · have z := List.eq_of_mem_replicate z
             rw [z] at m
             cases m
         cases i with
         | succ i => exact none2 i s1 o1 q1 m1
         | zero =>
           cases j with
           | zero => exact hij rfl
           | succ j => exact none2 j s2 o2 q2 m2
     refine h2 W H1 _ _ (h3 x ds Qd Ed l hf) W _ _ _ sx e0 ⟨fun W' H' σ' ρ' s' e' k => ?_, fun _ _ _ _ _ _ _ _ _ k => k.elim, fun _ _ _ _ _ _ k => k.elim, fun _ _ _ _ _ _ k => k.elim, fun W' H' σ' ρ' cls dd y s' e' r' k => ex W' H' cls dd y s' r' k⟩
     obtain ⟨fs, rr, rfl, hq⟩ := k
     obtain ⟨o, g1, vs, g2, ⟨C', dy, hc, g3⟩, g4, g5, g6, hk, rs⟩ := e'.sl 0 _ rfl
     have ec := Fc.eq hc
     subst ec
     exact q W' H' vs fs dy s' g3 g4 g5 hk rs hq
  obtain ⟨d1, v1, b1⟩ := F.binds1 (ps := ps) (n + 1) 1 (List.cons_ne_nil _ _) (by rw [hn]; rfl) hb1
  obtain ⟨d0, v0, b0⟩ := F.binds1 (ps := ps) n 0 (List.cons_ne_nil _ _) (by rw [hn]; rfl) hb0
  cases v1
  exact ⟨⟨fa, fd, ps, M, b1, hn, key⟩, ⟨fa, fd, ps, d0, M, b0, v0, hn, key⟩⟩
/-- the making, with defaults -/
theorem makeGd {X : Cx} {C f : Addr} {k : Nat} {fd : FuncData} {ps : List Str} {sp : Sp} {Ex : XK} {pins : List (Addr × Obj)} {σ : St} {H : Hp} {z : Shared} {Q : VK} {us ds : List Value} {vs dvs : List V} (M : Mk X.K C f) (F : FnG X.prog X.w X.K X.mg X.base k f fd ps sp) (m : RmG (k + 1) X.A) (hb : Binds X.K fd ps ds) (rd : Vals dvs ds)
    (hx : PassesAt (L2.CX X.prog X.w) X σ Ex) (I : Inv X pins σ H z) (rv : Vals vs us)
    (h : ∀ x dx, H x = none → H dx = none → dx ≠ x → sp (.ref x :: (vs ++ dvs)) (upd (upd H dx (.own x)) x (.ins C dx [])) (fun v H2 => v = .non ∧ Q (.ref x) H2) Ex) : wpAny (model X.prog X.w) X.A (call (.ref C) us) (EP X pins σ Q) X.xe z := by
  have fr0 := I.hok.fresh (Nat.le_refl z.heap.objs.size)
  have fr1 := I.hok.fresh (Nat.le_succ z.heap.objs.size)
  have want := h (z.heap.objs.size + 1) z.heap.objs.size fr1 fr0 (Nat.ne_of_lt (Nat.lt_succ_self _))
  have J := Inv.made (C := C) I
  have rv2 : Vals (V.ref (z.heap.objs.size + 1) :: (vs ++ dvs)) (Value.ref (z.heap.objs.size + 1) :: (us ++ ds)) := .cons rfl (rv.append rd)
  have ln : ((Value.ref (z.heap.objs.size + 1) :: us) ++ ds).length = ps.length := by
    rw [List.cons_append, ← rv2.length]
    exact F.ln _ _ _ _ want
  have bd := hb _ (Value.ref (z.heap.objs.size + 1) :: us) J.kIn ln
  rw [List.cons_append] at bd
  have gd : (X.A.under (.builtin "type.__call__" ⟨.ref C :: us, []⟩)).guards = some [] := by
    simp [Around.under, Code.guards, Code.isGuard, guardIds, pushGuards, m.g]
  have cd := F.go _ X.stack _ _ ⟨Value.ref (z.heap.objs.size + 1) :: us, []⟩ _ _ _ Ex ⟨m.r.make C us [], gd⟩ (J.env0.make C us []) bd rv2 want
  refine wpAny_call (make_map (f := f) I.kIn M.makes M.init (beq_iff_eq.mp M.fn) (codeAny_mono cd ?_))
  intro res z' hq
  match res, hq with
  | .error e, hq => exact hx pins _ _ e z' J hq
  | .ok .next, hq => exact hq.elim
  | .ok .brk, hq => exact hq.elim
  | .ok .cont, hq => exact hq.elim
  | .ok (.ret u), hq =>
    obtain ⟨v, H', I3, ru, ev, q3⟩ := J.after hq
    subst ev
    exact ⟨ru, ⟨V.ref (z.heap.objs.size + 1), H', I3, rfl, q3⟩⟩
abbrev dMake0 (c : Str) (f : List D → ((List (Str × D)) → Prop) → (XD → Prop) → Prop) : DTE := fun _ Q E => f [.non] (fun fs => Q (.ins c fs)) E
theorem de_make0D {P : Program} {w : World} {base : Heap} {k : Nat} {c : Str} {C : Addr} {f : List D → ((List (Str × D)) → Prop) → (XD → Prop) → Prop} {p : Pos} (Fc : ClsF mg c C) (F : InitDf P w mg base k c C 1 f) (hr : ∀ i, RmG (k + 1) (Xs i).A) (tk : ∀ i, Pas (Xs i) Wx)
    (hP : ∀ j, (Xs j).prog = P ∧ (Xs j).w = w ∧ (Xs j).K = mg.K ∧ (Xs j).mg = mg.mg ∧ (Xs j).base = base := by intro _; exact ⟨rfl, rfl, rfl, rfl, rfl⟩) (hg : ∀ j, Gl (Xs j) c := by intro _; rfl) (hd : (c == ("__debug__" : Str)) = false := by decide) : DE Xs mg Wx (.Call (.Name c p) [] [] pos) (dMake0 c f) := by
  obtain ⟨fa, fd, ps, ds, M, hb, hv, hl, G⟩ := F.ex
  refine ⟨fun σ H Q => ∀ x dx, H x = none → H dx = none → dx ≠ x → spI mg c C 1 f [.ref x, .non] (upd (upd H dx (.own x)) x (.ins C dx [])) (fun v H2 => v = .non ∧ Q (.ref x) H2) (WE Wx σ), fun i => ?_, ?_⟩
  · obtain ⟨p1, p2, p3, p4, p5⟩ := hP i
    subst p1 p2 p5
    constructor
    intro pins z σ H Q I hw
    apply wpAny_Call_Name_kw
    apply ld_glob I (hg i) (by rw [p4]; exact Fc.nm) _ hd
    exact PySem.W.callWith_K0 I.kIn (by rw [p3]; exact M.kp) (makeGd (us := []) (vs := []) (by rw [p3]; exact M) (by rw [p3, p4]; exact G) (hr i) (by rw [p3]; exact hb) hv (tk i σ) I .nil hw)
  · intro B ρ Q E hf W σ H Q' hh e x q
    intro a dx na ndx ne
    refine ⟨W, [.non], [.non], H, a, dx, _, E, rfl, na, ndx, ne, rfl, hh, .cons .non .nil, rfl, hf, fun W' H' gs fs dy s' ha' nw nt hk rs hq => ⟨rfl, ?_⟩, fun W' H' cls dd y s' r h => x W' H' cls dd y s' r h⟩
    have st := s'.taken na ha' nw nt
    exact q _ _ _ _ st (.ins Fc.nm (show upd W'.H a _ a = _ from upd_same) hk (rs.mono (Wd.le_put nw))) hq
end
end FP
/-! FP61: displays with ** . -/
namespace FP
open PySem L2
end FP
/-! FP62: {**a, **b}, {**a, k: v}. -/
namespace FP
open PySem L2
end FP
/-! FP63: dicts of plain data compared. -/
namespace FP
open PySem L2
end FP
/-! FP64: more small steps. -/
namespace FP
open PySem L2
variable [Tabl]
section
variable {f f2 : DTE} {g : DTS} {N : Nd} {ρ : Env} {i j : Nat}
theorem seq_setF {c fl : Str} {a : Addr} {fs : List (Str × D)} (h : ρ[i]? = some (.ob c a fs)) (d : D) (hl : fs.length < 1000) (hf : Ev f ρ d) (hg : g N (ρ.set i (.ob c a (putD fl d fs)))) : dSeq (dSetF i c fl f) g N ρ := by
  show dSetF i c fl f _ ρ
  unfold dSetF
  refine hf _ _ ?_
  rw [h]
  exact ⟨rfl, hl, hg⟩
theorem end_setF {c fl : Str} {a : Addr} {fs : List (Str × D)} (h : ρ[i]? = some (.ob c a fs)) (d : D) (hl : fs.length < 1000) (hf : Ev f ρ d) (hn : N.nx (ρ.set i (.ob c a (putD fl d fs)))) : dSetF i c fl f N ρ := by
  unfold dSetF
  refine hf _ _ ?_
  rw [h]
  exact ⟨rfl, hl, hn⟩
theorem seq_setOD {gd : DTD} (kvs : List (Key × D)) (hf : ∀ (Q : List (Key × D) → Prop) (E : XD → Prop), Q kvs → gd ρ Q E) (hg : g N (ρ.set i (.od kvs))) : dSeq (dSetOD i gd) g N ρ := hf _ _ hg
theorem seq_setODP {gd : DTD} (P : List (Key × D) → Prop) (hf : ∀ (Q : List (Key × D) → Prop) (E : XD → Prop), (∀ kvs, P kvs → Q kvs) → gd ρ Q E) (hg : ∀ kvs, P kvs → g N (ρ.set i (.od kvs))) : dSeq (dSetOD i gd) g N ρ := hf _ _ hg
theorem seq_parOD (P : D → Prop) (hf : EvP f ρ P) (hg : ∀ d, P d → g N ((ρ.set i (.d d)).set j (.od []))) : dSeq (dParOD i j f dODn) g N ρ := hf _ _ hg
theorem seq_odPop {kvs : List (Key × D)} (h : ρ[i]? = some (.od kvs)) (kk : Key) (y z : D) (hy : keyD y = some kk) (hk : Ev f ρ y) (hz : Ev f2 ρ z) (hg : g N (ρ.set i (.od (dropKD kvs kk)))) : dSeq (dOdPop i f f2) g N ρ := by
  show dOdPop i f f2 _ ρ
  unfold dOdPop
  rw [h]
  exact hk _ _ (hz _ _ ⟨kk, hy, hg⟩)
theorem odPut {kvs : List (Key × D)} (h : ρ[i]? = some (.od kvs)) (kk : Key) (y v : D) (hy : keyD y = some kk) (hl : kvs.length < sizeLine) (hk : Ev f ρ y) (hv : Ev f2 ρ v) (hn : N.nx (ρ.set i (.od (putKD kvs kk v)))) : dOdPut i f f2 N ρ := by
  unfold dOdPut
  rw [h]
  exact hv _ _ (hk _ _ ⟨kk, hy, hl, hn⟩)
theorem odPutP {kvs : List (Key × D)} (h : ρ[i]? = some (.od kvs)) (kk : Key) (y : D) (P : D → Prop) (hy : keyD y = some kk) (hl : kvs.length < sizeLine) (hk : Ev f ρ y) (hv : EvP f2 ρ P) (hn : ∀ v, P v → N.nx (ρ.set i (.od (putKD kvs kk v)))) : dOdPut i f f2 N ρ := by
  unfold dOdPut
  rw [h]
  exact hv _ _ fun v pv => hk _ _ ⟨kk, hy, hl, hn v pv⟩
theorem frzD {kvs : List (Key × D)} {s : DTS} (h : ρ[i]? = some (.od kvs)) (hs : s N (ρ.set i (.d (.dct kvs)))) : dFrzD i s N ρ := by
  unfold dFrzD
  rw [h]
  exact hs
theorem seq_ifF {c : DTT} {f1 : DTS} (hc : EvT c ρ false) (h : g N ρ) : dSeq (dIfS c f1 dNext) g N ρ := hc _ _ h
theorem seq_ifT {c : DTT} {f1 f2 : DTS} (hc : EvT c ρ true) (h : dSeq f1 g N ρ) : dSeq (dIfS c f1 f2) g N ρ := hc _ _ h
theorem end_if {c : DTT} {f1 f2 : DTS} (b : Bool) (hc : EvT c ρ b) (h : bit b (f1 N ρ) (f2 N ρ)) : dIfS c f1 f2 N ρ := hc _ _ h
theorem seq_as {T : Tg} {ρ' : Env} (d : D) (hf : Ev f ρ d) (hp : T.put d ρ = some ρ') (hg : g N ρ') : dSeq (dAsg T f) g N ρ := hf _ _ ⟨ρ', hp, hg⟩
theorem seq_for {w : DTI} {T : Tg} {b : DTS} (ds : List D) (hw : ∀ (Q : List D → Prop) (E : XD → Prop), Q ds → w ρ Q E) (h : forD T b { N with nx := g N } ds ρ) : dSeq (dFor w T b) g N ρ := hw _ _ h
/-! ### tests by their values -/
variable {c d : DTT} {b b2 : Bool}
theorem or_t (hc : EvT c ρ true) : EvT (dOr c d) ρ true := fun Q E q => hc _ _ q
theorem or_f (hc : EvT c ρ false) (hd : EvT d ρ b) : EvT (dOr c d) ρ b := fun Q E q => hc _ _ (hd _ _ q)
theorem and_v (hc : EvT c ρ b) (hd : b = true → EvT d ρ b2) : EvT (dAnd c d) ρ (b && b2) := fun Q E q => hc _ _ (by
  cases b with
  | true => exact hd rfl _ _ q
  | false => exact q)
theorem not_v (hc : EvT c ρ b) : EvT (dNot c) ρ (!b) := fun Q E q => hc _ _ q
theorem b_v (hf : Ev f ρ (.bl b)) : EvT (dB f) ρ b := fun Q E q => hf _ _ q
theorem Ev.eq {x y : D} (h : Ev f ρ x) (e : x = y) : Ev f ρ y := e ▸ h
theorem EvT.eq (h : EvT c ρ b) (e : b = b2) : EvT c ρ b2 := e ▸ h
end
end FP
/-! FP65: what expressions come to, put together by values. -/
namespace FP
open PySem L2
variable [Tabl]
section
variable {ρ : Env} {f g fa fb fk fv : DTE} {c d : D}
/-- the arguments come to just these data -/
abbrev EvA (g : DTA) (ρ : Env) (ds : List D) : Prop := ∀ (Q : List D → Prop) (E : XD → Prop), Q ds → g ρ Q E
/-- what is gone through comes to just these data -/
abbrev EvI (w : DTI) (ρ : Env) (ds : List D) : Prop := ∀ (Q : List D → Prop) (E : XD → Prop), Q ds → w ρ Q E
theorem a0 : EvA dNil ρ [] := fun Q E q => q
theorem a1 {ga : DTA} {ds : List D} (h : Ev f ρ d) (hg : EvA ga ρ ds) : EvA (dCons f ga) ρ (d :: ds) := fun Q E q => h _ _ (hg _ _ q)
theorem ev_fld {cl fl : Str} {fs : List (Str × D)} (h : Ev f ρ (.ins cl fs)) (e : fs.lookup fl = some d) : Ev (dFld cl fl f) ρ d := fun Q E q => h _ _ ⟨rfl, d, e, q⟩
theorem ev_op {rd : RD2} {x y : D} (ha : Ev fa ρ x) (hb : Ev fb ρ y) (h : ∀ Q : D → Prop, Q d → rd x y Q) : Ev (dOp rd fa fb) ρ d := fun Q E q => ha _ _ (hb _ _ (h _ q))
theorem ev_call {F : List D → M D} {n : Nat} {ga : DTA} {ds : List D} (ha : EvA ga ρ ds) (hn : ds.length = n) (h : ∀ (Q : D → Prop) (E : XD → Prop), Q d → F ds Q E) : Ev (dCall F n ga) ρ d := fun Q E q => ha _ _ ⟨hn, h _ _ q⟩
theorem ev_make {cl : Str} {F : List D → ((List (Str × D)) → Prop) → (XD → Prop) → Prop} {n : Nat} {ga : DTA} {ds : List D} {fs : List (Str × D)} (ha : EvA ga ρ ds) (hn : ds.length = n) (h : ∀ (Q : List (Str × D) → Prop) (E : XD → Prop), Q fs → F ds Q E) : Ev (dMake cl F n ga) ρ (.ins cl fs) := fun Q E q => ha _ _ ⟨hn, h _ _ q⟩
theorem ev_cb {rd : RDL} {ga : DTA} {ds : List D} (ha : EvA ga ρ ds) (h : ∀ Q : D → Prop, Q d → rd ds Q) : Ev (dCB rd ga) ρ d := fun Q E q => ha _ _ (h _ q)
theorem ev_andV {b1 b2 : Bool} (ha : Ev fa ρ (.bl b1)) (hb : b1 = true → Ev fb ρ (.bl b2)) : Ev (dAndV fa fb) ρ (.bl (b1 && b2)) := fun Q E q => ha _ _ (by
  cases b1 with
  | true => exact hb rfl _ _ q
  | false => exact q)
theorem ev_if {t : DTT} {b : Bool} (ht : EvT t ρ b) (h1 : b = true → Ev fa ρ d) (h2 : b = false → Ev fb ρ d) : Ev (dIf t fa fb) ρ d := fun Q E q => ht _ _ (by
  cases b with
  | true => exact h1 rfl _ _ q
  | false => exact h2 rfl _ _ q)
theorem lcD_F {α : Type} {body : D → (Option D → Prop) → Prop} (e g : α → D) (b : α → Bool) : ∀ (xs : List α) (Q : List D → Prop), (∀ x ∈ xs, ∀ k : Option D → Prop, k (if b x then some (g x) else none) → body (e x) k) → Q ((xs.filter b).map g) → lcD body (xs.map e) Q
  | [], Q, _, h => h
  | x :: xs, Q, hb, h => by
    refine hb x List.mem_cons_self _ ?_
    cases hx : b x with
    | true =>
      refine lcD_F e g b xs _ (fun y hy => hb y (List.mem_cons_of_mem _ hy)) ?_
      rw [List.filter_cons, hx] at h
      exact h
    | false =>
      refine lcD_F e g b xs _ (fun y hy => hb y (List.mem_cons_of_mem _ hy)) ?_
      rw [List.filter_cons, hx] at h
      exact h
theorem ev_lcF {α : Type} {w : DTI} {T : Tg} {ft : DTT} {vs : List Nat} {xs : List α} (e g : α → D) (b : α → Bool) (hw : EvI w ρ (xs.map e)) (hl : xs.length ≤ sizeLine) (hb : ∀ x ∈ xs, ∃ ρ2, T.put (e x) (wipeD ρ vs) = some ρ2 ∧ EvT ft ρ2 (b x) ∧ (b x = true → Ev f ρ2 (g x))) : Ev (dLc w T ft f vs) ρ (.lst ((xs.filter b).map g)) := fun Q E q => hw _ _ ⟨by rw [List.length_map]; exact hl, lcD_F e g b xs _ (fun x hx k hk => by
  obtain ⟨ρ2, h1, h2, h3⟩ := hb x hx
  refine ⟨ρ2, h1, h2 _ _ ?_⟩
  cases hc : b x with
  | true =>
    rw [hc] at hk
    exact h3 hc _ _ hk
  | false =>
    rw [hc] at hk
    exact hk) q⟩
theorem ev_lc {α : Type} {w : DTI} {T : Tg} {vs : List Nat} {xs : List α} (e g : α → D) (hw : EvI w ρ (xs.map e)) (hl : xs.length ≤ sizeLine) (hb : ∀ x ∈ xs, ∃ ρ2, T.put (e x) (wipeD ρ vs) = some ρ2 ∧ Ev f ρ2 (g x)) : Ev (dLc w T dYes f vs) ρ (.lst (xs.map g)) := by
  have h := ev_lcF (f := f) (ft := dYes) e g (fun _ => true) hw hl fun x hx => by
    obtain ⟨ρ2, h1, h2⟩ := hb x hx
    exact ⟨ρ2, h1, fun Q E q => q, fun _ => h2⟩
  rw [List.filter_eq_self.mpr fun _ _ => rfl] at h
  exact h
theorem ret_call {N : Nd} {F : List D → M D} {n : Nat} {ga : DTA} {ds : List D} (ha : EvA ga ρ ds) (hn : ds.length = n) (h : F ds (fun d => N.rt d ρ) (fun x => N.rs x ρ)) : dRet (dCall F n ga) N ρ := ha _ _ ⟨hn, h⟩
theorem seq_oN {N : Nd} {i : Nat} {ga : DTA} {gs : DTS} {ds : List D} (ha : EvA ga ρ ds) (hl : ds.length ≤ sizeLine) (hg : gs N (ρ.set i (.own ds))) : dSeq (dSetO i (dLen ga)) gs N ρ := ha _ _ ⟨hl, hg⟩
theorem ev_tup {ga : DTA} {ds : List D} (ha : EvA ga ρ ds) (hl : ds.length ≤ sizeLine) : Ev (dTup ga) ρ (.tup ds) := fun Q E q => ha _ _ ⟨hl, q⟩
theorem ev_lst {ga : DTA} {ds : List D} (ha : EvA ga ρ ds) (hl : ds.length ≤ sizeLine) : Ev (dLst ga) ρ (.lst ds) := fun Q E q => ha _ _ ⟨hl, q⟩
theorem ev_dictP {xs : List D} {kvs : List (Key × D)} (ha : Ev fa ρ (.lst xs)) (h : pairsD xs = some kvs) : Ev (dCB rdDictP (dCons fa dNil)) ρ (.dct (mergeD [] kvs)) := fun Q E q => ha _ _ ⟨kvs, h, q⟩
theorem seq_frz {N : Nd} {i : Nat} {xs : List D} {s : DTS} {gs : DTS} (h : ρ[i]? = some (.own xs)) (hs : dSeq s gs N (ρ.set i (.d (.lst xs)))) : dSeq (dFrz i s) gs N ρ := by
  show dFrz i s _ ρ
  unfold dFrz
  rw [h]
  exact hs
theorem seq_ret {N : Nd} {gs : DTS} (h : dRet f N ρ) : dSeq (dRet f) gs N ρ := h
theorem seq_odPut {N : Nd} {i : Nat} {gs : DTS} {kvs : List (Key × D)} (h : ρ[i]? = some (.od kvs)) (kk : Key) (y v : D) (hy : keyD y = some kk) (hl : kvs.length < sizeLine) (hk : Ev fk ρ y) (hv : Ev fv ρ v) (hn : gs N (ρ.set i (.od (putKD kvs kk v)))) : dSeq (dOdPut i fk fv) gs N ρ := odPut h kk y v hy hl hk hv hn
theorem seq_forP {w : DTI} {T : Tg} {b : DTS} {gs : DTS} {N : Nd} (P : List D → Prop) (hw : ∀ (Q : List D → Prop) (E : XD → Prop), (∀ ds, P ds → Q ds) → w ρ Q E) (h : ∀ ds, P ds → forD T b { N with nx := gs N } ds ρ) : dSeq (dFor w T b) gs N ρ := hw _ _ h
theorem ev_inOD {neg : Bool} {i : Nat} {kvs : List (Key × D)} {y : D} {kk : Key} (h : ρ[i]? = some (.od kvs)) (hk : Ev fk ρ y) (hy : keyD y = some kk) : Ev (dInOD neg i fk) ρ (.bl (if neg then !(valD kvs kk).isSome else (valD kvs kk).isSome)) := fun Q E q => by
  unfold dInOD
  rw [h]
  exact hk _ _ ⟨kk, hy, q⟩
abbrev EvKV (g : DTP) (ρ : Env) (kvs : List (Key × D)) : Prop := ∀ (Q : List (Key × D) → Prop) (E : XD → Prop), Q kvs → g ρ Q E
theorem kv0 : EvKV dPn ρ [] := fun Q E q => q
theorem kv1 {ga : DTP} {kvs : List (Key × D)} {y v : D} {kk : Key} (hk : Ev fk ρ y) (hy : keyD y = some kk) (hv : Ev fv ρ v) (hr : EvKV ga ρ kvs) : EvKV (dPc fk fv ga) ρ ((kk, v) :: kvs) := fun Q E q => hk _ _ (hv _ _ ⟨kk, hy, hr _ _ q⟩)
theorem ev_disp {ga : DTP} {kvs : List (Key × D)} (h : EvKV ga ρ kvs) (hl : kvs.length ≤ 15) : Ev (dDisp ga) ρ (.dct (mergeD [] kvs)) := fun Q E q => h _ _ ⟨hl, q⟩
theorem seq_next {N : Nd} {gs : DTS} (h : gs N ρ) : dSeq dNext gs N ρ := h
end
end FP
/-! FP66: methods with a star parameter behind the first one. -/
namespace FP
open PySem L2
variable [Tabl]
/-- a def that is called with any number of data -/
structure FnS (P : Program) (w : World) (K : PySem.W.Frag) (mg : Str → Option Value) (base : Heap) (k : Nat) (f : Addr) (sp : Sp) : Prop where
  go : ∀ (A : Around) (out : List PySem.Env) (z : Shared) (H : Hp) (us : List Value) (vs : List V) (Q : VK) (E : XK), RmG k A → Env0 P w K mg base A out z H → Vals vs us → sp vs H Q E →
    codeAny (model P w) A (.call (.ref f) ⟨us, []⟩) (CR (L2.CX P w) out P w H z Q E) z
theorem fnS_of {P : Program} {w : World} {K : PySem.W.Frag} {mg : Str → Option Value} {base : Heap} {x qual pv : Str} {st : Stmt} {fa : Addr} {fd : FuncData} {N ps : List Str} {k : Nat} {sp : Sp} (F : Fun K x qual st fa fd) (S : FnScope N (ps ++ [pv]) (defScope st))
    (hb : ∀ (kV doc pm : Value) (an : Option Addr) (cdv ct : Value) (us rest : List Value), us.length = ps.length → bindArgs (PySem.W.fnOf x qual (defArgs st) (defBody st) (defScope st) .none kV doc pm an cdv ct) ⟨us ++ rest, []⟩ = (newTuple rest >>= fun t => pure (ps.zip us ++ [(pv, t)])))
    (hbody : ∀ (cdv : Value) (A : Around) (out : List PySem.Env) (z : Shared) (H : Hp) (vs : List V) (Q : VK) (E : XK), RmG k (A.deeper (PyProof.Rows.envOfC qual (defScope st) z.heap.objs.size fa cdv)) → sp vs H Q E →
      ∃ t, PSs (cxOf (L2.CX P w) P w K mg base N qual (defScope st) fa cdv A out z H E) (defBody st) t ∧ t { nx := fun _ H' => Q .non H', rt := Q } (L2.start N vs) H) :
    FnS P w K mg base (k + 1) fa (fun vs H Q E => ∃ ws rest, vs = ws ++ rest ∧ ws.length = ps.length ∧ rest.length ≤ sizeLine ∧ ∀ p, H p = none → sp (ws ++ [V.ref p]) (upd H p (.tup rest)) Q E) := by
  obtain ⟨oc, od, kV, doc, pm, an, cdv, ct, osl, rfl, lk, hcd⟩ := F.ex
  refine ⟨fun A out z H us vs Q E m e0 r hs => ?_⟩
  obtain ⟨ws, rest, rfl, hl, hz, hq⟩ := hs
  obtain ⟨u1, u2, rfl, r1, r2⟩ := StX.vals_split r
  have free : H z.heap.objs.size = none := e0.hok.fresh (Nat.le_refl _)
  have l1 : u1.length = ps.length := r1.length ▸ hl
  have l2 : u2.length ≤ sizeLine := r2.length ▸ hz
  refine StX.run_bnd lk hcd S m.r e0 (G := fun xs H2 => ∃ p, H p = none ∧ xs = ws ++ [V.ref p] ∧ H2 = upd H p (.tup rest)) ?_ ?_
  · intro A' Ex Q' h
    rw [hb kV doc pm an cdv ct u1 u2 l1]
    refine wpAny_bind (wpAny_newTuple (wpAny_pure ?_) l2)
    have o1 : (z.heap.push ({ cls := .type "tuple", data := .seq u2.toArray } : Obj)).get? z.heap.objs.size = some { cls := .type "tuple", data := .seq u2.toArray } := Heap.get?_push_size _ rfl
    have un := StX.un_laid (fs := frs out) (s := z) (o := ({ cls := .type "tuple", data := .seq u2.toArray } : Obj)) (u := .tup rest) free
    have got := h { z with heap := z.heap.push { cls := .type "tuple", data := .seq u2.toArray } } (upd H z.heap.objs.size (.tup rest)) (ws ++ [V.ref z.heap.objs.size]) (u1 ++ [Value.ref z.heap.objs.size])
      (StX.env0_laid e0 ⟨hz, u2, r2, ⟨_, o1, rfl, _, rfl⟩⟩) un rfl (fun e s' => StX.cxUp out z H _ _ E e s' un (fun b o q => Heap.get?_push_of_some _ q) rfl) (r1.append (.cons rfl .nil)) (by rw [List.length_append, List.length_append, hl]; rfl) ⟨_, free, rfl, rfl⟩
    rwa [List.zip_append l1.symm] at got
  · rintro s2 H2 xs ⟨p, hp, rfl, rfl⟩ hr
    exact hbody cdv A out s2 _ _ Q E ⟨hr, m.g⟩ (hq p hp)
/-- a def with a star parameter behind n others, by data: what is left over is a tuple -/
def spS (mg : Gm) (n : Nat) (f : List D → M D) : Sp := fun vs H Q E => ∃ W ws rest ds es Qd Ed, vs = ws ++ rest ∧ Holds W H ∧ Reps mg W ws ds ∧ Reps mg W rest es ∧ ds.length = n ∧ es.length ≤ sizeLine ∧ f (ds ++ [.tup es]) Qd Ed ∧ ToV mg W H Qd Q ∧ ∀ W' H' cls dd x, Step W H W' H' → RepX mg W' H' cls dd x → Ed x → E cls dd H'
theorem star_ok {mg : Gm} {P : Program} {w : World} {base : Heap} {x qual pv : Str} {st : Stmt} {fa : Addr} {fd : FuncData} {N ps : List Str} {k : Nat} {f : List D → M D} (F : Fun mg.K x qual st fa fd) (S : FnScope N (ps ++ [pv]) (defScope st))
    (hb : ∀ (kV doc pm : Value) (an : Option Addr) (cdv ct : Value) (us rest : List Value), us.length = ps.length → bindArgs (PySem.W.fnOf x qual (defArgs st) (defBody st) (defScope st) .none kV doc pm an cdv ct) ⟨us ++ rest, []⟩ = (newTuple rest >>= fun t => pure (ps.zip us ++ [(pv, t)])))
    (h : ∀ (cdv : Value) (A : Around) (outer : List PySem.Env) (s : Shared) (H : Hp) (E : XK), RmG k (A.deeper (PyProof.Rows.envOfC qual (defScope st) s.heap.objs.size fa cdv)) →
      ∃ g, DSs (fun _ : Unit => cxOf (L2.CX P w) P w mg.K mg.mg base N qual (defScope st) fa cdv A outer s H E) mg (fun cls d _ H' => E cls d H') (defBody st) g ∧
        ∀ ds Q Ex, ds.length = ps.length + 1 → f ds Q Ex → g ⟨fun _ => Q .non, fun d _ => Q d, fun _ => False, fun _ => False, fun x _ => Ex x⟩ (startD N.length ds)) :
    FnS P w mg.K mg.mg base (k + 1) fa (spS mg ps.length f) := by
  have key := fnS_of (sp := spD mg (ps.length + 1) f) F S hb fun cdv A outer s H vs Q E hr hs => by
    obtain ⟨W, ds, Qd, Ed, hh, r, l, hf, q, x⟩ := hs
    obtain ⟨g, ⟨t, h1, h2⟩, h3⟩ := h cdv A outer s H E hr
    refine ⟨t, h1 (), ?_⟩
    exact h2 W H _ _ (h3 ds Qd Ed l hf) W _ H _ (Step.refl hh) (EnvR.start r) ⟨fun W' H' σ' ρ' s' e' k => q W' H' _ _ s' .non k, fun W' H' _ _ v d s' _ r k => q W' H' v d s' r k, fun _ _ _ _ _ _ k => k, fun _ _ _ _ _ _ k => k, fun W' H' σ' ρ' cls dd y s' e' r' k => x W' H' cls dd y s' r' k⟩
  refine ⟨fun A out z H us vs Q E m e0 r hs => key.go A out z H us vs Q E m e0 r ?_⟩
  obtain ⟨W, ws, rest, ds, es, Qd, Ed, rfl, hh, rw_, rr, ln, le, hf, q, x⟩ := hs
  refine ⟨ws, rest, rfl, by rw [rw_.length, ln], by rw [rr.length]; exact le, fun p hp => ?_⟩
  have st1 : Step W H (W.put p (.tup rest)) (upd H p (.tup rest)) := Step.alloc hh hp
  exact ⟨_, ds ++ [.tup es], Qd, Ed, st1.holds, (rw_.mono st1.le).append (.cons (Rep.newTup rr (hh.same.free hp)) .nil), by rw [List.length_append, ln]; rfl, hf, ToV.step q st1, fun W' H' cls dd y s' r' e => x W' H' cls dd y (st1.trans s') r' e⟩
theorem goSc {X : Cx} {k : Nat} {f : Addr} {sp : Sp} {Ex : XK} {pins : List (Addr × Obj)} {σ : St} {H : Hp} {z : Shared} {Q : VK} {us : List Value} {vs : List V} (F : FnS X.prog X.w X.K X.mg X.base k f sp) (m : RmG k X.A) (hx : PassesAt (L2.CX X.prog X.w) X σ Ex)
    (I : Inv X pins σ H z) (rv : Vals vs us) (h : sp vs H Q Ex) : codeAny (model X.prog X.w) X.A (.call (.ref f) ⟨us, []⟩) (fun r s' => match r with | .ok (.ret v) => EP X pins σ Q v s' | .ok _ => False | .error e => X.xe e s') z := by
  refine codeAny_mono (F.go X.A X.stack z H us vs Q Ex m I.env0 rv h) ?_
  intro res z' hq
  match res, hq with
  | .error e, hq => exact hx pins H z e z' I hq
  | .ok (.ret u), hq => exact I.after hq
  | .ok .next, hq => exact hq.elim
  | .ok .brk, hq => exact hq.elim
  | .ok .cont, hq => exact hq.elim
structure CMethS (P : Program) (w : World) (mg : Gm) (base : Heap) (k : Nat) (C : Addr) (m : Str) (f : List D → M D) : Prop where
  ex : ∃ mc p g, ClX.CRead mg.K C mc ∧ ClX.CMet mg.K C mc m p g ∧ FnS P w mg.K mg.mg base k g (spS mg 1 f)
section
variable {ι : Type} {Xs : ι → Cx} {mg : Gm} {Wx : WX} {pos : Pos}
theorem mkCMethS {P : Program} {w : World} {base : Heap} {C : Addr} {m qual p1 pv : Str} {st : Stmt} {N : List Str} {k : Nat} {f : List D → M D} (d : ∃ mc p fa fd, ClX.CRead mg.K C mc ∧ ClX.CMet mg.K C mc m p fa ∧ Fun mg.K m qual st fa fd) (S : FnScope N [p1, pv] (defScope st))
    (h0 : ∀ (kV doc pm : Value) (an : Option Addr) (cdv ct a : Value), bindArgs (PySem.W.fnOf m qual (defArgs st) (defBody st) (defScope st) .none kV doc pm an cdv ct) ⟨[a], []⟩ = (newTuple [] >>= fun t => pure [(p1, a), (pv, t)]))
    (h1 : ∀ (kV doc pm : Value) (an : Option Addr) (cdv ct a r : Value) (rs : List Value), bindArgs (PySem.W.fnOf m qual (defArgs st) (defBody st) (defScope st) .none kV doc pm an cdv ct) ⟨a :: r :: rs, []⟩ = (newTuple (r :: rs) >>= fun t => pure [(p1, a), (pv, t)]))
    (h : ∀ (fa : Addr) (cdv : Value) (A : Around) (outer : List PySem.Env) (s : Shared) (H : Hp) (E : XK), RmG k (A.deeper (PyProof.Rows.envOfC qual (defScope st) s.heap.objs.size fa cdv)) →
      ∃ g, DSs (fun _ : Unit => cxOf (L2.CX P w) P w mg.K mg.mg base N qual (defScope st) fa cdv A outer s H E) mg (fun cls d _ H' => E cls d H') (defBody st) g ∧
        ∀ ds Q Ex, ds.length = 2 → f ds Q Ex → g ⟨fun _ => Q .non, fun d _ => Q d, fun _ => False, fun _ => False, fun x _ => Ex x⟩ (startD N.length ds)) :
    CMethS P w mg base (k + 1) C m f := by
  obtain ⟨mc, p, fa, fd, d1, d2, F⟩ := d
  exact ⟨mc, p, fa, d1, d2, star_ok (ps := [p1]) F S (fun kV doc pm an cdv ct => StX.bind_star1 (B := fun us => bindArgs (PySem.W.fnOf m qual (defArgs st) (defBody st) (defScope st) .none kV doc pm an cdv ct) ⟨us, []⟩) (h0 kV doc pm an cdv ct) (h1 kV doc pm an cdv ct)) (h fa)⟩
end
end FP
/-! FP67: list(d.values()). -/
namespace FP
open PySem PySem.Spec PyProof.Rows L2
end FP
/-! FP68: for i, x in enumerate(list or tuple). -/
namespace FP
open PySem PySem.Spec PyProof.Rows L2
theorem enum_new1 {v : Value} {o : Obj} {G : Heap → Prop} (B : Begins v o G) :
    Meets (Builtin.«enumerate.__new__» ⟨[.type "enumerate", v], []⟩) (fun _ R s => G s.heap ∧
      R (.ok (.ret (.ref (s.heap.push o).objs.size))) { s with heap := (s.heap.push o).push { cls := .type "enumerate", data := .fields #[.none, .bool false, .ref s.heap.objs.size, rawInt 0, .none, .none] } }) :=
  .of_wp fun prog w A R s h => by
    obtain ⟨hp, g, d, tk, os⟩ := s
    obtain ⟨h1, h⟩ := h
    have hsub := sub_enumerate
    have q1 : ∀ {A' : Around} {E : Value → Shared → Prop} {Q : Value → Shared → Prop}, Q (.ref hp.objs.size) ⟨hp.push o, g, d, tk, os⟩ → wpAny (model prog w) A' (pyIter v) Q E ⟨hp, g, d, tk, os⟩ :=
      fun q => B.iter prog w _ _ ⟨hp, g, d, tk, os⟩ _ h1 q
    wp_walk using q1
    refine wpAny_stack_any fun st => wpAny_pure ?_
    split
    · rename_i c _ _ _ _ _
      cases (c == Value.type "enumerate")
      · wp_walk using q1
        exact ⟨_, rfl, h⟩
      · wp_walk using q1
        exact ⟨_, rfl, h⟩
    · wp_walk using q1
      exact ⟨_, rfl, h⟩
theorem enum_made {prog : Program} {w : World} {A : Around} {E : Value → Shared → Prop} {s : Shared} {v : Value} {o : Obj} {G : Heap → Prop} {Q : Value → Shared → Prop} (B : Begins v o G) (h1 : G s.heap)
    (h : ∀ h', IsEnum h' (s.heap.objs.size + 1) s.heap.objs.size 0 .none → h'.get? s.heap.objs.size = some o → (∀ b o, s.heap.get? b = some o → h'.get? b = some o) → Q (.ref (s.heap.objs.size + 1)) { s with heap := h' }) :
    wpAny (model prog w) A (call (.type "enumerate") [v]) Q E s := by
  refine callType_new F.called_enumerate (by decide) (F.typeCall_enumerate_1 _) (F.newCall_enumerate_1 _) (fun obj => F.args_object_init_2 obj _) F.entry_enumerate_new (enum_new1 B) ⟨h1, ?_⟩
  have hz : (s.heap.push o).objs.size = s.heap.objs.size + 1 := Heap.size_push ..
  show _ ∧ _
  rw [hz]
  have he : IsEnum ((s.heap.push o).push { cls := .type "enumerate", data := .fields #[.none, .bool false, .ref s.heap.objs.size, rawInt 0, .none, .none] }) (s.heap.objs.size + 1) s.heap.objs.size 0 .none := by
    have e := Heap.get?_push_size (s.heap.push o) (o := { cls := .type "enumerate", data := .fields #[.none, .bool false, .ref s.heap.objs.size, rawInt 0, .none, .none] }) rfl
    rw [hz] at e
    exact e
  exact ⟨⟨_, he, rfl⟩, h _ he (Heap.get?_push_of_some _ (Heap.get?_push_size _ B.free)) fun b u x => Heap.get?_push_of_some _ (Heap.get?_push_of_some _ x)⟩
/-- what stands at a at each turn, with its number, in a new pair -/
def IteS (K : PySem.W.Frag) (s : Sd) (a : Addr) : It :=
  ⟨fun i H => ∃ (xs : List V) (x : V), s.sq K H a xs ∧ xs[i]? = some x,
    fun i H v H' => ∃ T x, v = .ref T ∧ H T = none ∧ H' = upd H T (.tup [.int (i : Nat), x]) ∧ ∀ xs, s.sq K H a xs → xs[i]? = some x,
    fun i H => ∃ xs : List V, s.sq K H a xs ∧ i = xs.length⟩
theorem turn_enumS {P : Program} {w : World} {K : PySem.W.Frag} {elts : List Expr} {kk : Nat} {tpos : Pos} {s1 : Sd} {a e it : Addr} (hai : a ≠ it) (hae : a ≠ e) (hne : e ≠ it) :
    Turn P w K (.Tuple elts kk tpos) (IteS K s1 a) [e, it] e (fun i h => (∃ old, IsEnum h e it ((i : Nat) : Int) old) ∧ s1.it h it a i) where
  mem := List.mem_cons_self
  obj := fun i h ⟨⟨old, he⟩, hi⟩ b hb => by
    rcases List.mem_cons.mp hb with q | q
    · rw [q]; exact ⟨_, he, fun v q => nomatch q⟩
    · rw [List.mem_singleton.mp q]; exact Sd.it_ob hi
  keep := fun i h h' ⟨⟨old, he⟩, hi⟩ k => ⟨⟨old, k e (by simp) _ he⟩, Sd.it_at hi fun o q => k it (by simp) o q⟩
  item := by
    intro X hP hw hK hc i pins s σ H E I hf st hg
    subst hP hw hK
    obtain ⟨⟨old, he⟩, hi⟩ := st
    obtain ⟨xs, x, hq, hx⟩ := hg
    obtain ⟨its, rv, p⟩ := Sd.look I hq
    obtain ⟨u, hu, ru⟩ := rv.get hx
    have hh : X.A.in1.handled = none := I.ok.hd hc
    have hel : e < s.heap.objs.size := Heap.lt_size he
    have hil : it < s.heap.objs.size := by
      obtain ⟨o, q, _⟩ := Sd.it_ob hi
      exact Heap.lt_size q
    have lt1 : i < its.toArray.size := by simpa using (List.getElem?_eq_some_iff.mp hu).1
    refine wpAny_pyNext_enum_itemC (s1.draws hh it a hai its.toArray) he ⟨hi, p⟩ lt1 hne (by simp [hne, Ne.symm hae]) fun y h' tk ey ho st' hT hsz hk => ?_
    obtain rfl : u = y := by simpa [hu] using ey
    refine ⟨_, rfl, wpAny_letOwnedTupleGo_enum (s := { s with heap := h', toks := tk + 1 }) ho fun h'' he' sb => ?_⟩
    have hT2 : h''.get? s.heap.objs.size = some { cls := .type "tuple", data := .seq #[.int i tk, u] } := (sb.2 _ (Nat.ne_of_gt hel)).trans hT
    have new : ObjOk X.prog X.w (upd H s.heap.objs.size (.tup [.int (i : Nat), x])) h'' s.heap.objs.size (.tup [.int (i : Nat), x]) :=
      ⟨by show 2 ≤ sizeLine; decide, [.int i tk, u], .cons ⟨_, rfl⟩ (.cons ru .nil), ⟨_, hT2, rfl, _, rfl⟩⟩
    have I1 : Inv X pins σ (upd H s.heap.objs.size (.tup [.int (i : Nat), x])) { s with heap := h'', toks := tk + 1 } :=
      I.turnedNew (ch := [e, it]) (fun b ob hb q => (sb.2 b (fun z => hb (by simp [z]))).trans (hk b ob (fun z => hb (by simp [z])) (fun z => hb (by simp [z])) q)) hf (Nat.le_refl _) new
    refine ⟨.ref s.heap.objs.size, _, I1, rfl, ⟨_, x, rfl, I.hok.fresh (Nat.le_refl _), rfl, fun ys hy => by rw [Sd.inj I hy hq]; exact hx⟩, ⟨⟨u, ?_⟩, Sd.it_at st'.1 fun o q => (sb.2 it (Ne.symm hne)).trans q⟩, fun b hb => ?_⟩
    · have e1 : ((i + 1 : Nat) : Int) = (i : Int) + 1 := by omega
      rw [e1]; exact he'
    · have hb' : b < s.heap.objs.size := by
        rcases List.mem_cons.mp hb with z | z
        · rw [z]; exact hel
        · rw [List.mem_singleton.mp z]; exact hil
      rw [upd_ne (Nat.ne_of_lt hb')]
      exact (hf b hb).1
  done := by
    intro X hP hw hK hc i pins s σ H E I hf st hg
    subst hP hw hK
    obtain ⟨⟨old, he⟩, hi⟩ := st
    obtain ⟨xs, hq, hx⟩ := hg
    obtain ⟨its, rv, p⟩ := Sd.look I hq
    have hh : X.A.in1.handled = none := I.ok.hd hc
    have hl := rv.length
    have n1 : its.toArray.size = xs.length := by simpa using hl.symm
    obtain ⟨f0, f1, f2, f3, f4, f5⟩ := hf it (by simp)
    refine wpAny_pyNext_enum_endD (s1.draws hh it a hai its.toArray) he ⟨by rw [n1, ← hx]; exact hi, p⟩ fun h' eb => ⟨rfl, I.turned (t' := s.toks) (fun b o hb q => eb b o hb q) f0 f1 f3 f4 f5⟩
  self := fun A i s Q E ⟨⟨_, he⟩, _⟩ h => wpAny_pyIter_enum he h
def iEnumS (K : PySem.W.Frag) (ta : TA) : TI := fun σ H R => ta σ H fun vs H1 => ∃ s1 a xs, vs = [.ref a] ∧ Sd.sq K H1 a xs s1 ∧ R (IteS K s1 a) H1
theorem pi_enumS {X : Cx} {e : Expr} {ta : TA} {p pos tpos : Pos} {elts : List Expr} {kk : Nat} (hg : Gl X "enumerate") (hm : X.mg "enumerate" = none) (ha : PA X [e] ta) (hs : starEach [e] X.env = [(false, eval e X.env)]) :
    PI X (.Tuple elts kk tpos) (.Call (.Name "enumerate" p) [e] [] pos) (iEnumS X.K ta) := by
  refine ⟨fun pins s σ H R I h => ?_⟩
  refine Call_ (ld_blt I hg hm boot_enumerate (PyProof.Rows.callWith_type1 (thn (ha.run pos pins s σ H _ I h) fun us s1 ⟨vs, H1, I1, r1, q1⟩ => ?_) hs rfl))
  obtain ⟨k1, a, xs, rfl, hq, q⟩ := q1
  cases r1 with
  | cons r rr =>
    cases rr
    cases r
    obtain ⟨its, rv, p'⟩ := Sd.look I1 hq
    have hal := Sd.is_lt p'
    refine enum_made (k1.begins a its.toArray) p' fun h' he hit hk => wpAny_pyIter_enum he ?_
    have I2 : Inv X pins σ H1 { s1 with heap := h' } := I1.kept (t' := s1.toks) hk
    refine ⟨s1.heap.objs.size + 1, [s1.heap.objs.size + 1, s1.heap.objs.size], _, _, H1, rfl, I2, turn_enumS (it := s1.heap.objs.size) (Nat.ne_of_lt hal) (Nat.ne_of_lt (Nat.lt_succ_of_lt hal)) (Nat.succ_ne_self _), ⟨⟨.none, he⟩, Sd.first hit⟩, fun b hb => ?_, q⟩
    have hle : s1.heap.objs.size ≤ b := by
      rcases List.mem_cons.mp hb with z | z
      · rw [z]; exact Nat.le_succ _
      · rw [List.mem_singleton.mp z]; exact Nat.le_refl _
    exact I1.fpOk hle (I1.hok.fresh hle)
variable [Tabl]
section
variable {ι : Type} {Xs : ι → Cx} {mg : Gm} {Wx : WX} {pos : Pos}
/-- the data with their numbers -/
def enumD (n : Nat) : List D → List D
  | [] => []
  | d :: r => .tup [.int n, d] :: enumD (n + 1) r
theorem enumD_get : ∀ (xs : List D) (n i : Nat), (enumD n xs)[i]? = (xs[i]?).map fun d => .tup [.int ((n + i : Nat) : Int), d]
  | [], n, i => by simp [enumD]
  | d :: r, n, 0 => by simp [enumD]
  | d :: r, n, i + 1 => by
    show (enumD (n + 1) r)[i]? = _
    rw [enumD_get r (n + 1) i]
    have e : n + 1 + i = n + (i + 1) := by omega
    rw [e]
    rfl
theorem enumD_len : ∀ (xs : List D) (n : Nat), (enumD n xs).length = xs.length
  | [], _ => rfl
  | _ :: r, n => by
    show (enumD (n + 1) r).length + 1 = r.length + 1
    rw [enumD_len r]
abbrev dIEnum (g : DTA) : DTI := fun ρ Q E => g ρ (fun ds => match ds with
  | [x] => ∃ xs, seqD x = some xs ∧ Q (enumD 0 xs)
  | _ => False) E
theorem di_enum {elts : List Expr} {kk : Nat} {tpos : Pos} {a : Expr} {p : Pos} {g : DTA} (hm : mg.mg "enumerate" = none) (h : DA Xs mg Wx [a] g) (hM : ∀ j, (Xs j).mg = mg.mg := by intro _; rfl) (hK : ∀ j, (Xs j).K = mg.K := by intro _; rfl) (hg : ∀ j, Gl (Xs j) "enumerate" := by intro _; rfl)
    (hs : ∀ j, starEach [a] (Xs j).env = [(false, eval a (Xs j).env)] := by intro _; rfl) :
    DI Xs mg Wx (.Tuple elts kk tpos) (.Call (.Name "enumerate" p) [a] [] pos) (dIEnum g) := by
  obtain ⟨t, h1, h2⟩ := h
  refine ⟨iEnumS mg.K t, fun j => by
    have z := pi_enumS (elts := elts) (kk := kk) (tpos := tpos) (p := p) (pos := pos) (hg j) (by rw [hM j]; exact hm) (h1 j) (hs j)
    rw [hK j] at z
    exact z, fun B ρ Q E hf W σ H Q' hh e x q => ?_⟩
  refine h2 B ρ _ E hf W σ H _ hh e x fun W1 H1 vs ds s1 r1 k1 => ?_
  split at k1
  · rename_i dx
    obtain ⟨xs, ex, k1⟩ := k1
    cases r1 with
    | cons rx r1 =>
      cases r1
      obtain ⟨a, us, sa, rfl, ra, qa⟩ := seq_side rx ex
      refine ⟨sa, a, us, rfl, qa _ _ (Le.refl _) s1.holds, q W1 H1 _ _ s1 (fun W2 H2 l hh2 => ?_) k1⟩
      have g1 := qa _ _ l hh2
      refine ⟨fun i hi => ?_, ⟨us, g1, by rw [enumD_len, ra.length]⟩, fun i x H3 hi y => ?_⟩
      · rw [enumD_len, ← ra.length] at hi
        exact ⟨us, _, g1, List.getElem?_eq_getElem hi⟩
      · obtain ⟨T, v1, rfl, hT, rfl, f1⟩ := y
        obtain ⟨d1, e1, r1⟩ := ra.getV (f1 us g1)
        exact ⟨_, .tup [.int i, d1], Step.alloc hh2 hT, by rw [enumD_get, e1, Nat.zero_add] <;> rfl, Rep.newTup (.cons (.int _) (.cons (r1.mono l) .nil)) (hh2.same.free hT)⟩
  · exact k1.elim
end
end FP
/-! FP69: text.split(text). -/
namespace FP
open PySem PySem.Spec PyProof.Rows L2
variable [Tabl]
section
variable {ι : Type} {Xs : ι → Cx} {mg : Gm} {Wx : WX} {pos : Pos}
abbrev dSplit (fo fe : DTE) : DTE := fun ρ Q E => fo ρ (fun x => match x with
  | .str a => fe ρ (fun y => match y with
    | .str b => (b.length == 0) = false ∧ a.length + 2 ≤ sizeLine ∧ Q (.lst ((Txt.split a b).map .str))
    | _ => False) E
  | _ => False) E
theorem de_split {o e : Expr} {fo fe : DTE} {apos : Pos} (ho : DE Xs mg Wx o fo) (he : DE Xs mg Wx e fe) (hs : ∀ j, starEach [e] (Xs j).env = [(false, eval e (Xs j).env)] := by intro _; rfl)
    (hb : ∀ j, attributeBase o "split" (Xs j).env (eval o (Xs j).env) = eval o (Xs j).env := by intro _; rfl) (hl : (apos.endLine == pos.line) = true := by rfl) : DE Xs mg Wx (.Call (.Attribute o "split" apos) [e] [] pos) (dSplit fo fe) := by
  obtain ⟨ta, a1, a2⟩ := ho
  obtain ⟨tb, b1, b2⟩ := he
  refine ⟨_, fun j => pe_split (a1 j) (b1 j) (hs j) (hb j) hl, ?_⟩
  intro B ρ Q E h W σ H Q' hh e x q
  refine a2 B ρ _ E h W σ H _ hh e x fun W1 H1 v1 d1 s1 r1 h1 => ?_
  cases r1 with
  | str a =>
    refine ⟨⟨a, rfl⟩, b2 B ρ _ E h1 W1 σ H1 _ s1.holds (e.step s1) (x.step s1) fun W2 H2 v2 d2 s2 r2 h2 => ?_⟩
    cases r2 with
    | str b => exact ⟨a, b, rfl, rfl, h2.1, h2.2.1, fun p n => to_lst (ToV.step q (s1.trans s2)) s2.holds (Reps.strs _) h2.2.2 p n⟩
    | _ => exact h2.elim
  | _ => exact h1.elim
theorem ev_split {ρ : Env} {fa fb : DTE} {a b : Str} (ha : Ev fa ρ (.str a)) (hb : Ev fb ρ (.str b)) (h0 : (b.length == 0) = false) (hl : a.length + 2 ≤ sizeLine) : Ev (dSplit fa fb) ρ (.lst ((Txt.split a b).map .str)) := fun Q E q => ha _ _ (hb _ _ ⟨h0, hl, q⟩)
end
end FP
/-! FP70: C.m(..) of a classmethod (cls, *lines). -/
namespace FP
open PySem L2
variable [Tabl]
section
variable {ι : Type} {Xs : ι → Cx} {mg : Gm} {Wx : WX} {pos : Pos}
abbrev dCMethS (c : Str) (f : List D → M D) (g : DTA) : DTE := fun ρ Q E => g ρ (fun ds => ds.length ≤ sizeLine ∧ f [.cl c, .tup ds] Q E) E
theorem de_cmethS {P : Program} {w : World} {base : Heap} {k : Nat} {c m : Str} {C : Addr} {f : List D → M D} {p apos : Pos} {e : Expr} {es : List Expr} {g : DTA} {pl : ι → Sem Bool} (Fc : ClsF mg c C) (F : CMethS P w mg base k C m f) (hr : ∀ i, RmG k (Xs i).A) (tk : ∀ i, Pas (Xs i) Wx) (ha : DA Xs mg Wx (e :: es) g)
    (hP : HPs Xs P w mg base := by intro _; exact ⟨rfl, rfl, rfl, rfl, rfl⟩) (hg : ∀ j, Gl (Xs j) c := by intro _; rfl) (hd : (c == ("__debug__" : Str)) = false := by decide)
    (he : ∀ i, starEach (e :: es) (Xs i).env = (false, eval e (Xs i).env) :: starEach es (Xs i).env := by intro _; rfl) (hpl : ∀ i, (backTo pos (starEach es (Xs i).env)).any (·.1) = false := by intro _; rfl)
    (ht : ∀ i, eval (.Call (.Attribute (.Name c p) m apos) (e :: es) [] pos) (Xs i).env = (do
      let ov ← eval (.Name c p) (Xs i).env
      standAt apos.atName
      let (f, first) ← holding [ov] (getMethod ov m (pl i))
      callWith pos f first (backTo pos (starEach (e :: es) (Xs i).env)) (backToKw pos (keywordEach [] (Xs i).env))) := by intro _; rfl) : DE Xs mg Wx (.Call (.Attribute (.Name c p) m apos) (e :: es) [] pos) (dCMethS c f g) := by
  obtain ⟨mc, p1, ga, hrd, hcm, G⟩ := F.ex
  obtain ⟨t, h1, h2⟩ := ha
  refine ⟨fun σ H Q => t σ H fun vs H1 => spS mg 1 f (.ref C :: vs) H1 Q (WE Wx σ), fun i => ?_, ?_⟩
  · obtain ⟨e1, e2, e3, e4, e5⟩ := hP i
    subst e1 e2 e5
    refine ⟨fun pins s σ H Q I h => ?_⟩
    refine PySem.W.methodCall_KW (pl := pl i) (ld_glob I (hg i) (by rw [e4]; exact Fc.nm) ?_ hd) (ht i)
    refine ClX.getmethcm_ok I (by rw [e3]; exact hrd) (by rw [e3]; exact hcm) fun s2 I2 => ?_
    refine ClX.callwith_cm I2 (ClX.base_none I (Nat.le_refl _)) (by rw [e3]; exact hcm.fi) (thn ((h1 i).run pos _ s2 σ H _ I2 h) fun us s3 ⟨vs, H2, I3, rv, q2⟩ => ⟨⟨ClX.pin_at I3, I3.kIn⟩, ?_⟩) (he i) (hpl i)
    have z := wpAny_call (PySem.W.method_call (ClX.pin_at I3) (goSc (us := .ref C :: us) (vs := .ref C :: vs) (by rw [e3, e4]; exact G) (hr i) (tk i σ) I3 (.cons rfl rv) q2))
    exact thn z fun _ _ y => ClX.unpinE y
  · intro B ρ Q E hf W σ H Q' hh e x q
    refine h2 B ρ _ E hf W σ H _ hh e x fun W1 H1 vs ds s1 r1 k1 => ?_
    exact ⟨W1, [.ref C], vs, [.cl c], ds, Q, E, rfl, s1.holds, .cons (.cl Fc.nm) .nil, r1, rfl, k1.1, k1.2, ToV.step q s1, fun W' H' cls dd y s' r h => x W' H' cls dd y (s1.trans s') r h⟩
end
end FP
/-! FP71: C.m() of a classmethod (cls, *lines). -/
namespace FP
open PySem L2
variable [Tabl]
section
variable {ι : Type} {Xs : ι → Cx} {mg : Gm} {Wx : WX} {pos : Pos}
abbrev dCMethS0 (c : Str) (f : List D → M D) : DTE := fun _ Q E => f [.cl c, .tup []] Q E
theorem de_cmethS0 {P : Program} {w : World} {base : Heap} {k : Nat} {c m : Str} {C : Addr} {f : List D → M D} {p apos : Pos} {pl : ι → Sem Bool} (Fc : ClsF mg c C) (F : CMethS P w mg base k C m f) (hr : ∀ i, RmG k (Xs i).A) (tk : ∀ i, Pas (Xs i) Wx)
    (hP : HPs Xs P w mg base := by intro _; exact ⟨rfl, rfl, rfl, rfl, rfl⟩) (hg : ∀ j, Gl (Xs j) c := by intro _; rfl) (hd : (c == ("__debug__" : Str)) = false := by decide)
    (ht : ∀ i, eval (.Call (.Attribute (.Name c p) m apos) [] [] pos) (Xs i).env = (do
      let ov ← eval (.Name c p) (Xs i).env
      standAt apos.atName
      let (f, first) ← holding [ov] (getMethod ov m (pl i))
      callWith pos f first (backTo pos (starEach [] (Xs i).env)) (backToKw pos (keywordEach [] (Xs i).env))) := by intro _; rfl) : DE Xs mg Wx (.Call (.Attribute (.Name c p) m apos) [] [] pos) (dCMethS0 c f) := by
  obtain ⟨mc, p1, ga, hrd, hcm, G⟩ := F.ex
  refine ⟨fun σ H Q => spS mg 1 f [.ref C] H Q (WE Wx σ), fun i => ?_, ?_⟩
  · obtain ⟨e1, e2, e3, e4, e5⟩ := hP i
    subst e1 e2 e5
    refine ⟨fun pins s σ H Q I h => ?_⟩
    refine PySem.W.methodCall_KW (pl := pl i) (ld_glob I (hg i) (by rw [e4]; exact Fc.nm) ?_ hd) (ht i)
    refine ClX.getmethcm_ok I (by rw [e3]; exact hrd) (by rw [e3]; exact hcm) fun s2 I2 => ?_
    refine PySem.W.callWith_M0 (first := []) ⟨ClX.pin_at I2, I2.kIn⟩ (by rw [e3]; exact hcm.fi) ?_
    have z := wpAny_call (PySem.W.method_call (pos := []) (ClX.pin_at I2) (goSc (us := [.ref C]) (vs := [.ref C]) (by rw [e3, e4]; exact G) (hr i) (tk i σ) I2 (.cons rfl .nil) h))
    exact thn z fun _ _ y => ClX.unpinE y
  · intro B ρ Q E hf W σ H Q' hh e x q
    exact ⟨W, [.ref C], [], [.cl c], [], Q, E, rfl, hh, .cons (.cl Fc.nm) .nil, .nil, rfl, Nat.zero_le _, hf, q, x⟩
end
end FP
/-! FP72: text.replace(written text, written text), behind a written text of the same display. -/
namespace FP
open PySem PySem.Spec PyProof.Rows L2
variable [Tabl]
section
variable {ι : Type} {Xs : ι → Cx} {mg : Gm} {Wx : WX} {pos : Pos}
/-- as DE, where a token is out -/
def DET (Xs : ι → Cx) (mg : Gm) (Wx : WX) (e : Expr) (f : DTE) : Prop := ∃ t, (∀ i, PET (Xs i) e t) ∧ Cp mg Wx t f
def DAT (Xs : ι → Cx) (mg : Gm) (Wx : WX) (es : List Expr) (g : DTA) : Prop := ∃ t, (∀ i, PAT (Xs i) es t) ∧ CpA mg Wx t g
theorem det_of {e : Expr} {f : DTE} (h : DE Xs mg Wx e f) : DET Xs mg Wx e f := by
  obtain ⟨t, h1, h2⟩ := h
  exact ⟨t, fun i => CwR.PET.of (h1 i), h2⟩
theorem dat_nil : DAT Xs mg Wx [] dNil := ⟨_, fun _ => pat_nil, fun B ρ Q E h W σ H Q' hh _ _ q => q W H [] [] (Step.refl hh) .nil h⟩
theorem cpA_cons {t : TE} {u : TA} {f : DTE} {g : DTA} (h1 : Cp mg Wx t f) (h2 : CpA mg Wx u g) : CpA mg Wx (tCons t u) (dCons f g) := by
  intro B ρ Q E hf W σ H Q' hh e x q
  refine h1 B ρ _ E hf W σ H _ hh e x fun W1 H1 v d s1 r1 k1 => ?_
  refine h2 B ρ _ E k1 W1 σ H1 _ s1.holds (e.step s1) (x.step s1) fun W2 H2 vs ds s2 r2 k2 => ?_
  exact q W2 H2 (v :: vs) (d :: ds) (s1.trans s2) (.cons (r1.mono s2.le) r2) k2
theorem dat_cons {e : Expr} {es : List Expr} {f : DTE} {g : DTA} (h : DET Xs mg Wx e f) (h' : DAT Xs mg Wx es g) (hs : ∀ i, starEach (e :: es) (Xs i).env = (false, eval e (Xs i).env) :: starEach es (Xs i).env := by intro _; rfl) : DAT Xs mg Wx (e :: es) (dCons f g) := by
  obtain ⟨t, h1, h2⟩ := h
  obtain ⟨u, g1, g2⟩ := h'
  exact ⟨_, fun i => pat_cons (h1 i) (g1 i) (hs i), cpA_cons h2 g2⟩
/-- a written text ahead: behind it a token is out -/
theorem da_strT {c : Str} {j : Nat} {cpos : Pos} {es : List Expr} {g : DTA} (h' : DAT Xs mg Wx es g) (hs : ∀ i, starEach (.Constant (.str c) j cpos :: es) (Xs i).env = (false, eval (.Constant (.str c) j cpos) (Xs i).env) :: starEach es (Xs i).env := by intro _; rfl) : DA Xs mg Wx (.Constant (.str c) j cpos :: es) (dCons (dC (.str c)) g) := by
  obtain ⟨u, g1, g2⟩ := h'
  refine ⟨tCons (tC (.str c)) u, fun i => ⟨fun pos pins s σ H Q I h => ?_⟩, cpA_cons (fun B ρ Q E hf W σ H Q' hh e x q => q W H _ _ (Step.refl hh) (.str c) hf) g2⟩
  rw [hs i]
  show wpAny _ _ (spliced ((false, eval (.Constant (.str c) j cpos) (Xs i).env) :: backTo pos (starEach es (Xs i).env))) _ _ s
  refine Calls.spliced_cons (Calls.Constant_str ?_)
  exact thn (g1 i pos pins { s with toks := s.toks + 1 } σ H _ (by show 1 ≤ s.toks + 1; omega) (I.tok _) h) fun us s2 ⟨xs, H2, I2, r2, q2⟩ => ⟨.str c :: xs, H2, I2, .cons ⟨s.toks, rfl⟩ r2, q2⟩
abbrev dRepl (f : DTE) (y z : Str) : DTE := fun ρ Q E => f ρ (fun x => match x with
  | .str a => a.length + (a.length + 1) * z.length ≤ 16777216 ∧ Q (.str (Txt.replace a y z))
  | _ => False) E
theorem det_repl {o : Expr} {f : DTE} {y z : Str} {j k : Nat} {c0 c1 apos : Pos} (h : DE Xs mg Wx o f) (hyz : (y == z) = false := by decide)
    (hst : ∀ i, starEach [.Constant (.str y) j c0, .Constant (.str z) k c1] (Xs i).env = [(false, eval (.Constant (.str y) j c0) (Xs i).env), (false, eval (.Constant (.str z) k c1) (Xs i).env)] := by intro _; rfl)
    (hb : ∀ i, attributeBase o "replace" (Xs i).env (eval o (Xs i).env) = eval o (Xs i).env := by intro _; rfl) (hl : (apos.endLine == pos.line) = true := by rfl) :
    DET Xs mg Wx (.Call (.Attribute o "replace" apos) [.Constant (.str y) j c0, .Constant (.str z) k c1] [] pos) (dRepl f y z) := by
  obtain ⟨t, h1, h2⟩ := h
  refine ⟨_, fun i => CwR.pet_replC (h1 i) hyz (hst i) (hb i) hl, fun B ρ Q E hf W σ H Q' hh e x q => h2 B ρ _ E hf W σ H _ hh e x fun W1 H1 v d s1 r1 k1 => ?_⟩
  cases r1 with
  | str a => exact ⟨a, rfl, k1.1, q W1 H1 _ _ s1 (.str _) k1.2⟩
  | _ => exact k1.elim
end
end FP
/-! FP73: a list times an integer. -/
namespace FP
open PySem L2
variable [Tabl]
def rdRep : RD2 := fun x y Q => match x, y with
  | .lst xs, .int k => (-(2 ^ 63) ≤ k ∧ k < 2 ^ 63) ∧ xs.length * k.toNat ≤ sizeLine ∧ Q (.lst (List.replicate k.toNat xs).flatten)
  | _, _ => False
section
variable {ι : Type} {Xs : ι → Cx} {mg : Gm} {Wx : WX} {pos : Pos}
theorem Reps.rep {W : Wd} {vs : List V} {ds : List D} (r : Reps mg W vs ds) : ∀ n : Nat, Reps mg W (List.replicate n vs).flatten (List.replicate n ds).flatten
  | 0 => .nil
  | n + 1 => by
    rw [List.replicate_succ, List.replicate_succ, List.flatten_cons, List.flatten_cons]
    exact r.append (Reps.rep r n)
theorem ok_rep : OpOk Xs mg (binaryOp .Mult) rdRep := by
  refine ⟨_, fun j => op_rep, ?_⟩
  intro W H x y dx dy Q Q' hh rx ry h q
  unfold rdRep at h
  split at h
  · rename_i xs k
    cases rx with
    | lst ha ra =>
      cases ry
      exact ⟨_, k, _, rfl, rfl, hh.same _ _ ha, h.1.1, h.1.2, by rw [ra.length]; exact h.2.1, to_lst q hh (Reps.rep ra k.toNat) h.2.2⟩
  · exact h.elim
end
end FP
/-! KP: kinds, with no program in sight: text, places, order, parts, signed atoms; their data. -/
namespace KP
open PySem L2 FP
variable [FP.Tabl]
inductive Kd where
  | mk (as : List Kd) (a : Str)
def Kd.as : Kd → List Kd
  | .mk as _ => as
def Kd.a : Kd → Str
  | .mk _ a => a
mutual
def text : Kd → Str
  | .mk as a => Txt.join " -> " (texts as ++ [a])
def texts : List Kd → List Str
  | [] => []
  | k :: r => (if k.as.isEmpty then text k else "(" ++ text k ++ ")") :: texts r
end
def intext (k : Kd) : Str := if k.as.isEmpty then text k else "(" ++ text k ++ ")"
theorem texts_map : ∀ ks, texts ks = ks.map intext
  | [] => rfl
  | k :: r => by
    rw [texts, texts_map r]
    rfl
mutual
def places : Kd → List Str
  | .mk as a => placesL as ++ [a]
def placesL : List Kd → List Str
  | [] => []
  | k :: r => places k ++ placesL r
end
theorem placesL_map : ∀ ks, placesL ks = (ks.map places).flatten
  | [] => rfl
  | k :: r => by
    rw [placesL, placesL_map r]
    rfl
mutual
def ord : Kd → Nat
  | .mk as _ => ordL as
def ordL : List Kd → Nat
  | [] => 0
  | k :: r => max (ord k + 1) (ordL r)
end
theorem ord_lt {k : Kd} : ∀ {ks : List Kd}, k ∈ ks → ord k < ordL ks
  | [], h => absurd h List.not_mem_nil
  | j :: r, h => by
    rw [ordL]
    rcases List.mem_cons.mp h with e | e
    · rw [e]; omega
    · have := ord_lt e
      omega
theorem ordL_le {n : Nat} : ∀ {ks : List Kd}, (∀ k ∈ ks, ord k < n) → ordL ks ≤ n
  | [], _ => Nat.zero_le _
  | j :: r, h => by
    rw [ordL]
    have h1 := h j List.mem_cons_self
    have h2 := ordL_le fun k hk => h k (List.mem_cons_of_mem _ hk)
    omega
theorem ordL_max {ks : List Kd} {m : Int} (hm : m ∈ ks.map fun k => (ord k : Int)) (hy : ∀ y ∈ ks.map (fun k => (ord k : Int)), y ≤ m) : 1 + m = (ordL ks : Int) := by
  obtain ⟨k, hk, rfl⟩ := List.mem_map.mp hm
  have h1 := ord_lt hk
  have h2 : ordL ks ≤ ord k + 1 := ordL_le fun j hj => by
    have := hy _ (List.mem_map.mpr ⟨j, hj, rfl⟩)
    omega
  omega
mutual
def signed : Kd → Bool → List Str
  | .mk as a, b => (if b then [a] else []) ++ signedL as (!b)
def signedL : List Kd → Bool → List Str
  | [], _ => []
  | k :: r, b => signed k b ++ signedL r b
end
/-! ### sizes -/
theorem places_pos (k : Kd) : 1 ≤ (places k).length := by
  cases k with
  | mk as a =>
    rw [places, List.length_append]
    show 1 ≤ _ + 1
    omega
theorem placesL_len {k : Kd} : ∀ {ks : List Kd}, k ∈ ks → (places k).length ≤ (placesL ks).length
  | [], h => absurd h List.not_mem_nil
  | j :: r, h => by
    rw [placesL, List.length_append]
    rcases List.mem_cons.mp h with e | e
    · rw [e]; omega
    · have := placesL_len e
      omega
theorem length_placesL : ∀ ks : List Kd, ks.length ≤ (placesL ks).length
  | [] => Nat.zero_le _
  | j :: r => by
    rw [placesL, List.length_append, List.length_cons]
    have h1 := places_pos j
    have h2 := length_placesL r
    omega
theorem placesL_mem {k : Kd} {z : Str} (hz : z ∈ places k) : ∀ {ks : List Kd}, k ∈ ks → z ∈ placesL ks
  | [], h => absurd h List.not_mem_nil
  | j :: r, h => by
    rw [placesL]
    rcases List.mem_cons.mp h with e | e
    · rw [← e]
      exact List.mem_append_left _ hz
    · exact List.mem_append_right _ (placesL_mem hz e)
/-! ### words -/
def letters : List Nat := ("abcdefghijklmnopqrstuvwxyz" : Str).cps.toList
def isWordS (z : Str) : Bool := decide (1 ≤ z.length) && decide (z.length ≤ 8) && z.cps.toList.all fun c => decide (c ∈ letters)
theorem word_len {z : Str} (h : isWordS z = true) : 1 ≤ z.length ∧ z.length ≤ 8 := by
  unfold isWordS at h
  simp only [Bool.and_eq_true, decide_eq_true_eq] at h
  exact h.1
theorem word_letters {z : Str} (h : isWordS z = true) : ∀ c ∈ z.cps.toList, c ∈ letters := by
  unfold isWordS at h
  simp only [Bool.and_eq_true, decide_eq_true_eq, List.all_eq_true] at h
  exact h.2
theorem letters_small : ∀ c ∈ letters, 97 ≤ c ∧ c < 123 := by decide +kernel
theorem word_ok {z : Str} (h : isWordS z = true) : okStr z := ⟨Nat.le_trans (word_len h).2 (by decide), fun c hc => by
  have := letters_small c (word_letters h c hc)
  omega⟩
/-- a whole kind -/
structure Good (k : Kd) : Prop where
  w : ∀ z ∈ places k, isWordS z = true
  p : (places k).length ≤ 15
  o : ord k ≤ 4
theorem Good.kid {as : List Kd} {a : Str} (g : Good (.mk as a)) {k : Kd} (h : k ∈ as) : Good k := by
  refine ⟨fun z hz => g.w z ?_, ?_, ?_⟩
  · rw [places]
    exact List.mem_append_left _ (placesL_mem hz h)
  · have h1 := g.p
    rw [places, List.length_append] at h1
    have := placesL_len h
    have h1 : (placesL as).length + 1 ≤ 15 := h1
    omega
  · have h1 := g.o
    rw [ord] at h1
    have := ord_lt h
    omega
theorem Good.atom {as : List Kd} {a : Str} (g : Good (.mk as a)) : isWordS a = true := g.w a (by rw [places]; simp)
theorem Good.few {as : List Kd} {a : Str} (g : Good (.mk as a)) : (placesL as).length ≤ 14 ∧ as.length ≤ 14 := by
  have h1 := g.p
  rw [places, List.length_append] at h1
  have h1 : (placesL as).length + 1 ≤ 15 := h1
  have := length_placesL as
  omega
/-! ### the size of a text -/
theorem len_app (a b : Str) : (a ++ b).length = a.length + b.length := by
  show (a.cps ++ b.cps).size = _
  rw [Array.size_append]
  rfl
theorem join_len (ys : List Str) : (Txt.join " -> " ys).length ≤ (ys.map (·.length)).sum + ys.length * 4 := by
  rw [TL.join_eq]
  exact StrLaws.join_length_le " -> " ys
mutual
theorem text_len : ∀ k, (∀ z ∈ places k, z.length ≤ 8) → (text k).length + 6 ≤ 18 * (places k).length
  | .mk as a, h => by
    rw [text, places, List.length_append]
    have h1 := join_len (texts as ++ [a])
    have h2 := texts_len as fun z hz => h z (by rw [places]; exact List.mem_append_left _ hz)
    have h3 := h a (by rw [places]; simp)
    rw [List.map_append, List.sum_append, List.length_append] at h1
    have e1 : ([a].map (·.length)).sum = a.length := by simp
    have e2 : [a].length = 1 := rfl
    rw [e1, e2] at h1
    rw [e2]
    omega
theorem texts_len : ∀ ks, (∀ z ∈ placesL ks, z.length ≤ 8) → ((texts ks).map (·.length)).sum + (texts ks).length * 4 + 0 ≤ 18 * (placesL ks).length
  | [], _ => Nat.le_refl _
  | k :: r, h => by
    rw [texts, placesL, List.map_cons, List.sum_cons, List.length_cons, List.length_append]
    have h1 := text_len k fun z hz => h z (by rw [placesL]; exact List.mem_append_left _ hz)
    have h2 := texts_len r fun z hz => h z (by rw [placesL]; exact List.mem_append_right _ hz)
    have h3 := places_pos k
    have h4 : (if k.as.isEmpty then text k else "(" ++ text k ++ ")").length ≤ (text k).length + 2 := by
      split
      · omega
      · rw [len_app, len_app]
        have e1 : ("(" : Str).length = 1 := rfl
        have e2 : (")" : Str).length = 1 := rfl
        rw [e1, e2]
        omega
    omega
end
end KP
/-! KP2: kinds as data; data beside themselves. -/
namespace KP
open PySem L2 FP
variable [FP.Tabl]
mutual
def plain : Kd → D
  | .mk as a => .tup [.tup (plains as), .str a]
def plains : List Kd → List D
  | [] => []
  | k :: r => plain k :: plains r
end
theorem plains_map : ∀ ks, plains ks = ks.map plain
  | [] => rfl
  | k :: r => by
    rw [plains, plains_map r]
    rfl
theorem plain_mk (as : List Kd) (a : Str) : plain (.mk as a) = .tup [.tup (as.map plain), .str a] := by
  rw [plain, plains_map]
theorem plain_eq (k : Kd) : plain k = .tup [.tup (k.as.map plain), .str k.a] := by
  cases k with
  | mk as a => exact plain_mk as a
mutual
def typeD : Kd → D
  | .mk as a => .ins "Type" [("own_args", .tup (typeDs as)), ("own_atom", .str a), ("own_places", .tup ((places (.mk as a)).map .str)), ("own_order", .int (ord (.mk as a))), ("own_text", .str (text (.mk as a)))]
def typeDs : List Kd → List D
  | [] => []
  | k :: r => typeD k :: typeDs r
end
theorem typeDs_map : ∀ ks, typeDs ks = ks.map typeD
  | [] => rfl
  | k :: r => by
    rw [typeDs, typeDs_map r]
    rfl
def flds (k : Kd) : List (Str × D) := [("own_args", .tup (k.as.map typeD)), ("own_atom", .str k.a), ("own_places", .tup ((places k).map .str)), ("own_order", .int (ord k)), ("own_text", .str (text k))]
theorem typeD_eq (k : Kd) : typeD k = .ins "Type" (flds k) := by
  cases k with
  | mk as a =>
    rw [typeD, typeDs_map]
    rfl
theorem lk_args (k : Kd) : (flds k).lookup ("own_args" : Str) = some (.tup (k.as.map typeD)) := rfl
theorem lk_places (k : Kd) : (flds k).lookup ("own_places" : Str) = some (.tup ((places k).map .str)) := rfl
theorem lk_order (k : Kd) : (flds k).lookup ("own_order" : Str) = some (.int (ord k)) := rfl
theorem lk_text (k : Kd) : (flds k).lookup ("own_text" : Str) = some (.str (text k)) := rfl
/-! ### readings of fields, of the class -/
section
variable {k : Kd} {Q : D → Prop}
/-- a field is read -/
theorem fld {f : Str} {d : D} {c : Str} (h : (flds k).lookup f = some d) (q : Q d) (hc : c = "Type" := by rfl) : (match typeD k with
  | .ins c' fs => c' = c ∧ ∃ d, fs.lookup f = some d ∧ Q d
  | _ => False) := by
  rw [typeD_eq]
  exact ⟨hc.symm, d, h, q⟩
theorem isT (q : Q (.bl true)) : (match isiD ["Type"] (fun _ => true) (typeD k) with
  | some b => Q (.bl b)
  | none => False) := by
  rw [typeD_eq]
  exact q
end
/-! ### data beside themselves -/
mutual
def shD : Nat → D → Bool
  | _, .non => true
  | _, .bl _ => true
  | _, .int _ => true
  | _, .str x => PyData.strOk x
  | n + 1, .tup xs => shDs n xs
  | n + 1, .lst xs => shDs n xs
  | _, _ => false
def shDs : Nat → List D → Bool
  | _, [] => true
  | n, x :: r => shD n x && shDs n r
end
mutual
theorem shD_py : ∀ (n : Nat) (d : D), shD n d = true → ∃ p, toPy d = some p ∧ p.canLay0 = true ∧ p.depth ≤ n
  | n, .non, _ => ⟨.none, rfl, rfl, Nat.zero_le _⟩
  | n, .bl b, _ => ⟨.bool b, rfl, rfl, Nat.zero_le _⟩
  | n, .int i, _ => ⟨.int i, rfl, rfl, Nat.zero_le _⟩
  | n, .str x, h => ⟨.str x, rfl, by rw [PyData.canLay0]; simpa [shD] using h, Nat.zero_le _⟩
  | n + 1, .tup xs, h => by
    rw [shD] at h
    obtain ⟨ps, h1, h2, h3⟩ := shDs_py n xs h
    exact ⟨.tuple ps, by rw [toPy, h1], h2, Nat.succ_le_succ h3⟩
  | n + 1, .lst xs, h => by
    rw [shD] at h
    obtain ⟨ps, h1, h2, h3⟩ := shDs_py n xs h
    exact ⟨.list ps, by rw [toPy, h1], h2, Nat.succ_le_succ h3⟩
  | 0, .tup xs, h => by simp [shD] at h
  | 0, .lst xs, h => by simp [shD] at h
  | n, .fz _, h => by simp [shD] at h
  | n, .dct _, h => by simp [shD] at h
  | n, .ins _ _, h => by simp [shD] at h
  | n, .tok, h => by simp [shD] at h
  | n, .cl _, h => by simp [shD] at h
  | n, .fn _ _, h => by simp [shD] at h
theorem shDs_py : ∀ (n : Nat) (ds : List D), shDs n ds = true → ∃ ps, toPys ds = some ps ∧ PyData.canLayAll0 ps = true ∧ PyData.depthAll ps ≤ n
  | n, [], _ => ⟨[], rfl, rfl, Nat.zero_le _⟩
  | n, x :: r, h => by
    rw [shDs, Bool.and_eq_true] at h
    obtain ⟨p, h1, h2, h3⟩ := shD_py n x h.1
    obtain ⟨ps, g1, g2, g3⟩ := shDs_py n r h.2
    refine ⟨p :: ps, by rw [toPys, h1, g1], ?_, ?_⟩
    · rw [PyData.canLayAll0, h2, g2]
      rfl
    · rw [PyData.depthAll]
      omega
end
theorem sh_shaped {p : PyData} (h1 : p.canLay0 = true) (h2 : p.depth ≤ 64) : SeqAt.shaped p = true := by
  unfold SeqAt.shaped
  rw [h1, decide_eq_true h2]
  rfl
/-! ### signs of texts -/
theorem strOk_iff (z : Str) : PyData.strOk z = true ↔ ∀ c ∈ z.cps.toList, c < 1114112 := by
  unfold PyData.strOk
  rw [Array.all_eq_true']
  simp
theorem strOk_app {a b : Str} (h1 : PyData.strOk a = true) (h2 : PyData.strOk b = true) : PyData.strOk (a ++ b) = true := by
  rw [strOk_iff] at *
  intro c hc
  rw [str_app] at hc
  rcases List.mem_append.mp hc with q | q
  · exact h1 c q
  · exact h2 c q
theorem strOk_join {y : Str} (hy : PyData.strOk y = true) : ∀ {ts : List Str}, (∀ t ∈ ts, PyData.strOk t = true) → PyData.strOk (Str.join y ts) = true
  | [], _ => by show PyData.strOk Str.empty = true; decide +kernel
  | [t], h => h t List.mem_cons_self
  | t :: u :: r, h => by
    show PyData.strOk (t ++ y ++ Str.join y (u :: r)) = true
    exact strOk_app (strOk_app (h t List.mem_cons_self) hy) (strOk_join hy fun s hs => h s (List.mem_cons_of_mem _ hs))
mutual
theorem text_ok : ∀ k, (∀ z ∈ places k, PyData.strOk z = true) → PyData.strOk (text k) = true
  | .mk as a, h => by
    rw [text, TL.join_eq]
    refine strOk_join (by decide +kernel) fun t ht => ?_
    rcases List.mem_append.mp ht with q | q
    · exact texts_ok as (fun z hz => h z (by rw [places]; exact List.mem_append_left _ hz)) t q
    · rw [List.mem_singleton.mp q]
      exact h a (by rw [places]; simp)
theorem texts_ok : ∀ ks, (∀ z ∈ placesL ks, PyData.strOk z = true) → ∀ t ∈ texts ks, PyData.strOk t = true
  | [], _, t, ht => by
    rw [texts] at ht
    cases ht
  | k :: r, h, t, ht => by
    rw [texts] at ht
    have h1 := text_ok k fun z hz => h z (by rw [placesL]; exact List.mem_append_left _ hz)
    rcases List.mem_cons.mp ht with q | q
    · rw [q]
      split
      · exact h1
      · exact strOk_app (strOk_app (by decide +kernel) h1) (by decide +kernel)
    · exact texts_ok r (fun z hz => h z (by rw [placesL]; exact List.mem_append_right _ hz)) t q
end
theorem Good.chars {k : Kd} (g : Good k) : ∀ z ∈ places k, PyData.strOk z = true := fun z hz => (strOk_iff z).mpr (word_ok (g.w z hz)).2
theorem Good.text_ok {k : Kd} (g : Good k) : PyData.strOk (text k) = true := KP.text_ok k g.chars
theorem Good.text_len {k : Kd} (g : Good k) : (text k).length ≤ 300 := by
  have h1 := KP.text_len k fun z hz => (word_len (g.w z hz)).2
  have h2 := g.p
  omega
theorem Good.okStr {k : Kd} (g : Good k) : okStr (text k) := ⟨Nat.le_trans g.text_len (by decide), (strOk_iff _).mp g.text_ok⟩
theorem app_empty (z : Str) : (Str.empty : Str) ++ z = z := by
  show (⟨#[] ++ z.cps⟩ : Str) = z
  simp
end KP
/-! KP3: what the defs about kinds promise, by data; lists walked. -/
namespace KP
open PySem L2 FP
variable [FP.Tabl]
/-- a comprehension over data told by things -/
theorem lc_of {α : Type} {body : D → (Option D → Prop) → Prop} (e g : α → D) : ∀ (xs : List α) (Q : List D → Prop), (∀ x ∈ xs, ∀ k : Option D → Prop, k (some (g x)) → body (e x) k) → Q (xs.map g) → lcD body (xs.map e) Q
  | [], Q, _, h => h
  | x :: xs, Q, hb, h => by
    refine hb x List.mem_cons_self _ ?_
    exact lc_of e g xs _ (fun y hy => hb y (List.mem_cons_of_mem _ hy)) h
/-- the same with a test -/
theorem lc_if {α : Type} {body : D → (Option D → Prop) → Prop} (e : α → D) (g : α → Option D) : ∀ (xs : List α) (Q : List D → Prop), (∀ x ∈ xs, ∀ k : Option D → Prop, k (g x) → body (e x) k) → Q (xs.filterMap g) → lcD body (xs.map e) Q
  | [], Q, _, h => h
  | x :: xs, Q, hb, h => by
    refine hb x List.mem_cons_self _ ?_
    refine lc_if e g xs _ (fun y hy => hb y (List.mem_cons_of_mem _ hy)) ?_
    rw [List.filterMap_cons] at h
    cases q : g x with
    | none => rw [q] at h; exact h
    | some r => rw [q] at h; exact h
/-- two clauses -/
theorem lcS_of {α : Type} {body : D → (List D → Prop) → Prop} (e : α → D) (g : α → List D) : ∀ (xs : List α) (Q : List D → Prop), (∀ x ∈ xs, ∀ k : List D → Prop, k (g x) → body (e x) k) → Q ((xs.map g).flatten) → lcS body (xs.map e) Q
  | [], Q, _, h => h
  | x :: xs, Q, hb, h => by
    refine hb x List.mem_cons_self _ ?_
    exact lcS_of e g xs _ (fun y hy => hb y (List.mem_cons_of_mem _ hy)) h
/-- a for loop over data told by things: what holds behind each -/
theorem for_of {α : Type} {T : Tg} {f : DTS} {N : Nd} (e : α → D) (I : List α → FP.Env → Prop) : ∀ (xs done : List α) (ρ : FP.Env), I done ρ →
    (∀ (x : α) (pre post : List α), done ++ xs = pre ++ x :: post → ∀ (ρ : FP.Env) (K : FP.Env → Prop), I pre ρ → (∀ ρ', I (pre ++ [x]) ρ' → K ρ') → ∃ ρ1, T.put (e x) ρ = some ρ1 ∧ f { N with nx := K, ct := K, bk := N.nx } ρ1) →
    (∀ ρ, I (done ++ xs) ρ → N.nx ρ) → forD T f N (xs.map e) ρ
  | [], done, ρ, h, _, he => he ρ (by rw [List.append_nil]; exact h)
  | x :: xs, done, ρ, h, hs, he => by
    refine hs x done xs rfl ρ _ h fun ρ' h' => ?_
    refine for_of e I xs (done ++ [x]) ρ' h' (fun y pre post eq ρ K => hs y pre post (by rw [← eq, List.append_assoc]; rfl) ρ K) fun ρ h2 => he ρ ?_
    rw [List.append_assoc] at h2
    exact h2
def isWordD : D → Bool
  | .str z => isWordS z
  | _ => false
def f_is_word : List D → M D := fun ds Q _ => match ds with
  | [d] => okV d ∧ Q (.bl (isWordD d))
  | _ => False
def f_order : List D → M D := fun ds Q _ => match ds with
  | [.tup xs] => ∃ ks : List Kd, xs = ks.map typeD ∧ ks.length ≤ 100 ∧ Q (.int (ordL ks))
  | _ => False
def f_intext : List D → M D := fun ds Q _ => match ds with
  | [d] => ∃ k, d = typeD k ∧ (text k).length ≤ 1000 ∧ Q (.str (intext k))
  | _ => False
def f_init : List D → ((List (Str × D)) → Prop) → (XD → Prop) → Prop := fun ds Q _ => match ds with
  | [.tup xs, .str a] => ∃ ks : List Kd, xs = ks.map typeD ∧ Good (.mk ks a) ∧ Q (flds (.mk ks a))
  | _ => False
/-- what is told of a kind -/
def f_tell (g : Kd → D) : List D → M D := fun ds Q _ => match ds with
  | [x] => ∃ k, x = typeD k ∧ Good k ∧ Q (g k)
  | _ => False
def d_text (k : Kd) : D := .str (text k)
def d_len (k : Kd) : D := .int (places k).length
theorem Good.leaf {a : Str} (h : isWordS a = true) : Good (.mk [] a) := by
  refine ⟨fun z hz => ?_, ?_, ?_⟩
  · rw [places, placesL] at hz
    rw [List.mem_singleton.mp hz]
    exact h
  · rw [places, placesL]
    show 1 ≤ 15
    decide
  · rw [ord, ordL]
    decide
theorem kit_tt : kitB "tuple" "tuple" = some true := by decide +kernel
theorem size_small {n : Nat} (h : n ≤ 1000) : n ≤ sizeLine := Nat.le_trans h (by decide)
theorem placesL_app (xs ys : List Kd) : placesL (xs ++ ys) = placesL xs ++ placesL ys := by
  rw [placesL_map, placesL_map, placesL_map, List.map_append, List.flatten_append]
theorem placesL_one (k : Kd) : placesL [k] = places k := by
  rw [placesL, placesL, List.append_nil]
theorem mem_mid {α : Type} {x : α} {xs pre post : List α} (h : [] ++ xs = pre ++ x :: post) : x ∈ xs := by
  rw [List.nil_append] at h
  rw [h]
  simp
end KP
/-! KP4: a dict from texts to kinds; its keys in order. -/
namespace KP
open PySem L2 FP
variable [FP.Tabl]
theorem dc_of {α : Type} {body : D → (Option (Key × D) → Prop) → Prop} (e : α → D) (g : α → Key × D) : ∀ (xs : List α) (acc : List (Key × D)) (Q : List (Key × D) → Prop), (∀ x ∈ xs, ∀ k : Option (Key × D) → Prop, k (some (g x)) → body (e x) k) → Q (xs.foldl (fun a x => putKD a (g x).1 (g x).2) acc) → dcD body (xs.map e) acc Q
  | [], acc, Q, _, h => h
  | x :: xs, acc, Q, hb, h => by
    refine hb x List.mem_cons_self _ ?_
    exact dc_of e g xs _ Q (fun y hy => hb y (List.mem_cons_of_mem _ hy)) h
structure DInv (done : List Kd) (acc : List (Key × D)) : Prop where
  el : ∀ kv ∈ acc, ∃ j ∈ done, kv = (.inr (text j), typeD j)
  nd : (acc.map (·.1)).Nodup
  all : ∀ j ∈ done, Sum.inr (text j) ∈ acc.map (·.1)
theorem DInv.put {done : List Kd} {acc : List (Key × D)} (h : DInv done acc) (j : Kd) : DInv (done ++ [j]) (putKD acc (.inr (text j)) (typeD j)) := by
  unfold putKD
  by_cases q : (acc.any fun kv => decide (kv.1 = .inr (text j))) = true
  · rw [if_pos q]
    have ek : (acc.map fun kv => if kv.1 = .inr (text j) then (kv.1, typeD j) else kv).map (·.1) = acc.map (·.1) := by
      rw [List.map_map]
      apply List.map_congr_left
      intro kv _
      show (if kv.1 = .inr (text j) then (kv.1, typeD j) else kv).1 = kv.1
      split <;> rfl
    refine ⟨fun kv hkv => ?_, by rw [ek]; exact h.nd, fun i hi => ?_⟩
    · obtain ⟨kv0, h0, e⟩ := List.mem_map.mp hkv
      by_cases z : kv0.1 = .inr (text j)
      · rw [if_pos z] at e
        exact ⟨j, by simp, by rw [← e, z]⟩
      · rw [if_neg z] at e
        obtain ⟨i, hi, ei⟩ := h.el kv0 h0
        exact ⟨i, List.mem_append_left _ hi, by rw [← e, ei]⟩
    · rw [ek]
      rcases List.mem_append.mp hi with z | z
      · exact h.all i z
      · rw [List.mem_singleton.mp z]
        obtain ⟨kv, h1, h2⟩ := List.any_eq_true.mp q
        exact List.mem_map.mpr ⟨kv, h1, of_decide_eq_true h2⟩
  · rw [if_neg q]
    have nk : Sum.inr (text j) ∉ acc.map (·.1) := fun z => by
      obtain ⟨kv, h1, h2⟩ := List.mem_map.mp z
      exact q (List.any_eq_true.mpr ⟨kv, h1, decide_eq_true h2⟩)
    refine ⟨fun kv hkv => ?_, ?_, fun i hi => ?_⟩
    · rcases List.mem_append.mp hkv with z | z
      · obtain ⟨i, hi, ei⟩ := h.el kv z
        exact ⟨i, List.mem_append_left _ hi, ei⟩
      · exact ⟨j, by simp, List.mem_singleton.mp z⟩
    · rw [List.map_append]
      refine List.nodup_append.mpr ⟨h.nd, by simp, fun a ha b hb e => ?_⟩
      have eb : b = Sum.inr (text j) := by simpa using hb
      rw [e, eb] at ha
      exact nk ha
    · rw [List.map_append]
      rcases List.mem_append.mp hi with z | z
      · exact List.mem_append_left _ (h.all i z)
      · rw [List.mem_singleton.mp z]
        exact List.mem_append_right _ (by simp)
theorem flat_strs : ∀ zs : List Str, (zs.map V.str).all flatV = true
  | [] => rfl
  | z :: r => by
    rw [List.map_cons, List.all_cons, flat_strs r]
    rfl
theorem inV_strs (z : Str) : ∀ zs : List Str, inV (.str z) (zs.map V.str) = decide (z ∈ zs)
  | [] => rfl
  | y :: r => by
    have ih := inV_strs z r
    unfold inV at ih ⊢
    rw [List.map_cons, List.any_cons, ih]
    have e : eqV (.str y) (.str z) = decide (y = z) := by
      show (y == z) = _
      rfl
    rw [e, Bool.eq_iff_iff]
    simp only [Bool.or_eq_true, decide_eq_true_eq, List.mem_cons]
    constructor
    · rintro (h | h)
      · exact .inl h.symm
      · exact .inr h
    · rintro (h | h)
      · exact .inl h.symm
      · exact .inr h
theorem atI_nat {α : Type} {xs : List α} {i : Int} (h0 : 0 ≤ i) (h1 : i < xs.length) : atI xs i = xs[i.toNat]? := by
  unfold atI ixN
  rw [if_pos h0, if_pos h1]
  rfl
end KP
/-! KP5: how a kind is read from signs, with no program in sight. -/
namespace KP
open PySem L2 FP
variable [FP.Tabl]
abbrev Rows := List (List Kd)
def rowD (r : List Kd) : List D := r.map plain
def roF (rows : Rows) (w : Bool) : FO := [("of_rows", .ll (rows.map rowD)), ("of_wants", .d (.bl w))]
theorem rf_rows (rows : Rows) (w : Bool) : (roF rows w).lookup ("of_rows" : Str) = some (.ll (rows.map rowD)) := rfl
theorem rf_put (rows rows' : Rows) (w : Bool) : putO "of_rows" (.ll (rows'.map rowD)) (roF rows w) = roF rows' w := rfl
theorem rf_take (rows : Rows) (w : Bool) : (roF rows w).lookup ("take" : Str) = none := rfl
theorem rf_end (rows : Rows) (w : Bool) : (roF rows w).lookup ("take_end" : Str) = none := rfl
def roD (rows : Rows) (w : Bool) : List (Str × D) := [("of_rows", .lst (rows.map fun r => .lst (rowD r))), ("of_wants", .bl w)]
theorem rf_toDs (rows : Rows) (w : Bool) : toDs (roF rows w) = roD rows w := by
  unfold toDs roF roD
  simp only [List.map_cons, List.map_nil, OF.toD, List.map_map]
  rfl
theorem rd_rows (rows : Rows) (w : Bool) : (roD rows w).lookup ("of_rows" : Str) = some (.lst (rows.map fun r => .lst (rowD r))) := rfl
theorem rd_wants (rows : Rows) (w : Bool) : (roD rows w).lookup ("of_wants" : Str) = some (.bl w) := rfl
def takeEnd (pre : Rows) (row : List Kd) (w : Bool) (s : Str) : Bool × Rows × Bool :=
  if w then (false, pre ++ [row], w) else if s = " -> " then (true, pre ++ [row], true) else
    match pre.getLast?, row.getLast? with
    | some r0, some k => if 2 ≤ row.length ∧ k.as = [] then (true, pre.dropLast ++ [r0 ++ [.mk row.dropLast k.a]], false) else (false, pre, false)
    | _, _ => (false, pre, false)
def take1 (pre : Rows) (row : List Kd) (w : Bool) (s : Str) : Bool × Rows × Bool :=
  if s = "(" then (w && decide (pre.length + 2 ≤ 5), pre ++ [row] ++ [[]], w)
  else if s = " -> " ∨ s = ")" then takeEnd pre row w s
  else (w && isWordS s, pre ++ [row ++ [.mk [] s]], false)
structure OkR (rows : Rows) : Prop where
  n : rows.length ≤ 6
  r : ∀ row ∈ rows, row.length ≤ 2000
  k : ∀ row ∈ rows, ∀ k ∈ row, ord k ≤ 6 ∧ ∀ z ∈ places k, PyData.strOk z = true
def f_kr_init : List D → (FO → Prop) → Prop := fun ds Q => match ds with
  | [] => Q (roF [[]] true)
  | _ => False
def f_take_end : FO → List D → MO := fun fs ds Q _ => match ds with
  | [.str s] => ∃ pre row w, fs = roF (pre ++ [row]) w ∧ OkR (pre ++ [row]) ∧ okStr s ∧ (s = " -> " ∨ s = ")") ∧ Q (.bl (takeEnd pre row w s).1) (roF (takeEnd pre row w s).2.1 (takeEnd pre row w s).2.2)
  | _ => False
def f_take : FO → List D → MO := fun fs ds Q _ => match ds with
  | [.str s] => ∃ pre row w, fs = roF (pre ++ [row]) w ∧ OkR (pre ++ [row]) ∧ okStr s ∧ Q (.bl (take1 pre row w s).1) (roF (take1 pre row w s).2.1 (take1 pre row w s).2.2)
  | _ => False
def kdD : Option Kd → D
  | none => .non
  | some k => plain k
def resultS (rows : Rows) (w : Bool) : Option Kd := if w then none else match rows with
  | [row] => match row.getLast? with
    | some k => if k.as = [] then some (.mk row.dropLast k.a) else none
    | none => none
  | _ => none
def f_result : List D → M D := fun ds Q _ => match ds with
  | [.ins c fs] => ∃ rows w, c = "KindReader" ∧ fs = roD rows w ∧ (w = false → ∀ row, rows = [row] → row ≠ []) ∧ Q (kdD (resultS rows w))
  | _ => False
/-! ### shapes are shaped -/
mutual
theorem shP : ∀ (k : Kd) (m j : Nat), ord k ≤ m → (∀ z ∈ places k, PyData.strOk z = true) → shD (2 * m + 2 + j) (plain k) = true
  | .mk as a, m, j, ho, hz => by
    rw [plain_mk, show 2 * m + 2 + j = (2 * m + 1 + j) + 1 by omega, shD]
    have ha : PyData.strOk a = true := hz a (by rw [places]; simp)
    rw [shDs, shDs, shDs, shD, ha, Bool.and_true, Bool.and_true, show 2 * m + 1 + j = (2 * m + j) + 1 by omega, shD]
    refine shPs as m j (by rw [ord] at ho; exact ho) fun z h => hz z (by rw [places]; exact List.mem_append_left _ h)
theorem shPs : ∀ (ks : List Kd) (m j : Nat), ordL ks ≤ m → (∀ z ∈ placesL ks, PyData.strOk z = true) → shDs (2 * m + j) (ks.map plain) = true
  | [], _, _, _, _ => by rw [List.map_nil, shDs]
  | k :: r, m, j, ho, hz => by
    rw [ordL] at ho
    rw [List.map_cons, shDs, shPs r m j (by omega) fun z h => hz z (by rw [placesL]; exact List.mem_append_right _ h), Bool.and_true]
    cases m with
    | zero => omega
    | succ m =>
      have := shP k m j (by omega) fun z h => hz z (by rw [placesL]; exact List.mem_append_left _ h)
      rw [show 2 * (m + 1) + j = 2 * m + 2 + j by omega]
      exact this
end
theorem shDs_of {n : Nat} : ∀ {ds : List D}, (∀ d ∈ ds, shD n d = true) → shDs n ds = true
  | [], _ => by rw [shDs]
  | d :: r, h => by
    rw [shDs, h d List.mem_cons_self, shDs_of fun e he => h e (List.mem_cons_of_mem _ he)]
    rfl
theorem sh_rows {rows : Rows} (h : OkR rows) : shD 64 (.lst (rows.map fun r => .lst (rowD r))) = true := by
  rw [show (64 : Nat) = 63 + 1 from rfl, shD]
  refine shDs_of fun d hd => ?_
  obtain ⟨r, hr, e⟩ := List.mem_map.mp hd
  rw [← e, show (63 : Nat) = 62 + 1 from rfl, shD]
  refine shDs_of fun d hd => ?_
  obtain ⟨k, hk, e⟩ := List.mem_map.mp hd
  obtain ⟨h1, h2⟩ := h.k r hr k hk
  have z := shP k 6 48 h1 h2
  rw [← e]
  exact z
theorem eq_nil {xs : List D} {Q : D → Prop} (h : shD 64 (.lst xs) = true) (q : Q (.bl xs.isEmpty)) : rdEq (.lst xs) (.lst []) Q := by
  obtain ⟨p, h1, h2, h3⟩ := shD_py 64 _ h
  have e : eqS (.lst xs) (.lst []) = none := rfl
  unfold rdEq
  rw [e]
  have h1' := h1
  rw [toPy] at h1
  cases q1 : toPys xs with
  | none =>
    rw [q1] at h1
    cases h1
  | some ps =>
    rw [q1] at h1
    cases h1
    refine ⟨_, .list [], h1', rfl, sh_shaped h2 h3, by decide +kernel, ?_⟩
    rw [eqv_nil]
    have em : ps.isEmpty = xs.isEmpty := by
      cases xs with
      | nil =>
        rw [toPys] at q1
        cases q1
        rfl
      | cons x r =>
        rw [toPys] at q1
        split at q1
        · cases q1
          rfl
        · cases q1
    rw [em]
    exact q
theorem OkR.dl {pre : Rows} {row : List Kd} (h : OkR (pre ++ [row])) : OkR pre := ⟨by have := h.n; rw [List.length_append] at this; have e : [row].length = 1 := rfl; omega, fun r hr => h.r r (List.mem_append_left _ hr), fun r hr => h.k r (List.mem_append_left _ hr)⟩
theorem eq_str {a b : Str} {Q : D → Prop} (q : Q (.bl (decide (a = b)))) : rdEq (.str a) (.str b) Q := q
theorem td_rows (rows : Rows) (w : Bool) : (toDs (roF rows w)).lookup ("of_rows" : Str) = some (.lst (rows.map fun r => .lst (rowD r))) := by
  rw [rf_toDs]
  rfl
theorem td_wants (rows : Rows) (w : Bool) : (toDs (roF rows w)).lookup ("of_wants" : Str) = some (.bl w) := by
  rw [rf_toDs]
  rfl
theorem rf_snoc (pre : Rows) (row : List Kd) (w : Bool) : (roF (pre ++ [row]) w).lookup ("of_rows" : Str) = some (.ll (pre.map rowD ++ [rowD row])) := by
  rw [rf_rows, List.map_append]
  rfl
theorem atI_snoc {α : Type} (xs : List α) (x : α) : atI (xs ++ [x]) (-1) = some x := atI_last (n := xs.length) (by simp) (by simp)
theorem rowD_snoc (row : List Kd) (k : Kd) : rowD (row ++ [k]) = rowD row ++ [plain k] := by
  unfold rowD
  rw [List.map_append]
  rfl
theorem ix_last {row : List Kd} {k : Kd} {Q : D → Prop} (q : Q (plain k)) : rdIx (.lst (rowD (row ++ [k]))) (.int (-1)) Q := by
  rw [rowD_snoc]
  exact ⟨_, atI_snoc _ _, q⟩
theorem ix_p0 {k : Kd} {Q : D → Prop} (q : Q (.tup (k.as.map plain))) : rdIx (plain k) (.int 0) Q := by
  rw [plain_eq]
  exact ⟨_, rfl, q⟩
theorem ix_p1 {k : Kd} {Q : D → Prop} (q : Q (.str k.a)) : rdIx (plain k) (.int 1) Q := by
  rw [plain_eq]
  exact ⟨_, rfl, q⟩
theorem cut_last (xs : List D) (x : D) : cutD (xs ++ [x]) none (some (-1)) = xs := by
  unfold cutD
  have e1 : HT.sIx (xs ++ [x]).length 0 none = 0 := rfl
  have e2 : HT.sIx (xs ++ [x]).length (xs ++ [x]).length (some (-1)) = xs.length := by
    have h := List.length_append (as := xs) (bs := [x])
    have h1 : [x].length = 1 := rfl
    unfold HT.sIx
    simp only [h, h1]
    first | omega | (split <;> omega) | (simp; omega)
  rw [e1, e2, List.drop_zero, Nat.sub_zero, List.take_left']
  rfl
end KP
/-! KP6: the signs of a text, and the shape that they tell, with no program in sight. -/
namespace KP
open PySem L2 FP
variable [FP.Tabl]
def isL (c : Nat) : Bool := decide (c ∈ letters)
def arrowL : List Nat := (" -> " : Str).cps.toList
def parL : List Nat := ("()" : Str).cps.toList
def lexO : Nat → List Nat → Option (List Str)
  | _, [] => some []
  | 0, _ :: _ => none
  | n + 1, c :: r =>
    if isL c = true then (lexO n (r.dropWhile isL)).map (List.cons (⟨(c :: r.takeWhile isL).toArray⟩ : Str))
    else if (c :: r).take 4 = arrowL then (lexO n (r.drop 3)).map (List.cons (" -> " : Str))
    else if c ∈ parL then (lexO n r).map (List.cons (⟨#[c]⟩ : Str))
    else none
def lexS (z : Str) : Option (List Str) := lexO z.cps.toList.length z.cps.toList
theorem lexO_nil (n : Nat) : lexO n [] = some [] := by cases n <;> rfl
theorem lexO_fuel : ∀ (n m : Nat) (xs : List Nat), xs.length ≤ n → xs.length ≤ m → lexO n xs = lexO m xs
  | n, m, [], _, _ => by rw [lexO_nil, lexO_nil]
  | 0, _, _ :: _, h, _ => by simp at h
  | _, 0, _ :: _, _, h => by simp at h
  | n + 1, m + 1, c :: r, h, h' => by
    have h1 : r.length ≤ n := by simpa using h
    have h2 : r.length ≤ m := by simpa using h'
    have hd : (r.dropWhile isL).length ≤ r.length := (List.dropWhile_sublist isL).length_le
    have hp : (r.drop 3).length ≤ r.length := by simp
    rw [lexO, lexO, lexO_fuel n m _ (Nat.le_trans hd h1) (Nat.le_trans hd h2), lexO_fuel n m _ (Nat.le_trans hp h1) (Nat.le_trans hp h2), lexO_fuel n m r h1 h2]
theorem lexO_cons (c : Nat) (r : List Nat) : lexO (c :: r).length (c :: r) =
    if isL c = true then (lexO (r.dropWhile isL).length (r.dropWhile isL)).map (List.cons (⟨(c :: r.takeWhile isL).toArray⟩ : Str))
    else if (c :: r).take 4 = arrowL then (lexO (r.drop 3).length (r.drop 3)).map (List.cons (" -> " : Str))
    else if c ∈ parL then (lexO r.length r).map (List.cons (⟨#[c]⟩ : Str))
    else none := by
  have hd : (r.dropWhile isL).length ≤ r.length := (List.dropWhile_sublist isL).length_le
  have hp : (r.drop 3).length ≤ r.length := by simp
  rw [List.length_cons, lexO, lexO_fuel r.length _ _ hd (Nat.le_refl _), lexO_fuel r.length _ _ hp (Nat.le_refl _)]
/-- what is found so far, and the rest -/
def Lex (z : Str) (found : List Str) (rest : List Nat) : Prop := lexS z = (lexO rest.length rest).map (found ++ ·)
theorem Lex.start (z : Str) : Lex z [] z.cps.toList := by
  unfold Lex lexS
  cases lexO z.cps.toList.length z.cps.toList <;> rfl
theorem Lex.stop {z : Str} {found : List Str} (h : Lex z found []) : lexS z = some found := by
  unfold Lex at h
  rw [h, lexO_nil]
  simp
theorem Lex.step {z : Str} {found : List Str} {rest rest' : List Nat} {s : Str} (h : Lex z found rest) (e : lexO rest.length rest = (lexO rest'.length rest').map (List.cons s)) : Lex z (found ++ [s]) rest' := by
  unfold Lex at h ⊢
  rw [h, e]
  cases lexO rest'.length rest' with
  | none => rfl
  | some ss => simp
theorem Lex.word {z : Str} {found : List Str} {c : Nat} {r : List Nat} (h : Lex z found (c :: r)) (hc : isL c = true) : Lex z (found ++ [⟨(c :: r.takeWhile isL).toArray⟩]) (r.dropWhile isL) :=
  h.step (by rw [lexO_cons, if_pos hc])
theorem Lex.arrow {z : Str} {found : List Str} {c : Nat} {r : List Nat} (h : Lex z found (c :: r)) (hc : isL c = false) (ha : (c :: r).take 4 = arrowL) : Lex z (found ++ [(" -> " : Str)]) (r.drop 3) :=
  h.step (by rw [lexO_cons, if_neg (by rw [hc]; exact Bool.false_ne_true), if_pos ha])
theorem Lex.par {z : Str} {found : List Str} {c : Nat} {r : List Nat} (h : Lex z found (c :: r)) (hc : isL c = false) (ha : ¬ (c :: r).take 4 = arrowL) (hp : c ∈ parL) : Lex z (found ++ [⟨#[c]⟩]) r :=
  h.step (by rw [lexO_cons, if_neg (by rw [hc]; exact Bool.false_ne_true), if_neg ha, if_pos hp])
theorem Lex.bad {z : Str} {found : List Str} {c : Nat} {r : List Nat} (h : Lex z found (c :: r)) (hc : isL c = false) (ha : ¬ (c :: r).take 4 = arrowL) (hp : ¬ c ∈ parL) : lexS z = none := by
  unfold Lex at h
  rw [h, lexO_cons, if_neg (by rw [hc]; exact Bool.false_ne_true), if_neg ha, if_neg hp]
  rfl
/-! ### places of a text -/
theorem at_mid {z : Str} {pre rest : List Nat} {c : Nat} {i : Int} (h : z.cps.toList = pre ++ c :: rest) (hi : i = (pre.length : Int)) : atI z.cps.toList i = some c := by
  refine at_of (j := pre.length) hi ?_
  rw [h, List.getElem?_append_right (Nat.le_refl _), Nat.sub_self]
  rfl
theorem cut_mid {z : Str} {pre rest : List Nat} {lo hi : Int} {k : Nat} (h : z.cps.toList = pre ++ rest) (hl : lo = (pre.length : Int)) (hh : hi = (pre.length : Int) + (k : Int)) : cutS z (some lo) (some hi) = ⟨(rest.take k).toArray⟩ := by
  have hz : z.length = pre.length + rest.length := by rw [str_len, h, List.length_append]
  have e1 : hi = ((pre.length + k : Nat) : Int) := by omega
  subst hl
  subst e1
  unfold cutS
  rw [HT.sIx_nat, HT.sIx_nat, hz, h]
  have m1 : min pre.length (pre.length + rest.length) = pre.length := by omega
  have m2 : min (pre.length + k) (pre.length + rest.length) - pre.length = min k rest.length := by omega
  rw [m1, m2, List.drop_left']
  · congr 2
    rw [List.take_eq_take_iff]
    omega
  · rfl
theorem str_eq {xs : List Nat} {y : Str} : (⟨xs.toArray⟩ : Str) = y ↔ xs = y.cps.toList := by
  constructor
  · intro h
    rw [← h]
  · intro h
    rw [h]
theorem dropWhile_head {p : Nat → Bool} : ∀ {r r' : List Nat} {c : Nat}, r.dropWhile p = c :: r' → p c = false
  | [], _, _, h => by simp at h
  | x :: r, r', c, h => by
    rw [List.dropWhile_cons] at h
    cases q : p x with
    | true =>
      rw [q, if_pos rfl] at h
      exact dropWhile_head h
    | false =>
      rw [q, if_neg Bool.false_ne_true] at h
      cases h
      exact q
theorem takeWhile_all {p : Nat → Bool} : ∀ {r : List Nat} {c : Nat}, c ∈ r.takeWhile p → p c = true
  | [], _, h => by simp at h
  | x :: r, c, h => by
    rw [List.takeWhile_cons] at h
    cases q : p x with
    | true =>
      rw [q, if_pos rfl] at h
      rcases List.mem_cons.mp h with e | e
      · rw [e]
        exact q
      · exact takeWhile_all e
    | false =>
      rw [q, if_neg Bool.false_ne_true] at h
      cases h
theorem word_go {r : List Nat} {k : Nat} (h : k < (r.takeWhile isL).length) : ∃ c r', r.drop k = c :: r' ∧ isL c = true := by
  have hs := List.takeWhile_append_dropWhile (p := isL) (l := r)
  have hl : k < r.length := by
    rw [← hs, List.length_append]
    omega
  refine ⟨(r.takeWhile isL)[k], r.drop (k + 1), ?_, ?_⟩
  · rw [List.drop_eq_getElem_cons hl]
    congr 1
    have e : r[k]? = (r.takeWhile isL)[k]? := by
      rw (config := { occs := .pos [1] }) [← hs]
      rw [List.getElem?_append_left h]
    rw [List.getElem?_eq_getElem hl, List.getElem?_eq_getElem h] at e
    exact Option.some.inj e
  · exact takeWhile_all (List.getElem_mem h)
theorem word_end : ∀ {r : List Nat}, r.drop (r.takeWhile isL).length = r.dropWhile isL
  | [] => rfl
  | x :: r => by
    rw [List.takeWhile_cons, List.dropWhile_cons]
    cases isL x with
    | true =>
      rw [if_pos rfl, if_pos rfl, List.length_cons, List.drop_succ_cons]
      exact word_end
    | false =>
      rw [if_neg Bool.false_ne_true, if_neg Bool.false_ne_true]
      rfl
/-! ### signs are parts of the text -/
theorem lex_ok : ∀ (n : Nat) (xs : List Nat) (ss : List Str), lexO n xs = some ss → (∀ s ∈ ss, s.cps.toList.length ≤ xs.length + 4 ∧ ∀ c ∈ s.cps.toList, c ∈ xs ∨ c ∈ arrowL) ∧ ss.length ≤ xs.length
  | n, [], ss, h => by
    rw [lexO_nil] at h
    cases h
    exact ⟨fun _ h => absurd h List.not_mem_nil, Nat.le_refl _⟩
  | 0, _ :: _, _, h => by cases h
  | n + 1, c :: r, ss, h => by
    have key : ∀ (s : Str) (r' : List Nat), (lexO n r').map (List.cons s) = some ss → (s.cps.toList.length ≤ r.length + 5 ∧ ∀ c' ∈ s.cps.toList, c' ∈ c :: r ∨ c' ∈ arrowL) → r'.length ≤ r.length → (∀ x ∈ r', x ∈ r) → (∀ s ∈ ss, s.cps.toList.length ≤ (c :: r).length + 4 ∧ ∀ c' ∈ s.cps.toList, c' ∈ c :: r ∨ c' ∈ arrowL) ∧ ss.length ≤ (c :: r).length := by
      intro s r' h hs hl hm
      cases q : lexO n r' with
      | none =>
        rw [q] at h
        cases h
      | some ss' =>
        rw [q] at h
        cases h
        obtain ⟨h1, h2⟩ := lex_ok n r' ss' q
        refine ⟨fun s' hs' => ?_, ?_⟩
        · rcases List.mem_cons.mp hs' with e | e
          · rw [e, List.length_cons]
            exact ⟨by omega, hs.2⟩
          · obtain ⟨g1, g2⟩ := h1 s' e
            rw [List.length_cons]
            refine ⟨by omega, fun c' hc' => ?_⟩
            rcases g2 c' hc' with z | z
            · exact .inl (List.mem_cons_of_mem _ (hm c' z))
            · exact .inr z
        · rw [List.length_cons, List.length_cons]
          omega
    rw [lexO] at h
    have hd : (r.dropWhile isL).Sublist r := List.dropWhile_sublist isL
    have ht : (r.takeWhile isL).Sublist r := List.takeWhile_sublist isL
    split at h
    · refine key _ _ h ⟨?_, fun c' hc' => .inl ?_⟩ hd.length_le fun x hx => hd.subset hx
      · show (c :: r.takeWhile isL).length ≤ _
        rw [List.length_cons]
        have := ht.length_le
        omega
      · have hc2 : c' ∈ c :: r.takeWhile isL := hc'
        rcases List.mem_cons.mp hc2 with e | e
        · rw [e]
          exact List.mem_cons_self
        · exact List.mem_cons_of_mem _ (ht.subset e)
    · split at h
      · refine key _ _ h ⟨?_, fun c' hc' => .inr hc'⟩ (by simp) fun x hx => List.mem_of_mem_drop hx
        have e : (" -> " : Str).cps.toList.length = 4 := by decide
        rw [e]
        omega
      · split at h
        · refine key _ _ h ⟨?_, fun c' hc' => .inl ?_⟩ (Nat.le_refl _) fun x hx => hx
          · show ([c] : List Nat).length ≤ _
            simp
          · have hc2 : c' ∈ [c] := hc'
            rw [List.mem_singleton.mp hc2]
            exact List.mem_cons_self
        · cases h
theorem lexS_ok {z : Str} {ss : List Str} (hz : ∀ c ∈ z.cps.toList, c < 1114112) (h : lexS z = some ss) : (∀ s ∈ ss, s.length ≤ z.length + 4 ∧ ∀ c ∈ s.cps.toList, c < 1114112) ∧ ss.length ≤ z.length := by
  obtain ⟨h1, h2⟩ := lex_ok _ _ _ h
  rw [str_len z]
  refine ⟨fun s hs => ?_, h2⟩
  obtain ⟨g1, g2⟩ := h1 s hs
  rw [str_len]
  refine ⟨g1, fun c hc => ?_⟩
  rcases g2 c hc with q | q
  · exact hz c q
  · have : ∀ c ∈ arrowL, c < 1114112 := by decide +kernel
    exact this c q
def lexD : Option (List Str) → D
  | none => .non
  | some ss => .lst (ss.map .str)
def f_signs : List D → M D := fun ds Q _ => match ds with
  | [.str z] => okStr z ∧ Q (lexD (lexS z))
  | _ => False
/-! ### the shape -/
def wordish (s : Str) : Bool := decide (s ∉ (["(", ")", " -> "] : List Str))
def takeR (rows : Rows) (w : Bool) (s : Str) : Bool × Rows × Bool := take1 rows.dropLast (rows.getLastD []) w s
def readS : List Str → Rows → Bool → Option Kd
  | [], rows, w => resultS rows w
  | s :: r, rows, w => if (takeR rows w s).1 = true then readS r (takeR rows w s).2.1 (takeR rows w s).2.2 else none
def shapeS (z : Str) : Option Kd := match lexS z with
  | none => none
  | some ss => if 15 < (ss.filter wordish).length then none else readS ss [[]] true
def shapeV : D → Option Kd
  | .str z => shapeS z
  | _ => none
def f_shape : List D → M D := fun ds Q _ => match ds with
  | [d] => okV d ∧ (∀ z, d = .str z → z.length ≤ 990) ∧ Q (kdD (shapeV d))
  | _ => False
/-- what holds between signs -/
structure RInv (rows : Rows) (w : Bool) (left : Nat) : Prop where
  ne : rows ≠ []
  n : rows.length ≤ 5
  len : ∀ row ∈ rows, row.length + left ≤ 1000
  k : ∀ (j : Nat) (row : List Kd), rows[j]? = some row → ∀ k ∈ row, ord k + j ≤ 4 ∧ ∀ z ∈ places k, PyData.strOk z = true
  last : w = false → ∀ row, rows.getLast? = some row → row ≠ []
theorem RInv.start (n : Nat) (h : n ≤ 1000) : RInv [[]] true n := by
  refine ⟨by simp, by simp, fun row hr => ?_, fun j row hr k hk => ?_, fun h => by cases h⟩
  · rw [List.mem_singleton.mp hr]
    simpa using h
  · have := List.mem_of_getElem? hr
    rw [List.mem_singleton.mp this] at hk
    cases hk
theorem RInv.okR {rows : Rows} {w : Bool} {n : Nat} (h : RInv rows w n) : OkR rows := by
  refine ⟨by have := h.n; omega, fun row hr => by have := h.len row hr; omega, fun row hr k hk => ?_⟩
  obtain ⟨j, hj⟩ := List.getElem?_of_mem hr
  obtain ⟨h1, h2⟩ := h.k j row hj k hk
  exact ⟨by omega, h2⟩
theorem snoc_get {α : Type} {pre : List α} {x y : α} {j : Nat} (h : (pre ++ [x])[j]? = some y) : pre[j]? = some y ∨ (j = pre.length ∧ y = x) := by
  by_cases hj : j < pre.length
  · rw [List.getElem?_append_left hj] at h
    exact .inl h
  · rw [List.getElem?_append_right (by omega)] at h
    cases q : j - pre.length with
    | zero =>
      rw [q] at h
      exact .inr ⟨by omega, (Option.some.inj h).symm⟩
    | succ m =>
      rw [q] at h
      simp at h
theorem RInv.put {pre : Rows} {row : List Kd} {w w' : Bool} {n : Nat} {k : Kd} (h : RInv (pre ++ [row]) w (n + 1)) (h1 : ord k + pre.length ≤ 4) (h2 : ∀ z ∈ places k, PyData.strOk z = true) : RInv (pre ++ [row ++ [k]]) w' n := by
  refine ⟨by simp, ?_, fun r hr => ?_, fun j r hr i hi => ?_, fun _ r hr => ?_⟩
  · have := h.n
    simpa using this
  · rcases List.mem_append.mp hr with q | q
    · have := h.len r (List.mem_append_left _ q)
      omega
    · rw [List.mem_singleton.mp q, List.length_append]
      have := h.len row (by simp)
      have e : [k].length = 1 := rfl
      omega
  · rcases snoc_get hr with q | ⟨ej, er⟩
    · refine h.k j r ?_ i hi
      rw [List.getElem?_append_left (List.getElem?_eq_some_iff.mp q).1]
      exact q
    · rw [er] at hi
      rcases List.mem_append.mp hi with z | z
      · refine h.k j row ?_ i z
        rw [ej, List.getElem?_append_right (Nat.le_refl _), Nat.sub_self]
        rfl
      · rw [List.mem_singleton.mp z, ej]
        exact ⟨h1, h2⟩
  · simp at hr
    rw [← hr]
    simp
theorem RInv.take {pre : Rows} {row : List Kd} {w : Bool} {n : Nat} {s : Str} (h : RInv (pre ++ [row]) w (n + 1)) (hs : PyData.strOk s = true) (ht : (take1 pre row w s).1 = true) : RInv (take1 pre row w s).2.1 (take1 pre row w s).2.2 n := by
  unfold take1 at ht ⊢
  by_cases h1 : s = "("
  · rw [if_pos h1] at ht ⊢
    rw [Bool.and_eq_true, decide_eq_true_eq] at ht
    obtain ⟨hw, hn⟩ := ht
    show RInv (pre ++ [row] ++ [[]]) w n
    refine ⟨by simp, ?_, fun r hr => ?_, fun j r hr i hi => ?_, fun hf => by rw [hw] at hf; cases hf⟩
    · rw [List.length_append, List.length_append]
      exact hn
    · rcases List.mem_append.mp hr with q | q
      · have := h.len r q
        omega
      · rw [List.mem_singleton.mp q]
        have := h.len row (by simp)
        show 0 + n ≤ _
        omega
    · rcases snoc_get hr with q | ⟨_, er⟩
      · exact h.k j r q i hi
      · rw [er] at hi
        cases hi
  · rw [if_neg h1] at ht ⊢
    by_cases h2 : s = " -> " ∨ s = ")"
    · rw [if_pos h2] at ht ⊢
      unfold takeEnd at ht ⊢
      cases w with
      | true =>
        rw [if_pos rfl] at ht
        cases ht
      | false =>
      rw [if_neg Bool.false_ne_true] at ht ⊢
      by_cases h3 : s = " -> "
      · rw [if_pos h3]
        refine ⟨h.ne, h.n, fun r hr => ?_, h.k, fun hf => by cases hf⟩
        have := h.len r hr
        omega
      · rw [if_neg h3] at ht ⊢
        rcases List.eq_nil_or_concat pre with rfl | ⟨pre', r0, rfl⟩
        · simp at ht
        · rw [List.concat_eq_append] at *
          rcases List.eq_nil_or_concat row with rfl | ⟨row', k, rfl⟩
          · simp at ht
          · rw [List.concat_eq_append] at *
            simp only [List.getLast?_append, List.getLast?_singleton, Option.some_or, List.dropLast_concat] at ht ⊢
            by_cases h4 : 2 ≤ (row' ++ [k]).length ∧ k.as = []
            · rw [if_pos h4]
              have hr : (pre' ++ [r0] ++ [row' ++ [k]])[pre'.length + 1]? = some (row' ++ [k]) := by
                rw [List.getElem?_append_right (by simp)]
                simp
              have hk := h.k _ _ hr
              have h5 : RInv (pre' ++ [r0]) true (n + 1) := by
                refine ⟨by simp, ?_, fun r hr => h.len r (List.mem_append_left _ hr), fun j r hr i hi => ?_, fun hf => by cases hf⟩
                · have := h.n
                  rw [List.length_append] at this
                  omega
                · refine h.k j r ?_ i hi
                  rw [List.getElem?_append_left (List.getElem?_eq_some_iff.mp hr).1]
                  exact hr
              refine h5.put ?_ ?_
              · have : ordL row' ≤ 4 - pre'.length := ordL_le fun i hi => by
                  have := (hk i (List.mem_append_left _ hi)).1
                  omega
                have h6 := (hk k (by simp)).1
                show ordL row' + pre'.length ≤ 4
                omega
              · intro z hz
                rw [places] at hz
                rcases List.mem_append.mp hz with q | q
                · rw [placesL_map] at q
                  obtain ⟨l, hl, hzl⟩ := List.mem_flatten.mp q
                  obtain ⟨i, hi, rfl⟩ := List.mem_map.mp hl
                  exact (hk i (List.mem_append_left _ hi)).2 z hzl
                · have e := List.mem_singleton.mp q
                  refine (hk k (by simp)).2 z ?_
                  rw [e]
                  cases k with
                  | mk as a =>
                    rw [places]
                    simp [Kd.a]
            · rw [if_neg h4] at ht
              cases ht
    · rw [if_neg h2]
      refine h.put ?_ ?_
      · show ordL [] + _ ≤ 4
        have := h.n
        rw [List.length_append] at this
        have e : [row].length = 1 := rfl
        rw [ordL]
        omega
      · intro z hz
        rw [places, placesL] at hz
        rw [List.mem_singleton.mp hz]
        exact hs
theorem RInv.split {rows : Rows} {w : Bool} {n : Nat} (h : RInv rows w n) : ∃ pre row, rows = pre ++ [row] ∧ rows.dropLast = pre ∧ rows.getLastD [] = row := by
  obtain ⟨pre, row, e⟩ := (List.eq_nil_or_concat rows).resolve_left h.ne
  rw [List.concat_eq_append] at e
  refine ⟨pre, row, e, ?_, ?_⟩
  · rw [e, List.dropLast_concat]
  · rw [e, List.getLastD_eq_getLast?]
    simp
end KP
/-! KP7: the loops over the signs of a text, by data. -/
namespace KP
open PySem L2 FP
variable [FP.Tabl]
theorem ne_str {a b : Str} {Q : D → Prop} (q : Q (.bl (!decide (a = b)))) : rdNe (.str a) (.str b) Q := q
theorem in_letters {c : Nat} {Q : D → Prop} (q : Q (.bl (isL c))) : rdIn (.str ⟨#[c]⟩) (.str "abcdefghijklmnopqrstuvwxyz") Q := q
theorem notin_par {c : Nat} {Q : D → Prop} (q : Q (.bl (!decide (c ∈ parL)))) : rdNotIn (.str ⟨#[c]⟩) (.str "()") Q := q
abbrev dWord : DTT := dAnd (dB (dOp rdNe (dSl (dVar 0) (dOSome (dOp rdAdd (dVar 2) (dVar 3))) (dOSome (dOp rdAdd (dOp rdAdd (dVar 2) (dVar 3)) (dC (.int 1))))) (dC (.str "")))) (dB (dOp rdIn (dOp rdIx (dVar 0) (dOp rdAdd (dVar 2) (dVar 3))) (dC (.str "abcdefghijklmnopqrstuvwxyz"))))
theorem word_loop {N : Nd} {z : Str} {pre r : List Nat} {c : Nat} {o : Sl} (hz : okStr z) (h : z.cps.toList = pre ++ c :: r) (hn : N.nx [Sl.d (.str z), o, Sl.d (.int (pre.length : Int)), Sl.d (.int (1 + ((r.takeWhile isL).length : Int)))]) :
    dWhile dWord (dSet 3 (dOp rdAdd (dVar 3) (dC (.int 1)))) N [Sl.d (.str z), o, Sl.d (.int (pre.length : Int)), Sl.d (.int 1)] := by
  refine ⟨fun m ρ => ∃ k : Nat, k ≤ (r.takeWhile isL).length ∧ m = (r.takeWhile isL).length - k ∧ ρ = [Sl.d (.str z), o, Sl.d (.int (pre.length : Int)), Sl.d (.int (1 + (k : Int)))], ⟨_, 0, Nat.zero_le _, rfl, rfl⟩, ?_⟩
  rintro m ρ ⟨k, hk, rfl, rfl⟩
  have hp : z.cps.toList = (pre ++ c :: r.take k) ++ r.drop k := by
    rw [h, List.append_assoc, List.cons_append, List.take_append_drop]
  have hkr : k ≤ r.length := Nat.le_trans hk (List.takeWhile_sublist isL).length_le
  have hl : ((pre ++ c :: r.take k).length : Int) = (pre.length : Int) + (1 + (k : Int)) := by
    rw [List.length_append, List.length_cons, List.length_take]
    omega
  have e : cutS z (some ((pre.length : Int) + (1 + (k : Int)))) (some ((pre.length : Int) + (1 + (k : Int)) + 1)) = ⟨((r.drop k).take 1).toArray⟩ := cut_mid (k := 1) hp hl.symm (by rw [hl]; rfl)
  refine ⟨len_ok hz, ne_str ?_⟩
  rw [e]
  by_cases hlt : k < (r.takeWhile isL).length
  · obtain ⟨c', r', hd, hc⟩ := word_go hlt
    rw [hd, decide_eq_false (by intro q; have := str_eq.mp q; cases this)]
    refine ⟨c', len_ok hz, at_mid (pre := pre ++ c :: r.take k) (rest := r') (by rw [hp, hd]) hl.symm, in_letters ?_⟩
    rw [hc]
    refine ⟨_, ?_, k + 1, hlt, rfl, ?_⟩
    · omega
    · show [Sl.d (.str z), o, Sl.d (.int (pre.length : Int)), Sl.d (.int (1 + (k : Int) + 1))] = _
      rw [show (1 : Int) + (k : Int) + 1 = 1 + ((k + 1 : Nat) : Int) by omega]
  · have ek : k = (r.takeWhile isL).length := by omega
    have hd : r.drop k = r.dropWhile isL := by rw [ek]; exact word_end
    rw [← ek] at hn
    cases q : r.dropWhile isL with
    | nil =>
      rw [hd, q, decide_eq_true (show (⟨(([] : List Nat).take 1).toArray⟩ : Str) = "" from rfl)]
      exact hn
    | cons c' r' =>
      rw [hd, q, decide_eq_false (by intro q; have := str_eq.mp q; cases this)]
      refine ⟨c', len_ok hz, at_mid (pre := pre ++ c :: r.take k) (rest := r') (by rw [hp, hd, q]) hl.symm, in_letters ?_⟩
      rw [dropWhile_head q]
      exact hn
/-- between the signs -/
def LI (z : Str) (m : Nat) (ρ : FP.Env) : Prop := ∃ (pre rest : List Nat) (found : List Str) (o : Sl), z.cps.toList = pre ++ rest ∧ m = rest.length ∧ ρ = [Sl.d (.str z), Sl.own (found.map .str), Sl.d (.int (pre.length : Int)), o] ∧ Lex z found rest ∧ found.length ≤ pre.length
theorem LI.start (z : Str) (o : Sl) : LI z z.cps.toList.length [Sl.d (.str z), Sl.own [], Sl.d (.int 0), o] := ⟨[], _, [], o, rfl, rfl, rfl, Lex.start z, Nat.le_refl _⟩
theorem lex_tail {z : Str} {pre rest : List Nat} {found : List Str} {k : Nat} {size : Int} (hz : okStr z) (h : z.cps.toList = pre ++ rest) (hx : Lex z (found ++ [⟨(rest.take k).toArray⟩]) (rest.drop k)) (hk : 0 < k) (hk2 : k ≤ rest.length) (hn : found.length ≤ pre.length) (hs : size = (k : Int)) :
    z.length ≤ sizeLine ∧ (found.map D.str).length < sizeLine ∧ ∃ m', m' < rest.length ∧ LI z m' [Sl.d (.str z), Sl.own (found.map .str ++ [.str (cutS z (some (pre.length : Int)) (some ((pre.length : Int) + size)))]), Sl.d (.int ((pre.length : Int) + size)), Sl.d (.int size)] := by
  have hzl : z.length = pre.length + rest.length := by rw [str_len, h, List.length_append]
  have hz1 := hz.1
  refine ⟨len_ok hz, ?_, (rest.drop k).length, ?_, pre ++ rest.take k, rest.drop k, _, Sl.d (.int size), ?_, rfl, ?_, hx, ?_⟩
  · rw [List.length_map]
    exact Nat.lt_of_le_of_lt (show found.length ≤ 1000 by omega) (by decide)
  · rw [List.length_drop]
    omega
  · rw [List.append_assoc, List.take_append_drop]
    exact h
  · rw [cut_mid h rfl (by rw [hs]), List.map_append, hs, List.length_append, List.length_take]
    have e : ((pre.length + min k rest.length : Nat) : Int) = (pre.length : Int) + (k : Int) := by omega
    rw [e]
    rfl
  · rw [List.length_append, List.length_append, List.length_take]
    have e : [(⟨(rest.take k).toArray⟩ : Str)].length = 1 := rfl
    omega
theorem take_tw : ∀ {r : List Nat}, r.take (r.takeWhile isL).length = r.takeWhile isL
  | [] => rfl
  | x :: r => by
    rw [List.takeWhile_cons]
    cases isL x with
    | true =>
      rw [if_pos rfl, List.length_cons, List.take_succ_cons, take_tw]
    | false =>
      rw [if_neg Bool.false_ne_true]
      rfl
theorem take_word {c : Nat} {r : List Nat} : (c :: r).take (1 + (r.takeWhile isL).length) = c :: r.takeWhile isL ∧ (c :: r).drop (1 + (r.takeWhile isL).length) = r.dropWhile isL := by
  rw [Nat.add_comm, List.take_succ_cons, List.drop_succ_cons]
  refine ⟨?_, word_end⟩
  congr 1
  exact take_tw
/-- the loop over the signs for a reader -/
abbrev dTake : DTS := dIfX (dNotX (dBX (dxMeth 2 "KindReader" "take" 1 f_take (dCons (dVar 3) dNil)))) (dRet (dC .non)) dNext
theorem read_loop {N : Nd} {t l : Sl} {Q : D → Prop} (hrt : ∀ ρ, Q .non → N.rt .non ρ) (hnx : ∀ (as : List Addr) (rows : Rows) (w : Bool) (o : Sl), (w = false → ∀ row, rows = [row] → row ≠ []) → Q (kdD (resultS rows w)) → N.nx [t, l, Sl.ow "KindReader" as (roF rows w), o]) :
    ∀ (ss : List Str) (rows : Rows) (w : Bool) (as : List Addr) (o : Sl), (∀ s ∈ ss, okStr s) → RInv rows w ss.length → Q (kdD (readS ss rows w)) → forD (.one 3) dTake N (ss.map .str) [t, l, Sl.ow "KindReader" as (roF rows w), o]
  | [], rows, w, as, o, _, hi, hq => hnx as rows w o (fun hw row hr => hi.last hw row (by rw [hr]; rfl)) hq
  | s :: r, rows, w, as, o, hs, hi, hq => by
    obtain ⟨pre, row, e, e1, e2⟩ := hi.split
    subst e
    have hos := hs s List.mem_cons_self
    have et : takeR (pre ++ [row]) w s = take1 pre row w s := by
      unfold takeR
      rw [e1, e2]
    rw [readS, et] at hq
    refine ⟨[t, l, Sl.ow "KindReader" as (roF (pre ++ [row]) w), Sl.d (.str s)], rfl, ?_⟩
    refine ⟨rfl, rf_take _ _, rfl, pre, row, w, rfl, hi.okR, hos, fun as' ha => ?_⟩
    show bit (!(take1 pre row w s).1) _ _
    cases ht : (take1 pre row w s).1 with
    | false =>
      rw [ht, if_neg Bool.false_ne_true] at hq
      exact hrt _ hq
    | true =>
      rw [ht, if_pos rfl] at hq
      exact read_loop hrt hnx r _ _ as' _ (fun x hx => hs x (List.mem_cons_of_mem _ hx)) (hi.take ((strOk_iff s).mpr hos.2) ht) hq
theorem wordish_in (s : Str) {Q : D → Prop} (q : Q (.bl (wordish s))) : rdNotIn (.str s) (.tup [.str "(", .str ")", .str " -> "]) Q := by
  have e : inD (.str s) (.tup [.str "(", .str ")", .str " -> "]) = some (decide (s ∈ (["(", ")", " -> "] : List Str))) := by
    show (if flatV (.str s) = true ∧ ((["(", ")", " -> "] : List Str).map V.str).all flatV = true then some (inV (.str s) ((["(", ")", " -> "] : List Str).map V.str)) else none) = _
    rw [if_pos ⟨rfl, flat_strs _⟩, inV_strs]
  unfold rdNotIn
  rw [e]
  unfold wordish at q
  rw [decide_not] at q
  exact q
theorem filter_len (ss : List Str) : (ss.filterMap fun s => if wordish s = true then some (D.str s) else none).length = (ss.filter wordish).length := by
  induction ss with
  | nil => rfl
  | cons s r ih =>
    rw [List.filterMap_cons, List.filter_cons]
    cases wordish s with
    | true => simp [ih]
    | false => simp [ih]
end KP
/-! KP8: what is told of plain kinds; what is read. -/
namespace KP
open PySem L2 FP
variable [FP.Tabl]
theorem tupL {xs : List D} {Q : D → Prop} (q : Q (.tup xs)) : rdTuple [.lst xs] Q := q
/-- what is told of a plain kind, by depth -/
def f_plainK (g : Kd → D) (d : Nat) : List D → M D := fun ds Q _ => match ds with
  | [x] => ∃ k, x = plain k ∧ Good k ∧ ord k < d ∧ Q (g k)
  | _ => False
theorem nope_plainK (g : Kd → D) (ds : List D) (Q : D → Prop) (E : XD → Prop) (h : f_plainK g 0 ds Q E) : False := by
  unfold f_plainK at h
  split at h
  · obtain ⟨_, _, _, h, _⟩ := h
    omega
  · exact h
def d_places (k : Kd) : D := .lst ((places k).map .str)
def totD : Option Kd → D
  | none => .non
  | some k => typeD k
/-- a drawn plain kind -/
def f_kind (d : Nat) : List D → M D := fun ds Q _ => match ds with
  | [.tok, .lst xs, .int o, .int m] => ∃ zs : List Str, xs = zs.map .str ∧ (0 < zs.length ∧ zs.length < 1000) ∧ (∀ z ∈ zs, isWordS z = true) ∧ (0 ≤ o ∧ o ≤ 4 ∧ o < d) ∧ (1 ≤ m ∧ m ≤ 15) ∧ ∀ k, (ord k : Int) ≤ o → ((places k).length : Int) ≤ m → (∀ z ∈ places k, z ∈ zs) → Q (plain k)
  | _ => False
theorem nope_kind (ds : List D) (Q : D → Prop) (E : XD → Prop) (h : f_kind 0 ds Q E) : False := by
  unfold f_kind at h
  split at h
  · obtain ⟨_, _, _, _, h, _⟩ := h
    omega
  · exact h
end KP
/-! KP9: readings of kinds; facts of parts and signed atoms. -/
namespace KP
open PySem L2 FP
variable [FP.Tabl]
/-! ### shaped data -/
theorem sh_str {n : Nat} {z : Str} (h : PyData.strOk z = true) : shD n (.str z) = true := by rw [shD]; exact h
theorem sh_tup {n : Nat} {xs : List D} (h : shDs n xs = true) : shD (n + 1) (.tup xs) = true := by rw [shD]; exact h
theorem sh_nil {n : Nat} : shDs n [] = true := by rw [shDs]
theorem sh_cons {n : Nat} {x : D} {xs : List D} (h : shD n x = true) (h' : shDs n xs = true) : shDs n (x :: xs) = true := by
  rw [shDs, h, h']
  rfl
/-! ### parts, signed atoms -/
mutual
theorem signed_mem : ∀ (k : Kd) (b : Bool) (z : Str), z ∈ signed k b ∨ z ∈ signed k (!b) ↔ z ∈ places k
  | .mk as a, b, z => by
    have h := signedL_mem as (!b) z
    rw [signed, signed, places, Bool.not_not]
    rw [Bool.not_not] at h
    simp only [List.mem_append, List.mem_singleton]
    rw [← h]
    cases b with
    | true =>
      simp only [Bool.not_true, if_true, Bool.false_eq_true, if_false, List.mem_singleton, List.not_mem_nil]
      constructor
      · rintro ((h | h) | (h | h))
        · exact .inr h
        · exact .inl (.inl h)
        · exact h.elim
        · exact .inl (.inr h)
      · rintro ((h | h) | h)
        · exact .inl (.inr h)
        · exact .inr (.inr h)
        · exact .inl (.inl h)
    | false =>
      simp only [Bool.not_false, if_true, Bool.false_eq_true, if_false, List.mem_singleton, List.not_mem_nil]
      constructor
      · rintro ((h | h) | (h | h))
        · exact h.elim
        · exact .inl (.inl h)
        · exact .inr h
        · exact .inl (.inr h)
      · rintro ((h | h) | h)
        · exact .inl (.inr h)
        · exact .inr (.inr h)
        · exact .inr (.inl h)
theorem signedL_mem : ∀ (ks : List Kd) (b : Bool) (z : Str), z ∈ signedL ks b ∨ z ∈ signedL ks (!b) ↔ z ∈ placesL ks
  | [], b, z => by simp [signedL, placesL]
  | k :: r, b, z => by
    have h1 := signed_mem k b z
    have h2 := signedL_mem r b z
    rw [signedL, signedL, placesL]
    simp only [List.mem_append]
    rw [← h1, ← h2]
    constructor
    · rintro ((h | h) | (h | h))
      · exact .inl (.inl h)
      · exact .inr (.inl h)
      · exact .inl (.inr h)
      · exact .inr (.inr h)
    · rintro ((h | h) | (h | h))
      · exact .inl (.inl h)
      · exact .inr (.inl h)
      · exact .inl (.inr h)
      · exact .inr (.inr h)
end
theorem atoms_places (k : Kd) : sortU (signed k true ++ signed k false) = sortU (places k) := sortU_congr fun z => by
  rw [List.mem_append]
  exact signed_mem k true z
def f_law : List D → M D := fun ds Q _ => match ds with
  | [.fz xs] => (∃ ns : List Int, xs = ns.map D.int ∧ ns.length ≤ 63) ∧ Q (.bl true)
  | _ => False
end KP
/-! KP10: parts of parts; readings of rows of texts. -/
namespace KP
open PySem L2 FP
variable [FP.Tabl]
theorem eq_int {a b : Int} {Q : D → Prop} (q : Q (.bl (decide (a = b)))) : rdEq (.int a) (.int b) Q := q
end KP
/-! KP11: kinds changed: one kind in the place of an atom, other atoms; what is too large. -/
namespace KP
open PySem L2 FP
variable [FP.Tabl]
/-! ### a kind in the place of an atom -/
mutual
def put (z : Str) (j : Kd) : Kd → Kd
  | .mk as a => if a = z then .mk (putL z j as ++ j.as) j.a else .mk (putL z j as) a
def putL (z : Str) (j : Kd) : List Kd → List Kd
  | [] => []
  | k :: r => put z j k :: putL z j r
end
/-! ### other atoms -/
/-! ### sizes -/
theorem ordL_app : ∀ xs ys : List Kd, ordL (xs ++ ys) = max (ordL xs) (ordL ys)
  | [], ys => by rw [List.nil_append, ordL]; omega
  | x :: xs, ys => by
    rw [List.cons_append, ordL, ordL, ordL_app xs ys]
    omega
/-! ### what is made, or is too large -/
abbrev tooX : XD := ⟨"InvalidType", []⟩
def f_initX : List D → ((List (Str × D)) → Prop) → (XD → Prop) → Prop := fun ds Q Ex => match ds with
  | [.tup xs, .str a] => ∃ ks : List Kd, xs = ks.map typeD ∧ (∀ k ∈ ks, Good k) ∧ ks.length ≤ 60 ∧ isWordS a = true ∧ (Good (.mk ks a) → Q (flds (.mk ks a))) ∧ (¬ Good (.mk ks a) → Ex tooX)
  | _ => False
/-! ### the law's own helpers -/
/-- a kind that may be too large -/
structure Mid (k : Kd) : Prop where
  w : ∀ z ∈ places k, isWordS z = true
  p : (places k).length ≤ 300
theorem Mid.kid {as : List Kd} {a : Str} (g : Mid (.mk as a)) {k : Kd} (h : k ∈ as) : Mid k := by
  refine ⟨fun z hz => g.w z ?_, ?_⟩
  · rw [places]
    exact List.mem_append_left _ (placesL_mem hz h)
  · have h1 := g.p
    rw [places, List.length_append] at h1
    have := placesL_len h
    omega
theorem Mid.few {as : List Kd} {a : Str} (g : Mid (.mk as a)) : (placesL as).length ≤ 299 ∧ as.length ≤ 299 := by
  have h1 := g.p
  rw [places, List.length_append] at h1
  have h1 : (placesL as).length + 1 ≤ 300 := h1
  have := length_placesL as
  omega
theorem not_good {ks : List Kd} {a : Str} (hw : ∀ k ∈ ks, Good k) (ha : isWordS a = true) (h : ¬ Good (.mk ks a)) : 15 < (places (.mk ks a)).length ∨ 4 < ord (.mk ks a) := by
  by_cases h1 : (places (.mk ks a)).length ≤ 15
  · by_cases h2 : ord (.mk ks a) ≤ 4
    · refine absurd ⟨fun z hz => ?_, h1, h2⟩ h
      rw [places, placesL_map] at hz
      rcases List.mem_append.mp hz with q | q
      · obtain ⟨zs, hzs, q⟩ := List.mem_flatten.mp q
        obtain ⟨k, hk, rfl⟩ := List.mem_map.mp hzs
        exact (hw k hk).w z q
      · rw [List.mem_singleton.mp q]
        exact ha
    · exact .inr (by omega)
  · exact .inl (by omega)
theorem placesL_cap : ∀ {ks : List Kd}, (∀ k ∈ ks, Good k) → (placesL ks).length ≤ 15 * ks.length
  | [], _ => Nat.zero_le _
  | k :: r, h => by
    have h1 := (h k List.mem_cons_self).p
    have h2 := placesL_cap fun j hj => h j (List.mem_cons_of_mem _ hj)
    rw [placesL, List.length_append, List.length_cons]
    omega
theorem cut_from (xs : List D) {n : Int} (h0 : 0 ≤ n) (h1 : n ≤ xs.length) : cutD xs (some n) none = xs.drop n.toNat := by
  unfold cutD
  have e1 : HT.sIx xs.length 0 (some n) = n.toNat := by
    show (if n < 0 then (n + (xs.length : Int)).toNat else min n.toNat xs.length) = _
    rw [if_neg (by omega)]
    omega
  have e2 : HT.sIx xs.length xs.length none = xs.length := rfl
  rw [e1, e2]
  exact List.take_of_length_le (by rw [List.length_drop]; exact Nat.le_refl _)
theorem Good.drop {as : List Kd} {a : Str} (g : Good (.mk as a)) (n : Nat) : Good (.mk (as.drop n) a) := by
  have e := List.take_append_drop n as
  have h1 : placesL as = placesL (as.take n) ++ placesL (as.drop n) := by rw [← placesL_app, e]
  have h2 : ordL as = max (ordL (as.take n)) (ordL (as.drop n)) := by rw [← ordL_app, e]
  refine ⟨fun z hz => g.w z ?_, ?_, ?_⟩
  · rw [places] at hz ⊢
    rcases List.mem_append.mp hz with q | q
    · exact List.mem_append_left _ (by rw [h1]; exact List.mem_append_right _ q)
    · exact List.mem_append_right _ q
  · have := g.p
    rw [places, List.length_append, h1, List.length_append] at this
    rw [places, List.length_append]
    omega
  · have := g.o
    rw [ord, h2] at this
    rw [ord]
    omega
theorem kit_dd : kitB "dict" "dict" = some true := by decide +kernel
theorem lenD {kvs : List (Key × D)} {Q : D → Prop} (q : Q (.int kvs.length)) : rdLen [.dct kvs] Q := q
end KP
/-! KP12: readings of operators and methods of kinds; drawn dicts. -/
namespace KP
open PySem L2 FP
variable [FP.Tabl]
theorem putKD_new (acc : List (Key × D)) {kk : Key} {v : D} (h : ∀ p ∈ acc, p.1 ≠ kk) : putKD acc kk v = acc ++ [(kk, v)] := by
  unfold putKD
  rw [if_neg]
  intro q
  obtain ⟨p, hp, e⟩ := List.any_eq_true.mp q
  exact h p hp (of_decide_eq_true e)
theorem merge_new : ∀ (more acc : List (Key × D)), ((acc ++ more).map (·.1)).Nodup → mergeD acc more = acc ++ more
  | [], acc, _ => by
    rw [List.append_nil]
    rfl
  | (kk, v) :: more, acc, h => by
    have e : mergeD acc ((kk, v) :: more) = mergeD (putKD acc kk v) more := rfl
    rw [e, putKD_new acc, merge_new more (acc ++ [(kk, v)])]
    · rw [List.append_assoc]
      rfl
    · rw [List.append_assoc]
      exact h
    · intro p hp q
      rw [List.map_append, List.nodup_append] at h
      exact h.2.2 p.1 (List.mem_map.mpr ⟨p, hp, rfl⟩) kk (by rw [List.map_cons]; exact List.mem_cons_self) q
end KP
/-! KP13: the text of a kind is read as this kind. -/
namespace KP
open PySem L2 FP
variable [FP.Tabl]
/-! ### the signs of a kind -/
mutual
def sigs : Kd → List Str
  | .mk as a => sigsL as ++ [a]
def sigsL : List Kd → List Str
  | [] => []
  | k :: r => (if k.as.isEmpty then sigs k else ("(" : Str) :: (sigs k ++ [(")" : Str)])) ++ ((" -> " : Str) :: sigsL r)
end
theorem word_ne {s : Str} (h : isWordS s = true) : s ≠ "(" ∧ s ≠ ")" ∧ s ≠ " -> " := by
  refine ⟨?_, ?_, ?_⟩ <;> (intro e; subst e; revert h; decide +kernel)
theorem read_word {s : Str} (h : isWordS s = true) (rest : List Str) (pre : Rows) (row : List Kd) : readS (s :: rest) (pre ++ [row]) true = readS rest (pre ++ [row ++ [.mk [] s]]) false := by
  obtain ⟨h1, h2, h3⟩ := word_ne h
  have e : takeR (pre ++ [row]) true s = (true, pre ++ [row ++ [.mk [] s]], false) := by
    unfold takeR take1
    rw [if_neg h1, if_neg (by rintro (q | q); exact h3 q; exact h2 q), List.dropLast_concat, List.getLastD_concat, h]
    rfl
  rw [readS, e]
  rfl
theorem read_arrow (rest : List Str) (pre : Rows) (row : List Kd) : readS ((" -> " : Str) :: rest) (pre ++ [row]) false = readS rest (pre ++ [row]) true := by
  have e : takeR (pre ++ [row]) false " -> " = (true, pre ++ [row], true) := by
    unfold takeR take1
    rw [if_neg (by decide +kernel), if_pos (.inl rfl), List.dropLast_concat, List.getLastD_concat]
    unfold takeEnd
    rw [if_neg (by decide), if_pos rfl]
  rw [readS, e]
  rfl
theorem read_open {pre : Rows} (hp : pre.length + 2 ≤ 5) (rest : List Str) (row : List Kd) : readS (("(" : Str) :: rest) (pre ++ [row]) true = readS rest (pre ++ [row] ++ [[]]) true := by
  have e : takeR (pre ++ [row]) true "(" = (true, pre ++ [row] ++ [[]], true) := by
    unfold takeR take1
    rw [if_pos rfl, List.dropLast_concat, List.getLastD_concat, decide_eq_true hp]
    rfl
  rw [readS, e]
  rfl
theorem read_close (rest : List Str) (pre : Rows) (row as : List Kd) (a : Str) (h : as ≠ []) : readS ((")" : Str) :: rest) (pre ++ [row] ++ [as ++ [.mk [] a]]) false = readS rest (pre ++ [row ++ [.mk as a]]) false := by
  have hl : 2 ≤ (as ++ [Kd.mk [] a]).length := by
    cases as with
    | nil => exact absurd rfl h
    | cons x r =>
      rw [List.length_append]
      show 2 ≤ r.length + 1 + 1
      omega
  have e : takeR (pre ++ [row] ++ [as ++ [.mk [] a]]) false ")" = (true, pre ++ [row ++ [.mk as a]], false) := by
    unfold takeR take1
    rw [if_neg (by decide +kernel), if_pos (.inr rfl), List.dropLast_concat, List.getLastD_concat]
    unfold takeEnd
    rw [if_neg (by decide), if_neg (by decide +kernel), List.getLast?_concat, List.getLast?_concat]
    dsimp only
    rw [if_pos ⟨hl, rfl⟩, List.dropLast_concat, List.dropLast_concat]
    rfl
  rw [readS, e]
  rfl
mutual
theorem read_sigs : ∀ (k : Kd) (rest : List Str) (pre : Rows) (row : List Kd), (∀ z ∈ places k, isWordS z = true) → pre.length + ord k ≤ 4 → readS (sigs k ++ rest) (pre ++ [row]) true = readS rest (pre ++ [row ++ (k.as ++ [.mk [] k.a])]) false
  | .mk as a, rest, pre, row, hw, ho => by
    have h1 := read_sigsL as (a :: rest) pre row (fun z hz => hw z (by rw [places]; exact List.mem_append_left _ hz)) (by rw [ord] at ho; exact ho)
    rw [sigs, List.append_assoc]
    show readS (sigsL as ++ (a :: rest)) _ _ = _
    rw [h1, read_word (hw a (by rw [places]; simp))]
    rw [List.append_assoc]
    rfl
theorem read_sigsL : ∀ (ks : List Kd) (rest : List Str) (pre : Rows) (row : List Kd), (∀ z ∈ placesL ks, isWordS z = true) → pre.length + ordL ks ≤ 4 → readS (sigsL ks ++ rest) (pre ++ [row]) true = readS rest (pre ++ [row ++ ks]) true
  | [], rest, pre, row, _, _ => by
    rw [sigsL, List.append_nil]
    rfl
  | k :: r, rest, pre, row, hw, ho => by
    have hwk : ∀ z ∈ places k, isWordS z = true := fun z hz => hw z (by rw [placesL]; exact List.mem_append_left _ hz)
    have hwr : ∀ z ∈ placesL r, isWordS z = true := fun z hz => hw z (by rw [placesL]; exact List.mem_append_right _ hz)
    rw [ordL] at ho
    have ih := read_sigsL r rest pre (row ++ [k]) hwr (by omega)
    have e2 : row ++ [k] ++ r = row ++ k :: r := by rw [List.append_assoc]; rfl
    rw [e2] at ih
    rw [sigsL]
    split
    · rename_i hk
      rw [List.append_assoc, read_sigs k _ pre row hwk (by omega)]
      have ek : k.as = [] := List.isEmpty_iff.mp hk
      show readS ((" -> " : Str) :: (sigsL r ++ rest)) _ _ = _
      rw [read_arrow, ek, List.nil_append]
      have e3 : (Kd.mk [] k.a) = k := by
        cases k with
        | mk as a =>
          have ea : as = [] := ek
          rw [ea]
          rfl
      rw [e3]
      exact ih
    · rename_i hk
      have ek : k.as ≠ [] := fun q => hk (List.isEmpty_iff.mpr q)
      have hd : 1 ≤ ord k := by
        cases k with
        | mk as a =>
          cases as with
          | nil => exact absurd rfl ek
          | cons x xs =>
            rw [ord, ordL]
            omega
      show readS (("(" : Str) :: ((sigs k ++ [(")" : Str)]) ++ ((" -> " : Str) :: sigsL r) ++ rest)) _ _ = _
      rw [read_open (by omega)]
      have e4 : (sigs k ++ [(")" : Str)]) ++ ((" -> " : Str) :: sigsL r) ++ rest = sigs k ++ ((")" : Str) :: (" -> " : Str) :: (sigsL r ++ rest)) := by simp [List.append_assoc]
      rw [e4, read_sigs k _ (pre ++ [row]) [] hwk (by rw [List.length_append]; show pre.length + 1 + ord k ≤ 4; omega), List.nil_append, read_close _ _ _ _ _ ek, read_arrow]
      have e3 : (Kd.mk k.as k.a) = k := by cases k; rfl
      rw [e3]
      exact ih
end
theorem read_kind {k : Kd} (g : Good k) : readS (sigs k) [[]] true = some k := by
  have h := read_sigs k [] [] [] g.w (by show 0 + ord k ≤ 4; have := g.o; omega)
  rw [List.append_nil] at h
  refine (show readS (sigs k) ([] ++ [[]]) true = _ from h).trans ?_
  show resultS [[] ++ (k.as ++ [Kd.mk [] k.a])] false = some k
  rw [List.nil_append]
  unfold resultS
  rw [if_neg Bool.false_ne_true]
  dsimp only
  rw [List.getLast?_concat]
  dsimp only
  rw [if_pos (show (Kd.mk [] k.a).as = [] from rfl), List.dropLast_concat]
  cases k
  rfl
end KP
/-! KP14: the text of a kind is its signs. -/
namespace KP
open PySem L2 FP
variable [FP.Tabl]
def flat (ss : List Str) : List Nat := (ss.map fun s => s.cps.toList).flatten
theorem flat_app (xs ys : List Str) : flat (xs ++ ys) = flat xs ++ flat ys := by
  unfold flat
  rw [List.map_append, List.flatten_append]
theorem flat_one (s : Str) : flat [s] = s.cps.toList := by
  unfold flat
  simp
theorem flat_cons (s : Str) (ss : List Str) : flat (s :: ss) = s.cps.toList ++ flat ss := by
  unfold flat
  simp
theorem cps_app (a b : Str) : (a ++ b).cps.toList = a.cps.toList ++ b.cps.toList := by
  show (a.cps ++ b.cps).toList = _
  rw [Array.toList_append]
/-- a sign that is no word -/
def isSg (s : Str) : Prop := s = "(" ∨ s = ")" ∨ s = " -> "
/-- words and signs, no two words as neighbours -/
def Sep : List Str → Prop
  | [] => True
  | [s] => isWordS s = true ∨ isSg s
  | s :: t :: r => ((isWordS s = true ∧ isSg t) ∨ isSg s) ∧ Sep (t :: r)
theorem sg_head {s : Str} (h : isSg s) : ∃ c r, s.cps.toList = c :: r ∧ isL c = false := by
  rcases h with rfl | rfl | rfl
  · exact ⟨40, [], by decide +kernel, by decide +kernel⟩
  · exact ⟨41, [], by decide +kernel, by decide +kernel⟩
  · exact ⟨32, [45, 62, 32], by decide +kernel, by decide +kernel⟩
theorem take_letters : ∀ (cs rest : List Nat), (∀ c ∈ cs, isL c = true) → (∀ c r, rest = c :: r → isL c = false) → (cs ++ rest).takeWhile isL = cs ∧ (cs ++ rest).dropWhile isL = rest
  | [], rest, _, h => by
    cases rest with
    | nil => exact ⟨rfl, rfl⟩
    | cons c r =>
      have hc := h c r rfl
      simp [List.takeWhile_cons, List.dropWhile_cons, hc]
  | c :: cs, rest, hl, h => by
    obtain ⟨h1, h2⟩ := take_letters cs rest (fun x hx => hl x (List.mem_cons_of_mem _ hx)) h
    have hc := hl c List.mem_cons_self
    simp [List.takeWhile_cons, List.dropWhile_cons, hc, h1, h2]
theorem lex_flat : ∀ (ss : List Str), Sep ss → ∀ n, (flat ss).length ≤ n → lexO n (flat ss) = some ss
  | [], _, n, _ => lexO_nil n
  | s :: r, hs, n, hn => by
    have hr : Sep r := by
      cases r with
      | nil => trivial
      | cons t r => exact hs.2
    have hsw : isWordS s = true ∨ isSg s := by
      cases r with
      | nil => exact hs
      | cons t r =>
        rcases hs.1 with q | q
        · exact .inl q.1
        · exact .inr q
    rw [flat_cons] at hn ⊢
    rcases hsw with hw | hg
    · have hw1 := (word_len hw).1
      have hwl := word_letters hw
      have hlen : s.length = s.cps.toList.length := by
        show s.cps.size = _
        rw [Array.length_toList]
      cases hc : s.cps.toList with
      | nil =>
        rw [hlen, hc] at hw1
        cases hw1
      | cons c cs =>
        rw [hc] at hn hwl
        cases n with
        | zero => simp at hn
        | succ n =>
          have hrest : ∀ x y, flat r = x :: y → isL x = false := fun x y e => by
            cases r with
            | nil => cases e
            | cons t r =>
              have ht : isSg t := by
                rcases hs.1 with q | q
                · exact q.2
                · exfalso
                  obtain ⟨h1, h2, h3⟩ := word_ne hw
                  rcases q with q | q | q
                  · exact h1 q
                  · exact h2 q
                  · exact h3 q
              obtain ⟨d, ds, e1, e2⟩ := sg_head ht
              rw [flat_cons, e1] at e
              cases e
              exact e2
          obtain ⟨t1, t2⟩ := take_letters cs (flat r) (fun x hx => decide_eq_true (hwl x (List.mem_cons_of_mem _ hx))) hrest
          have hcl : isL c = true := decide_eq_true (hwl c List.mem_cons_self)
          rw [List.cons_append, lexO, if_pos hcl, t1, t2, lex_flat r hr n (by simp at hn; omega)]
          show some ((⟨(c :: cs).toArray⟩ : Str) :: r) = some (s :: r)
          rw [← hc]
    · have fin : ∀ m, (flat r).length ≤ m → lexO m (flat r) = some r := fun m hm => lex_flat r hr m hm
      cases n with
      | zero =>
        obtain ⟨d, ds, e1, _⟩ := sg_head hg
        rw [e1] at hn
        simp at hn
      | succ n =>
        rcases hg with rfl | rfl | rfl
        · have e : ("(" : Str).cps.toList = [40] := by decide +kernel
          rw [e] at hn ⊢
          rw [List.cons_append, List.nil_append, lexO, if_neg (by decide +kernel), if_neg (fun q => by have q2 := congrArg List.head? q; revert q2; simp [arrowL]; decide +kernel), if_pos (by decide +kernel), fin n (by simp at hn; omega)]
          rfl
        · have e : (")" : Str).cps.toList = [41] := by decide +kernel
          rw [e] at hn ⊢
          rw [List.cons_append, List.nil_append, lexO, if_neg (by decide +kernel), if_neg (fun q => by have q2 := congrArg List.head? q; revert q2; simp [arrowL]; decide +kernel), if_pos (by decide +kernel), fin n (by simp at hn; omega)]
          rfl
        · have e : (" -> " : Str).cps.toList = [32, 45, 62, 32] := by decide +kernel
          rw [e] at hn ⊢
          rw [List.cons_append, lexO, if_neg (by decide +kernel), if_pos (by unfold arrowL; rw [e]; rfl)]
          show (lexO n (flat r)).map _ = _
          rw [fin n (by simp at hn; omega)]
          rfl
theorem join_cons (x y : Str) (r : List Str) : Txt.join " -> " (x :: y :: r) = x ++ " -> " ++ Txt.join " -> " (y :: r) := by
  rw [TL.join_eq, TL.join_eq]
  rfl
theorem join_one (x : Str) : Txt.join " -> " [x] = x := by
  rw [TL.join_eq]
  rfl
theorem join_flat (a : Str) : ∀ ts : List Str, (Txt.join " -> " (ts ++ [a])).cps.toList = (ts.map fun t => t.cps.toList ++ (" -> " : Str).cps.toList).flatten ++ a.cps.toList
  | [] => by
    rw [List.nil_append, join_one]
    rfl
  | [t] => by
    show (Txt.join " -> " (t :: [a])).cps.toList = _
    rw [join_cons, join_one, cps_app, cps_app]
    simp
  | t :: u :: r => by
    have ih := join_flat a (u :: r)
    show (Txt.join " -> " (t :: u :: (r ++ [a]))).cps.toList = _
    rw [join_cons, cps_app, cps_app]
    have e : u :: (r ++ [a]) = (u :: r) ++ [a] := rfl
    rw [e, ih]
    simp [List.append_assoc]
mutual
theorem text_flat : ∀ k : Kd, (text k).cps.toList = flat (sigs k)
  | .mk as a => by
    rw [text, join_flat, sigs, flat_app, flat_one, texts_flat as]
theorem texts_flat : ∀ ks : List Kd, ((texts ks).map fun t => t.cps.toList ++ (" -> " : Str).cps.toList).flatten = flat (sigsL ks)
  | [] => rfl
  | k :: r => by
    rw [texts, sigsL, List.map_cons, List.flatten_cons, texts_flat r, flat_app, flat_cons]
    split
    · rw [text_flat k, List.append_assoc]
    · rw [cps_app, cps_app, flat_cons, flat_app, flat_one, text_flat k]
      simp [List.append_assoc]
end
/-! ### the signs of a kind stand apart -/
theorem sep_sg {s : Str} (h : isSg s) : ∀ {r : List Str}, Sep r → Sep (s :: r)
  | [], _ => .inr h
  | _ :: _, hr => ⟨.inr h, hr⟩
theorem sep_word {s t : Str} {r : List Str} (h : isWordS s = true) (ht : isSg t) (hr : Sep (t :: r)) : Sep (s :: t :: r) := ⟨.inl ⟨h, ht⟩, hr⟩
mutual
theorem sep_sigs : ∀ (k : Kd) (rest : List Str), (∀ z ∈ places k, isWordS z = true) → (rest = [] ∨ ∃ t r, rest = t :: r ∧ isSg t) → Sep rest → Sep (sigs k ++ rest)
  | .mk as a, rest, hw, h1, h2 => by
    have ha := hw a (by rw [places]; simp)
    rw [sigs, List.append_assoc]
    refine sep_sigsL as _ (fun z hz => hw z (by rw [places]; exact List.mem_append_left _ hz)) ?_
    rcases h1 with rfl | ⟨t, r, rfl, ht⟩
    · exact .inl ha
    · exact sep_word ha ht h2
theorem sep_sigsL : ∀ (ks : List Kd) (rest : List Str), (∀ z ∈ placesL ks, isWordS z = true) → Sep rest → Sep (sigsL ks ++ rest)
  | [], rest, _, h => by
    rw [sigsL]
    exact h
  | k :: r, rest, hw, h => by
    have hwk : ∀ z ∈ places k, isWordS z = true := fun z hz => hw z (by rw [placesL]; exact List.mem_append_left _ hz)
    have hwr : ∀ z ∈ placesL r, isWordS z = true := fun z hz => hw z (by rw [placesL]; exact List.mem_append_right _ hz)
    have ih : Sep ((" -> " : Str) :: (sigsL r ++ rest)) := sep_sg (.inr (.inr rfl)) (sep_sigsL r rest hwr h)
    rw [sigsL]
    split
    · rw [List.append_assoc]
      exact sep_sigs k _ hwk (.inr ⟨_, _, rfl, .inr (.inr rfl)⟩) ih
    · have e4 : ((("(" : Str) :: (sigs k ++ [(")" : Str)])) ++ ((" -> " : Str) :: sigsL r)) ++ rest = ("(" : Str) :: (sigs k ++ ((")" : Str) :: (" -> " : Str) :: (sigsL r ++ rest))) := by simp [List.append_assoc]
      rw [e4]
      exact sep_sg (.inl rfl) (sep_sigs k _ hwk (.inr ⟨_, _, rfl, .inr (.inl rfl)⟩) (sep_sg (.inr (.inl rfl)) ih))
end
theorem lex_kind {k : Kd} (hw : ∀ z ∈ places k, isWordS z = true) : lexS (text k) = some (sigs k) := by
  unfold lexS
  rw [text_flat]
  have h := sep_sigs k [] hw (.inl rfl) trivial
  rw [List.append_nil] at h
  exact lex_flat _ h _ (Nat.le_refl _)
theorem wordish_word {s : Str} (h : isWordS s = true) : wordish s = true := by
  obtain ⟨h1, h2, h3⟩ := word_ne h
  unfold wordish
  refine decide_eq_true ?_
  intro q
  simp only [List.mem_cons, List.not_mem_nil, or_false] at q
  rcases q with q | q | q
  · exact h1 q
  · exact h2 q
  · exact h3 q
theorem wordish_sg {s : Str} (h : isSg s) : wordish s = false := by
  rcases h with rfl | rfl | rfl <;> decide +kernel
mutual
theorem filter_sigs : ∀ (k : Kd), (∀ z ∈ places k, isWordS z = true) → (sigs k).filter wordish = places k
  | .mk as a, hw => by
    rw [sigs, places, List.filter_append, filter_sigsL as fun z hz => hw z (by rw [places]; exact List.mem_append_left _ hz)]
    have ha := wordish_word (hw a (by rw [places]; simp))
    simp [ha]
theorem filter_sigsL : ∀ (ks : List Kd), (∀ z ∈ placesL ks, isWordS z = true) → (sigsL ks).filter wordish = placesL ks
  | [], _ => rfl
  | k :: r, hw => by
    have hwk : ∀ z ∈ places k, isWordS z = true := fun z hz => hw z (by rw [placesL]; exact List.mem_append_left _ hz)
    have hwr : ∀ z ∈ placesL r, isWordS z = true := fun z hz => hw z (by rw [placesL]; exact List.mem_append_right _ hz)
    have w1 : wordish ("(" : Str) = false := wordish_sg (.inl rfl)
    have w2 : wordish (")" : Str) = false := wordish_sg (.inr (.inl rfl))
    have w3 : wordish (" -> " : Str) = false := wordish_sg (.inr (.inr rfl))
    rw [sigsL, placesL, ← filter_sigs k hwk, ← filter_sigsL r hwr]
    split <;> simp [List.filter_append, List.filter_cons, w1, w2, w3]
end
theorem shape_text {k : Kd} (g : Good k) : shapeS (text k) = some k := by
  unfold shapeS
  rw [lex_kind g.w]
  dsimp only
  rw [filter_sigs k g.w, if_neg (by have := g.p; omega)]
  exact read_kind g
end KP
/-! KP15: kinds grown step by step (k09). -/
namespace KP
open PySem L2 FP
variable [FP.Tabl]
theorem Kd.places_eq (i : Kd) : places i = placesL i.as ++ [i.a] := by cases i with | mk bs b => rw [places]; rfl
theorem Kd.len_eq (i : Kd) : (places i).length = (placesL i.as).length + 1 := by rw [i.places_eq, List.length_append]; rfl
theorem Kd.ord_eq (i : Kd) : ord i = ordL i.as := by cases i with | mk bs b => rw [ord]; rfl
theorem spots6 (n : Nat) : 1 ≤ (if (if (n : Int) < 6 then (n : Int) else 6) > 1 then (if (n : Int) < 6 then (n : Int) else 6) else 1) ∧ (if (if (n : Int) < 6 then (n : Int) else 6) > 1 then (if (n : Int) < 6 then (n : Int) else 6) else 1) ≤ 6 := by
  split <;> split <;> omega
end KP
/-! KP16: kinds in the place of atoms, one behind the other; names there and back. -/
namespace KP
open PySem L2 FP
/-! ### names there and back -/
end KP
/-! KP17: promises of the law k06. -/
namespace KP
open PySem L2 FP
variable [FP.Tabl]
/-- a dict from a kind's atoms to other words -/
structure Names (k : Kd) (kvs : List (Str × Str)) : Prop where
  keys : kvs.map (·.1) = sortU (signed k true ++ signed k false)
  nd : (kvs.map (·.2)).Nodup
  w : ∀ p ∈ kvs, isWordS p.2 = true
theorem Names.mem {k : Kd} {kvs : List (Str × Str)} (h : Names k kvs) {z : Str} : z ∈ kvs.map (·.1) ↔ z ∈ places k := by rw [h.keys, atoms_places, sortU_mem]
/-! ### sizes -/
end KP
namespace KP
open PySem L2 FP
end KP
/-! KP18: a text is read exactly if it is the text of a kind: both readers, with no program in sight. -/
namespace KP
open PySem L2 FP
variable [FP.Tabl]
/-! ### signs -/
theorem lexO_flat : ∀ (n : Nat) (xs : List Nat) (ss : List Str), lexO n xs = some ss → flat ss = xs
  | n, [], ss, h => by
    rw [lexO_nil] at h
    cases h
    rfl
  | 0, _ :: _, _, h => by cases h
  | n + 1, c :: r, ss, h => by
    rw [lexO] at h
    split at h
    · obtain ⟨ss', h1, rfl⟩ := Option.map_eq_some_iff.mp h
      rw [flat_cons, lexO_flat n _ ss' h1]
      show (c :: r.takeWhile isL) ++ r.dropWhile isL = c :: r
      rw [List.cons_append, List.takeWhile_append_dropWhile]
    · split at h
      · rename_i ha
        obtain ⟨ss', h1, rfl⟩ := Option.map_eq_some_iff.mp h
        rw [flat_cons, lexO_flat n _ ss' h1]
        have e := List.take_append_drop 4 (c :: r)
        rw [ha] at e
        exact e
      · split at h
        · obtain ⟨ss', h1, rfl⟩ := Option.map_eq_some_iff.mp h
          rw [flat_cons, lexO_flat n _ ss' h1]
          rfl
        · cases h
/-- the signs of a kind as an argument -/
def item (k : Kd) : List Str := if k.as.isEmpty then sigs k else ("(" : Str) :: (sigs k ++ [(")" : Str)])
theorem sigsL_cons (k : Kd) (r : List Kd) : sigsL (k :: r) = item k ++ ((" -> " : Str) :: sigsL r) := by
  rw [sigsL]
  rfl
theorem sigsL_app : ∀ xs ys : List Kd, sigsL (xs ++ ys) = sigsL xs ++ sigsL ys
  | [], ys => by rw [List.nil_append, sigsL, List.nil_append]
  | k :: r, ys => by rw [List.cons_append, sigsL_cons, sigsL_cons, sigsL_app r ys, List.append_assoc, List.cons_append]
theorem sigsL_one (k : Kd) : sigsL [k] = item k ++ [(" -> " : Str)] := by rw [sigsL_cons, sigsL]
theorem sigs_eq (k : Kd) : sigs k = sigsL k.as ++ [k.a] := by
  cases k with
  | mk as a => rw [sigs]; rfl
theorem item_plain {k : Kd} (h : k.as = []) : item k = [k.a] := by
  unfold item
  rw [h, sigs_eq, h, sigsL]
  rfl
theorem item_par {k : Kd} (h : k.as ≠ []) : item k = ("(" : Str) :: (sigs k ++ [(")" : Str)]) := by
  unfold item
  rw [if_neg fun q => h (List.isEmpty_iff.mp q)]
/-! ### the package's reader -/
def pres (pre : Rows) : List Str := (pre.map fun p => sigsL p ++ [("(" : Str)]).flatten
theorem pres_snoc (pre : Rows) (row : List Kd) : pres (pre ++ [row]) = pres pre ++ (sigsL row ++ [("(" : Str)]) := by
  unfold pres
  rw [List.map_append, List.flatten_append]
  simp
def RdOk (rows : Rows) : Prop := ∀ row ∈ rows, ∀ k ∈ row, ∀ z ∈ places k, isWordS z = true
def St (done : List Str) (pre : Rows) (row : List Kd) : Bool → Prop
  | true => done = pres pre ++ sigsL row
  | false => ∃ (r : List Kd) (k : Kd), row = r ++ [k] ∧ done = pres pre ++ (sigsL r ++ item k)
theorem RdOk.more {pre : Rows} {row : List Kd} (h : RdOk (pre ++ [row])) {k : Kd} (hk : ∀ z ∈ places k, isWordS z = true) : RdOk (pre ++ [row ++ [k]]) := fun r hr j hj => by
  rcases List.mem_append.mp hr with q | q
  · exact h r (List.mem_append_left _ q) j hj
  · rw [List.mem_singleton.mp q] at hj
    rcases List.mem_append.mp hj with q2 | q2
    · exact h row (List.mem_append_right _ (List.mem_singleton.mpr rfl)) j q2
    · rw [List.mem_singleton.mp q2]
      exact hk
theorem St.step {done : List Str} {pre : Rows} {row : List Kd} {w : Bool} {s : Str} (h : St done pre row w) (hr : RdOk (pre ++ [row])) (ht : (take1 pre row w s).1 = true) :
    ∃ (pre' : Rows) (row' : List Kd), (take1 pre row w s).2.1 = pre' ++ [row'] ∧ St (done ++ [s]) pre' row' (take1 pre row w s).2.2 ∧ RdOk (pre' ++ [row']) := by
  unfold take1 at ht ⊢
  by_cases h1 : s = "("
  · subst h1
    rw [if_pos rfl] at ht ⊢
    have hw : w = true := by
      have := Bool.and_eq_true_iff.mp ht
      exact this.1
    subst hw
    refine ⟨pre ++ [row], [], rfl, ?_, fun r hr' j hj => ?_⟩
    · show done ++ [("(" : Str)] = pres (pre ++ [row]) ++ sigsL []
      have h' : done = pres pre ++ sigsL row := h
      rw [pres_snoc, sigsL, List.append_nil, h', List.append_assoc]
    · rcases List.mem_append.mp hr' with q | q
      · exact hr r q j hj
      · rw [List.mem_singleton.mp q] at hj
        cases hj
  rw [if_neg h1] at ht ⊢
  by_cases h2 : s = " -> " ∨ s = ")"
  · rw [if_pos h2] at ht ⊢
    unfold takeEnd at ht ⊢
    cases w with
    | true => cases ht
    | false =>
      rw [if_neg Bool.false_ne_true] at ht ⊢
      obtain ⟨r, k, rfl, hd⟩ := h
      by_cases h3 : s = " -> "
      · subst h3
        rw [if_pos rfl] at ht ⊢
        refine ⟨pre, r ++ [k], rfl, ?_, hr⟩
        show done ++ [(" -> " : Str)] = pres pre ++ sigsL (r ++ [k])
        rw [hd, sigsL_app, sigsL_one]
        simp [List.append_assoc]
      · have h4 : s = ")" := h2.resolve_left h3
        subst h4
        rw [if_neg h3] at ht ⊢
        rw [List.getLast?_concat] at ht ⊢
        cases hp : pre.getLast? with
        | none =>
          rw [hp] at ht
          cases ht
        | some r0 =>
          rw [hp] at ht
          dsimp only at ht ⊢
          split at ht
          case isFalse => cases ht
          rename_i hc
          rw [if_pos hc]
          have hpre : pre = pre.dropLast ++ [r0] := by
            cases pre with
            | nil => cases hp
            | cons x xs =>
              have e := List.dropLast_concat_getLast (l := x :: xs) (List.cons_ne_nil _ _)
              rw [List.getLast?_eq_some_getLast (List.cons_ne_nil _ _)] at hp
              rw [Option.some.inj hp] at e
              exact e.symm
          generalize pre.dropLast = pp at hpre ⊢
          subst hpre
          have hrr : r ≠ [] := fun q => by
            subst q
            have := hc.1
            simp at this
          refine ⟨pp, r0 ++ [.mk (r ++ [k]).dropLast k.a], rfl, ⟨r0, .mk (r ++ [k]).dropLast k.a, rfl, ?_⟩, ?_⟩
          · rw [List.dropLast_concat, item_par (k := .mk r k.a) hrr, hd, pres_snoc, item_plain hc.2, sigs_eq]
            simp [List.append_assoc]
            rfl
          · rw [List.dropLast_concat]
            refine RdOk.more (fun q hq => hr q (List.mem_append_left _ hq)) fun z hz => ?_
            rw [places] at hz
            have hrow : ∀ j ∈ r ++ [k], ∀ z ∈ places j, isWordS z = true := hr _ (List.mem_append_right _ (List.mem_singleton.mpr rfl))
            rcases List.mem_append.mp hz with q | q
            · rw [placesL_map] at q
              obtain ⟨x, hx1, hx2⟩ := List.mem_flatten.mp q
              obtain ⟨j, hj1, rfl⟩ := List.mem_map.mp hx1
              exact hrow j (List.mem_append_left _ hj1) z hx2
            · rw [List.mem_singleton.mp q]
              refine hrow k (List.mem_append_right _ (List.mem_singleton.mpr rfl)) k.a ?_
              rw [k.places_eq]
              simp
  · rw [if_neg h2] at ht ⊢
    have hw := Bool.and_eq_true_iff.mp ht
    have hw1 : w = true := hw.1
    subst hw1
    have h' : done = pres pre ++ sigsL row := h
    refine ⟨pre, row ++ [.mk [] s], rfl, ⟨row, .mk [] s, rfl, ?_⟩, hr.more fun z hz => ?_⟩
    · rw [h', item_plain (k := .mk [] s) rfl, List.append_assoc]
      rfl
    · rw [places, placesL] at hz
      rw [List.mem_singleton.mp hz]
      exact hw.2
theorem read_sound : ∀ (ss done : List Str) (pre : Rows) (row : List Kd) (w : Bool) (k : Kd), St done pre row w → RdOk (pre ++ [row]) → RInv (pre ++ [row]) w ss.length → (∀ s ∈ ss, PyData.strOk s = true) → readS ss (pre ++ [row]) w = some k →
    done ++ ss = sigs k ∧ (∀ z ∈ places k, isWordS z = true) ∧ ∀ j ∈ k.as, ord j ≤ 4
  | [], done, pre, row, w, k, hs, hr, hi, _, h => by
    replace h : resultS (pre ++ [row]) w = some k := h
    unfold resultS at h
    cases w with
    | true =>
      rw [if_pos rfl] at h
      cases h
    | false =>
      rw [if_neg Bool.false_ne_true] at h
      obtain ⟨r, k0, rfl, hd⟩ := hs
      cases pre with
      | cons p q =>
        cases q with
        | nil => cases h
        | cons p2 q2 => cases h
      | nil =>
        rw [List.nil_append] at h hr hi
        dsimp only at h
        rw [List.getLast?_concat] at h
        dsimp only at h
        split at h
        case isFalse => cases h
        rename_i hk
        rw [List.dropLast_concat] at h
        cases h
        have hrow : ∀ j ∈ r ++ [k0], ∀ z ∈ places j, isWordS z = true := hr _ (List.mem_singleton.mpr rfl)
        refine ⟨?_, fun z hz => ?_, fun j hj => ?_⟩
        · rw [hd, sigs, item_plain hk, List.append_nil]
          rfl
        · rw [places] at hz
          rcases List.mem_append.mp hz with q | q
          · rw [placesL_map] at q
            obtain ⟨x, hx1, hx2⟩ := List.mem_flatten.mp q
            obtain ⟨j, hj1, rfl⟩ := List.mem_map.mp hx1
            exact hrow j (List.mem_append_left _ hj1) z hx2
          · rw [List.mem_singleton.mp q]
            refine hrow k0 (List.mem_append_right _ (List.mem_singleton.mpr rfl)) k0.a ?_
            rw [k0.places_eq]
            simp
        · exact (hi.k 0 _ rfl j (List.mem_append_left _ hj)).1
  | s :: r, done, pre, row, w, k, hs, hr, hi, ho, h => by
    rw [readS] at h
    have et : takeR (pre ++ [row]) w s = take1 pre row w s := by
      unfold takeR
      rw [List.dropLast_concat, List.getLastD_concat]
    rw [et] at h
    split at h
    case isFalse => cases h
    rename_i ht
    obtain ⟨pre', row', e, hs', hr'⟩ := hs.step hr ht
    have hi' := RInv.take (n := r.length) hi (ho s List.mem_cons_self) ht
    rw [e] at h hi'
    have q := read_sound r (done ++ [s]) pre' row' _ k hs' hr' hi' (fun x hx => ho x (List.mem_cons_of_mem _ hx)) h
    rw [List.append_assoc] at q
    exact q
theorem str_ext {x y : Str} (h : x.cps.toList = y.cps.toList) : x = y := by
  cases x with
  | mk a =>
    cases y with
    | mk b =>
      congr 1
      exact Array.ext' h
theorem shape_sound {z : Str} {k : Kd} (hz : okStr z) (hl : z.length ≤ 990) (h : shapeS z = some k) : z = text k ∧ (∀ x ∈ places k, isWordS x = true) ∧ (places k).length ≤ 15 ∧ ∀ j ∈ k.as, ord j ≤ 4 := by
  unfold shapeS at h
  cases hx : lexS z with
  | none =>
    rw [hx] at h
    cases h
  | some ss =>
    rw [hx] at h
    dsimp only at h
    split at h
    · cases h
    rename_i hw
    obtain ⟨k1, k2⟩ := lexS_ok hz.2 hx
    obtain ⟨e, h1, h2⟩ := read_sound ss [] [] [] true k (by show ([] : List Str) = pres [] ++ sigsL []; rfl) (fun r hr j hj => by rw [List.mem_singleton.mp hr] at hj; cases hj) (RInv.start _ (by omega)) (fun s hs => (strOk_iff s).mpr (k1 s hs).2) h
    rw [List.nil_append] at e
    have hf := lexO_flat _ _ _ hx
    rw [e] at hf
    refine ⟨str_ext (by rw [text_flat, hf]), h1, ?_, h2⟩
    rw [← filter_sigs k h1, ← e]
    omega
/-! ### the kind of a text -/
def totS (z : Str) : Option Kd := match shapeS z with
  | none => none
  | some k => if ord k ≤ 4 then some k else none
def totV : D → Option Kd
  | .str z => totS z
  | _ => none
theorem tot_text {k : Kd} (g : Good k) : totS (text k) = some k := by
  unfold totS
  rw [shape_text g]
  exact if_pos g.o
theorem tot_sound {z : Str} {k : Kd} (hz : okStr z) (hl : z.length ≤ 990) (h : totS z = some k) : z = text k ∧ Good k := by
  unfold totS at h
  cases hx : shapeS z with
  | none =>
    rw [hx] at h
    cases h
  | some j =>
    rw [hx] at h
    dsimp only at h
    split at h
    case isFalse => cases h
    rename_i ho
    cases h
    obtain ⟨h1, h2, h3, _⟩ := shape_sound hz hl hx
    exact ⟨h1, h2, h3, ho⟩
/-- what a text tells: a kind, perhaps too large by one order -/
structure Semi (k : Kd) : Prop where
  kid : ∀ j ∈ k.as, Good j
  n : k.as.length ≤ 60
  a : isWordS k.a = true
theorem Good.semi {k : Kd} (g : Good k) : Semi k := by
  cases k with
  | mk as a => exact ⟨fun j hj => g.kid hj, by have := g.few; show as.length ≤ 60; omega, g.atom⟩
theorem shape_semi {z : Str} {k : Kd} (hz : okStr z) (hl : z.length ≤ 990) (h : shapeS z = some k) : Semi k ∧ (Good k ↔ ord k ≤ 4) ∧ ord k < 6 := by
  obtain ⟨h1, h2, h3, h4⟩ := shape_sound hz hl h
  have hle : (placesL k.as).length + 1 ≤ 15 := by
    have := k.len_eq
    omega
  refine ⟨⟨fun j hj => ⟨fun x hx => h2 x ?_, ?_, h4 j hj⟩, ?_, h2 _ ?_⟩, ⟨fun g => g.o, fun o => ⟨h2, h3, o⟩⟩, ?_⟩
  · rw [k.places_eq]
    exact List.mem_append_left _ (placesL_mem hx hj)
  · have := placesL_len hj
    omega
  · have := length_placesL k.as
    omega
  · rw [k.places_eq]
    simp
  · rw [k.ord_eq]
    have : ordL k.as ≤ 5 := ordL_le fun j hj => by have := h4 j hj; omega
    omega
end KP
/-! KP19: the reader of law k04, with no program in sight. -/
namespace KP
open PySem L2 FP
variable [FP.Tabl]
abbrev Rd := List Nat → Option (Kd × List Nat)
/-! ### sound -/
/-! ### complete -/
def apart (r : List Nat) : Prop := ∀ c r', r = c :: r' → isL c = false
def stops (r : List Nat) : Prop := r = [] ∨ ∃ r', r = 41 :: r'
/-! ### parentheses -/
/-! ### what the law finds due -/
end KP
/-! KP20: what the defs about texts of kinds promise (k04). -/
namespace KP
open PySem L2 FP
variable [FP.Tabl]
def f_kindX (d : Nat) : List D → M D := fun ds Q Ex => match ds with
  | [x] => ∃ k, x = plain k ∧ Semi k ∧ ord k < d ∧ (Good k → Q (typeD k)) ∧ (¬ Good k → Ex tooX)
  | _ => False
theorem nope_kindX (ds : List D) (Q : D → Prop) (E : XD → Prop) (h : f_kindX 0 ds Q E) : False := by
  unfold f_kindX at h
  split at h
  · obtain ⟨_, _, _, h, _⟩ := h
    omega
  · exact h
abbrev parX : XD := ⟨"ParseError", [("line", .non)]⟩
def f_totX : List D → M D := fun ds Q _ => match ds with
  | [d] => okV d ∧ (∀ z, d = .str z → z.length ≤ 990) ∧ Q (totD (totV d))
  | _ => False
def f_readX : List D → M D := fun ds Q Ex => match ds with
  | [.cl c, d] => c = "Type" ∧ okV d ∧ (∀ z, d = .str z → z.length ≤ 990) ∧ (∀ k, totV d = some k → Q (typeD k)) ∧ (totV d = none → Ex parX)
  | _ => False
structure okT (z : Str) : Prop where
  o : okStr z
  l : z.length ≤ 990
end KP
/-! KP21: what the defs about kinds promise of any arguments (k07). -/
namespace KP
open PySem L2 FP
variable [FP.Tabl]
def okI : D → Prop
  | .ins c _ => c = "Type"
  | d => okV d
theorem okV.i {d : D} (h : okV d) : okI d := by
  cases d with
  | ins c fs => exact h.elim
  | _ => exact h
/-! ### words and numbers -/
/-! ### dicts of any data -/
/-! ### making -/
/-! ### reading -/
/-! ### the word for an error -/
end KP
/-! KP22: wrong arguments, as law k07 draws them. -/
namespace KP
open PySem L2 FP
variable [FP.Tabl]
theorem okT_of {z : Str} (h : (decide (z.length ≤ 990) && z.cps.toList.all fun c => decide (c < 1114112)) = true) : okT z := by
  simp only [Bool.and_eq_true, decide_eq_true_eq, List.all_eq_true] at h
  exact ⟨⟨by omega, h.2⟩, h.1⟩
/-- no word -/
structure OddP (d : D) : Prop where
  v : okV d
  w : isWordD d = false
theorem OddP.no {d : D} (h : OddP d) {a : Str} (e : d = .str a) (hw : isWordS a = true) {α : Prop} : α := by
  subst e
  have h2 : isWordS a = false := h.w
  rw [hw] at h2
  cases h2
end KP
/-! KP23: law k07's calls that are refused. -/
namespace KP
open PySem L2 FP
variable [FP.Tabl]
theorem pkN {n : Nat} (h : (Nat.blt 0 n && Nat.blt n 1073741824) = true) : 0 < n ∧ n < 1073741824 := by
  rw [Bool.and_eq_true, Nat.blt_eq, Nat.blt_eq] at h
  exact h
theorem line_lt {n : Nat} (h : Nat.blt n 16777216 = true) : n < sizeLine := Nat.blt_eq ▸ h
end KP
/-! KP24: wrong indices, operands and names, as law k07 draws them. -/
namespace KP
open PySem L2 FP
variable [FP.Tabl]
/-! ### dicts made of rows of pairs -/
def dctF {α : Type} (key : α → Str) (g : α → D) (zs : List α) : List (Key × D) := zs.map fun z => (.inr (key z), g z)
theorem pairs_F {α : Type} (key : α → Str) (g : α → D) : ∀ zs : List α, pairsD (zs.map fun z => D.tup [.str (key z), g z]) = some (dctF key g zs)
  | [] => rfl
  | z :: r => by
    rw [List.map_cons, pairsD, pairs_F key g r]
    rfl
theorem keys_F {α : Type} (key : α → Str) (g : α → D) (zs : List α) : (dctF key g zs).map (·.1) = (zs.map key).map Sum.inr := by
  unfold dctF
  rw [List.map_map, List.map_map]
  rfl
theorem merge_F {α : Type} {key : α → Str} {g : α → D} {zs : List α} (h : (zs.map key).Nodup) : mergeD [] (dctF key g zs) = dctF key g zs := by
  have e := merge_new (dctF key g zs) [] (by
    rw [List.nil_append, keys_F]
    exact List.Pairwise.map _ (fun a b n q => n (Sum.inr.inj q)) h)
  rw [List.nil_append] at e
  exact e
theorem items_F {α : Type} (key : α → Str) (g : α → D) (zs : List α) : ((dctF key g zs).map fun kv => D.tup [kD kv.1, kv.2]) = zs.map fun z => D.tup [.str (key z), g z] := by
  unfold dctF
  rw [List.map_map]
  rfl
theorem kD_F {α : Type} (key : α → Str) (g : α → D) (zs : List α) : ((dctF key g zs).map fun kv => kD kv.1) = zs.map fun z => D.str (key z) := by
  unfold dctF
  rw [List.map_map]
  rfl
/-! ### wrong dicts of names -/
/-! ### calls on known kinds -/
end KP
/-! KP25: plain libraries. -/
namespace KP
open PySem L2 FP
variable [FP.Tabl]
noncomputable instance : DecidableEq Kd := fun _ _ => Classical.propDecidable _
abbrev Lib := List (Str × Kd)
def keysL (L : Lib) : List Str := L.map (·.1)
def getL (L : Lib) (z : Str) : Option Kd := (L.find? fun p => decide (p.1 = z)).map (·.2)
abbrev rowsL (h : Kd → D) (L : Lib) : List (Key × D) := dctF (fun p : Str × Kd => p.1) (fun p => h p.2) L
/-- a plain library; the dict of its parts -/
def libP (L : Lib) : D := .dct (rowsL plain L)
def libT (L : Lib) : D := .dct (rowsL typeD L)
theorem getL_nil (z : Str) : getL [] z = none := rfl
theorem getL_cons (p : Str × Kd) (L : Lib) (z : Str) : getL (p :: L) z = if p.1 = z then some p.2 else getL L z := by
  unfold getL
  rw [List.find?_cons]
  by_cases q : p.1 = z <;> simp [q]
theorem getL_app (L M : Lib) (z : Str) : getL (L ++ M) z = (getL L z).or (getL M z) := by
  induction L with
  | nil => rfl
  | cons p r ih =>
    rw [List.cons_append, getL_cons, getL_cons, ih]
    by_cases q : p.1 = z
    · rw [if_pos q, if_pos q]
      rfl
    · rw [if_neg q, if_neg q]
theorem getL_out {L : Lib} {z : Str} : getL L z = none ↔ z ∉ keysL L := by
  induction L with
  | nil => simp [getL, keysL]
  | cons p r ih =>
    rw [getL_cons]
    by_cases q : p.1 = z
    · rw [if_pos q]
      simp [keysL, q]
    · rw [if_neg q, ih]
      simp [keysL, Ne.symm q]
theorem getL_some {L : Lib} {z : Str} {k : Kd} (h : getL L z = some k) : (z, k) ∈ L := by
  induction L with
  | nil => cases h
  | cons p r ih =>
    rw [getL_cons] at h
    by_cases q : p.1 = z
    · rw [if_pos q] at h
      cases h
      rw [← q]
      exact List.mem_cons_self
    · rw [if_neg q] at h
      exact List.mem_cons_of_mem _ (ih h)
theorem getL_of {L : Lib} (nd : (keysL L).Nodup) {z : Str} {k : Kd} (h : (z, k) ∈ L) : getL L z = some k := by
  induction L with
  | nil => cases h
  | cons p r ih =>
    have nd2 : (p.1 :: keysL r).Nodup := nd
    rw [List.nodup_cons] at nd2
    rw [getL_cons]
    rcases List.mem_cons.mp h with e | e
    · rw [← e, if_pos rfl]
    · have hm : z ∈ keysL r := List.mem_map.mpr ⟨_, e, rfl⟩
      rw [if_neg fun q => nd2.1 (by rw [q]; exact hm)]
      exact ih nd2.2 e
theorem getL_in {L : Lib} {z : Str} (h : z ∈ keysL L) : ∃ k, getL L z = some k ∧ (z, k) ∈ L := by
  cases q : getL L z with
  | none => exact absurd h (getL_out.mp q)
  | some k => exact ⟨k, rfl, getL_some q⟩
theorem key_in {L : Lib} {z : Str} {k : Kd} (h : getL L z = some k) : z ∈ keysL L := List.mem_map.mpr ⟨_, getL_some h, rfl⟩
/-- the kind of a name -/
def kindAt (L : Lib) (z : Str) : Kd := (getL L z).getD (.mk [] z)
theorem kindAt_of {L : Lib} {z : Str} {k : Kd} (h : getL L z = some k) : kindAt L z = k := by
  unfold kindAt
  rw [h]
  rfl
/-- what names tell, picked out of a library -/
def pickL (L : Lib) (zs : List Str) : Lib := zs.map fun z => (z, kindAt L z)
theorem keys_pick (L : Lib) (zs : List Str) : keysL (pickL L zs) = zs := by
  unfold keysL pickL
  rw [List.map_map]
  exact List.map_id _
theorem get_pick {L : Lib} {zs : List Str} (h : ∀ z ∈ zs, z ∈ keysL L) (z : Str) : getL (pickL L zs) z = if z ∈ zs then getL L z else none := by
  induction zs with
  | nil => rfl
  | cons y r ih =>
    show getL ((y, kindAt L y) :: pickL L r) z = _
    rw [getL_cons, ih fun x hx => h x (List.mem_cons_of_mem _ hx)]
    by_cases q : y = z
    · subst q
      obtain ⟨k, hk, _⟩ := getL_in (h y List.mem_cons_self)
      rw [if_pos rfl, if_pos List.mem_cons_self, hk, kindAt_of hk]
    · rw [if_neg q]
      by_cases hz : z ∈ r
      · rw [if_pos hz, if_pos (List.mem_cons_of_mem _ hz)]
      · rw [if_neg hz, if_neg fun m => (List.mem_cons.mp m).elim (fun e => q e.symm) hz]
/-- in the order of the names -/
def sortL (L : Lib) : Lib := pickL L (sortS (keysL L))
theorem keys_sort (L : Lib) : keysL (sortL L) = sortS (keysL L) := keys_pick _ _
theorem get_sort (L : Lib) (z : Str) : getL (sortL L) z = getL L z := by
  unfold sortL
  rw [get_pick fun z hz => (sortS_perm _).mem_iff.mp hz]
  by_cases h : z ∈ sortS (keysL L)
  · rw [if_pos h]
  · rw [if_neg h]
    exact (getL_out.mpr fun m => h ((sortS_perm _).mem_iff.mpr m)).symm
theorem nd_sort {L : Lib} (nd : (keysL L).Nodup) : (keysL (sortL L)).Nodup := by
  rw [keys_sort]
  exact (sortS_perm _).nodup_iff.mpr nd
/-- libraries with the same parts -/
def sameL (L M : Lib) : Prop := ∀ z, getL L z = getL M z
theorem sameL.keys {L M : Lib} (h : sameL L M) (z : Str) : z ∈ keysL L ↔ z ∈ keysL M := by
  constructor
  · intro m
    obtain ⟨k, hk, _⟩ := getL_in m
    rw [h z] at hk
    exact key_in hk
  · intro m
    obtain ⟨k, hk, _⟩ := getL_in m
    rw [← h z] at hk
    exact key_in hk
theorem sameL.symm {L M : Lib} (h : sameL L M) : sameL M L := fun z => (h z).symm
theorem sameL.trans {L M N : Lib} (h : sameL L M) (g : sameL M N) : sameL L N := fun z => (h z).trans (g z)
theorem same_sort (L : Lib) : sameL (sortL L) L := get_sort L
theorem sort_same {L M : Lib} (h : sameL L M) (nl : (keysL L).Nodup) (nm : (keysL M).Nodup) : sortL L = sortL M := by
  have hp : (keysL L).Perm (keysL M) := nodup_perm nl nm fun z => h.keys z
  have e : sortS (keysL L) = sortS (keysL M) := upS_eq (sortS_up _) (sortS_up _) (((sortS_perm _).trans hp).trans (sortS_perm _).symm)
  unfold sortL
  rw [e]
  unfold pickL
  refine List.map_congr_left fun z _ => ?_
  unfold kindAt
  rw [h z]
theorem len_sort (L : Lib) : (sortL L).length = L.length := by
  have e := congrArg List.length (keys_sort L)
  rw [(sortS_perm _).length_eq] at e
  unfold keysL at e
  rw [List.length_map, List.length_map] at e
  exact e
/-- a library as the package has them -/
structure LibG (L : Lib) : Prop where
  nd : (keysL L).Nodup
  w : ∀ p ∈ L, isWordS p.1 = true
  g : ∀ p ∈ L, Good p.2
theorem LibG.same {L M : Lib} (h : LibG L) (s : sameL L M) (nm : (keysL M).Nodup) : LibG M := by
  have m : ∀ p ∈ M, p ∈ L := fun p hp => by
    have e := getL_of nm (show (p.1, p.2) ∈ M from hp)
    rw [← s p.1] at e
    exact getL_some e
  exact ⟨nm, fun p hp => h.w p (m p hp), fun p hp => h.g p (m p hp)⟩
theorem LibG.sort {L : Lib} (h : LibG L) : LibG (sortL L) := h.same (same_sort L).symm (nd_sort h.nd)
theorem LibG.sub {L M : Lib} (h : LibG L) (s : M.Sublist L) : LibG M := ⟨h.nd.sublist (s.map _), fun p hp => h.w p (s.subset hp), fun p hp => h.g p (s.subset hp)⟩
theorem LibG.kid {L : Lib} (h : LibG L) {z : Str} {k : Kd} (e : getL L z = some k) : Good k := h.g _ (getL_some e)
theorem LibG.nil : LibG [] := ⟨List.nodup_nil, fun _ h => absurd h List.not_mem_nil, fun _ h => absurd h List.not_mem_nil⟩
/-! ### lines, texts -/
def lineS (p : Str × Kd) : Str := p.1 ++ " : " ++ text p.2
def linesL (L : Lib) : List Str := (sortL L).map lineS
def scopeL (L : Lib) : List Str := sortU ((sortL L).map fun p => text p.2)
def libF (L : Lib) : List (Str × D) := [("own_parts", libT (sortL L)), ("own_names", .tup ((keysL (sortL L)).map .str)), ("own_lines", .tup ((linesL L).map .str)), ("own_scope", .tup ((scopeL L).map .str))]
def libD (L : Lib) : D := .ins "Library" (libF L)
/-! ### dicts of libraries -/
theorem val_rows (h : Kd → D) (L : Lib) (z : Str) : valD (rowsL h L) (.inr z) = (getL L z).map h := by
  induction L with
  | nil => rfl
  | cons p r ih =>
    show valD ((.inr p.1, h p.2) :: rowsL h r) (.inr z) = _
    rw [valD_cons, getL_cons, ih]
    by_cases q : p.1 = z
    · rw [if_pos (by rw [q]), if_pos q]
      rfl
    · rw [if_neg fun e => q (Sum.inr.inj e), if_neg q]
theorem in_rows (h : Kd → D) (L : Lib) (z : Str) : (valD (rowsL h L) (.inr z)).isSome = decide (z ∈ keysL L) := by
  rw [val_rows, Option.isSome_map]
  cases q : getL L z with
  | none => rw [decide_eq_false (getL_out.mp q)]; rfl
  | some k => rw [decide_eq_true (key_in q)]; rfl
theorem len_rows (h : Kd → D) (L : Lib) : (rowsL h L).length = L.length := List.length_map _
theorem keys_rows (h : Kd → D) (L : Lib) : ((rowsL h L).map fun kv => kD kv.1) = (keysL L).map D.str := by
  unfold rowsL keysL
  rw [kD_F, List.map_map]
  rfl
theorem vals_rows (h : Kd → D) (L : Lib) : ((rowsL h L).map (·.2)) = L.map fun p => h p.2 := by
  unfold rowsL dctF
  rw [List.map_map]
  rfl
theorem items_rows (h : Kd → D) (L : Lib) : ((rowsL h L).map fun kv => D.tup [kD kv.1, kv.2]) = L.map fun p => D.tup [.str p.1, h p.2] := items_F _ _ L
/-- a part more, or another kind of one -/
def putL1 (L : Lib) (z : Str) (k : Kd) : Lib := if z ∈ keysL L then L.map (fun p => if p.1 = z then (p.1, k) else p) else L ++ [(z, k)]
theorem put_rows (h : Kd → D) (L : Lib) (z : Str) (k : Kd) : putKD (rowsL h L) (.inr z) (h k) = rowsL h (putL1 L z k) := by
  unfold putKD putL1
  have e : ((rowsL h L).any fun kv => decide (kv.1 = .inr z)) = decide (z ∈ keysL L) := by
    unfold rowsL dctF keysL
    rw [List.any_map]
    by_cases hz : z ∈ L.map (·.1)
    · rw [decide_eq_true hz, List.any_eq_true]
      obtain ⟨p, hp, q⟩ := List.mem_map.mp hz
      exact ⟨p, hp, decide_eq_true (congrArg Sum.inr q)⟩
    · rw [decide_eq_false hz, List.any_eq_false]
      intro p hp q
      exact hz (List.mem_map.mpr ⟨p, hp, Sum.inr.inj (of_decide_eq_true q)⟩)
  rw [e]
  by_cases hz : z ∈ keysL L
  · rw [decide_eq_true hz, if_pos rfl, if_pos hz]
    unfold rowsL dctF
    rw [List.map_map, List.map_map]
    refine List.map_congr_left fun p _ => ?_
    show (if (Sum.inr p.1 : Key) = .inr z then _ else _) = _
    by_cases q : p.1 = z
    · rw [if_pos (by rw [q])]
      simp [q]
    · rw [if_neg fun e => q (Sum.inr.inj e)]
      simp [q]
  · rw [decide_eq_false hz, if_neg hz, if_neg Bool.false_ne_true]
    unfold rowsL dctF
    rw [List.map_append]
    rfl
theorem get_put (L : Lib) (z : Str) (k : Kd) (y : Str) : getL (putL1 L z k) y = if y = z then some k else getL L y := by
  unfold putL1
  by_cases hz : z ∈ keysL L
  · rw [if_pos hz]
    induction L with
    | nil => cases hz
    | cons p r ih =>
      rw [List.map_cons, getL_cons, getL_cons]
      have ih2 : getL (r.map fun p => if p.1 = z then (p.1, k) else p) y = if y = z ∧ z ∈ keysL r then some k else getL r y := by
        by_cases hr : z ∈ keysL r
        · rw [ih hr]
          by_cases q : y = z <;> simp [q, hr]
        · have e : (r.map fun p => if p.1 = z then (p.1, k) else p) = r := by
            conv => rhs; rw [← List.map_id r]
            refine List.map_congr_left fun x hx => ?_
            rw [if_neg fun q => hr (List.mem_map.mpr ⟨x, hx, q⟩)]
            rfl
          rw [e, if_neg fun q => hr q.2]
      rw [ih2]
      by_cases q1 : p.1 = z
      · rw [if_pos q1]
        by_cases q2 : y = z
        · rw [if_pos (show p.1 = y by rw [q1, q2]), if_pos q2]
        · have n1 : ¬ p.1 = y := fun e => q2 (by rw [← e, q1])
          have n2 : ¬ (y = z ∧ z ∈ keysL r) := fun c => q2 c.1
          rw [if_neg n1, if_neg n2, if_neg q2, if_neg n1]
      · rw [if_neg q1]
        have hr : z ∈ keysL r := (List.mem_cons.mp (show z ∈ p.1 :: keysL r from hz)).resolve_left fun e => q1 e.symm
        by_cases q2 : y = z
        · rw [if_neg (show ¬ p.1 = y from fun e => q1 (by rw [e, q2])), if_pos ⟨q2, hr⟩, if_pos q2]
        · have n2 : ¬ (y = z ∧ z ∈ keysL r) := fun c => q2 c.1
          rw [if_neg q2, if_neg n2]
  · rw [if_neg hz, getL_app, getL_cons, getL_nil]
    by_cases q : y = z
    · subst q
      rw [getL_out.mpr hz]
      show (if y = y then some k else none) = if y = y then some k else none
      rfl
    · rw [if_neg q, if_neg (show ¬ (z, k).1 = y from Ne.symm q)]
      cases getL L y <;> rfl
theorem keys_put (L : Lib) (z : Str) (k : Kd) : keysL (putL1 L z k) = if z ∈ keysL L then keysL L else keysL L ++ [z] := by
  unfold putL1
  by_cases hz : z ∈ keysL L
  · rw [if_pos hz, if_pos hz]
    unfold keysL
    rw [List.map_map]
    refine List.map_congr_left fun p _ => ?_
    show (if p.1 = z then (p.1, k) else p).1 = p.1
    split <;> rfl
  · rw [if_neg hz, if_neg hz]
    unfold keysL
    rw [List.map_append]
    rfl
theorem nd_put {L : Lib} (nd : (keysL L).Nodup) (z : Str) (k : Kd) : (keysL (putL1 L z k)).Nodup := by
  rw [keys_put]
  split
  · exact nd
  · rename_i hz
    exact List.nodup_append.mpr ⟨nd, by simp, fun a ha b hb e => hz (by rw [List.mem_singleton.mp hb] at e; rw [← e]; exact ha)⟩
theorem LibG.put {L : Lib} (h : LibG L) {z : Str} {k : Kd} (hz : isWordS z = true) (hk : Good k) : LibG (putL1 L z k) := by
  have key : ∀ p ∈ putL1 L z k, p = (z, k) ∨ p ∈ L := fun p hp => by
    have e := getL_of (nd_put h.nd z k) (show (p.1, p.2) ∈ putL1 L z k from hp)
    rw [get_put] at e
    by_cases q : p.1 = z
    · rw [if_pos q] at e
      cases e
      rw [← q]
      exact .inl rfl
    · rw [if_neg q] at e
      exact .inr (getL_some e)
  refine ⟨nd_put h.nd z k, fun p hp => ?_, fun p hp => ?_⟩
  · rcases key p hp with e | e
    · rw [e]
      exact hz
    · exact h.w p e
  · rcases key p hp with e | e
    · rw [e]
      exact hk
    · exact h.g p e
theorem len_put (L : Lib) (z : Str) (k : Kd) : (putL1 L z k).length ≤ L.length + 1 ∧ L.length ≤ (putL1 L z k).length := by
  unfold putL1
  split
  · rw [List.length_map]
    omega
  · rw [List.length_append, List.length_singleton]
    omega
end KP
/-! KP26: what the defs about libraries promise. -/
namespace KP
open PySem L2 FP
variable [FP.Tabl]
/-! ### plain kinds compared -/
/-! ### the package's defs -/
abbrev libX : XD := ⟨"InvalidLibrary", []⟩
def f_isparts : List D → M D := fun ds Q _ => match ds with
  | [.dct kvs] => ∃ L : Lib, kvs = rowsL typeD L ∧ LibG L ∧ L.length ≤ 60 ∧ Q (.bl (decide (L.length ≤ 8)))
  | _ => False
def f_asc : List D → M D := fun ds Q _ => match ds with
  | [.dct kvs] => ∃ L : Lib, kvs = rowsL typeD L ∧ (keysL L).Nodup ∧ L.length ≤ 60 ∧ Q (libT (sortL L))
  | _ => False
def f_initL : List D → ((List (Str × D)) → Prop) → (XD → Prop) → Prop := fun ds Q Ex => match ds with
  | [.non] => Q (libF [])
  | [.dct kvs] => ∃ L : Lib, kvs = rowsL typeD L ∧ LibG L ∧ L.length ≤ 60 ∧ (L.length ≤ 8 → Q (libF L)) ∧ (8 < L.length → Ex libX)
  | _ => False
def noL (d : D) : Prop := isiD ["Library"] (fun _ => true) d = some false
def f_eqL : List D → M D := fun ds Q _ => match ds with
  | [x, y] => ∃ L, x = libD L ∧ L.length ≤ 60 ∧ LibG L ∧ ((∃ M, y = libD M ∧ M.length ≤ 60 ∧ LibG M ∧ Q (.bl (decide (linesL L = linesL M)))) ∨ (noL y ∧ Q (.bl false)))
  | _ => False
/-! ### readings of libraries -/
section
variable {L : Lib} {Q : D → Prop}
theorem lk_parts (L : Lib) : (libF L).lookup ("own_parts" : Str) = some (libT (sortL L)) := rfl
theorem lk_lines (L : Lib) : (libF L).lookup ("own_lines" : Str) = some (.tup ((linesL L).map .str)) := rfl
theorem isLib {P : D → Prop} (q : P (.bl true)) : (match isiD ["Library"] (fun _ => true) (libD L) with
  | some b => P (.bl b)
  | none => False) := q
end
end KP
/-! KP27: readings of libraries. -/
namespace KP
open PySem L2 FP
variable [FP.Tabl]
theorem fold_pick {L : Lib} {zs : List Str} (nd : (keysL (pickL L zs)).Nodup) : (zs.foldl (fun a z => putKD a (.inr z) (typeD (kindAt L z))) []) = rowsL typeD (pickL L zs) := by
  have h1 : ∀ (acc : List (Key × D)), zs.foldl (fun a z => putKD a (.inr z) (typeD (kindAt L z))) acc = mergeD acc (rowsL typeD (pickL L zs)) := by
    intro acc
    unfold mergeD rowsL dctF pickL
    rw [List.map_map, List.foldl_map]
    rfl
  rw [h1]
  exact merge_F nd
theorem stFmt {k : Kd} {Q : D → Prop} (hg : Good k) (q : Q (.str (text k))) : (match typeD k with
  | .ins c' fs => c' = "Type" ∧ f_tell d_text [.ins c' fs] (fun d => match d with
    | .str y => Q (.str y)
    | _ => False) F0
  | _ => False) := by
  have e := typeD_eq k
  rw [e]
  exact ⟨rfl, k, e.symm, hg, q⟩
theorem fmtJ {fe : DTE} {ρ : FP.Env} {acc : Str} {g : DJT} {Q : Str → Prop} {E : XD → Prop} {k : Kd} (he : Ev fe ρ (typeD k)) (hg : Good k) (hl : (acc ++ text k).length ≤ sizeLine) (h : g ρ (acc ++ text k) Q E) : dJCons (dFmtM "Type" (f_tell d_text) fe) g ρ acc Q E := by
  refine he _ _ ?_
  exact stFmt (Q := fun x => match x with
    | .str y => (acc ++ y).length ≤ sizeLine ∧ g ρ (acc ++ y) Q E
    | _ => False) hg ⟨hl, h⟩
end KP
/-! KP28: what expressions about libraries come to. -/
namespace KP
open PySem L2 FP
variable [FP.Tabl]
section
variable {ρ : FP.Env} {f fa fb fk fv : DTE} {k j : Kd} {L M : Lib} {z : Str} {h : Kd → D}
theorem evGet (ha : Ev fa ρ (.dct (rowsL h L))) (hb : Ev fb ρ (.str z)) (e : getL L z = some k) : Ev (dOp rdDGet fa fb) ρ (h k) := ev_op ha hb fun Q q => ⟨.inr z, h k, rfl, by rw [val_rows, e]; rfl, q⟩
theorem evKeys (ha : Ev f ρ (.dct (rowsL h L))) : EvI (dIKeys f) ρ (L.map fun p => .str p.1) := fun Q E q => ha _ _ (by
  show Q ((rowsL h L).map fun kv => kD kv.1)
  rw [keys_rows]
  unfold keysL
  rw [List.map_map]
  exact q)
theorem evParts (ha : Ev f ρ (libD L)) : Ev (dFld "Library" "own_parts" f) ρ (libT (sortL L)) := ev_fld (fs := libF L) ha (lk_parts L)
theorem initL_ok {L : Lib} (hg : LibG L) (hl : L.length ≤ 8) {Q : List (Str × D) → Prop} {E : XD → Prop} (q : Q (libF L)) : f_initL [libT L] Q E := ⟨L, rfl, hg, by omega, fun _ => q, fun h => absurd h (by omega)⟩
end
/-! ### tuples of texts compared -/
theorem sh_strs {n : Nat} : ∀ {zs : List Str}, (∀ z ∈ zs, PyData.strOk z = true) → shDs n (zs.map D.str) = true
  | [], _ => sh_nil
  | z :: r, h => sh_cons (sh_str (h z List.mem_cons_self)) (sh_strs fun y hy => h y (List.mem_cons_of_mem _ hy))
theorem py_strs : ∀ zs : List Str, toPys (zs.map D.str) = some (zs.map PyData.str)
  | [] => rfl
  | z :: r => by
    rw [List.map_cons, toPys, toPy, py_strs r]
    rfl
theorem eqv_strs : ∀ zs ys : List Str, PyData.eqvAll (zs.map PyData.str) (ys.map PyData.str) = decide (zs = ys)
  | [], [] => by rw [List.map_nil, PyData.eqvAll]; simp
  | z :: r, [] => by rw [List.map_nil, List.map_cons, PyData.eqvAll]; simp
  | [], z :: r => by rw [List.map_nil, List.map_cons, PyData.eqvAll]; simp
  | z :: r, y :: t => by
    rw [List.map_cons, List.map_cons, PyData.eqvAll, PyData.eqv, eqv_strs r t]
    by_cases h1 : z = y
    · by_cases h2 : r = t
      · rw [decide_eq_true h2, decide_eq_true (p := z :: r = y :: t) (by rw [h1, h2])]
        simp [h1]
      · rw [decide_eq_false h2, decide_eq_false (p := z :: r = y :: t) fun e => h2 (List.cons.inj e).2, Bool.and_false]
    · rw [decide_eq_false (p := z :: r = y :: t) fun e => h1 (List.cons.inj e).1]
      simp [h1]
theorem eqStrs {zs ys : List Str} (h1 : ∀ z ∈ zs, PyData.strOk z = true) (h2 : ∀ z ∈ ys, PyData.strOk z = true) {Q : D → Prop} (q : Q (.bl (decide (zs = ys)))) : rdEq (.tup (zs.map .str)) (.tup (ys.map .str)) Q := by
  obtain ⟨p, p1, p2, p3⟩ := shD_py 64 (.tup (zs.map .str)) (sh_tup (sh_strs h1))
  obtain ⟨r, r1, r2, r3⟩ := shD_py 64 (.tup (ys.map .str)) (sh_tup (sh_strs h2))
  show ∃ p q, toPy _ = some p ∧ toPy _ = some q ∧ SeqAt.shaped p = true ∧ SeqAt.shaped q = true ∧ Q (.bl (PyData.eqv p q))
  refine ⟨p, r, p1, r1, sh_shaped p2 p3, sh_shaped r2 r3, ?_⟩
  rw [toPy, py_strs] at p1 r1
  cases p1
  cases r1
  rw [PyData.eqv, eqv_strs]
  exact q
theorem line_chars {p : Str × Kd} (hw : isWordS p.1 = true) (hg : Good p.2) : PyData.strOk (lineS p) = true := strOk_app (strOk_app ((strOk_iff _).mpr (word_ok hw).2) (by decide +kernel)) hg.text_ok
theorem lines_chars {L : Lib} (h : LibG L) : ∀ z ∈ linesL L, PyData.strOk z = true := fun z hz => by
  obtain ⟨p, hp, rfl⟩ := List.mem_map.mp hz
  exact line_chars (h.sort.w p hp) (h.sort.g p hp)
theorem linesEq {L M : Lib} (hl : LibG L) (hm : LibG M) {Q : D → Prop} (q : Q (.bl (decide (linesL L = linesL M)))) : rdEq (.tup ((linesL L).map .str)) (.tup ((linesL M).map .str)) Q := eqStrs (lines_chars hl) (lines_chars hm) q
/-! ### libraries as operands -/
section
variable {L M : Lib} {Q : D → Prop}
theorem eqLL (h1 : LibG L) (h2 : LibG M) (n1 : L.length ≤ 60) (n2 : M.length ≤ 60) (q : Q (.bl (decide (linesL L = linesL M)))) : rdEqM ["Library"] "Library" f_eqL (libD L) (libD M) Q := ⟨rfl, List.mem_singleton.mpr rfl, L, rfl, n1, h1, .inl ⟨M, rfl, n2, h2, q⟩⟩
theorem neLL (h1 : LibG L) (h2 : LibG M) (n1 : L.length ≤ 60) (n2 : M.length ≤ 60) (q : Q (.bl (!decide (linesL L = linesL M)))) : rdNeM ["Library"] "Library" f_eqL (libD L) (libD M) Q := ⟨rfl, List.mem_singleton.mpr rfl, L, rfl, n1, h1, .inl ⟨M, rfl, n2, h2, q⟩⟩
end
end KP
/-! KP29: libraries put together: what laws ask of the plain ones. -/
namespace KP
open PySem L2 FP
variable [FP.Tabl]
/-! ### plain facts -/
section
variable {L M N : Lib}
theorem same_lines (h : sameL L M) (nl : (keysL L).Nodup) (nm : (keysL M).Nodup) : linesL L = linesL M := by
  unfold linesL
  rw [sort_same h nl nm]
end
/-! ### the law's own helpers -/
def f_madeL : List D → M D := fun ds Q _ => match ds with
  | [.dct kvs] => ∃ L : Lib, kvs = rowsL plain L ∧ LibG L ∧ L.length ≤ 8 ∧ Q (libD L)
  | _ => False
def f_libr : List D → M D := fun ds Q _ => match ds with
  | [.tok] => ∀ L, LibG L → 1 ≤ L.length → L.length ≤ 5 → Q (libP L)
  | _ => False
def f_tokT : List D → M D := fun ds Q _ => match ds with
  | [.tok] => Q (.bl true)
  | _ => False
section
variable {ρ : FP.Env} {f fa fb fk fv : DTE} {k j : Kd} {L M : Lib} {z : Str} {h : Kd → D} {ts : List String}
theorem evMade (h1 : LibG L) (n1 : L.length ≤ 8) (ha : Ev fa ρ (libP L)) : Ev (dCall f_madeL 1 (dCons fa dNil)) ρ (libD L) := ev_call (a1 ha a0) rfl fun Q E q => ⟨L, rfl, h1, n1, q⟩
/-- `[(i, g) for i in f]` made a dict -/
theorem evPairs {i : Nat} {vs : List Nat} {h2 : Kd → D} (nd : (keysL L).Nodup) (hl : L.length ≤ 60) (b : Str × Kd → Bool) {ft : DTT} (ha : Ev f ρ (.dct (rowsL h L))) (hb : ∀ p ∈ L, EvT ft ((wipeD ρ vs).set i (.d (.str p.1))) (b p) ∧ (b p = true → Ev fv ((wipeD ρ vs).set i (.d (.str p.1))) (.tup [.str p.1, h2 p.2]))) : Ev (dCB rdDictP (dCons (dLc (dIKeys f) (.one i) ft fv vs) dNil)) ρ (.dct (rowsL h2 (L.filter b))) := by
  have e := ev_lcF (vs := vs) (T := .one i) (ft := ft) (f := fv) (fun p : Str × Kd => D.str p.1) (fun p => .tup [.str p.1, h2 p.2]) b (evKeys ha) (size_small (by omega)) fun p hp => ⟨_, rfl, (hb p hp).1, (hb p hp).2⟩
  have e2 := ev_dictP e (pairs_F (fun p : Str × Kd => p.1) (fun p => h2 p.2) (L.filter b))
  rw [merge_F (show ((L.filter b).map fun p => p.1).Nodup from nd.sublist (List.filter_sublist.map _))] at e2
  exact e2
end
end KP
/-! KP30: the known libraries of the laws; drawn libraries. -/
namespace KP
open PySem L2 FP
variable [FP.Tabl]
def goodB (k : Kd) : Bool := (places k).all isWordS && decide ((places k).length ≤ 15) && decide (ord k ≤ 4)
theorem goodB_g {k : Kd} (h : goodB k = true) : Good k := by
  unfold goodB at h
  simp only [Bool.and_eq_true, decide_eq_true_eq, List.all_eq_true] at h
  exact ⟨h.1.1, h.1.2, h.2⟩
def libOk (L : Lib) : Bool := decide (keysL L).Nodup && L.all fun p => isWordS p.1 && goodB p.2
theorem libOk_g {L : Lib} (h : libOk L = true) : LibG L := by
  unfold libOk at h
  simp only [Bool.and_eq_true, decide_eq_true_eq, List.all_eq_true] at h
  exact ⟨h.1, fun p hp => (h.2 p hp).1, fun p hp => goodB_g (h.2 p hp).2⟩
def qa : Kd := .mk [] "a"
def qb : Kd := .mk [] "b"
def qc : Kd := .mk [] "c"
def qn : Kd := .mk [] "n"
def q1 : Lib := [("z", qn), ("s", .mk [qn] "n")]
def q2 : Lib := [("f", .mk [qa] "b"), ("g", .mk [qb] "c")]
def q3 : Lib := [("k", .mk [.mk [qa] "b"] "c"), ("x", qb)]
def q4 : Lib := [("k", .mk [.mk [qa] "b"] "a"), ("g", .mk [qa] "b"), ("y", qa)]
def q5 : Lib := [("p", .mk [qa, qb] "c"), ("y", qa), ("w", qb), ("h", .mk [qc] "a")]
theorem qb_good : Good qb := goodB_g (by decide +kernel)
/-- without a part -/
def dropL (L : Lib) (z : Str) : Lib := L.filter fun p => decide (p.1 ≠ z)
theorem drop_rows (h : Kd → D) (L : Lib) (z : Str) : dropKD (rowsL h L) (.inr z) = rowsL h (dropL L z) := by
  unfold dropKD rowsL dctF dropL
  rw [List.filter_map]
  congr 1
  refine List.filter_congr fun p _ => ?_
  by_cases q : p.1 = z <;> simp [q]
theorem dropL_len (L : Lib) (z : Str) : (dropL L z).length ≤ L.length := List.length_filter_le _ _
theorem dropL_g {L : Lib} (h : LibG L) (z : Str) : LibG (dropL L z) := h.sub List.filter_sublist
theorem q_good {L : Lib} (h : L ∈ [q1, q2, q3, q4, q5]) : LibG L ∧ 1 ≤ (dropL L "x").length ∧ L.length ≤ 4 := by
  simp only [List.mem_cons, List.not_mem_nil, or_false] at h
  rcases h with rfl | rfl | rfl | rfl | rfl
  · exact ⟨libOk_g (by decide +kernel), by decide +kernel, by decide +kernel⟩
  · exact ⟨libOk_g (by decide +kernel), by decide +kernel, by decide +kernel⟩
  · exact ⟨libOk_g (by decide +kernel), by decide +kernel, by decide +kernel⟩
  · exact ⟨libOk_g (by decide +kernel), by decide +kernel, by decide +kernel⟩
  · exact ⟨libOk_g (by decide +kernel), by decide +kernel, by decide +kernel⟩
theorem pairs_items (L : Lib) : pairsD ((rowsL plain L).map fun kv => D.tup [kD kv.1, kv.2]) = some (rowsL plain L) := by
  rw [items_rows]
  exact pairs_F (fun p : Str × Kd => p.1) (fun p => plain p.2) L
theorem merge_self {h : Kd → D} {L : Lib} (nd : (keysL L).Nodup) : mergeD [] (rowsL h L) = rowsL h L := merge_F nd
theorem bitS {b : Bool} {P R : Prop} (h1 : b = true → P) (h2 : b = false → R) : bit b P R := by
  cases b with
  | true => exact h1 rfl
  | false => exact h2 rfl
theorem perm_strs {ws : List Str} {ys zs : List D} (h : (ys ++ zs).Perm (ws.map D.str)) : ∃ us vs : List Str, ys = us.map .str ∧ zs = vs.map .str ∧ (us ++ vs).Perm ws := by
  have all : ∀ d ∈ ys ++ zs, ∃ w : Str, d = .str w := fun d hd => by
    obtain ⟨w, _, e⟩ := List.mem_map.mp (h.mem_iff.mp hd)
    exact ⟨w, e.symm⟩
  have un : ∀ xs : List D, (∀ d ∈ xs, ∃ w : Str, d = .str w) → ∃ us : List Str, xs = us.map .str := by
    intro xs
    induction xs with
    | nil => exact fun _ => ⟨[], rfl⟩
    | cons x r ih =>
      intro hx
      obtain ⟨w, rfl⟩ := hx x List.mem_cons_self
      obtain ⟨us, rfl⟩ := ih fun d hd => hx d (List.mem_cons_of_mem _ hd)
      exact ⟨w :: us, rfl⟩
  obtain ⟨us, rfl⟩ := un ys fun d hd => all d (List.mem_append_left _ hd)
  obtain ⟨vs, rfl⟩ := un zs fun d hd => all d (List.mem_append_right _ hd)
  refine ⟨us, vs, rfl, rfl, ?_⟩
  rw [← List.map_append] at h
  have e := h.map fun d => match d with
    | .str w => w
    | _ => Str.empty
  rw [List.map_map, List.map_map] at e
  have i : ((fun d : D => match d with
    | .str w => w
    | _ => Str.empty) ∘ D.str) = id := rfl
  rw [i, List.map_id, List.map_id] at e
  exact e
theorem evPl {ρ : FP.Env} {ga : DTA} {as : List Kd} {a : Str} (h : EvA ga ρ (as.map plain)) (hl : as.length ≤ 15) : Ev (dTup (dCons (dTup ga) (dCons (dC (.str a)) dNil))) ρ (plain (.mk as a)) := fun Q E q => h _ _ ⟨by rw [List.length_map]; exact size_small (by omega), line rfl, by rw [plain_mk] at q; exact q⟩
theorem evDispL {ρ : FP.Env} {ga : DTP} {L : Lib} (h : EvKV ga ρ (rowsL plain L)) (nd : (keysL L).Nodup) (hl : L.length ≤ 15) : Ev (dDisp ga) ρ (libP L) := (ev_disp h (by rw [len_rows]; exact hl)).eq (by rw [merge_self nd]; rfl)
end KP
/-! KP31: libraries put together: the plain laws; other names of parts. -/
namespace KP
open PySem L2 FP
variable [FP.Tabl]
section
variable {L M : Lib}
noncomputable def fin (L M : Lib) : Lib := L.filter fun p => decide (getL M p.1 = some p.2)
end
/-! ### other names -/
theorem cut_all {xs : List D} {n : Int} (h0 : 0 ≤ n) (h1 : (xs.length : Int) ≤ n) : cutD xs none (some n) = xs := by
  unfold cutD HT.sIx
  have e : (if n < 0 then (n + (xs.length : Int)).toNat else min n.toNat xs.length) = xs.length := by
    rw [if_neg (by omega)]
    omega
  dsimp only
  rw [e, Nat.sub_zero, List.drop_zero, List.take_length]
end KP
/-! KP32: libraries changed: what the defs promise; plain laws. -/
namespace KP
open PySem L2 FP
variable [FP.Tabl]
/-! ### any values asked for among the parts -/
def strsOf : List D → List Str
  | [] => []
  | .str z :: r => z :: strsOf r
  | _ :: r => strsOf r
/-! ### loops with a first bad one -/
section
variable {ρ : FP.Env} {f fa fb fk fv : DTE} {L M : Lib} {z : Str} {h : Kd → D}
theorem pick_g {zs : List Str} (h : LibG L) (nd : zs.Nodup) (hz : ∀ z ∈ zs, z ∈ keysL L) : LibG (pickL L zs) := by
  refine ⟨by rw [keys_pick]; exact nd, fun p hp => ?_, fun p hp => ?_⟩
  · obtain ⟨z, hz2, rfl⟩ := List.mem_map.mp hp
    obtain ⟨k, _, h3⟩ := getL_in (hz z hz2)
    show isWordS z = true
    exact h.w _ h3
  · obtain ⟨z, hz2, rfl⟩ := List.mem_map.mp hp
    obtain ⟨k, h2, h3⟩ := getL_in (hz z hz2)
    show Good (kindAt L z)
    rw [kindAt_of h2]
    exact h.g _ h3
end
end KP
/-! KP33: other names of parts and atoms: what the defs promise. -/
namespace KP
open PySem L2 FP
end KP
/-! KP34: lines of libraries read. -/
namespace KP
open PySem L2 FP
variable [FP.Tabl]
/-- the part that a line tells -/
def lineV (z : Str) : Option (Str × Kd) := match Txt.split z " : " with
  | [a, b] => if isWordS a = true then (totS b).map fun k => (a, k) else none
  | _ => none
theorem lineV_no {z : Str} (h : ¬ (Txt.split z " : ").length = 2) : lineV z = none := by
  unfold lineV
  split
  · rename_i a b hs
    rw [hs] at h
    exact absurd rfl h
  · rfl
theorem lineV_two {z a b : Str} (h : Txt.split z " : " = [a, b]) : lineV z = if isWordS a = true then (totS b).map fun k => (a, k) else none := by
  unfold lineV
  rw [h]
def lineD : Option (Str × Kd) → D
  | some p => .tup [.str p.1, typeD p.2]
  | none => .non
/-- a line that can be looked at: its halves are short -/
structure lineOk (z : Str) : Prop where
  h : ∀ h ∈ Txt.split z " : ", okT h
  l : z.length ≤ 4000
  n : (Txt.split z " : ").length ≤ 4000
/-- the same of any value -/
def lineVD : D → Option (Str × Kd)
  | .str z => lineV z
  | _ => none
def lineOkD : D → Prop
  | .str z => lineOk z
  | d => okV d
def f_partL : List D → M D := fun ds Q _ => match ds with
  | [d] => lineOkD d ∧ Q (lineD (lineVD d))
  | _ => False
noncomputable def readLs : Nat → Lib → List D → Nat ⊕ Lib
  | _, acc, [] => .inr acc
  | i, acc, z :: r => match lineVD z with
    | some p => if p.1 ∈ keysL acc then .inl i else readLs (i + 1) (acc ++ [p]) r
    | none => .inl i
abbrev lineX (i : Nat) : XD := ⟨"ParseError", [("line", .int (i : Nat))]⟩
def f_readLib : List D → M D := fun ds Q Ex => match ds with
  | [.cl c, .tup vs] => c = "Library" ∧ vs.length ≤ 60 ∧ (∀ z ∈ vs, lineOkD z) ∧ (∀ i, readLs 0 [] vs = .inl i → Ex (lineX i)) ∧ (∀ L, readLs 0 [] vs = .inr L → (L.length ≤ 8 → Q (libD L)) ∧ (8 < L.length → Ex libX))
  | _ => False
theorem lineV_ok {d : D} {p : Str × Kd} (hd : lineOkD d) (ed : lineVD d = some p) : isWordS p.1 = true ∧ Good p.2 := by
  obtain ⟨z, rfl⟩ : ∃ z, d = .str z := by
    cases d with
    | str z => exact ⟨z, rfl⟩
    | _ => cases ed
  have h : lineOk z := hd
  have e : lineV z = some p := ed
  unfold lineV at e
  split at e
  · rename_i a b hs
    by_cases hw : isWordS a = true
    · rw [if_pos hw] at e
      cases ht : totS b with
      | none =>
        rw [ht] at e
        cases e
      | some k =>
        rw [ht] at e
        cases e
        have hb := h.h b (by rw [hs]; simp)
        exact ⟨hw, (tot_sound hb.o hb.l ht).2⟩
    · rw [if_neg hw] at e
      cases e
  · cases e
abbrev dReadB : DTS := dSeq (dSet 5 (dCall f_partL 1 (dCons (dVar 4) dNil))) (dSeq (dIfS (dOr (dB (dOp rdIs (dVar 5) (dC .non))) (dB (dInOD false 2 (dOp rdIx (dVar 5) (dC (.int 0)))))) (dRaiseA "ParseError" "line" (dVar 3)) dNext) (dOdPut 2 (dOp rdIx (dVar 5) (dC (.int 0))) (dOp rdIx (dVar 5) (dC (.int 1)))))
theorem readL_loop {N : Nd} {v : D} : ∀ (zs : List D) (i : Nat) (acc : Lib) (a b c : Sl), LibG acc → acc.length + zs.length ≤ 60 → (∀ z ∈ zs, lineOkD z) → (∀ j, readLs i acc zs = .inl j → ∀ ρ, N.rs (lineX j) ρ) → (∀ L, readLs i acc zs = .inr L → LibG L → L.length ≤ 60 → ∀ a b c, N.nx [Sl.d (.cl "Library"), Sl.d v, Sl.od (rowsL typeD L), a, b, c]) → forD (.many [3, 4]) dReadB N (enumD i zs) [Sl.d (.cl "Library"), Sl.d v, Sl.od (rowsL typeD acc), a, b, c]
  | [], i, acc, a, b, c, hg, hl, _, _, hn => hn acc rfl hg (by simpa using hl) a b c
  | z :: r, i, acc, a, b, c, hg, hl, hz, hx, hn => by
    have hz0 := hz z List.mem_cons_self
    rw [List.length_cons] at hl
    refine ⟨_, rfl, ?_⟩
    refine seq_v (lineD (lineVD z)) (ev_call (a1 (fun Q E q => q) a0) rfl fun Q E q => ⟨hz0, q⟩) ?_
    cases hv : lineVD z with
    | none =>
      have e : readLs i acc (z :: r) = .inl i := by
        rw [readLs, hv]
      exact seq_ifT (or_t (b_v (ev_op (x := .non) (y := .non) (fun Q E q => q) (fun Q E q => q) fun Q q => q))) (hx i e _)
    | some p =>
      have ev0 : ∀ ρ : FP.Env, ρ[5]? = some (.d (lineD (some p))) → Ev (dOp rdIx (dVar 5) (dC (.int 0))) ρ (.str p.1) := fun ρ hr Q E q => by
        show (match ρ[5]? with | some (Sl.d x) => rdIx x (.int 0) Q | _ => False)
        rw [hr]
        exact ⟨_, rfl, q⟩
      have ev1 : ∀ ρ : FP.Env, ρ[5]? = some (.d (lineD (some p))) → Ev (dOp rdIx (dVar 5) (dC (.int 1))) ρ (typeD p.2) := fun ρ hr Q E q => by
        show (match ρ[5]? with | some (Sl.d x) => rdIx x (.int 1) Q | _ => False)
        rw [hr]
        exact ⟨_, rfl, q⟩
      have et := or_f (c := dB (dOp rdIs (dVar 5) (dC .non))) (d := dB (dInOD false 2 (dOp rdIx (dVar 5) (dC (.int 0))))) (ρ := [Sl.d (.cl "Library"), Sl.d v, Sl.od (rowsL typeD acc), Sl.d (.int i), Sl.d z, Sl.d (lineD (some p))]) (b_v (ev_op (x := lineD (some p)) (y := .non) (fun Q E q => q) (fun Q E q => q) fun Q q => q)) (b_v (ev_inOD (neg := false) (kk := .inr p.1) rfl (ev0 _ rfl) rfl))
      have eb : (if false = true then !(valD (rowsL typeD acc) (.inr p.1)).isSome else (valD (rowsL typeD acc) (.inr p.1)).isSome) = decide (p.1 ∈ keysL acc) := in_rows typeD acc p.1
      rw [eb] at et
      by_cases hm : p.1 ∈ keysL acc
      · rw [decide_eq_true hm] at et
        have e : readLs i acc (z :: r) = .inl i := by
          rw [readLs, hv]
          exact if_pos hm
        exact seq_ifT et (hx i e _)
      · rw [decide_eq_false hm] at et
        have e : readLs i acc (z :: r) = readLs (i + 1) (acc ++ [p]) r := by
          rw [readLs, hv]
          exact if_neg hm
        have ep : putL1 acc p.1 p.2 = acc ++ [p] := by
          unfold putL1
          rw [if_neg hm]
        obtain ⟨h1, h2⟩ := lineV_ok hz0 hv
        have hg2 : LibG (acc ++ [p]) := by
          rw [← ep]
          exact hg.put h1 h2
        refine seq_ifF et ?_
        refine odPut rfl (.inr p.1) (.str p.1) (typeD p.2) rfl (by rw [len_rows]; exact Nat.lt_of_le_of_lt (show _ ≤ 60 by omega) (by decide)) (ev0 _ rfl) (ev1 _ rfl) ?_
        rw [put_rows, ep]
        refine readL_loop r (i + 1) (acc ++ [p]) _ _ _ hg2 (by rw [List.length_append]; show acc.length + 1 + r.length ≤ 60; omega) (fun y hy => hz y (List.mem_cons_of_mem _ hy)) (fun j hj => hx j (by rw [e]; exact hj)) (fun L hL => hn L (by rw [e]; exact hL))
def f_linesL : List D → M D := fun ds Q _ => match ds with
  | [x] => ∃ L, x = libD L ∧ Q (.tup ((linesL L).map .str))
  | _ => False
end KP
/-! KP35: libraries changed step by step: plain laws and what the law's defs promise. -/
namespace KP
open PySem L2 FP
variable [FP.Tabl]
section
variable {L M N : Lib}
theorem same_mem (nl : (keysL L).Nodup) (nm : (keysL M).Nodup) (h : ∀ p, p ∈ L ↔ p ∈ M) : sameL L M := fun z => by
  cases e : getL L z with
  | some k => exact (getL_of nm ((h (z, k)).mp (getL_some e))).symm
  | none =>
    cases e2 : getL M z with
    | none => rfl
    | some k =>
      rw [getL_of nl ((h (z, k)).mpr (getL_some e2))] at e
      cases e
end
/-! ### dicts of names -/
/-! ### what the law's defs promise -/
def f_linesP : List D → M D := fun ds Q _ => match ds with
  | [.dct kvs] => ∃ L : Lib, kvs = rowsL plain L ∧ LibG L ∧ L.length ≤ 8 ∧ Q (.lst ((linesL L).map .str))
  | _ => False
/-! ### dicts made by the law -/
theorem pairs_pick (L : Lib) (zs : List Str) : pairsD (zs.map fun z => D.tup [.str z, plain (kindAt L z)]) = some (rowsL plain (pickL L zs)) := by
  have e := pairs_F (fun p : Str × Kd => p.1) (fun p => plain p.2) (pickL L zs)
  unfold pickL at e
  rw [List.map_map] at e
  exact e
/-! ### the law itself -/
theorem neStrs_same {zs : List Str} (h : ∀ z ∈ zs, PyData.strOk z = true) {Q : D → Prop} (q : Q (.bl false)) : rdNe (.tup (zs.map .str)) (.tup (zs.map .str)) Q := by
  obtain ⟨p, p1, p2, p3⟩ := shD_py 64 (.tup (zs.map .str)) (sh_tup (sh_strs h))
  show ∃ p q, toPy _ = some p ∧ toPy _ = some q ∧ SeqAt.shaped p = true ∧ SeqAt.shaped q = true ∧ Q (.bl (!PyData.eqv p q))
  refine ⟨p, p, p1, p1, sh_shaped p2 p3, sh_shaped p2 p3, ?_⟩
  rw [toPy, py_strs] at p1
  cases p1
  rw [PyData.eqv, eqv_strs, decide_eq_true rfl]
  exact q
theorem ev_prop {f : DTE} {ρ : FP.Env} {d : D} {cl : Str} {F : List D → M D} {fs : List (Str × D)} (ho : Ev f ρ (.ins cl fs)) (h : ∀ Q : D → Prop, Q d → F [.ins cl fs] Q F0) : Ev (dProp cl F f) ρ d := fun Q E q => ho _ _ ⟨rfl, h _ q⟩
end KP
/-! KP36: the lines of a library taken apart. -/
namespace KP
open PySem L2 FP
variable [FP.Tabl]
/-- no colon -/
def noC (z : Str) : Prop := 58 ∉ z.cps.toList
theorem noC_app {a b : Str} (h1 : noC a) (h2 : noC b) : noC (a ++ b) := fun m => by
  rw [str_app] at m
  exact (List.mem_append.mp m).elim h1 h2
theorem noC_join {y : Str} (hy : noC y) : ∀ {ts : List Str}, (∀ t ∈ ts, noC t) → noC (Str.join y ts)
  | [], _ => by show noC Str.empty; unfold noC; decide +kernel
  | [t], h => h t List.mem_cons_self
  | t :: u :: r, h => by
    show noC (t ++ y ++ Str.join y (u :: r))
    exact noC_app (noC_app (h t List.mem_cons_self) hy) (noC_join hy fun s hs => h s (List.mem_cons_of_mem _ hs))
theorem lit_noC {z : Str} (h : (!decide (58 ∈ z.cps.toList)) = true) : noC z := fun m => by
  rw [decide_eq_true m] at h
  cases h
theorem word_noC {z : Str} (h : isWordS z = true) : noC z := fun m => by
  unfold isWordS at h
  simp only [Bool.and_eq_true, List.all_eq_true, decide_eq_true_eq] at h
  have h2 := h.2 58 m
  revert h2
  decide +kernel
theorem word_noS {z : Str} (h : isWordS z = true) : 32 ∉ z.cps.toList := fun m => by
  unfold isWordS at h
  simp only [Bool.and_eq_true, List.all_eq_true, decide_eq_true_eq] at h
  have h2 := h.2 32 m
  revert h2
  decide +kernel
mutual
theorem text_noC : ∀ k, (∀ z ∈ places k, noC z) → noC (text k)
  | .mk as a, h => by
    rw [text, TL.join_eq]
    refine noC_join (lit_noC (by decide +kernel)) fun t ht => ?_
    rcases List.mem_append.mp ht with q | q
    · exact texts_noC as (fun z hz => h z (by rw [places]; exact List.mem_append_left _ hz)) t q
    · rw [List.mem_singleton.mp q]
      exact h a (by rw [places]; simp)
theorem texts_noC : ∀ ks, (∀ z ∈ placesL ks, noC z) → ∀ t ∈ texts ks, noC t
  | [], _, t, ht => by
    rw [texts] at ht
    cases ht
  | k :: r, h, t, ht => by
    rw [texts] at ht
    have h1 := text_noC k fun z hz => h z (by rw [placesL]; exact List.mem_append_left _ hz)
    rcases List.mem_cons.mp ht with q | q
    · rw [q]
      split
      · exact h1
      · exact noC_app (noC_app (lit_noC (by decide +kernel)) h1) (lit_noC (by decide +kernel))
    · exact texts_noC r (fun z hz => h z (by rw [placesL]; exact List.mem_append_right _ hz)) t q
end
theorem Good.noC {k : Kd} (g : Good k) : noC (text k) := text_noC k fun z hz => word_noC (g.w z hz)
/-- no separator: one piece -/
theorem spl_noC : ∀ (q acc : List Nat), 58 ∉ q → TL.spl [32, 58, 32] 0 acc q = [acc ++ q]
  | [], acc, _ => by rw [TL.spl_nil, List.append_nil]
  | c :: r, acc, h => by
    have hp : TL.pre [32, 58, 32] (c :: r) = false := by
      cases e : TL.pre [32, 58, 32] (c :: r) with
      | false => rfl
      | true =>
        unfold TL.pre at e
        have e2 := eq_of_beq e
        cases r with
        | nil => simp at e2
        | cons d t =>
          simp at e2
          exact absurd (by rw [e2.2.1]; simp) h
    have e : TL.spl [32, 58, 32] 0 acc (c :: r) = TL.spl [32, 58, 32] 0 (acc ++ [c]) r := by
      show (if TL.pre [32, 58, 32] (c :: r) = true then _ else _) = _
      rw [if_neg (by rw [hp]; exact Bool.false_ne_true)]
    rw [e, spl_noC r (acc ++ [c]) fun m => h (List.mem_cons_of_mem _ m), List.append_assoc]
    rfl
theorem sep_S : (" : " : Str) = SX.S [32, 58, 32] := by decide +kernel
theorem split_two {a b : Str} (h1 : 32 ∉ a.cps.toList) (hb : noC b) : Txt.split (a ++ " : " ++ b) " : " = [a, b] := by
  have e : a ++ " : " ++ b = SX.S (a.cps.toList ++ ([32, 58, 32] ++ b.cps.toList)) := by
    conv => lhs; rw [← SX.S_tl a, ← SX.S_tl b, sep_S, SX.S_cat, SX.S_cat, List.append_assoc]
  rw [e, sep_S, SX.split_S (by decide) (by decide), SX.spl_free (sep := 32 :: [58, 32]) b.cps.toList (by decide) (SX.free_head h1), spl_noC _ [] hb]
  show [SX.S a.cps.toList, SX.S ([] ++ b.cps.toList)] = [a, b]
  rw [List.nil_append, SX.S_tl, SX.S_tl]
theorem split_one {z : Str} (h : noC z) : Txt.split z " : " = [z] := by
  conv => lhs; rw [← SX.S_tl z]
  rw [sep_S, SX.split_S (by decide) (by decide), spl_noC _ [] h]
  show [SX.S ([] ++ z.cps.toList)] = [z]
  rw [List.nil_append, SX.S_tl]
theorem line_split {p : Str × Kd} (hw : isWordS p.1 = true) (hg : Good p.2) : Txt.split (lineS p) " : " = [p.1, text p.2] := split_two (word_noS hw) hg.noC
theorem lineV_line {p : Str × Kd} (hw : isWordS p.1 = true) (hg : Good p.2) : lineV (lineS p) = some p := by
  rw [lineV_two (line_split hw hg), if_pos hw, tot_text hg]
  rfl
theorem line_ok {p : Str × Kd} (hw : isWordS p.1 = true) (hg : Good p.2) : lineOk (lineS p) := by
  have hl := word_len hw
  have ht := hg.text_len
  have e3 : (" : " : Str).length = 3 := by decide +kernel
  refine ⟨fun h hh => ?_, ?_, by rw [line_split hw hg]; show 2 ≤ 4000; decide⟩
  · rw [line_split hw hg] at hh
    simp only [List.mem_cons, List.not_mem_nil, or_false] at hh
    rcases hh with rfl | rfl
    · exact ⟨word_ok hw, by omega⟩
    · exact ⟨hg.okStr, by omega⟩
  · unfold lineS
    rw [len_app, len_app, e3]
    omega
/-- lines with different names are read as what they tell -/
theorem read_lines : ∀ (ps : Lib) (i : Nat) (acc : Lib), (∀ p ∈ ps, isWordS p.1 = true ∧ Good p.2) → (keysL (acc ++ ps)).Nodup → readLs i acc (ps.map fun p => .str (lineS p)) = .inr (acc ++ ps)
  | [], i, acc, _, _ => by
    rw [List.map_nil, readLs, List.append_nil]
  | p :: r, i, acc, h, nd => by
    obtain ⟨h1, h2⟩ := h p List.mem_cons_self
    have hn : p.1 ∉ keysL acc := fun m => by
      unfold keysL at nd
      rw [List.map_append, List.nodup_append] at nd
      exact nd.2.2 p.1 m p.1 (by simp) rfl
    have e : acc ++ p :: r = (acc ++ [p]) ++ r := by simp
    have el : lineVD (.str (lineS p)) = some p := lineV_line h1 h2
    rw [List.map_cons, readLs, el]
    show (if p.1 ∈ keysL acc then _ else _) = _
    rw [if_neg hn, read_lines r (i + 1) (acc ++ [p]) (fun x hx => h x (List.mem_cons_of_mem _ hx)) (by rw [← e]; exact nd), e]
/-- the first wrong line -/
theorem read_wrong : ∀ (ps : Lib) (i : Nat) (acc : Lib) (z : D) (rest : List D), (∀ p ∈ ps, isWordS p.1 = true ∧ Good p.2) → (keysL (acc ++ ps)).Nodup → (lineVD z = none ∨ ∃ p, lineVD z = some p ∧ p.1 ∈ keysL (acc ++ ps)) → readLs i acc ((ps.map fun p => .str (lineS p)) ++ z :: rest) = .inl (i + ps.length)
  | [], i, acc, z, rest, _, _, hz => by
    rw [List.append_nil] at hz
    rw [List.map_nil, List.nil_append, readLs]
    rcases hz with e | ⟨p, e, m⟩
    · rw [e]
      rfl
    · rw [e]
      show (if p.1 ∈ keysL acc then _ else _) = _
      rw [if_pos m]
      rfl
  | p :: r, i, acc, z, rest, h, nd, hz => by
    obtain ⟨h1, h2⟩ := h p List.mem_cons_self
    have hn : p.1 ∉ keysL acc := fun m => by
      unfold keysL at nd
      rw [List.map_append, List.nodup_append] at nd
      exact nd.2.2 p.1 m p.1 (by simp) rfl
    have e : acc ++ p :: r = (acc ++ [p]) ++ r := by simp
    have el : lineVD (.str (lineS p)) = some p := lineV_line h1 h2
    rw [List.map_cons, List.cons_append, readLs, el]
    show (if p.1 ∈ keysL acc then _ else _) = _
    rw [if_neg hn, read_wrong r (i + 1) (acc ++ [p]) z rest (fun x hx => h x (List.mem_cons_of_mem _ hx)) (by rw [← e]; exact nd) (by rw [← e]; exact hz), List.length_cons]
    congr 1
    omega
end KP
/-! KP37: spoilt lines tell no part. -/
namespace KP
open PySem L2 FP
variable [FP.Tabl]
/-- a text ends with a letter -/
def endsL (z : Str) : Prop := ∃ pre c, z.cps.toList = pre ++ [c] ∧ c ∈ letters
theorem word_ends {z : Str} (h : isWordS z = true) : endsL z := by
  have hl := word_len h
  unfold isWordS at h
  simp only [Bool.and_eq_true, List.all_eq_true, decide_eq_true_eq] at h
  have ne : z.cps.toList ≠ [] := fun e => by
    have e2 : z.length = 0 := by
      show z.cps.size = 0
      rw [← Array.length_toList, e]
      rfl
    omega
  exact ⟨z.cps.toList.dropLast, z.cps.toList.getLast ne, (List.dropLast_concat_getLast ne).symm, h.2 _ (List.getLast_mem ne)⟩
theorem ends_app {a b : Str} (h : endsL b) : endsL (a ++ b) := by
  obtain ⟨pre, c, e, hc⟩ := h
  exact ⟨a.cps.toList ++ pre, c, by rw [str_app, e, List.append_assoc], hc⟩
theorem ends_join {y a : Str} (h : endsL a) : ∀ ts : List Str, endsL (Str.join y (ts ++ [a]))
  | [] => h
  | [t] => by
    show endsL (t ++ y ++ a)
    exact ends_app h
  | t :: u :: r => by
    show endsL (t ++ y ++ Str.join y (u :: r ++ [a]))
    exact ends_app (ends_join h (u :: r))
theorem text_ends {k : Kd} (g : Good k) : endsL (text k) := by
  cases k with
  | mk as a =>
    rw [text, TL.join_eq]
    exact ends_join (word_ends g.atom) _
theorem tot_end {z : Str} (ho : okT z) {pre : List Nat} {c : Nat} (e : z.cps.toList = pre ++ [c]) (hc : c ∉ letters) : totS z = none := by
  cases h : totS z with
  | none => rfl
  | some k =>
    obtain ⟨ez, g⟩ := tot_sound ho.o ho.l h
    obtain ⟨p2, c2, e2, h2⟩ := text_ends g
    rw [← ez, e] at e2
    have e3 := (List.append_inj' e2 rfl).2
    cases e3
    exact absurd h2 hc
/-- signs that no separator begins with are passed over -/
theorem spl_skip : ∀ (la acc r : List Nat), 32 ∉ la → TL.spl [32, 58, 32] 0 acc (la ++ r) = TL.spl [32, 58, 32] 0 (acc ++ la) r
  | [], acc, r, _ => by rw [List.nil_append, List.append_nil]
  | c :: la, acc, r, h => by
    have hp : TL.pre [32, 58, 32] (c :: (la ++ r)) = false := TL.pre_of_head _ _ fun e => h (by rw [e]; exact List.mem_cons_self)
    have e : TL.spl [32, 58, 32] 0 acc (c :: (la ++ r)) = TL.spl [32, 58, 32] 0 (acc ++ [c]) (la ++ r) := by
      show (if TL.pre [32, 58, 32] (c :: (la ++ r)) = true then _ else _) = _
      rw [if_neg (by rw [hp]; exact Bool.false_ne_true)]
    rw [List.cons_append, e, spl_skip la (acc ++ [c]) r fun m => h (List.mem_cons_of_mem _ m), List.append_assoc]
    rfl
theorem free_noC : ∀ {q : List Nat}, 58 ∉ q → SX.free [32, 58, 32] q = true
  | [], _ => rfl
  | c :: r, h => by
    have hp : TL.pre [32, 58, 32] (c :: (r ++ [32, 58, 32])) = false := by
      cases e : TL.pre [32, 58, 32] (c :: (r ++ [32, 58, 32])) with
      | false => rfl
      | true =>
        unfold TL.pre at e
        have e2 := eq_of_beq e
        cases r with
        | nil => simp at e2
        | cons d t =>
          simp at e2
          exact absurd (by rw [e2.2.1]; simp) h
    show (!(TL.pre [32, 58, 32] (c :: (r ++ [32, 58, 32]))) && SX.free [32, 58, 32] r) = true
    rw [hp, free_noC fun m => h (List.mem_cons_of_mem _ m)]
    rfl
theorem one_none {z : Str} (h : Txt.split z " : " = [z]) : lineV z = none := lineV_no (by rw [h]; show ¬ (1 = 2); decide)
section
variable {a b : Str}
theorem bad_colon (h1 : 32 ∉ a.cps.toList) (hb : noC b) : Txt.split (a ++ ": " ++ b) " : " = [a ++ ": " ++ b] := by
  have es : (": " : Str) = SX.S [58, 32] := by decide +kernel
  have e : a ++ ": " ++ b = SX.S (a.cps.toList ++ ([58] ++ (32 :: b.cps.toList))) := by
    conv => lhs; rw [← SX.S_tl a, ← SX.S_tl b, es, SX.S_cat, SX.S_cat, List.append_assoc]
    rfl
  conv => lhs; rw [e]
  rw [sep_S, SX.split_S (by decide) (by decide), spl_skip _ _ _ h1, spl_skip [58] _ _ (by decide), spl_noC _ _ (by
    intro m
    rcases List.mem_cons.mp m with q | q
    · cases q
    · exact hb q), e]
  show [SX.S (([] ++ a.cps.toList ++ [58]) ++ (32 :: b.cps.toList))] = _
  rw [List.nil_append, List.append_assoc]
theorem bad_three {c : Str} (h1 : 32 ∉ a.cps.toList) (hb : noC b) (hc : noC c) : Txt.split (a ++ " : " ++ b ++ " : " ++ c) " : " = [a, b, c] := by
  have e : a ++ " : " ++ b ++ " : " ++ c = SX.S (a.cps.toList ++ ([32, 58, 32] ++ (b.cps.toList ++ ([32, 58, 32] ++ c.cps.toList)))) := by
    conv => lhs; rw [← SX.S_tl a, ← SX.S_tl b, ← SX.S_tl c, sep_S, SX.S_cat, SX.S_cat, SX.S_cat, SX.S_cat, List.append_assoc, List.append_assoc, List.append_assoc]
  rw [e, sep_S, SX.split_S (by decide) (by decide), SX.spl_free (sep := 32 :: [58, 32]) _ (by decide) (SX.free_head h1), SX.spl_free (sep := [32, 58, 32]) _ (by decide) (free_noC hb), spl_noC _ [] hc]
  show [SX.S a.cps.toList, SX.S b.cps.toList, SX.S ([] ++ c.cps.toList)] = [a, b, c]
  rw [List.nil_append, SX.S_tl, SX.S_tl, SX.S_tl]
end
end KP
/-! KP38: a line's separator exchanged; the law's spoilt lines. -/
namespace KP
open PySem L2 FP
variable [FP.Tabl]
theorem repl_skip {z : List Nat} : ∀ {la r : List Nat}, 32 ∉ la → StrLaws.replL [32, 58, 32] z (la ++ r) = la ++ StrLaws.replL [32, 58, 32] z r
  | [], r, _ => rfl
  | c :: la, r, h => by
    rw [List.cons_append, StrLaws.replL_miss (fun e => h (by
      have e2 := (List.cons.inj (show c :: _ = 32 :: _ from e)).1
      rw [e2]
      exact List.mem_cons_self)), repl_skip fun m => h (List.mem_cons_of_mem _ m)]
    rfl
theorem repl_noC {z : List Nat} : ∀ {q : List Nat}, 58 ∉ q → StrLaws.replL [32, 58, 32] z q = q
  | [], _ => StrLaws.replL_nil
  | c :: r, h => by
    rw [StrLaws.replL_miss (fun e => by
      cases r with
      | nil => simp at e
      | cons d t =>
        simp at e
        exact h (by rw [e.2.1]; simp)), repl_noC fun m => h (List.mem_cons_of_mem _ m)]
theorem repl_line {a b y : Str} (h1 : 32 ∉ a.cps.toList) (hb : noC b) : Txt.replace (a ++ " : " ++ b) " : " y = a ++ y ++ b := by
  have e := StrLaws.replace_list (x := a ++ " : " ++ b) (y := " : ") (z := y) (by decide +kernel)
  have ey : (" : " : Str).cps.toList = [32, 58, 32] := by decide +kernel
  rw [ey, str_app, str_app, ey, List.append_assoc, repl_skip h1] at e
  have e2 : StrLaws.replL [32, 58, 32] y.cps.toList ([32, 58, 32] ++ b.cps.toList) = y.cps.toList ++ b.cps.toList := by
    have hh := StrLaws.replL_hit (y := [32, 58, 32]) (z := y.cps.toList) (c := 32) (r := [58, 32] ++ b.cps.toList) (by decide) (by rfl)
    have hr := repl_noC (z := y.cps.toList) hb
    show StrLaws.replL [32, 58, 32] y.cps.toList (32 :: ([58, 32] ++ b.cps.toList)) = _
    rw [hh]
    show y.cps.toList ++ StrLaws.replL [32, 58, 32] y.cps.toList b.cps.toList = _
    rw [hr]
  rw [e2] at e
  refine (SX.S_tl _).symm.trans ?_
  rw [e]
  conv => rhs; rw [← SX.S_tl a, ← SX.S_tl y, ← SX.S_tl b, SX.S_cat, SX.S_cat, List.append_assoc]
end KP
/-! KP39: law k11: what its defs promise; spoilt lines; small steps. -/
namespace KP
open PySem L2 FP
variable [FP.Tabl]
/-! ### small steps -/
section
variable {ρ : FP.Env} {f fa fb : DTE} {g : DTS} {N : Nd} {i j : Nat}
theorem seq_par {ga : DTA} (x y : D) (h : EvA ga ρ [x, y]) (hg : g N ((ρ.set i (.d x)).set j (.d y))) : dSeq (dPar i j ga) g N ρ := h _ _ hg
theorem opP {rd : RD2} {P1 P2 P : D → Prop} (ha : EvP fa ρ P1) (hb : EvP fb ρ P2) (h : ∀ x y, P1 x → P2 y → ∀ Q : D → Prop, (∀ d, P d → Q d) → rd x y Q) : EvP (dOp rd fa fb) ρ P := fun Q E q => ha _ _ fun x px => hb _ _ fun y py => h x y px py Q q
theorem lstP1 {P : D → Prop} (h : EvP f ρ P) : EvP (dLst (dCons f dNil)) ρ (fun d => ∃ x, d = .lst [x] ∧ P x) := fun Q E q => h _ _ fun d p => ⟨by show 1 ≤ sizeLine; decide, q _ ⟨d, rfl, p⟩⟩
theorem ev_repl {a y z : Str} (h : Ev f ρ (.str a)) (hl : a.length + (a.length + 1) * z.length ≤ 16777216) : Ev (dRepl f y z) ρ (.str (Txt.replace a y z)) := fun Q E q => h _ _ ⟨hl, q⟩
theorem try_m {cs : List Str} {gs : List ClD} {fb : DTS} (h : ∀ N' : Nd, N'.rt = N.rt → (∀ x, (x.cls ∈ cs ∧ dCls N gs x ρ) → N'.rs x ρ) → fb N' ρ) : dTryM cs gs fb N ρ := h _ rfl fun x k => k
theorem sl_to {xs : List D} {n : Nat} (ha : Ev fa ρ (.lst xs)) (hb : Ev fb ρ (.int n)) (h : n ≤ xs.length) : Ev (dSl fa dONone (dOSome fb)) ρ (.lst (xs.take n)) := fun Q E q => ha _ _ (hb _ _ (by
  have e : cutD xs none (some (n : Int)) = xs.take n := by
    unfold cutD
    have e1 : HT.sIx xs.length 0 none = 0 := rfl
    rw [e1, HT.sIx_nat, List.drop_zero, Nat.sub_zero]
    congr 1
    omega
  show Q (.lst (cutD xs none (some (n : Int))))
  rw [e]
  exact q))
theorem sl_from {xs : List D} {n : Nat} {m : Int} (ha : Ev fa ρ (.lst xs)) (hb : Ev fb ρ (.int m)) (hm : m = (n : Int)) (h : n ≤ xs.length) : Ev (dSl fa (dOSome fb) dONone) ρ (.lst (xs.drop n)) := fun Q E q => ha _ _ (hb _ _ (by
  have e := cut_from xs (n := (n : Int)) (by omega) (by omega)
  rw [hm]
  show Q (.lst (cutD xs (some (n : Int)) none))
  rw [e]
  exact q))
theorem ev_ixL {xs : List D} {n : Nat} {d : D} (ha : Ev fa ρ (.lst xs)) (hb : Ev fb ρ (.int n)) (h : xs[n]? = some d) : Ev (dOp rdIx fa fb) ρ d := ev_op ha hb fun Q q => ⟨d, at_of rfl h, q⟩
end
section
variable {ρ : FP.Env} {N : Nd} {cl : Str} {F : List D → M D} {ga : DTA} {ds : List D}
theorem ret_cm (ha : EvA ga ρ ds) (hl : ds.length ≤ sizeLine) (h : F [.cl cl, .tup ds] (fun d => N.rt d ρ) (fun x => N.rs x ρ)) : dRet (dCMethS cl F ga) N ρ := ha _ _ ⟨hl, h⟩
theorem cm_ev {Q : D → Prop} {E : XD → Prop} (ha : EvA ga ρ ds) (hl : ds.length ≤ sizeLine) (h : F [.cl cl, .tup ds] Q E) : dCMethS cl F ga ρ Q E := ha _ _ ⟨hl, h⟩
end
/-! ### reading lines -/
def parS (i : Nat) : Str := "parse " ++ PyData.shown (.int (i : Int))
noncomputable def told11 (xs : List D) : D := match readLs 0 [] xs with
  | .inl i => .str (parS i)
  | .inr L => libD L
theorem told_inl {xs : List D} {i : Nat} (h : readLs 0 [] xs = .inl i) : told11 xs = .str (parS i) := by
  unfold told11
  rw [h]
theorem told_inr {xs : List D} {L : Lib} (h : readLs 0 [] xs = .inr L) : told11 xs = libD L := by
  unfold told11
  rw [h]
theorem readLs_len : ∀ (zs : List D) (i : Nat) (acc L : Lib), readLs i acc zs = .inr L → L.length = acc.length + zs.length
  | [], i, acc, L, h => by
    rw [readLs] at h
    cases h
    rfl
  | z :: r, i, acc, L, h => by
    rw [readLs] at h
    cases hv : lineVD z with
    | none =>
      rw [hv] at h
      cases h
    | some p =>
      rw [hv] at h
      by_cases hm : p.1 ∈ keysL acc
      · have h2 : (if p.1 ∈ keysL acc then Sum.inl i else readLs (i + 1) (acc ++ [p]) r) = Sum.inr L := h
        rw [if_pos hm] at h2
        cases h2
      · have h2 : (if p.1 ∈ keysL acc then Sum.inl i else readLs (i + 1) (acc ++ [p]) r) = Sum.inr L := h
        rw [if_neg hm] at h2
        have e := readLs_len r _ _ _ h2
        rw [e, List.length_append, List.length_singleton, List.length_cons]
        omega
theorem readLs_lt : ∀ (zs : List D) (i : Nat) (acc : Lib) (j : Nat), readLs i acc zs = .inl j → j < i + zs.length
  | [], i, acc, j, h => by
    rw [readLs] at h
    cases h
  | z :: r, i, acc, j, h => by
    rw [readLs] at h
    rw [List.length_cons]
    cases hv : lineVD z with
    | none =>
      rw [hv] at h
      cases h
      omega
    | some p =>
      rw [hv] at h
      by_cases hm : p.1 ∈ keysL acc
      · have h2 : (if p.1 ∈ keysL acc then Sum.inl i else readLs (i + 1) (acc ++ [p]) r) = Sum.inl j := h
        rw [if_pos hm] at h2
        cases h2
        omega
      · have h2 : (if p.1 ∈ keysL acc then Sum.inl i else readLs (i + 1) (acc ++ [p]) r) = Sum.inl j := h
        rw [if_neg hm] at h2
        have e := readLs_lt r _ _ _ h2
        omega
theorem small_shown : ∀ i < 10, (PyData.shown (.int (i : Nat))) = Str.ofString (toString (i : Int)) ∧ (PyData.int (i : Nat)).showable = true ∧ (PyData.shown (.int (i : Nat))).length ≤ 2 ∧ ((i : Int)).natAbs.log2 < 1920 := by decide +kernel
/-! ### what the law's defs promise -/
def f_told11 : List D → M D := fun ds Q _ => match ds with
  | [.lst xs] => xs.length ≤ 6 ∧ (∀ z ∈ xs, lineOkD z) ∧ Q (told11 xs)
  | _ => False
def f_spoilt : List D → M D := fun ds Q _ => match ds with
  | [.tok, .str z] => ∃ p : Str × Kd, z = lineS p ∧ isWordS p.1 = true ∧ Good p.2 ∧ ∀ d, lineOkD d → lineVD d = none → Q d
  | _ => False
def nineW : List Str := ["a", "b", "c", "d", "e", "f", "g", "h", "i"]
def kn : Kd := .mk [] "n"
def nineP (n : Nat) : Lib := (nineW.take n).map fun z => (z, kn)
def nineD : List D := [.str "a : n", .str "b : n", .str "c : n", .str "d : n", .str "e : n", .str "f : n", .str "g : n", .str "h : n", .str "i : n"]
def f_nine : List D → M D := fun ds Q _ => match ds with
  | [.lst xs] => xs = nineD ∧ Q (.str "library")
  | _ => False
def f_lenL : List D → M D := fun ds Q _ => match ds with
  | [x] => ∃ L, x = libD L ∧ LibG L ∧ L.length ≤ 60 ∧ Q (.int L.length)
  | _ => False
section
variable {ρ : FP.Env} {f fa fb : DTE} {ga : DTA}
theorem evTold {xs : List D} {v : D} (h : Ev f ρ (.lst xs)) (h6 : xs.length ≤ 6) (hz : ∀ z ∈ xs, lineOkD z) (e : told11 xs = v) : Ev (dCall f_told11 1 (dCons f dNil)) ρ v := fun Q E q => h _ _ ⟨rfl, h6, hz, by rw [e]; exact q⟩
theorem evToldP {v : D} (h : EvP f ρ (fun d => ∃ xs, d = .lst xs ∧ xs.length ≤ 6 ∧ (∀ z ∈ xs, lineOkD z) ∧ told11 xs = v)) : Ev (dCall f_told11 1 (dCons f dNil)) ρ v := fun Q E q => h _ _ fun d ⟨xs, e, h6, hz, ev⟩ => by
  subst e
  exact ⟨rfl, h6, hz, by rw [ev]; exact q⟩
theorem evPar {i : Nat} (h : i < 10) (hf : Ev f ρ (.int i)) : Ev (dOp rdAdd (dC (.str "parse ")) (dCB rdStr (dCons f dNil))) ρ (.str (parS i)) := by
  obtain ⟨e1, _, e3, e4⟩ := small_shown i h
  refine ev_op (x := .str "parse ") (y := .str (PyData.shown (.int i))) (fun Q E q => q) (ev_cb (a1 hf a0) fun Q q => ⟨e4, ?_⟩) fun Q q => ⟨?_, q⟩
  · rw [e1] at q
    exact q
  · have e6 : ("parse " : Str).length = 6 := by decide +kernel
    rw [e6]
    exact size_small (by omega)
end
/-! ### spoilt lines -/
theorem ok_lit {z : Str} (h : (decide (z.length ≤ 990) && (decide ((Txt.split z " : ").length ≤ 4000) && (Txt.split z " : ").all fun y => decide (y.length ≤ 990) && y.cps.toList.all fun c => decide (c < 1114112))) = true) : lineOk z := by
  simp only [Bool.and_eq_true, decide_eq_true_eq, List.all_eq_true] at h
  refine ⟨fun y hy => ?_, by omega, h.2.1⟩
  have h2 := h.2.2 y hy
  exact ⟨⟨by omega, h2.2⟩, h2.1⟩
theorem no_lit {z : Str} (h : (lineV z).isNone = true) : lineV z = none := Option.isNone_iff_eq_none.mp h
theorem okT_app {a b : Str} (ha : okStr a) (hb : okStr b) (hl : a.length + b.length ≤ 990) : okT (a ++ b) := ⟨⟨by rw [len_app]; omega, fun c hc => by
  rw [str_app] at hc
  exact (List.mem_append.mp hc).elim (ha.2 c) (hb.2 c)⟩, by rw [len_app]; exact hl⟩
theorem ok_one {z : Str} (h : Txt.split z " : " = [z]) (ho : okT z) : lineOk z := ⟨fun y hy => by
  rw [h] at hy
  rw [List.mem_singleton.mp hy]
  exact ho, by have := ho.l; omega, by rw [h]; show 1 ≤ 4000; decide⟩
theorem ok_two {z a b : Str} (h : Txt.split z " : " = [a, b]) (ha : okT a) (hb : okT b) (hz : z.length ≤ 4000) : lineOk z := ⟨fun y hy => by
  rw [h] at hy
  simp only [List.mem_cons, List.not_mem_nil, or_false] at hy
  rcases hy with rfl | rfl
  · exact ha
  · exact hb, hz, by rw [h]; show 2 ≤ 4000; decide⟩
theorem two_bad {z a b : Str} (h : Txt.split z " : " = [a, b]) (hb : totS b = none) : lineV z = none := by
  rw [lineV_two h, hb]
  split <;> rfl
theorem two_badW {z a b : Str} (h : Txt.split z " : " = [a, b]) (ha : isWordS a = false) : lineV z = none := by
  rw [lineV_two h, ha]
  rfl
theorem str_assoc (a b c : Str) : a ++ b ++ c = a ++ (b ++ c) := by
  refine (SX.S_tl _).symm.trans ((congrArg SX.S ?_).trans (SX.S_tl _))
  rw [str_app, str_app, str_app, str_app, List.append_assoc]
theorem blank_two {a b : Str} (hw : isWordS a = true) (hb : noC b) : Txt.split (" " ++ (a ++ " : " ++ b)) " : " = [" " ++ a, b] := by
  have es : (" " : Str) = SX.S [32] := by decide +kernel
  have e : " " ++ (a ++ " : " ++ b) = SX.S ((32 :: a.cps.toList) ++ ([32, 58, 32] ++ b.cps.toList)) := by
    conv => lhs; rw [← SX.S_tl a, ← SX.S_tl b, sep_S, es, SX.S_cat, SX.S_cat, SX.S_cat, List.append_assoc]
    rfl
  have hf : SX.free [32, 58, 32] (32 :: a.cps.toList) = true := by
    have h1 := word_noS hw
    have h2 := word_noC hw
    unfold noC at h2
    have hl := (word_len hw).1
    cases ha : a.cps.toList with
    | nil =>
      have e2 : a.length = 0 := by
        show a.cps.size = 0
        rw [← Array.length_toList, ha]
        rfl
      omega
    | cons d r =>
      rw [ha] at h1 h2
      have hp : TL.pre [32, 58, 32] (32 :: (d :: r ++ [32, 58, 32])) = false := by
        cases e : TL.pre [32, 58, 32] (32 :: (d :: r ++ [32, 58, 32])) with
        | false => rfl
        | true =>
          unfold TL.pre at e
          have e2 := eq_of_beq e
          simp at e2
          exact absurd (by rw [e2.1]; exact List.mem_cons_self) h2
      show (!(TL.pre [32, 58, 32] (32 :: (d :: r ++ [32, 58, 32]))) && SX.free [32, 58, 32] (d :: r)) = true
      rw [hp, SX.free_head h1]
      rfl
  rw [e, sep_S, SX.split_S (by decide) (by decide), SX.spl_free _ (by decide) hf, spl_noC _ [] hb]
  show [SX.S (32 :: a.cps.toList), SX.S ([] ++ b.cps.toList)] = _
  rw [List.nil_append, SX.S_tl, show SX.S (32 :: a.cps.toList) = " " ++ a by
    conv => rhs; rw [← SX.S_tl a, es, SX.S_cat]
    rfl]
abbrev spoiltL (z : Str) : List D := [.non, .int 0, .str "", .str (Txt.replace z " : " ": "), .str (Txt.replace z " : " " "), .str (z ++ " "), .str (" " ++ z), .str (z ++ " : a"), .str "f : "]
abbrev spoiltM (z : Str) : List D := [.str " : a", .str "f : (a)", .str "F : a", .str "f1 : a", .str "abcdefghi : a", .tup [.str z], .lst [.str z], .str (z ++ ")"), .str "f : a->b", .str "f"]
theorem spoilt_ok {p : Str × Kd} (hw : isWordS p.1 = true) (hg : Good p.2) {d : D} (h : d ∈ spoiltL (lineS p) ++ spoiltM (lineS p)) : lineOkD d ∧ lineVD d = none := by
  have hn := word_noS hw
  have hc := hg.noC
  have hlw := word_len hw
  have hlt := hg.text_len
  have ow := word_ok hw
  have ot := hg.okStr
  have e1 : (" " : Str).length = 1 := by decide +kernel
  have e2 : (": " : Str).length = 2 := by decide +kernel
  have e3 : (" : " : Str).length = 3 := by decide +kernel
  have ep : (")" : Str).length = 1 := by decide +kernel
  have o1 : okStr " " := (okT_of (by decide +kernel)).o
  have o2 : okStr ": " := (okT_of (by decide +kernel)).o
  have op : okStr ")" := (okT_of (by decide +kernel)).o
  have lit : ∀ z : Str, (decide (z.length ≤ 990) && (decide ((Txt.split z " : ").length ≤ 4000) && (Txt.split z " : ").all fun y => decide (y.length ≤ 990) && y.cps.toList.all fun c => decide (c < 1114112))) = true → (lineV z).isNone = true → lineOkD (.str z) ∧ lineVD (.str z) = none := fun z h1 h2 => ⟨ok_lit h1, no_lit h2⟩
  have tail : ∀ (y : Str) (c : Nat), y.cps.toList = [c] → y.length = 1 → okStr y → c ≠ 58 → c ∉ letters → lineOkD (.str (lineS p ++ y)) ∧ lineVD (.str (lineS p ++ y)) = none := fun y c hy hy1 oy h58 hl => by
    have e : lineS p ++ y = p.1 ++ " : " ++ (text p.2 ++ y) := by
      unfold lineS
      rw [str_assoc (p.1 ++ " : ")]
    have ny : noC y := by
      unfold noC
      rw [hy]
      simp
      exact fun q => h58 q.symm
    have hs : Txt.split (lineS p ++ y) " : " = [p.1, text p.2 ++ y] := by
      rw [e]
      exact split_two hn (noC_app hc ny)
    have ho : okT (text p.2 ++ y) := okT_app ot oy (by omega)
    refine ⟨ok_two hs ⟨ow, by omega⟩ ho ?_, two_bad hs (tot_end ho (pre := (text p.2).cps.toList) (c := c) (by rw [str_app, hy]) hl)⟩
    rw [e, len_app, len_app, len_app, e3]
    omega
  simp only [List.mem_append, List.mem_cons, List.not_mem_nil, or_false] at h
  rcases h with (rfl | rfl | rfl | rfl | rfl | rfl | rfl | rfl | rfl) | (rfl | rfl | rfl | rfl | rfl | rfl | rfl | rfl | rfl | rfl)
  · exact ⟨trivial, rfl⟩
  · exact ⟨trivial, rfl⟩
  · exact lit _ (by kernel_rfl) (by kernel_rfl)
  · have e : Txt.replace (lineS p) " : " ": " = p.1 ++ ": " ++ text p.2 := repl_line hn hc
    have hs := bad_colon hn hc
    rw [e]
    exact ⟨ok_one hs (okT_app (okT_app ow o2 (by omega)).o ot (by rw [len_app]; omega)), one_none hs⟩
  · have e : Txt.replace (lineS p) " : " " " = p.1 ++ " " ++ text p.2 := repl_line hn hc
    have hs : Txt.split (p.1 ++ " " ++ text p.2) " : " = [p.1 ++ " " ++ text p.2] := split_one (noC_app (noC_app (word_noC hw) (lit_noC (by decide +kernel))) hc)
    rw [e]
    exact ⟨ok_one hs (okT_app (okT_app ow o1 (by omega)).o ot (by rw [len_app]; omega)), one_none hs⟩
  · exact tail " " 32 (by decide +kernel) e1 o1 (by decide) (by decide)
  · have hs : Txt.split (" " ++ lineS p) " : " = [" " ++ p.1, text p.2] := blank_two hw hc
    refine ⟨ok_two hs (okT_app o1 ow (by omega)) ⟨ot, by omega⟩ ?_, two_badW hs ?_⟩
    · unfold lineS
      rw [len_app, len_app, len_app, e1, e3]
      omega
    · cases hb : isWordS (" " ++ p.1) with
      | false => rfl
      | true =>
        refine absurd ?_ (word_noS hb)
        rw [str_app]
        exact List.mem_append_left _ (by decide +kernel)
  · have ea : (" : a" : Str) = " : " ++ "a" := by decide +kernel
    have hs : Txt.split (lineS p ++ " : a") " : " = [p.1, text p.2, "a"] := by
      rw [ea, ← str_assoc]
      exact bad_three hn hc (lit_noC (by decide +kernel))
    refine ⟨⟨fun y hy => ?_, ?_, by rw [hs]; show 3 ≤ 4000; decide⟩, lineV_no (by rw [hs]; show ¬ (3 = 2); decide)⟩
    · rw [hs] at hy
      simp only [List.mem_cons, List.not_mem_nil, or_false] at hy
      rcases hy with rfl | rfl | rfl
      · exact ⟨ow, by omega⟩
      · exact ⟨ot, by omega⟩
      · exact okT_of (by decide +kernel)
    · have e4 : (" : a" : Str).length = 4 := by decide +kernel
      unfold lineS
      rw [len_app, len_app, len_app, e3, e4]
      omega
  · exact lit _ (by kernel_rfl) (by kernel_rfl)
  · exact lit _ (by kernel_rfl) (by kernel_rfl)
  · exact lit _ (by kernel_rfl) (by kernel_rfl)
  · exact lit _ (by kernel_rfl) (by kernel_rfl)
  · exact lit _ (by kernel_rfl) (by kernel_rfl)
  · exact lit _ (by kernel_rfl) (by kernel_rfl)
  · exact ⟨trivial, rfl⟩
  · exact ⟨trivial, rfl⟩
  · exact tail ")" 41 (by decide +kernel) ep op (by decide) (by decide)
  · exact lit _ (by kernel_rfl) (by kernel_rfl)
  · exact lit _ (by kernel_rfl) (by kernel_rfl)
/-! ### lines in any order -/
theorem perm_map {α β : Type} (f : α → β) {ys zs : List β} (h : ys.Perm zs) : ∀ {xs : List α}, zs = xs.map f → ∃ l : List α, l.Perm xs ∧ ys = l.map f := by
  induction h with
  | nil =>
    intro xs e
    cases xs with
    | nil => exact ⟨[], .nil, rfl⟩
    | cons x r => cases e
  | cons a _ ih =>
    intro xs e
    cases xs with
    | nil => cases e
    | cons x r =>
      cases e
      obtain ⟨l, p, q⟩ := ih rfl
      exact ⟨x :: l, p.cons x, by rw [q]; rfl⟩
  | swap a b l =>
    intro xs e
    match xs, e with
    | x :: y :: r, e =>
      cases e
      exact ⟨y :: x :: r, .swap _ _ _, rfl⟩
  | trans _ _ ih1 ih2 =>
    intro xs e
    obtain ⟨l, p, q⟩ := ih2 e
    obtain ⟨m, p2, q2⟩ := ih1 q
    exact ⟨m, p2.trans p, q2⟩
abbrev linesD (ps : Lib) : List D := ps.map fun p => .str (lineS p)
theorem lines_D (L : Lib) : (linesL L).map D.str = linesD (sortL L) := by
  unfold linesL linesD
  rw [List.map_map]
  rfl
theorem LibG.perm {L M : Lib} (h : LibG L) (p : M.Perm L) : LibG M := ⟨(p.map _).nodup_iff.mpr h.nd, fun q hq => h.w q (p.mem_iff.mp hq), fun q hq => h.g q (p.mem_iff.mp hq)⟩
theorem same_perm {L M : Lib} (h : LibG L) (p : M.Perm L) : sameL M L := same_mem (h.perm p).nd h.nd fun q => p.mem_iff
theorem linesD_ok {ps : Lib} (h : LibG ps) : ∀ z ∈ linesD ps, lineOkD z := fun z hz => by
  obtain ⟨p, hp, rfl⟩ := List.mem_map.mp hz
  exact line_ok (h.w p hp) (h.g p hp)
theorem told_lines {ps : Lib} (h : LibG ps) : told11 (linesD ps) = libD ps := told_inr (by
  have e := read_lines ps 0 [] (fun p hp => ⟨h.w p hp, h.g p hp⟩) h.nd
  rw [List.nil_append] at e
  exact e)
theorem told_wrong {ps : Lib} (h : LibG ps) {z : D} {rest : List D} (hz : lineVD z = none ∨ ∃ p, lineVD z = some p ∧ p.1 ∈ keysL ps) : told11 (linesD ps ++ z :: rest) = .str (parS ps.length) := told_inl (by
  have e := read_wrong ps 0 [] z rest (fun p hp => ⟨h.w p hp, h.g p hp⟩) h.nd hz
  rw [Nat.zero_add] at e
  exact e)
theorem take_D (ps : Lib) (n : Nat) : (linesD ps).take n = linesD (ps.take n) := (List.map_take ..).symm
theorem drop_D (ps : Lib) (n : Nat) : (linesD ps).drop n = linesD (ps.drop n) := (List.map_drop ..).symm
theorem LibG.take {L : Lib} (h : LibG L) (n : Nat) : LibG (L.take n) := h.sub (List.take_sublist n L)
theorem LibG.drop {L : Lib} (h : LibG L) (n : Nat) : LibG (L.drop n) := h.sub (List.drop_sublist n L)
/-! ### nine lines -/
theorem goodBA : Good (.mk [.mk [] "b"] "a") := goodB_g (by decide +kernel)
theorem nine_g9 : LibG (nineP 9) := libOk_g (by decide +kernel)
theorem nine_take (n : Nat) : nineP n = (nineP 9).take n := by
  unfold nineP
  rw [← List.map_take, List.take_take]
  by_cases h : n ≤ 9
  · rw [Nat.min_eq_left h]
  · rw [Nat.min_eq_right (by omega), List.take_of_length_le (by show 9 ≤ n; omega), List.take_of_length_le (by show 9 ≤ 9; omega)]
theorem nine_g (n : Nat) : LibG (nineP n) := by
  rw [nine_take]
  exact nine_g9.take n
theorem nine_lines : linesD (nineP 9) = nineD := by kernel_rfl
theorem nine_ok9 : ∀ z ∈ nineD, lineOkD z := by
  rw [← nine_lines]
  exact linesD_ok nine_g9
theorem nine_read9 : readLs 0 [] nineD = .inr (nineP 9) := by
  have e := read_lines (nineP 9) 0 [] (fun p hp => ⟨nine_g9.w p hp, nine_g9.g p hp⟩) nine_g9.nd
  rw [List.nil_append] at e
  rw [← nine_lines]
  exact e
theorem nine_lines8 : linesD (nineP 8) = nineD.take 8 := by kernel_rfl
theorem nine_ok8 : ∀ z ∈ nineD.take 8, lineOkD z := by
  rw [← nine_lines8]
  exact linesD_ok (nine_g 8)
theorem nine_read8 : readLs 0 [] (nineD.take 8) = .inr (nineP 8) := by
  have g := nine_g 8
  have e := read_lines (nineP 8) 0 [] (fun p hp => ⟨g.w p hp, g.g p hp⟩) g.nd
  rw [List.nil_append] at e
  rw [← nine_lines8]
  exact e
end KP
namespace K11
open PySem L2 FP
variable [FP.Tabl]
def topS (i : Nat) : Stmt := PySem.Challenge.pw_fromparts_k11_whole_libraries_and_their.main.body.getD i (.Pass ⟨0, 0, 0, 0⟩)
abbrev s_is_word : Stmt := topS 7
abbrev s_ascending_rows : Stmt := topS 8
abbrev s_ParseError___init__ : Stmt := inClass (topS 15) 0
abbrev s_signs_of : Stmt := topS 22
abbrev s_KindReader___init__ : Stmt := inClass (topS 23) 0
abbrev s_KindReader_take : Stmt := inClass (topS 23) 1
abbrev s_KindReader_take_end : Stmt := inClass (topS 23) 2
abbrev s_KindReader_result : Stmt := inClass (topS 23) 3
abbrev s_shape_of : Stmt := topS 24
abbrev s_kind_in : Stmt := topS 25
abbrev s_order_of : Stmt := topS 26
abbrev s_input_text : Stmt := topS 27
abbrev s_Type___init__ : Stmt := inClass (topS 28) 0
abbrev s_Type_read : Stmt := inClass (topS 28) 1
abbrev s_Type___str__ : Stmt := inClass (topS 28) 20
abbrev s_type_of_text : Stmt := topS 29
abbrev s_is_parts : Stmt := topS 35
abbrev s_part_of_line : Stmt := topS 36
abbrev s_Library___init__ : Stmt := inClass (topS 37) 0
abbrev s_Library_read : Stmt := inClass (topS 37) 1
abbrev s_Library_lines : Stmt := inClass (topS 37) 4
abbrev s_Library___len__ : Stmt := inClass (topS 37) 21
abbrev s_Library___eq__ : Stmt := inClass (topS 37) 23
abbrev s__law_dice : Stmt := topS 43
abbrev s__law_roll : Stmt := topS 44
abbrev s__law_pick : Stmt := topS 45
abbrev s__law_some : Stmt := topS 46
abbrev s__law_text : Stmt := topS 47
abbrev s__law_atoms_of : Stmt := topS 48
abbrev s__law_kind : Stmt := topS 49
abbrev s__law_made_kind : Stmt := topS 50
abbrev s__law_library : Stmt := topS 51
abbrev s__law_known_library : Stmt := topS 52
abbrev s__law_lines : Stmt := topS 53
abbrev s__law_made : Stmt := topS 54
abbrev s__law_told : Stmt := topS 55
abbrev s__law_spoilt : Stmt := topS 56
abbrev s__law_right : Stmt := topS 57
abbrev s__law_nine : Stmt := topS 58
abbrev s_law : Stmt := topS 59
theorem sc_is_word : FnScope ["value", "sign"] ["value"] (defScope s_is_word) := ⟨rfl, rfl, rfl, by decide +kernel, rfl, by decide +kernel, by decide +kernel⟩
theorem sc_ascending_rows : FnScope ["rows", "word"] ["rows"] (defScope s_ascending_rows) := ⟨rfl, rfl, rfl, by decide +kernel, rfl, by decide +kernel, by decide +kernel⟩
theorem sc_signs_of : FnScope ["text", "found", "at", "size"] ["text"] (defScope s_signs_of) := ⟨rfl, rfl, rfl, by decide +kernel, rfl, by decide +kernel, by decide +kernel⟩
theorem sc_KindReader___init__ : FnScope ["self"] ["self"] (defScope s_KindReader___init__) := ⟨rfl, rfl, rfl, by decide +kernel, rfl, by decide +kernel, by decide +kernel⟩
theorem sc_KindReader_take : FnScope ["self", "sign", "can_stand"] ["self", "sign"] (defScope s_KindReader_take) := ⟨rfl, rfl, rfl, by decide +kernel, rfl, by decide +kernel, by decide +kernel⟩
theorem sc_KindReader_take_end : FnScope ["self", "sign", "row"] ["self", "sign"] (defScope s_KindReader_take_end) := ⟨rfl, rfl, rfl, by decide +kernel, rfl, by decide +kernel, by decide +kernel⟩
theorem sc_KindReader_result : FnScope ["self"] ["self"] (defScope s_KindReader_result) := ⟨rfl, rfl, rfl, by decide +kernel, rfl, by decide +kernel, by decide +kernel⟩
theorem sc_shape_of : FnScope ["text", "signs", "reader", "sign"] ["text"] (defScope s_shape_of) := ⟨rfl, rfl, rfl, by decide +kernel, rfl, by decide +kernel, by decide +kernel⟩
theorem sc_kind_in : FnScope ["shape", "one"] ["shape"] (defScope s_kind_in) := ⟨rfl, rfl, rfl, by decide +kernel, rfl, by decide +kernel, by decide +kernel⟩
theorem sc_order_of : FnScope ["inputs", "one"] ["inputs"] (defScope s_order_of) := ⟨rfl, rfl, rfl, by decide +kernel, rfl, by decide +kernel, by decide +kernel⟩
theorem sc_input_text : FnScope ["wanted"] ["wanted"] (defScope s_input_text) := ⟨rfl, rfl, rfl, by decide +kernel, rfl, by decide +kernel, by decide +kernel⟩
theorem sc_Type___init__ : FnScope ["self", "inputs", "atom", "one", "place"] ["self", "inputs", "atom"] (defScope s_Type___init__) := ⟨rfl, rfl, rfl, by decide +kernel, rfl, by decide +kernel, by decide +kernel⟩
theorem sc_Type_read : FnScope ["cls", "text", "found"] ["cls", "text"] (defScope s_Type_read) := ⟨rfl, rfl, rfl, by decide +kernel, rfl, by decide +kernel, by decide +kernel⟩
theorem sc_Type___str__ : FnScope ["self"] ["self"] (defScope s_Type___str__) := ⟨rfl, rfl, rfl, by decide +kernel, rfl, by decide +kernel, by decide +kernel⟩
theorem sc_type_of_text : FnScope ["text", "shape"] ["text"] (defScope s_type_of_text) := ⟨rfl, rfl, rfl, by decide +kernel, rfl, by decide +kernel, by decide +kernel⟩
theorem sc_is_parts : FnScope ["value", "wanted", "name"] ["value"] (defScope s_is_parts) := ⟨rfl, rfl, rfl, by decide +kernel, rfl, by decide +kernel, by decide +kernel⟩
theorem sc_part_of_line : FnScope ["line", "halves"] ["line"] (defScope s_part_of_line) := ⟨rfl, rfl, rfl, by decide +kernel, rfl, by decide +kernel, by decide +kernel⟩
theorem sc_Library___init__ : FnScope ["self", "parts", "told", "name", "wanted"] ["self", "parts"] (defScope s_Library___init__) := ⟨rfl, rfl, rfl, by decide +kernel, rfl, by decide +kernel, by decide +kernel⟩
theorem sc_Library_read : FnScope ["cls", "lines", "found", "at", "line", "pair"] ["cls", "lines"] (defScope s_Library_read) := ⟨rfl, rfl, rfl, by decide +kernel, rfl, by decide +kernel, by decide +kernel⟩
theorem sc_Library_lines : FnScope ["self"] ["self"] (defScope s_Library_lines) := ⟨rfl, rfl, rfl, by decide +kernel, rfl, by decide +kernel, by decide +kernel⟩
theorem sc_Library___len__ : FnScope ["self"] ["self"] (defScope s_Library___len__) := ⟨rfl, rfl, rfl, by decide +kernel, rfl, by decide +kernel, by decide +kernel⟩
theorem sc_Library___eq__ : FnScope ["self", "other"] ["self", "other"] (defScope s_Library___eq__) := ⟨rfl, rfl, rfl, by decide +kernel, rfl, by decide +kernel, by decide +kernel⟩
theorem sc__law_dice : FnScope ["_law_script", "_law_spot", "_law_cell", "_law_great", "_law_blend"] ["_law_script", "_law_spot"] (defScope s__law_dice) := ⟨rfl, rfl, rfl, by decide +kernel, rfl, by decide +kernel, by decide +kernel⟩
theorem sc__law_roll : FnScope ["_law_dice_here", "_law_total", "_law_one", "_law_two", "_law_found"] ["_law_dice_here", "_law_total"] (defScope s__law_roll) := ⟨rfl, rfl, rfl, by decide +kernel, rfl, by decide +kernel, by decide +kernel⟩
theorem sc__law_pick : FnScope ["_law_dice_here", "_law_items"] ["_law_dice_here", "_law_items"] (defScope s__law_pick) := ⟨rfl, rfl, rfl, by decide +kernel, rfl, by decide +kernel, by decide +kernel⟩
theorem sc__law_some : FnScope ["_law_dice_here", "_law_items", "_law_size", "_law_left", "_law_turn"] ["_law_dice_here", "_law_items", "_law_size"] (defScope s__law_some) := ⟨rfl, rfl, rfl, by decide +kernel, rfl, by decide +kernel, by decide +kernel⟩
theorem sc__law_text : FnScope ["_law_kind_here", "_law_rows", "_law_one"] ["_law_kind_here"] (defScope s__law_text) := ⟨rfl, rfl, rfl, by decide +kernel, rfl, by decide +kernel, by decide +kernel⟩
theorem sc__law_atoms_of : FnScope ["_law_kind_here", "_law_found", "_law_one"] ["_law_kind_here"] (defScope s__law_atoms_of) := ⟨rfl, rfl, rfl, by decide +kernel, rfl, by decide +kernel, by decide +kernel⟩
theorem sc__law_kind : FnScope ["_law_dice_here", "_law_atoms", "_law_order", "_law_most", "_law_inputs", "_law_left", "_law_turn", "_law_size", "_law_one"] ["_law_dice_here", "_law_atoms", "_law_order", "_law_most"] (defScope s__law_kind) := ⟨rfl, rfl, rfl, by decide +kernel, rfl, by decide +kernel, by decide +kernel⟩
theorem sc__law_made_kind : FnScope ["_law_kind_here", "_law_one"] ["_law_kind_here"] (defScope s__law_made_kind) := ⟨rfl, rfl, rfl, by decide +kernel, rfl, by decide +kernel, by decide +kernel⟩
theorem sc__law_library : FnScope ["_law_dice_here", "_law_way", "_law_found", "_law_atoms", "_law_name"] ["_law_dice_here"] (defScope s__law_library) := ⟨rfl, rfl, rfl, by decide +kernel, rfl, by decide +kernel, by decide +kernel⟩
theorem sc__law_known_library : FnScope ["_law_dice_here", "_law_a", "_law_b", "_law_c", "_law_n", "_law_some_here", "_law_found"] ["_law_dice_here"] (defScope s__law_known_library) := ⟨rfl, rfl, rfl, by decide +kernel, rfl, by decide +kernel, by decide +kernel⟩
theorem sc__law_lines : FnScope ["_law_library_here", "_law_name"] ["_law_library_here"] (defScope s__law_lines) := ⟨rfl, rfl, rfl, by decide +kernel, rfl, by decide +kernel, by decide +kernel⟩
theorem sc__law_made : FnScope ["_law_library_here", "_law_name"] ["_law_library_here"] (defScope s__law_made) := ⟨rfl, rfl, rfl, by decide +kernel, rfl, by decide +kernel, by decide +kernel⟩
theorem sc__law_told : FnScope ["_law_lines_here", "_law_rows", "error"] ["_law_lines_here"] (defScope s__law_told) := ⟨rfl, rfl, rfl, by decide +kernel, rfl, by decide +kernel, by decide +kernel⟩
theorem sc__law_spoilt : FnScope ["_law_dice_here", "_law_line", "_law_some_here"] ["_law_dice_here", "_law_line"] (defScope s__law_spoilt) := ⟨rfl, rfl, rfl, by decide +kernel, rfl, by decide +kernel, by decide +kernel⟩
theorem sc__law_right : FnScope ["_law_dice_here", "_law_library_here", "_law_lines_here", "_law_made_here", "_law_turned", "_law_at", "_law_name", "_law_again", "_law_ahead", "_law_row", "_law_one"] ["_law_dice_here"] (defScope s__law_right) := ⟨rfl, rfl, rfl, by decide +kernel, rfl, by decide +kernel, by decide +kernel⟩
theorem sc__law_nine : FnScope ["_law_lines_here"] ["_law_lines_here"] (defScope s__law_nine) := ⟨rfl, rfl, rfl, by decide +kernel, rfl, by decide +kernel, by decide +kernel⟩
theorem sc_law : FnScope ["_law_script", "_law_spot", "_law_nine_here", "_law_told_here", "_law_dice_here", "_law_turn"] ["_law_script"] (defScope s_law) := ⟨rfl, rfl, rfl, by decide +kernel, rfl, by decide +kernel, by decide +kernel⟩
structure Ads where
  a_KindReader : Addr
  a_Type : Addr
  a_Library : Addr
  ax_BuildError : Addr
  ax_ParseError : Addr
  ax_InvalidLibrary : Addr
  ax_InvalidWord : Addr
  ax_InvalidType : Addr
structure All (mg : Gm) (Z : Ads) : Prop where
  n_abs : mg.mg "abs" = none
  n_all : mg.mg "all" = none
  n_dict : mg.mg "dict" = none
  n_enumerate : mg.mg "enumerate" = none
  n_int : mg.mg "int" = none
  n_isinstance : mg.mg "isinstance" = none
  n_len : mg.mg "len" = none
  n_list : mg.mg "list" = none
  n_max : mg.mg "max" = none
  n_min : mg.mg "min" = none
  n_range : mg.mg "range" = none
  n_repr : mg.mg "repr" = none
  n_set : mg.mg "set" = none
  n_sorted : mg.mg "sorted" = none
  n_str : mg.mg "str" = none
  n_tuple : mg.mg "tuple" = none
  c_ARROW : ∃ tk, mg.mg "ARROW" = some (.str " -> " tk)
  c_COLON : ∃ tk, mg.mg "COLON" = some (.str " : " tk)
  c_LETTERS : ∃ tk, mg.mg "LETTERS" = some (.str "abcdefghijklmnopqrstuvwxyz" tk)
  c_MAX_LETTERS : ∃ tk, mg.mg "MAX_LETTERS" = some (.int 8 tk)
  c_MAX_ORDER : ∃ tk, mg.mg "MAX_ORDER" = some (.int 4 tk)
  c_MAX_PARTS : ∃ tk, mg.mg "MAX_PARTS" = some (.int 8 tk)
  c_MAX_PLACES : ∃ tk, mg.mg "MAX_PLACES" = some (.int 15 tk)
  kc_KindReader : ClsF mg "KindReader" Z.a_KindReader
  na_KindReader_of_rows : NoAttr mg.K Z.a_KindReader "of_rows"
  na_KindReader_of_wants : NoAttr mg.K Z.a_KindReader "of_wants"
  kc_Type : ClsF mg "Type" Z.a_Type
  na_Type_own_args : NoAttr mg.K Z.a_Type "own_args"
  na_Type_own_atom : NoAttr mg.K Z.a_Type "own_atom"
  na_Type_own_places : NoAttr mg.K Z.a_Type "own_places"
  na_Type_own_order : NoAttr mg.K Z.a_Type "own_order"
  na_Type_own_text : NoAttr mg.K Z.a_Type "own_text"
  isi_Type : IsiF mg Z.a_Type ["Type"] (fun _ => true)
  kc_Library : ClsF mg "Library" Z.a_Library
  na_Library_own_parts : NoAttr mg.K Z.a_Library "own_parts"
  na_Library_own_names : NoAttr mg.K Z.a_Library "own_names"
  na_Library_own_lines : NoAttr mg.K Z.a_Library "own_lines"
  na_Library_own_scope : NoAttr mg.K Z.a_Library "own_scope"
  isi_Library : IsiF mg Z.a_Library ["Library"] (fun _ => true)
  eq_Library : EqF mg Z.a_Library ["Library"]
  ne_Library : PySem.W.findIn mg.K (.ref Z.a_Library) "__ne__" = some (some (.builtin "object.__ne__"))
  fm_Type : PySem.W.findIn mg.K (.ref Z.a_Type) "__format__" = some (some (.builtin "object.__format__"))
  isb_str : IsbF mg "str" ["Type", "Library"]
  d_is_word : ∃ fa fd, mg.mg "is_word" = some (.ref fa) ∧ Fun mg.K "is_word" "is_word" s_is_word fa fd
  d_ascending_rows : ∃ fa fd, mg.mg "ascending_rows" = some (.ref fa) ∧ Fun mg.K "ascending_rows" "ascending_rows" s_ascending_rows fa fd
  d_signs_of : ∃ fa fd, mg.mg "signs_of" = some (.ref fa) ∧ Fun mg.K "signs_of" "signs_of" s_signs_of fa fd
  d_KindReader___init__ : ∃ fa fd, Mk mg.K Z.a_KindReader fa ∧ Fun mg.K "__init__" "KindReader.__init__" s_KindReader___init__ fa fd
  d_KindReader_take : ∃ fa fd, Meth mg.K Z.a_KindReader "take" fa ∧ Fun mg.K "take" "KindReader.take" s_KindReader_take fa fd
  d_KindReader_take_end : ∃ fa fd, Meth mg.K Z.a_KindReader "take_end" fa ∧ Fun mg.K "take_end" "KindReader.take_end" s_KindReader_take_end fa fd
  d_KindReader_result : ∃ fa fd, Meth mg.K Z.a_KindReader "result" fa ∧ Fun mg.K "result" "KindReader.result" s_KindReader_result fa fd
  d_shape_of : ∃ fa fd, mg.mg "shape_of" = some (.ref fa) ∧ Fun mg.K "shape_of" "shape_of" s_shape_of fa fd
  d_kind_in : ∃ fa fd, mg.mg "kind_in" = some (.ref fa) ∧ Fun mg.K "kind_in" "kind_in" s_kind_in fa fd
  d_order_of : ∃ fa fd, mg.mg "order_of" = some (.ref fa) ∧ Fun mg.K "order_of" "order_of" s_order_of fa fd
  d_input_text : ∃ fa fd, mg.mg "input_text" = some (.ref fa) ∧ Fun mg.K "input_text" "input_text" s_input_text fa fd
  d_Type___init__ : ∃ fa fd, Mk mg.K Z.a_Type fa ∧ Fun mg.K "__init__" "Type.__init__" s_Type___init__ fa fd
  d_Type_read : ∃ mc p fa fd, ClX.CRead mg.K Z.a_Type mc ∧ ClX.CMet mg.K Z.a_Type mc "read" p fa ∧ Fun mg.K "read" "Type.read" s_Type_read fa fd
  d_Type___str__ : ∃ fa fd, (Meth mg.K Z.a_Type "__str__" fa ∧ PySem.W.fnIn mg.K fa = true) ∧ Fun mg.K "__str__" "Type.__str__" s_Type___str__ fa fd
  d_type_of_text : ∃ fa fd, mg.mg "type_of_text" = some (.ref fa) ∧ Fun mg.K "type_of_text" "type_of_text" s_type_of_text fa fd
  d_is_parts : ∃ fa fd, mg.mg "is_parts" = some (.ref fa) ∧ Fun mg.K "is_parts" "is_parts" s_is_parts fa fd
  d_part_of_line : ∃ fa fd, mg.mg "part_of_line" = some (.ref fa) ∧ Fun mg.K "part_of_line" "part_of_line" s_part_of_line fa fd
  d_Library___init__ : ∃ fa fd, Mk mg.K Z.a_Library fa ∧ FunDf mg.K "__init__" "Library.__init__" s_Library___init__ [.non] fa fd
  d_Library_read : ∃ mc p fa fd, ClX.CRead mg.K Z.a_Library mc ∧ ClX.CMet mg.K Z.a_Library mc "read" p fa ∧ Fun mg.K "read" "Library.read" s_Library_read fa fd
  d_Library_lines : ∃ p fa fd, PropOf mg.K Z.a_Library "lines" p fa ∧ Fun mg.K "lines" "Library.lines" s_Library_lines fa fd
  d_Library___len__ : ∃ fa fd, (Meth mg.K Z.a_Library "__len__" fa ∧ PySem.W.fnIn mg.K fa = true) ∧ Fun mg.K "__len__" "Library.__len__" s_Library___len__ fa fd
  d_Library___eq__ : ∃ fa fd, (Meth mg.K Z.a_Library "__eq__" fa ∧ PySem.W.fnIn mg.K fa = true) ∧ Fun mg.K "__eq__" "Library.__eq__" s_Library___eq__ fa fd
  d__law_dice : ∃ fa fd, mg.mg "_law_dice" = some (.ref fa) ∧ Fun mg.K "_law_dice" "_law_dice" s__law_dice fa fd
  d__law_roll : ∃ fa fd, mg.mg "_law_roll" = some (.ref fa) ∧ Fun mg.K "_law_roll" "_law_roll" s__law_roll fa fd
  d__law_pick : ∃ fa fd, mg.mg "_law_pick" = some (.ref fa) ∧ Fun mg.K "_law_pick" "_law_pick" s__law_pick fa fd
  d__law_some : ∃ fa fd, mg.mg "_law_some" = some (.ref fa) ∧ Fun mg.K "_law_some" "_law_some" s__law_some fa fd
  d__law_text : ∃ fa fd, mg.mg "_law_text" = some (.ref fa) ∧ Fun mg.K "_law_text" "_law_text" s__law_text fa fd
  d__law_atoms_of : ∃ fa fd, mg.mg "_law_atoms_of" = some (.ref fa) ∧ Fun mg.K "_law_atoms_of" "_law_atoms_of" s__law_atoms_of fa fd
  d__law_kind : ∃ fa fd, mg.mg "_law_kind" = some (.ref fa) ∧ Fun mg.K "_law_kind" "_law_kind" s__law_kind fa fd
  d__law_made_kind : ∃ fa fd, mg.mg "_law_made_kind" = some (.ref fa) ∧ Fun mg.K "_law_made_kind" "_law_made_kind" s__law_made_kind fa fd
  d__law_library : ∃ fa fd, mg.mg "_law_library" = some (.ref fa) ∧ Fun mg.K "_law_library" "_law_library" s__law_library fa fd
  d__law_known_library : ∃ fa fd, mg.mg "_law_known_library" = some (.ref fa) ∧ Fun mg.K "_law_known_library" "_law_known_library" s__law_known_library fa fd
  d__law_lines : ∃ fa fd, mg.mg "_law_lines" = some (.ref fa) ∧ Fun mg.K "_law_lines" "_law_lines" s__law_lines fa fd
  d__law_made : ∃ fa fd, mg.mg "_law_made" = some (.ref fa) ∧ Fun mg.K "_law_made" "_law_made" s__law_made fa fd
  d__law_told : ∃ fa fd, mg.mg "_law_told" = some (.ref fa) ∧ Fun mg.K "_law_told" "_law_told" s__law_told fa fd
  d__law_spoilt : ∃ fa fd, mg.mg "_law_spoilt" = some (.ref fa) ∧ Fun mg.K "_law_spoilt" "_law_spoilt" s__law_spoilt fa fd
  d__law_right : ∃ fa fd, mg.mg "_law_right" = some (.ref fa) ∧ Fun mg.K "_law_right" "_law_right" s__law_right fa fd
  d__law_nine : ∃ fa fd, mg.mg "_law_nine" = some (.ref fa) ∧ Fun mg.K "_law_nine" "_law_nine" s__law_nine fa fd
  d_law : ∃ fa fd, mg.mg "law" = some (.ref fa) ∧ Fun mg.K "law" "law" s_law fa fd
  ex_BuildError : ExcF mg "BuildError" Z.ax_BuildError veBm "ValueError.__new__"
  xc_ParseError : XcF mg "ParseError" Z.ax_ParseError "line" veBm "ValueError.__new__"
  ex_InvalidLibrary : ExcF mg "InvalidLibrary" Z.ax_InvalidLibrary veBm "ValueError.__new__"
  ex_InvalidWord : ExcF mg "InvalidWord" Z.ax_InvalidWord veBm "ValueError.__new__"
  ex_InvalidType : ExcF mg "InvalidType" Z.ax_InvalidType veBm "ValueError.__new__"
  cam_BuildError : CatF mg (.ref Z.ax_BuildError) ["BuildError", "ParseError", "InvalidLibrary", "InvalidWord", "InvalidType"] (fun y => decide (y ∈ (["BuildError", "ParseError", "InvalidLibrary", "InvalidWord", "InvalidType"] : List Str)))
  cam_ParseError : CatF mg (.ref Z.ax_ParseError) ["BuildError", "ParseError", "InvalidLibrary", "InvalidWord", "InvalidType"] (fun y => decide (y ∈ (["ParseError"] : List Str)))
  cam_InvalidLibrary : CatF mg (.ref Z.ax_InvalidLibrary) ["BuildError", "ParseError", "InvalidLibrary", "InvalidWord", "InvalidType"] (fun y => decide (y ∈ (["InvalidLibrary"] : List Str)))
  cam_InvalidWord : CatF mg (.ref Z.ax_InvalidWord) ["BuildError", "ParseError", "InvalidLibrary", "InvalidWord", "InvalidType"] (fun y => decide (y ∈ (["InvalidWord"] : List Str)))
  cam_InvalidType : CatF mg (.ref Z.ax_InvalidType) ["BuildError", "ParseError", "InvalidLibrary", "InvalidWord", "InvalidType"] (fun y => decide (y ∈ (["InvalidType"] : List Str)))
end K11
namespace K11
open PySem L2 FP
variable [FP.Tabl]
open KP
theorem lc_letters (z : Str) {Q : List D → Prop} (h : Q (z.cps.toList.map fun c => .bl (decide (c ∈ letters)))) :
    lcD (fun d k => match inD d (.str "abcdefghijklmnopqrstuvwxyz") with | some b => k (some (.bl b)) | none => False) (signsD z) Q := by
  refine lcD_map (fun d => match inD d (.str "abcdefghijklmnopqrstuvwxyz") with | some b => .bl b | none => .non) _ _ (fun d hd k hk => ?_) ?_
  · obtain ⟨c, _, rfl⟩ := List.mem_map.mp hd
    exact hk
  · unfold signsD
    rw [List.map_map]
    exact h
theorem ok_is_word {P : Program} {w : World} {mg : Gm} {base : Heap} {Z : Ads} (A : All mg Z) : DefOk P w mg base 1 "is_word" 1 f_is_word := by
  refine mkDef (N := ["value", "sign"]) (ps := ["value"]) A.d_is_word sc_is_word (fun _ _ _ _ _ _ us hl => match us, hl with | [_], _ => rfl) fun fa cdv Ar outer s H E hr => ⟨_,
    (dss_one (ds_ret (de_and (de_isi (de_var 0) A.n_isinstance A.n_str FP.boot_str FP.boot_isinstance) (de_and (de_chain ok_le ok_le de_int (de_callB ok_len A.n_len FP.boot_len (da_cons (de_var 0) da_nil)) (de_gint A.c_MAX_LETTERS)) (de_one (de_callB ok_all A.n_all FP.boot_all (da_cons (de_lc (own := [("sign", 1)]) (fun _ => sc_is_word.nd) (di_str (de_var 0)) (fun _ => blkOk_by (by kernel_rfl)) (dg_name (i := 1) (fun _ => sc_is_word.nd)) dts_nil (de_cmp ok_in (de_var 1) (de_gstr A.c_LETTERS))) da_nil))))))),  fun ds Q Ex hl hf => ?_⟩
  match ds, hl, hf with
  | [d], _, ⟨ho, hq⟩ =>
    change (_ : DTS) _ [Sl.d d, Sl.no]
    obtain ⟨n, hn, hk⟩ := isi_str ho
    cases d with
    | str z =>
      simp only [dSeq, dNext, dIfS, dB, dOp, dVar, dC, dCB, dCons, dNil, dSet, dTok, dRet, dRetN, dCall, rdAdd, rdSub, rdMul, rdMod, rdFdiv, rdPow, rdGt, rdLt, rdLe, rdGe, rdIx, rdInt, rdAbs, rdMax, rdMin, rdLen, dRetTok, dSetO, dListO, dLenO, dIRng1, dRetPop, List.getElem?_cons_zero, List.getElem?_cons_succ, List.set_cons_zero, List.set_cons_succ, bit_dec, bit_t, bit_f, bit_not, blc_bl, Option.some.injEq, exists_eq_left', dAndV, dOrV, dNotV, dChain, dIsi, dLc, dIStr, dIList, dITup, dYes, Tg.put, wipeD, rdIn, rdNotIn, rdEq, rdNe, rdAll, dLst, dTup, dAnd, dOr, dNot, dFor, forD, dAsg, dIf, dJoin, rdList, dNewD, rdStr, List.map_cons, List.map_nil, tyName]
      refine ⟨true, kit_ss, Nat.le_trans ho.1 (by decide), fun h1 => ⟨fun h2 => ⟨signs_ok ho, lc_letters z ?_⟩, fun h2 => ?_⟩, fun h1 => ?_⟩
      · refine ⟨_, blsD_fn _ _, ?_⟩
        have e : isWordD (.str z) = (z.cps.toList.map fun c => decide (c ∈ letters)).all id := by
          show (decide (1 ≤ z.length) && decide (z.length ≤ 8) && z.cps.toList.all fun c => decide (c ∈ letters)) = _
          rw [decide_eq_true (show 1 ≤ z.length by omega), decide_eq_true (show z.length ≤ 8 by omega), List.all_map]
          rfl
        rw [← e]
        exact hq
      · have e : isWordD (.str z) = false := by
          show (decide (1 ≤ z.length) && decide (z.length ≤ 8) && z.cps.toList.all fun c => decide (c ∈ letters)) = _
          rw [decide_eq_false (show ¬ z.length ≤ 8 by omega), Bool.and_false, Bool.false_and]
        rw [← e]
        exact hq
      · have e : isWordD (.str z) = false := by
          show (decide (1 ≤ z.length) && decide (z.length ≤ 8) && z.cps.toList.all fun c => decide (c ∈ letters)) = _
          rw [decide_eq_false (show ¬ 1 ≤ z.length by omega), Bool.false_and, Bool.false_and]
        rw [← e]
        exact hq
    | fz _ => exact ho.elim
    | ins _ _ => exact ho.elim
    | cl _ => exact ho.elim
    | fn _ _ => exact ho.elim
    | _ =>
      cases hn
      exact ⟨_, hk, hq⟩
theorem ok_order_of {P : Program} {w : World} {mg : Gm} {base : Heap} {Z : Ads} (A : All mg Z) : DefOk P w mg base 1 "order_of" 1 f_order := by
  refine mkDef (N := ["inputs", "one"]) (ps := ["inputs"]) A.d_order_of sc_order_of (fun _ _ _ _ _ _ us hl => match us, hl with | [_], _ => rfl) fun fa cdv Ar outer s H E hr => ⟨_,
    (dss_one (ds_ret (de_if (dt_cmp (ok_neT0 (fun _ => hr.r.units)) (de_var 0) (de_tup da_nil)) (de_op ok_add de_int (de_callB ok_maxL A.n_max FP.boot_max (da_cons (de_lc (own := [("one", 1)]) (fun _ => sc_order_of.nd) (di_tup (de_var 0)) (fun _ => blkOk_by (by kernel_rfl)) (dg_name (i := 1) (fun _ => sc_order_of.nd)) dts_nil (de_fld A.kc_Type A.na_Type_own_order (de_var 1))) da_nil))) de_int))),  fun ds Q Ex hl hf => ?_⟩
  match ds, hl, hf with
  | [.tup _], _, ⟨ks, rfl, hl, hq⟩ =>
    change (_ : DTS) _ [Sl.d (.tup (ks.map typeD)), Sl.no]
    refine ⟨line rfl, ?_⟩
    show bit (!(ks.map typeD).isEmpty) _ _
    cases ks with
    | nil => exact hq
    | cons k0 r =>
      have hs : ((k0 :: r).map typeD).length ≤ sizeLine := by rw [List.length_map]; exact size_small (by omega)
      refine ⟨hs, lc_of typeD (fun k => .int (ord k)) (k0 :: r) _ (fun k _ K hK => ⟨_, rfl, fld (lk_order k) hK⟩) ⟨(k0 :: r).map fun k => (ord k : Int), ?_, ?_, fun m hm hy => ?_⟩⟩
      · have e := intsD_map ((k0 :: r).map fun k => (ord k : Int))
        rw [List.map_map] at e
        exact e
      · simp
      · have e := ordL_max hm hy
        show Q (.int (1 + m))
        rw [e]
        exact hq
theorem ok_input_text {P : Program} {w : World} {mg : Gm} {base : Heap} {Z : Ads} (A : All mg Z) : DefOk P w mg base 1 "input_text" 1 f_intext := by
  refine mkDef (N := ["wanted"]) (ps := ["wanted"]) A.d_input_text sc_input_text (fun _ _ _ _ _ _ us hl => match us, hl with | [_], _ => rfl) fun fa cdv Ar outer s H E hr => ⟨_,
    (dss_one (ds_ret (de_if (dt_cmp (ok_eqT0 (fun _ => hr.r.units)) (de_fld A.kc_Type A.na_Type_own_args (de_var 0)) (de_tup da_nil)) (de_fld A.kc_Type A.na_Type_own_text (de_var 0)) (de_joined (dj_cons de_str (dj_cons (de_fmt (de_fld A.kc_Type A.na_Type_own_text (de_var 0))) (dj_cons de_str dj_nil))))))),  fun ds Q Ex hl hf => ?_⟩
  match ds, hl, hf with
  | [_], _, ⟨k, rfl, hl, hq⟩ =>
    change (_ : DTS) _ [Sl.d (typeD k)]
    refine fld (lk_args k) ?_
    refine ⟨line rfl, ?_⟩
    show bit (k.as.map typeD).isEmpty _ _
    unfold intext at hq
    have em : (k.as.map typeD).isEmpty = k.as.isEmpty := by cases k.as <;> rfl
    rw [em]
    cases he : k.as.isEmpty with
    | true =>
      rw [he] at hq
      exact fld (lk_text k) hq
    | false =>
      rw [he] at hq
      have e1 : ("(" : Str).length = 1 := rfl
      have e2 : (")" : Str).length = 1 := rfl
      refine ⟨?_, fld (lk_text k) ⟨size_small hl, ?_, ?_, ?_⟩⟩
      · rw [app_empty]; decide
      · rw [app_empty, len_app]; exact Nat.le_trans (show _ ≤ 1002 by omega) (by decide)
      · rw [app_empty, len_app, len_app]; exact Nat.le_trans (show _ ≤ 1002 by omega) (by decide)
      · rw [app_empty]; exact hq
theorem ok_Type___init__ {P : Program} {w : World} {mg : Gm} {base : Heap} {Z : Ads} (A : All mg Z) (G_input_text : DefOk P w mg base 1 "input_text" 1 f_intext) (G_is_word : DefOk P w mg base 1 "is_word" 1 f_is_word) (G_order_of : DefOk P w mg base 1 "order_of" 1 f_order) : InitOk P w mg base 2 "Type" Z.a_Type 2 f_initX := by
  refine mkInit (N := ["self", "inputs", "atom", "one", "place"]) (ps := ["self", "inputs", "atom"]) A.kc_Type A.d_Type___init__ sc_Type___init__ rfl (fun _ _ _ _ _ _ us hl => match us, hl with | [_, _, _], _ => rfl) fun fa cdv Ar outer s H E hr => ⟨_,
    (dss_cons (ds_if (dt_w (dw_or (dt_not (dt_val (de_isi (de_var 1) A.n_isinstance A.n_tuple FP.boot_tuple FP.boot_isinstance))) (dw_or1 (dt_not (dt_val (de_callB ok_all A.n_all FP.boot_all (da_cons (de_lc (own := [("one", 3)]) (fun _ => sc_Type___init__.nd) (di_tup (de_var 1)) (fun _ => blkOk_by (by kernel_rfl)) (dg_name (i := 3) (fun _ => sc_Type___init__.nd)) dts_nil (de_isiO (de_var 3) A.n_isinstance A.kc_Type.nm A.isi_Type FP.boot_isinstance)) da_nil)))))))
    (dss_one (ds_raise veB A.ex_InvalidType (fun _ => takes_of rfl rfl rfl rfl)))
    dss_nil)
    (dss_cons (ds_if (dt_not (dt_val (de_call G_is_word (fun _ => hr.mono (by omega)) (fun _ => pas (takes_of rfl rfl rfl rfl)) (da_cons (de_var 2) da_nil))))
    (dss_one (ds_raise veB A.ex_InvalidWord (fun _ => takes_of rfl rfl rfl rfl)))
    dss_nil)
    (dss_cons (ds_setF 0 A.kc_Type A.na_Type_own_args (de_var 1))
    (dss_cons (ds_setF 0 A.kc_Type A.na_Type_own_atom (de_var 2))
    (dss_cons (ds_setF 0 A.kc_Type A.na_Type_own_places (de_tup (da_star (de_lc2 (own := [("one", 3), ("place", 4)]) (vs1 := [4]) (fun _ => sc_Type___init__.nd) (di_tup (de_var 1)) (fun _ => blkOk_by (by kernel_rfl)) (dg_name (i := 3) (fun _ => sc_Type___init__.nd)) dts_nil (di_tup (de_fld A.kc_Type A.na_Type_own_places (de_var 3))) (dg_name (i := 4) (fun _ => sc_Type___init__.nd)) dts_nil (de_var 4)) (da_cons (de_var 2) da_nil))))
    (dss_cons (ds_setF 0 A.kc_Type A.na_Type_own_order (de_call G_order_of (fun _ => hr.mono (by omega)) (fun _ => pas (takes_of rfl rfl rfl rfl)) (da_cons (de_var 1) da_nil)))
    (dss_cons (ds_if (dt_w (dw_or (dt_cmp ok_gt (de_callB ok_len A.n_len FP.boot_len (da_cons (de_fldO 0 A.kc_Type A.na_Type_own_places) da_nil)) (de_gint A.c_MAX_PLACES)) (dw_or1 (dt_cmp ok_gt (de_fldO 0 A.kc_Type A.na_Type_own_order) (de_gint A.c_MAX_ORDER)))))
    (dss_one (ds_raise veB A.ex_InvalidType (fun _ => takes_of rfl rfl rfl rfl)))
    dss_nil)
    (dss_one (ds_setF 0 A.kc_Type A.na_Type_own_text (de_join (de_gstr A.c_ARROW) (de_lst (da_star (de_lc (own := [("one", 3)]) (fun _ => sc_Type___init__.nd) (di_tup (de_var 1)) (fun _ => blkOk_by (by kernel_rfl)) (dg_name (i := 3) (fun _ => sc_Type___init__.nd)) dts_nil (de_call G_input_text (fun _ => hr.mono (by omega)) (fun _ => pas takes0) (da_cons (de_var 3) da_nil))) (da_cons (de_var 2) da_nil))))))))))))),  fun x ds Q Ex hl hf => ?_⟩
  match ds, hl, hf with
  | [.tup _, .str a], _, ⟨ks, rfl, hgk, hlen, hwa, hq, hx⟩ =>
    change (_ : DTS) _ [Sl.ob "Type" x [], Sl.d (.tup (ks.map typeD)), Sl.d (.str a), Sl.no, Sl.no]
    have hcap := placesL_cap hgk
    have hks : (ks.map typeD).length ≤ sizeLine := by rw [List.length_map]; exact size_small (by omega)
    refine ⟨true, kit_tt, hks, lc_of typeD (fun _ => .bl true) ks _ (fun k _ K hK => ⟨_, rfl, isT (Q := fun d => K (some d)) hK⟩) ⟨_, blsD_fn (fun _ => true) ks, ?_⟩⟩
    have ea : (ks.map fun _ => true).all id = true := by simp
    rw [ea]
    refine ⟨rfl, word_ok hwa, ?_⟩
    have ew : isWordD (.str a) = true := hwa
    rw [ew]
    refine ⟨rfl, by decide, rfl, by show 1 < 1000; decide, ?_⟩
    have ep : (ks.map fun k => (places k).map D.str).flatten ++ [D.str a] = (places (.mk ks a)).map .str := by
      rw [places, List.map_append, placesL_map, List.map_flatten, List.map_map]
      rfl
    have lp : ((ks.map fun k => (places k).map D.str).flatten ++ [D.str a]).length = (places (.mk ks a)).length := by rw [ep, List.length_map]
    have lpc : (places (.mk ks a)).length ≤ 901 := by
      rw [places, List.length_append]
      show _ + 1 ≤ _
      omega
    refine ⟨by show _ ≤ 4000; rw [List.length_map]; omega, lcS_of typeD (fun k => (places k).map .str) ks _ (fun k hk K hK => ⟨_, rfl, fld (lk_places k) ⟨by show _ ≤ 4000; rw [List.length_map]; have := (hgk k hk).p; omega, ?_⟩⟩) ?_⟩
    · exact lc_of D.str D.str (places k) _ (fun z _ K hK => ⟨_, rfl, hK⟩) hK
    refine ⟨by rw [lp]; exact size_small (by omega), rfl, by show 2 < 1000; decide, rfl, ks, rfl, by omega, rfl, by show 3 < 1000; decide, ?_⟩
    refine ⟨rfl, _, rfl, ?_⟩
    show bit (decide ((((ks.map fun k => (places k).map D.str).flatten ++ [D.str a]).length : Int) > 15)) _ _
    by_cases h15 : (places (.mk ks a)).length ≤ 15
    case neg =>
      rw [decide_eq_true (by omega)]
      exact hx fun g => h15 g.p
    rw [decide_eq_false (by omega)]
    refine ⟨rfl, _, rfl, ?_⟩
    show bit (decide (((ordL ks : Nat) : Int) > 4)) _ _
    by_cases h4 : ordL ks ≤ 4
    case neg =>
      rw [decide_eq_true (by omega)]
      exact hx fun g => h4 g.o
    rw [decide_eq_false (by omega)]
    have hg : Good (.mk ks a) := by
      by_cases hn : Good (.mk ks a)
      · exact hn
      · rcases not_good hgk hwa hn with q | q
        · omega
        · exact absurd q (Nat.not_lt.mpr h4)
    replace hq := hq hg
    have hf := hg.few
    refine ⟨hks, lc_of typeD (fun k => .str (intext k)) ks _ (fun k hk K hK => ⟨_, rfl, rfl, k, rfl, Nat.le_trans (hg.kid hk).text_len (by decide), hK⟩) ?_⟩
    have hz : (ks.map fun k => D.str (intext k)) ++ [.str a] = (texts ks ++ [a]).map .str := by
      rw [texts_map, List.map_append, List.map_map]
      rfl
    have ht : ((texts ks ++ [a]).map (·.length)).sum + (texts ks ++ [a]).length * 4 ≤ 1000 := by
      have h1 := texts_len ks fun z hz => (word_len (hg.w z (by rw [places]; exact List.mem_append_left _ hz))).2
      have h2 := (word_len hg.atom).2
      rw [List.map_append, List.sum_append, List.length_append]
      have e1 : ([a].map (·.length)).sum = a.length := by simp
      have e2 : [a].length = 1 := rfl
      rw [e1, e2]
      omega
    refine ⟨?_, _, by rw [hz]; exact strsD_map _, Nat.le_trans ht (by decide), rfl, by show 4 < 1000; decide, _, _, rfl, ?_⟩
    · rw [List.length_append, List.length_map]
      exact size_small (by show ks.length + 1 ≤ _; omega)
    · have e : ([("own_args", .tup (ks.map typeD)), ("own_atom", .str a), ("own_places", .tup ((ks.map fun k => (places k).map D.str).flatten ++ [D.str a])), ("own_order", .int (ordL ks)), ("own_text", .str (Txt.join " -> " (texts ks ++ [a])))] : List (Str × D)) = flds (.mk ks a) := by
        rw [ep]
        unfold flds
        rw [text, ord]
        rfl
      have hq2 := hq
      rw [← e] at hq2
      exact hq2
theorem initK {P : Program} {w : World} {mg : Gm} {base : Heap} {C : Addr} (G : InitOk P w mg base 2 "Type" C 2 f_initX) : InitOk P w mg base 2 "Type" C 2 f_init := by
  refine G.imp fun ds Q E h => ?_
  match ds, h with
  | [.tup _, .str a], ⟨ks, rfl, hg, hq⟩ => exact ⟨ks, rfl, fun k hk => hg.kid hk, by have := hg.few; omega, hg.atom, fun _ => hq, fun n => absurd hg n⟩
end K11
namespace K11
open PySem L2 FP
variable [FP.Tabl]
open KP
theorem ok_Type___str__ {P : Program} {w : World} {mg : Gm} {base : Heap} {Z : Ads} (A : All mg Z) : SpecOk P w mg base 1 Z.a_Type "__str__" 1 (f_tell d_text) := by
  refine mkSpec (N := ["self"]) (ps := ["self"]) A.d_Type___str__ sc_Type___str__ (fun _ _ _ _ _ _ us hl => match us, hl with | [_], _ => rfl) fun fa cdv Ar outer s H E hr => ⟨_,
    (dss_one (ds_ret (de_callTy ok_str A.n_str FP.boot_str (da_cons (de_fld A.kc_Type A.na_Type_own_text (de_var 0)) da_nil)))),  fun ds Q Ex hl hf => ?_⟩
  match ds, hl, hf with
  | [_], _, ⟨k, rfl, hg, hq⟩ =>
    change (_ : DTS) _ [Sl.d (typeD k)]
    exact fld (lk_text k) hq
end K11
namespace K11
open PySem L2 FP
variable [FP.Tabl]
open KP
theorem ok_is_parts {P : Program} {w : World} {mg : Gm} {base : Heap} {Z : Ads} (A : All mg Z) (G_is_word : DefOk P w mg base 1 "is_word" 1 f_is_word) : DefOk P w mg base 2 "is_parts" 1 f_isparts := by
  refine mkDef (N := ["value", "wanted", "name"]) (ps := ["value"]) A.d_is_parts sc_is_parts (fun _ _ _ _ _ _ us hl => match us, hl with | [_], _ => rfl) fun fa cdv Ar outer s H E hr => ⟨_,
    (dss_cons (ds_if (dt_w (dw_or (dt_not (dt_val (de_isi (de_var 0) A.n_isinstance A.n_dict FP.boot_dict FP.boot_isinstance))) (dw_or (dt_cmp ok_gt (de_callB ok_len A.n_len FP.boot_len (da_cons (de_var 0) da_nil)) (de_gint A.c_MAX_PARTS)) (dw_or1 (dt_not (dt_val (de_callB ok_all A.n_all FP.boot_all (da_cons (de_lc (own := [("name", 2)]) (fun _ => sc_is_parts.nd) (di_keys (de_var 0)) (fun _ => blkOk_by (by kernel_rfl)) (dg_name (i := 2) (fun _ => sc_is_parts.nd)) dts_nil (de_call G_is_word (fun _ => hr.mono (by omega)) (fun _ => pas takes0) (da_cons (de_var 2) da_nil))) da_nil))))))))
    (dss_one (ds_ret de_bl))
    dss_nil)
    (dss_one (ds_ret (de_callB ok_all A.n_all FP.boot_all (da_cons (de_lc (own := [("wanted", 1)]) (fun _ => sc_is_parts.nd) (di_vals (de_var 0)) (fun _ => blkOk_by (by kernel_rfl)) (dg_name (i := 1) (fun _ => sc_is_parts.nd)) dts_nil (de_isiO (de_var 1) A.n_isinstance A.kc_Type.nm A.isi_Type FP.boot_isinstance)) da_nil))))),  fun ds Q Ex hl hf => ?_⟩
  match ds, hl, hf with
  | [.dct _], _, ⟨L, rfl, hg, hn, hq⟩ =>
    have e0 : startD 3 [.dct (rowsL typeD L)] = [Sl.d (.dct (rowsL typeD L)), Sl.no, Sl.no] := rfl
    have hnN : (["value", "wanted", "name"] : List Str).length = 3 := rfl
    rw [hnN, e0]
    clear e0 hnN
    have hkl : (keysL L).length = L.length := List.length_map _
    have e8 : ∀ b, decide (8 < L.length) = b → decide (((rowsL typeD L).length : Int) > 8) = b := fun b h => by
      rw [← h, len_rows]
      by_cases h8 : 8 < L.length
      · rw [decide_eq_true h8]; exact decide_eq_true (by omega)
      · rw [decide_eq_false h8]; exact decide_eq_false (by omega)
    have evD : Ev (dIsi "dict" (dVar 0)) [Sl.d (.dct (rowsL typeD L)), Sl.no, Sl.no] (.bl true) := fun Q E q => ⟨true, kit_dd, q⟩
    have evL : Ev (dOp rdGt (dCB rdLen (dCons (dVar 0) dNil)) (dC (.int 8))) [Sl.d (.dct (rowsL typeD L)), Sl.no, Sl.no] (.bl (decide (((rowsL typeD L).length : Int) > 8))) := fun Q E q => q
    by_cases h8 : 8 < L.length
    · refine seq_ifT (or_f (not_v (b_v evD)) (or_t (b_v (evL.eq (by rw [e8 true (decide_eq_true h8)]))))) ?_
      rw [decide_eq_false (by omega)] at hq
      exact hq
    · refine seq_ifF (or_f (not_v (b_v evD)) (or_f (b_v (evL.eq (by rw [e8 false (decide_eq_false h8)]))) (not_v (b := true) (b_v fun Q E q => ?_)))) ?_
      · show (fun ds : List D => ds.length ≤ sizeLine ∧ _) ((rowsL typeD L).map fun kv => kD kv.1)
        rw [keys_rows]
        refine ⟨by rw [List.length_map]; exact size_small (by omega), lc_of D.str (fun _ => .bl true) (keysL L) _ (fun z hz K hK => ⟨_, rfl, ?_⟩) ⟨_, blsD_fn (fun _ => true) (keysL L), ?_⟩⟩
        · obtain ⟨p, hp, rfl⟩ := List.mem_map.mp hz
          have hw : isWordS p.1 = true := hg.w p hp
          refine ⟨rfl, word_ok hw, ?_⟩
          have ew : isWordD (.str p.1) = true := hw
          rw [ew]
          exact hK
        · have ea : ((keysL L).map fun _ => true).all id = true := by simp
          rw [ea]
          exact q
      refine ret_v (.bl true) (fun Q E q => ?_) ?_
      · show (fun ds : List D => ds.length ≤ sizeLine ∧ _) ((rowsL typeD L).map (·.2))
        rw [vals_rows]
        refine ⟨by rw [List.length_map]; exact size_small (by omega), lc_of (fun p : Str × Kd => typeD p.2) (fun _ => .bl true) L _ (fun p _ K hK => ⟨_, rfl, isT (Q := fun d => K (some d)) hK⟩) ⟨_, blsD_fn (fun _ => true) L, ?_⟩⟩
        have ea : (L.map fun _ => true).all id = true := by simp
        rw [ea]
        exact q
      · rw [decide_eq_true (by omega)] at hq
        exact hq
theorem ok_ascending_rows {P : Program} {w : World} {mg : Gm} {base : Heap} {Z : Ads} (A : All mg Z) : DefOk P w mg base 1 "ascending_rows" 1 f_asc := by
  refine mkDef (N := ["rows", "word"]) (ps := ["rows"]) A.d_ascending_rows sc_ascending_rows (fun _ _ _ _ _ _ us hl => match us, hl with | [_], _ => rfl) fun fa cdv Ar outer s H E hr => ⟨_,
    (dss_one (ds_ret (de_dc (own := [("word", 1)]) (fun _ => sc_ascending_rows.nd) (di_list (de_callB ok_sorted A.n_sorted FP.boot_sorted (da_cons (de_callTy ok_listD A.n_list FP.boot_list (da_cons (de_var 0) da_nil)) da_nil))) (fun _ => blkOk_by (by kernel_rfl)) (dg_name (i := 1) (fun _ => sc_ascending_rows.nd)) dts_nil (de_var 1) (de_dget (k := 0) (fun _ => hr.mono (by omega)) (de_var 0) (de_var 1))))),  fun ds Q Ex hl hf => ?_⟩
  match ds, hl, hf with
  | [.dct _], _, ⟨L, rfl, hnd, hn, hq⟩ =>
    have e0 : startD 2 [.dct (rowsL typeD L)] = [Sl.d (.dct (rowsL typeD L)), Sl.no] := rfl
    have hnN : (["rows", "word"] : List Str).length = 2 := rfl
    rw [hnN, e0]
    clear e0 hnN
    have hkl : (keysL L).length = L.length := List.length_map _
    refine ret_v (libT (sortL L)) (fun Q E q => ?_) hq
    refine ⟨keysL L, by rw [keys_rows]; exact strsD_map _, ?_, dc_of D.str (fun z => ((.inr z : Key), typeD (kindAt L z))) (sortS (keysL L)) [] _ (fun z hz K hK => ⟨_, rfl, .inr z, typeD (kindAt L z), rfl, ?_, .inr z, rfl, hK⟩) ?_⟩
    · rw [List.length_map, (sortS_perm _).length_eq]
      exact size_small (by omega)
    · rw [val_rows]
      obtain ⟨k, hk, _⟩ := getL_in ((sortS_perm _).mem_iff.mp hz)
      rw [hk, kindAt_of hk]
      rfl
    · rw [fold_pick (nd_sort hnd)]
      exact q
theorem ok_Library___init__ {P : Program} {w : World} {mg : Gm} {base : Heap} {Z : Ads} (A : All mg Z) (G_Type___str__ : SpecOk P w mg base 1 Z.a_Type "__str__" 1 (f_tell d_text)) (G_ascending_rows : DefOk P w mg base 1 "ascending_rows" 1 f_asc) (G_is_parts : DefOk P w mg base 2 "is_parts" 1 f_isparts) : InitDf P w mg base 4 "Library" Z.a_Library 1 f_initL := by
  refine mkInitD (N := ["self", "parts", "told", "name", "wanted"]) (ps := ["self", "parts"]) A.kc_Library A.d_Library___init__ sc_Library___init__ rfl (fun _ _ _ _ _ _ _ us its h1 h2 => match us, h1, its, h2 with | [_, _], _, [_], _ => ⟨_, rfl, rfl⟩) (fun _ _ _ _ _ _ _ us its h1 h2 => match us, h1, its, h2 with | [_], _, [_], _ => ⟨_, rfl, rfl⟩) fun fa cdv Ar outer s H E hr => ⟨_,
    (dss_cons (ds_set (i := 2) (de_if (dt_cmp ok_is (de_var 1) de_non) de_dnew (de_var 1)) (fun _ => sc_Library___init__.nd))
    (dss_cons (ds_if (dt_not (dt_val (de_call G_is_parts (fun _ => hr.mono (by omega)) (fun _ => pas (takes_of rfl rfl rfl rfl)) (da_cons (de_var 2) da_nil))))
    (dss_one (ds_raise veB A.ex_InvalidLibrary (fun _ => takes_of rfl rfl rfl rfl)))
    dss_nil)
    (dss_cons (ds_setF 0 A.kc_Library A.na_Library_own_parts (de_call G_ascending_rows (fun _ => hr.mono (by omega)) (fun _ => pas (takes_of rfl rfl rfl rfl)) (da_cons (de_var 2) da_nil)))
    (dss_cons (ds_setF 0 A.kc_Library A.na_Library_own_names (de_callTy ok_tuple A.n_tuple FP.boot_tuple (da_cons (de_callTy ok_listD A.n_list FP.boot_list (da_cons (de_fldO 0 A.kc_Library A.na_Library_own_parts) da_nil)) da_nil)))
    (dss_cons (ds_setF 0 A.kc_Library A.na_Library_own_lines (de_callTy ok_tuple A.n_tuple FP.boot_tuple (da_cons (de_lc (own := [("name", 3), ("wanted", 4)]) (fun _ => sc_Library___init__.nd) (di_items (de_fldO 0 A.kc_Library A.na_Library_own_parts)) (fun _ => blkOk_by (by kernel_rfl)) (dg_tup (dgs_cons (dg_name (i := 3) (fun _ => sc_Library___init__.nd)) (dgs_cons (dg_name (i := 4) (fun _ => sc_Library___init__.nd)) dgs_nil))) dts_nil (de_joined (dj_cons (de_fmt (de_var 3)) (dj_cons de_str (dj_cons (de_fmtM A.kc_Type G_Type___str__ A.fm_Type (fun _ => hr.mono (by omega)) (de_var 4)) dj_nil))))) da_nil)))
    (dss_one (ds_setF 0 A.kc_Library A.na_Library_own_scope (de_callTy ok_tuple A.n_tuple FP.boot_tuple (da_cons (de_sortSet (de_lc (own := [("wanted", 4)]) (fun _ => sc_Library___init__.nd) (di_vals (de_fldO 0 A.kc_Library A.na_Library_own_parts)) (fun _ => blkOk_by (by kernel_rfl)) (dg_name (i := 4) (fun _ => sc_Library___init__.nd)) dts_nil (de_fld A.kc_Type A.na_Type_own_text (de_var 4))) A.n_sorted A.n_set FP.boot_sorted FP.boot_set) da_nil))))))))),  fun x ds Q Ex hl hf => ?_⟩
  have key : ∃ p L, ds = [p] ∧ LibG L ∧ L.length ≤ 60 ∧ (L.length ≤ 8 → Q (libF L)) ∧ (8 < L.length → Ex libX) ∧ Ev (dIf (dB (dOp rdIs (dVar 1) (dC D.non))) dNewD (dVar 1)) [Sl.ob "Library" x [], Sl.d p, Sl.no, Sl.no, Sl.no] (libT L) := by
    match ds, hl, hf with
    | [.non], _, hq => exact ⟨.non, [], rfl, LibG.nil, by decide, fun _ => hq, fun h => absurd h (by decide), fun Q E q => q⟩
    | [.dct _], _, ⟨L, rfl, hg, hn, hq, hx⟩ => exact ⟨_, L, rfl, hg, hn, hq, hx, fun Q E q => q⟩
  obtain ⟨p, L, rfl, hg, hn, hq, hx, ht⟩ := key
  have e0 : startD (5 - 1) [p] = [Sl.d (p), Sl.no, Sl.no, Sl.no] := rfl
  have hnN : (["self", "parts", "told", "name", "wanted"] : List Str).length = 5 := rfl
  rw [hnN, e0]
  clear e0 hnN
  refine seq_v (libT L) ht ?_
  by_cases h8 : 8 < L.length
  · refine seq_ifT (fun Q E q => ⟨rfl, L, rfl, hg, hn, ?_⟩) ?_
    · show Q (!decide (L.length ≤ 8))
      rw [decide_eq_false (by omega)]
      exact q
    exact hx h8
  refine seq_ifF (fun Q E q => ⟨rfl, L, rfl, hg, hn, ?_⟩) ?_
  · show Q (!decide (L.length ≤ 8))
    rw [decide_eq_true (by omega)]
    exact q
  have hs := hg.sort
  have hls : (sortL L).length ≤ 8 := by rw [len_sort]; omega
  refine seq_setF rfl (libT (sortL L)) (by decide) (fun Q E q => ⟨rfl, L, rfl, hg.nd, hn, q⟩) ?_
  refine seq_setF rfl (.tup ((keysL (sortL L)).map .str)) (by show 1 < 1000; decide) (fun Q E q => ⟨rfl, _, rfl, ?_⟩) ?_
  · show Q (.tup ((rowsL typeD (sortL L)).map fun kv => kD kv.1))
    rw [keys_rows]
    exact q
  refine seq_setF rfl (.tup ((linesL L).map .str)) (by show 2 < 1000; decide) (fun Q E q => ⟨rfl, _, rfl, ?_⟩) ?_
  · show (fun ds : List D => ds.length ≤ sizeLine ∧ _) ((rowsL typeD (sortL L)).map fun kv => D.tup [kD kv.1, kv.2])
    rw [items_rows]
    refine ⟨by rw [List.length_map]; exact size_small (by omega), lc_of (fun p : Str × Kd => D.tup [.str p.1, typeD p.2]) (fun p => .str (lineS p)) (sortL L) _ (fun p hp K hK => ⟨_, rfl, ?_⟩) ?_⟩
    · have hwp := word_len (hs.w p hp)
      have htp := (hs.g p hp).text_len
      have e3 : (" : " : Str).length = 3 := by decide +kernel
      have e0 : Str.empty ++ p.1 = p.1 := app_empty _
      refine ⟨size_small (by omega), by rw [e0]; exact size_small (by omega), ?_, ?_⟩
      · rw [e0, len_app, e3]
        exact size_small (by omega)
      · refine fmtJ (fun Q E q => q) (hs.g p hp) ?_ ?_
        · rw [e0, len_app, len_app, e3]
          exact Nat.le_trans (show p.1.length + 3 + (text p.2).length ≤ 1100 by omega) (by decide)
        · rw [e0]
          exact hK
    · have e : (sortL L).map (fun p => D.str (lineS p)) = (linesL L).map .str := by
        unfold linesL
        rw [List.map_map]
        rfl
      show Q (.tup ((sortL L).map fun p => D.str (lineS p)))
      rw [e]
      exact q
  refine end_setF rfl (.tup ((scopeL L).map .str)) (by show 3 < 1000; decide) (fun Q E q => ⟨rfl, _, rfl, ?_⟩) ⟨_, _, rfl, hq (by omega)⟩
  show (fun ds : List D => ds.length ≤ sizeLine ∧ _) ((rowsL typeD (sortL L)).map (·.2))
  rw [vals_rows]
  refine ⟨by rw [List.length_map]; exact size_small (by omega), lc_of (fun p : Str × Kd => typeD p.2) (fun p => .str (text p.2)) (sortL L) _ (fun p hp K hK => ⟨_, rfl, fld (lk_text p.2) hK⟩) ?_⟩
  refine ⟨(sortL L).map fun p : Str × Kd => text p.2, ?_, ?_, ?_⟩
  · have e := strsD_map ((sortL L).map fun p => text p.2)
    rw [List.map_map] at e
    exact e
  · rw [List.length_map]
    omega
  · exact q
end K11
namespace K11
open PySem L2 FP
variable [FP.Tabl]
open KP
theorem ok_Library___eq__ {P : Program} {w : World} {mg : Gm} {base : Heap} {Z : Ads} (A : All mg Z) : SpecOk P w mg base 1 Z.a_Library "__eq__" 2 f_eqL := by
  refine mkSpec (N := ["self", "other"]) (ps := ["self", "other"]) A.d_Library___eq__ sc_Library___eq__ (fun _ _ _ _ _ _ us hl => match us, hl with | [_, _], _ => rfl) fun fa cdv Ar outer s H E hr => ⟨_,
    (dss_one (ds_ret (de_and (de_isiO (de_var 1) A.n_isinstance A.kc_Library.nm A.isi_Library FP.boot_isinstance) (de_one (de_cmp (ok_eq (fun _ => hr.r.units)) (de_fld A.kc_Library A.na_Library_own_lines (de_var 0)) (de_fld A.kc_Library A.na_Library_own_lines (de_var 1))))))),  fun ds Q Ex hl hf => ?_⟩
  match ds, hl, hf with
  | [_, y], _, ⟨L, rfl, h1, hg, hc⟩ =>
    have e0 : startD 2 [libD L, y] = [Sl.d (libD L), Sl.d (y)] := rfl
    have hnN : (["self", "other"] : List Str).length = 2 := rfl
    rw [hnN, e0]
    clear e0 hnN
    rcases hc with ⟨M, rfl, h2, hm, hq⟩ | ⟨hn, hq⟩
    · refine ret_v (.bl (true && decide (linesL L = linesL M))) (ev_andV (fun Q E q => isLib (L := M) (P := Q) q) fun _ => ev_op (ev_fld (fs := libF L) (fun Q E q => q) (lk_lines L)) (ev_fld (fs := libF M) (fun Q E q => q) (lk_lines M)) fun Q q => linesEq hg hm q) hq
    · refine ret_v (.bl (false && false)) (ev_andV (fun Q E q => ?_) fun h => by cases h) hq
      show (match isiD ["Library"] (fun _ => true) y with | some b => Q (.bl b) | none => False)
      rw [hn]
      exact q
end K11
namespace K11
open PySem L2 FP
variable [FP.Tabl]
open KP
theorem ok_KindReader___init__ {P : Program} {w : World} {mg : Gm} {base : Heap} {Z : Ads} (A : All mg Z) : InitO P w mg base 1 "KindReader" Z.a_KindReader 0 f_kr_init := by
  refine mkInitO (N := ["self"]) (ps := ["self"]) A.kc_KindReader A.d_KindReader___init__ sc_KindReader___init__ rfl (fun _ _ _ _ _ _ us hl => match us, hl with | [_], _ => rfl) fun fa cdv Ar outer s H E hr => ⟨_,
    (dss_cons (ds_owNewLL 0 A.kc_KindReader A.na_KindReader_of_rows)
    (dss_one (ds_owSet 0 A.kc_KindReader A.na_KindReader_of_wants de_bl))),  fun x ds Q hl hf => ?_⟩
  match ds, hl, hf with
  | [], _, hq =>
    change (_ : DTS) _ [Sl.ow "KindReader" [x] []]
    exact ⟨rfl, by decide, rfl, fun p q => ⟨rfl, by show 1 < 1000; decide, rfl, _, _, _, rfl, rfl, hq⟩⟩
theorem ok_KindReader_take_end {P : Program} {w : World} {mg : Gm} {base : Heap} {Z : Ads} (A : All mg Z) : MethO P w mg base 1 "KindReader" Z.a_KindReader "take_end" 1 f_take_end := by
  refine mkMethO (N := ["self", "sign", "row"]) (ps := ["self", "sign"]) A.d_KindReader_take_end sc_KindReader_take_end rfl (fun _ _ _ _ _ _ us hl => match us, hl with | [_, _], _ => rfl) fun fa cdv Ar outer s H E hr => ⟨_,
    (dss_cons (ds_if (dt_view 0 (dt_val (de_fld A.kc_KindReader A.na_KindReader_of_wants (de_var 0))))
    (dss_one (ds_ret de_bl))
    dss_nil)
    (dss_cons (ds_if (dt_cmp (ok_eq (fun _ => hr.r.units)) (de_var 1) (de_gstr A.c_ARROW))
    (dss_cons (ds_owSet 0 A.kc_KindReader A.na_KindReader_of_wants de_bl)
    (dss_one (ds_ret de_bl)))
    dss_nil)
    (dss_cons (ds_owPop 0 2 A.kc_KindReader A.na_KindReader_of_rows (by decide) (fun _ => ps_asg (pe_bm0 PySem.F.plainAttrs_list PySem.F.slot_list_pop PySem.F.type_list_pop mt_pop (pe_fld (pv 0) rfl)) (pg_name (i := 2) sc_KindReader_take_end.nd rfl (.inl rfl))))
    (dss_cons (ds_frz 2 (ds_if (dt_view 0 (dt_w (dw_or (dt_cmp (ok_eq (fun _ => hr.r.units)) (de_fld A.kc_KindReader A.na_KindReader_of_rows (de_var 0)) (de_lst da_nil)) (dw_or (dt_cmp ok_lt (de_callB ok_len A.n_len FP.boot_len (da_cons (de_var 2) da_nil)) de_int) (dw_or1 (dt_cmp (ok_neT0 (fun _ => hr.r.units)) (de_ix (de_ix (de_var 2) (de_neg de_int)) de_int) (de_tup da_nil)))))))
    (dss_one (ds_ret de_bl))
    dss_nil))
    (dss_cons (ds_owAppLast 0 A.kc_KindReader A.na_KindReader_of_rows (de_tup (da_cons (de_callTy ok_tuple A.n_tuple FP.boot_tuple (da_cons (de_slice (de_var 2) do_none (do_some (de_neg de_int))) da_nil)) (da_cons (de_ix (de_ix (de_var 2) (de_neg de_int)) de_int) da_nil))) (fun _ _ _ h => ⟨_, rfl, h⟩) (fun _ _ h => ps_expr (pe_bm PySem.F.plainAttrs_list PySem.F.slot_list_append PySem.F.type_list_append mt_append (pe_ix ix_seq (pe_fld (pv 0) rfl) (pe_un un_neg pe_int) (fun _ _ => rfl)) (pa_cons h pa_nil))))
    (dss_one (ds_ret de_bl))))))),  fun as fs ds Q Ex hl hf => ?_⟩
  match ds, hl, hf with
  | [.str s], _, ⟨pre, row, w, hfs, hok, hs, hs2, hq⟩ =>
    subst hfs
    change (_ : DTS) _ [Sl.ow "KindReader" as (roF (pre ++ [row]) w), Sl.d (.str s), Sl.no]
    refine ⟨rfl, _, td_wants _ _, ?_⟩
    cases w with
    | true => exact ⟨_, _, _, rfl, rfl, hq⟩
    | false =>
    rcases hs2 with rfl | rfl
    · simp only [blc_bl, bit_t, bit_f, dNext, dSeq, dIfS, dB, dOp, dVar, dC, List.getElem?_cons_zero, List.getElem?_cons_succ, List.set_cons_zero, List.set_cons_succ]
      refine eq_str ?_
      rw [decide_eq_true rfl]
      exact ⟨rfl, by show 2 < 1000; decide, rfl, _, _, _, rfl, rfl, hq⟩
    · simp only [blc_bl, bit_t, bit_f, dNext, dSeq, dIfS, dB, dOp, dVar, dC, List.getElem?_cons_zero, List.getElem?_cons_succ, List.set_cons_zero, List.set_cons_succ]
      refine eq_str ?_
      rw [decide_eq_false (by decide)]
      refine ⟨rfl, _, _, rf_snoc pre row false, fun as' ha => ?_⟩
      refine ⟨rfl, _, td_rows pre false, line rfl, eq_nil (sh_rows hok.dl) ?_⟩
      rcases List.eq_nil_or_concat pre with rfl | ⟨pre', r0, rfl⟩
      · exact ⟨_, _, _, rfl, ha, hq⟩
      · rw [List.concat_eq_append] at *
        have e0 : ((pre' ++ [r0]).map fun r => D.lst (rowD r)).isEmpty = false := by simp
        rw [e0]
        show bit (decide (((rowD row).length : Int) < 2)) _ _
        have el : (rowD row).length = row.length := by unfold rowD; rw [List.length_map]
        have et : takeEnd (pre' ++ [r0]) row false ")" = (match row.getLast? with
          | some k => if 2 ≤ row.length ∧ k.as = [] then (true, pre' ++ [r0 ++ [.mk row.dropLast k.a]], false) else (false, pre' ++ [r0], false)
          | _ => (false, pre' ++ [r0], false)) := by
          unfold takeEnd
          rw [if_neg Bool.false_ne_true, if_neg (by decide)]
          simp only [List.getLast?_append, List.getLast?_singleton, Option.some_or, List.dropLast_concat]
          cases row.getLast? <;> rfl
        rw [et] at hq
        rcases List.eq_nil_or_concat row with rfl | ⟨row', k, rfl⟩
        · rw [decide_eq_true (by show ((rowD []).length : Int) < 2; decide)]
          exact ⟨_, _, _, rfl, ha, hq⟩
        · rw [List.concat_eq_append] at *
          simp only [List.getLast?_append, List.getLast?_singleton, Option.some_or, List.dropLast_concat] at hq
          by_cases h2 : 2 ≤ (row' ++ [k]).length
          · rw [decide_eq_false (by rw [el]; omega)]
            refine ix_last (ix_p0 ⟨line rfl, ?_⟩)
            show bit (!(k.as.map plain).isEmpty) _ _
            cases hk : k.as with
            | cons k1 r1 =>
              rw [if_neg (by rw [hk]; exact fun z => by cases z.2)] at hq
              exact ⟨_, _, _, rfl, ha, hq⟩
            | nil =>
              rw [if_pos ⟨h2, hk⟩] at hq
              refine ⟨rfl, _, _, rf_snoc pre' r0 false, ?_⟩
              have ed : D.tup [.tup (cutD (rowD (row' ++ [k])) none (some (-1))), .str k.a] = plain (Kd.mk row' k.a) := by
                rw [rowD_snoc, cut_last, plain_mk]
                rfl
              have ef : putO "of_rows" (.ll (pre'.map rowD ++ [rowD r0 ++ [D.tup [.tup (cutD (rowD (row' ++ [k])) none (some (-1))), .str k.a]]])) (roF (pre' ++ [r0]) false) = roF (pre' ++ [r0 ++ [Kd.mk row' k.a]]) false := by
                rw [ed, ← rowD_snoc, show pre'.map rowD ++ [rowD (r0 ++ [Kd.mk row' k.a])] = (pre' ++ [r0 ++ [Kd.mk row' k.a]]).map rowD by rw [List.map_append]; rfl]
                exact rf_put _ _ _
              have hr0 : (rowD r0).length < sizeLine := by
                have z := hok.r r0 (by simp)
                unfold rowD
                rw [List.length_map]
                exact Nat.lt_of_le_of_lt z (by decide)
              rw [← ef] at hq
              exact ix_last (ix_p1 ⟨line rfl, hr0, _, _, _, rfl, ha, hq⟩)
          · rw [decide_eq_true (by rw [el]; omega)]
            rw [if_neg fun z => h2 z.1] at hq
            exact ⟨_, _, _, rfl, ha, hq⟩
theorem ok_KindReader_take {P : Program} {w : World} {mg : Gm} {base : Heap} {Z : Ads} (A : All mg Z) (G_KindReader_take_end : MethO P w mg base 1 "KindReader" Z.a_KindReader "take_end" 1 f_take_end) (G_is_word : DefOk P w mg base 1 "is_word" 1 f_is_word) : MethO P w mg base 2 "KindReader" Z.a_KindReader "take" 1 f_take := by
  refine mkMethO (N := ["self", "sign", "can_stand"]) (ps := ["self", "sign"]) A.d_KindReader_take sc_KindReader_take rfl (fun _ _ _ _ _ _ us hl => match us, hl with | [_, _], _ => rfl) fun fa cdv Ar outer s H E hr => ⟨_,
    (dss_cons (ds_if (dt_cmp (ok_eq (fun _ => hr.r.units)) (de_var 1) de_str)
    (dss_cons (ds_owAppNew 0 A.kc_KindReader A.na_KindReader_of_rows (do_lst da_nil) (fun _ _ h => ps_expr (pe_bm PySem.F.plainAttrs_list PySem.F.slot_list_append PySem.F.type_list_append mt_append (pe_fld (pv 0) rfl) (pa_cons h pa_nil))))
    (dss_one (ds_ret (de_view 0 (de_and (de_fld A.kc_KindReader A.na_KindReader_of_wants (de_var 0)) (de_one (de_cmp ok_le (de_callB ok_len A.n_len FP.boot_len (da_cons (de_fld A.kc_KindReader A.na_KindReader_of_rows (de_var 0)) da_nil)) (de_op ok_add (de_gint A.c_MAX_ORDER) de_int))))))))
    dss_nil)
    (dss_cons (ds_if (dt_w (dw_or (dt_cmp (ok_eq (fun _ => hr.r.units)) (de_var 1) (de_gstr A.c_ARROW)) (dw_or1 (dt_cmp (ok_eq (fun _ => hr.r.units)) (de_var 1) de_str))))
    (dss_one (ds_retX (dx_meth 0 A.kc_KindReader G_KindReader_take_end (fun _ => hr.mono (by omega)) (fun _ => pas (takes_of rfl rfl rfl rfl)) (da_cons (de_var 1) da_nil))))
    dss_nil)
    (dss_cons (ds_set (i := 2) (de_view 0 (de_and (de_fld A.kc_KindReader A.na_KindReader_of_wants (de_var 0)) (de_one (de_call G_is_word (fun _ => hr.mono (by omega)) (fun _ => pas (takes_of rfl rfl rfl rfl)) (da_cons (de_var 1) da_nil))))) (fun _ => sc_KindReader_take.nd))
    (dss_cons (ds_owSet 0 A.kc_KindReader A.na_KindReader_of_wants de_bl)
    (dss_cons (ds_owAppLast 0 A.kc_KindReader A.na_KindReader_of_rows (de_tup (da_cons (de_tup da_nil) (da_cons (de_var 1) da_nil))) (fun _ _ _ h => ⟨_, rfl, h⟩) (fun _ _ h => ps_expr (pe_bm PySem.F.plainAttrs_list PySem.F.slot_list_append PySem.F.type_list_append mt_append (pe_ix ix_seq (pe_fld (pv 0) rfl) (pe_un un_neg pe_int) (fun _ _ => rfl)) (pa_cons h pa_nil))))
    (dss_one (ds_ret (de_var 2)))))))),  fun as fs ds Q Ex hl hf => ?_⟩
  match ds, hl, hf with
  | [.str s], _, ⟨pre, row, w, hfs, hok, hs, hq⟩ =>
    subst hfs
    change (_ : DTS) _ [Sl.ow "KindReader" as (roF (pre ++ [row]) w), Sl.d (.str s), Sl.no]
    simp only [blc_bl, bit_t, bit_f, dNext, dSeq, dIfS, dB, dOp, dVar, dC, List.getElem?_cons_zero, List.getElem?_cons_succ, List.set_cons_zero, List.set_cons_succ]
    refine eq_str ?_
    by_cases h1 : s = "("
    · rw [decide_eq_true h1]
      have et : take1 pre row w s = (w && decide (pre.length + 2 ≤ 5), pre ++ [row] ++ [[]], w) := if_pos h1
      rw [et] at hq
      have ef : putO "of_rows" (.ll ((pre ++ [row]).map rowD ++ [[]])) (roF (pre ++ [row]) w) = roF (pre ++ [row] ++ [[]]) w := by
        rw [show (pre ++ [row]).map rowD ++ [[]] = (pre ++ [row] ++ [[]]).map rowD by rw [List.map_append (l₁ := pre ++ [row])]; rfl]
        exact rf_put _ _ _
      rw [← ef] at hq
      have hn := hok.n
      refine ⟨rfl, _, rf_rows _ _, line rfl, by rw [List.length_map]; exact Nat.lt_of_le_of_lt hn (by decide), fun as' ha => ?_⟩
      rw [ef] at hq ⊢
      refine ⟨rfl, _, td_wants _ _, ?_⟩
      cases w with
      | false => exact ⟨rfl, _, _, _, rfl, ha, hq⟩
      | true =>
        refine ⟨rfl, _, td_rows _ _, ?_⟩
        have e : decide ((((pre ++ [row] ++ [[]]).map fun r => D.lst (rowD r)).length : Int) ≤ 4 + 1) = (true && decide (pre.length + 2 ≤ 5)) := by
          rw [Bool.true_and, List.length_map, List.length_append, List.length_append]
          have e1 : [row].length = 1 := rfl
          have e2 : ([[]] : List (List Kd)).length = 1 := rfl
          rw [e1, e2, Bool.eq_iff_iff, decide_eq_true_iff, decide_eq_true_iff]
          omega
        rw [← e] at hq
        exact ⟨rfl, _, _, _, rfl, ha, hq⟩
    · rw [decide_eq_false h1]
      simp only [blc_bl, bit_t, bit_f, dNext, dSeq, dIfS, dB, dOp, dVar, dC, List.getElem?_cons_zero, List.getElem?_cons_succ, List.set_cons_zero, List.set_cons_succ, dOr]
      refine eq_str ?_
      by_cases h2 : s = " -> "
      · rw [decide_eq_true h2]
        have et : take1 pre row w s = takeEnd pre row w s := by
          unfold take1
          rw [if_neg h1, if_pos (.inl h2)]
        rw [et] at hq
        exact ⟨rfl, rf_end _ _, rfl, pre, row, w, rfl, hok, hs, .inl h2, fun as' ha => ⟨_, _, _, rfl, ha, hq⟩⟩
      · rw [decide_eq_false h2]
        simp only [blc_bl, bit_t, bit_f, dNext, dSeq, dIfS, dB, dOp, dVar, dC, List.getElem?_cons_zero, List.getElem?_cons_succ, List.set_cons_zero, List.set_cons_succ]
        refine eq_str ?_
        by_cases h3 : s = ")"
        · rw [decide_eq_true h3]
          have et : take1 pre row w s = takeEnd pre row w s := by
            unfold take1
            rw [if_neg h1, if_pos (.inr h3)]
          rw [et] at hq
          exact ⟨rfl, rf_end _ _, rfl, pre, row, w, rfl, hok, hs, .inr h3, fun as' ha => ⟨_, _, _, rfl, ha, hq⟩⟩
        · rw [decide_eq_false h3]
          have et : take1 pre row w s = (w && isWordS s, pre ++ [row ++ [.mk [] s]], false) := by
            unfold take1
            rw [if_neg h1, if_neg fun z => z.elim h2 h3]
          rw [et] at hq
          have ed : D.tup [.tup [], .str s] = plain (.mk [] s) := by
            rw [plain_mk]
            rfl
          have ef : putO "of_rows" (.ll (pre.map rowD ++ [rowD row ++ [D.tup [.tup [], .str s]]])) (roF (pre ++ [row]) false) = roF (pre ++ [row ++ [Kd.mk [] s]]) false := by
            rw [ed, ← rowD_snoc, show pre.map rowD ++ [rowD (row ++ [Kd.mk [] s])] = (pre ++ [row ++ [Kd.mk [] s]]).map rowD by rw [List.map_append]; rfl]
            exact rf_put _ _ _
          rw [← ef] at hq
          have hr0 : (rowD row).length < sizeLine := by
            have z := hok.r row (by simp)
            unfold rowD
            rw [List.length_map]
            exact Nat.lt_of_le_of_lt z (by decide)
          refine ⟨rfl, _, td_wants _ _, ?_⟩
          cases w with
          | false => exact ⟨rfl, rfl, by show 2 < 1000; decide, rfl, rfl, _, _, rf_snoc pre row false, line rfl, line rfl, hr0, _, _, _, rfl, rfl, hq⟩
          | true => exact ⟨rfl, hs, rfl, rfl, by show 2 < 1000; decide, rfl, rfl, _, _, rf_snoc pre row false, line rfl, line rfl, hr0, _, _, _, rfl, rfl, hq⟩
theorem ok_KindReader_result {P : Program} {w : World} {mg : Gm} {base : Heap} {Z : Ads} (A : All mg Z) : MethOk P w mg base 1 Z.a_KindReader "result" 1 f_result := by
  refine mkMeth (N := ["self"]) (ps := ["self"]) A.d_KindReader_result sc_KindReader_result (fun _ _ _ _ _ _ us hl => match us, hl with | [_], _ => rfl) fun fa cdv Ar outer s H E hr => ⟨_,
    (dss_cons (ds_if (dt_w (dw_or (dt_val (de_fld A.kc_KindReader A.na_KindReader_of_wants (de_var 0))) (dw_or (dt_cmp (ok_ne (fun _ => hr.r.units)) (de_callB ok_len A.n_len FP.boot_len (da_cons (de_fld A.kc_KindReader A.na_KindReader_of_rows (de_var 0)) da_nil)) de_int) (dw_or1 (dt_cmp (ok_neT0 (fun _ => hr.r.units)) (de_ix (de_ix (de_ix (de_fld A.kc_KindReader A.na_KindReader_of_rows (de_var 0)) de_int) (de_neg de_int)) de_int) (de_tup da_nil))))))
    (dss_one (ds_ret de_non))
    dss_nil)
    (dss_one (ds_ret (de_tup (da_cons (de_callTy ok_tuple A.n_tuple FP.boot_tuple (da_cons (de_slice (de_ix (de_fld A.kc_KindReader A.na_KindReader_of_rows (de_var 0)) de_int) do_none (do_some (de_neg de_int))) da_nil)) (da_cons (de_ix (de_ix (de_ix (de_fld A.kc_KindReader A.na_KindReader_of_rows (de_var 0)) de_int) (de_neg de_int)) de_int) da_nil)))))),  fun ds Q Ex hl hf => ?_⟩
  match ds, hl, hf with
  | [.ins _ _], _, ⟨rows, w, rfl, rfl, hne, hq⟩ =>
    change (_ : DTS) _ [Sl.d (.ins "KindReader" (roD rows w))]
    refine ⟨rfl, _, rd_wants _ _, ?_⟩
    cases w with
    | true => exact hq
    | false =>
    refine ⟨rfl, _, rd_rows _ _, ?_⟩
    show bit (!decide (((rows.map fun r => D.lst (rowD r)).length : Int) = 1)) _ _
    by_cases h1 : rows.length = 1
    · rw [decide_eq_true (by rw [List.length_map]; omega)]
      obtain ⟨row, rfl⟩ := List.length_eq_one_iff.mp h1
      obtain ⟨row', k, rfl⟩ := (List.eq_nil_or_concat row).resolve_left (hne rfl row rfl)
      rw [List.concat_eq_append] at *
      have er : resultS [row' ++ [k]] false = if k.as = [] then some (.mk row' k.a) else none := by
        unfold resultS
        simp
      rw [er] at hq
      refine ⟨rfl, _, rd_rows _ _, _, rfl, ix_last (ix_p0 ⟨line rfl, ?_⟩)⟩
      show bit (!(k.as.map plain).isEmpty) _ _
      cases hk : k.as with
      | cons k1 r1 =>
        rw [hk, if_neg (by simp)] at hq
        exact hq
      | nil =>
        rw [hk, if_pos rfl] at hq
        have ed : D.tup [.tup (cutD (rowD (row' ++ [k])) none (some (-1))), .str k.a] = plain (Kd.mk row' k.a) := by
          rw [rowD_snoc, cut_last, plain_mk]
          rfl
        have hq2 : Q (plain (Kd.mk row' k.a)) := hq
        rw [← ed] at hq2
        exact ⟨rfl, _, rd_rows _ _, _, rfl, rfl, _, rd_rows _ _, _, rfl, ix_last (ix_p1 ⟨line rfl, hq2⟩)⟩
    · rw [decide_eq_false (by rw [List.length_map]; omega)]
      have er : resultS rows false = none := by
        unfold resultS
        rw [if_neg Bool.false_ne_true]
        split
        · exact absurd rfl h1
        · rfl
      rw [er] at hq
      exact hq
end K11
namespace K11
open PySem L2 FP
variable [FP.Tabl]
open KP
theorem ok_signs_of {P : Program} {w : World} {mg : Gm} {base : Heap} {Z : Ads} (A : All mg Z) : DefOk P w mg base 1 "signs_of" 1 f_signs := by
  refine mkDef (N := ["text", "found", "at", "size"]) (ps := ["text"]) A.d_signs_of sc_signs_of (fun _ _ _ _ _ _ us hl => match us, hl with | [_], _ => rfl) fun fa cdv Ar outer s H E hr => ⟨_,
    (dss_cons (ds_setO (i := 1) (do_lst da_nil) (fun _ => sc_signs_of.nd))
    (dss_cons (ds_set (i := 2) de_int (fun _ => sc_signs_of.nd))
    (dss_cons (ds_while (dt_cmp ok_lt (de_var 2) (de_callB ok_len A.n_len FP.boot_len (da_cons (de_var 0) da_nil)))
    (dss_cons (ds_set (i := 3) de_int (fun _ => sc_signs_of.nd))
    (dss_cons (ds_if (dt_cmp ok_in (de_ix (de_var 0) (de_var 2)) (de_gstr A.c_LETTERS))
    (dss_one (ds_while (dt_w (dw_and (dt_cmp (ok_ne (fun _ => hr.r.units)) (de_slice (de_var 0) (do_some (de_op ok_add (de_var 2) (de_var 3))) (do_some (de_op ok_add (de_op ok_add (de_var 2) (de_var 3)) de_int))) de_str) (dw_and1 (dt_cmp ok_in (de_ix (de_var 0) (de_op ok_add (de_var 2) (de_var 3))) (de_gstr A.c_LETTERS)))))
    (dss_one (ds_set (i := 3) (de_op ok_add (de_var 3) de_int) (fun _ => sc_signs_of.nd))) (fun _ => passes_of rfl)))
    (dss_one (ds_if (dt_cmp (ok_eq (fun _ => hr.r.units)) (de_slice (de_var 0) (do_some (de_var 2)) (do_some (de_op ok_add (de_var 2) de_int))) (de_gstr A.c_ARROW))
    (dss_one (ds_set (i := 3) de_int (fun _ => sc_signs_of.nd)))
    (dss_one (ds_if (dt_cmp ok_notIn (de_ix (de_var 0) (de_var 2)) de_str)
    (dss_one (ds_ret de_non))
    dss_nil)))))
    (dss_cons (ds_append 1 (de_slice (de_var 0) (do_some (de_var 2)) (do_some (de_op ok_add (de_var 2) (de_var 3)))) (pe := fun _ _ h => ps_expr (pe_bm PySem.F.plainAttrs_list PySem.F.slot_list_append PySem.F.type_list_append mt_append (pv 1) (pa_cons h pa_nil))))
    (dss_one (ds_set (i := 2) (de_op ok_add (de_var 2) (de_var 3)) (fun _ => sc_signs_of.nd)))))) (fun _ => passes_of rfl))
    (dss_one (ds_frz 1 (ds_ret (de_var 1))))))),  fun ds Q Ex hl hf => ?_⟩
  match ds, hl, hf with
  | [.str z], _, ⟨hz, hq⟩ =>
    change (_ : DTS) _ [Sl.d (.str z), Sl.no, Sl.no, Sl.no]
    refine ⟨line rfl, LI z, ⟨_, LI.start z _⟩, ?_⟩
    rintro m ρ ⟨pre, rest, found, o, h, rfl, rfl, hx, hn⟩
    have hzl : z.length = pre.length + rest.length := by rw [str_len, h, List.length_append]
    refine ⟨len_ok hz, ?_⟩
    show bit (decide ((pre.length : Int) < (z.length : Int))) _ _
    cases rest with
    | nil =>
      rw [decide_eq_false (by rw [hzl, List.length_nil]; omega)]
      have e := hx.stop
      rw [e] at hq
      exact hq
    | cons c r =>
      have hlr : (c :: r).length = r.length + 1 := rfl
      rw [decide_eq_true (by omega)]
      refine ⟨c, len_ok hz, at_mid h rfl, in_letters ?_⟩
      show bit (isL c) _ _
      cases hc : isL c with
      | true =>
        refine word_loop hz h ?_
        obtain ⟨t1, t2⟩ := take_word (c := c) (r := r)
        have hx' := hx.word hc
        rw [← t1, ← t2] at hx'
        have htw := (List.takeWhile_sublist isL (l := r)).length_le
        exact lex_tail hz h hx' (by omega) (by omega) hn (by omega)
      | false =>
        refine ⟨len_ok hz, eq_str ?_⟩
        rw [cut_mid (hi := (pre.length : Int) + 4) (k := 4) h rfl rfl]
        by_cases ha : (c :: r).take 4 = arrowL
        · have he : (⟨((c :: r).take 4).toArray⟩ : Str) = " -> " := str_eq.mpr ha
          rw [decide_eq_true he]
          have hx' : Lex z (found ++ [⟨((c :: r).take 4).toArray⟩]) ((c :: r).drop 4) := by
            rw [he]
            exact hx.arrow hc ha
          have h4 : 4 ≤ (c :: r).length := by
            have q := congrArg List.length ha
            rw [List.length_take] at q
            have e : arrowL.length = 4 := by decide
            omega
          exact lex_tail hz h hx' (by omega) h4 hn rfl
        · rw [decide_eq_false (fun q => ha (str_eq.mp q))]
          refine ⟨c, len_ok hz, at_mid h rfl, notin_par ?_⟩
          show bit (!decide (c ∈ parL)) _ _
          by_cases hp : c ∈ parL
          · rw [decide_eq_true hp]
            exact lex_tail (k := 1) hz h (hx.par hc ha hp) (by omega) (by omega) hn rfl
          · rw [decide_eq_false hp]
            rw [hx.bad hc ha hp] at hq
            exact hq
theorem ok_shape_of {P : Program} {w : World} {mg : Gm} {base : Heap} {Z : Ads} (A : All mg Z) (G_KindReader___init__ : InitO P w mg base 1 "KindReader" Z.a_KindReader 0 f_kr_init) (G_KindReader_result : MethOk P w mg base 1 Z.a_KindReader "result" 1 f_result) (G_KindReader_take : MethO P w mg base 2 "KindReader" Z.a_KindReader "take" 1 f_take) (G_signs_of : DefOk P w mg base 1 "signs_of" 1 f_signs) : DefOk P w mg base 4 "shape_of" 1 f_shape := by
  refine mkDef (N := ["text", "signs", "reader", "sign"]) (ps := ["text"]) A.d_shape_of sc_shape_of (fun _ _ _ _ _ _ us hl => match us, hl with | [_], _ => rfl) fun fa cdv Ar outer s H E hr => ⟨_,
    (dss_cons (ds_set (i := 1) (de_if (dt_val (de_isi (de_var 0) A.n_isinstance A.n_str FP.boot_str FP.boot_isinstance)) (de_call G_signs_of (fun _ => hr.mono (by omega)) (fun _ => pas (takes_of rfl rfl rfl rfl)) (da_cons (de_var 0) da_nil)) de_non) (fun _ => sc_shape_of.nd))
    (dss_cons (ds_if (dt_w (dw_or (dt_cmp ok_is (de_var 1) de_non) (dw_or1 (dt_cmp ok_gt (de_callB ok_len A.n_len FP.boot_len (da_cons (de_lc (own := [("sign", 3)]) (fun _ => sc_shape_of.nd) (di_list (de_var 1)) (fun _ => blkOk_by (by kernel_rfl)) (dg_name (i := 3) (fun _ => sc_shape_of.nd)) (dts_one (dt_cmp ok_notIn (de_var 3) (de_tup (da_cons de_str (da_cons de_str (da_cons (de_gstr A.c_ARROW) da_nil)))))) (de_var 3)) da_nil)) (de_gint A.c_MAX_PLACES)))))
    (dss_one (ds_ret de_non))
    dss_nil)
    (dss_cons (ds_makeO0 (i := 2) A.kc_KindReader G_KindReader___init__ (fun _ => hr.mono (by omega)) (fun _ => pas (takes_of rfl rfl rfl rfl)) (fun _ => sc_shape_of.nd))
    (dss_cons (ds_for (di_list (de_var 1)) (dg_name (i := 3) (fun _ => sc_shape_of.nd))
    (dss_one (ds_ifX (dtx_not (dtx_val (dx_meth 2 A.kc_KindReader G_KindReader_take (fun _ => hr.mono (by omega)) (fun _ => pas (takes_of rfl rfl rfl rfl)) (da_cons (de_var 3) da_nil))))
    (dss_one (ds_ret de_non))
    dss_nil)) (fun _ => passes_of rfl))
    (dss_one (ds_frzO 2 (ds_ret (de_meth0 A.kc_KindReader G_KindReader_result (fun _ => hr.mono (by omega)) (fun _ => pas (takes_of rfl rfl rfl rfl)) (de_var 2))))))))),  fun ds Q Ex hl hf => ?_⟩
  match ds, hl, hf with
  | [d], _, ⟨ho, hz9, hq⟩ =>
    change (_ : DTS) _ [Sl.d d, Sl.no, Sl.no, Sl.no]
    obtain ⟨n, hn, hk⟩ := isi_str ho
    cases d with
    | str z =>
      cases hn
      refine ⟨_, hk, rfl, ho, ?_⟩
      have hq1 : Q (kdD (shapeS z)) := hq
      unfold shapeS at hq1
      cases hx : lexS z with
      | none =>
        rw [hx] at hq1
        exact hq1
      | some ss =>
        rw [hx] at hq1
        replace hq1 : Q (kdD (if 15 < (ss.filter wordish).length then none else readS ss [[]] true)) := hq1
        have hz := hz9 z rfl
        obtain ⟨k1, k2⟩ := lexS_ok ho.2 hx
        refine ⟨by rw [List.length_map]; exact size_small (by omega), ?_⟩
        refine lc_if D.str (fun s => if wordish s = true then some (D.str s) else none) ss _ (fun s _ K hK => ⟨_, rfl, line rfl, wordish_in s ?_⟩) ?_
        · cases hw : wordish s with
          | true =>
            rw [hw, if_pos rfl] at hK
            exact hK
          | false =>
            rw [hw, if_neg Bool.false_ne_true] at hK
            exact hK
        · show bit (decide (((ss.filterMap fun s => if wordish s = true then some (D.str s) else none).length : Int) > 15)) _ _
          rw [filter_len]
          by_cases hw : 15 < (ss.filter wordish).length
          · rw [decide_eq_true (by omega)]
            rw [if_pos hw] at hq1
            exact hq1
          · rw [decide_eq_false (by omega)]
            rw [if_neg hw] at hq1
            intro as
            refine read_loop (Q := Q) (fun ρ h => h) ?_ ss [[]] true as _ (fun s hs => ⟨by have := (k1 s hs).1; omega, (k1 s hs).2⟩) (RInv.start _ (by omega)) hq1
            intro as rows w o hw h
            exact ⟨rfl, by rw [rf_toDs]; rfl, rows, w, rfl, rf_toDs _ _, hw, h⟩
    | fz _ => exact ho.elim
    | ins _ _ => exact ho.elim
    | cl _ => exact ho.elim
    | fn _ _ => exact ho.elim
    | _ =>
      cases hn
      exact ⟨_, hk, hq⟩
theorem nv_kind_in {P : Program} {w : World} {mg : Gm} {base : Heap} {Z : Ads} {k : Nat} (A : All mg Z) : DefOk P w mg base k "kind_in" 1 (f_kindX 0) :=
  (DefOk.never (ps := ["shape"]) A.d_kind_in (fun _ _ _ _ _ _ us hl => match us, hl with | [_], _ => rfl)).mono (Nat.le_refl _) nope_kindX
theorem ok_kind_in {P : Program} {w : World} {mg : Gm} {base : Heap} {Z : Ads} {d : Nat} (A : All mg Z) (G_Type___init__ : InitOk P w mg base 2 "Type" Z.a_Type 2 f_initX) (G_kind_in : DefOk P w mg base (d + 4) "kind_in" 1 (f_kindX d)) : DefOk P w mg base (d + 5) "kind_in" 1 (f_kindX (d + 1)) := by
  refine mkDef (N := ["shape", "one"]) (ps := ["shape"]) A.d_kind_in sc_kind_in (fun _ _ _ _ _ _ us hl => match us, hl with | [_], _ => rfl) fun fa cdv Ar outer s H E hr => ⟨_,
    (dss_one (ds_ret (de_make A.kc_Type G_Type___init__ (fun _ => hr.mono (by omega)) (fun _ => pas (takes_of rfl rfl rfl rfl)) (da_cons (de_callTy ok_tuple A.n_tuple FP.boot_tuple (da_cons (de_lc (own := [("one", 1)]) (fun _ => sc_kind_in.nd) (di_tup (de_ix (de_var 0) de_int)) (fun _ => blkOk_by (by kernel_rfl)) (dg_name (i := 1) (fun _ => sc_kind_in.nd)) dts_nil (de_call G_kind_in (fun _ => hr.mono (by omega)) (fun _ => pas takes0) (da_cons (de_var 1) da_nil))) da_nil)) (da_cons (de_ix (de_var 0) de_int) da_nil))))),  fun ds Q Ex hl hf => ?_⟩
  match ds, hl, hf with
  | [_], _, ⟨k, rfl, hs, ho, hq, hx⟩ =>
    change (_ : DTS) _ [Sl.d (plain k), Sl.no]
    cases k with
    | mk as a =>
    have hn : as.length ≤ 60 := hs.n
    have hoo : ordL as < d + 1 := ho
    refine ix_p0 ?_
    refine ⟨by show (as.map plain).length ≤ _; rw [List.length_map]; exact size_small (by omega), lc_of plain typeD as _ (fun j hj K hK => ⟨_, rfl, rfl, j, rfl, (hs.kid j hj).semi, by have := ord_lt hj; omega, fun _ => hK, fun n => (n (hs.kid j hj)).elim⟩) ?_⟩
    refine tupL ?_
    refine ix_p1 ?_
    refine ⟨rfl, as, rfl, hs.kid, hn, hs.a, fun g => ?_, fun n => hx n⟩
    have q := hq g
    rw [typeD_eq] at q
    exact q
theorem rs_kind_in {P : Program} {w : World} {mg : Gm} {base : Heap} {Z : Ads} (A : All mg Z) (G_Type___init__ : InitOk P w mg base 2 "Type" Z.a_Type 2 f_initX) : ∀ d : Nat, DefOk P w mg base (d + 4) "kind_in" 1 (f_kindX d)
  | 0 => nv_kind_in A
  | d + 1 => ok_kind_in A G_Type___init__ (rs_kind_in A G_Type___init__ d)
theorem ok_type_of_text {P : Program} {w : World} {mg : Gm} {base : Heap} {Z : Ads} (A : All mg Z) (G_kind_in : DefOk P w mg base 10 "kind_in" 1 (f_kindX 6)) (G_shape_of : DefOk P w mg base 4 "shape_of" 1 f_shape) : DefOk P w mg base 11 "type_of_text" 1 f_totX := by
  refine mkDef (N := ["text", "shape"]) (ps := ["text"]) A.d_type_of_text sc_type_of_text (fun _ _ _ _ _ _ us hl => match us, hl with | [_], _ => rfl) fun fa cdv Ar outer s H E hr => ⟨_,
    (dss_cons (ds_set (i := 1) (de_call G_shape_of (fun _ => hr.mono (by omega)) (fun _ => pas (takes_of rfl rfl rfl rfl)) (da_cons (de_var 0) da_nil)) (fun _ => sc_type_of_text.nd))
    (dss_one (ds_try (fun _ => ⟨rfl, rfl, .inl A.ex_InvalidType.nm⟩) A.cam_InvalidType (fun _ => takes_of rfl rfl rfl rfl) (fun W => (dss_one (ds_ret (de_if (dt_cmp ok_is (de_var 1) de_non) de_non (de_call G_kind_in (fun _ => hr.mono (by omega)) (fun j => pas j.2.1) (da_cons (de_var 1) da_nil)))))) (dss_one (ds_ret de_non))))),  fun ds Q Ex hl hf => ?_⟩
  match ds, hl, hf with
  | [d], _, ⟨ho, hz9, hq⟩ =>
    change (_ : DTS) _ [Sl.d d, Sl.no]
    refine ⟨rfl, ho, hz9, ?_⟩
    cases hs : shapeV d with
    | none =>
      have e : totV d = none := by
        cases d with
        | str z =>
          have hs' : shapeS z = none := hs
          show totS z = none
          unfold totS
          rw [hs']
        | _ => rfl
      rw [e] at hq
      exact hq
    | some k =>
      cases d with
      | str z =>
        have hs' : shapeS z = some k := hs
        obtain ⟨h1, h2, h3⟩ := shape_semi ho (hz9 z rfl) hs'
        have e : isNon (plain k) = false := by rw [plain_eq]; rfl
        have et : totV (.str z) = if ord k ≤ 4 then some k else none := by
          show totS z = _
          unfold totS
          rw [hs']
        rw [et] at hq
        show bit (isNon (plain k)) _ _
        rw [e]
        refine ⟨rfl, k, rfl, h1, h3, fun g => ?_, fun n => ⟨by decide +kernel, ?_⟩⟩
        · rw [if_pos (h2.mp g)] at hq
          exact hq
        · rw [if_neg fun q => n (h2.mpr q)] at hq
          have hy : decide (("InvalidType" : Str) ∈ (["InvalidType"] : List Str)) = true := by decide +kernel
          show bit (decide (("InvalidType" : Str) ∈ (["InvalidType"] : List Str))) _ _
          rw [hy]
          exact hq
      | _ => cases hs
theorem ok_Type_read {P : Program} {w : World} {mg : Gm} {base : Heap} {Z : Ads} (A : All mg Z) (G_type_of_text : DefOk P w mg base 11 "type_of_text" 1 f_totX) : CMethOk P w mg base 12 Z.a_Type "read" 2 f_readX := by
  refine mkCMeth (N := ["cls", "text", "found"]) (ps := ["cls", "text"]) A.d_Type_read sc_Type_read (fun _ _ _ _ _ _ us hl => match us, hl with | [_, _], _ => rfl) fun fa cdv Ar outer s H E hr => ⟨_,
    (dss_cons (ds_set (i := 2) (de_call G_type_of_text (fun _ => hr.mono (by omega)) (fun _ => pas (takes_of rfl rfl rfl rfl)) (da_cons (de_var 1) da_nil)) (fun _ => sc_Type_read.nd))
    (dss_cons (ds_if (dt_cmp ok_is (de_var 2) de_non)
    (dss_one (ds_raiseA (k := 0) veB veS A.xc_ParseError (fun _ => hr.mono (by omega)) (fun _ => takes_of rfl rfl rfl rfl) de_non))
    dss_nil)
    (dss_one (ds_ret (de_var 2))))),  fun ds Q Ex hl hf => ?_⟩
  match ds, hl, hf with
  | [.cl _, d], _, ⟨rfl, ho, hz9, h1, h2⟩ =>
    change (_ : DTS) _ [Sl.d (.cl "Type"), Sl.d d, Sl.no]
    refine ⟨rfl, ho, hz9, ?_⟩
    cases hs : totV d with
    | none => exact h2 hs
    | some k =>
      have e : isNon (typeD k) = false := by rw [typeD_eq]; rfl
      show bit (isNon (typeD k)) _ _
      rw [e]
      exact h1 k hs
end K11
namespace K11
open PySem L2 FP
variable [FP.Tabl]
open KP
theorem ok_part_of_line {P : Program} {w : World} {mg : Gm} {base : Heap} {Z : Ads} (A : All mg Z) (G_Type_read : CMethOk P w mg base 12 Z.a_Type "read" 2 f_readX) (G_is_word : DefOk P w mg base 1 "is_word" 1 f_is_word) : DefOk P w mg base 14 "part_of_line" 1 f_partL := by
  refine mkDef (N := ["line", "halves"]) (ps := ["line"]) A.d_part_of_line sc_part_of_line (fun _ _ _ _ _ _ us hl => match us, hl with | [_], _ => rfl) fun fa cdv Ar outer s H E hr => ⟨_,
    (dss_cons (ds_set (i := 1) (de_if (dt_val (de_isi (de_var 0) A.n_isinstance A.n_str FP.boot_str FP.boot_isinstance)) (de_split (de_var 0) (de_gstr A.c_COLON)) (de_lst da_nil)) (fun _ => sc_part_of_line.nd))
    (dss_cons (ds_if (dt_w (dw_or (dt_cmp (ok_ne (fun _ => hr.r.units)) (de_callB ok_len A.n_len FP.boot_len (da_cons (de_var 1) da_nil)) de_int) (dw_or1 (dt_not (dt_val (de_call G_is_word (fun _ => hr.mono (by omega)) (fun _ => pas (takes_of rfl rfl rfl rfl)) (da_cons (de_ix (de_var 1) de_int) da_nil)))))))
    (dss_one (ds_ret de_non))
    dss_nil)
    (dss_one (ds_try (fun _ => ⟨rfl, rfl, .inl A.ex_BuildError.nm⟩) A.cam_BuildError (fun _ => takes_of rfl rfl rfl rfl) (fun W => (dss_one (ds_ret (de_tup (da_cons (de_ix (de_var 1) de_int) (da_cons (de_cmeth A.kc_Type G_Type_read (fun _ => hr.mono (by omega)) (fun j => pas j.2.1) (da_cons (de_ix (de_var 1) de_int) da_nil)) da_nil)))))) (dss_one (ds_ret de_non)))))),  fun ds Q Ex hl hf => ?_⟩
  match ds, hl, hf with
  | [d], _, ⟨hz, hq⟩ =>
    obtain ⟨z, rfl⟩ | ⟨hs, ho, hv⟩ : (∃ z, d = .str z) ∨ (isStr d = false ∧ okV d ∧ lineVD d = none) := by
      cases d with
      | str z => exact .inl ⟨z, rfl⟩
      | _ => exact .inr ⟨rfl, hz, rfl⟩
    case inr =>
      rw [hv] at hq
      obtain ⟨n, hn, hk⟩ := isi_str ho
      rw [hs] at hk
      have e0 : startD 2 [d] = [Sl.d (d), Sl.no] := rfl
      have hnN : (["line", "halves"] : List Str).length = 2 := rfl
      rw [hnN, e0]
      clear e0 hnN
      refine seq_v (.lst []) (ev_if (b := false) (b_v fun Q E q => by
        show (match tyName d with | some n => ∃ b, kitB n "str" = some b ∧ Q (.bl b) | none => False)
        rw [hn]
        exact ⟨false, hk, q⟩) (fun h => by cases h) fun _ => ev_lst a0 (line rfl)) ?_
      exact seq_ifT (or_t (b_v (ev_op (x := .int 0) (y := .int 2) (fun Q E q => q) (fun Q E q => q) fun Q q => q))) (ret_v .non (fun Q E q => q) hq)
    replace hz : lineOk z := hz
    replace hq : Q (lineD (lineV z)) := hq
    have e0 : startD 2 [.str z] = [Sl.d (.str z), Sl.no] := rfl
    have hnN : (["line", "halves"] : List Str).length = 2 := rfl
    rw [hnN, e0]
    clear e0 hnN
    have hlen := hz.n
    refine seq_v (.lst ((Txt.split z " : ").map .str)) (ev_if (b := true) (b_v fun Q E q => ⟨true, kit_ss, q⟩) (fun _ => ev_split (fun Q E q => q) (fun Q E q => q) (by decide +kernel) (by
      have := hz.l
      exact Nat.le_trans (show z.length + 2 ≤ 4002 by omega) (by decide))) (fun h => by cases h)) ?_
    have el : ∀ ρ : FP.Env, ρ[1]? = some (.d (.lst ((Txt.split z " : ").map .str))) → Ev (dOp rdNe (dCB rdLen (dCons (dVar 1) dNil)) (dC (.int 2))) ρ (.bl (!decide (((Txt.split z " : ").length : Int) = 2))) := fun ρ hr => ev_op (x := .int (Txt.split z " : ").length) (y := .int 2) (fun Q E q => by
      show (match ρ[1]? with | some (Sl.d x) => rdLen [x] Q | _ => False)
      rw [hr]
      show Q (.int (((Txt.split z " : ").map D.str).length : Int))
      rw [List.length_map]
      exact q) (fun Q E q => q) fun Q q => q
    by_cases h2 : (Txt.split z " : ").length = 2
    case neg =>
      rw [lineV_no h2] at hq
      have e := el [Sl.d (.str z), Sl.d (.lst ((Txt.split z " : ").map .str))] rfl
      rw [decide_eq_false (by omega)] at e
      exact seq_ifT (or_t (b_v e)) (ret_v .non (fun Q E q => q) hq)
    obtain ⟨a, b, hs⟩ : ∃ a b, Txt.split z " : " = [a, b] := by
      match Txt.split z " : ", h2 with
      | [a, b], _ => exact ⟨a, b, rfl⟩
    have ha := hz.h a (by rw [hs]; simp)
    have hb := hz.h b (by rw [hs]; simp)
    have e := el [Sl.d (.str z), Sl.d (.lst ((Txt.split z " : ").map .str))] rfl
    rw [decide_eq_true (by omega)] at e
    rw [lineV_two hs] at hq
    rw [hs] at e ⊢
    have ew : Ev (dCall f_is_word 1 (dCons (dOp rdIx (dVar 1) (dC (.int 0))) dNil)) [Sl.d (.str z), Sl.d (.lst ([a, b].map .str))] (.bl (isWordS a)) := ev_call (a1 (d := .str a) (fun Q E q => ⟨_, rfl, q⟩) a0) rfl fun Q E q => ⟨ha.o, q⟩
    cases hw : isWordS a with
    | false =>
      rw [hw] at ew
      rw [hw, if_neg Bool.false_ne_true] at hq
      exact seq_ifT (or_f (b_v e) (not_v (b := false) (b_v ew))) (ret_v .non (fun Q E q => q) hq)
    | true =>
    rw [hw] at ew
    rw [hw, if_pos rfl] at hq
    refine seq_ifF (or_f (b_v e) (not_v (b := true) (b_v ew))) ?_
    refine ⟨_, rfl, _, rfl, rfl, rfl, hb.o, fun y hy => by cases hy; exact hb.l, fun k hk => ?_, fun hn => ?_⟩
    · have hk2 : totS b = some k := hk
      rw [hk2] at hq
      exact ⟨line rfl, hq⟩
    · have hk2 : totS b = none := hn
      rw [hk2] at hq
      refine ⟨by decide +kernel, ?_⟩
      have hy : (decide (("ParseError" : Str) ∈ (["BuildError", "ParseError", "InvalidLibrary", "InvalidWord", "InvalidType"] : List Str))) = true := by decide +kernel
      show bit (decide (("ParseError" : Str) ∈ (["BuildError", "ParseError", "InvalidLibrary", "InvalidWord", "InvalidType"] : List Str))) _ _
      rw [hy]
      exact hq
theorem ok_Library_read {P : Program} {w : World} {mg : Gm} {base : Heap} {Z : Ads} (A : All mg Z) (G_Library___init__ : InitDf P w mg base 4 "Library" Z.a_Library 1 f_initL) (G_part_of_line : DefOk P w mg base 14 "part_of_line" 1 f_partL) : CMethS P w mg base 16 Z.a_Library "read" f_readLib := by
  refine mkCMethS (N := ["cls", "lines", "found", "at", "line", "pair"]) A.d_Library_read sc_Library_read (fun _ _ _ _ _ _ _ => rfl) (fun _ _ _ _ _ _ _ _ _ => rfl) fun fa cdv Ar outer s H E hr => ⟨_,
    (dss_cons (ds_setOD (i := 2) dod_new (fun _ => sc_Library_read.nd))
    (dss_cons (ds_for (di_enum A.n_enumerate (da_cons (de_var 1) da_nil)) (dg_tup (dgs_cons (dg_name (i := 3) (fun _ => sc_Library_read.nd)) (dgs_cons (dg_name (i := 4) (fun _ => sc_Library_read.nd)) dgs_nil)))
    (dss_cons (ds_set (i := 5) (de_call G_part_of_line (fun _ => hr.mono (by omega)) (fun _ => pas (takes_of rfl rfl rfl rfl)) (da_cons (de_var 4) da_nil)) (fun _ => sc_Library_read.nd))
    (dss_cons (ds_if (dt_w (dw_or (dt_cmp ok_is (de_var 5) de_non) (dw_or1 (dt_inOD 2 (m := 0) (fun _ => hr.mono (by omega)) (de_ix (de_var 5) de_int)))))
    (dss_one (ds_raiseA (k := 0) veB veS A.xc_ParseError (fun _ => hr.mono (by omega)) (fun _ => takes_of rfl rfl rfl rfl) (de_var 3)))
    dss_nil)
    (dss_one (ds_odPut 2 (m := 0) (fun _ => hr.mono (by omega)) (de_ix (de_var 5) de_int) (de_ix (de_var 5) de_int))))) (fun _ => passes_of rfl))
    (dss_one (ds_frzD 2 (ds_ret (de_makeV 0 A.kc_Library G_Library___init__.one (fun _ => hr.mono (by omega)) (fun _ => pas (takes_of rfl rfl rfl rfl)) (da_cons (de_var 2) da_nil))))))),  fun ds Q Ex hl hf => ?_⟩
  match ds, hl, hf with
  | [.cl _, .tup zs], _, ⟨rfl, hn, hz, hx, hq⟩ =>
    have e0 : startD 6 [.cl "Library", .tup zs] = [Sl.d (.cl "Library"), Sl.d (.tup zs), Sl.no, Sl.no, Sl.no, Sl.no] := rfl
    have hnN : (["cls", "lines", "found", "at", "line", "pair"] : List Str).length = 6 := rfl
    rw [hnN, e0]
    clear e0 hnN
    refine seq_setOD [] (fun Q E q => q) ?_
    refine seq_for (enumD 0 zs) (fun Q E q => ⟨_, rfl, q⟩) ?_
    refine readL_loop zs 0 [] _ _ _ LibG.nil (by show 0 + zs.length ≤ 60; omega) hz (fun j hj ρ => hx j hj) fun L hL hg hl2 a b c => ?_
    obtain ⟨h1, h2⟩ := hq L hL
    dsimp only
    refine frzD rfl ?_
    exact ⟨rfl, rfl, L, rfl, hg, hl2, h1, h2⟩
theorem ok_Library_lines {P : Program} {w : World} {mg : Gm} {base : Heap} {Z : Ads} (A : All mg Z) : PropOk P w mg base 1 Z.a_Library "lines" f_linesL := by
  refine mkProp (N := ["self"]) (ps := ["self"]) A.d_Library_lines sc_Library_lines rfl (fun _ _ _ _ _ _ us hl => match us, hl with | [_], _ => rfl) fun fa cdv Ar outer s H E hr => ⟨_,
    (dss_one (ds_ret (de_fld A.kc_Library A.na_Library_own_lines (de_var 0)))),  fun ds Q Ex hl hf => ?_⟩
  match ds, hl, hf with
  | [_], _, ⟨L, rfl, hq⟩ =>
    have e0 : startD 1 [libD L] = [Sl.d (libD L)] := rfl
    have hnN : (["self"] : List Str).length = 1 := rfl
    rw [hnN, e0]
    clear e0 hnN
    exact ret_v _ (ev_fld (fs := libF L) (fun Q E q => q) (lk_lines L)) hq
theorem ok_Library___len__ {P : Program} {w : World} {mg : Gm} {base : Heap} {Z : Ads} (A : All mg Z) : SpecOk P w mg base 1 Z.a_Library "__len__" 1 f_lenL := by
  refine mkSpec (N := ["self"]) (ps := ["self"]) A.d_Library___len__ sc_Library___len__ (fun _ _ _ _ _ _ us hl => match us, hl with | [_], _ => rfl) fun fa cdv Ar outer s H E hr => ⟨_,
    (dss_one (ds_ret (de_callB ok_len A.n_len FP.boot_len (da_cons (de_fld A.kc_Library A.na_Library_own_parts (de_var 0)) da_nil)))),  fun ds Q Ex hl hf => ?_⟩
  match ds, hl, hf with
  | [_], _, ⟨L, rfl, hL, h1, hq⟩ =>
    have e0 : startD 1 [libD L] = [Sl.d (libD L)] := rfl
    have hnN : (["self"] : List Str).length = 1 := rfl
    rw [hnN, e0]
    clear e0 hnN
    exact ret_v (.int L.length) (ev_cb (a1 (evParts fun Q E q => q) a0) fun Q q => lenD (by rw [len_rows, len_sort]; exact q)) hq
end K11
namespace K11
open PySem L2 FP
variable [FP.Tabl]
open KP
theorem ok__law_dice {P : Program} {w : World} {mg : Gm} {base : Heap} {Z : Ads} (A : All mg Z) : DefOk P w mg base 1 "_law_dice" 2 f_dice := by
  refine mkDef (N := ["_law_script", "_law_spot", "_law_cell", "_law_great", "_law_blend"]) (ps := ["_law_script", "_law_spot"]) A.d__law_dice sc__law_dice (fun _ _ _ _ _ _ us hl => match us, hl with | [_, _], _ => rfl) fun fa cdv Ar outer s H E hr => ⟨_,
    (dss_cons (ds_set (i := 2) (de_op ok_add (de_op ok_mul de_int (de_var 1)) de_int) (fun _ => sc__law_dice.nd))
    (dss_cons (ds_if (dt_cmp ok_lt (de_var 1) (de_callB ok_len A.n_len FP.boot_len (da_cons (de_var 0) da_nil)))
    (dss_one (ds_set (i := 2) (de_ix (de_var 0) (de_var 1)) (fun _ => sc__law_dice.nd)))
    dss_nil)
    (dss_cons (ds_set (i := 3) (de_op ok_mod (de_callTy ok_int A.n_int FP.boot_int (da_cons (de_callB ok_abs A.n_abs FP.boot_abs (da_cons (de_var 2) da_nil)) da_nil)) (de_op ok_pow (de_op ok_pow de_int de_int) de_int)) (fun _ => sc__law_dice.nd))
    (dss_cons (ds_set (i := 4) (de_op ok_add (de_op ok_add (de_op ok_add (de_op ok_mul (de_op ok_mod (de_callTy ok_int A.n_int FP.boot_int (da_cons (de_var 3) da_nil)) de_int) de_int) (de_op ok_mul de_int (de_var 1))) (de_op ok_mul de_int (de_callTy ok_int A.n_int FP.boot_int (da_cons (de_cmp ok_lt (de_var 2) de_int) da_nil)))) de_int) (fun _ => sc__law_dice.nd))
    (dss_one (ds_retTok (da_cons (de_callB ok_max A.n_max FP.boot_max (da_cons de_int (da_cons (de_op ok_sub (de_var 3) (de_op ok_pow de_int de_int)) da_nil))) (da_cons (de_op ok_mod (de_callTy ok_int A.n_int FP.boot_int (da_cons (de_var 4) da_nil)) de_int) (da_cons de_int da_nil))))))))),  fun ds Q Ex hl hf => ?_⟩
  match ds, hl, hf with
  | [.fz xs, .int k], _, ⟨⟨ns, hx⟩, ⟨h0, h1⟩, hq⟩ =>
    subst hx
    change (_ : DTS) _ [Sl.d (.fz (ns.map D.int)), Sl.d (.int k), Sl.no, Sl.no, Sl.no]
    simp only [dSeq, dNext, dIfS, dB, dOp, dVar, dC, dCB, dCons, dNil, dSet, dTok, dRet, dRetN, dCall, rdAdd, rdSub, rdMul, rdMod, rdFdiv, rdPow, rdGt, rdLt, rdLe, rdGe, rdIx, rdInt, rdAbs, rdMax, rdMin, rdLen, dRetTok, dSetO, dListO, dLenO, dIRng1, dRetPop, List.getElem?_cons_zero, List.getElem?_cons_succ, List.set_cons_zero, List.set_cons_succ, bit_dec, bit_t, bit_f, bit_not, blc_bl, Option.some.injEq, exists_eq_left']
    refine ⟨cmulL (by decide), fun hb => ?_, fun _ => ?_⟩
    · obtain ⟨i, hi⟩ := atI_ints h0 hb
      refine ⟨_, hi, ?_⟩
      exact ⟨by decide +kernel, by decide +kernel, by decide +kernel, by decide, cmulR (by decide), cmulL (by decide), cmulL (by decide), by decide +kernel, by decide, hq⟩
    · exact ⟨by decide +kernel, by decide +kernel, by decide +kernel, by decide, cmulR (by decide), cmulL (by decide), cmulL (by decide), by decide +kernel, by decide, hq⟩
theorem ok__law_roll {P : Program} {w : World} {mg : Gm} {base : Heap} {Z : Ads} (A : All mg Z) : DefOk P w mg base 1 "_law_roll" 2 f_roll := by
  refine mkDef (N := ["_law_dice_here", "_law_total", "_law_one", "_law_two", "_law_found"]) (ps := ["_law_dice_here", "_law_total"]) A.d__law_roll sc__law_roll (fun _ _ _ _ _ _ us hl => match us, hl with | [_, _], _ => rfl) fun fa cdv Ar outer s H E hr => ⟨_,
    (dss_cons (ds_if (dt_cmp ok_gt (de_ix (de_var 0) de_int) de_int)
    (dss_cons (ds_set (i := 4) (de_op ok_mod (de_callTy ok_int A.n_int FP.boot_int (da_cons (de_ix (de_var 0) de_int) da_nil)) (de_var 1)) (fun _ => sc__law_roll.nd))
    (dss_cons (ds_tok 0 (de_op ok_fdiv (de_ix (de_var 0) de_int) (de_var 1)) (pg := fun _ _ h => ps_asg h (pg_sub (pv 0) pe_int set_list)))
    (dss_one (ds_ret (de_var 4)))))
    dss_nil)
    (dss_cons (ds_tok 0 (de_op ok_add (de_ix (de_var 0) de_int) de_int) (pg := fun _ _ h => ps_asg h (pg_sub (pv 0) pe_int set_list)))
    (dss_cons (ds_set (i := 2) (de_op ok_mod (de_callTy ok_int A.n_int FP.boot_int (da_cons (de_op ok_add (de_ix (de_var 0) de_int) (de_op ok_mul de_int (de_ix (de_var 0) de_int))) da_nil)) de_int) (fun _ => sc__law_roll.nd))
    (dss_cons (ds_set (i := 3) (de_op ok_add (de_op ok_mul (de_op ok_mod (de_callTy ok_int A.n_int FP.boot_int (da_cons (de_op ok_mul (de_var 2) (de_var 2)) da_nil)) de_int) (de_var 2)) (de_op ok_mul de_int (de_ix (de_var 0) de_int))) (fun _ => sc__law_roll.nd))
    (dss_cons (ds_set (i := 3) (de_op ok_mod (de_callTy ok_int A.n_int FP.boot_int (da_cons (de_var 3) da_nil)) de_int) (fun _ => sc__law_roll.nd))
    (dss_one (ds_ret (de_op ok_mod (de_callTy ok_int A.n_int FP.boot_int (da_cons (de_op ok_fdiv (de_var 3) de_int) da_nil)) (de_var 1))))))))),  fun ds Q Ex hl hf => ?_⟩
  match ds, hl, hf with
  | [.tok, .int n], _, ⟨⟨h0, h1⟩, hq⟩ =>
    change (_ : DTS) _ [Sl.d .tok, Sl.d (.int n), Sl.no, Sl.no, Sl.no]
    simp only [dSeq, dNext, dIfS, dB, dOp, dVar, dC, dCB, dCons, dNil, dSet, dTok, dRet, dRetN, dCall, rdAdd, rdSub, rdMul, rdMod, rdFdiv, rdPow, rdGt, rdLt, rdLe, rdGe, rdIx, rdInt, rdAbs, rdMax, rdMin, rdLen, dRetTok, dSetO, dListO, dLenO, dIRng1, dRetPop, List.getElem?_cons_zero, List.getElem?_cons_succ, List.set_cons_zero, List.set_cons_succ, bit_dec, bit_t, bit_f, bit_not, blc_bl, Option.some.injEq, exists_eq_left']
    have dn : ∀ j : Int, CDivN j n := fun j => ⟨by omega, by omega⟩
    have md : ∀ j : Int, Q (D.int (j % n)) := fun j => hq _ (Int.emod_nonneg _ (by omega)) (Int.emod_lt_of_pos _ h0)
    refine ⟨by decide, fun j => ⟨fun _ => ?_, fun _ => ?_⟩⟩
    · exact ⟨by decide, fun a => ⟨h0, by decide, fun b => ⟨dn _, by decide, md _⟩⟩⟩
    · exact ⟨by decide, fun a => ⟨by decide, by decide, fun b => ⟨by decide, fun c => ⟨cmulL (by decide), by decide, cmulL (by omega), by decide, cmulR (by omega), by decide, fun e => ⟨cmulL (by decide), by decide, ⟨by decide, by decide⟩, h0, md _⟩⟩⟩⟩⟩
theorem ok__law_pick {P : Program} {w : World} {mg : Gm} {base : Heap} {Z : Ads} (A : All mg Z) (G__law_roll : DefOk P w mg base 1 "_law_roll" 2 f_roll) : DefOk P w mg base 2 "_law_pick" 2 f_pick := by
  refine mkDef (N := ["_law_dice_here", "_law_items"]) (ps := ["_law_dice_here", "_law_items"]) A.d__law_pick sc__law_pick (fun _ _ _ _ _ _ us hl => match us, hl with | [_, _], _ => rfl) fun fa cdv Ar outer s H E hr => ⟨_,
    (dss_one (ds_ret (de_ix (de_var 1) (de_call G__law_roll (fun _ => hr.mono (by omega)) (fun _ => pas (takes_of rfl rfl rfl rfl)) (da_cons (de_var 0) (da_cons (de_callB ok_len A.n_len FP.boot_len (da_cons (de_var 1) da_nil)) da_nil)))))),  fun ds Q Ex hl hf => ?_⟩
  match ds, hl, hf with
  | [.tok, .lst xs], _, ⟨⟨h0, h1⟩, hq⟩ =>
    change (_ : DTS) _ [Sl.d .tok, Sl.d (.lst xs)]
    simp only [dSeq, dNext, dIfS, dB, dOp, dVar, dC, dCB, dCons, dNil, dSet, dTok, dRet, dRetN, dCall, rdAdd, rdSub, rdMul, rdMod, rdFdiv, rdPow, rdGt, rdLt, rdLe, rdGe, rdIx, rdInt, rdAbs, rdMax, rdMin, rdLen, dRetTok, dSetO, dListO, dLenO, dIRng1, dRetPop, List.getElem?_cons_zero, List.getElem?_cons_succ, List.set_cons_zero, List.set_cons_succ, bit_dec, bit_t, bit_f, bit_not, blc_bl, Option.some.injEq, exists_eq_left', f_roll]
    refine ⟨rfl, ⟨by omega, by omega⟩, fun r h2 h3 => ?_⟩
    obtain ⟨d, hd, hm⟩ := atI_mem h2 h3
    exact ⟨d, hd, hq d hm⟩
  | [.tok, .tup xs], _, ⟨⟨h0, h1⟩, hq⟩ =>
    change (_ : DTS) _ [Sl.d .tok, Sl.d (.tup xs)]
    simp only [dSeq, dNext, dIfS, dB, dOp, dVar, dC, dCB, dCons, dNil, dSet, dTok, dRet, dRetN, dCall, rdAdd, rdSub, rdMul, rdMod, rdFdiv, rdPow, rdGt, rdLt, rdLe, rdGe, rdIx, rdInt, rdAbs, rdMax, rdMin, rdLen, dRetTok, dSetO, dListO, dLenO, dIRng1, dRetPop, List.getElem?_cons_zero, List.getElem?_cons_succ, List.set_cons_zero, List.set_cons_succ, bit_dec, bit_t, bit_f, bit_not, blc_bl, Option.some.injEq, exists_eq_left', f_roll]
    refine ⟨rfl, ⟨by omega, by omega⟩, fun r h2 h3 => ?_⟩
    obtain ⟨d, hd, hm⟩ := atI_mem h2 h3
    exact ⟨d, hd, hq d hm⟩
theorem ok__law_some {P : Program} {w : World} {mg : Gm} {base : Heap} {Z : Ads} (A : All mg Z) (G__law_roll : DefOk P w mg base 1 "_law_roll" 2 f_roll) : DefOk P w mg base 2 "_law_some" 3 f_some := by
  refine mkDef (N := ["_law_dice_here", "_law_items", "_law_size", "_law_left", "_law_turn"]) (ps := ["_law_dice_here", "_law_items", "_law_size"]) A.d__law_some sc__law_some (fun _ _ _ _ _ _ us hl => match us, hl with | [_, _, _], _ => rfl) fun fa cdv Ar outer s H E hr => ⟨_,
    (dss_cons (ds_setO (i := 3) (do_list (da_cons (de_var 1) da_nil) A.n_list FP.boot_list) (fun _ => sc__law_some.nd))
    (dss_one (ds_retPop (i := 3) (own := [("_law_turn", 4)]) (fun _ => sc__law_some.nd) (di_range1 A.n_range (da_cons (de_callB ok_min A.n_min FP.boot_min (da_cons (de_var 2) (da_cons (de_lenO 3 A.n_len) da_nil))) da_nil)) (fun _ => blkOk_by (by kernel_rfl)) (dg_name (i := 4) (fun _ => sc__law_some.nd)) (de_call G__law_roll (fun _ => hr.mono (by omega)) (fun _ => pas takes0) (da_cons (de_var 0) (da_cons (de_lenO 3 A.n_len) da_nil))) (fun _ _ h => pe_bm PySem.F.plainAttrs_list PySem.F.slot_list_pop PySem.F.type_list_pop mt_popAt (pv 3) (pa_cons h pa_nil))))),  fun ds Q Ex hl hf => ?_⟩
  match ds, hl, hf with
  | [.tok, .lst xs, .int k], _, ⟨h0, ⟨h1, h2⟩, hq⟩ =>
    change (_ : DTS) _ [Sl.d .tok, Sl.d (.lst xs), Sl.d (.int k), Sl.no, Sl.no]
    simp only [dSeq, dNext, dIfS, dB, dOp, dVar, dC, dCB, dCons, dNil, dSet, dTok, dRet, dRetN, dCall, rdAdd, rdSub, rdMul, rdMod, rdFdiv, rdPow, rdGt, rdLt, rdLe, rdGe, rdIx, rdInt, rdAbs, rdMax, rdMin, rdLen, dRetTok, dSetO, dListO, dLenO, dIRng1, dRetPop, List.getElem?_cons_zero, List.getElem?_cons_succ, List.set_cons_zero, List.set_cons_succ, bit_dec, bit_t, bit_f, bit_not, blc_bl, Option.some.injEq, exists_eq_left']
    have em : (if (xs.length : Int) < k then (xs.length : Int) else k).toNat = min k.toNat xs.length := by split <;> omega
    refine ⟨by split <;> omega, by split <;> omega, ?_, ?_⟩
    · rw [rangeD_len, em]
      exact Nat.le_trans (Nat.min_le_right _ _) (Nat.le_trans (Nat.le_of_lt h0) (by decide))
    · refine pop_some _ _ _ ?_ h0 fun ys zs hp hn => hq ys zs hp ?_
      · rw [rangeD_len, em]
        exact Nat.min_le_right _ _
      · rw [hn, rangeD_len, em]
  | [.tok, .tup xs, .int k], _, ⟨h0, ⟨h1, h2⟩, hq⟩ =>
    change (_ : DTS) _ [Sl.d .tok, Sl.d (.tup xs), Sl.d (.int k), Sl.no, Sl.no]
    simp only [dSeq, dNext, dIfS, dB, dOp, dVar, dC, dCB, dCons, dNil, dSet, dTok, dRet, dRetN, dCall, rdAdd, rdSub, rdMul, rdMod, rdFdiv, rdPow, rdGt, rdLt, rdLe, rdGe, rdIx, rdInt, rdAbs, rdMax, rdMin, rdLen, dRetTok, dSetO, dListO, dLenO, dIRng1, dRetPop, List.getElem?_cons_zero, List.getElem?_cons_succ, List.set_cons_zero, List.set_cons_succ, bit_dec, bit_t, bit_f, bit_not, blc_bl, Option.some.injEq, exists_eq_left']
    have em : (if (xs.length : Int) < k then (xs.length : Int) else k).toNat = min k.toNat xs.length := by split <;> omega
    refine ⟨by split <;> omega, by split <;> omega, ?_, ?_⟩
    · rw [rangeD_len, em]
      exact Nat.le_trans (Nat.min_le_right _ _) (Nat.le_trans (Nat.le_of_lt h0) (by decide))
    · refine pop_some _ _ _ ?_ h0 fun ys zs hp hn => hq ys zs hp ?_
      · rw [rangeD_len, em]
        exact Nat.min_le_right _ _
      · rw [hn, rangeD_len, em]
theorem nv__law_text {P : Program} {w : World} {mg : Gm} {base : Heap} {Z : Ads} {k : Nat} (A : All mg Z) : DefOk P w mg base k "_law_text" 1 (f_plainK d_text 0) :=
  (DefOk.never (ps := ["_law_kind_here"]) A.d__law_text (fun _ _ _ _ _ _ us hl => match us, hl with | [_], _ => rfl)).mono (Nat.le_refl _) (nope_plainK _)
theorem ok__law_text {P : Program} {w : World} {mg : Gm} {base : Heap} {Z : Ads} {d : Nat} (A : All mg Z) (G__law_text : DefOk P w mg base (d + 1) "_law_text" 1 (f_plainK d_text d)) : DefOk P w mg base (d + 2) "_law_text" 1 (f_plainK d_text (d + 1)) := by
  refine mkDef (N := ["_law_kind_here", "_law_rows", "_law_one"]) (ps := ["_law_kind_here"]) A.d__law_text sc__law_text (fun _ _ _ _ _ _ us hl => match us, hl with | [_], _ => rfl) fun fa cdv Ar outer s H E hr => ⟨_,
    (dss_cons (ds_setO (i := 1) (do_lst da_nil) (fun _ => sc__law_text.nd))
    (dss_cons (ds_for (di_tup (de_ix (de_var 0) de_int)) (dg_name (i := 2) (fun _ => sc__law_text.nd))
    (dss_one (ds_append 1 (de_if (dt_cmp (ok_eqT0 (fun _ => hr.r.units)) (de_ix (de_var 2) de_int) (de_tup da_nil)) (de_call G__law_text (fun _ => hr.mono (by omega)) (fun _ => pas (takes_of rfl rfl rfl rfl)) (da_cons (de_var 2) da_nil)) (de_op ok_add (de_op ok_add de_str (de_call G__law_text (fun _ => hr.mono (by omega)) (fun _ => pas (takes_of rfl rfl rfl rfl)) (da_cons (de_var 2) da_nil))) de_str)) (pe := fun _ _ h => ps_expr (pe_bm PySem.F.plainAttrs_list PySem.F.slot_list_append PySem.F.type_list_append mt_append (pv 1) (pa_cons h pa_nil))))) (fun _ => passes_of rfl))
    (dss_one (ds_frz 1 (ds_ret (de_join de_str (de_op ok_add (de_var 1) (de_lst (da_cons (de_ix (de_var 0) de_int) da_nil))))))))),  fun ds Q Ex hl hf => ?_⟩
  match ds, hl, hf with
  | [_], _, ⟨k, rfl, hg, ho, hq⟩ =>
    change (_ : DTS) _ [Sl.d (plain k), Sl.no, Sl.no]
    cases k with
    | mk as a =>
    have hfew := hg.few
    have hoo : ordL as < d + 1 := ho
    refine ⟨line rfl, ?_⟩
    refine ix_p0 (k := .mk as a) ?_
    refine for_of plain (fun pre ρ => ∃ o, ρ = [Sl.d (plain (.mk as a)), Sl.own ((texts pre).map .str), o]) as [] _ ⟨_, by rw [texts]; rfl⟩ ?_ ?_
    · rintro j pre post eq ρ K ⟨o, rfl⟩ hK
      have hj := mem_mid eq
      have hlt := ord_lt hj
      have hgj := hg.kid hj
      have hpl : (placesL pre).length + (places j).length ≤ 14 ∧ pre.length ≤ 14 := by
        have h3 := hg.few.1
        rw [List.nil_append] at eq
        rw [eq, placesL_app, List.length_append, placesL, List.length_append] at h3
        have h4 := length_placesL pre
        omega
      have htl := hgj.text_len
      refine ⟨_, rfl, ?_⟩
      refine ix_p0 (k := j) ?_
      refine ⟨line rfl, ?_⟩
      show bit (j.as.map plain).isEmpty _ _
      have em : (j.as.map plain).isEmpty = j.as.isEmpty := by cases j.as <;> rfl
      rw [em]
      have hin : texts (pre ++ [j]) = texts pre ++ [intext j] := by rw [texts_map, texts_map, List.map_append]; rfl
      have hsz : ((texts pre).map D.str).length < sizeLine := by
        rw [List.length_map, texts_map, List.length_map]
        exact Nat.lt_of_le_of_lt hpl.2 (by decide)
      cases he : j.as.isEmpty with
      | true =>
        refine ⟨rfl, j, rfl, hgj, by omega, hsz, hK _ ⟨Sl.d (plain j), ?_⟩⟩
        rw [hin, List.map_append, intext, he]
        rfl
      | false =>
        have e1 : ("(" : Str).length = 1 := rfl
        have e2 : (")" : Str).length = 1 := rfl
        refine ⟨rfl, j, rfl, hgj, by omega, ?_, ?_, hsz, hK _ ⟨Sl.d (plain j), ?_⟩⟩
        · exact size_small (by omega)
        · rw [len_app]; exact size_small (by omega)
        · rw [hin, List.map_append, intext, he]
          rfl
    · rintro ρ ⟨o, rfl⟩
      have ht : ((texts as ++ [a]).map (·.length)).sum + (texts as ++ [a]).length * 4 ≤ 1000 := by
        have h1 := texts_len as fun z hz => (word_len (hg.w z (by rw [places]; exact List.mem_append_left _ hz))).2
        have h2 := (word_len hg.atom).2
        rw [List.map_append, List.sum_append, List.length_append]
        have e1 : ([a].map (·.length)).sum = a.length := by simp
        have e2 : [a].length = 1 := rfl
        rw [e1, e2]
        omega
      refine ix_p1 (k := .mk as a) ?_
      refine ⟨line rfl, ?_, texts as ++ [a], ?_, Nat.le_trans ht (by decide), ?_⟩
      · rw [List.length_map, texts_map, List.length_map]
        exact size_small (by show as.length + 1 ≤ _; omega)
      · have e : (texts ([] ++ as)).map D.str ++ [.str a] = (texts as ++ [a]).map .str := by
          rw [List.map_append, List.nil_append]
          rfl
        exact (congrArg strsD e).trans (strsD_map _)
      · have hq2 : Q (.str (text (.mk as a))) := hq
        rw [text] at hq2
        exact hq2
theorem rs__law_text {P : Program} {w : World} {mg : Gm} {base : Heap} {Z : Ads} (A : All mg Z) : ∀ d : Nat, DefOk P w mg base (d + 1) "_law_text" 1 (f_plainK d_text d)
  | 0 => nv__law_text A
  | d + 1 => ok__law_text A (rs__law_text A d)
theorem nv__law_atoms_of {P : Program} {w : World} {mg : Gm} {base : Heap} {Z : Ads} {k : Nat} (A : All mg Z) : DefOk P w mg base k "_law_atoms_of" 1 (f_plainK d_places 0) :=
  (DefOk.never (ps := ["_law_kind_here"]) A.d__law_atoms_of (fun _ _ _ _ _ _ us hl => match us, hl with | [_], _ => rfl)).mono (Nat.le_refl _) (nope_plainK _)
theorem ok__law_atoms_of {P : Program} {w : World} {mg : Gm} {base : Heap} {Z : Ads} {d : Nat} (A : All mg Z) (G__law_atoms_of : DefOk P w mg base (d + 1) "_law_atoms_of" 1 (f_plainK d_places d)) : DefOk P w mg base (d + 2) "_law_atoms_of" 1 (f_plainK d_places (d + 1)) := by
  refine mkDef (N := ["_law_kind_here", "_law_found", "_law_one"]) (ps := ["_law_kind_here"]) A.d__law_atoms_of sc__law_atoms_of (fun _ _ _ _ _ _ us hl => match us, hl with | [_], _ => rfl) fun fa cdv Ar outer s H E hr => ⟨_,
    (dss_cons (ds_set (i := 1) (de_lst da_nil) (fun _ => sc__law_atoms_of.nd))
    (dss_cons (ds_for (di_tup (de_ix (de_var 0) de_int)) (dg_name (i := 2) (fun _ => sc__law_atoms_of.nd))
    (dss_one (ds_set (i := 1) (de_op ok_add (de_var 1) (de_call G__law_atoms_of (fun _ => hr.mono (by omega)) (fun _ => pas (takes_of rfl rfl rfl rfl)) (da_cons (de_var 2) da_nil))) (fun _ => sc__law_atoms_of.nd))) (fun _ => passes_of rfl))
    (dss_one (ds_ret (de_op ok_add (de_var 1) (de_lst (da_cons (de_ix (de_var 0) de_int) da_nil))))))),  fun ds Q Ex hl hf => ?_⟩
  match ds, hl, hf with
  | [_], _, ⟨k, rfl, hg, ho, hq⟩ =>
    change (_ : DTS) _ [Sl.d (plain k), Sl.no, Sl.no]
    cases k with
    | mk as a =>
    have hfew := hg.few
    have hoo : ordL as < d + 1 := ho
    refine ⟨line rfl, ?_⟩
    refine ix_p0 (k := .mk as a) ?_
    refine for_of plain (fun pre ρ => ∃ o, ρ = [Sl.d (plain (.mk as a)), Sl.d (.lst ((placesL pre).map .str)), o]) as [] _ ⟨_, by rw [placesL]; rfl⟩ ?_ ?_
    · rintro j pre post eq ρ K ⟨o, rfl⟩ hK
      have hj := mem_mid eq
      have hlt := ord_lt hj
      have hgj := hg.kid hj
      have hpl : (placesL pre).length + (places j).length ≤ 14 ∧ pre.length ≤ 14 := by
        have h3 := hg.few.1
        rw [List.nil_append] at eq
        rw [eq, placesL_app, List.length_append, placesL, List.length_append] at h3
        have h4 := length_placesL pre
        omega
      refine ⟨_, rfl, rfl, j, rfl, hgj, by omega, ?_, hK _ ⟨Sl.d (plain j), ?_⟩⟩
      · rw [List.length_map, List.length_map]
        exact size_small (by omega)
      · rw [placesL_app, placesL_one, List.map_append]
        rfl
    · rintro ρ ⟨o, rfl⟩
      refine ix_p1 (k := .mk as a) ?_
      refine ⟨line rfl, ?_, ?_⟩
      · rw [List.length_map]
        exact size_small (by show (placesL as).length + 1 ≤ _; omega)
      · have hq2 : Q (.lst ((places (.mk as a)).map .str)) := hq
        rw [places, List.map_append] at hq2
        exact hq2
theorem rs__law_atoms_of {P : Program} {w : World} {mg : Gm} {base : Heap} {Z : Ads} (A : All mg Z) : ∀ d : Nat, DefOk P w mg base (d + 1) "_law_atoms_of" 1 (f_plainK d_places d)
  | 0 => nv__law_atoms_of A
  | d + 1 => ok__law_atoms_of A (rs__law_atoms_of A d)
theorem nv__law_made_kind {P : Program} {w : World} {mg : Gm} {base : Heap} {Z : Ads} {k : Nat} (A : All mg Z) : DefOk P w mg base k "_law_made_kind" 1 (f_plainK typeD 0) :=
  (DefOk.never (ps := ["_law_kind_here"]) A.d__law_made_kind (fun _ _ _ _ _ _ us hl => match us, hl with | [_], _ => rfl)).mono (Nat.le_refl _) (nope_plainK _)
theorem ok__law_made_kind {P : Program} {w : World} {mg : Gm} {base : Heap} {Z : Ads} {d : Nat} (A : All mg Z) (G_Type___init__ : InitOk P w mg base 2 "Type" Z.a_Type 2 f_init) (G__law_made_kind : DefOk P w mg base (d + 4) "_law_made_kind" 1 (f_plainK typeD d)) : DefOk P w mg base (d + 5) "_law_made_kind" 1 (f_plainK typeD (d + 1)) := by
  refine mkDef (N := ["_law_kind_here", "_law_one"]) (ps := ["_law_kind_here"]) A.d__law_made_kind sc__law_made_kind (fun _ _ _ _ _ _ us hl => match us, hl with | [_], _ => rfl) fun fa cdv Ar outer s H E hr => ⟨_,
    (dss_one (ds_ret (de_make A.kc_Type G_Type___init__ (fun _ => hr.mono (by omega)) (fun _ => pas (takes_of rfl rfl rfl rfl)) (da_cons (de_callTy ok_tuple A.n_tuple FP.boot_tuple (da_cons (de_lc (own := [("_law_one", 1)]) (fun _ => sc__law_made_kind.nd) (di_tup (de_ix (de_var 0) de_int)) (fun _ => blkOk_by (by kernel_rfl)) (dg_name (i := 1) (fun _ => sc__law_made_kind.nd)) dts_nil (de_call G__law_made_kind (fun _ => hr.mono (by omega)) (fun _ => pas takes0) (da_cons (de_var 1) da_nil))) da_nil)) (da_cons (de_ix (de_var 0) de_int) da_nil))))),  fun ds Q Ex hl hf => ?_⟩
  match ds, hl, hf with
  | [_], _, ⟨k, rfl, hg, ho, hq⟩ =>
    change (_ : DTS) _ [Sl.d (plain k), Sl.no]
    cases k with
    | mk as a =>
    have hfew := hg.few
    have hoo : ordL as < d + 1 := ho
    refine ix_p0 ?_
    refine ⟨by show (as.map plain).length ≤ _; rw [List.length_map]; exact size_small (by omega), lc_of plain typeD as _ (fun j hj K hK => ⟨_, rfl, rfl, j, rfl, hg.kid hj, by have := ord_lt hj; omega, hK⟩) ?_⟩
    refine tupL ?_
    refine ix_p1 ?_
    refine ⟨rfl, as, rfl, hg, ?_⟩
    rw [typeD_eq] at hq
    exact hq
theorem rs__law_made_kind {P : Program} {w : World} {mg : Gm} {base : Heap} {Z : Ads} (A : All mg Z) (G_Type___init__ : InitOk P w mg base 2 "Type" Z.a_Type 2 f_init) : ∀ d : Nat, DefOk P w mg base (d + 4) "_law_made_kind" 1 (f_plainK typeD d)
  | 0 => nv__law_made_kind A
  | d + 1 => ok__law_made_kind A G_Type___init__ (rs__law_made_kind A G_Type___init__ d)
theorem nv__law_kind {P : Program} {w : World} {mg : Gm} {base : Heap} {Z : Ads} {k : Nat} (A : All mg Z) : DefOk P w mg base k "_law_kind" 4 (f_kind 0) :=
  (DefOk.never (ps := ["_law_dice_here", "_law_atoms", "_law_order", "_law_most"]) A.d__law_kind (fun _ _ _ _ _ _ us hl => match us, hl with | [_, _, _, _], _ => rfl)).mono (Nat.le_refl _) nope_kind
theorem ok__law_kind {P : Program} {w : World} {mg : Gm} {base : Heap} {Z : Ads} {d : Nat} (A : All mg Z) (G__law_atoms_of : DefOk P w mg base 6 "_law_atoms_of" 1 (f_plainK d_places 5)) (G__law_kind : DefOk P w mg base (d + 6) "_law_kind" 4 (f_kind d)) (G__law_pick : DefOk P w mg base 2 "_law_pick" 2 f_pick) (G__law_roll : DefOk P w mg base 1 "_law_roll" 2 f_roll) : DefOk P w mg base (d + 7) "_law_kind" 4 (f_kind (d + 1)) := by
  refine mkDef (N := ["_law_dice_here", "_law_atoms", "_law_order", "_law_most", "_law_inputs", "_law_left", "_law_turn", "_law_size", "_law_one"]) (ps := ["_law_dice_here", "_law_atoms", "_law_order", "_law_most"]) A.d__law_kind sc__law_kind (fun _ _ _ _ _ _ us hl => match us, hl with | [_, _, _, _], _ => rfl) fun fa cdv Ar outer s H E hr => ⟨_,
    (dss_cons (ds_parO (i := 4) (j := 5) (do_lst da_nil) (de_op ok_sub (de_var 3) de_int) (fun _ => sc__law_kind.nd))
    (dss_cons (ds_for (di_range1 A.n_range (da_cons (de_if (dt_cmp ok_gt (de_var 2) de_int) (de_call G__law_roll (fun _ => hr.mono (by omega)) (fun _ => pas (takes_of rfl rfl rfl rfl)) (da_cons (de_var 0) (da_cons de_int da_nil))) de_int) da_nil)) (dg_name (i := 6) (fun _ => sc__law_kind.nd))
    (dss_one (ds_if (dt_cmp ok_gt (de_var 5) de_int)
    (dss_cons (ds_set (i := 7) (de_call G__law_pick (fun _ => hr.mono (by omega)) (fun _ => pas (takes_of rfl rfl rfl rfl)) (da_cons (de_var 0) (da_cons (de_lst (da_cons de_int (da_cons (de_callB ok_min A.n_min FP.boot_min (da_cons de_int (da_cons (de_var 5) da_nil))) (da_cons (de_var 5) da_nil)))) da_nil))) (fun _ => sc__law_kind.nd))
    (dss_cons (ds_set (i := 8) (de_call G__law_kind (fun _ => hr.mono (by omega)) (fun _ => pas (takes_of rfl rfl rfl rfl)) (da_cons (de_var 0) (da_cons (de_var 1) (da_cons (de_call G__law_pick (fun _ => hr.mono (by omega)) (fun _ => pas (takes_of rfl rfl rfl rfl)) (da_cons (de_var 0) (da_cons (de_lst (da_cons de_int (da_cons de_int (da_cons (de_op ok_sub (de_var 2) de_int) da_nil)))) da_nil))) (da_cons (de_var 7) da_nil))))) (fun _ => sc__law_kind.nd))
    (dss_cons (ds_append 4 (de_var 8) (pe := fun _ _ h => ps_expr (pe_bm PySem.F.plainAttrs_list PySem.F.slot_list_append PySem.F.type_list_append mt_append (pv 4) (pa_cons h pa_nil))))
    (dss_one (ds_set (i := 5) (de_op ok_sub (de_var 5) (de_callB ok_len A.n_len FP.boot_len (da_cons (de_call G__law_atoms_of (fun _ => hr.mono (by omega)) (fun _ => pas (takes_of rfl rfl rfl rfl)) (da_cons (de_var 8) da_nil)) da_nil))) (fun _ => sc__law_kind.nd))))))
    dss_nil)) (fun _ => passes_of rfl))
    (dss_one (ds_frz 4 (ds_ret (de_tup (da_cons (de_callTy ok_tuple A.n_tuple FP.boot_tuple (da_cons (de_var 4) da_nil)) (da_cons (de_call G__law_pick (fun _ => hr.mono (by omega)) (fun _ => pas (takes_of rfl rfl rfl rfl)) (da_cons (de_var 0) (da_cons (de_var 1) da_nil))) da_nil)))))))),  fun ds Q Ex hl hf => ?_⟩
  match ds, hl, hf with
  | [.tok, .lst _, .int o, .int m], _, ⟨zs, rfl, ⟨hz0, hz1⟩, hw, ⟨ho0, ho4, hod⟩, ⟨hm1, hm15⟩, hq⟩ =>
    change (_ : DTS) _ [Sl.d .tok, Sl.d (.lst (zs.map .str)), Sl.d (.int o), Sl.d (.int m), Sl.no, Sl.no, Sl.no, Sl.no, Sl.no]
    refine ⟨line rfl, ?_⟩
    show bit (decide (o > 0)) _ _
    by_cases hop : o > 0
    · rw [decide_eq_true hop]
      refine ⟨rfl, ⟨by decide, by decide⟩, fun r hr0 hr1 => ⟨by omega, by omega, ?_⟩⟩
      refine forD_inv (fun ρ => ∃ (ks : List Kd) (l : Int) (a b c : Sl), ρ = [Sl.d .tok, Sl.d (.lst (zs.map .str)), Sl.d (.int o), Sl.d (.int m), Sl.own (ks.map plain), Sl.d (.int l), a, b, c] ∧ (∀ k ∈ ks, (ord k : Int) < o ∧ ∀ z ∈ places k, z ∈ zs) ∧ l = m - 1 - ((placesL ks).length : Int) ∧ 0 ≤ l) _ _ ⟨[], m - 1, _, _, _, rfl, fun _ h => absurd h List.not_mem_nil, by rw [placesL]; simp, by omega⟩ ?_ ?_
      · rintro x hx ρ K ⟨ks, l, a, b, c, rfl, hk, hl, h0⟩ hK
        refine ⟨_, rfl, ?_⟩
        show bit (decide (l > 0)) _ _
        by_cases hlp : l > 0
        · rw [decide_eq_true hlp]
          refine ⟨line rfl, rfl, ⟨show 0 < 3 by decide, show 3 < 1073741824 by decide⟩, fun sz hsz => ?_⟩
          have hsz2 : ∃ s : Int, sz = .int s ∧ 1 ≤ s ∧ s ≤ l := by
            simp only [List.mem_cons, List.not_mem_nil, or_false] at hsz
            rcases hsz with rfl | rfl | rfl
            · exact ⟨1, rfl, by omega, by omega⟩
            · exact ⟨_, rfl, by split <;> omega, by split <;> omega⟩
            · exact ⟨l, rfl, by omega, by omega⟩
          obtain ⟨s, rfl, hs1, hs2⟩ := hsz2
          refine ⟨line rfl, rfl, ⟨show 0 < 3 by decide, show 3 < 1073741824 by decide⟩, fun oo hoo => ?_⟩
          have hoo2 : ∃ o2 : Int, oo = .int o2 ∧ 0 ≤ o2 ∧ o2 < o := by
            simp only [List.mem_cons, List.not_mem_nil, or_false] at hoo
            rcases hoo with rfl | rfl | rfl
            · exact ⟨0, rfl, by omega, by omega⟩
            · exact ⟨0, rfl, by omega, by omega⟩
            · exact ⟨o - 1, rfl, by omega, by omega⟩
          obtain ⟨o2, rfl, ho1, ho2⟩ := hoo2
          refine ⟨rfl, zs, rfl, ⟨hz0, hz1⟩, hw, ⟨ho1, by omega, by omega⟩, ⟨hs1, by omega⟩, fun k h1 h2 h3 => ?_⟩
          have hgk : Good k := ⟨fun z hz => hw z (h3 z hz), by omega, by omega⟩
          have hkl := length_placesL ks
          refine ⟨by rw [List.length_map]; exact Nat.lt_of_le_of_lt (show ks.length ≤ 15 by omega) (by decide), rfl, k, rfl, hgk, by have := hgk.o; omega, hK _ ⟨ks ++ [k], l - (((places k).map D.str).length : Int), Sl.d x, Sl.d (.int s), Sl.d (plain k), ?_, fun j hj => ?_, ?_, ?_⟩⟩
          · rw [List.map_append]
            rfl
          · rcases List.mem_append.mp hj with q | q
            · exact hk j q
            · rw [List.mem_singleton.mp q]
              exact ⟨by omega, h3⟩
          · rw [placesL_app, placesL_one, List.length_append, List.length_map]
            omega
          · rw [List.length_map]
            omega
        · rw [decide_eq_false hlp]
          exact hK _ ⟨ks, l, _, b, c, rfl, hk, hl, h0⟩
      · intro ρ hI
        obtain ⟨ks, l, a, b, c, rfl, hk, hl, h0⟩ := hI
        refine ⟨rfl, ⟨by rw [List.length_map]; omega, by rw [List.length_map]; omega⟩, fun y hy => ⟨line rfl, ?_⟩⟩
        obtain ⟨z, hz, rfl⟩ := List.mem_map.mp hy
        have hqk := hq (.mk ks z) (by
          have h1 : ordL ks ≤ o.toNat := ordL_le fun k hkk => by have := (hk k hkk).1; omega
          show ((ordL ks : Nat) : Int) ≤ o
          omega) (by
          rw [places, List.length_append]
          have e : [z].length = 1 := rfl
          omega) (fun y hy => by
          rw [places] at hy
          rcases List.mem_append.mp hy with q | q
          · rw [placesL_map] at q
            obtain ⟨w, hw1, hw2⟩ := List.mem_flatten.mp q
            obtain ⟨k, hk1, rfl⟩ := List.mem_map.mp hw1
            exact (hk k hk1).2 y hw2
          · rw [List.mem_singleton.mp q]
            exact hz)
        rw [plain_mk] at hqk
        exact hqk
    · rw [decide_eq_false hop]
      refine ⟨by decide, by decide, ?_⟩
      have hI : ∃ (ks : List Kd) (l : Int) (a b c : Sl), [Sl.d .tok, Sl.d (.lst (zs.map .str)), Sl.d (.int o), Sl.d (.int m), Sl.own [], Sl.d (.int (m - 1)), Sl.no, Sl.no, Sl.no] = [Sl.d .tok, Sl.d (.lst (zs.map .str)), Sl.d (.int o), Sl.d (.int m), Sl.own (ks.map plain), Sl.d (.int l), a, b, c] ∧ (∀ k ∈ ks, (ord k : Int) < o ∧ ∀ z ∈ places k, z ∈ zs) ∧ l = m - 1 - ((placesL ks).length : Int) ∧ 0 ≤ l := ⟨[], m - 1, _, _, _, rfl, fun _ h => absurd h List.not_mem_nil, by rw [placesL]; simp, by omega⟩
      refine ⟨rfl, ⟨by rw [List.length_map]; omega, by rw [List.length_map]; omega⟩, fun y hy => ⟨line rfl, ?_⟩⟩
      obtain ⟨z, hz, rfl⟩ := List.mem_map.mp hy
      have hqk := hq (.mk [] z) (by show ((ordL [] : Nat) : Int) ≤ o; rw [ordL]; omega) (by rw [places, placesL]; show ((1 : Nat) : Int) ≤ m; omega) (fun y hy => by
        rw [places, placesL] at hy
        rw [List.mem_singleton.mp hy]
        exact hz)
      rw [plain_mk] at hqk
      exact hqk
theorem rs__law_kind {P : Program} {w : World} {mg : Gm} {base : Heap} {Z : Ads} (A : All mg Z) (G__law_atoms_of : DefOk P w mg base 6 "_law_atoms_of" 1 (f_plainK d_places 5)) (G__law_pick : DefOk P w mg base 2 "_law_pick" 2 f_pick) (G__law_roll : DefOk P w mg base 1 "_law_roll" 2 f_roll) : ∀ d : Nat, DefOk P w mg base (d + 6) "_law_kind" 4 (f_kind d)
  | 0 => nv__law_kind A
  | d + 1 => ok__law_kind A G__law_atoms_of (rs__law_kind A G__law_atoms_of G__law_pick G__law_roll d) G__law_pick G__law_roll
theorem ok__law_made {P : Program} {w : World} {mg : Gm} {base : Heap} {Z : Ads} (A : All mg Z) (G_Library___init__ : InitDf P w mg base 4 "Library" Z.a_Library 1 f_initL) (G__law_made_kind : DefOk P w mg base 9 "_law_made_kind" 1 (f_plainK typeD 5)) : DefOk P w mg base 13 "_law_made" 1 f_madeL := by
  refine mkDef (N := ["_law_library_here", "_law_name"]) (ps := ["_law_library_here"]) A.d__law_made sc__law_made (fun _ _ _ _ _ _ us hl => match us, hl with | [_], _ => rfl) fun fa cdv Ar outer s H E hr => ⟨_,
    (dss_one (ds_ret (de_make A.kc_Library G_Library___init__.one (fun _ => hr.mono (by omega)) (fun _ => pas (takes_of rfl rfl rfl rfl)) (da_cons (de_dictP (de_lc (own := [("_law_name", 1)]) (fun _ => sc__law_made.nd) (di_keys (de_var 0)) (fun _ => blkOk_by (by kernel_rfl)) (dg_name (i := 1) (fun _ => sc__law_made.nd)) dts_nil (de_tup (da_cons (de_var 1) (da_cons (de_call G__law_made_kind (fun _ => hr.mono (by omega)) (fun _ => pas takes0) (da_cons (de_dget (k := 0) (fun _ => hr.mono (by omega)) (de_var 0) (de_var 1)) da_nil)) da_nil)))) A.n_dict FP.boot_dict) da_nil)))),  fun ds Q Ex hl hf => ?_⟩
  match ds, hl, hf with
  | [.dct _], _, ⟨L, rfl, hg, hn, hq⟩ =>
    have e0 : startD 2 [.dct (rowsL plain L)] = [Sl.d (.dct (rowsL plain L)), Sl.no] := rfl
    have hnN : (["_law_library_here", "_law_name"] : List Str).length = 2 := rfl
    rw [hnN, e0]
    clear e0 hnN
    refine ret_v (libD L) (ev_make (ds := [libT L]) (a1 ?_ a0) rfl fun Q E q => initL_ok hg hn q) hq
    have e := evPairs (ρ := [Sl.d (libP L), Sl.no]) (f := dVar 0) (i := 1) (vs := [1]) (h := plain) (h2 := typeD) (ft := dYes) hg.nd (by omega) (fun _ => true) (fun Q E q => q) (fv := dTup (dCons (dVar 1) (dCons (dCall (f_plainK typeD 5) 1 (dCons (dOp rdDGet (dVar 0) (dVar 1)) dNil)) dNil))) fun p hp => ⟨fun Q E q => q, fun _ => ?_⟩
    · rw [List.filter_eq_self.mpr fun _ _ => rfl] at e
      exact e
    · have hk := hg.g p hp
      refine ev_tup (a1 (fun Q E q => q) (a1 (ev_call (a1 (evGet (h := plain) (L := L) (k := p.2) (fun Q E q => q) (fun Q E q => q) (getL_of hg.nd hp)) a0) rfl fun Q E q => ⟨p.2, rfl, hk, Nat.lt_succ_of_le hk.o, q⟩) a0)) (line rfl)
theorem ok__law_known_library {P : Program} {w : World} {mg : Gm} {base : Heap} {Z : Ads} (A : All mg Z) (G__law_pick : DefOk P w mg base 2 "_law_pick" 2 f_pick) : DefOk P w mg base 3 "_law_known_library" 1 f_libr := by
  refine mkDef (N := ["_law_dice_here", "_law_a", "_law_b", "_law_c", "_law_n", "_law_some_here", "_law_found"]) (ps := ["_law_dice_here"]) A.d__law_known_library sc__law_known_library (fun _ _ _ _ _ _ us hl => match us, hl with | [_], _ => rfl) fun fa cdv Ar outer s H E hr => ⟨_,
    (dss_cons (ds_asg (de_tup (da_cons (de_tup (da_cons (de_tup da_nil) (da_cons de_str da_nil))) (da_cons (de_tup (da_cons (de_tup da_nil) (da_cons de_str da_nil))) (da_cons (de_tup (da_cons (de_tup da_nil) (da_cons de_str da_nil))) (da_cons (de_tup (da_cons (de_tup da_nil) (da_cons de_str da_nil))) da_nil))))) (dg_tup (dgs_cons (dg_name (i := 1) (fun _ => sc__law_known_library.nd)) (dgs_cons (dg_name (i := 2) (fun _ => sc__law_known_library.nd)) (dgs_cons (dg_name (i := 3) (fun _ => sc__law_known_library.nd)) (dgs_cons (dg_name (i := 4) (fun _ => sc__law_known_library.nd)) dgs_nil))))))
    (dss_cons (ds_setO (i := 5) (do_lst (da_cons (de_disp (dps_cons de_str (de_var 4) (dps_cons de_str (de_tup (da_cons (de_tup (da_cons (de_var 4) da_nil)) (da_cons de_str da_nil))) dps_nil))) (da_cons (de_disp (dps_cons de_str (de_tup (da_cons (de_tup (da_cons (de_var 1) da_nil)) (da_cons de_str da_nil))) (dps_cons de_str (de_tup (da_cons (de_tup (da_cons (de_var 2) da_nil)) (da_cons de_str da_nil))) dps_nil))) (da_cons (de_disp (dps_cons de_str (de_tup (da_cons (de_tup (da_cons (de_tup (da_cons (de_tup (da_cons (de_var 1) da_nil)) (da_cons de_str da_nil))) da_nil)) (da_cons de_str da_nil))) (dps_cons de_str (de_var 2) dps_nil))) da_nil)))) (fun _ => sc__law_known_library.nd))
    (dss_cons (ds_append 5 (de_disp (dps_cons de_str (de_tup (da_cons (de_tup (da_cons (de_tup (da_cons (de_tup (da_cons (de_var 1) da_nil)) (da_cons de_str da_nil))) da_nil)) (da_cons de_str da_nil))) (dps_cons de_str (de_tup (da_cons (de_tup (da_cons (de_var 1) da_nil)) (da_cons de_str da_nil))) (dps_cons de_str (de_var 1) dps_nil)))) (pe := fun _ _ h => ps_expr (pe_bm PySem.F.plainAttrs_list PySem.F.slot_list_append PySem.F.type_list_append mt_append (pv 5) (pa_cons h pa_nil))))
    (dss_cons (ds_append 5 (de_disp (dps_cons de_str (de_tup (da_cons (de_tup (da_cons (de_var 1) (da_cons (de_var 2) da_nil))) (da_cons de_str da_nil))) (dps_cons de_str (de_var 1) (dps_cons de_str (de_var 2) (dps_cons de_str (de_tup (da_cons (de_tup (da_cons (de_var 3) da_nil)) (da_cons de_str da_nil))) dps_nil))))) (pe := fun _ _ h => ps_expr (pe_bm PySem.F.plainAttrs_list PySem.F.slot_list_append PySem.F.type_list_append mt_append (pv 5) (pa_cons h pa_nil))))
    (dss_cons (ds_frz 5 (ds_setOD (i := 6) (dod_pairs (de_li A.n_list (de_call G__law_pick (fun _ => hr.mono (by omega)) (fun _ => pas (takes_of rfl rfl rfl rfl)) (da_cons (de_var 0) (da_cons (de_var 5) da_nil)))) A.n_dict FP.boot_dict) (fun _ => sc__law_known_library.nd)))
    (dss_cons (ds_odPop 6 de_str de_non)
    (dss_cons (ds_if (dt_w (dw_and (dt_inOD 6 (m := 0) (fun _ => hr.mono (by omega)) de_str) (dw_and1 (dt_notInOD 6 (m := 0) (fun _ => hr.mono (by omega)) de_str))))
    (dss_one (ds_odPut 6 (m := 0) (fun _ => hr.mono (by omega)) de_str (de_var 2)))
    dss_nil)
    (dss_one (ds_frzD 6 (ds_ret (de_var 6))))))))))),  fun ds Q Ex hl hf => ?_⟩
  match ds, hl, hf with
  | [.tok], _, hq =>
    have e0 : startD 7 [.tok] = [Sl.d (.tok), Sl.no, Sl.no, Sl.no, Sl.no, Sl.no, Sl.no] := rfl
    have hnN : (["_law_dice_here", "_law_a", "_law_b", "_law_c", "_law_n", "_law_some_here", "_law_found"] : List Str).length = 7 := rfl
    rw [hnN, e0]
    clear e0 hnN
    refine seq_as (.tup [plain qa, plain qb, plain qc, plain qn]) (fun Q E q => by repeat (first | exact q | refine ⟨line rfl, ?_⟩)) rfl ?_
    refine seq_oN (ds := [libP q1, libP q2, libP q3]) (a1 (evDispL (by repeat' (first | exact kv0 | exact a0 | refine kv1 (fun Q E q => q) rfl ?_ ?_ | exact (fun Q E q => q) | refine evPl ?_ (by decide) | refine a1 ?_ ?_)) (by decide +kernel) (by decide)) (a1 (evDispL (by repeat' (first | exact kv0 | exact a0 | refine kv1 (fun Q E q => q) rfl ?_ ?_ | exact (fun Q E q => q) | refine evPl ?_ (by decide) | refine a1 ?_ ?_)) (by decide +kernel) (by decide)) (a1 (evDispL (by repeat' (first | exact kv0 | exact a0 | refine kv1 (fun Q E q => q) rfl ?_ ?_ | exact (fun Q E q => q) | refine evPl ?_ (by decide) | refine a1 ?_ ?_)) (by decide +kernel) (by decide)) a0))) (line rfl) ?_
    refine seq_app rfl (libP q4) (line_lt rfl) (evDispL (by repeat' (first | exact kv0 | exact a0 | refine kv1 (fun Q E q => q) rfl ?_ ?_ | exact (fun Q E q => q) | refine evPl ?_ (by decide) | refine a1 ?_ ?_)) (by decide +kernel) (by decide)) ?_
    refine seq_app rfl (libP q5) (line_lt rfl) (evDispL (by repeat' (first | exact kv0 | exact a0 | refine kv1 (fun Q E q => q) rfl ?_ ?_ | exact (fun Q E q => q) | refine evPl ?_ (by decide) | refine a1 ?_ ?_)) (by decide +kernel) (by decide)) ?_
    refine seq_frz rfl ?_
    refine seq_setODP (fun kvs => ∃ L, L ∈ [q1, q2, q3, q4, q5] ∧ kvs = rowsL plain L) (fun Q E q => ⟨rfl, pkN rfl, fun d hd => ?_⟩) ?_
    · obtain ⟨L, hL, rfl⟩ : ∃ L, L ∈ [q1, q2, q3, q4, q5] ∧ d = libP L := by
        simp only [List.mem_append, List.mem_cons, List.not_mem_nil, or_false] at hd
        rcases hd with ((rfl | rfl | rfl) | rfl) | rfl
        · exact ⟨q1, by simp, rfl⟩
        · exact ⟨q2, by simp, rfl⟩
        · exact ⟨q3, by simp, rfl⟩
        · exact ⟨q4, by simp, rfl⟩
        · exact ⟨q5, by simp, rfl⟩
      have hg := q_good hL
      refine ⟨by rw [len_rows]; exact size_small (by omega), _, pairs_items L, ?_⟩
      rw [show mergeD [] (rowsL plain L) = rowsL plain L from merge_F hg.1.nd]
      exact q _ ⟨L, hL, rfl⟩
    rintro _ ⟨L, hL, rfl⟩
    refine seq_odPop rfl (.inr "x") (.str "x") .non rfl (fun Q E q => q) (fun Q E q => q) ?_
    obtain ⟨hg, hd1, hl4⟩ := q_good hL
    have hgd := dropL_g hg "x"
    have hdl := dropL_len L "x"
    rw [drop_rows]
    have ev := and_v (c := dB (dInOD false 6 (dC (.str "k")))) (d := dB (dInOD true 6 (dC (.str "g")))) (b_v (ev_inOD (ρ := [Sl.d .tok, Sl.d (plain qa), Sl.d (plain qb), Sl.d (plain qc), Sl.d (plain qn), Sl.d (.lst [libP q1, libP q2, libP q3, libP q4, libP q5]), Sl.od (rowsL plain (dropL L "x"))]) (neg := false) (kk := .inr "k") rfl (fun Q E q => q) rfl)) fun _ => b_v (ev_inOD (neg := true) (kk := .inr "g") rfl (fun Q E q => q) rfl)
    refine seq_if _ ev ?_
    refine bitS (fun _ => ?_) (fun _ => ?_)
    · refine seq_odPut rfl (.inr "w") (.str "w") (plain qb) rfl (by rw [len_rows]; exact Nat.lt_of_le_of_lt (show _ ≤ 4 by omega) (by decide)) (fun Q E q => q) (fun Q E q => q) ?_
      rw [put_rows]
      have hp := len_put (dropL L "x") "w" qb
      exact frzD rfl (ret_v _ (fun Q E q => q) (hq _ (hgd.put (by decide +kernel) qb_good) (by omega) (by omega)))
    · refine seq_next ?_
      refine frzD rfl ?_
      exact ret_v (libP (dropL L "x")) (fun Q E q => q) (hq _ hgd hd1 (by omega))
theorem ok__law_library {P : Program} {w : World} {mg : Gm} {base : Heap} {Z : Ads} (A : All mg Z) (G__law_kind : DefOk P w mg base 11 "_law_kind" 4 (f_kind 5)) (G__law_known_library : DefOk P w mg base 3 "_law_known_library" 1 f_libr) (G__law_pick : DefOk P w mg base 2 "_law_pick" 2 f_pick) (G__law_roll : DefOk P w mg base 1 "_law_roll" 2 f_roll) (G__law_some : DefOk P w mg base 2 "_law_some" 3 f_some) : DefOk P w mg base 13 "_law_library" 1 f_libr := by
  refine mkDef (N := ["_law_dice_here", "_law_way", "_law_found", "_law_atoms", "_law_name"]) (ps := ["_law_dice_here"]) A.d__law_library sc__law_library (fun _ _ _ _ _ _ us hl => match us, hl with | [_], _ => rfl) fun fa cdv Ar outer s H E hr => ⟨_,
    (dss_cons (ds_parOD (i := 1) (j := 2) (de_call G__law_roll (fun _ => hr.mono (by omega)) (fun _ => pas (takes_of rfl rfl rfl rfl)) (da_cons (de_var 0) (da_cons de_int da_nil))) dod_new (fun _ => sc__law_library.nd))
    (dss_cons (ds_if (dt_cmp (ok_eq (fun _ => hr.r.units)) (de_var 1) de_int)
    (dss_one (ds_ret (de_call G__law_known_library (fun _ => hr.mono (by omega)) (fun _ => pas (takes_of rfl rfl rfl rfl)) (da_cons (de_var 0) da_nil))))
    dss_nil)
    (dss_cons (ds_set (i := 3) (de_call G__law_pick (fun _ => hr.mono (by omega)) (fun _ => pas (takes_of rfl rfl rfl rfl)) (da_cons (de_var 0) (da_cons (de_lst (da_cons (de_lst (da_cons de_str (da_cons de_str da_nil))) (da_cons (de_lst (da_cons de_str (da_cons de_str (da_cons de_str da_nil)))) (da_cons (de_lst (da_cons de_str (da_cons de_str (da_cons de_str da_nil)))) da_nil)))) da_nil))) (fun _ => sc__law_library.nd))
    (dss_cons (ds_for (di_list (de_call G__law_some (fun _ => hr.mono (by omega)) (fun _ => pas (takes_of rfl rfl rfl rfl)) (da_cons (de_var 0) (da_cons (de_lst (da_cons de_str (da_cons de_str (da_cons de_str (da_cons de_str (da_cons de_str da_nil)))))) (da_cons (de_op ok_add de_int (de_call G__law_roll (fun _ => hr.mono (by omega)) (fun _ => pas (takes_of rfl rfl rfl rfl)) (da_cons (de_var 0) (da_cons de_int da_nil)))) da_nil))))) (dg_name (i := 4) (fun _ => sc__law_library.nd))
    (dss_one (ds_odPut 2 (m := 0) (fun _ => hr.mono (by omega)) (de_var 4) (de_call G__law_kind (fun _ => hr.mono (by omega)) (fun _ => pas (takes_of rfl rfl rfl rfl)) (da_cons (de_var 0) (da_cons (de_var 3) (da_cons (de_call G__law_pick (fun _ => hr.mono (by omega)) (fun _ => pas (takes_of rfl rfl rfl rfl)) (da_cons (de_var 0) (da_cons (de_lst (da_cons de_int (da_cons de_int (da_cons de_int (da_cons de_int da_nil))))) da_nil))) (da_cons de_int da_nil))))))) (fun _ => passes_of rfl))
    (dss_one (ds_frzD 2 (ds_ret (de_var 2)))))))),  fun ds Q Ex hl hf => ?_⟩
  match ds, hl, hf with
  | [.tok], _, hq =>
    have e0 : startD 5 [.tok] = [Sl.d (.tok), Sl.no, Sl.no, Sl.no, Sl.no] := rfl
    have hnN : (["_law_dice_here", "_law_way", "_law_found", "_law_atoms", "_law_name"] : List Str).length = 5 := rfl
    rw [hnN, e0]
    clear e0 hnN
    refine seq_parOD (fun d => ∃ r : Int, d = .int r) (fun Q E q => ⟨rfl, ⟨by decide, by decide⟩, fun r _ _ => q _ ⟨r, rfl⟩⟩) ?_
    rintro _ ⟨r, rfl⟩
    refine seq_if (decide (r = 0)) (b_v (ev_op (fun Q E q => q) (fun Q E q => q) fun Q q => eq_int q)) ?_
    refine bitS (fun _ => ?_) (fun _ => ?_)
    · exact seq_ret (ret_call (a1 (fun Q E q => q) a0) rfl hq)
    refine seq_next ?_
    refine seq_p (fun d => ∃ zs : List Str, d = .lst (zs.map .str) ∧ (0 < zs.length ∧ zs.length < 1000) ∧ ∀ z ∈ zs, isWordS z = true) (fun Q E q => ⟨line rfl, line rfl, line rfl, line rfl, rfl, pkN rfl, fun d hd => q d ?_⟩) ?_
    · simp only [List.mem_cons, List.not_mem_nil, or_false] at hd
      rcases hd with rfl | rfl | rfl
      · exact ⟨["a", "b"], rfl, ⟨by decide, by decide⟩, by decide +kernel⟩
      · exact ⟨["a", "b", "c"], rfl, ⟨by decide, by decide⟩, by decide +kernel⟩
      · exact ⟨["a", "b", "c"], rfl, ⟨by decide, by decide⟩, by decide +kernel⟩
    rintro _ ⟨zs, rfl, hz, hw⟩
    refine seq_forP (fun ds => ∃ ys us : List Str, ds = ys.map .str ∧ (ys ++ us).Perm ["f", "g", "h", "k", "z"] ∧ 1 ≤ ys.length ∧ ys.length ≤ 5) (fun Q E q => ⟨line rfl, rfl, ⟨by decide, by decide⟩, fun r hr0 hr1 => ⟨rfl, by decide, ⟨by omega, by omega⟩, fun ys us hp hn => ?_⟩⟩) ?_
    · obtain ⟨ys', us', rfl, rfl, hp2⟩ := perm_strs (ws := ["f", "g", "h", "k", "z"]) hp
      rw [List.length_map] at hn
      have hn2 : ys'.length = min (1 + r).toNat 5 := hn
      exact q _ ⟨ys', us', rfl, hp2, by omega, by omega⟩
    rintro _ ⟨ys, us, rfl, hp, hy1, hy5⟩
    have hnd : ys.Nodup := (List.nodup_append.mp (hp.nodup_iff.mpr (by decide +kernel))).1
    have hyw : ∀ y ∈ ys, isWordS y = true := fun y hy => (by decide +kernel : ∀ z ∈ (["f", "g", "h", "k", "z"] : List Str), isWordS z = true) y (hp.mem_iff.mp (List.mem_append_left _ hy))
    refine for_of D.str (fun pre ρ => ∃ M u, ρ = [Sl.d .tok, Sl.d (.int r), Sl.od (rowsL plain M), Sl.d (.lst (zs.map .str)), u] ∧ LibG M ∧ keysL M = pre) ys [] _ ⟨[], _, rfl, LibG.nil, rfl⟩ ?_ ?_
    · rintro y pre post eq ρ K ⟨M, u, rfl, hM, hk⟩ hK
      rw [List.nil_append] at eq
      have hml : M.length ≤ 5 := by
        have h1 := congrArg List.length hk
        have h2 := congrArg List.length eq
        unfold keysL at h1
        rw [List.length_map] at h1
        rw [List.length_append, List.length_cons] at h2
        omega
      have hny : y ∉ keysL M := fun m => by
        rw [hk] at m
        rw [eq] at hnd
        exact (List.nodup_append.mp hnd).2.2 y m y List.mem_cons_self rfl
      refine ⟨_, rfl, ?_⟩
      refine odPutP rfl (.inr y) (.str y) (fun d => ∃ k, d = plain k ∧ Good k) rfl (by rw [len_rows]; exact Nat.lt_of_le_of_lt (show _ ≤ 5 by omega) (by decide)) (fun Q E q => q) (fun Q E q => ⟨line rfl, rfl, pkN rfl, fun o ho => ?_⟩) ?_
      · obtain ⟨n, rfl, h0, h1⟩ : ∃ n : Int, o = .int n ∧ 0 ≤ n ∧ n ≤ 2 := by
          simp only [List.mem_cons, List.not_mem_nil, or_false] at ho
          rcases ho with rfl | rfl | rfl | rfl
          · exact ⟨0, rfl, by decide, by decide⟩
          · exact ⟨1, rfl, by decide, by decide⟩
          · exact ⟨1, rfl, by decide, by decide⟩
          · exact ⟨2, rfl, by decide, by decide⟩
        exact ⟨rfl, zs, rfl, hz, hw, ⟨h0, by omega, by omega⟩, ⟨by decide, by decide⟩, fun k e1 e2 e3 => q _ ⟨k, rfl, ⟨fun x hx => hw x (e3 x hx), by omega, by omega⟩⟩⟩
      · rintro _ ⟨k, rfl, hgk⟩
        rw [put_rows]
        refine hK _ ⟨putL1 M y k, _, rfl, hM.put (hyw y (by rw [eq]; simp)) hgk, ?_⟩
        rw [keys_put, if_neg hny, hk]
    · rintro ρ ⟨M, u, rfl, hM, hk⟩
      have hml : M.length = ys.length := by
        have h1 := congrArg List.length hk
        unfold keysL at h1
        rw [List.length_map] at h1
        exact h1
      dsimp only
      refine frzD rfl ?_
      exact ret_v (libP M) (fun Q E q => q) (hq M hM (by omega) (by omega))
theorem ok__law_lines {P : Program} {w : World} {mg : Gm} {base : Heap} {Z : Ads} (A : All mg Z) (G__law_text : DefOk P w mg base 6 "_law_text" 1 (f_plainK d_text 5)) : DefOk P w mg base 8 "_law_lines" 1 f_linesP := by
  refine mkDef (N := ["_law_library_here", "_law_name"]) (ps := ["_law_library_here"]) A.d__law_lines sc__law_lines (fun _ _ _ _ _ _ us hl => match us, hl with | [_], _ => rfl) fun fa cdv Ar outer s H E hr => ⟨_,
    (dss_one (ds_ret (de_lc (own := [("_law_name", 1)]) (fun _ => sc__law_lines.nd) (di_list (de_callB ok_sortedD A.n_sorted FP.boot_sorted (da_cons (de_var 0) da_nil))) (fun _ => blkOk_by (by kernel_rfl)) (dg_name (i := 1) (fun _ => sc__law_lines.nd)) dts_nil (de_op ok_add (de_op ok_add (de_var 1) de_str) (de_call G__law_text (fun _ => hr.mono (by omega)) (fun _ => pas takes0) (da_cons (de_dget (k := 0) (fun _ => hr.mono (by omega)) (de_var 0) (de_var 1)) da_nil)))))),  fun ds Q Ex hl hf => ?_⟩
  match ds, hl, hf with
  | [.dct _], _, ⟨L, rfl, hL, h1, hq⟩ =>
    have e0 : startD 2 [.dct (rowsL plain L)] = [Sl.d (.dct (rowsL plain L)), Sl.no] := rfl
    have hnN : (["_law_library_here", "_law_name"] : List Str).length = 2 := rfl
    rw [hnN, e0]
    clear e0 hnN
    have hks : (sortS (keysL L)).length = L.length := by rw [(sortS_perm _).length_eq]; exact List.length_map _
    refine ret_v (.lst ((linesL L).map .str)) ?_ hq
    have e := ev_lc (ρ := [Sl.d (.dct (rowsL plain L)), Sl.no]) (w := dIList (dCB rdSortedD (dCons (dVar 0) dNil))) (T := .one 1) (vs := [1]) (f := dOp rdAdd (dOp rdAdd (dVar 1) (dC (.str " : "))) (dCall (f_plainK d_text 5) 1 (dCons (dOp rdDGet (dVar 0) (dVar 1)) dNil))) (fun z : Str => D.str z) (fun z => .str (lineS (z, kindAt L z))) (xs := sortS (keysL L)) (fun Q E q => ⟨keysL L, keys_F _ _ L, by rw [show (keysL L).length = L.length from List.length_map _]; omega, q⟩) (size_small (by omega)) fun z hz => ⟨_, rfl, ?_⟩
    · have el : (linesL L).map D.str = (sortS (keysL L)).map fun z => D.str (lineS (z, kindAt L z)) := by
        unfold linesL sortL pickL
        rw [List.map_map, List.map_map]
        rfl
      rw [el]
      exact e
    · obtain ⟨k, hk, hm⟩ := getL_in ((sortS_perm _).mem_iff.mp hz)
      rw [kindAt_of hk]
      have hg := hL.g _ hm
      have hwz : z.length ≤ 8 := (word_len (hL.w _ hm)).2
      have htl : (text k).length ≤ 300 := Good.text_len hg
      have e3 : (" : " : Str).length = 3 := by decide +kernel
      refine ev_op (x := .str (z ++ " : ")) (y := .str (text k)) (ev_op (x := .str z) (y := .str " : ") (fun Q E q => q) (fun Q E q => q) fun Q q => ⟨by rw [e3]; exact size_small (by omega), q⟩) (ev_call (a1 (evGet (h := plain) (L := L) (fun Q E q => q) (fun Q E q => q) hk) a0) rfl fun Q E q => ⟨k, rfl, hg, Nat.lt_succ_of_le hg.o, q⟩) fun Q q => ⟨by rw [len_app, e3]; exact size_small (by omega), q⟩
end K11
namespace K11
open PySem L2 FP
variable [FP.Tabl]
open KP
theorem ok__law_told {P : Program} {w : World} {mg : Gm} {base : Heap} {Z : Ads} (A : All mg Z) (G_Library_read : CMethS P w mg base 16 Z.a_Library "read" f_readLib) : DefOk P w mg base 17 "_law_told" 1 f_told11 := by
  refine mkDef (N := ["_law_lines_here", "_law_rows", "error"]) (ps := ["_law_lines_here"]) A.d__law_told sc__law_told (fun _ _ _ _ _ _ us hl => match us, hl with | [_], _ => rfl) fun fa cdv Ar outer s H E hr => ⟨_,
    (dss_cons (ds_set (i := 1) (de_op ok_add (de_callTy (ok_list (by intro _; rfl) (fun _ => hr.r.hd)) A.n_list FP.boot_list (da_cons (de_var 0) da_nil)) (de_op ok_rep (de_lst (da_cons de_str da_nil)) de_int)) (fun _ => sc__law_told.nd))
    (dss_one (ds_tryM (fun _ => takes_of rfl rfl rfl rfl) (fun W => (dss_cons (ds_if (dt_cmp (ok_eq (fun _ => hr.r.units)) (de_callB ok_len A.n_len FP.boot_len (da_cons (de_var 0) da_nil)) de_int)
    (dss_one (ds_ret (de_cmethS0 A.kc_Library G_Library_read (fun _ => hr.mono (by omega)) (fun j => pas j.2.1))))
    dss_nil)
    (dss_cons (ds_if (dt_cmp (ok_eq (fun _ => hr.r.units)) (de_callB ok_len A.n_len FP.boot_len (da_cons (de_var 0) da_nil)) de_int)
    (dss_one (ds_ret (de_cmethS A.kc_Library G_Library_read (fun _ => hr.mono (by omega)) (fun j => pas j.2.1) (da_cons (de_ix (de_var 1) de_int) da_nil))))
    dss_nil)
    (dss_cons (ds_if (dt_cmp (ok_eq (fun _ => hr.r.units)) (de_callB ok_len A.n_len FP.boot_len (da_cons (de_var 0) da_nil)) de_int)
    (dss_one (ds_ret (de_cmethS A.kc_Library G_Library_read (fun _ => hr.mono (by omega)) (fun j => pas j.2.1) (da_cons (de_ix (de_var 1) de_int) (da_cons (de_ix (de_var 1) de_int) da_nil)))))
    dss_nil)
    (dss_cons (ds_if (dt_cmp (ok_eq (fun _ => hr.r.units)) (de_callB ok_len A.n_len FP.boot_len (da_cons (de_var 0) da_nil)) de_int)
    (dss_one (ds_ret (de_cmethS A.kc_Library G_Library_read (fun _ => hr.mono (by omega)) (fun j => pas j.2.1) (da_cons (de_ix (de_var 1) de_int) (da_cons (de_ix (de_var 1) de_int) (da_cons (de_ix (de_var 1) de_int) da_nil))))))
    dss_nil)
    (dss_cons (ds_if (dt_cmp (ok_eq (fun _ => hr.r.units)) (de_callB ok_len A.n_len FP.boot_len (da_cons (de_var 0) da_nil)) de_int)
    (dss_one (ds_ret (de_cmethS A.kc_Library G_Library_read (fun _ => hr.mono (by omega)) (fun j => pas j.2.1) (da_cons (de_ix (de_var 1) de_int) (da_cons (de_ix (de_var 1) de_int) (da_cons (de_ix (de_var 1) de_int) (da_cons (de_ix (de_var 1) de_int) da_nil)))))))
    dss_nil)
    (dss_cons (ds_if (dt_cmp (ok_eq (fun _ => hr.r.units)) (de_callB ok_len A.n_len FP.boot_len (da_cons (de_var 0) da_nil)) de_int)
    (dss_one (ds_ret (de_cmethS A.kc_Library G_Library_read (fun _ => hr.mono (by omega)) (fun j => pas j.2.1) (da_cons (de_ix (de_var 1) de_int) (da_cons (de_ix (de_var 1) de_int) (da_cons (de_ix (de_var 1) de_int) (da_cons (de_ix (de_var 1) de_int) (da_cons (de_ix (de_var 1) de_int) da_nil))))))))
    dss_nil)
    (dss_one (ds_ret (de_cmethS A.kc_Library G_Library_read (fun _ => hr.mono (by omega)) (fun j => pas j.2.1) (da_cons (de_ix (de_var 1) de_int) (da_cons (de_ix (de_var 1) de_int) (da_cons (de_ix (de_var 1) de_int) (da_cons (de_ix (de_var 1) de_int) (da_cons (de_ix (de_var 1) de_int) (da_cons (de_ix (de_var 1) de_int) da_nil))))))))))))))))
    (dh_as (i := 2) (fun _ => ⟨rfl, by decide, .inl A.xc_ParseError.nm⟩) A.cam_ParseError (fun _ _ _ => (dss_one (ds_ret (de_op ok_add de_str (de_callB (ok_repr (fun _ => hr.g) (fun _ => hr.r.units)) A.n_repr FP.boot_repr (da_cons (de_xf (i := 2) A.xc_ParseError) da_nil))))))
    (dh_cons (fun _ => ⟨rfl, by decide, .inl A.ex_InvalidLibrary.nm⟩) A.cam_InvalidLibrary (dss_one (ds_ret de_str))
    dh_nil)) (fun _ => sc__law_told.nd)))),  fun ds Q Ex hl hf => ?_⟩
  match ds, hl, hf with
  | [.lst xs], _, ⟨h6, hz, hq⟩ =>
    have e0 : startD 3 [.lst xs] = [Sl.d (.lst xs), Sl.no, Sl.no] := rfl
    have hnN : (["_law_lines_here", "_law_rows", "error"] : List Str).length = 3 := rfl
    rw [hnN, e0]
    clear e0 hnN
    refine seq_v (.lst (xs ++ List.replicate 7 (.str ""))) (ev_op (x := .lst xs) (y := .lst (List.replicate 7 (.str ""))) (fun Q E q => q) (ev_op (x := .lst [.str ""]) (y := .int 7) (ev_lst (a1 (fun Q E q => q) a0) (line rfl)) (fun Q E q => q) fun Q q => ⟨⟨by decide, by decide⟩, by decide, q⟩) fun Q q => ⟨?_, q⟩) ?_
    · rw [List.length_replicate]
      exact size_small (by omega)
    refine try_m fun N' hrt hrs => ?_
    have hq' : N'.rt (told11 xs) [Sl.d (.lst xs), Sl.d (.lst (xs ++ List.replicate 7 (.str ""))), Sl.no] := by
      rw [hrt]
      exact hq
    have hE : ∀ i, i < 10 → N'.rt (.str (parS i)) [Sl.d (.lst xs), Sl.d (.lst (xs ++ List.replicate 7 (.str ""))), Sl.no] → N'.rs (lineX i) [Sl.d (.lst xs), Sl.d (.lst (xs ++ List.replicate 7 (.str ""))), Sl.no] := by
      intro i hi q
      rw [hrt] at q
      refine hrs _ ⟨by show ("ParseError" : Str) ∈ (_ : List Str); decide +kernel, ?_⟩
      have hy : decide (("ParseError" : Str) ∈ (["ParseError"] : List Str)) = true := by decide +kernel
      show bit (decide (("ParseError" : Str) ∈ (["ParseError"] : List Str))) _ _
      rw [hy]
      intro a cls d
      obtain ⟨_, e2, e3, _⟩ := small_shown i hi
      refine ⟨rfl, rfl, rfl, rfl, .int i, rfl, .int i, rfl, e2, rfl, Nat.le_of_ble_eq_true rfl, size_small (by omega), ?_, q⟩
      have e6 : ("parse " : Str).length = 6 := by decide +kernel
      rw [e6]
      exact size_small (by omega)
    have rd : f_readLib [.cl "Library", .tup xs] (fun d => N'.rt d [Sl.d (.lst xs), Sl.d (.lst (xs ++ List.replicate 7 (.str ""))), Sl.no]) (fun x => N'.rs x [Sl.d (.lst xs), Sl.d (.lst (xs ++ List.replicate 7 (.str ""))), Sl.no]) := by
      refine ⟨rfl, by omega, hz, fun i hi => hE i ?_ ?_, fun L hL => ⟨fun _ => ?_, fun l => ?_⟩⟩
      · have := readLs_lt _ _ _ _ hi
        omega
      · rw [told_inl hi] at hq'
        exact hq'
      · rw [told_inr hL] at hq'
        exact hq'
      · have := readLs_len _ _ _ _ hL
        rw [List.length_nil] at this
        omega
    clear hq' hE hrs hrt hq hz
    have el : ∀ k : Int, EvT (dB (dOp rdEq (dCB rdLen (dCons (dVar 0) dNil)) (dC (.int k)))) [Sl.d (.lst xs), Sl.d (.lst (xs ++ List.replicate 7 (.str ""))), Sl.no] (decide ((xs.length : Int) = k)) := fun k => b_v (ev_op (x := .int xs.length) (y := .int k) (fun Q E q => q) (fun Q E q => q) fun Q q => q)
    cases xs with
    | nil =>
      refine seq_ifT ((el 0).eq rfl) (seq_ret ?_)
      exact rd
    | cons x0 xs =>
    cases xs with
    | nil =>
      refine seq_ifF ((el 0).eq rfl) ?_
      refine seq_ifT ((el 1).eq rfl) (seq_ret ?_)
      exact ret_cm (ds := [x0]) (a1 (fun Q E q => ⟨_, rfl, q⟩) a0) (line rfl) rd
    | cons x1 xs =>
    cases xs with
    | nil =>
      refine seq_ifF ((el 0).eq rfl) ?_
      refine seq_ifF ((el 1).eq rfl) ?_
      refine seq_ifT ((el 2).eq rfl) (seq_ret ?_)
      exact ret_cm (ds := [x0, x1]) (a1 (fun Q E q => ⟨_, rfl, q⟩) (a1 (fun Q E q => ⟨_, rfl, q⟩) a0)) (line rfl) rd
    | cons x2 xs =>
    cases xs with
    | nil =>
      refine seq_ifF ((el 0).eq rfl) ?_
      refine seq_ifF ((el 1).eq rfl) ?_
      refine seq_ifF ((el 2).eq rfl) ?_
      refine seq_ifT ((el 3).eq rfl) (seq_ret ?_)
      exact ret_cm (ds := [x0, x1, x2]) (a1 (fun Q E q => ⟨_, rfl, q⟩) (a1 (fun Q E q => ⟨_, rfl, q⟩) (a1 (fun Q E q => ⟨_, rfl, q⟩) a0))) (line rfl) rd
    | cons x3 xs =>
    cases xs with
    | nil =>
      refine seq_ifF ((el 0).eq rfl) ?_
      refine seq_ifF ((el 1).eq rfl) ?_
      refine seq_ifF ((el 2).eq rfl) ?_
      refine seq_ifF ((el 3).eq rfl) ?_
      refine seq_ifT ((el 4).eq rfl) (seq_ret ?_)
      exact ret_cm (ds := [x0, x1, x2, x3]) (a1 (fun Q E q => ⟨_, rfl, q⟩) (a1 (fun Q E q => ⟨_, rfl, q⟩) (a1 (fun Q E q => ⟨_, rfl, q⟩) (a1 (fun Q E q => ⟨_, rfl, q⟩) a0)))) (line rfl) rd
    | cons x4 xs =>
    cases xs with
    | nil =>
      refine seq_ifF ((el 0).eq rfl) ?_
      refine seq_ifF ((el 1).eq rfl) ?_
      refine seq_ifF ((el 2).eq rfl) ?_
      refine seq_ifF ((el 3).eq rfl) ?_
      refine seq_ifF ((el 4).eq rfl) ?_
      refine seq_ifT ((el 5).eq rfl) (seq_ret ?_)
      exact ret_cm (ds := [x0, x1, x2, x3, x4]) (a1 (fun Q E q => ⟨_, rfl, q⟩) (a1 (fun Q E q => ⟨_, rfl, q⟩) (a1 (fun Q E q => ⟨_, rfl, q⟩) (a1 (fun Q E q => ⟨_, rfl, q⟩) (a1 (fun Q E q => ⟨_, rfl, q⟩) a0))))) (line rfl) rd
    | cons x5 xs =>
    cases xs with
    | cons y r => exact absurd h6 (by simp only [List.length_cons]; omega)
    | nil =>
      refine seq_ifF ((el 0).eq rfl) ?_
      refine seq_ifF ((el 1).eq rfl) ?_
      refine seq_ifF ((el 2).eq rfl) ?_
      refine seq_ifF ((el 3).eq rfl) ?_
      refine seq_ifF ((el 4).eq rfl) ?_
      refine seq_ifF ((el 5).eq rfl) ?_
      exact ret_cm (ds := [x0, x1, x2, x3, x4, x5]) (a1 (fun Q E q => ⟨_, rfl, q⟩) (a1 (fun Q E q => ⟨_, rfl, q⟩) (a1 (fun Q E q => ⟨_, rfl, q⟩) (a1 (fun Q E q => ⟨_, rfl, q⟩) (a1 (fun Q E q => ⟨_, rfl, q⟩) (a1 (fun Q E q => ⟨_, rfl, q⟩) a0)))))) (line rfl) rd
theorem ok__law_spoilt {P : Program} {w : World} {mg : Gm} {base : Heap} {Z : Ads} (A : All mg Z) (G__law_pick : DefOk P w mg base 2 "_law_pick" 2 f_pick) : DefOk P w mg base 9 "_law_spoilt" 2 f_spoilt := by
  refine mkDef (N := ["_law_dice_here", "_law_line", "_law_some_here"]) (ps := ["_law_dice_here", "_law_line"]) A.d__law_spoilt sc__law_spoilt (fun _ _ _ _ _ _ us hl => match us, hl with | [_, _], _ => rfl) fun fa cdv Ar outer s H E hr => ⟨_,
    (dss_cons (ds_set (i := 2) (de_lst (da_cons de_non (da_cons de_int (da_strT (dat_cons (det_repl (de_var 1)) (dat_cons (det_repl (de_var 1)) (dat_cons (det_of (de_op ok_add (de_var 1) de_str)) (dat_cons (det_of (de_op ok_add de_str (de_var 1))) (dat_cons (det_of (de_op ok_add (de_var 1) de_str)) (dat_cons (det_of de_str) dat_nil)))))))))) (fun _ => sc__law_spoilt.nd))
    (dss_cons (ds_set (i := 2) (de_op ok_add (de_var 2) (de_lst (da_cons de_str (da_cons de_str (da_cons de_str (da_cons de_str (da_cons de_str (da_cons (de_tup (da_cons (de_var 1) da_nil)) (da_cons (de_lst (da_cons (de_var 1) da_nil)) (da_cons (de_op ok_add (de_var 1) de_str) (da_cons de_str (da_cons de_str da_nil)))))))))))) (fun _ => sc__law_spoilt.nd))
    (dss_one (ds_ret (de_call G__law_pick (fun _ => hr.mono (by omega)) (fun _ => pas (takes_of rfl rfl rfl rfl)) (da_cons (de_var 0) (da_cons (de_var 2) da_nil))))))),  fun ds Q Ex hl hf => ?_⟩
  match ds, hl, hf with
  | [.tok, .str _], _, ⟨p, rfl, hw, hg, hq⟩ =>
    have e0 : startD 3 [.tok, .str (lineS p)] = [Sl.d (.tok), Sl.d (.str (lineS p)), Sl.no] := rfl
    have hnN : (["_law_dice_here", "_law_line", "_law_some_here"] : List Str).length = 3 := rfl
    rw [hnN, e0]
    clear e0 hnN
    have hlw := word_len hw
    have hlt := hg.text_len
    have e1 : (" " : Str).length = 1 := by decide +kernel
    have e2 : (": " : Str).length = 2 := by decide +kernel
    have e3 : (" : " : Str).length = 3 := by decide +kernel
    have e4 : (" : a" : Str).length = 4 := by decide +kernel
    have e5 : (")" : Str).length = 1 := by decide +kernel
    have hls : (lineS p).length ≤ 311 := by
      unfold lineS
      rw [len_app, len_app, e3]
      omega
    refine seq_v (.lst (spoiltL (lineS p))) (ev_lst (a1 (fun Q E q => q) (a1 (fun Q E q => q) (a1 (fun Q E q => q) (a1 (ev_repl (fun Q E q => q) (by rw [e2]; omega)) (a1 (ev_repl (fun Q E q => q) (by rw [e1]; omega)) (a1 (ev_op (x := .str (lineS p)) (y := .str " ") (fun Q E q => q) (fun Q E q => q) fun Q q => ⟨by rw [e1]; exact size_small (by omega), q⟩) (a1 (ev_op (x := .str " ") (y := .str (lineS p)) (fun Q E q => q) (fun Q E q => q) fun Q q => ⟨by rw [e1]; exact size_small (by omega), q⟩) (a1 (ev_op (x := .str (lineS p)) (y := .str " : a") (fun Q E q => q) (fun Q E q => q) fun Q q => ⟨by rw [e4]; exact size_small (by omega), q⟩) (a1 (fun Q E q => q) a0))))))))) (line rfl)) ?_
    refine seq_v (.lst (spoiltL (lineS p) ++ spoiltM (lineS p))) (ev_op (x := .lst (spoiltL (lineS p))) (y := .lst (spoiltM (lineS p))) (fun Q E q => q) (ev_lst (a1 (fun Q E q => q) (a1 (fun Q E q => q) (a1 (fun Q E q => q) (a1 (fun Q E q => q) (a1 (fun Q E q => q) (a1 (ev_tup (a1 (fun Q E q => q) a0) (line rfl)) (a1 (ev_lst (a1 (fun Q E q => q) a0) (line rfl)) (a1 (ev_op (x := .str (lineS p)) (y := .str ")") (fun Q E q => q) (fun Q E q => q) fun Q q => ⟨by rw [e5]; exact size_small (by omega), q⟩) (a1 (fun Q E q => q) (a1 (fun Q E q => q) a0)))))))))) (line rfl)) fun Q q => ⟨line rfl, q⟩) ?_
    exact ret_call (a1 (fun Q E q => q) (a1 (fun Q E q => q) a0)) rfl ⟨pkN rfl, fun d hd => by
      obtain ⟨h1, h2⟩ := spoilt_ok hw hg hd
      exact hq d h1 h2⟩
end K11
namespace K11
open PySem L2 FP
variable [FP.Tabl]
open KP
theorem ok__law_right {P : Program} {w : World} {mg : Gm} {base : Heap} {Z : Ads} (A : All mg Z) (G_Library___eq__ : SpecOk P w mg base 1 Z.a_Library "__eq__" 2 f_eqL) (G_Library_lines : PropOk P w mg base 1 Z.a_Library "lines" f_linesL) (G__law_library : DefOk P w mg base 13 "_law_library" 1 f_libr) (G__law_lines : DefOk P w mg base 8 "_law_lines" 1 f_linesP) (G__law_made : DefOk P w mg base 13 "_law_made" 1 f_madeL) (G__law_pick : DefOk P w mg base 2 "_law_pick" 2 f_pick) (G__law_roll : DefOk P w mg base 1 "_law_roll" 2 f_roll) (G__law_some : DefOk P w mg base 2 "_law_some" 3 f_some) (G__law_spoilt : DefOk P w mg base 9 "_law_spoilt" 2 f_spoilt) (G__law_told : DefOk P w mg base 17 "_law_told" 1 f_told11) : DefOk P w mg base 18 "_law_right" 1 f_tokT := by
  refine mkDef (N := ["_law_dice_here", "_law_library_here", "_law_lines_here", "_law_made_here", "_law_turned", "_law_at", "_law_name", "_law_again", "_law_ahead", "_law_row", "_law_one"]) (ps := ["_law_dice_here"]) A.d__law_right sc__law_right (fun _ _ _ _ _ _ us hl => match us, hl with | [_], _ => rfl) fun fa cdv Ar outer s H E hr => ⟨_,
    (dss_cons (ds_set (i := 1) (de_call G__law_library (fun _ => hr.mono (by omega)) (fun _ => pas (takes_of rfl rfl rfl rfl)) (da_cons (de_var 0) da_nil)) (fun _ => sc__law_right.nd))
    (dss_cons (ds_par (i := 2) (j := 3) (da_cons (de_call G__law_lines (fun _ => hr.mono (by omega)) (fun _ => pas (takes_of rfl rfl rfl rfl)) (da_cons (de_var 1) da_nil)) (da_cons (de_call G__law_made (fun _ => hr.mono (by omega)) (fun _ => pas (takes_of rfl rfl rfl rfl)) (da_cons (de_var 1) da_nil)) da_nil)) (fun _ => sc__law_right.nd))
    (dss_cons (ds_set (i := 4) (de_call G__law_some (fun _ => hr.mono (by omega)) (fun _ => pas (takes_of rfl rfl rfl rfl)) (da_cons (de_var 0) (da_cons (de_var 2) (da_cons (de_callB ok_len A.n_len FP.boot_len (da_cons (de_var 2) da_nil)) da_nil)))) (fun _ => sc__law_right.nd))
    (dss_cons (ds_if (dt_w (dw_or (dt_cmp (ok_ne (fun _ => hr.r.units)) (de_prop A.kc_Library G_Library_lines (fun _ => hr.mono (by omega)) (de_var 3)) (de_callTy ok_tuple A.n_tuple FP.boot_tuple (da_cons (de_var 2) da_nil))) (dw_or (dt_cmp (OpOk.or (ok_neM A.kc_Library G_Library___eq__ A.eq_Library A.ne_Library (fun _ => hr.mono (by omega))) (ok_ne (fun _ => hr.r.units))) (de_call G__law_told (fun _ => hr.mono (by omega)) (fun _ => pas (takes_of rfl rfl rfl rfl)) (da_cons (de_var 4) da_nil)) (de_var 3)) (dw_or1 (dt_cmp (ok_ne (fun _ => hr.r.units)) (de_prop A.kc_Library G_Library_lines (fun _ => hr.mono (by omega)) (de_call G__law_told (fun _ => hr.mono (by omega)) (fun _ => pas (takes_of rfl rfl rfl rfl)) (da_cons (de_var 4) da_nil))) (de_callTy ok_tuple A.n_tuple FP.boot_tuple (da_cons (de_var 2) da_nil)))))))
    (dss_one (ds_ret de_bl))
    dss_nil)
    (dss_cons (ds_set (i := 5) (de_call G__law_roll (fun _ => hr.mono (by omega)) (fun _ => pas (takes_of rfl rfl rfl rfl)) (da_cons (de_var 0) (da_cons (de_callB ok_len A.n_len FP.boot_len (da_cons (de_var 4) da_nil)) da_nil))) (fun _ => sc__law_right.nd))
    (dss_cons (ds_if (dt_cmp (ok_ne (fun _ => hr.r.units)) (de_call G__law_told (fun _ => hr.mono (by omega)) (fun _ => pas (takes_of rfl rfl rfl rfl)) (da_cons (de_op ok_add (de_op ok_add (de_slice (de_var 4) do_none (do_some (de_var 5))) (de_lst (da_cons (de_call G__law_spoilt (fun _ => hr.mono (by omega)) (fun _ => pas (takes_of rfl rfl rfl rfl)) (da_cons (de_var 0) (da_cons (de_ix (de_var 4) (de_var 5)) da_nil))) da_nil))) (de_slice (de_var 4) (do_some (de_op ok_add (de_var 5) de_int)) do_none)) da_nil)) (de_op ok_add de_str (de_callTy ok_str A.n_str FP.boot_str (da_cons (de_var 5) da_nil))))
    (dss_one (ds_ret de_bl))
    dss_nil)
    (dss_cons (ds_set (i := 6) (de_ix (de_split (de_ix (de_var 4) (de_var 5)) de_str) de_int) (fun _ => sc__law_right.nd))
    (dss_cons (ds_set (i := 7) (de_op ok_add (de_op ok_add (de_slice (de_var 4) do_none (do_some (de_op ok_add (de_var 5) de_int))) (de_lst (da_cons (de_op ok_add (de_op ok_add (de_var 6) de_str) (de_call G__law_pick (fun _ => hr.mono (by omega)) (fun _ => pas (takes_of rfl rfl rfl rfl)) (da_cons (de_var 0) (da_cons (de_lst (da_cons de_str (da_cons de_str da_nil))) da_nil)))) da_nil))) (de_slice (de_var 4) (do_some (de_op ok_add (de_var 5) de_int)) do_none)) (fun _ => sc__law_right.nd))
    (dss_cons (ds_if (dt_cmp (ok_ne (fun _ => hr.r.units)) (de_call G__law_told (fun _ => hr.mono (by omega)) (fun _ => pas (takes_of rfl rfl rfl rfl)) (da_cons (de_slice (de_var 7) do_none (do_some de_int)) da_nil)) (de_op ok_add de_str (de_callTy ok_str A.n_str FP.boot_str (da_cons (de_op ok_add (de_var 5) de_int) da_nil))))
    (dss_one (ds_ret de_bl))
    dss_nil)
    (dss_cons (ds_setLc (i := 8) (own := [("_law_row", 9)]) (fun _ => sc__law_right.nd) (di_list (de_slice (de_var 4) do_none (do_some (de_var 5)))) (fun _ => blkOk_by (by kernel_rfl)) (dg_name (i := 9) (fun _ => sc__law_right.nd)) dts_nil (de_ix (de_split (de_var 9) de_str) de_int) (fun _ => sw_true rfl rfl rfl (by decide +kernel)))
    (dss_one (ds_ret (de_cmp (OpOk.or (ok_eqM A.kc_Library G_Library___eq__ A.eq_Library (fun _ => hr.mono (by omega))) (ok_eq (fun _ => hr.r.units))) (de_call G__law_told (fun _ => hr.mono (by omega)) (fun _ => pas (takes_of rfl rfl rfl rfl)) (da_cons (de_slice (de_var 4) do_none (do_some (de_var 5))) da_nil)) (de_call G__law_made (fun _ => hr.mono (by omega)) (fun _ => pas (takes_of rfl rfl rfl rfl)) (da_cons (de_dictP (de_lc (own := [("_law_one", 10)]) (fun _ => sc__law_right.nd) (di_list (de_var 8)) (fun _ => blkOk_by (by kernel_rfl)) (dg_name (i := 10) (fun _ => sc__law_right.nd)) dts_nil (de_tup (da_cons (de_var 10) (da_cons (de_dget (k := 0) (fun _ => hr.mono (by omega)) (de_var 1) (de_var 10)) da_nil)))) A.n_dict FP.boot_dict) da_nil))))))))))))))),  fun ds Q Ex hl hf => ?_⟩
  match ds, hl, hf with
  | [.tok], _, hq =>
    have e0 : startD 11 [.tok] = [Sl.d (.tok), Sl.no, Sl.no, Sl.no, Sl.no, Sl.no, Sl.no, Sl.no, Sl.no, Sl.no, Sl.no] := rfl
    have hnN : (["_law_dice_here", "_law_library_here", "_law_lines_here", "_law_made_here", "_law_turned", "_law_at", "_law_name", "_law_again", "_law_ahead", "_law_row", "_law_one"] : List Str).length = 11 := rfl
    rw [hnN, e0]
    clear e0 hnN
    refine seq_p (fun d => ∃ L, d = libP L ∧ LibG L ∧ 1 ≤ L.length ∧ L.length ≤ 5) (fun Q E q => ⟨rfl, fun L hL h1 h5 => q _ ⟨L, rfl, hL, h1, h5⟩⟩) ?_
    rintro _ ⟨L, rfl, hL, hL1, hL5⟩
    refine seq_par (.lst ((linesL L).map .str)) (libD L) (a1 (ev_call (a1 (fun Q E q => q) a0) rfl fun Q E q => ⟨L, rfl, hL, by omega, q⟩) (a1 (evMade hL (by omega) (fun Q E q => q)) a0)) ?_
    have hll : ((linesL L).map D.str).length = L.length := by
      rw [List.length_map]
      unfold linesL
      rw [List.length_map, len_sort]
    refine seq_p (fun d => ∃ ps : Lib, ps.Perm (sortL L) ∧ d = .lst (linesD ps)) (fun Q E q => ⟨rfl, by omega, ⟨by omega, by omega⟩, fun ys zs hp hn => ?_⟩) ?_
    · have hzs : zs = [] := by
        have := hp.length_eq
        rw [List.length_append] at this
        exact List.eq_nil_of_length_eq_zero (by omega)
      subst hzs
      rw [List.append_nil, lines_D] at hp
      obtain ⟨ps, pp, rfl⟩ := perm_map (fun p : Str × Kd => D.str (lineS p)) hp rfl
      exact q _ ⟨ps, pp, rfl⟩
    rintro _ ⟨ps, pp, rfl⟩
    have hP := hL.sort.perm pp
    have hn : ps.length = L.length := by rw [pp.length_eq, len_sort]
    have hs : sameL ps L := (same_perm hL.sort pp).trans (same_sort L)
    have hlines := same_lines hs hP.nd hL.nd
    have ht := told_lines hP
    have hpl : (linesD ps).length = ps.length := List.length_map _
    have evLn : ∀ ρ : FP.Env, ρ[2]? = some (.d (.lst ((linesL L).map .str))) → Ev (dCB rdTuple (dCons (dVar 2) dNil)) ρ (.tup ((linesL L).map .str)) := fun ρ hr => ev_cb (a1 (d := .lst ((linesL L).map .str)) (fun Q E q => by
      show (match ρ[2]? with | some (Sl.d x) => Q x | _ => False)
      rw [hr]
      exact q) a0) fun Q q => q
    refine seq_ifF (or_f (b_v (ev_op (x := .tup ((linesL L).map .str)) (y := .tup ((linesL L).map .str)) (ev_prop (fs := libF L) (fun Q E q => q) fun Q q => ⟨L, rfl, q⟩) (evLn _ rfl) fun Q q => neStrs_same (lines_chars hL) q)) (or_f (b_v (ev_op (x := libD ps) (y := libD L) (evTold (fun Q E q => q) (by omega) (linesD_ok hP) ht) (fun Q E q => q) fun Q q => .inl (neLL hP hL (by omega) (by omega) (by rw [decide_eq_true hlines]; exact q)))) (b_v (ev_op (x := .tup ((linesL L).map .str)) (y := .tup ((linesL L).map .str)) (ev_prop (fs := libF ps) (evTold (fun Q E q => q) (by omega) (linesD_ok hP) ht) fun Q q => ⟨ps, rfl, by rw [hlines]; exact q⟩) (evLn _ rfl) fun Q q => neStrs_same (lines_chars hL) q)))) ?_
    refine seq_p (fun d => ∃ i : Nat, d = .int i ∧ i < ps.length) (fun Q E q => ⟨rfl, ⟨?_, ?_⟩, fun r h0 h1 => q _ ⟨r.toNat, by rw [Int.toNat_of_nonneg h0], ?_⟩⟩) ?_
    · show (0 : Int) < ((linesD ps).length : Nat)
      omega
    · show (((linesD ps).length : Nat) : Int) < 1073741824
      omega
    · have h2 : r < (((linesD ps).length : Nat) : Int) := h1
      omega
    rintro _ ⟨i, rfl, hi⟩
    obtain ⟨p, hp⟩ : ∃ p, ps[i]? = some p := ⟨_, List.getElem?_eq_getElem hi⟩
    have hpm : p ∈ ps := List.mem_of_getElem? hp
    have hw := hP.w p hpm
    have hg := hP.g p hpm
    have hx : (linesD ps)[i]? = some (.str (lineS p)) := by
      rw [List.getElem?_map, hp]
      rfl
    have hcast : (i : Int) + 1 = ((i + 1 : Nat) : Int) := rfl
    have ev1 : ∀ ρ : FP.Env, ρ[5]? = some (.d (.int i)) → Ev (dOp rdAdd (dVar 5) (dC (.int 1))) ρ (.int ((i + 1 : Nat) : Int)) := fun ρ hr => ev_op (x := .int i) (y := .int 1) (fun Q E q => by
      show (match ρ[5]? with | some (Sl.d x) => Q x | _ => False)
      rw [hr]
      exact q) (fun Q E q => q) fun Q q => q
    have tl : ∀ n, n ≤ ps.length → (linesD (ps.take n)).length = n := fun n h => by
      rw [List.length_map, List.length_take]
      omega
    have dl : ∀ n, (linesD (ps.drop n)).length = ps.length - n := fun n => by rw [List.length_map, List.length_drop]
    have okm : ∀ (n m : Nat) (s : D), lineOkD s → ∀ z ∈ linesD (ps.take n) ++ s :: linesD (ps.drop m), lineOkD z := fun n m s h z hz => by
      rcases List.mem_append.mp hz with q | q
      · exact linesD_ok (hP.take n) z q
      · rcases List.mem_cons.mp q with e | q
        · rw [e]
          exact h
        · exact linesD_ok (hP.drop m) z q
    have neS : ∀ (z : Str) (Q : D → Prop), Q (.bl false) → rdNe (.str z) (.str z) Q := fun z Q q => by
      show Q (.bl (!decide (z = z)))
      rw [decide_eq_true rfl]
      exact q
    have midP : ∀ (n m : Nat) (fa fb fc : DTE) (ρ : FP.Env) (P : D → Prop), n ≤ ps.length → EvP fa ρ (fun d => d = .lst (linesD (ps.take n))) → EvP fb ρ P → EvP fc ρ (fun d => d = .lst (linesD (ps.drop m))) → EvP (dOp rdAdd (dOp rdAdd fa (dLst (dCons fb dNil))) fc) ρ (fun d => ∃ s, d = .lst (linesD (ps.take n) ++ s :: linesD (ps.drop m)) ∧ P s) := fun n m fa fb fc ρ P hn2 ha hb hc => by
      refine opP (P1 := fun d => ∃ s, d = .lst (linesD (ps.take n) ++ [s]) ∧ P s) (P2 := fun d => d = .lst (linesD (ps.drop m))) (opP (P1 := fun d => d = .lst (linesD (ps.take n))) (P2 := fun d => ∃ x, d = .lst [x] ∧ P x) ha (lstP1 hb) ?_) hc ?_
      · rintro _ _ rfl ⟨x, rfl, hx2⟩ Q q
        refine ⟨?_, q _ ⟨x, rfl, hx2⟩⟩
        rw [tl n hn2]
        exact size_small (by show n + 1 ≤ 1000; omega)
      · rintro _ _ ⟨s, rfl, hs2⟩ rfl Q q
        refine ⟨?_, ?_⟩
        · rw [List.length_append, tl n hn2, dl]
          exact size_small (by show n + 1 + (ps.length - m) ≤ 1000; omega)
        · have e : linesD (ps.take n) ++ [s] ++ linesD (ps.drop m) = linesD (ps.take n) ++ s :: linesD (ps.drop m) := by rw [List.append_assoc]; rfl
          rw [e]
          exact q _ ⟨s, rfl, hs2⟩
    have toP : ∀ (n : Nat) (fb : DTE) (ρ : FP.Env), ρ[4]? = some (.d (.lst (linesD ps))) → n ≤ ps.length → Ev fb ρ (.int n) → Ev (dSl (dVar 4) dONone (dOSome fb)) ρ (.lst (linesD (ps.take n))) := fun n fb ρ hr h hb => by
      have e := sl_to (fa := dVar 4) (xs := linesD ps) (n := n) (fun Q E q => by
        show (match ρ[4]? with | some (Sl.d x) => Q x | _ => False)
        rw [hr]
        exact q) hb (by omega)
      rw [take_D] at e
      exact e
    have fromP : ∀ (n : Nat) (fb : DTE) (ρ : FP.Env), ρ[4]? = some (.d (.lst (linesD ps))) → n ≤ ps.length → Ev fb ρ (.int n) → Ev (dSl (dVar 4) (dOSome fb) dONone) ρ (.lst (linesD (ps.drop n))) := fun n fb ρ hr h hb => by
      have e := sl_from (fa := dVar 4) (xs := linesD ps) (n := n) (fun Q E q => by
        show (match ρ[4]? with | some (Sl.d x) => Q x | _ => False)
        rw [hr]
        exact q) hb rfl (by omega)
      rw [drop_D] at e
      exact e
    refine seq_ifF (b_v (ev_op (x := .str (parS i)) (y := .str (parS i)) (evToldP fun Q E q => midP i (i + 1) _ _ _ _ (fun s => lineOkD s ∧ lineVD s = none) (by omega) (toP i _ _ rfl (by omega) (fun Q E q => q)).p (fun Q E q => ⟨.str (lineS p), at_of rfl hx, rfl, p, rfl, hw, hg, fun d h1 h2 => q d ⟨h1, h2⟩⟩) (fromP (i + 1) _ _ rfl (by omega) (ev1 _ rfl)).p _ _ ?_) (evPar (by omega) (fun Q E q => q)) fun Q q => neS _ _ q)) ?_
    · rintro _ ⟨s, rfl, h1, h2⟩
      refine q _ ⟨_, rfl, ?_, okm _ _ _ h1, ?_⟩
      · rw [List.length_append, tl i (by omega), List.length_cons, dl]
        omega
      · rw [told_wrong (hP.take i) (.inl h2), List.length_take, Nat.min_eq_left (by omega)]
    refine seq_v (.str p.1) (ev_op (x := .lst ([p.1, text p.2].map .str)) (y := .int 0) (by
      have e := ev_split (ρ := [Sl.d .tok, Sl.d (libP L), Sl.d (.lst ((linesL L).map .str)), Sl.d (libD L), Sl.d (.lst (linesD ps)), Sl.d (.int i), Sl.no, Sl.no, Sl.no, Sl.no, Sl.no]) (fa := dOp rdIx (dVar 4) (dVar 5)) (fb := dC (.str " : ")) (a := lineS p) (b := " : ") (ev_ixL (fun Q E q => q) (fun Q E q => q) hx) (fun Q E q => q) (by decide +kernel) (by
        have := (line_ok hw hg).l
        exact Nat.le_trans (show (lineS p).length + 2 ≤ 4002 by omega) (by decide))
      rw [line_split hw hg] at e
      exact e) (fun Q E q => q) fun Q q => ⟨_, rfl, q⟩) ?_
    have hlw := word_len hw
    have e3 : (" : " : Str).length = 3 := by decide +kernel
    refine seq_p (fun d => ∃ s, d = .lst (linesD (ps.take (i + 1)) ++ s :: linesD (ps.drop (i + 1))) ∧ ∃ k : Kd, Good k ∧ s = .str (lineS (p.1, k))) (fun Q E q => midP (i + 1) (i + 1) _ _ _ _ (fun s => ∃ k : Kd, Good k ∧ s = .str (lineS (p.1, k))) (by omega) (toP (i + 1) _ _ rfl (by omega) (ev1 _ rfl)).p (fun Q E q => ⟨?_, line rfl, rfl, pkN rfl, fun d hd => ?_⟩) (fromP (i + 1) _ _ rfl (by omega) (ev1 _ rfl)).p _ _ q) ?_
    rotate_left
    · rw [e3]
      exact size_small (by omega)
    · simp only [List.mem_cons, List.not_mem_nil, or_false] at hd
      rcases hd with rfl | rfl
      · refine ⟨?_, q _ ⟨.mk [] "a", Good.leaf (by decide +kernel), ?_⟩⟩
        · rw [len_app, e3, show ("a" : Str).length = 1 by decide +kernel]
          exact size_small (by omega)
        · unfold lineS
          rw [show text (Kd.mk [] "a") = "a" by kernel_rfl]
      · refine ⟨?_, q _ ⟨.mk [.mk [] "b"] "a", goodBA, ?_⟩⟩
        · rw [len_app, e3, show ("b -> a" : Str).length = 6 by decide +kernel]
          exact size_small (by omega)
        · unfold lineS
          rw [show text (Kd.mk [.mk [] "b"] "a") = "b -> a" by kernel_rfl]
    rintro _ ⟨_, rfl, k, hk, rfl⟩
    have hal : (linesD (ps.take (i + 1)) ++ D.str (lineS (p.1, k)) :: linesD (ps.drop (i + 1))).length ≤ 6 := by
      rw [List.length_append, tl (i + 1) (by omega), List.length_cons, dl]
      omega
    have lv : lineVD (.str (lineS (p.1, k))) = some (p.1, k) := lineV_line (p := (p.1, k)) hw hk
    have hin : p.1 ∈ keysL (ps.take (i + 1)) := by
      refine List.mem_map.mpr ⟨p, ?_, rfl⟩
      have e : (ps.take (i + 1))[i]? = some p := by rw [List.getElem?_take_of_lt (by omega), hp]
      exact List.mem_of_getElem? e
    refine seq_ifF (b_v (ev_op (x := .str (parS (i + 1))) (y := .str (parS (i + 1))) (evTold (xs := linesD (ps.take (i + 1)) ++ D.str (lineS (p.1, k)) :: linesD (ps.drop (i + 1))) (fun Q E q => by
      show Q (.lst (cutD _ none (some 6)))
      rw [cut_all (by decide) (by omega)]
      exact q) hal (okm _ _ _ (line_ok (p := (p.1, k)) hw hk)) (by
      rw [told_wrong (hP.take (i + 1)) (z := .str (lineS (p.1, k))) (.inr ⟨(p.1, k), lv, hin⟩), List.length_take, Nat.min_eq_left (by omega)])) (evPar (by omega) (ev1 _ rfl)) fun Q q => neS _ _ q)) ?_
    refine seq_v (.lst ((ps.take i).map fun p => D.str p.1)) (ev_lc (fun p : Str × Kd => D.str (lineS p)) (fun p => D.str p.1) (xs := ps.take i) (fun Q E q => toP i (dVar 5) _ rfl (by omega) (fun Q E q => q) _ _ q) (size_small (by rw [List.length_take]; omega)) fun x hx2 => ⟨_, rfl, ?_⟩) ?_
    · have hxw := (hP.take i).w x hx2
      have hxg := (hP.take i).g x hx2
      refine ev_op (x := .lst ([x.1, text x.2].map .str)) (y := .int 0) ?_ (fun Q E q => q) fun Q q => ⟨_, rfl, q⟩
      have e := ev_split (ρ := [Sl.d .tok, Sl.d (libP L), Sl.d (.lst ((linesL L).map .str)), Sl.d (libD L), Sl.d (.lst (linesD ps)), Sl.d (.int i), Sl.d (.str p.1), Sl.d (.lst (linesD (ps.take (i + 1)) ++ D.str (lineS (p.1, k)) :: linesD (ps.drop (i + 1)))), Sl.no, Sl.d (.str (lineS x)), Sl.no]) (fa := dVar 9) (fb := dC (.str " : ")) (a := lineS x) (b := " : ") (fun Q E q => q) (fun Q E q => q) (by decide +kernel) (by
        have := (line_ok hxw hxg).l
        exact Nat.le_trans (show (lineS x).length + 2 ≤ 4002 by omega) (by decide))
      rw [line_split hxw hxg] at e
      exact e
    have hT := hP.take i
    have hTk : ∀ z ∈ keysL (ps.take i), z ∈ keysL L := fun z hz => by
      obtain ⟨x, hx2, rfl⟩ := List.mem_map.mp hz
      exact (hs.keys _).mp (List.mem_map.mpr ⟨x, List.mem_of_mem_take hx2, rfl⟩)
    have hpg := pick_g hL hT.nd hTk
    have hpkl : (pickL L (keysL (ps.take i))).length ≤ 5 := by
      have e : (pickL L (keysL (ps.take i))).length = (ps.take i).length := by
        unfold pickL keysL
        rw [List.length_map, List.length_map]
      rw [e, List.length_take]
      omega
    have hsame : sameL (ps.take i) (pickL L (keysL (ps.take i))) := fun z => by
      rw [get_pick hTk]
      by_cases hz : z ∈ keysL (ps.take i)
      · obtain ⟨j, hj, hm⟩ := getL_in hz
        rw [if_pos hz, hj, ← hs z]
        exact (getL_of hP.nd (List.mem_of_mem_take hm)).symm
      · rw [if_neg hz, getL_out.mpr hz]
    refine ret_v (.bl true) (ev_op (x := libD (ps.take i)) (y := libD (pickL L (keysL (ps.take i)))) (evTold (toP i _ _ rfl (by omega) (fun Q E q => q)) (by rw [tl i (by omega)]; omega) (linesD_ok hT) (told_lines hT)) (evMade hpg (by omega) ?_) fun Q q => .inl (eqLL hT hpg (by rw [List.length_take]; omega) (by omega) (by rw [decide_eq_true (same_lines hsame hT.nd hpg.nd)]; exact q))) hq
    have ek : (ps.take i).map (fun p => D.str p.1) = (keysL (ps.take i)).map D.str := by
      unfold keysL
      rw [List.map_map]
      rfl
    have e := ev_lc (ρ := [Sl.d .tok, Sl.d (libP L), Sl.d (.lst ((linesL L).map .str)), Sl.d (libD L), Sl.d (.lst (linesD ps)), Sl.d (.int i), Sl.d (.str p.1), Sl.d (.lst (linesD (ps.take (i + 1)) ++ D.str (lineS (p.1, k)) :: linesD (ps.drop (i + 1)))), Sl.d (.lst ((ps.take i).map fun p => D.str p.1)), Sl.no, Sl.no]) (w := dIList (dVar 8)) (T := .one 10) (vs := [10]) (f := dTup (dCons (dVar 10) (dCons (dOp rdDGet (dVar 1) (dVar 10)) dNil))) (fun z : Str => D.str z) (fun z => .tup [.str z, plain (kindAt L z)]) (xs := keysL (ps.take i)) (fun Q E q => by
      rw [← ek] at q
      exact q) (size_small (by unfold keysL; rw [List.length_map, List.length_take]; omega)) fun z hz => ⟨_, rfl, ?_⟩
    · exact (ev_dictP e (pairs_pick L _)).eq (by rw [merge_self hpg.nd]; rfl)
    · obtain ⟨j, hj, _⟩ := getL_in (hTk z hz)
      rw [kindAt_of hj]
      exact ev_tup (a1 (fun Q E q => q) (a1 (evGet (h := plain) (L := L) (fun Q E q => q) (fun Q E q => q) hj) a0)) (line rfl)
end K11
namespace K11
open PySem L2 FP
variable [FP.Tabl]
open KP
theorem ok__law_nine {P : Program} {w : World} {mg : Gm} {base : Heap} {Z : Ads} (A : All mg Z) (G_Library_read : CMethS P w mg base 16 Z.a_Library "read" f_readLib) : DefOk P w mg base 17 "_law_nine" 1 f_nine := by
  refine mkDef (N := ["_law_lines_here"]) (ps := ["_law_lines_here"]) A.d__law_nine sc__law_nine (fun _ _ _ _ _ _ us hl => match us, hl with | [_], _ => rfl) fun fa cdv Ar outer s H E hr => ⟨_,
    (dss_one (ds_try (fun _ => ⟨rfl, rfl, .inl A.ex_InvalidLibrary.nm⟩) A.cam_InvalidLibrary (fun _ => takes_of rfl rfl rfl rfl) (fun W => (dss_one (ds_ret (de_cmethS A.kc_Library G_Library_read (fun _ => hr.mono (by omega)) (fun j => pas j.2.1) (da_cons (de_ix (de_var 0) de_int) (da_cons (de_ix (de_var 0) de_int) (da_cons (de_ix (de_var 0) de_int) (da_cons (de_ix (de_var 0) de_int) (da_cons (de_ix (de_var 0) de_int) (da_cons (de_ix (de_var 0) de_int) (da_cons (de_ix (de_var 0) de_int) (da_cons (de_ix (de_var 0) de_int) (da_cons (de_ix (de_var 0) de_int) da_nil))))))))))))) (dss_one (ds_ret de_str)))),  fun ds Q Ex hl hf => ?_⟩
  match ds, hl, hf with
  | [.lst _], _, ⟨rfl, hq⟩ =>
    have e0 : startD 1 [.lst nineD] = [Sl.d (.lst nineD)] := rfl
    have hnN : (["_law_lines_here"] : List Str).length = 1 := rfl
    rw [hnN, e0]
    clear e0 hnN
    refine ret_cm (ds := nineD) (a1 (fun Q E q => ⟨_, rfl, q⟩) (a1 (fun Q E q => ⟨_, rfl, q⟩) (a1 (fun Q E q => ⟨_, rfl, q⟩) (a1 (fun Q E q => ⟨_, rfl, q⟩) (a1 (fun Q E q => ⟨_, rfl, q⟩) (a1 (fun Q E q => ⟨_, rfl, q⟩) (a1 (fun Q E q => ⟨_, rfl, q⟩) (a1 (fun Q E q => ⟨_, rfl, q⟩) (a1 (fun Q E q => ⟨_, rfl, q⟩) a0))))))))) (line rfl) ⟨rfl, by decide, nine_ok9, (fun i h => by rw [nine_read9] at h; cases h), fun L h => ⟨fun l => ?_, fun _ => ⟨by decide +kernel, ?_⟩⟩⟩
    · rw [nine_read9] at h
      cases h
      exact absurd l (by decide)
    · have hy : decide (("InvalidLibrary" : Str) ∈ (["InvalidLibrary"] : List Str)) = true := by decide +kernel
      show bit (decide (("InvalidLibrary" : Str) ∈ (["InvalidLibrary"] : List Str))) _ _
      rw [hy]
      exact hq
theorem ok_law {P : Program} {w : World} {mg : Gm} {base : Heap} {Z : Ads} (A : All mg Z) (G_Library___eq__ : SpecOk P w mg base 1 Z.a_Library "__eq__" 2 f_eqL) (G_Library___init__ : InitDf P w mg base 4 "Library" Z.a_Library 1 f_initL) (G_Library___len__ : SpecOk P w mg base 1 Z.a_Library "__len__" 1 f_lenL) (G_Library_read : CMethS P w mg base 16 Z.a_Library "read" f_readLib) (G__law_dice : DefOk P w mg base 1 "_law_dice" 2 f_dice) (G__law_nine : DefOk P w mg base 17 "_law_nine" 1 f_nine) (G__law_right : DefOk P w mg base 18 "_law_right" 1 f_tokT) (G__law_told : DefOk P w mg base 17 "_law_told" 1 f_told11) : DefOk P w mg base 19 "law" 1 f_law := by
  refine mkDef (N := ["_law_script", "_law_spot", "_law_nine_here", "_law_told_here", "_law_dice_here", "_law_turn"]) (ps := ["_law_script"]) A.d_law sc_law (fun _ _ _ _ _ _ us hl => match us, hl with | [_], _ => rfl) fun fa cdv Ar outer s H E hr => ⟨_,
    (dss_cons (ds_for (di_range1 A.n_range (da_cons (de_callB ok_max A.n_max FP.boot_max (da_cons de_int (da_cons (de_callB ok_min A.n_min FP.boot_min (da_cons de_int (da_cons (de_callB ok_len A.n_len FP.boot_len (da_cons (de_var 0) da_nil)) da_nil))) da_nil))) da_nil)) (dg_name (i := 1) (fun _ => sc_law.nd))
    (dss_cons (ds_set (i := 4) (de_call G__law_dice (fun _ => hr.mono (by omega)) (fun _ => pas (takes_of rfl rfl rfl rfl)) (da_cons (de_var 0) (da_cons (de_var 1) da_nil))) (fun _ => sc_law.nd))
    (dss_one (ds_for (di_range1 A.n_range (da_cons de_int da_nil)) (dg_name (i := 5) (fun _ => sc_law.nd))
    (dss_one (ds_if (dt_not (dt_val (de_call G__law_right (fun _ => hr.mono (by omega)) (fun _ => pas (takes_of rfl rfl rfl rfl)) (da_cons (de_var 4) da_nil))))
    (dss_one (ds_ret de_bl))
    dss_nil)) (fun _ => passes_of rfl)))) (fun _ => passes_of rfl))
    (dss_cons (ds_set (i := 2) (de_lst (da_cons de_str (da_cons de_str (da_cons de_str (da_cons de_str (da_cons de_str (da_cons de_str (da_cons de_str (da_cons de_str (da_cons de_str da_nil)))))))))) (fun _ => sc_law.nd))
    (dss_cons (ds_set (i := 3) (de_cmethS A.kc_Library G_Library_read (fun _ => hr.mono (by omega)) (fun _ => pas (takes_of rfl rfl rfl rfl)) (da_cons (de_ix (de_var 2) de_int) (da_cons (de_ix (de_var 2) de_int) (da_cons (de_ix (de_var 2) de_int) (da_cons (de_ix (de_var 2) de_int) (da_cons (de_ix (de_var 2) de_int) (da_cons (de_ix (de_var 2) de_int) (da_cons (de_ix (de_var 2) de_int) (da_cons (de_ix (de_var 2) de_int) da_nil))))))))) (fun _ => sc_law.nd))
    (dss_one (ds_ret (de_and (de_cmp (ok_eq (fun _ => hr.r.units)) (de_callB (ok_lenM A.kc_Library G_Library___len__ (fun _ => hr.mono (by omega))) A.n_len FP.boot_len (da_cons (de_var 3) da_nil)) de_int) (de_and (de_cmp (OpOk.or (ok_eqM A.kc_Library G_Library___eq__ A.eq_Library (fun _ => hr.mono (by omega))) (ok_eq (fun _ => hr.r.units))) (de_call G__law_told (fun _ => hr.mono (by omega)) (fun _ => pas (takes_of rfl rfl rfl rfl)) (da_cons (de_lst da_nil) da_nil)) (de_make0D A.kc_Library G_Library___init__ (fun _ => hr.mono (by omega)) (fun _ => pas (takes_of rfl rfl rfl rfl)))) (de_one (de_cmp (ok_eq (fun _ => hr.r.units)) (de_call G__law_nine (fun _ => hr.mono (by omega)) (fun _ => pas (takes_of rfl rfl rfl rfl)) (da_cons (de_var 2) da_nil)) de_str))))))))),  fun ds Q Ex hl hf => ?_⟩
  match ds, hl, hf with
  | [.fz xs], _, ⟨⟨ns, hx, hn⟩, hq⟩ =>
    subst hx
    have e0 : startD 6 [.fz (ns.map D.int)] = [Sl.d (.fz (ns.map D.int)), Sl.no, Sl.no, Sl.no, Sl.no, Sl.no] := rfl
    have hnN : (["_law_script", "_law_spot", "_law_nine_here", "_law_told_here", "_law_dice_here", "_law_turn"] : List Str).length = 6 := rfl
    rw [hnN, e0]
    clear e0 hnN
    have hm := spots6 (ns.map D.int).length
    refine seq_by (fun ρ => ∃ a b c, ρ = [Sl.d (.fz (ns.map D.int)), a, Sl.no, Sl.no, b, c]) (fun nx hnx => ?_) ?_
    · refine ⟨by omega, by omega, ?_⟩
      refine forD_inv (fun ρ => ∃ a b c, ρ = [Sl.d (.fz (ns.map D.int)), a, Sl.no, Sl.no, b, c]) _ _ ⟨_, _, _, rfl⟩ ?_ hnx
      rintro x hx ρ K ⟨a, b, c, rfl⟩ hK
      obtain ⟨j, rfl, hj⟩ := mem_range hx
      refine ⟨_, rfl, ?_⟩
      refine seq_v .tok (fun Q E q => ⟨rfl, ⟨ns, rfl⟩, ⟨by omega, by omega⟩, q⟩) ?_
      refine ⟨by decide, by decide, ?_⟩
      refine forD_inv (fun ρ => ∃ a e, ρ = [Sl.d (.fz (ns.map D.int)), a, Sl.no, Sl.no, Sl.d .tok, e]) _ _ ⟨_, _, rfl⟩ ?_ ?_
      · rintro y hy ρ' K' ⟨a, e, rfl⟩ hK'
        refine ⟨_, rfl, ?_⟩
        refine end_if false (not_v (b := true) (b_v (ev_call (a1 (fun Q E q => q) a0) rfl fun Q E q => q))) ?_
        exact hK' _ ⟨_, _, rfl⟩
      · rintro ρ' ⟨a, e, rfl⟩
        exact hK _ ⟨_, _, _, rfl⟩
    rintro ρ ⟨a, b, c, rfl⟩
    refine seq_v (.lst nineD) (ev_lst (a1 (fun Q E q => q) (a1 (fun Q E q => q) (a1 (fun Q E q => q) (a1 (fun Q E q => q) (a1 (fun Q E q => q) (a1 (fun Q E q => q) (a1 (fun Q E q => q) (a1 (fun Q E q => q) (a1 (fun Q E q => q) a0))))))))) (line rfl)) ?_
    refine seq_v (libD (nineP 8)) (fun Q E q => cm_ev (ds := nineD.take 8) (a1 (fun Q E q => ⟨_, rfl, q⟩) (a1 (fun Q E q => ⟨_, rfl, q⟩) (a1 (fun Q E q => ⟨_, rfl, q⟩) (a1 (fun Q E q => ⟨_, rfl, q⟩) (a1 (fun Q E q => ⟨_, rfl, q⟩) (a1 (fun Q E q => ⟨_, rfl, q⟩) (a1 (fun Q E q => ⟨_, rfl, q⟩) (a1 (fun Q E q => ⟨_, rfl, q⟩) a0)))))))) (line rfl) ⟨rfl, by decide, nine_ok8, (fun i h => by rw [nine_read8] at h; cases h), fun L h => ?_⟩) ?_
    · rw [nine_read8] at h
      cases h
      exact ⟨fun _ => q, fun l => absurd l (by decide)⟩
    refine ret_v (.bl (true && (true && true))) (ev_andV (ev_op (x := .int 8) (y := .int 8) (ev_cb (a1 (d := libD (nineP 8)) (fun Q E q => q) a0) fun Q q => ⟨rfl, nineP 8, rfl, nine_g 8, by decide, ⟨by decide, by decide⟩, q⟩) (fun Q E q => q) fun Q q => q) fun _ => ev_andV (ev_op (x := libD []) (y := libD []) (evTold (xs := []) (ev_lst a0 (line rfl)) (by decide) (fun z hz => absurd hz List.not_mem_nil) (told_inr rfl)) (fun Q E q => q) fun Q q => .inl (eqLL LibG.nil LibG.nil (by decide) (by decide) (by rw [decide_eq_true rfl]; exact q))) fun _ => ev_op (x := .str "library") (y := .str "library") (ev_call (a1 (fun Q E q => q) a0) rfl fun Q E q => ⟨rfl, q⟩) (fun Q E q => q) fun Q q => ?_) hq
    show Q (.bl (decide (("library" : Str) = "library")))
    rw [decide_eq_true rfl]
    exact q
end K11
namespace K11
open PySem L2 FP
variable [FP.Tabl]
theorem all_mk {K : PySem.W.Frag} {h : Heap} {mg : Str → Option Value} (X : K.In h) (G : h.Ns mainGlobals mg)
    {t_ARROW : Tok}
    {t_COLON : Tok}
    {t_LETTERS : Tok}
    {t_MAX_LETTERS : Tok}
    {t_MAX_ORDER : Tok}
    {t_MAX_PARTS : Tok}
    {t_MAX_PLACES : Tok}
    {C_KindReader : Addr}
    {C_Type : Addr}
    {C_Library : Addr}
    {f_is_word : Addr} {od_is_word an_is_word : Option Addr} {sl_is_word : Array (Option Value)} {oc_is_word kV_is_word dc_is_word pm_is_word cd_is_word ct_is_word : Value}
    {f_ascending_rows : Addr} {od_ascending_rows an_ascending_rows : Option Addr} {sl_ascending_rows : Array (Option Value)} {oc_ascending_rows kV_ascending_rows dc_ascending_rows pm_ascending_rows cd_ascending_rows ct_ascending_rows : Value}
    {f_signs_of : Addr} {od_signs_of an_signs_of : Option Addr} {sl_signs_of : Array (Option Value)} {oc_signs_of kV_signs_of dc_signs_of pm_signs_of cd_signs_of ct_signs_of : Value}
    {f_KindReader___init__ : Addr} {od_KindReader___init__ an_KindReader___init__ : Option Addr} {sl_KindReader___init__ : Array (Option Value)} {oc_KindReader___init__ kV_KindReader___init__ dc_KindReader___init__ pm_KindReader___init__ cd_KindReader___init__ ct_KindReader___init__ : Value}
    {f_KindReader_take : Addr} {od_KindReader_take an_KindReader_take : Option Addr} {sl_KindReader_take : Array (Option Value)} {oc_KindReader_take kV_KindReader_take dc_KindReader_take pm_KindReader_take cd_KindReader_take ct_KindReader_take : Value}
    {f_KindReader_take_end : Addr} {od_KindReader_take_end an_KindReader_take_end : Option Addr} {sl_KindReader_take_end : Array (Option Value)} {oc_KindReader_take_end kV_KindReader_take_end dc_KindReader_take_end pm_KindReader_take_end cd_KindReader_take_end ct_KindReader_take_end : Value}
    {f_KindReader_result : Addr} {od_KindReader_result an_KindReader_result : Option Addr} {sl_KindReader_result : Array (Option Value)} {oc_KindReader_result kV_KindReader_result dc_KindReader_result pm_KindReader_result cd_KindReader_result ct_KindReader_result : Value}
    {f_shape_of : Addr} {od_shape_of an_shape_of : Option Addr} {sl_shape_of : Array (Option Value)} {oc_shape_of kV_shape_of dc_shape_of pm_shape_of cd_shape_of ct_shape_of : Value}
    {f_kind_in : Addr} {od_kind_in an_kind_in : Option Addr} {sl_kind_in : Array (Option Value)} {oc_kind_in kV_kind_in dc_kind_in pm_kind_in cd_kind_in ct_kind_in : Value}
    {f_order_of : Addr} {od_order_of an_order_of : Option Addr} {sl_order_of : Array (Option Value)} {oc_order_of kV_order_of dc_order_of pm_order_of cd_order_of ct_order_of : Value}
    {f_input_text : Addr} {od_input_text an_input_text : Option Addr} {sl_input_text : Array (Option Value)} {oc_input_text kV_input_text dc_input_text pm_input_text cd_input_text ct_input_text : Value}
    {f_Type___init__ : Addr} {od_Type___init__ an_Type___init__ : Option Addr} {sl_Type___init__ : Array (Option Value)} {oc_Type___init__ kV_Type___init__ dc_Type___init__ pm_Type___init__ cd_Type___init__ ct_Type___init__ : Value}
    {f_Type_read : Addr} {od_Type_read an_Type_read : Option Addr} {sl_Type_read : Array (Option Value)} {oc_Type_read kV_Type_read dc_Type_read pm_Type_read cd_Type_read ct_Type_read : Value}
    {p_Type_read : Addr} {rs_Type_read : List Value}
    {f_Type___str__ : Addr} {od_Type___str__ an_Type___str__ : Option Addr} {sl_Type___str__ : Array (Option Value)} {oc_Type___str__ kV_Type___str__ dc_Type___str__ pm_Type___str__ cd_Type___str__ ct_Type___str__ : Value}
    {f_type_of_text : Addr} {od_type_of_text an_type_of_text : Option Addr} {sl_type_of_text : Array (Option Value)} {oc_type_of_text kV_type_of_text dc_type_of_text pm_type_of_text cd_type_of_text ct_type_of_text : Value}
    {f_is_parts : Addr} {od_is_parts an_is_parts : Option Addr} {sl_is_parts : Array (Option Value)} {oc_is_parts kV_is_parts dc_is_parts pm_is_parts cd_is_parts ct_is_parts : Value}
    {f_part_of_line : Addr} {od_part_of_line an_part_of_line : Option Addr} {sl_part_of_line : Array (Option Value)} {oc_part_of_line kV_part_of_line dc_part_of_line pm_part_of_line cd_part_of_line ct_part_of_line : Value}
    {f_Library___init__ : Addr} {od_Library___init__ an_Library___init__ : Option Addr} {sl_Library___init__ : Array (Option Value)} {oc_Library___init__ kV_Library___init__ dc_Library___init__ pm_Library___init__ cd_Library___init__ ct_Library___init__ : Value} {dT_Library___init__ : Addr} {dc1_Library___init__ : Value} {dd_Library___init__ : Option Addr} {dn_Library___init__ : Nat} {ds_Library___init__ : Array (Option Value)}
    {f_Library_read : Addr} {od_Library_read an_Library_read : Option Addr} {sl_Library_read : Array (Option Value)} {oc_Library_read kV_Library_read dc_Library_read pm_Library_read cd_Library_read ct_Library_read : Value}
    {p_Library_read : Addr} {rs_Library_read : List Value}
    {f_Library_lines : Addr} {od_Library_lines an_Library_lines : Option Addr} {sl_Library_lines : Array (Option Value)} {oc_Library_lines kV_Library_lines dc_Library_lines pm_Library_lines cd_Library_lines ct_Library_lines : Value}
    {p_Library_lines : Addr} {rs_Library_lines : List Value}
    {f_Library___len__ : Addr} {od_Library___len__ an_Library___len__ : Option Addr} {sl_Library___len__ : Array (Option Value)} {oc_Library___len__ kV_Library___len__ dc_Library___len__ pm_Library___len__ cd_Library___len__ ct_Library___len__ : Value}
    {f_Library___eq__ : Addr} {od_Library___eq__ an_Library___eq__ : Option Addr} {sl_Library___eq__ : Array (Option Value)} {oc_Library___eq__ kV_Library___eq__ dc_Library___eq__ pm_Library___eq__ cd_Library___eq__ ct_Library___eq__ : Value}
    {f__law_dice : Addr} {od__law_dice an__law_dice : Option Addr} {sl__law_dice : Array (Option Value)} {oc__law_dice kV__law_dice dc__law_dice pm__law_dice cd__law_dice ct__law_dice : Value}
    {f__law_roll : Addr} {od__law_roll an__law_roll : Option Addr} {sl__law_roll : Array (Option Value)} {oc__law_roll kV__law_roll dc__law_roll pm__law_roll cd__law_roll ct__law_roll : Value}
    {f__law_pick : Addr} {od__law_pick an__law_pick : Option Addr} {sl__law_pick : Array (Option Value)} {oc__law_pick kV__law_pick dc__law_pick pm__law_pick cd__law_pick ct__law_pick : Value}
    {f__law_some : Addr} {od__law_some an__law_some : Option Addr} {sl__law_some : Array (Option Value)} {oc__law_some kV__law_some dc__law_some pm__law_some cd__law_some ct__law_some : Value}
    {f__law_text : Addr} {od__law_text an__law_text : Option Addr} {sl__law_text : Array (Option Value)} {oc__law_text kV__law_text dc__law_text pm__law_text cd__law_text ct__law_text : Value}
    {f__law_atoms_of : Addr} {od__law_atoms_of an__law_atoms_of : Option Addr} {sl__law_atoms_of : Array (Option Value)} {oc__law_atoms_of kV__law_atoms_of dc__law_atoms_of pm__law_atoms_of cd__law_atoms_of ct__law_atoms_of : Value}
    {f__law_kind : Addr} {od__law_kind an__law_kind : Option Addr} {sl__law_kind : Array (Option Value)} {oc__law_kind kV__law_kind dc__law_kind pm__law_kind cd__law_kind ct__law_kind : Value}
    {f__law_made_kind : Addr} {od__law_made_kind an__law_made_kind : Option Addr} {sl__law_made_kind : Array (Option Value)} {oc__law_made_kind kV__law_made_kind dc__law_made_kind pm__law_made_kind cd__law_made_kind ct__law_made_kind : Value}
    {f__law_library : Addr} {od__law_library an__law_library : Option Addr} {sl__law_library : Array (Option Value)} {oc__law_library kV__law_library dc__law_library pm__law_library cd__law_library ct__law_library : Value}
    {f__law_known_library : Addr} {od__law_known_library an__law_known_library : Option Addr} {sl__law_known_library : Array (Option Value)} {oc__law_known_library kV__law_known_library dc__law_known_library pm__law_known_library cd__law_known_library ct__law_known_library : Value}
    {f__law_lines : Addr} {od__law_lines an__law_lines : Option Addr} {sl__law_lines : Array (Option Value)} {oc__law_lines kV__law_lines dc__law_lines pm__law_lines cd__law_lines ct__law_lines : Value}
    {f__law_made : Addr} {od__law_made an__law_made : Option Addr} {sl__law_made : Array (Option Value)} {oc__law_made kV__law_made dc__law_made pm__law_made cd__law_made ct__law_made : Value}
    {f__law_told : Addr} {od__law_told an__law_told : Option Addr} {sl__law_told : Array (Option Value)} {oc__law_told kV__law_told dc__law_told pm__law_told cd__law_told ct__law_told : Value}
    {f__law_spoilt : Addr} {od__law_spoilt an__law_spoilt : Option Addr} {sl__law_spoilt : Array (Option Value)} {oc__law_spoilt kV__law_spoilt dc__law_spoilt pm__law_spoilt cd__law_spoilt ct__law_spoilt : Value}
    {f__law_right : Addr} {od__law_right an__law_right : Option Addr} {sl__law_right : Array (Option Value)} {oc__law_right kV__law_right dc__law_right pm__law_right cd__law_right ct__law_right : Value}
    {f__law_nine : Addr} {od__law_nine an__law_nine : Option Addr} {sl__law_nine : Array (Option Value)} {oc__law_nine kV__law_nine dc__law_nine pm__law_nine cd__law_nine ct__law_nine : Value}
    {f_law : Addr} {od_law an_law : Option Addr} {sl_law : Array (Option Value)} {oc_law kV_law dc_law pm_law cd_law ct_law : Value}
    {Cx_BuildError : Addr}
    {Cx_ParseError : Addr}
    {f_ParseError___init__ : Addr} {od_ParseError___init__ an_ParseError___init__ : Option Addr} {sl_ParseError___init__ : Array (Option Value)} {oc_ParseError___init__ kV_ParseError___init__ dc_ParseError___init__ pm_ParseError___init__ cd_ParseError___init__ ct_ParseError___init__ : Value}
    {Cx_InvalidLibrary : Addr}
    {Cx_InvalidWord : Addr}
    {Cx_InvalidType : Addr}
    (z_abs : PySem.W.nsIn K mainGlobals "abs" = some none)
    (z_all : PySem.W.nsIn K mainGlobals "all" = some none)
    (z_dict : PySem.W.nsIn K mainGlobals "dict" = some none)
    (z_enumerate : PySem.W.nsIn K mainGlobals "enumerate" = some none)
    (z_int : PySem.W.nsIn K mainGlobals "int" = some none)
    (z_isinstance : PySem.W.nsIn K mainGlobals "isinstance" = some none)
    (z_len : PySem.W.nsIn K mainGlobals "len" = some none)
    (z_list : PySem.W.nsIn K mainGlobals "list" = some none)
    (z_max : PySem.W.nsIn K mainGlobals "max" = some none)
    (z_min : PySem.W.nsIn K mainGlobals "min" = some none)
    (z_range : PySem.W.nsIn K mainGlobals "range" = some none)
    (z_repr : PySem.W.nsIn K mainGlobals "repr" = some none)
    (z_set : PySem.W.nsIn K mainGlobals "set" = some none)
    (z_sorted : PySem.W.nsIn K mainGlobals "sorted" = some none)
    (z_str : PySem.W.nsIn K mainGlobals "str" = some none)
    (z_tuple : PySem.W.nsIn K mainGlobals "tuple" = some none)
    (y_ARROW : PySem.W.nsIn K mainGlobals "ARROW" = some (some (.str " -> " t_ARROW)))
    (y_COLON : PySem.W.nsIn K mainGlobals "COLON" = some (some (.str " : " t_COLON)))
    (y_LETTERS : PySem.W.nsIn K mainGlobals "LETTERS" = some (some (.str "abcdefghijklmnopqrstuvwxyz" t_LETTERS)))
    (y_MAX_LETTERS : PySem.W.nsIn K mainGlobals "MAX_LETTERS" = some (some (.int 8 t_MAX_LETTERS)))
    (y_MAX_ORDER : PySem.W.nsIn K mainGlobals "MAX_ORDER" = some (some (.int 4 t_MAX_ORDER)))
    (y_MAX_PARTS : PySem.W.nsIn K mainGlobals "MAX_PARTS" = some (some (.int 8 t_MAX_PARTS)))
    (y_MAX_PLACES : PySem.W.nsIn K mainGlobals "MAX_PLACES" = some (some (.int 15 t_MAX_PLACES)))
    (aC_KindReader : PySem.W.nsIn K mainGlobals "KindReader" = some (some (.ref C_KindReader)))
    (pg_KindReader : PySem.W.plainGet K C_KindReader Str.empty = true)
    (hd_KindReader : PySem.W.hasDictIn K C_KindReader = true)
    (po_KindReader : PySem.W.plainOver K C_KindReader = true)
    (sa_KindReader : PySem.W.findIn K (.ref C_KindReader) "__setattr__" = some (some (.builtin "object.__setattr__")))
    (ha_KindReader : PySem.W.findIn K (.ref C_KindReader) "__class__" = some (some (.builtin "object.__class__")))
    (hn_KindReader : PySem.W.specialIn K (.builtin "object.__class__") "__get__" = some (some (.builtin "getset_descriptor.__get__")))
    (ht_KindReader : PySem.W.takesIn K (.builtin "object.__class__") = some true)
    (hm_KindReader : PySem.W.mroIn K C_KindReader (.type "object") = some true)
    (fa_KindReader_of_rows : PySem.W.findIn K (.ref C_KindReader) "of_rows" = some none)
    (fa_KindReader_of_wants : PySem.W.findIn K (.ref C_KindReader) "of_wants" = some none)
    (aC_Type : PySem.W.nsIn K mainGlobals "Type" = some (some (.ref C_Type)))
    (pg_Type : PySem.W.plainGet K C_Type Str.empty = true)
    (hd_Type : PySem.W.hasDictIn K C_Type = true)
    (po_Type : PySem.W.plainOver K C_Type = true)
    (sa_Type : PySem.W.findIn K (.ref C_Type) "__setattr__" = some (some (.builtin "object.__setattr__")))
    (ha_Type : PySem.W.findIn K (.ref C_Type) "__class__" = some (some (.builtin "object.__class__")))
    (hn_Type : PySem.W.specialIn K (.builtin "object.__class__") "__get__" = some (some (.builtin "getset_descriptor.__get__")))
    (ht_Type : PySem.W.takesIn K (.builtin "object.__class__") = some true)
    (hm_Type : PySem.W.mroIn K C_Type (.type "object") = some true)
    (fa_Type_own_args : PySem.W.findIn K (.ref C_Type) "own_args" = some none)
    (fa_Type_own_atom : PySem.W.findIn K (.ref C_Type) "own_atom" = some none)
    (fa_Type_own_places : PySem.W.findIn K (.ref C_Type) "own_places" = some none)
    (fa_Type_own_order : PySem.W.findIn K (.ref C_Type) "own_order" = some none)
    (fa_Type_own_text : PySem.W.findIn K (.ref C_Type) "own_text" = some none)
    (ic_Type : PySem.W.isClsIn K C_Type = true)
    (ty_Type : PySem.W.typeIn K (.ref C_Type) = some (.type "type"))
    (ki0_Type : PySem.W.subIn K (.type "NoneType") (.ref C_Type) = some false)
    (ki1_Type : PySem.W.subIn K (.type "bool") (.ref C_Type) = some false)
    (ki2_Type : PySem.W.subIn K (.type "int") (.ref C_Type) = some false)
    (ki3_Type : PySem.W.subIn K (.type "str") (.ref C_Type) = some false)
    (ki4_Type : PySem.W.subIn K (.type "tuple") (.ref C_Type) = some false)
    (ki5_Type : PySem.W.subIn K (.type "list") (.ref C_Type) = some false)
    (ki6_Type : PySem.W.subIn K (.type "dict") (.ref C_Type) = some false)
    (aC_Library : PySem.W.nsIn K mainGlobals "Library" = some (some (.ref C_Library)))
    (pg_Library : PySem.W.plainGet K C_Library Str.empty = true)
    (hd_Library : PySem.W.hasDictIn K C_Library = true)
    (po_Library : PySem.W.plainOver K C_Library = true)
    (sa_Library : PySem.W.findIn K (.ref C_Library) "__setattr__" = some (some (.builtin "object.__setattr__")))
    (ha_Library : PySem.W.findIn K (.ref C_Library) "__class__" = some (some (.builtin "object.__class__")))
    (hn_Library : PySem.W.specialIn K (.builtin "object.__class__") "__get__" = some (some (.builtin "getset_descriptor.__get__")))
    (ht_Library : PySem.W.takesIn K (.builtin "object.__class__") = some true)
    (hm_Library : PySem.W.mroIn K C_Library (.type "object") = some true)
    (fa_Library_own_parts : PySem.W.findIn K (.ref C_Library) "own_parts" = some none)
    (fa_Library_own_names : PySem.W.findIn K (.ref C_Library) "own_names" = some none)
    (fa_Library_own_lines : PySem.W.findIn K (.ref C_Library) "own_lines" = some none)
    (fa_Library_own_scope : PySem.W.findIn K (.ref C_Library) "own_scope" = some none)
    (ic_Library : PySem.W.isClsIn K C_Library = true)
    (ty_Library : PySem.W.typeIn K (.ref C_Library) = some (.type "type"))
    (ki0_Library : PySem.W.subIn K (.type "NoneType") (.ref C_Library) = some false)
    (ki1_Library : PySem.W.subIn K (.type "bool") (.ref C_Library) = some false)
    (ki2_Library : PySem.W.subIn K (.type "int") (.ref C_Library) = some false)
    (ki3_Library : PySem.W.subIn K (.type "str") (.ref C_Library) = some false)
    (ki4_Library : PySem.W.subIn K (.type "tuple") (.ref C_Library) = some false)
    (ki5_Library : PySem.W.subIn K (.type "list") (.ref C_Library) = some false)
    (ki6_Library : PySem.W.subIn K (.type "dict") (.ref C_Library) = some false)
    (nf0_Library : PySem.W.notFirst K C_Library (.type "NoneType") = true)
    (nf1_Library : PySem.W.notFirst K C_Library (.type "bool") = true)
    (nf2_Library : PySem.W.notFirst K C_Library (.type "int") = true)
    (nf3_Library : PySem.W.notFirst K C_Library (.type "str") = true)
    (nf4_Library : PySem.W.notFirst K C_Library (.type "tuple") = true)
    (nf5_Library : PySem.W.notFirst K C_Library (.type "list") = true)
    (nf6_Library : PySem.W.notFirst K C_Library (.type "dict") = true)
    (nf7_Library : PySem.W.notFirst K C_Library (.ref C_Library) = true)
    (nn_Library : PySem.W.findIn K (.ref C_Library) "__ne__" = some (some (.builtin "object.__ne__")))
    (fm_Type : PySem.W.findIn K (.ref C_Type) "__format__" = some (some (.builtin "object.__format__")))
    (sb_str_Library : PySem.W.subIn K (.ref C_Library) (.type "str") = some false)
    (sb_str_Type : PySem.W.subIn K (.ref C_Type) (.type "str") = some false)
    (a_is_word : PySem.W.nsIn K mainGlobals "is_word" = some (some (.ref f_is_word)))
    (l_is_word : K.lookup f_is_word = some ⟨oc_is_word, od_is_word, .func (PySem.W.fnOf "is_word" "is_word" (defArgs s_is_word) (defBody s_is_word) (defScope s_is_word) .none kV_is_word dc_is_word pm_is_word an_is_word cd_is_word ct_is_word), sl_is_word⟩)
    (c_is_word : PySem.W.codeIn K cd_is_word "is_word" = true)
    (k_is_word : PySem.W.keepIn K (.ref f_is_word) = true)
    (a_ascending_rows : PySem.W.nsIn K mainGlobals "ascending_rows" = some (some (.ref f_ascending_rows)))
    (l_ascending_rows : K.lookup f_ascending_rows = some ⟨oc_ascending_rows, od_ascending_rows, .func (PySem.W.fnOf "ascending_rows" "ascending_rows" (defArgs s_ascending_rows) (defBody s_ascending_rows) (defScope s_ascending_rows) .none kV_ascending_rows dc_ascending_rows pm_ascending_rows an_ascending_rows cd_ascending_rows ct_ascending_rows), sl_ascending_rows⟩)
    (c_ascending_rows : PySem.W.codeIn K cd_ascending_rows "ascending_rows" = true)
    (k_ascending_rows : PySem.W.keepIn K (.ref f_ascending_rows) = true)
    (a_signs_of : PySem.W.nsIn K mainGlobals "signs_of" = some (some (.ref f_signs_of)))
    (l_signs_of : K.lookup f_signs_of = some ⟨oc_signs_of, od_signs_of, .func (PySem.W.fnOf "signs_of" "signs_of" (defArgs s_signs_of) (defBody s_signs_of) (defScope s_signs_of) .none kV_signs_of dc_signs_of pm_signs_of an_signs_of cd_signs_of ct_signs_of), sl_signs_of⟩)
    (c_signs_of : PySem.W.codeIn K cd_signs_of "signs_of" = true)
    (k_signs_of : PySem.W.keepIn K (.ref f_signs_of) = true)
    (a_KindReader___init__ : PySem.W.findIn K (.ref C_KindReader) "__init__" = some (some (.ref f_KindReader___init__)))
    (i_KindReader___init__ : PySem.W.isFn K (.ref f_KindReader___init__) = true)
    (l_KindReader___init__ : K.lookup f_KindReader___init__ = some ⟨oc_KindReader___init__, od_KindReader___init__, .func (PySem.W.fnOf "__init__" "KindReader.__init__" (defArgs s_KindReader___init__) (defBody s_KindReader___init__) (defScope s_KindReader___init__) .none kV_KindReader___init__ dc_KindReader___init__ pm_KindReader___init__ an_KindReader___init__ cd_KindReader___init__ ct_KindReader___init__), sl_KindReader___init__⟩)
    (c_KindReader___init__ : PySem.W.codeIn K cd_KindReader___init__ "KindReader.__init__" = true)
    (k_KindReader___init__ : PySem.W.keepIn K (.ref f_KindReader___init__) = true)
    (mk_KindReader : PySem.W.makesIn K C_KindReader = true)
    (kk_KindReader : PySem.W.keepIn K (.ref C_KindReader) = true)
    (a_KindReader_take : PySem.W.findIn K (.ref C_KindReader) "take" = some (some (.ref f_KindReader_take)))
    (i_KindReader_take : PySem.W.isFn K (.ref f_KindReader_take) = true)
    (l_KindReader_take : K.lookup f_KindReader_take = some ⟨oc_KindReader_take, od_KindReader_take, .func (PySem.W.fnOf "take" "KindReader.take" (defArgs s_KindReader_take) (defBody s_KindReader_take) (defScope s_KindReader_take) .none kV_KindReader_take dc_KindReader_take pm_KindReader_take an_KindReader_take cd_KindReader_take ct_KindReader_take), sl_KindReader_take⟩)
    (c_KindReader_take : PySem.W.codeIn K cd_KindReader_take "KindReader.take" = true)
    (k_KindReader_take : PySem.W.keepIn K (.ref f_KindReader_take) = true)
    (a_KindReader_take_end : PySem.W.findIn K (.ref C_KindReader) "take_end" = some (some (.ref f_KindReader_take_end)))
    (i_KindReader_take_end : PySem.W.isFn K (.ref f_KindReader_take_end) = true)
    (l_KindReader_take_end : K.lookup f_KindReader_take_end = some ⟨oc_KindReader_take_end, od_KindReader_take_end, .func (PySem.W.fnOf "take_end" "KindReader.take_end" (defArgs s_KindReader_take_end) (defBody s_KindReader_take_end) (defScope s_KindReader_take_end) .none kV_KindReader_take_end dc_KindReader_take_end pm_KindReader_take_end an_KindReader_take_end cd_KindReader_take_end ct_KindReader_take_end), sl_KindReader_take_end⟩)
    (c_KindReader_take_end : PySem.W.codeIn K cd_KindReader_take_end "KindReader.take_end" = true)
    (k_KindReader_take_end : PySem.W.keepIn K (.ref f_KindReader_take_end) = true)
    (a_KindReader_result : PySem.W.findIn K (.ref C_KindReader) "result" = some (some (.ref f_KindReader_result)))
    (i_KindReader_result : PySem.W.isFn K (.ref f_KindReader_result) = true)
    (l_KindReader_result : K.lookup f_KindReader_result = some ⟨oc_KindReader_result, od_KindReader_result, .func (PySem.W.fnOf "result" "KindReader.result" (defArgs s_KindReader_result) (defBody s_KindReader_result) (defScope s_KindReader_result) .none kV_KindReader_result dc_KindReader_result pm_KindReader_result an_KindReader_result cd_KindReader_result ct_KindReader_result), sl_KindReader_result⟩)
    (c_KindReader_result : PySem.W.codeIn K cd_KindReader_result "KindReader.result" = true)
    (k_KindReader_result : PySem.W.keepIn K (.ref f_KindReader_result) = true)
    (a_shape_of : PySem.W.nsIn K mainGlobals "shape_of" = some (some (.ref f_shape_of)))
    (l_shape_of : K.lookup f_shape_of = some ⟨oc_shape_of, od_shape_of, .func (PySem.W.fnOf "shape_of" "shape_of" (defArgs s_shape_of) (defBody s_shape_of) (defScope s_shape_of) .none kV_shape_of dc_shape_of pm_shape_of an_shape_of cd_shape_of ct_shape_of), sl_shape_of⟩)
    (c_shape_of : PySem.W.codeIn K cd_shape_of "shape_of" = true)
    (k_shape_of : PySem.W.keepIn K (.ref f_shape_of) = true)
    (a_kind_in : PySem.W.nsIn K mainGlobals "kind_in" = some (some (.ref f_kind_in)))
    (l_kind_in : K.lookup f_kind_in = some ⟨oc_kind_in, od_kind_in, .func (PySem.W.fnOf "kind_in" "kind_in" (defArgs s_kind_in) (defBody s_kind_in) (defScope s_kind_in) .none kV_kind_in dc_kind_in pm_kind_in an_kind_in cd_kind_in ct_kind_in), sl_kind_in⟩)
    (c_kind_in : PySem.W.codeIn K cd_kind_in "kind_in" = true)
    (k_kind_in : PySem.W.keepIn K (.ref f_kind_in) = true)
    (a_order_of : PySem.W.nsIn K mainGlobals "order_of" = some (some (.ref f_order_of)))
    (l_order_of : K.lookup f_order_of = some ⟨oc_order_of, od_order_of, .func (PySem.W.fnOf "order_of" "order_of" (defArgs s_order_of) (defBody s_order_of) (defScope s_order_of) .none kV_order_of dc_order_of pm_order_of an_order_of cd_order_of ct_order_of), sl_order_of⟩)
    (c_order_of : PySem.W.codeIn K cd_order_of "order_of" = true)
    (k_order_of : PySem.W.keepIn K (.ref f_order_of) = true)
    (a_input_text : PySem.W.nsIn K mainGlobals "input_text" = some (some (.ref f_input_text)))
    (l_input_text : K.lookup f_input_text = some ⟨oc_input_text, od_input_text, .func (PySem.W.fnOf "input_text" "input_text" (defArgs s_input_text) (defBody s_input_text) (defScope s_input_text) .none kV_input_text dc_input_text pm_input_text an_input_text cd_input_text ct_input_text), sl_input_text⟩)
    (c_input_text : PySem.W.codeIn K cd_input_text "input_text" = true)
    (k_input_text : PySem.W.keepIn K (.ref f_input_text) = true)
    (a_Type___init__ : PySem.W.findIn K (.ref C_Type) "__init__" = some (some (.ref f_Type___init__)))
    (i_Type___init__ : PySem.W.isFn K (.ref f_Type___init__) = true)
    (l_Type___init__ : K.lookup f_Type___init__ = some ⟨oc_Type___init__, od_Type___init__, .func (PySem.W.fnOf "__init__" "Type.__init__" (defArgs s_Type___init__) (defBody s_Type___init__) (defScope s_Type___init__) .none kV_Type___init__ dc_Type___init__ pm_Type___init__ an_Type___init__ cd_Type___init__ ct_Type___init__), sl_Type___init__⟩)
    (c_Type___init__ : PySem.W.codeIn K cd_Type___init__ "Type.__init__" = true)
    (k_Type___init__ : PySem.W.keepIn K (.ref f_Type___init__) = true)
    (mk_Type : PySem.W.makesIn K C_Type = true)
    (kk_Type : PySem.W.keepIn K (.ref C_Type) = true)
    (rd_Type_read : PySem.W.readsIn K C_Type (.type "type") = true)
    (ga_Type_read : PySem.W.specialIn K (.ref C_Type) "__getattribute__" = some (some (.builtin "type.__getattribute__")))
    (a_Type_read : PySem.W.findCls K (.ref C_Type) (.type "type") "read" = some (.get (.builtin "classmethod.__get__") (.ref p_Type_read) .none (.ref C_Type)))
    (r_Type_read : PySem.W.recIn K p_Type_read "classmethod" = some (.ref f_Type_read :: rs_Type_read))
    (fi_Type_read : PySem.W.fnIn K f_Type_read = true)
    (l_Type_read : K.lookup f_Type_read = some ⟨oc_Type_read, od_Type_read, .func (PySem.W.fnOf "read" "Type.read" (defArgs s_Type_read) (defBody s_Type_read) (defScope s_Type_read) .none kV_Type_read dc_Type_read pm_Type_read an_Type_read cd_Type_read ct_Type_read), sl_Type_read⟩)
    (c_Type_read : PySem.W.codeIn K cd_Type_read "Type.read" = true)
    (k_Type_read : PySem.W.keepIn K (.ref f_Type_read) = true)
    (a_Type___str__ : PySem.W.findIn K (.ref C_Type) "__str__" = some (some (.ref f_Type___str__)))
    (i_Type___str__ : PySem.W.isFn K (.ref f_Type___str__) = true)
    (fi_Type___str__ : PySem.W.fnIn K f_Type___str__ = true)
    (l_Type___str__ : K.lookup f_Type___str__ = some ⟨oc_Type___str__, od_Type___str__, .func (PySem.W.fnOf "__str__" "Type.__str__" (defArgs s_Type___str__) (defBody s_Type___str__) (defScope s_Type___str__) .none kV_Type___str__ dc_Type___str__ pm_Type___str__ an_Type___str__ cd_Type___str__ ct_Type___str__), sl_Type___str__⟩)
    (c_Type___str__ : PySem.W.codeIn K cd_Type___str__ "Type.__str__" = true)
    (k_Type___str__ : PySem.W.keepIn K (.ref f_Type___str__) = true)
    (a_type_of_text : PySem.W.nsIn K mainGlobals "type_of_text" = some (some (.ref f_type_of_text)))
    (l_type_of_text : K.lookup f_type_of_text = some ⟨oc_type_of_text, od_type_of_text, .func (PySem.W.fnOf "type_of_text" "type_of_text" (defArgs s_type_of_text) (defBody s_type_of_text) (defScope s_type_of_text) .none kV_type_of_text dc_type_of_text pm_type_of_text an_type_of_text cd_type_of_text ct_type_of_text), sl_type_of_text⟩)
    (c_type_of_text : PySem.W.codeIn K cd_type_of_text "type_of_text" = true)
    (k_type_of_text : PySem.W.keepIn K (.ref f_type_of_text) = true)
    (a_is_parts : PySem.W.nsIn K mainGlobals "is_parts" = some (some (.ref f_is_parts)))
    (l_is_parts : K.lookup f_is_parts = some ⟨oc_is_parts, od_is_parts, .func (PySem.W.fnOf "is_parts" "is_parts" (defArgs s_is_parts) (defBody s_is_parts) (defScope s_is_parts) .none kV_is_parts dc_is_parts pm_is_parts an_is_parts cd_is_parts ct_is_parts), sl_is_parts⟩)
    (c_is_parts : PySem.W.codeIn K cd_is_parts "is_parts" = true)
    (k_is_parts : PySem.W.keepIn K (.ref f_is_parts) = true)
    (a_part_of_line : PySem.W.nsIn K mainGlobals "part_of_line" = some (some (.ref f_part_of_line)))
    (l_part_of_line : K.lookup f_part_of_line = some ⟨oc_part_of_line, od_part_of_line, .func (PySem.W.fnOf "part_of_line" "part_of_line" (defArgs s_part_of_line) (defBody s_part_of_line) (defScope s_part_of_line) .none kV_part_of_line dc_part_of_line pm_part_of_line an_part_of_line cd_part_of_line ct_part_of_line), sl_part_of_line⟩)
    (c_part_of_line : PySem.W.codeIn K cd_part_of_line "part_of_line" = true)
    (k_part_of_line : PySem.W.keepIn K (.ref f_part_of_line) = true)
    (a_Library___init__ : PySem.W.findIn K (.ref C_Library) "__init__" = some (some (.ref f_Library___init__)))
    (i_Library___init__ : PySem.W.isFn K (.ref f_Library___init__) = true)
    (l_Library___init__ : K.lookup f_Library___init__ = some ⟨oc_Library___init__, od_Library___init__, .func (PySem.W.fnOf "__init__" "Library.__init__" (defArgs s_Library___init__) (defBody s_Library___init__) (defScope s_Library___init__) (.ref dT_Library___init__) kV_Library___init__ dc_Library___init__ pm_Library___init__ an_Library___init__ cd_Library___init__ ct_Library___init__), sl_Library___init__⟩)
    (c_Library___init__ : PySem.W.codeIn K cd_Library___init__ "Library.__init__" = true)
    (k_Library___init__ : PySem.W.keepIn K (.ref f_Library___init__) = true)
    (dv_Library___init__ : K.lookup dT_Library___init__ = some ⟨dc1_Library___init__, dd_Library___init__, .seq #[.none] dn_Library___init__, ds_Library___init__⟩)
    (mk_Library : PySem.W.makesIn K C_Library = true)
    (kk_Library : PySem.W.keepIn K (.ref C_Library) = true)
    (rd_Library_read : PySem.W.readsIn K C_Library (.type "type") = true)
    (ga_Library_read : PySem.W.specialIn K (.ref C_Library) "__getattribute__" = some (some (.builtin "type.__getattribute__")))
    (a_Library_read : PySem.W.findCls K (.ref C_Library) (.type "type") "read" = some (.get (.builtin "classmethod.__get__") (.ref p_Library_read) .none (.ref C_Library)))
    (r_Library_read : PySem.W.recIn K p_Library_read "classmethod" = some (.ref f_Library_read :: rs_Library_read))
    (fi_Library_read : PySem.W.fnIn K f_Library_read = true)
    (l_Library_read : K.lookup f_Library_read = some ⟨oc_Library_read, od_Library_read, .func (PySem.W.fnOf "read" "Library.read" (defArgs s_Library_read) (defBody s_Library_read) (defScope s_Library_read) .none kV_Library_read dc_Library_read pm_Library_read an_Library_read cd_Library_read ct_Library_read), sl_Library_read⟩)
    (c_Library_read : PySem.W.codeIn K cd_Library_read "Library.read" = true)
    (k_Library_read : PySem.W.keepIn K (.ref f_Library_read) = true)
    (a_Library_lines : PySem.W.findIn K (.ref C_Library) "lines" = some (some (.ref p_Library_lines)))
    (g_Library_lines : PySem.W.specialIn K (.ref p_Library_lines) "__get__" = some (some (.builtin "property.__get__")))
    (t_Library_lines : PySem.W.takesIn K (.ref p_Library_lines) = some true)
    (r_Library_lines : PySem.W.recIn K p_Library_lines "property" = some (.ref f_Library_lines :: rs_Library_lines))
    (l_Library_lines : K.lookup f_Library_lines = some ⟨oc_Library_lines, od_Library_lines, .func (PySem.W.fnOf "lines" "Library.lines" (defArgs s_Library_lines) (defBody s_Library_lines) (defScope s_Library_lines) .none kV_Library_lines dc_Library_lines pm_Library_lines an_Library_lines cd_Library_lines ct_Library_lines), sl_Library_lines⟩)
    (c_Library_lines : PySem.W.codeIn K cd_Library_lines "Library.lines" = true)
    (k_Library_lines : PySem.W.keepIn K (.ref f_Library_lines) = true)
    (a_Library___len__ : PySem.W.findIn K (.ref C_Library) "__len__" = some (some (.ref f_Library___len__)))
    (i_Library___len__ : PySem.W.isFn K (.ref f_Library___len__) = true)
    (fi_Library___len__ : PySem.W.fnIn K f_Library___len__ = true)
    (l_Library___len__ : K.lookup f_Library___len__ = some ⟨oc_Library___len__, od_Library___len__, .func (PySem.W.fnOf "__len__" "Library.__len__" (defArgs s_Library___len__) (defBody s_Library___len__) (defScope s_Library___len__) .none kV_Library___len__ dc_Library___len__ pm_Library___len__ an_Library___len__ cd_Library___len__ ct_Library___len__), sl_Library___len__⟩)
    (c_Library___len__ : PySem.W.codeIn K cd_Library___len__ "Library.__len__" = true)
    (k_Library___len__ : PySem.W.keepIn K (.ref f_Library___len__) = true)
    (a_Library___eq__ : PySem.W.findIn K (.ref C_Library) "__eq__" = some (some (.ref f_Library___eq__)))
    (i_Library___eq__ : PySem.W.isFn K (.ref f_Library___eq__) = true)
    (fi_Library___eq__ : PySem.W.fnIn K f_Library___eq__ = true)
    (l_Library___eq__ : K.lookup f_Library___eq__ = some ⟨oc_Library___eq__, od_Library___eq__, .func (PySem.W.fnOf "__eq__" "Library.__eq__" (defArgs s_Library___eq__) (defBody s_Library___eq__) (defScope s_Library___eq__) .none kV_Library___eq__ dc_Library___eq__ pm_Library___eq__ an_Library___eq__ cd_Library___eq__ ct_Library___eq__), sl_Library___eq__⟩)
    (c_Library___eq__ : PySem.W.codeIn K cd_Library___eq__ "Library.__eq__" = true)
    (k_Library___eq__ : PySem.W.keepIn K (.ref f_Library___eq__) = true)
    (a__law_dice : PySem.W.nsIn K mainGlobals "_law_dice" = some (some (.ref f__law_dice)))
    (l__law_dice : K.lookup f__law_dice = some ⟨oc__law_dice, od__law_dice, .func (PySem.W.fnOf "_law_dice" "_law_dice" (defArgs s__law_dice) (defBody s__law_dice) (defScope s__law_dice) .none kV__law_dice dc__law_dice pm__law_dice an__law_dice cd__law_dice ct__law_dice), sl__law_dice⟩)
    (c__law_dice : PySem.W.codeIn K cd__law_dice "_law_dice" = true)
    (k__law_dice : PySem.W.keepIn K (.ref f__law_dice) = true)
    (a__law_roll : PySem.W.nsIn K mainGlobals "_law_roll" = some (some (.ref f__law_roll)))
    (l__law_roll : K.lookup f__law_roll = some ⟨oc__law_roll, od__law_roll, .func (PySem.W.fnOf "_law_roll" "_law_roll" (defArgs s__law_roll) (defBody s__law_roll) (defScope s__law_roll) .none kV__law_roll dc__law_roll pm__law_roll an__law_roll cd__law_roll ct__law_roll), sl__law_roll⟩)
    (c__law_roll : PySem.W.codeIn K cd__law_roll "_law_roll" = true)
    (k__law_roll : PySem.W.keepIn K (.ref f__law_roll) = true)
    (a__law_pick : PySem.W.nsIn K mainGlobals "_law_pick" = some (some (.ref f__law_pick)))
    (l__law_pick : K.lookup f__law_pick = some ⟨oc__law_pick, od__law_pick, .func (PySem.W.fnOf "_law_pick" "_law_pick" (defArgs s__law_pick) (defBody s__law_pick) (defScope s__law_pick) .none kV__law_pick dc__law_pick pm__law_pick an__law_pick cd__law_pick ct__law_pick), sl__law_pick⟩)
    (c__law_pick : PySem.W.codeIn K cd__law_pick "_law_pick" = true)
    (k__law_pick : PySem.W.keepIn K (.ref f__law_pick) = true)
    (a__law_some : PySem.W.nsIn K mainGlobals "_law_some" = some (some (.ref f__law_some)))
    (l__law_some : K.lookup f__law_some = some ⟨oc__law_some, od__law_some, .func (PySem.W.fnOf "_law_some" "_law_some" (defArgs s__law_some) (defBody s__law_some) (defScope s__law_some) .none kV__law_some dc__law_some pm__law_some an__law_some cd__law_some ct__law_some), sl__law_some⟩)
    (c__law_some : PySem.W.codeIn K cd__law_some "_law_some" = true)
    (k__law_some : PySem.W.keepIn K (.ref f__law_some) = true)
    (a__law_text : PySem.W.nsIn K mainGlobals "_law_text" = some (some (.ref f__law_text)))
    (l__law_text : K.lookup f__law_text = some ⟨oc__law_text, od__law_text, .func (PySem.W.fnOf "_law_text" "_law_text" (defArgs s__law_text) (defBody s__law_text) (defScope s__law_text) .none kV__law_text dc__law_text pm__law_text an__law_text cd__law_text ct__law_text), sl__law_text⟩)
    (c__law_text : PySem.W.codeIn K cd__law_text "_law_text" = true)
    (k__law_text : PySem.W.keepIn K (.ref f__law_text) = true)
    (a__law_atoms_of : PySem.W.nsIn K mainGlobals "_law_atoms_of" = some (some (.ref f__law_atoms_of)))
    (l__law_atoms_of : K.lookup f__law_atoms_of = some ⟨oc__law_atoms_of, od__law_atoms_of, .func (PySem.W.fnOf "_law_atoms_of" "_law_atoms_of" (defArgs s__law_atoms_of) (defBody s__law_atoms_of) (defScope s__law_atoms_of) .none kV__law_atoms_of dc__law_atoms_of pm__law_atoms_of an__law_atoms_of cd__law_atoms_of ct__law_atoms_of), sl__law_atoms_of⟩)
    (c__law_atoms_of : PySem.W.codeIn K cd__law_atoms_of "_law_atoms_of" = true)
    (k__law_atoms_of : PySem.W.keepIn K (.ref f__law_atoms_of) = true)
    (a__law_kind : PySem.W.nsIn K mainGlobals "_law_kind" = some (some (.ref f__law_kind)))
    (l__law_kind : K.lookup f__law_kind = some ⟨oc__law_kind, od__law_kind, .func (PySem.W.fnOf "_law_kind" "_law_kind" (defArgs s__law_kind) (defBody s__law_kind) (defScope s__law_kind) .none kV__law_kind dc__law_kind pm__law_kind an__law_kind cd__law_kind ct__law_kind), sl__law_kind⟩)
    (c__law_kind : PySem.W.codeIn K cd__law_kind "_law_kind" = true)
    (k__law_kind : PySem.W.keepIn K (.ref f__law_kind) = true)
    (a__law_made_kind : PySem.W.nsIn K mainGlobals "_law_made_kind" = some (some (.ref f__law_made_kind)))
    (l__law_made_kind : K.lookup f__law_made_kind = some ⟨oc__law_made_kind, od__law_made_kind, .func (PySem.W.fnOf "_law_made_kind" "_law_made_kind" (defArgs s__law_made_kind) (defBody s__law_made_kind) (defScope s__law_made_kind) .none kV__law_made_kind dc__law_made_kind pm__law_made_kind an__law_made_kind cd__law_made_kind ct__law_made_kind), sl__law_made_kind⟩)
    (c__law_made_kind : PySem.W.codeIn K cd__law_made_kind "_law_made_kind" = true)
    (k__law_made_kind : PySem.W.keepIn K (.ref f__law_made_kind) = true)
    (a__law_library : PySem.W.nsIn K mainGlobals "_law_library" = some (some (.ref f__law_library)))
    (l__law_library : K.lookup f__law_library = some ⟨oc__law_library, od__law_library, .func (PySem.W.fnOf "_law_library" "_law_library" (defArgs s__law_library) (defBody s__law_library) (defScope s__law_library) .none kV__law_library dc__law_library pm__law_library an__law_library cd__law_library ct__law_library), sl__law_library⟩)
    (c__law_library : PySem.W.codeIn K cd__law_library "_law_library" = true)
    (k__law_library : PySem.W.keepIn K (.ref f__law_library) = true)
    (a__law_known_library : PySem.W.nsIn K mainGlobals "_law_known_library" = some (some (.ref f__law_known_library)))
    (l__law_known_library : K.lookup f__law_known_library = some ⟨oc__law_known_library, od__law_known_library, .func (PySem.W.fnOf "_law_known_library" "_law_known_library" (defArgs s__law_known_library) (defBody s__law_known_library) (defScope s__law_known_library) .none kV__law_known_library dc__law_known_library pm__law_known_library an__law_known_library cd__law_known_library ct__law_known_library), sl__law_known_library⟩)
    (c__law_known_library : PySem.W.codeIn K cd__law_known_library "_law_known_library" = true)
    (k__law_known_library : PySem.W.keepIn K (.ref f__law_known_library) = true)
    (a__law_lines : PySem.W.nsIn K mainGlobals "_law_lines" = some (some (.ref f__law_lines)))
    (l__law_lines : K.lookup f__law_lines = some ⟨oc__law_lines, od__law_lines, .func (PySem.W.fnOf "_law_lines" "_law_lines" (defArgs s__law_lines) (defBody s__law_lines) (defScope s__law_lines) .none kV__law_lines dc__law_lines pm__law_lines an__law_lines cd__law_lines ct__law_lines), sl__law_lines⟩)
    (c__law_lines : PySem.W.codeIn K cd__law_lines "_law_lines" = true)
    (k__law_lines : PySem.W.keepIn K (.ref f__law_lines) = true)
    (a__law_made : PySem.W.nsIn K mainGlobals "_law_made" = some (some (.ref f__law_made)))
    (l__law_made : K.lookup f__law_made = some ⟨oc__law_made, od__law_made, .func (PySem.W.fnOf "_law_made" "_law_made" (defArgs s__law_made) (defBody s__law_made) (defScope s__law_made) .none kV__law_made dc__law_made pm__law_made an__law_made cd__law_made ct__law_made), sl__law_made⟩)
    (c__law_made : PySem.W.codeIn K cd__law_made "_law_made" = true)
    (k__law_made : PySem.W.keepIn K (.ref f__law_made) = true)
    (a__law_told : PySem.W.nsIn K mainGlobals "_law_told" = some (some (.ref f__law_told)))
    (l__law_told : K.lookup f__law_told = some ⟨oc__law_told, od__law_told, .func (PySem.W.fnOf "_law_told" "_law_told" (defArgs s__law_told) (defBody s__law_told) (defScope s__law_told) .none kV__law_told dc__law_told pm__law_told an__law_told cd__law_told ct__law_told), sl__law_told⟩)
    (c__law_told : PySem.W.codeIn K cd__law_told "_law_told" = true)
    (k__law_told : PySem.W.keepIn K (.ref f__law_told) = true)
    (a__law_spoilt : PySem.W.nsIn K mainGlobals "_law_spoilt" = some (some (.ref f__law_spoilt)))
    (l__law_spoilt : K.lookup f__law_spoilt = some ⟨oc__law_spoilt, od__law_spoilt, .func (PySem.W.fnOf "_law_spoilt" "_law_spoilt" (defArgs s__law_spoilt) (defBody s__law_spoilt) (defScope s__law_spoilt) .none kV__law_spoilt dc__law_spoilt pm__law_spoilt an__law_spoilt cd__law_spoilt ct__law_spoilt), sl__law_spoilt⟩)
    (c__law_spoilt : PySem.W.codeIn K cd__law_spoilt "_law_spoilt" = true)
    (k__law_spoilt : PySem.W.keepIn K (.ref f__law_spoilt) = true)
    (a__law_right : PySem.W.nsIn K mainGlobals "_law_right" = some (some (.ref f__law_right)))
    (l__law_right : K.lookup f__law_right = some ⟨oc__law_right, od__law_right, .func (PySem.W.fnOf "_law_right" "_law_right" (defArgs s__law_right) (defBody s__law_right) (defScope s__law_right) .none kV__law_right dc__law_right pm__law_right an__law_right cd__law_right ct__law_right), sl__law_right⟩)
    (c__law_right : PySem.W.codeIn K cd__law_right "_law_right" = true)
    (k__law_right : PySem.W.keepIn K (.ref f__law_right) = true)
    (a__law_nine : PySem.W.nsIn K mainGlobals "_law_nine" = some (some (.ref f__law_nine)))
    (l__law_nine : K.lookup f__law_nine = some ⟨oc__law_nine, od__law_nine, .func (PySem.W.fnOf "_law_nine" "_law_nine" (defArgs s__law_nine) (defBody s__law_nine) (defScope s__law_nine) .none kV__law_nine dc__law_nine pm__law_nine an__law_nine cd__law_nine ct__law_nine), sl__law_nine⟩)
    (c__law_nine : PySem.W.codeIn K cd__law_nine "_law_nine" = true)
    (k__law_nine : PySem.W.keepIn K (.ref f__law_nine) = true)
    (a_law : PySem.W.nsIn K mainGlobals "law" = some (some (.ref f_law)))
    (l_law : K.lookup f_law = some ⟨oc_law, od_law, .func (PySem.W.fnOf "law" "law" (defArgs s_law) (defBody s_law) (defScope s_law) .none kV_law dc_law pm_law an_law cd_law ct_law), sl_law⟩)
    (c_law : PySem.W.codeIn K cd_law "law" = true)
    (k_law : PySem.W.keepIn K (.ref f_law) = true)
    (xa_BuildError : PySem.W.nsIn K mainGlobals "BuildError" = some (some (.ref Cx_BuildError)))
    (xe_BuildError : PySem.W.excIn K Cx_BuildError veBm "ValueError.__new__" = true)
    (xk_BuildError : PySem.W.keepIn K (.ref Cx_BuildError) = true)
    (xs_BuildError : PySem.W.subIn K (.ref Cx_BuildError) (.type "BaseException") = some true)
    (xt_BuildError : PySem.W.typeIn K (.ref Cx_BuildError) = some (.type "type"))
    (xa_ParseError : PySem.W.nsIn K mainGlobals "ParseError" = some (some (.ref Cx_ParseError)))
    (xq_ParseError : PySem.W.excInitIn K Cx_ParseError veBm "ValueError.__new__" = true)
    (xv_ParseError : PySem.W.excOver K Cx_ParseError veBm = true)
    (xS_ParseError : PySem.W.findIn K (.ref Cx_ParseError) "__setattr__" = some (some (.builtin "object.__setattr__")))
    (xn_ParseError : PySem.W.findIn K (.ref Cx_ParseError) "line" = some none)
    (xh_ParseError : PySem.W.hasDictIn K Cx_ParseError = true)
    (xc_ParseError : PySem.W.findIn K (.ref Cx_ParseError) "__init__" = some (some (.ref f_ParseError___init__)))
    (xf_ParseError : PySem.W.isFn K (.ref f_ParseError___init__) = true)
    (l_ParseError___init__ : K.lookup f_ParseError___init__ = some ⟨oc_ParseError___init__, od_ParseError___init__, .func (PySem.W.fnOf "__init__" "ParseError.__init__" (defArgs s_ParseError___init__) (defBody s_ParseError___init__) (defScope s_ParseError___init__) .none kV_ParseError___init__ dc_ParseError___init__ pm_ParseError___init__ an_ParseError___init__ cd_ParseError___init__ ct_ParseError___init__), sl_ParseError___init__⟩)
    (c_ParseError___init__ : PySem.W.codeIn K cd_ParseError___init__ "ParseError.__init__" = true)
    (xk_ParseError : PySem.W.keepIn K (.ref Cx_ParseError) = true)
    (xs_ParseError : PySem.W.subIn K (.ref Cx_ParseError) (.type "BaseException") = some true)
    (xt_ParseError : PySem.W.typeIn K (.ref Cx_ParseError) = some (.type "type"))
    (xg_ParseError : PySem.W.findIn K (.ref Cx_ParseError) "__getattribute__" = some (some (.builtin "BaseException.__getattribute__")))
    (xG_ParseError : PySem.W.findIn K (.ref Cx_ParseError) "__getattr__" = some none)
    (xa_InvalidLibrary : PySem.W.nsIn K mainGlobals "InvalidLibrary" = some (some (.ref Cx_InvalidLibrary)))
    (xe_InvalidLibrary : PySem.W.excIn K Cx_InvalidLibrary veBm "ValueError.__new__" = true)
    (xk_InvalidLibrary : PySem.W.keepIn K (.ref Cx_InvalidLibrary) = true)
    (xs_InvalidLibrary : PySem.W.subIn K (.ref Cx_InvalidLibrary) (.type "BaseException") = some true)
    (xt_InvalidLibrary : PySem.W.typeIn K (.ref Cx_InvalidLibrary) = some (.type "type"))
    (xa_InvalidWord : PySem.W.nsIn K mainGlobals "InvalidWord" = some (some (.ref Cx_InvalidWord)))
    (xe_InvalidWord : PySem.W.excIn K Cx_InvalidWord veBm "ValueError.__new__" = true)
    (xk_InvalidWord : PySem.W.keepIn K (.ref Cx_InvalidWord) = true)
    (xs_InvalidWord : PySem.W.subIn K (.ref Cx_InvalidWord) (.type "BaseException") = some true)
    (xt_InvalidWord : PySem.W.typeIn K (.ref Cx_InvalidWord) = some (.type "type"))
    (xa_InvalidType : PySem.W.nsIn K mainGlobals "InvalidType" = some (some (.ref Cx_InvalidType)))
    (xe_InvalidType : PySem.W.excIn K Cx_InvalidType veBm "ValueError.__new__" = true)
    (xk_InvalidType : PySem.W.keepIn K (.ref Cx_InvalidType) = true)
    (xs_InvalidType : PySem.W.subIn K (.ref Cx_InvalidType) (.type "BaseException") = some true)
    (xt_InvalidType : PySem.W.typeIn K (.ref Cx_InvalidType) = some (.type "type"))
    (xi_BuildError : PySem.W.isClsIn K Cx_BuildError = true)
    (xo_InvalidType_BuildError : PySem.W.subIn K (.ref Cx_InvalidType) (.ref Cx_BuildError) = some true)
    (xo_InvalidWord_BuildError : PySem.W.subIn K (.ref Cx_InvalidWord) (.ref Cx_BuildError) = some true)
    (xo_InvalidLibrary_BuildError : PySem.W.subIn K (.ref Cx_InvalidLibrary) (.ref Cx_BuildError) = some true)
    (xo_ParseError_BuildError : PySem.W.subIn K (.ref Cx_ParseError) (.ref Cx_BuildError) = some true)
    (xo_BuildError_BuildError : PySem.W.subIn K (.ref Cx_BuildError) (.ref Cx_BuildError) = some true)
    (xi_ParseError : PySem.W.isClsIn K Cx_ParseError = true)
    (xo_InvalidType_ParseError : PySem.W.subIn K (.ref Cx_InvalidType) (.ref Cx_ParseError) = some false)
    (xo_InvalidWord_ParseError : PySem.W.subIn K (.ref Cx_InvalidWord) (.ref Cx_ParseError) = some false)
    (xo_InvalidLibrary_ParseError : PySem.W.subIn K (.ref Cx_InvalidLibrary) (.ref Cx_ParseError) = some false)
    (xo_ParseError_ParseError : PySem.W.subIn K (.ref Cx_ParseError) (.ref Cx_ParseError) = some true)
    (xo_BuildError_ParseError : PySem.W.subIn K (.ref Cx_BuildError) (.ref Cx_ParseError) = some false)
    (xi_InvalidLibrary : PySem.W.isClsIn K Cx_InvalidLibrary = true)
    (xo_InvalidType_InvalidLibrary : PySem.W.subIn K (.ref Cx_InvalidType) (.ref Cx_InvalidLibrary) = some false)
    (xo_InvalidWord_InvalidLibrary : PySem.W.subIn K (.ref Cx_InvalidWord) (.ref Cx_InvalidLibrary) = some false)
    (xo_InvalidLibrary_InvalidLibrary : PySem.W.subIn K (.ref Cx_InvalidLibrary) (.ref Cx_InvalidLibrary) = some true)
    (xo_ParseError_InvalidLibrary : PySem.W.subIn K (.ref Cx_ParseError) (.ref Cx_InvalidLibrary) = some false)
    (xo_BuildError_InvalidLibrary : PySem.W.subIn K (.ref Cx_BuildError) (.ref Cx_InvalidLibrary) = some false)
    (xi_InvalidWord : PySem.W.isClsIn K Cx_InvalidWord = true)
    (xo_InvalidType_InvalidWord : PySem.W.subIn K (.ref Cx_InvalidType) (.ref Cx_InvalidWord) = some false)
    (xo_InvalidWord_InvalidWord : PySem.W.subIn K (.ref Cx_InvalidWord) (.ref Cx_InvalidWord) = some true)
    (xo_InvalidLibrary_InvalidWord : PySem.W.subIn K (.ref Cx_InvalidLibrary) (.ref Cx_InvalidWord) = some false)
    (xo_ParseError_InvalidWord : PySem.W.subIn K (.ref Cx_ParseError) (.ref Cx_InvalidWord) = some false)
    (xo_BuildError_InvalidWord : PySem.W.subIn K (.ref Cx_BuildError) (.ref Cx_InvalidWord) = some false)
    (xi_InvalidType : PySem.W.isClsIn K Cx_InvalidType = true)
    (xo_InvalidType_InvalidType : PySem.W.subIn K (.ref Cx_InvalidType) (.ref Cx_InvalidType) = some true)
    (xo_InvalidWord_InvalidType : PySem.W.subIn K (.ref Cx_InvalidWord) (.ref Cx_InvalidType) = some false)
    (xo_InvalidLibrary_InvalidType : PySem.W.subIn K (.ref Cx_InvalidLibrary) (.ref Cx_InvalidType) = some false)
    (xo_ParseError_InvalidType : PySem.W.subIn K (.ref Cx_ParseError) (.ref Cx_InvalidType) = some false)
    (xo_BuildError_InvalidType : PySem.W.subIn K (.ref Cx_BuildError) (.ref Cx_InvalidType) = some false) : ∃ Z, All ⟨mg, K⟩ Z := by
  have kcF_KindReader : ClsF ⟨mg, K⟩ "KindReader" C_KindReader := ⟨PySem.W.mg_of X G aC_KindReader, ⟨pg_KindReader, hd_KindReader, po_KindReader, sa_KindReader⟩, ha_KindReader, hn_KindReader, ht_KindReader, hm_KindReader⟩
  have kcF_Type : ClsF ⟨mg, K⟩ "Type" C_Type := ⟨PySem.W.mg_of X G aC_Type, ⟨pg_Type, hd_Type, po_Type, sa_Type⟩, ha_Type, hn_Type, ht_Type, hm_Type⟩
  have kcF_Library : ClsF ⟨mg, K⟩ "Library" C_Library := ⟨PySem.W.mg_of X G aC_Library, ⟨pg_Library, hd_Library, po_Library, sa_Library⟩, ha_Library, hn_Library, ht_Library, hm_Library⟩
  exact ⟨⟨C_KindReader, C_Type, C_Library, Cx_BuildError, Cx_ParseError, Cx_InvalidLibrary, Cx_InvalidWord, Cx_InvalidType⟩, ⟨PySem.W.mg_none_of X G z_abs,
    PySem.W.mg_none_of X G z_all,
    PySem.W.mg_none_of X G z_dict,
    PySem.W.mg_none_of X G z_enumerate,
    PySem.W.mg_none_of X G z_int,
    PySem.W.mg_none_of X G z_isinstance,
    PySem.W.mg_none_of X G z_len,
    PySem.W.mg_none_of X G z_list,
    PySem.W.mg_none_of X G z_max,
    PySem.W.mg_none_of X G z_min,
    PySem.W.mg_none_of X G z_range,
    PySem.W.mg_none_of X G z_repr,
    PySem.W.mg_none_of X G z_set,
    PySem.W.mg_none_of X G z_sorted,
    PySem.W.mg_none_of X G z_str,
    PySem.W.mg_none_of X G z_tuple,
    ⟨_, PySem.W.mg_of X G y_ARROW⟩,
    ⟨_, PySem.W.mg_of X G y_COLON⟩,
    ⟨_, PySem.W.mg_of X G y_LETTERS⟩,
    ⟨_, PySem.W.mg_of X G y_MAX_LETTERS⟩,
    ⟨_, PySem.W.mg_of X G y_MAX_ORDER⟩,
    ⟨_, PySem.W.mg_of X G y_MAX_PARTS⟩,
    ⟨_, PySem.W.mg_of X G y_MAX_PLACES⟩,
    kcF_KindReader,
    fa_KindReader_of_rows,
    fa_KindReader_of_wants,
    kcF_Type,
    fa_Type_own_args,
    fa_Type_own_atom,
    fa_Type_own_places,
    fa_Type_own_order,
    fa_Type_own_text,
    isi_mk kcF_Type ic_Type ty_Type ki0_Type ki1_Type ki2_Type ki3_Type ki4_Type ki5_Type ki6_Type,
    kcF_Library,
    fa_Library_own_parts,
    fa_Library_own_names,
    fa_Library_own_lines,
    fa_Library_own_scope,
    isi_mk kcF_Library ic_Library ty_Library ki0_Library ki1_Library ki2_Library ki3_Library ki4_Library ki5_Library ki6_Library,
    eqF_mk kcF_Library nf0_Library nf1_Library nf2_Library nf3_Library nf4_Library nf5_Library nf6_Library nf7_Library,
    nn_Library,
    fm_Type,
    (FP.isb_cons kcF_Type (by decide +kernel) sb_str_Type (FP.isb_cons kcF_Library (by decide +kernel) sb_str_Library FP.isb_nil)),
    ⟨_, _, PySem.W.mg_of X G a_is_word, fun_mk (st := s_is_word) l_is_word c_is_word k_is_word⟩,
    ⟨_, _, PySem.W.mg_of X G a_ascending_rows, fun_mk (st := s_ascending_rows) l_ascending_rows c_ascending_rows k_ascending_rows⟩,
    ⟨_, _, PySem.W.mg_of X G a_signs_of, fun_mk (st := s_signs_of) l_signs_of c_signs_of k_signs_of⟩,
    ⟨_, _, ⟨mk_KindReader, a_KindReader___init__, i_KindReader___init__, kk_KindReader⟩, fun_mk (st := s_KindReader___init__) l_KindReader___init__ c_KindReader___init__ k_KindReader___init__⟩,
    ⟨_, _, ⟨a_KindReader_take, i_KindReader_take, k_KindReader_take⟩, fun_mk (st := s_KindReader_take) l_KindReader_take c_KindReader_take k_KindReader_take⟩,
    ⟨_, _, ⟨a_KindReader_take_end, i_KindReader_take_end, k_KindReader_take_end⟩, fun_mk (st := s_KindReader_take_end) l_KindReader_take_end c_KindReader_take_end k_KindReader_take_end⟩,
    ⟨_, _, ⟨a_KindReader_result, i_KindReader_result, k_KindReader_result⟩, fun_mk (st := s_KindReader_result) l_KindReader_result c_KindReader_result k_KindReader_result⟩,
    ⟨_, _, PySem.W.mg_of X G a_shape_of, fun_mk (st := s_shape_of) l_shape_of c_shape_of k_shape_of⟩,
    ⟨_, _, PySem.W.mg_of X G a_kind_in, fun_mk (st := s_kind_in) l_kind_in c_kind_in k_kind_in⟩,
    ⟨_, _, PySem.W.mg_of X G a_order_of, fun_mk (st := s_order_of) l_order_of c_order_of k_order_of⟩,
    ⟨_, _, PySem.W.mg_of X G a_input_text, fun_mk (st := s_input_text) l_input_text c_input_text k_input_text⟩,
    ⟨_, _, ⟨mk_Type, a_Type___init__, i_Type___init__, kk_Type⟩, fun_mk (st := s_Type___init__) l_Type___init__ c_Type___init__ k_Type___init__⟩,
    ⟨_, _, _, _, ⟨rd_Type_read, ga_Type_read⟩, ⟨a_Type_read, ⟨_, r_Type_read⟩, fi_Type_read⟩, fun_mk (st := s_Type_read) l_Type_read c_Type_read k_Type_read⟩,
    ⟨_, _, ⟨⟨a_Type___str__, i_Type___str__, k_Type___str__⟩, fi_Type___str__⟩, fun_mk (st := s_Type___str__) l_Type___str__ c_Type___str__ k_Type___str__⟩,
    ⟨_, _, PySem.W.mg_of X G a_type_of_text, fun_mk (st := s_type_of_text) l_type_of_text c_type_of_text k_type_of_text⟩,
    ⟨_, _, PySem.W.mg_of X G a_is_parts, fun_mk (st := s_is_parts) l_is_parts c_is_parts k_is_parts⟩,
    ⟨_, _, PySem.W.mg_of X G a_part_of_line, fun_mk (st := s_part_of_line) l_part_of_line c_part_of_line k_part_of_line⟩,
    ⟨_, _, ⟨mk_Library, a_Library___init__, i_Library___init__, kk_Library⟩, funDN_mk (st := s_Library___init__) l_Library___init__ c_Library___init__ k_Library___init__ dv_Library___init__⟩,
    ⟨_, _, _, _, ⟨rd_Library_read, ga_Library_read⟩, ⟨a_Library_read, ⟨_, r_Library_read⟩, fi_Library_read⟩, fun_mk (st := s_Library_read) l_Library_read c_Library_read k_Library_read⟩,
    ⟨_, _, _, ⟨a_Library_lines, g_Library_lines, t_Library_lines, _, r_Library_lines⟩, fun_mk (st := s_Library_lines) l_Library_lines c_Library_lines k_Library_lines⟩,
    ⟨_, _, ⟨⟨a_Library___len__, i_Library___len__, k_Library___len__⟩, fi_Library___len__⟩, fun_mk (st := s_Library___len__) l_Library___len__ c_Library___len__ k_Library___len__⟩,
    ⟨_, _, ⟨⟨a_Library___eq__, i_Library___eq__, k_Library___eq__⟩, fi_Library___eq__⟩, fun_mk (st := s_Library___eq__) l_Library___eq__ c_Library___eq__ k_Library___eq__⟩,
    ⟨_, _, PySem.W.mg_of X G a__law_dice, fun_mk (st := s__law_dice) l__law_dice c__law_dice k__law_dice⟩,
    ⟨_, _, PySem.W.mg_of X G a__law_roll, fun_mk (st := s__law_roll) l__law_roll c__law_roll k__law_roll⟩,
    ⟨_, _, PySem.W.mg_of X G a__law_pick, fun_mk (st := s__law_pick) l__law_pick c__law_pick k__law_pick⟩,
    ⟨_, _, PySem.W.mg_of X G a__law_some, fun_mk (st := s__law_some) l__law_some c__law_some k__law_some⟩,
    ⟨_, _, PySem.W.mg_of X G a__law_text, fun_mk (st := s__law_text) l__law_text c__law_text k__law_text⟩,
    ⟨_, _, PySem.W.mg_of X G a__law_atoms_of, fun_mk (st := s__law_atoms_of) l__law_atoms_of c__law_atoms_of k__law_atoms_of⟩,
    ⟨_, _, PySem.W.mg_of X G a__law_kind, fun_mk (st := s__law_kind) l__law_kind c__law_kind k__law_kind⟩,
    ⟨_, _, PySem.W.mg_of X G a__law_made_kind, fun_mk (st := s__law_made_kind) l__law_made_kind c__law_made_kind k__law_made_kind⟩,
    ⟨_, _, PySem.W.mg_of X G a__law_library, fun_mk (st := s__law_library) l__law_library c__law_library k__law_library⟩,
    ⟨_, _, PySem.W.mg_of X G a__law_known_library, fun_mk (st := s__law_known_library) l__law_known_library c__law_known_library k__law_known_library⟩,
    ⟨_, _, PySem.W.mg_of X G a__law_lines, fun_mk (st := s__law_lines) l__law_lines c__law_lines k__law_lines⟩,
    ⟨_, _, PySem.W.mg_of X G a__law_made, fun_mk (st := s__law_made) l__law_made c__law_made k__law_made⟩,
    ⟨_, _, PySem.W.mg_of X G a__law_told, fun_mk (st := s__law_told) l__law_told c__law_told k__law_told⟩,
    ⟨_, _, PySem.W.mg_of X G a__law_spoilt, fun_mk (st := s__law_spoilt) l__law_spoilt c__law_spoilt k__law_spoilt⟩,
    ⟨_, _, PySem.W.mg_of X G a__law_right, fun_mk (st := s__law_right) l__law_right c__law_right k__law_right⟩,
    ⟨_, _, PySem.W.mg_of X G a__law_nine, fun_mk (st := s__law_nine) l__law_nine c__law_nine k__law_nine⟩,
    ⟨_, _, PySem.W.mg_of X G a_law, fun_mk (st := s_law) l_law c_law k_law⟩,
    ⟨PySem.W.mg_of X G xa_BuildError, xe_BuildError, xk_BuildError, xs_BuildError, xt_BuildError⟩,
    xcF_mk (st := s_ParseError___init__) (PySem.W.mg_of X G xa_ParseError) xq_ParseError xv_ParseError xS_ParseError xn_ParseError xh_ParseError xc_ParseError xf_ParseError l_ParseError___init__ c_ParseError___init__ ⟨by decide, by decide, ⟨_, _, rfl⟩, ⟨_, _, _, _, rfl⟩, rfl⟩ (fun _ _ => rfl) xk_ParseError xs_ParseError xt_ParseError xg_ParseError xG_ParseError,
    ⟨PySem.W.mg_of X G xa_InvalidLibrary, xe_InvalidLibrary, xk_InvalidLibrary, xs_InvalidLibrary, xt_InvalidLibrary⟩,
    ⟨PySem.W.mg_of X G xa_InvalidWord, xe_InvalidWord, xk_InvalidWord, xs_InvalidWord, xt_InvalidWord⟩,
    ⟨PySem.W.mg_of X G xa_InvalidType, xe_InvalidType, xk_InvalidType, xs_InvalidType, xt_InvalidType⟩,
    (CatF.cons (b := true) (PySem.W.mg_of X G xa_BuildError) (exm_sub xi_BuildError xt_BuildError xs_BuildError xo_BuildError_BuildError) (by decide +kernel) (CatF.cons (b := true) (PySem.W.mg_of X G xa_ParseError) (exm_sub xi_BuildError xt_BuildError xs_BuildError xo_ParseError_BuildError) (by decide +kernel) (CatF.cons (b := true) (PySem.W.mg_of X G xa_InvalidLibrary) (exm_sub xi_BuildError xt_BuildError xs_BuildError xo_InvalidLibrary_BuildError) (by decide +kernel) (CatF.cons (b := true) (PySem.W.mg_of X G xa_InvalidWord) (exm_sub xi_BuildError xt_BuildError xs_BuildError xo_InvalidWord_BuildError) (by decide +kernel) (CatF.cons (b := true) (PySem.W.mg_of X G xa_InvalidType) (exm_sub xi_BuildError xt_BuildError xs_BuildError xo_InvalidType_BuildError) (by decide +kernel) CatF.none))))),
    (CatF.cons (b := false) (PySem.W.mg_of X G xa_BuildError) (exm_sub xi_ParseError xt_ParseError xs_ParseError xo_BuildError_ParseError) (by decide +kernel) (CatF.cons (b := true) (PySem.W.mg_of X G xa_ParseError) (exm_sub xi_ParseError xt_ParseError xs_ParseError xo_ParseError_ParseError) (by decide +kernel) (CatF.cons (b := false) (PySem.W.mg_of X G xa_InvalidLibrary) (exm_sub xi_ParseError xt_ParseError xs_ParseError xo_InvalidLibrary_ParseError) (by decide +kernel) (CatF.cons (b := false) (PySem.W.mg_of X G xa_InvalidWord) (exm_sub xi_ParseError xt_ParseError xs_ParseError xo_InvalidWord_ParseError) (by decide +kernel) (CatF.cons (b := false) (PySem.W.mg_of X G xa_InvalidType) (exm_sub xi_ParseError xt_ParseError xs_ParseError xo_InvalidType_ParseError) (by decide +kernel) CatF.none))))),
    (CatF.cons (b := false) (PySem.W.mg_of X G xa_BuildError) (exm_sub xi_InvalidLibrary xt_InvalidLibrary xs_InvalidLibrary xo_BuildError_InvalidLibrary) (by decide +kernel) (CatF.cons (b := false) (PySem.W.mg_of X G xa_ParseError) (exm_sub xi_InvalidLibrary xt_InvalidLibrary xs_InvalidLibrary xo_ParseError_InvalidLibrary) (by decide +kernel) (CatF.cons (b := true) (PySem.W.mg_of X G xa_InvalidLibrary) (exm_sub xi_InvalidLibrary xt_InvalidLibrary xs_InvalidLibrary xo_InvalidLibrary_InvalidLibrary) (by decide +kernel) (CatF.cons (b := false) (PySem.W.mg_of X G xa_InvalidWord) (exm_sub xi_InvalidLibrary xt_InvalidLibrary xs_InvalidLibrary xo_InvalidWord_InvalidLibrary) (by decide +kernel) (CatF.cons (b := false) (PySem.W.mg_of X G xa_InvalidType) (exm_sub xi_InvalidLibrary xt_InvalidLibrary xs_InvalidLibrary xo_InvalidType_InvalidLibrary) (by decide +kernel) CatF.none))))),
    (CatF.cons (b := false) (PySem.W.mg_of X G xa_BuildError) (exm_sub xi_InvalidWord xt_InvalidWord xs_InvalidWord xo_BuildError_InvalidWord) (by decide +kernel) (CatF.cons (b := false) (PySem.W.mg_of X G xa_ParseError) (exm_sub xi_InvalidWord xt_InvalidWord xs_InvalidWord xo_ParseError_InvalidWord) (by decide +kernel) (CatF.cons (b := false) (PySem.W.mg_of X G xa_InvalidLibrary) (exm_sub xi_InvalidWord xt_InvalidWord xs_InvalidWord xo_InvalidLibrary_InvalidWord) (by decide +kernel) (CatF.cons (b := true) (PySem.W.mg_of X G xa_InvalidWord) (exm_sub xi_InvalidWord xt_InvalidWord xs_InvalidWord xo_InvalidWord_InvalidWord) (by decide +kernel) (CatF.cons (b := false) (PySem.W.mg_of X G xa_InvalidType) (exm_sub xi_InvalidWord xt_InvalidWord xs_InvalidWord xo_InvalidType_InvalidWord) (by decide +kernel) CatF.none))))),
    (CatF.cons (b := false) (PySem.W.mg_of X G xa_BuildError) (exm_sub xi_InvalidType xt_InvalidType xs_InvalidType xo_BuildError_InvalidType) (by decide +kernel) (CatF.cons (b := false) (PySem.W.mg_of X G xa_ParseError) (exm_sub xi_InvalidType xt_InvalidType xs_InvalidType xo_ParseError_InvalidType) (by decide +kernel) (CatF.cons (b := false) (PySem.W.mg_of X G xa_InvalidLibrary) (exm_sub xi_InvalidType xt_InvalidType xs_InvalidType xo_InvalidLibrary_InvalidType) (by decide +kernel) (CatF.cons (b := false) (PySem.W.mg_of X G xa_InvalidWord) (exm_sub xi_InvalidType xt_InvalidType xs_InvalidType xo_InvalidWord_InvalidType) (by decide +kernel) (CatF.cons (b := true) (PySem.W.mg_of X G xa_InvalidType) (exm_sub xi_InvalidType xt_InvalidType xs_InvalidType xo_InvalidType_InvalidType) (by decide +kernel) CatF.none)))))⟩⟩
open KP
theorem ok_all {P : Program} {w : World} {mg : Gm} {base : Heap} (A : ∃ Z, All mg Z) : DefOk P w mg base 19 "law" 1 f_law := by
  obtain ⟨Z, A⟩ := A
  have g_Library___eq__ := ok_Library___eq__ (P := P) (w := w) (base := base) A 
  have g_Type___str__ := ok_Type___str__ (P := P) (w := w) (base := base) A 
  have g_ascending_rows := ok_ascending_rows (P := P) (w := w) (base := base) A 
  have g_is_word := ok_is_word (P := P) (w := w) (base := base) A 
  have g_is_parts := ok_is_parts (P := P) (w := w) (base := base) A g_is_word
  have g_Library___init__ := ok_Library___init__ (P := P) (w := w) (base := base) A g_Type___str__ g_ascending_rows g_is_parts
  have g_Library___len__ := ok_Library___len__ (P := P) (w := w) (base := base) A 
  have g_input_text := ok_input_text (P := P) (w := w) (base := base) A 
  have g_order_of := ok_order_of (P := P) (w := w) (base := base) A 
  have g_Type___init__ := ok_Type___init__ (P := P) (w := w) (base := base) A g_input_text g_is_word g_order_of
  have gK_Type___init__ := initK g_Type___init__
  have g_kind_in := rs_kind_in (P := P) (w := w) (base := base) A g_Type___init__ 6
  have g_KindReader___init__ := ok_KindReader___init__ (P := P) (w := w) (base := base) A 
  have g_KindReader_result := ok_KindReader_result (P := P) (w := w) (base := base) A 
  have g_KindReader_take_end := ok_KindReader_take_end (P := P) (w := w) (base := base) A 
  have g_KindReader_take := ok_KindReader_take (P := P) (w := w) (base := base) A g_KindReader_take_end g_is_word
  have g_signs_of := ok_signs_of (P := P) (w := w) (base := base) A 
  have g_shape_of := ok_shape_of (P := P) (w := w) (base := base) A g_KindReader___init__ g_KindReader_result g_KindReader_take g_signs_of
  have g_type_of_text := ok_type_of_text (P := P) (w := w) (base := base) A g_kind_in g_shape_of
  have g_Type_read := ok_Type_read (P := P) (w := w) (base := base) A g_type_of_text
  have g_part_of_line := ok_part_of_line (P := P) (w := w) (base := base) A g_Type_read g_is_word
  have g_Library_read := ok_Library_read (P := P) (w := w) (base := base) A g_Library___init__ g_part_of_line
  have g__law_dice := ok__law_dice (P := P) (w := w) (base := base) A 
  have g__law_nine := ok__law_nine (P := P) (w := w) (base := base) A g_Library_read
  have g_Library_lines := ok_Library_lines (P := P) (w := w) (base := base) A 
  have g__law_atoms_of := rs__law_atoms_of (P := P) (w := w) (base := base) A  5
  have g__law_roll := ok__law_roll (P := P) (w := w) (base := base) A 
  have g__law_pick := ok__law_pick (P := P) (w := w) (base := base) A g__law_roll
  have g__law_kind := rs__law_kind (P := P) (w := w) (base := base) A g__law_atoms_of g__law_pick g__law_roll 5
  have g__law_known_library := ok__law_known_library (P := P) (w := w) (base := base) A g__law_pick
  have g__law_some := ok__law_some (P := P) (w := w) (base := base) A g__law_roll
  have g__law_library := ok__law_library (P := P) (w := w) (base := base) A g__law_kind g__law_known_library g__law_pick g__law_roll g__law_some
  have g__law_text := rs__law_text (P := P) (w := w) (base := base) A  5
  have g__law_lines := ok__law_lines (P := P) (w := w) (base := base) A g__law_text
  have g__law_made_kind := rs__law_made_kind (P := P) (w := w) (base := base) A gK_Type___init__ 5
  have g__law_made := ok__law_made (P := P) (w := w) (base := base) A g_Library___init__ g__law_made_kind
  have g__law_spoilt := ok__law_spoilt (P := P) (w := w) (base := base) A g__law_pick
  have g__law_told := ok__law_told (P := P) (w := w) (base := base) A g_Library_read
  have g__law_right := ok__law_right (P := P) (w := w) (base := base) A g_Library___eq__ g_Library_lines g__law_library g__law_lines g__law_made g__law_pick g__law_roll g__law_some g__law_spoilt g__law_told
  have g_law := ok_law (P := P) (w := w) (base := base) A g_Library___eq__ g_Library___init__ g_Library___len__ g_Library_read g__law_dice g__law_nine g__law_right g__law_told
  exact g_law
end K11
open PySem PySem.W PyProof.Rows in
set_option maxRecDepth 100000 in
set_option maxHeartbeats 0 in
theorem PySem.Challenge.cw_fromparts_k11_whole_libraries_and_their_holds : PySem.Challenge.rw_fromparts_k11_whole_libraries_and_their.Holds := by
  w_on; o_law; k_head; (case hw => w_witness2)
  k_fill
  letI : FP.Tabl := ⟨[]⟩
  refine FP.walkG (l := PySem.Challenge.rw_fromparts_k11_whole_libraries_and_their) (f := KP.f_law) (k := 19) rfl rfl rfl ⟨⟨rfl, by decide, by decide⟩, rfl⟩ (fun w h Y => PySem.W.kIn_of Y) ?F (fun ns h => ⟨⟨ns, rfl, h⟩, rfl⟩)
  case F =>
    intro w mg h KX G base
    refine K11.ok_all ?A
    refine' K11.all_mk KX G ?z_abs ?z_all ?z_dict ?z_enumerate ?z_int ?z_isinstance ?z_len ?z_list ?z_max ?z_min ?z_range ?z_repr ?z_set ?z_sorted ?z_str ?z_tuple ?y_ARROW ?y_COLON ?y_LETTERS ?y_MAX_LETTERS ?y_MAX_ORDER ?y_MAX_PARTS ?y_MAX_PLACES ?aC_KindReader ?pg_KindReader ?hd_KindReader ?po_KindReader ?sa_KindReader ?ha_KindReader ?hn_KindReader ?ht_KindReader ?hm_KindReader ?fa_KindReader_of_rows ?fa_KindReader_of_wants ?aC_Type ?pg_Type ?hd_Type ?po_Type ?sa_Type ?ha_Type ?hn_Type ?ht_Type ?hm_Type ?fa_Type_own_args ?fa_Type_own_atom ?fa_Type_own_places ?fa_Type_own_order ?fa_Type_own_text ?ic_Type ?ty_Type ?ki0_Type ?ki1_Type ?ki2_Type ?ki3_Type ?ki4_Type ?ki5_Type ?ki6_Type ?aC_Library ?pg_Library ?hd_Library ?po_Library ?sa_Library ?ha_Library ?hn_Library ?ht_Library ?hm_Library ?fa_Library_own_parts ?fa_Library_own_names ?fa_Library_own_lines ?fa_Library_own_scope ?ic_Library ?ty_Library ?ki0_Library ?ki1_Library ?ki2_Library ?ki3_Library ?ki4_Library ?ki5_Library ?ki6_Library ?nf0_Library ?nf1_Library ?nf2_Library ?nf3_Library ?nf4_Library ?nf5_Library ?nf6_Library ?nf7_Library ?nn_Library ?fm_Type ?sb_str_Library ?sb_str_Type ?a_is_word ?l_is_word ?c_is_word ?k_is_word ?a_ascending_rows ?l_ascending_rows ?c_ascending_rows ?k_ascending_rows ?a_signs_of ?l_signs_of ?c_signs_of ?k_signs_of ?a_KindReader___init__ ?i_KindReader___init__ ?l_KindReader___init__ ?c_KindReader___init__ ?k_KindReader___init__ ?mk_KindReader ?kk_KindReader ?a_KindReader_take ?i_KindReader_take ?l_KindReader_take ?c_KindReader_take ?k_KindReader_take ?a_KindReader_take_end ?i_KindReader_take_end ?l_KindReader_take_end ?c_KindReader_take_end ?k_KindReader_take_end ?a_KindReader_result ?i_KindReader_result ?l_KindReader_result ?c_KindReader_result ?k_KindReader_result ?a_shape_of ?l_shape_of ?c_shape_of ?k_shape_of ?a_kind_in ?l_kind_in ?c_kind_in ?k_kind_in ?a_order_of ?l_order_of ?c_order_of ?k_order_of ?a_input_text ?l_input_text ?c_input_text ?k_input_text ?a_Type___init__ ?i_Type___init__ ?l_Type___init__ ?c_Type___init__ ?k_Type___init__ ?mk_Type ?kk_Type ?rd_Type_read ?ga_Type_read ?a_Type_read ?r_Type_read ?fi_Type_read ?l_Type_read ?c_Type_read ?k_Type_read ?a_Type___str__ ?i_Type___str__ ?fi_Type___str__ ?l_Type___str__ ?c_Type___str__ ?k_Type___str__ ?a_type_of_text ?l_type_of_text ?c_type_of_text ?k_type_of_text ?a_is_parts ?l_is_parts ?c_is_parts ?k_is_parts ?a_part_of_line ?l_part_of_line ?c_part_of_line ?k_part_of_line ?a_Library___init__ ?i_Library___init__ ?l_Library___init__ ?c_Library___init__ ?k_Library___init__ ?dv_Library___init__ ?mk_Library ?kk_Library ?rd_Library_read ?ga_Library_read ?a_Library_read ?r_Library_read ?fi_Library_read ?l_Library_read ?c_Library_read ?k_Library_read ?a_Library_lines ?g_Library_lines ?t_Library_lines ?r_Library_lines ?l_Library_lines ?c_Library_lines ?k_Library_lines ?a_Library___len__ ?i_Library___len__ ?fi_Library___len__ ?l_Library___len__ ?c_Library___len__ ?k_Library___len__ ?a_Library___eq__ ?i_Library___eq__ ?fi_Library___eq__ ?l_Library___eq__ ?c_Library___eq__ ?k_Library___eq__ ?a__law_dice ?l__law_dice ?c__law_dice ?k__law_dice ?a__law_roll ?l__law_roll ?c__law_roll ?k__law_roll ?a__law_pick ?l__law_pick ?c__law_pick ?k__law_pick ?a__law_some ?l__law_some ?c__law_some ?k__law_some ?a__law_text ?l__law_text ?c__law_text ?k__law_text ?a__law_atoms_of ?l__law_atoms_of ?c__law_atoms_of ?k__law_atoms_of ?a__law_kind ?l__law_kind ?c__law_kind ?k__law_kind ?a__law_made_kind ?l__law_made_kind ?c__law_made_kind ?k__law_made_kind ?a__law_library ?l__law_library ?c__law_library ?k__law_library ?a__law_known_library ?l__law_known_library ?c__law_known_library ?k__law_known_library ?a__law_lines ?l__law_lines ?c__law_lines ?k__law_lines ?a__law_made ?l__law_made ?c__law_made ?k__law_made ?a__law_told ?l__law_told ?c__law_told ?k__law_told ?a__law_spoilt ?l__law_spoilt ?c__law_spoilt ?k__law_spoilt ?a__law_right ?l__law_right ?c__law_right ?k__law_right ?a__law_nine ?l__law_nine ?c__law_nine ?k__law_nine ?a_law ?l_law ?c_law ?k_law ?xa_BuildError ?xe_BuildError ?xk_BuildError ?xs_BuildError ?xt_BuildError ?xa_ParseError ?xq_ParseError ?xv_ParseError ?xS_ParseError ?xn_ParseError ?xh_ParseError ?xc_ParseError ?xf_ParseError ?l_ParseError___init__ ?c_ParseError___init__ ?xk_ParseError ?xs_ParseError ?xt_ParseError ?xg_ParseError ?xG_ParseError ?xa_InvalidLibrary ?xe_InvalidLibrary ?xk_InvalidLibrary ?xs_InvalidLibrary ?xt_InvalidLibrary ?xa_InvalidWord ?xe_InvalidWord ?xk_InvalidWord ?xs_InvalidWord ?xt_InvalidWord ?xa_InvalidType ?xe_InvalidType ?xk_InvalidType ?xs_InvalidType ?xt_InvalidType ?xi_BuildError ?xo_InvalidType_BuildError ?xo_InvalidWord_BuildError ?xo_InvalidLibrary_BuildError ?xo_ParseError_BuildError ?xo_BuildError_BuildError ?xi_ParseError ?xo_InvalidType_ParseError ?xo_InvalidWord_ParseError ?xo_InvalidLibrary_ParseError ?xo_ParseError_ParseError ?xo_BuildError_ParseError ?xi_InvalidLibrary ?xo_InvalidType_InvalidLibrary ?xo_InvalidWord_InvalidLibrary ?xo_InvalidLibrary_InvalidLibrary ?xo_ParseError_InvalidLibrary ?xo_BuildError_InvalidLibrary ?xi_InvalidWord ?xo_InvalidType_InvalidWord ?xo_InvalidWord_InvalidWord ?xo_InvalidLibrary_InvalidWord ?xo_ParseError_InvalidWord ?xo_BuildError_InvalidWord ?xi_InvalidType ?xo_InvalidType_InvalidType ?xo_InvalidWord_InvalidType ?xo_InvalidLibrary_InvalidType ?xo_ParseError_InvalidType ?xo_BuildError_InvalidType
    (case z_abs => k_is)
    (case z_all => k_is)
    (case z_dict => k_is)
    (case z_enumerate => k_is)
    (case z_int => k_is)
    (case z_isinstance => k_is)
    (case z_len => k_is)
    (case z_list => k_is)
    (case z_max => k_is)
    (case z_min => k_is)
    (case z_range => k_is)
    (case z_repr => k_is)
    (case z_set => k_is)
    (case z_sorted => k_is)
    (case z_str => k_is)
    (case z_tuple => k_is)
    (case y_ARROW => k_is)
    (case y_COLON => k_is)
    (case y_LETTERS => k_is)
    (case y_MAX_LETTERS => k_is)
    (case y_MAX_ORDER => k_is)
    (case y_MAX_PARTS => k_is)
    (case y_MAX_PLACES => k_is)
    (case aC_KindReader => k_is)
    (case pg_KindReader => k_is)
    (case hd_KindReader => k_is)
    (case po_KindReader => k_is)
    (case sa_KindReader => k_is)
    (case ha_KindReader => k_is)
    (case hn_KindReader => k_is)
    (case ht_KindReader => k_is)
    (case hm_KindReader => k_is)
    (case fa_KindReader_of_rows => k_is)
    (case fa_KindReader_of_wants => k_is)
    (case aC_Type => k_is)
    (case pg_Type => k_is)
    (case hd_Type => k_is)
    (case po_Type => k_is)
    (case sa_Type => k_is)
    (case ha_Type => k_is)
    (case hn_Type => k_is)
    (case ht_Type => k_is)
    (case hm_Type => k_is)
    (case fa_Type_own_args => k_is)
    (case fa_Type_own_atom => k_is)
    (case fa_Type_own_places => k_is)
    (case fa_Type_own_order => k_is)
    (case fa_Type_own_text => k_is)
    (case ic_Type => k_is)
    (case ty_Type => k_is)
    (case ki0_Type => k_is)
    (case ki1_Type => k_is)
    (case ki2_Type => k_is)
    (case ki3_Type => k_is)
    (case ki4_Type => k_is)
    (case ki5_Type => k_is)
    (case ki6_Type => k_is)
    (case aC_Library => k_is)
    (case pg_Library => k_is)
    (case hd_Library => k_is)
    (case po_Library => k_is)
    (case sa_Library => k_is)
    (case ha_Library => k_is)
    (case hn_Library => k_is)
    (case ht_Library => k_is)
    (case hm_Library => k_is)
    (case fa_Library_own_parts => k_is)
    (case fa_Library_own_names => k_is)
    (case fa_Library_own_lines => k_is)
    (case fa_Library_own_scope => k_is)
    (case ic_Library => k_is)
    (case ty_Library => k_is)
    (case ki0_Library => k_is)
    (case ki1_Library => k_is)
    (case ki2_Library => k_is)
    (case ki3_Library => k_is)
    (case ki4_Library => k_is)
    (case ki5_Library => k_is)
    (case ki6_Library => k_is)
    (case nf0_Library => k_is)
    (case nf1_Library => k_is)
    (case nf2_Library => k_is)
    (case nf3_Library => k_is)
    (case nf4_Library => k_is)
    (case nf5_Library => k_is)
    (case nf6_Library => k_is)
    (case nf7_Library => k_is)
    (case nn_Library => k_is)
    (case fm_Type => k_is)
    (case sb_str_Library => k_is)
    (case sb_str_Type => k_is)
    (case a_is_word => k_is)
    (case l_is_word => k_is)
    (case c_is_word => k_is)
    (case k_is_word => k_is)
    (case a_ascending_rows => k_is)
    (case l_ascending_rows => k_is)
    (case c_ascending_rows => k_is)
    (case k_ascending_rows => k_is)
    (case a_signs_of => k_is)
    (case l_signs_of => k_is)
    (case c_signs_of => k_is)
    (case k_signs_of => k_is)
    (case a_KindReader___init__ => k_is)
    (case i_KindReader___init__ => k_is)
    (case l_KindReader___init__ => k_is)
    (case c_KindReader___init__ => k_is)
    (case k_KindReader___init__ => k_is)
    (case mk_KindReader => k_is)
    (case kk_KindReader => k_is)
    (case a_KindReader_take => k_is)
    (case i_KindReader_take => k_is)
    (case l_KindReader_take => k_is)
    (case c_KindReader_take => k_is)
    (case k_KindReader_take => k_is)
    (case a_KindReader_take_end => k_is)
    (case i_KindReader_take_end => k_is)
    (case l_KindReader_take_end => k_is)
    (case c_KindReader_take_end => k_is)
    (case k_KindReader_take_end => k_is)
    (case a_KindReader_result => k_is)
    (case i_KindReader_result => k_is)
    (case l_KindReader_result => k_is)
    (case c_KindReader_result => k_is)
    (case k_KindReader_result => k_is)
    (case a_shape_of => k_is)
    (case l_shape_of => k_is)
    (case c_shape_of => k_is)
    (case k_shape_of => k_is)
    (case a_kind_in => k_is)
    (case l_kind_in => k_is)
    (case c_kind_in => k_is)
    (case k_kind_in => k_is)
    (case a_order_of => k_is)
    (case l_order_of => k_is)
    (case c_order_of => k_is)
    (case k_order_of => k_is)
    (case a_input_text => k_is)
    (case l_input_text => k_is)
    (case c_input_text => k_is)
    (case k_input_text => k_is)
    (case a_Type___init__ => k_is)
    (case i_Type___init__ => k_is)
    (case l_Type___init__ => k_is)
    (case c_Type___init__ => k_is)
    (case k_Type___init__ => k_is)
    (case mk_Type => k_is)
    (case kk_Type => k_is)
    (case rd_Type_read => k_is)
    (case ga_Type_read => k_is)
    (case a_Type_read => k_is)
    (case r_Type_read => k_is)
    (case fi_Type_read => k_is)
    (case l_Type_read => k_is)
    (case c_Type_read => k_is)
    (case k_Type_read => k_is)
    (case a_Type___str__ => k_is)
    (case i_Type___str__ => k_is)
    (case fi_Type___str__ => k_is)
    (case l_Type___str__ => k_is)
    (case c_Type___str__ => k_is)
    (case k_Type___str__ => k_is)
    (case a_type_of_text => k_is)
    (case l_type_of_text => k_is)
    (case c_type_of_text => k_is)
    (case k_type_of_text => k_is)
    (case a_is_parts => k_is)
    (case l_is_parts => k_is)
    (case c_is_parts => k_is)
    (case k_is_parts => k_is)
    (case a_part_of_line => k_is)
    (case l_part_of_line => k_is)
    (case c_part_of_line => k_is)
    (case k_part_of_line => k_is)
    (case a_Library___init__ => k_is)
    (case i_Library___init__ => k_is)
    (case l_Library___init__ => k_is)
    (case c_Library___init__ => k_is)
    (case k_Library___init__ => k_is)
    (case dv_Library___init__ => k_is)
    (case mk_Library => k_is)
    (case kk_Library => k_is)
    (case rd_Library_read => k_is)
    (case ga_Library_read => k_is)
    (case a_Library_read => k_is)
    (case r_Library_read => k_is)
    (case fi_Library_read => k_is)
    (case l_Library_read => k_is)
    (case c_Library_read => k_is)
    (case k_Library_read => k_is)
    (case a_Library_lines => k_is)
    (case g_Library_lines => k_is)
    (case t_Library_lines => k_is)
    (case r_Library_lines => k_is)
    (case l_Library_lines => k_is)
    (case c_Library_lines => k_is)
    (case k_Library_lines => k_is)
    (case a_Library___len__ => k_is)
    (case i_Library___len__ => k_is)
    (case fi_Library___len__ => k_is)
    (case l_Library___len__ => k_is)
    (case c_Library___len__ => k_is)
    (case k_Library___len__ => k_is)
    (case a_Library___eq__ => k_is)
    (case i_Library___eq__ => k_is)
    (case fi_Library___eq__ => k_is)
    (case l_Library___eq__ => k_is)
    (case c_Library___eq__ => k_is)
    (case k_Library___eq__ => k_is)
    (case a__law_dice => k_is)
    (case l__law_dice => k_is)
    (case c__law_dice => k_is)
    (case k__law_dice => k_is)
    (case a__law_roll => k_is)
    (case l__law_roll => k_is)
    (case c__law_roll => k_is)
    (case k__law_roll => k_is)
    (case a__law_pick => k_is)
    (case l__law_pick => k_is)
    (case c__law_pick => k_is)
    (case k__law_pick => k_is)
    (case a__law_some => k_is)
    (case l__law_some => k_is)
    (case c__law_some => k_is)
    (case k__law_some => k_is)
    (case a__law_text => k_is)
    (case l__law_text => k_is)
    (case c__law_text => k_is)
    (case k__law_text => k_is)
    (case a__law_atoms_of => k_is)
    (case l__law_atoms_of => k_is)
    (case c__law_atoms_of => k_is)
    (case k__law_atoms_of => k_is)
    (case a__law_kind => k_is)
    (case l__law_kind => k_is)
    (case c__law_kind => k_is)
    (case k__law_kind => k_is)
    (case a__law_made_kind => k_is)
    (case l__law_made_kind => k_is)
    (case c__law_made_kind => k_is)
    (case k__law_made_kind => k_is)
    (case a__law_library => k_is)
    (case l__law_library => k_is)
    (case c__law_library => k_is)
    (case k__law_library => k_is)
    (case a__law_known_library => k_is)
    (case l__law_known_library => k_is)
    (case c__law_known_library => k_is)
    (case k__law_known_library => k_is)
    (case a__law_lines => k_is)
    (case l__law_lines => k_is)
    (case c__law_lines => k_is)
    (case k__law_lines => k_is)
    (case a__law_made => k_is)
    (case l__law_made => k_is)
    (case c__law_made => k_is)
    (case k__law_made => k_is)
    (case a__law_told => k_is)
    (case l__law_told => k_is)
    (case c__law_told => k_is)
    (case k__law_told => k_is)
    (case a__law_spoilt => k_is)
    (case l__law_spoilt => k_is)
    (case c__law_spoilt => k_is)
    (case k__law_spoilt => k_is)
    (case a__law_right => k_is)
    (case l__law_right => k_is)
    (case c__law_right => k_is)
    (case k__law_right => k_is)
    (case a__law_nine => k_is)
    (case l__law_nine => k_is)
    (case c__law_nine => k_is)
    (case k__law_nine => k_is)
    (case a_law => k_is)
    (case l_law => k_is)
    (case c_law => k_is)
    (case k_law => k_is)
    (case xa_BuildError => k_is)
    (case xe_BuildError => k_exc)
    (case xk_BuildError => k_is)
    (case xs_BuildError => k_is)
    (case xt_BuildError => k_is)
    (case xa_ParseError => k_is)
    (case xq_ParseError => kx_is)
    (case xv_ParseError => kx_is)
    (case xS_ParseError => k_is)
    (case xn_ParseError => k_is)
    (case xh_ParseError => k_is)
    (case xc_ParseError => k_is)
    (case xf_ParseError => k_is)
    (case l_ParseError___init__ => k_is)
    (case c_ParseError___init__ => k_is)
    (case xk_ParseError => k_is)
    (case xs_ParseError => k_is)
    (case xt_ParseError => k_is)
    (case xg_ParseError => k_is)
    (case xG_ParseError => k_is)
    (case xa_InvalidLibrary => k_is)
    (case xe_InvalidLibrary => k_exc)
    (case xk_InvalidLibrary => k_is)
    (case xs_InvalidLibrary => k_is)
    (case xt_InvalidLibrary => k_is)
    (case xa_InvalidWord => k_is)
    (case xe_InvalidWord => k_exc)
    (case xk_InvalidWord => k_is)
    (case xs_InvalidWord => k_is)
    (case xt_InvalidWord => k_is)
    (case xa_InvalidType => k_is)
    (case xe_InvalidType => k_exc)
    (case xk_InvalidType => k_is)
    (case xs_InvalidType => k_is)
    (case xt_InvalidType => k_is)
    (case xi_BuildError => k_is)
    (case xo_InvalidType_BuildError => k_is)
    (case xo_InvalidWord_BuildError => k_is)
    (case xo_InvalidLibrary_BuildError => k_is)
    (case xo_ParseError_BuildError => k_is)
    (case xo_BuildError_BuildError => k_is)
    (case xi_ParseError => k_is)
    (case xo_InvalidType_ParseError => k_is)
    (case xo_InvalidWord_ParseError => k_is)
    (case xo_InvalidLibrary_ParseError => k_is)
    (case xo_ParseError_ParseError => k_is)
    (case xo_BuildError_ParseError => k_is)
    (case xi_InvalidLibrary => k_is)
    (case xo_InvalidType_InvalidLibrary => k_is)
    (case xo_InvalidWord_InvalidLibrary => k_is)
    (case xo_InvalidLibrary_InvalidLibrary => k_is)
    (case xo_ParseError_InvalidLibrary => k_is)
    (case xo_BuildError_InvalidLibrary => k_is)
    (case xi_InvalidWord => k_is)
    (case xo_InvalidType_InvalidWord => k_is)
    (case xo_InvalidWord_InvalidWord => k_is)
    (case xo_InvalidLibrary_InvalidWord => k_is)
    (case xo_ParseError_InvalidWord => k_is)
    (case xo_BuildError_InvalidWord => k_is)
    (case xi_InvalidType => k_is)
    (case xo_InvalidType_InvalidType => k_is)
    (case xo_InvalidWord_InvalidType => k_is)
    (case xo_InvalidLibrary_InvalidType => k_is)
    (case xo_ParseError_InvalidType => k_is)
    (case xo_BuildError_InvalidType => k_is)
#print axioms PySem.Challenge.cw_fromparts_k11_whole_libraries_and_their_holds
