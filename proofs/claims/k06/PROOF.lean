import PyProof.Rows.All
import Wide.All
import OpenK.AllK
import Wide.FinOn
import HandS.ForMost
import HandS.ForExc
import HandS.Walk
import HandS.IsInst
import HandS.RaiseMore
import HandS.TupAny
import HandS.Lambda
import HandS.NoneIn
import HandS.Wide
import PyProof.ListStr
import PyProof.ReprRoads
import HandS.More
import HandS.Property
import KE.KCallOwn
import HandS.Set
import PyProof.Rows.SortShellAny
import HandS.Star
import HandS.FStr
import HandS.DictComp
import HandS.IterVal
import KE.KOwnIter
import HandS.ClsMeth
import KE.KEqNest
import KE.KMinBuiltin
import OpenK.KMeth
import HandS.EndTab
import KE.KExcInit
import HandS.ExcField
import HandS.TryMany
import KE.GoesMore
import HandS.Zip
import KE.KDictZip
import KE.KExcLine
import PySem.Challenge.RW_fromparts_k06_whole_atoms_exchanged
set_option Elab.async false
set_option linter.all false
set_option maxRecDepth 100000
set_option maxHeartbeats 4000000

/-! FP1: a heap-free layer over HandS: data D, worlds, judgements whose readings speak of data alone. -/
namespace FP
open PySem L2

/-- a world: what never changes; what may change under all (the dice, the tables of code); the dice -/
structure Wd where
  H : Hp
  T : Addr → Prop
  Dc : Addr → Prop
/-- data without addresses (a lambda at hand is told by its place and the world at its making) -/
inductive D where
  | non | bl (b : Bool) | int (i : Int) | str (x : Str)
  | tup (xs : List D) | lst (xs : List D) | fz (xs : List D)
  | dct (kvs : List (Key × D)) | ins (c : Str) (fs : List (Str × D)) | tok | cl (c : Str)
  | fn (f : Addr) (W : Wd)

/-- the module: its names, the written part -/
structure Gm where
  mg : Str → Option Value
  K : PySem.W.Frag
/-- the tables of code, with the names of what is made there -/
class Tabl where
  B : List (Addr × Str)
variable [Tabl]

structure Le (W W' : Wd) : Prop where
  h : Same W.H W'.H
  t : ∀ a, W.T a → W'.T a
  dc : ∀ a, W.Dc a → W'.Dc a
theorem Le.refl (W : Wd) : Le W W := ⟨Same.refl _, fun _ h => h, fun _ h => h⟩
theorem Le.trans {W W1 W2 : Wd} (a : Le W W1) (b : Le W1 W2) : Le W W2 := ⟨a.h.trans b.h, fun x h => b.t x (a.t x h), fun x h => b.dc x (a.dc x h)⟩

mutual
inductive Rep (mg : Gm) (W : Wd) : V → D → Prop
  | non : Rep mg W .non .non
  | bl (b : Bool) : Rep mg W (.bl b) (.bl b)
  | int (i : Int) : Rep mg W (.int i) (.int i)
  | str (x : Str) : Rep mg W (.str x) (.str x)
  | tup {a : Addr} {vs : List V} {ds : List D} : W.H a = some (.tup vs) → Reps mg W vs ds → Rep mg W (.ref a) (.tup ds)
  | lst {a : Addr} {vs : List V} {ds : List D} : W.H a = some (.lst vs) → Reps mg W vs ds → Rep mg W (.ref a) (.lst ds)
  | fz {a : Addr} {vs : List V} {ds : List D} : SqL mg.K W.H a vs → Reps mg W vs ds → Rep mg W (.ref a) (.fz ds)
  | dct {a : Addr} {o : Obj} {kvs : List (Key × V)} {ds : List (Key × D)} : W.H a = some (.frz o (.dK kvs)) → kvs.map (·.1) = ds.map (·.1) → Reps mg W (kvs.map (·.2)) (ds.map (·.2)) → Rep mg W (.ref a) (.dct ds)
  | ins {a C dx : Addr} {fs : List (Str × V)} {c : Str} {ds : List (Str × D)} : mg.mg c = some (.ref C) → W.H a = some (.ins C dx fs) → fs.map (·.1) = ds.map (·.1) → Reps mg W (fs.map (·.2)) (ds.map (·.2)) → Rep mg W (.ref a) (.ins c ds)
  | tok {a : Addr} : W.Dc a → Rep mg W (.ref a) .tok
  | cl {C : Addr} {c : Str} : mg.mg c = some (.ref C) → Rep mg W (.ref C) (.cl c)
  | fn {f : Addr} {W0 : Wd} : Le W0 W → Rep mg W (.ref f) (.fn f W0)
inductive Reps (mg : Gm) (W : Wd) : List V → List D → Prop
  | nil : Reps mg W [] []
  | cons {v : V} {vs : List V} {d : D} {ds : List D} : Rep mg W v d → Reps mg W vs ds → Reps mg W (v :: vs) (d :: ds)
end

section
variable {mg : Gm} {W W' : Wd}
mutual
theorem Rep.mono (l : Le W W') : ∀ {v : V} {d : D}, Rep mg W v d → Rep mg W' v d
  | _, _, .non => .non
  | _, _, .bl b => .bl b
  | _, _, .int i => .int i
  | _, _, .str x => .str x
  | _, _, .tup h r => .tup (l.h _ _ h) (Reps.mono l r)
  | _, _, .lst h r => .lst (l.h _ _ h) (Reps.mono l r)
  | _, _, .fz h r => .fz (l.h.seq h) (Reps.mono l r)
  | _, _, .dct h e r => .dct (l.h _ _ h) e (Reps.mono l r)
  | _, _, .ins c h e r => .ins c (l.h _ _ h) e (Reps.mono l r)
  | _, _, .tok t => .tok (l.dc _ t)
  | _, _, .cl h => .cl h
  | _, _, .fn h => .fn (h.trans l)
theorem Reps.mono (l : Le W W') : ∀ {vs : List V} {ds : List D}, Reps mg W vs ds → Reps mg W' vs ds
  | _, _, .nil => .nil
  | _, _, .cons r t => .cons (Rep.mono l r) (Reps.mono l t)
end
theorem Reps.length : ∀ {vs : List V} {ds : List D}, Reps mg W vs ds → vs.length = ds.length
  | _, _, .nil => rfl
  | _, _, .cons _ t => congrArg (· + 1) (Reps.length t)
theorem Reps.append : ∀ {vs : List V} {ds : List D} {us : List V} {es : List D}, Reps mg W vs ds → Reps mg W us es → Reps mg W (vs ++ us) (ds ++ es)
  | _, _, _, _, .nil, s => s
  | _, _, _, _, .cons r t, s => .cons r (Reps.append t s)
theorem Reps.snoc {vs : List V} {ds : List D} {v : V} {d : D} (r : Reps mg W vs ds) (h : Rep mg W v d) : Reps mg W (vs ++ [v]) (ds ++ [d]) := r.append (.cons h .nil)
theorem Reps.get : ∀ {vs : List V} {ds : List D} {i : Nat} {d : D}, Reps mg W vs ds → ds[i]? = some d → ∃ v, vs[i]? = some v ∧ Rep mg W v d
  | _, _, _, _, .nil, e => by simp at e
  | _, _, 0, _, .cons r _, e => by
    simp at e
    subst e
    exact ⟨_, rfl, r⟩
  | _, _, i + 1, d, .cons _ t, e => by
    obtain ⟨v, h1, h2⟩ := Reps.get (i := i) (d := d) t (by simpa using e)
    exact ⟨v, by simpa using h1, h2⟩
theorem Reps.getV : ∀ {vs : List V} {ds : List D} {i : Nat} {v : V}, Reps mg W vs ds → vs[i]? = some v → ∃ d, ds[i]? = some d ∧ Rep mg W v d
  | _, _, _, _, .nil, e => by simp at e
  | _, _, 0, _, .cons r _, e => by
    simp at e
    subst e
    exact ⟨_, rfl, r⟩
  | _, _, i + 1, d, .cons _ t, e => by
    obtain ⟨v, h1, h2⟩ := Reps.getV (i := i) (v := d) t (by simpa using e)
    exact ⟨v, by simpa using h1, h2⟩
theorem Reps.drop : ∀ {vs : List V} {ds : List D} (n : Nat), Reps mg W vs ds → Reps mg W (vs.drop n) (ds.drop n)
  | _, _, 0, r => r
  | _, _, _ + 1, .nil => .nil
  | _, _, n + 1, .cons _ t => Reps.drop n t
theorem Reps.take : ∀ {vs : List V} {ds : List D} (n : Nat), Reps mg W vs ds → Reps mg W (vs.take n) (ds.take n)
  | _, _, 0, _ => .nil
  | _, _, _ + 1, .nil => .nil
  | _, _, n + 1, .cons r t => .cons r (Reps.take n t)
theorem Reps.eraseIdx : ∀ {vs : List V} {ds : List D} (n : Nat), Reps mg W vs ds → Reps mg W (vs.eraseIdx n) (ds.eraseIdx n)
  | _, _, _, .nil => .nil
  | _, _, 0, .cons _ t => t
  | _, _, n + 1, .cons r t => .cons r (Reps.eraseIdx n t)
theorem Reps.set : ∀ {vs : List V} {ds : List D} {v : V} {d : D} (n : Nat), Reps mg W vs ds → Rep mg W v d → Reps mg W (vs.set n v) (ds.set n d)
  | _, _, _, _, _, .nil, _ => .nil
  | _, _, _, _, 0, .cons _ t, h => .cons h t
  | _, _, _, _, n + 1, .cons r t, h => .cons r (Reps.set n t h)
theorem Reps.replicate {v : V} {d : D} (h : Rep mg W v d) : ∀ n, Reps mg W (List.replicate n v) (List.replicate n d)
  | 0 => .nil
  | n + 1 => .cons h (Reps.replicate h n)
theorem Reps.reverse : ∀ {vs : List V} {ds : List D}, Reps mg W vs ds → Reps mg W vs.reverse ds.reverse
  | _, _, .nil => .nil
  | _, _, .cons r t => by
    rw [List.reverse_cons, List.reverse_cons]
    exact (Reps.reverse t).snoc r
theorem Reps.ints : ∀ (ns : List Int), Reps mg W (ns.map V.int) (ns.map D.int)
  | [] => .nil
  | n :: r => .cons (.int n) (Reps.ints r)
theorem Reps.strs : ∀ (ns : List Str), Reps mg W (ns.map V.str) (ns.map D.str)
  | [] => .nil
  | n :: r => .cons (.str n) (Reps.strs r)
end

/-- the heap bears the world -/
structure Holds (W : Wd) (H : Hp) : Prop where
  same : Same W.H H
  exm : ∀ a, W.T a → W.H a = none ∧ ∃ o, H a = some o
  tok : ∀ a, W.Dc a → W.T a ∧ ∃ x y z, H a = some (.lst [.int x, .int y, .int z])
  tab : ∀ p ∈ Tabl.B, W.T p.1 ∧ LamX.TabS H p.1 p.2
  all : ∀ b ps, H b = some (.tbl ps) → ∃ q, (b, q) ∈ Tabl.B
/-- a new object of the unchanging part -/
def Wd.put (W : Wd) (p : Addr) (o : HO) : Wd := { W with H := upd W.H p o }
theorem Holds.nT {W : Wd} {H : Hp} (h : Holds W H) {p : Addr} (n : H p = none) : ¬ W.T p := fun t => by
  obtain ⟨_, o, e⟩ := h.exm p t
  rw [e] at n
  cases n
theorem Holds.lay {W : Wd} {H : Hp} (h : Holds W H) {p : Addr} {o : HO} (n : H p = none) (no : ∀ ps, o ≠ .tbl ps) : Holds W (upd H p o) := by
  have up : ∀ b u, H b = some u → upd H p o b = some u := fun b u e => by
    rw [upd_ne (ne_of_none e n)]
    exact e
  refine ⟨fun b u e => up b u (h.same b u e), fun a t => ?_, fun a t => ?_, fun q hq => ?_, fun b ps e => ?_⟩
  · obtain ⟨h1, u, h2⟩ := h.exm a t
    exact ⟨h1, u, up a u h2⟩
  · obtain ⟨h1, x, y, z, h2⟩ := h.tok a t
    exact ⟨h1, x, y, z, up a _ h2⟩
  · obtain ⟨h1, h2⟩ := h.tab q hq
    exact ⟨h1, h2.ext up⟩
  · by_cases hb : b = p
    · rw [hb, upd_same] at e
      exact absurd (Option.some.inj e) (no ps)
    · rw [upd_ne hb] at e
      exact h.all b ps e
theorem Holds.put {W : Wd} {H : Hp} (h : Holds W H) {p : Addr} {o : HO} (e : H p = some o) (nt : ¬ W.T p) : Holds (W.put p o) H := by
  refine ⟨fun b u q => ?_, fun a t => ?_, h.tok, h.tab, h.all⟩
  · by_cases hb : b = p
    · subst hb
      have q' : upd W.H b o b = some u := q
      rw [upd_same] at q'
      rw [e]
      exact q'
    · have q' : upd W.H p o b = some u := q
      rw [upd_ne hb] at q'
      exact h.same b u q'
  · have na : a ≠ p := fun q => nt (q ▸ t)
    obtain ⟨h1, r⟩ := h.exm a t
    refine ⟨?_, r⟩
    show upd W.H p o a = none
    rw [upd_ne na]
    exact h1
theorem Holds.own {W : Wd} {H : Hp} (h : Holds W H) {p : Addr} {o o' : HO} (e : H p = some o) (nw : W.H p = none) (nt : ¬ W.T p) (nx : ∀ φ, o ≠ .ext φ) (no : ∀ ps, o' ≠ .tbl ps) : Holds W (upd H p o') := by
  refine ⟨fun b u q => ?_, fun a t => ?_, fun a t => ?_, fun q hq => ?_, fun b ps q => ?_⟩
  · rw [upd_ne (ne_of_none q nw)]
    exact h.same b u q
  · have na : a ≠ p := fun q => nt (q ▸ t)
    obtain ⟨h1, u, h2⟩ := h.exm a t
    exact ⟨h1, u, by rw [upd_ne na]; exact h2⟩
  · obtain ⟨h1, x, y, z, h2⟩ := h.tok a t
    have na : a ≠ p := fun q => nt (q ▸ h1)
    exact ⟨h1, x, y, z, by rw [upd_ne na]; exact h2⟩
  · obtain ⟨h1, ps, h2, h3, h4⟩ := h.tab q hq
    have na : q.1 ≠ p := fun z => nt (z ▸ h1)
    refine ⟨h1, ps, by rw [upd_ne na]; exact h2, h3, fun pos cv hc => ?_⟩
    obtain ⟨c, e1, e2⟩ := h4 pos cv hc
    refine ⟨c, e1, ?_⟩
    have nc : c ≠ p := fun z => by
      rw [z, e] at e2
      exact nx _ (Option.some.inj e2)
    rw [upd_ne nc]
    exact e2
  · by_cases hb : b = p
    · rw [hb, upd_same] at q
      exact absurd (Option.some.inj q) (no ps)
    · rw [upd_ne hb] at q
      exact h.all b ps q
structure Step (W : Wd) (H : Hp) (W' : Wd) (H' : Hp) : Prop where
  le : Le W W'
  holds : Holds W' H'
  keep : ∀ b o, H b = some o → ¬ W.T b → H' b = some o
  fresh : ∀ b o, H b = some o → W'.H b = W.H b
  freshT : ∀ b, W'.T b → W.T b ∨ H b = none
  live : ∀ b o, H b = some o → ∃ o', H' b = some o'
theorem Step.refl {W : Wd} {H : Hp} (h : Holds W H) : Step W H W H :=
  ⟨Le.refl W, h, fun _ _ e _ => e, fun _ _ _ => rfl, fun _ t => .inl t, fun _ o e => ⟨o, e⟩⟩
theorem Step.trans {W W1 W2 : Wd} {H H1 H2 : Hp} (a : Step W H W1 H1) (b : Step W1 H1 W2 H2) : Step W H W2 H2 where
  le := a.le.trans b.le
  holds := b.holds
  keep := fun c o e n => by
    refine b.keep c o (a.keep c o e n) fun t => ?_
    rcases a.freshT c t with t | t
    · exact n t
    · rw [e] at t
      cases t
  fresh := fun c o e => by
    obtain ⟨o', e'⟩ := a.live c o e
    rw [b.fresh c o' e', a.fresh c o e]
  freshT := fun c t => by
    rcases b.freshT c t with t | t
    · exact a.freshT c t
    · refine .inr ?_
      cases q : H c with
      | none => rfl
      | some o =>
        obtain ⟨o', e'⟩ := a.live c o q
        rw [e'] at t
        cases t
  live := fun c o e => by
    obtain ⟨o', e'⟩ := a.live c o e
    exact b.live c o' e'
/-- from the same heap on, with a later world -/
theorem Step.rebase {W W1 : Wd} {H H1 : Hp} (a : Step W H W1 H1) : Step W1 H W1 H1 :=
  ⟨Le.refl W1, a.holds, fun b o e n => a.keep b o e fun t => n (a.le.t b t), fun _ _ _ => rfl, fun _ t => .inl t, a.live⟩
theorem Step.join {W W1 W2 : Wd} {H H1 H2 : Hp} (a : Step W H W1 H1) (b : Step W1 H W2 H2) : Step W H W2 H2 where
  le := a.le.trans b.le
  holds := b.holds
  keep := fun c o e n => b.keep c o e fun t => by
    rcases a.freshT c t with t | t
    · exact n t
    · rw [e] at t
      cases t
  fresh := fun c o e => (b.fresh c o e).trans (a.fresh c o e)
  freshT := fun c t => by
    rcases b.freshT c t with t | t
    · exact a.freshT c t
    · exact .inr t
  live := b.live
theorem Wd.put_le {W : Wd} {p : Addr} {o : HO} (nw : W.H p = none) : Le W (W.put p o) := ⟨fun b u e => by
  show upd W.H p o b = some u
  rw [upd_ne (ne_of_none e nw)]
  exact e, fun _ t => t, fun _ t => t⟩
theorem Step.alloc {W : Wd} {H : Hp} (h : Holds W H) {p : Addr} {o : HO} (n : H p = none) (no : ∀ ps, o ≠ .tbl ps := by intro _ h; cases h) : Step W H (W.put p o) (upd H p o) := by
  have nw : W.H p = none := h.same.free n
  refine ⟨Wd.put_le nw, (h.lay n no).put upd_same (h.nT n), fun b u e _ => ?_, fun b u e => ?_, fun b t => .inl t, fun b u e => ?_⟩
  · rw [upd_ne (ne_of_none e n)]
    exact e
  · show upd W.H p o b = W.H b
    rw [upd_ne (ne_of_none e n)]
  · exact ⟨u, by rw [upd_ne (ne_of_none e n)]; exact e⟩
/-- a new object beside the world (owned) -/
theorem Step.lay {W : Wd} {H : Hp} (h : Holds W H) {p : Addr} {o : HO} (n : H p = none) (no : ∀ ps, o ≠ .tbl ps := by intro _ h; cases h) : Step W H W (upd H p o) := by
  refine ⟨Le.refl W, h.lay n no, fun b u e _ => ?_, fun _ _ _ => rfl, fun b t => .inl t, fun b u e => ?_⟩
  · rw [upd_ne (ne_of_none e n)]
    exact e
  · exact ⟨u, by rw [upd_ne (ne_of_none e n)]; exact e⟩
/-- an owned thing is taken into the world -/
theorem Step.take {W : Wd} {H : Hp} (h : Holds W H) {p : Addr} {o : HO} (e : H p = some o) (nw : W.H p = none) (nt : ¬ W.T p) : Le W (W.put p o) ∧ Holds (W.put p o) H := ⟨Wd.put_le nw, h.put e nt⟩
/-- a step that ends with the taking in of an object that was not there at its start -/
theorem Step.taken {W W1 : Wd} {H H1 : Hp} (s : Step W H W1 H1) {p : Addr} {o : HO} (n : H p = none) (e : H1 p = some o) (nw : W1.H p = none) (nt : ¬ W1.T p) : Step W H (W1.put p o) H1 := by
  obtain ⟨l, h⟩ := Step.take s.holds e nw nt
  refine ⟨s.le.trans l, h, s.keep, fun b u q => ?_, s.freshT, s.live⟩
  show upd W1.H p o b = W.H b
  rw [upd_ne (ne_of_none q n)]
  exact s.fresh b u q
/-- an owned thing is changed -/
theorem Step.own {W W1 : Wd} {H H1 : Hp} (s : Step W H W1 H1) {p : Addr} {o o' : HO} (n : H p = none) (e : H1 p = some o) (nw : W1.H p = none) (nt : ¬ W1.T p) (nx : ∀ φ, o ≠ .ext φ := by intro _ h; cases h) (no : ∀ ps, o' ≠ .tbl ps := by intro _ h; cases h) : Step W H W1 (upd H1 p o') := by
  refine ⟨s.le, s.holds.own e nw nt nx no, fun b u q nq => ?_, s.fresh, s.freshT, fun b u q => ?_⟩
  · rw [upd_ne (ne_of_none q n)]
    exact s.keep b u q nq
  · by_cases hb : b = p
    · rw [hb]
      exact ⟨_, upd_same⟩
    · rw [upd_ne hb]
      exact s.live b u q

/-- a field of an owned object: a datum, an owned list, an owned list of owned lists -/
inductive OF where
  | d (x : D) | l (xs : List D) | ll (xss : List (List D))
/-- a local name's place: nothing, a datum, a list that is this def's own, an object that is this def's own, an owned object whose fields may be owned lists (its addresses told) -/
inductive Sl where
  | no | d (x : D) | own (xs : List D) | ob (c : Str) (a : Addr) (fs : List (Str × D)) | ow (c : Str) (as : List Addr) (fs : List (Str × OF))
  | exc (a : Addr) (cls : Value) (d : Option Addr) (c : Str) (fs : List (Str × D))
abbrev Env := List Sl
/-- the addresses that a place owns -/
def Sl.fp (o : Option V) : Sl → List Addr
  | .own _ => match o with
    | some (.ref a) => [a]
    | _ => []
  | .ob _ a _ => [a]
  | .ow _ as _ => as
  | _ => []
/-- an owned field, with its addresses -/
def OFR (mg : Gm) (W : Wd) (H : Hp) (v : V) : OF → List Addr → Prop
  | .d x, as => as = [] ∧ Rep mg W v x
  | .l xs, as => ∃ L vs, as = [L] ∧ v = .ref L ∧ H L = some (.lst vs) ∧ Reps mg W vs xs
  | .ll xss, as => ∃ L Ls, as = L :: Ls ∧ v = .ref L ∧ H L = some (.lst (Ls.map V.ref)) ∧ Ls.length = xss.length ∧ ∀ (i : Nat) (l : Addr) (xs : List D), Ls[i]? = some l → xss[i]? = some xs → ∃ vs, H l = some (.lst vs) ∧ Reps mg W vs xs
def OFs (mg : Gm) (W : Wd) (H : Hp) : List (Str × V) → List (Str × OF) → List Addr → Prop
  | [], [], as => as = []
  | (f, v) :: vs, (g, x) :: fs, as => f = g ∧ ∃ as1 as2, as = as1 ++ as2 ∧ OFR mg W H v x as1 ∧ OFs mg W H vs fs as2
  | _, _, _ => False
/-- an exception's class and its dict -/
def ExcR (mg : Gm) (W : Wd) (cls : Value) (dd : Option Addr) (c : Str) (fs : List (Str × D)) : Prop :=
  ∃ C, mg.mg c = some (.ref C) ∧ cls = .ref C ∧ ((fs = [] ∧ dd = none) ∨ ∃ a vs, dd = some a ∧ W.H a = some (.xd vs) ∧ vs.map (·.1) = fs.map (·.1) ∧ Reps mg W (vs.map (·.2)) (fs.map (·.2)))
theorem ExcR.mono {mg : Gm} {W W' : Wd} {cls : Value} {dd : Option Addr} {c : Str} {fs : List (Str × D)} (h : ExcR mg W cls dd c fs) (l : Le W W') : ExcR mg W' cls dd c fs := by
  obtain ⟨C, h1, h2, h | ⟨a, vs, h3, h4, h5, h6⟩⟩ := h
  · exact ⟨C, h1, h2, .inl h⟩
  · exact ⟨C, h1, h2, .inr ⟨a, vs, h3, l.h _ _ h4, h5, h6.mono l⟩⟩
def SlR (mg : Gm) (B : Hp) (W : Wd) (H : Hp) (o : Option V) : Sl → Prop
  | .no => True
  | .exc a cls d c fs => o = some (.ref a) ∧ ExcR mg W cls d c fs
  | .d x => ∃ v, o = some v ∧ Rep mg W v x
  | .own xs => ∃ a vs, o = some (.ref a) ∧ H a = some (.lst vs) ∧ W.H a = none ∧ ¬ W.T a ∧ B a = none ∧ Reps mg W vs xs
  | .ob c a fs => ∃ vs, o = some (.ref a) ∧ (∃ C dx, mg.mg c = some (.ref C) ∧ H a = some (.ins C dx vs)) ∧ W.H a = none ∧ ¬ W.T a ∧ B a = none ∧ vs.map (·.1) = fs.map (·.1) ∧ Reps mg W (vs.map (·.2)) (fs.map (·.2))
  | .ow c as fs => ∃ a as' vs, as = a :: as' ∧ o = some (.ref a) ∧ (∃ C dx, mg.mg c = some (.ref C) ∧ H a = some (.ins C dx vs)) ∧ OFs mg W H vs fs as' ∧ as.Nodup ∧ ∀ b ∈ as, (∃ u, H b = some u) ∧ W.H b = none ∧ ¬ W.T b ∧ B b = none
structure EnvR (mg : Gm) (B : Hp) (W : Wd) (H : Hp) (σ : St) (ρ : Env) : Prop where
  len : σ.length = ρ.length
  sl : ∀ (i : Nat) (s : Sl), ρ[i]? = some s → ∃ o, σ[i]? = some o ∧ SlR mg B W H o s
  dis : ∀ (i j : Nat) (s t : Sl) (o o' : Option V) (a : Addr), i ≠ j → ρ[i]? = some s → ρ[j]? = some t → σ[i]? = some o → σ[j]? = some o' → a ∈ s.fp o → a ∈ t.fp o' → False
section
variable {mg : Gm} {B : Hp} {W W' : Wd} {H H' : Hp} {σ : St} {ρ : Env}
/-- what is mine has addresses of its own -/
theorem SlR.at {o : Option V} {s : Sl} (h : SlR mg B W H o s) {a : Addr} (m : a ∈ s.fp o) : ∃ u, H a = some u ∧ W.H a = none ∧ ¬ W.T a ∧ B a = none := by
  cases s with
  | no => cases m
  | exc => cases m
  | d x => cases m
  | own xs =>
    obtain ⟨b, vs, h1, h2, h3, h4, h5, _⟩ := h
    subst h1
    obtain rfl := List.mem_singleton.mp m
    exact ⟨_, h2, h3, h4, h5⟩
  | ob c b fs =>
    obtain ⟨vs, h1, ⟨C, dx, _, h2⟩, h3, h4, h5, _⟩ := h
    obtain rfl := List.mem_singleton.mp m
    exact ⟨_, h2, h3, h4, h5⟩
  | ow c as fs =>
    obtain ⟨b, as', vs, _, _, _, _, _, k⟩ := h
    obtain ⟨⟨u, hu⟩, k⟩ := k a m
    exact ⟨u, hu, k⟩
theorem OFR.keep {v : V} {x : OF} {as : List Addr} (h : OFR mg W H v x as) (l : Le W W') (k : ∀ b ∈ as, ∀ u, H b = some u → H' b = some u) : OFR mg W' H' v x as := by
  cases x with
  | d x => exact ⟨h.1, h.2.mono l⟩
  | l xs =>
    obtain ⟨L, vs, rfl, h2, h3, h4⟩ := h
    exact ⟨L, vs, rfl, h2, k L (by simp) _ h3, h4.mono l⟩
  | ll xss =>
    obtain ⟨L, Ls, rfl, h2, h3, h4, h5⟩ := h
    refine ⟨L, Ls, rfl, h2, k L (by simp) _ h3, h4, fun i b xs q1 q2 => ?_⟩
    obtain ⟨vs, g1, g2⟩ := h5 i b xs q1 q2
    exact ⟨vs, k b (List.mem_cons_of_mem _ (List.mem_of_getElem? q1)) _ g1, g2.mono l⟩
theorem OFs.keep : ∀ {vs : List (Str × V)} {fs : List (Str × OF)} {as : List Addr}, OFs mg W H vs fs as → Le W W' → (∀ b ∈ as, ∀ u, H b = some u → H' b = some u) → OFs mg W' H' vs fs as
  | [], [], _, h, _, _ => h
  | _ :: _, _ :: _, _, ⟨e, as1, as2, rfl, h1, h2⟩, l, k => ⟨e, as1, as2, rfl, h1.keep l fun b hb => k b (List.mem_append_left _ hb), OFs.keep h2 l fun b hb => k b (List.mem_append_right _ hb)⟩
  | [], _ :: _, _, h, _, _ => h.elim
  | _ :: _, [], _, h, _, _ => h.elim
/-- a place is kept: the world grows, what is mine stands as it stood -/
theorem SlR.keep {o : Option V} {s : Sl} (h : SlR mg B W H o s) (l : Le W W') (k : ∀ a ∈ s.fp o, ∀ u, H a = some u → W.H a = none → ¬ W.T a → H' a = some u ∧ W'.H a = none ∧ ¬ W'.T a) : SlR mg B W' H' o s := by
  cases s with
  | no => exact True.intro
  | exc => exact ⟨h.1, h.2.mono l⟩
  | d x =>
    obtain ⟨v, q, r⟩ := h
    exact ⟨v, q, r.mono l⟩
  | own xs =>
    obtain ⟨a, vs, h1, h2, h3, h4, h5, r⟩ := h
    subst h1
    obtain ⟨k1, k2, k3⟩ := k a (List.mem_singleton.mpr rfl) _ h2 h3 h4
    exact ⟨a, vs, rfl, k1, k2, k3, h5, r.mono l⟩
  | ob c a fs =>
    obtain ⟨vs, h1, ⟨C, dx, hc, h2⟩, h3, h4, h5, hk, r⟩ := h
    obtain ⟨k1, k2, k3⟩ := k a (List.mem_singleton.mpr rfl) _ h2 h3 h4
    exact ⟨vs, h1, ⟨C, dx, hc, k1⟩, k2, k3, h5, hk, r.mono l⟩
  | ow c as fs =>
    obtain ⟨a, as', vs, rfl, h1, ⟨C, dx, hc, h2⟩, h3, h4, h5⟩ := h
    have kk : ∀ b ∈ a :: as', ∀ u, H b = some u → H' b = some u ∧ W'.H b = none ∧ ¬ W'.T b := fun b hb u hu => k b hb u hu (h5 b hb).2.1 (h5 b hb).2.2.1
    refine ⟨a, as', vs, rfl, h1, ⟨C, dx, hc, (kk a List.mem_cons_self _ h2).1⟩, h3.keep l fun b hb u hu => (kk b (List.mem_cons_of_mem _ hb) u hu).1, h4, fun b hb => ?_⟩
    obtain ⟨⟨u, hu⟩, _, _, g4⟩ := h5 b hb
    obtain ⟨k1, k2, k3⟩ := kk b hb u hu
    exact ⟨⟨u, k1⟩, k2, k3, g4⟩
theorem Step.mine {a : Addr} {u : HO} (s : Step W H W' H') (h2 : H a = some u) (h3 : W.H a = none) (h4 : ¬ W.T a) : H' a = some u ∧ W'.H a = none ∧ ¬ W'.T a := by
  refine ⟨s.keep a _ h2 h4, ?_, fun t => ?_⟩
  · rw [s.fresh a _ h2]
    exact h3
  · rcases s.freshT a t with t | t
    · exact h4 t
    · rw [h2] at t
      cases t
theorem EnvR.step (e : EnvR mg B W H σ ρ) (s : Step W H W' H') : EnvR mg B W' H' σ ρ := by
  refine ⟨e.len, fun i sl h => ?_, e.dis⟩
  obtain ⟨o, h1, h2⟩ := e.sl i sl h
  exact ⟨o, h1, h2.keep s.le fun a _ u h2 h3 h4 => s.mine h2 h3 h4⟩
theorem EnvR.get (e : EnvR mg B W H σ ρ) {i : Nat} {x : D} (h : ρ[i]? = some (.d x)) : ∃ v, σ[i]? = some (some v) ∧ Rep mg W v x := by
  obtain ⟨o, h1, v, q, r⟩ := e.sl i _ h
  exact ⟨v, by rw [h1, q], r⟩
theorem get_set {α : Type} {l : List α} {i j : Nat} {x y : α} (h : (l.set i x)[j]? = some y) : (i = j ∧ x = y) ∨ (i ≠ j ∧ l[j]? = some y) := by
  by_cases e : i = j
  · subst e
    refine .inl ⟨rfl, ?_⟩
    rw [List.getElem?_set_self'] at h
    cases q : l[i]? with
    | none =>
      rw [q] at h
      cases h
    | some z =>
      rw [q] at h
      exact Option.some.inj h
  · rw [List.getElem?_set_ne e] at h
    exact .inr ⟨e, h⟩
theorem set_get {α : Type} {l : List α} {i : Nat} {x y : α} (h : l[i]? = some y) : (l.set i x)[i]? = some x := by
  rw [List.getElem?_set_self', h]
  rfl
/-- a place is stored -/
theorem EnvR.put (e : EnvR mg B W H σ ρ) {i : Nat} {o : Option V} {s : Sl} (n : s.fp o = []) (r : SlR mg B W H o s) : EnvR mg B W H (σ.set i o) (ρ.set i s) := by
  refine ⟨by simpa using e.len, fun j t h => ?_, fun j k s1 s2 o1 o2 a hjk h1 h2 h3 h4 m1 m2 => ?_⟩
  · rcases get_set h with ⟨rfl, rfl⟩ | ⟨nj, h⟩
    · have hl : i < ρ.length := by simpa using (List.getElem?_eq_some_iff.mp h).1
      exact ⟨o, by rw [List.getElem?_set_self (by rw [e.len]; exact hl)], r⟩
    · obtain ⟨o', h1, h2⟩ := e.sl j t h
      exact ⟨o', by rw [List.getElem?_set_ne nj]; exact h1, h2⟩
  · rcases get_set h1 with ⟨e1, z⟩ | ⟨n1, h1⟩
    · rcases get_set h3 with ⟨_, z'⟩ | ⟨q, _⟩
      · rw [← z, ← z', n] at m1
        cases m1
      · exact q e1
    · rcases get_set h2 with ⟨e2, z⟩ | ⟨n2, h2⟩
      · rcases get_set h4 with ⟨_, z'⟩ | ⟨q, _⟩
        · rw [← z, ← z', n] at m2
          cases m2
        · exact q e2
      · rw [List.getElem?_set_ne n1] at h3
        rw [List.getElem?_set_ne n2] at h4
        exact e.dis j k s1 s2 o1 o2 a hjk h1 h2 h3 h4 m1 m2
/-- nothing is said of any place -/
def noEnv (ρ : Env) : Env := ρ.map fun _ => Sl.no
theorem EnvR.noEnv (h : σ.length = ρ.length) : EnvR mg B W H σ (noEnv ρ) := by
  have no : ∀ (i : Nat) (s : Sl), (FP.noEnv ρ)[i]? = some s → s = .no ∧ i < σ.length := fun i s q => by
    unfold FP.noEnv at q
    rw [List.getElem?_map] at q
    cases z : ρ[i]? with
    | none =>
      rw [z] at q
      cases q
    | some y =>
      rw [z] at q
      cases q
      exact ⟨rfl, by rw [h]; exact (List.getElem?_eq_some_iff.mp z).1⟩
  refine ⟨by simpa [FP.noEnv] using h, fun i s q => ?_, fun i j s t o o' a _ h1 _ _ _ m _ => ?_⟩
  · obtain ⟨rfl, hl⟩ := no i s q
    exact ⟨_, List.getElem?_eq_getElem hl, True.intro⟩
  · obtain ⟨rfl, _⟩ := no i s h1
    cases m
theorem EnvR.set (e : EnvR mg B W H σ ρ) {i : Nat} {v : V} {x : D} (r : Rep mg W v x) : EnvR mg B W H (σ.set i (some v)) (ρ.set i (.d x)) := e.put rfl ⟨v, rfl, r⟩
theorem EnvR.no (e : EnvR mg B W H σ ρ) {i : Nat} {o : Option V} : EnvR mg B W H (σ.set i o) (ρ.set i .no) := e.put rfl True.intro
/-- new things of one's own at a place -/
theorem EnvR.news (e : EnvR mg B W H σ ρ) {i : Nat} {o : Option V} {s : Sl} (st : Step W H W H') (n : ∀ a ∈ s.fp o, H a = none) (r : SlR mg B W H' o s) : EnvR mg B W H' (σ.set i o) (ρ.set i s) := by
  have e1 := e.step st
  have old : ∀ (j : Nat) (t : Sl) (o' : Option V) (b : Addr), ρ[j]? = some t → σ[j]? = some o' → b ∈ t.fp o' → b ∈ s.fp o → False := fun j t o' b h1 h2 m m' => by
    obtain ⟨o2, h3, h4⟩ := e.sl j _ h1
    rw [h2] at h3
    cases h3
    obtain ⟨u', h6, _⟩ := h4.at m
    rw [n b m'] at h6
    cases h6
  refine ⟨by simpa using e.len, fun j sl hj => ?_, fun j k s1 s2 o1 o2 a hjk h1 h2 h3 h4 m1 m2 => ?_⟩
  · rcases get_set hj with ⟨rfl, rfl⟩ | ⟨nj, hj⟩
    · have hl : i < ρ.length := by simpa using (List.getElem?_eq_some_iff.mp hj).1
      exact ⟨o, by rw [List.getElem?_set_self (by rw [e.len]; exact hl)], r⟩
    · obtain ⟨o', h1, h2⟩ := e1.sl j sl hj
      exact ⟨o', by rw [List.getElem?_set_ne nj]; exact h1, h2⟩
  · rcases get_set h1 with ⟨e1, z1⟩ | ⟨n1, h1⟩
    · rcases get_set h2 with ⟨q, _⟩ | ⟨n2, h2⟩
      · exact hjk (e1.symm.trans q)
      · rw [List.getElem?_set_ne n2] at h4
        rcases get_set h3 with ⟨_, q⟩ | ⟨q, _⟩
        · rw [← z1, ← q] at m1
          exact old k s2 o2 a h2 h4 m2 m1
        · exact q e1
    · rcases get_set h2 with ⟨e2, z2⟩ | ⟨n2, h2⟩
      · rw [List.getElem?_set_ne n1] at h3
        rcases get_set h4 with ⟨_, q⟩ | ⟨q, _⟩
        · rw [← z2, ← q] at m2
          exact old j s1 o1 a h1 h3 m1 m2
        · exact q e2
      · rw [List.getElem?_set_ne n1] at h3
        rw [List.getElem?_set_ne n2] at h4
        exact e.dis j k s1 s2 o1 o2 a hjk h1 h2 h3 h4 m1 m2
/-- a new list of one's own -/
theorem EnvR.setOwn (e : EnvR mg B W H σ ρ) (h : Holds W H) {i : Nat} {p : Addr} {vs : List V} {xs : List D} (n : H p = none) (nb : B p = none) (r : Reps mg W vs xs) : EnvR mg B W (upd H p (.lst vs)) (σ.set i (some (.ref p))) (ρ.set i (.own xs)) :=
  e.news (Step.lay h n) (fun a ha => by obtain rfl := List.mem_singleton.mp ha; exact n) ⟨p, vs, rfl, upd_same, h.same.free n, h.nT n, nb, r⟩
/-- what is mine at a place is changed, or another thing is said of the place: the heap differs at its addresses alone; new ones are new -/
theorem EnvR.turns (e : EnvR mg B W H σ ρ) {i : Nat} {o : Option V} {s s' : Sl} (hi : ρ[i]? = some s) (hs : σ[i]? = some o) (hH : ∀ b u, H b = some u → b ∉ s.fp o → H' b = some u) (hn : ∀ a ∈ s'.fp o, a ∈ s.fp o ∨ H a = none) (r : SlR mg B W H' o s') : EnvR mg B W H' σ (ρ.set i s') := by
  have off : ∀ (j : Nat) (t : Sl) (o' : Option V) (b : Addr), j ≠ i → ρ[j]? = some t → σ[j]? = some o' → b ∈ t.fp o' → b ∈ s'.fp o → False := fun j t o' b nj h1 h2 m m' => by
    rcases hn b m' with z | z
    · exact e.dis j i t s o' o b nj h1 hi h2 hs m z
    · obtain ⟨o2, h3, h4⟩ := e.sl j _ h1
      rw [h2] at h3
      cases h3
      obtain ⟨u', h6, _⟩ := h4.at m
      rw [z] at h6
      cases h6
  refine ⟨by simpa using e.len, fun j sl hj => ?_, fun j k s1 s2 o1 o2 a hjk h1 h2 h3 h4 m1 m2 => ?_⟩
  · rcases get_set hj with ⟨rfl, rfl⟩ | ⟨nj, hj⟩
    · exact ⟨_, hs, r⟩
    · obtain ⟨o', h1, h2⟩ := e.sl j sl hj
      exact ⟨o', h1, h2.keep (Le.refl W) fun a ha u h5 h6 h7 => ⟨hH a u h5 fun z => e.dis i j s sl o o' a nj hi hj hs h1 z ha, h6, h7⟩⟩
  · rcases get_set h1 with ⟨e1, z1⟩ | ⟨n1, h1⟩
    · rcases get_set h2 with ⟨q, _⟩ | ⟨n2, h2⟩
      · exact hjk (e1.symm.trans q)
      · subst e1
        rw [hs] at h3
        cases h3
        rw [← z1] at m1
        exact off k s2 o2 a (Ne.symm n2) h2 h4 m2 m1
    · rcases get_set h2 with ⟨e2, z2⟩ | ⟨n2, h2⟩
      · subst e2
        rw [hs] at h4
        cases h4
        rw [← z2] at m2
        exact off j s1 o1 a (Ne.symm n1) h1 h3 m1 m2
      · exact e.dis j k s1 s2 o1 o2 a hjk h1 h2 h3 h4 m1 m2
/-- one address of one's own is changed -/
theorem EnvR.turn (e : EnvR mg B W H σ ρ) {i : Nat} {p : Addr} {u : HO} {o : Option V} {s s' : Sl} (hi : ρ[i]? = some s) (hs : σ[i]? = some o) (m : p ∈ s.fp o) (hf : ∀ a ∈ s'.fp o, a ∈ s.fp o) (r : SlR mg B W (upd H p u) o s') : EnvR mg B W (upd H p u) σ (ρ.set i s') :=
  e.turns hi hs (fun b u' h n => by
    have ne : b ≠ p := fun q => n (by rw [q]; exact m)
    rw [upd_ne ne]
    exact h) (fun a ha => .inl (hf a ha)) r
/-- one's own list is changed -/
theorem EnvR.own (e : EnvR mg B W H σ ρ) {i : Nat} {p : Addr} {us vs : List V} {xs ys : List D} (hi : ρ[i]? = some (.own xs)) (hs : σ[i]? = some (some (.ref p))) (r : Reps mg W vs ys) : EnvR mg B W (upd H p (.lst vs)) σ (ρ.set i (.own ys)) := by
  obtain ⟨o, h1, h2⟩ := e.sl i _ hi
  rw [hs] at h1
  cases h1
  obtain ⟨u, h4, h5, h6, h7⟩ := h2.at (a := p) (List.mem_singleton.mpr rfl)
  exact e.turn hi hs (List.mem_singleton.mpr rfl) (fun _ h => h) ⟨p, vs, rfl, upd_same, h5, h6, h7, r⟩
/-- what is mine is handed to the world -/
theorem EnvR.give (e : EnvR mg B W H σ ρ) (h : Holds W H) {i : Nat} {p : Addr} {u : HO} {s : Sl} {x : D} (hi : ρ[i]? = some s) (hs : σ[i]? = some (some (.ref p))) (m : p ∈ s.fp (some (.ref p))) (hu : H p = some u) (hw : W.H p = none) (ht : ¬ W.T p) (r : Rep mg (W.put p u) (.ref p) x) : EnvR mg B (W.put p u) H σ (ρ.set i (.d x)) := by
  obtain ⟨l, hh⟩ := Step.take h hu hw ht
  refine ⟨by simpa using e.len, fun j sl hj => ?_, fun j k s1 s2 o1 o2 a hjk q1 q2 q3 q4 m1 m2 => ?_⟩
  · rcases get_set hj with ⟨rfl, rfl⟩ | ⟨nj, hj⟩
    · exact ⟨_, hs, _, rfl, r⟩
    · obtain ⟨o, g1, g2⟩ := e.sl j sl hj
      refine ⟨o, g1, g2.keep l fun a ha u' h5 h6 h7 => ⟨h5, ?_, h7⟩⟩
      show upd W.H p _ a = none
      have ne : a ≠ p := fun q => e.dis i j s sl _ o p nj hi hj hs g1 m (by rw [← q]; exact ha)
      rw [upd_ne ne]
      exact h6
  · rcases get_set q1 with ⟨_, z⟩ | ⟨n1, q1⟩
    · rw [← z] at m1
      cases m1
    · rcases get_set q2 with ⟨_, z⟩ | ⟨n2, q2⟩
      · rw [← z] at m2
        cases m2
      · exact e.dis j k s1 s2 o1 o2 a hjk q1 q2 q3 q4 m1 m2
/-- one's own list is handed to the world -/
theorem EnvR.freeze (e : EnvR mg B W H σ ρ) (h : Holds W H) {i : Nat} {xs : List D} (hi : ρ[i]? = some (.own xs)) :
    ∃ p vs, σ[i]? = some (some (.ref p)) ∧ H p = some (.lst vs) ∧ W.H p = none ∧ ¬ W.T p ∧ B p = none ∧ Reps mg W vs xs ∧ EnvR mg B (W.put p (.lst vs)) H σ (ρ.set i (.d (.lst xs))) := by
  obtain ⟨o, h1, p, vs, h2, h3, h4, h5, h6, r⟩ := e.sl i _ hi
  subst h2
  obtain ⟨l, hh⟩ := Step.take h h3 h4 h5
  exact ⟨p, vs, h1, h3, h4, h5, h6, r, e.give h hi h1 (List.mem_singleton.mpr rfl) h3 h4 h5 (.lst (show upd W.H p (.lst vs) p = _ from upd_same) (r.mono l))⟩
end
end FP

/-! FP2: judgements over data: expressions, tests, arguments, statements; a def's promise. -/
namespace FP
open PySem L2
variable [Tabl]

/-- an exception as a datum -/
structure XD where
  cls : Str
  fs : List (Str × D)
abbrev M (α : Type) := (α → Prop) → (XD → Prop) → Prop
abbrev DTE := Env → M D
abbrev DTT := Env → M Bool
abbrev DTA := Env → M (List D)
abbrev DTI := Env → M (List D)
structure Nd where
  nx : Env → Prop
  rt : D → Env → Prop
  bk : Env → Prop
  ct : Env → Prop
  rs : XD → Env → Prop
abbrev DTS := Nd → Env → Prop
abbrev F0 : XD → Prop := fun _ => False
abbrev Wx0 : WX := fun _ _ _ _ => False

def RepX (mg : Gm) (W : Wd) (_H : Hp) (cls : Value) (dd : Option Addr) (x : XD) : Prop := ExcR mg W cls dd x.cls x.fs
def ExR (mg : Gm) (Wx : WX) (W : Wd) (H : Hp) (σ : St) (E : XD → Prop) : Prop :=
  ∀ W' H' cls dd x, Step W H W' H' → RepX mg W' H' cls dd x → E x → Wx cls dd σ H'
theorem ExR.step {mg : Gm} {Wx : WX} {W W1 : Wd} {H H1 : Hp} {σ : St} {E : XD → Prop} (e : ExR mg Wx W H σ E) (s : Step W H W1 H1) : ExR mg Wx W1 H1 σ E :=
  fun W' H' cls dd x s' r h => e W' H' cls dd x (s.trans s') r h
theorem ExR.f0 {mg : Gm} {Wx : WX} {W : Wd} {H : Hp} {σ : St} : ExR mg Wx W H σ F0 := fun _ _ _ _ _ _ _ h => h.elim
/-- what is wanted behind a value, by its datum -/
abbrev ToV (mg : Gm) (W : Wd) (H : Hp) (Q : D → Prop) (Q' : VK) : Prop := ∀ W' H' v d, Step W H W' H' → Rep mg W' v d → Q d → Q' v H'

def Cp (mg : Gm) (Wx : WX) (t : TE) (f : DTE) : Prop := ∀ B ρ Q E, f ρ Q E → ∀ W σ H Q', Holds W H → EnvR mg B W H σ ρ → ExR mg Wx W H σ E → ToV mg W H Q Q' → t σ H Q'
def CpT (mg : Gm) (Wx : WX) (t : TT) (f : DTT) : Prop := ∀ B ρ Q E, f ρ Q E → ∀ W σ H Q', Holds W H → EnvR mg B W H σ ρ → ExR mg Wx W H σ E → (∀ W' H' b, Step W H W' H' → Q b → Q' b H') → t σ H Q'
def CpA (mg : Gm) (Wx : WX) (t : TA) (f : DTA) : Prop := ∀ B ρ Q E, f ρ Q E → ∀ W σ H Q', Holds W H → EnvR mg B W H σ ρ → ExR mg Wx W H σ E → (∀ W' H' vs ds, Step W H W' H' → Reps mg W' vs ds → Q ds → Q' vs H') → t σ H Q'
structure EndsR (mg : Gm) (Wx : WX) (W0 : Wd) (B : Hp) (N : Nd) (Ds : Ends) : Prop where
  nx : ∀ W' H' σ' ρ', Step W0 B W' H' → EnvR mg B W' H' σ' ρ' → N.nx ρ' → Ds.nx σ' H'
  rt : ∀ W' H' σ' ρ' v d, Step W0 B W' H' → EnvR mg B W' H' σ' ρ' → Rep mg W' v d → N.rt d ρ' → Ds.rt v H'
  bk : ∀ W' H' σ' ρ', Step W0 B W' H' → EnvR mg B W' H' σ' ρ' → N.bk ρ' → Ds.bk σ' H'
  ct : ∀ W' H' σ' ρ', Step W0 B W' H' → EnvR mg B W' H' σ' ρ' → N.ct ρ' → Ds.ct σ' H'
  rs : ∀ W' H' σ' ρ' cls dd x, Step W0 B W' H' → EnvR mg B W' H' σ' ρ' → RepX mg W' H' cls dd x → N.rs x ρ' → Wx cls dd σ' H'
def CpS (mg : Gm) (Wx : WX) (t : TS) (f : DTS) : Prop := ∀ W0 B N ρ, f N ρ → ∀ W σ H Ds, Step W0 B W H → EnvR mg B W H σ ρ → EndsR mg Wx W0 B N Ds → t Ds σ H
theorem EndsR.ex {mg : Gm} {Wx : WX} {W0 W : Wd} {B H : Hp} {N : Nd} {Ds : Ends} {σ : St} {ρ : Env} (n : EndsR mg Wx W0 B N Ds) (s : Step W0 B W H) (e : EnvR mg B W H σ ρ) : ExR mg Wx W H σ (fun x => N.rs x ρ) :=
  fun W' H' cls dd x s' r h => n.rs W' H' σ ρ cls dd x (s.trans s') (e.step s') r h

section
variable {ι : Type}
def DE (Xs : ι → Cx) (mg : Gm) (Wx : WX) (e : Expr) (f : DTE) : Prop := ∃ t, (∀ i, PE (Xs i) e t) ∧ Cp mg Wx t f
def DT (Xs : ι → Cx) (mg : Gm) (Wx : WX) (e : Expr) (f : DTT) : Prop := ∃ t, (∀ i, PT (Xs i) e t) ∧ CpT mg Wx t f
def DW (Xs : ι → Cx) (mg : Gm) (Wx : WX) (e : Expr) (f : DTT) : Prop := ∃ t, (∀ i, PW (Xs i) e t) ∧ CpT mg Wx t f
def DA (Xs : ι → Cx) (mg : Gm) (Wx : WX) (es : List Expr) (f : DTA) : Prop := ∃ t, (∀ i, PA (Xs i) es t) ∧ CpA mg Wx t f
def DS (Xs : ι → Cx) (mg : Gm) (Wx : WX) (st : Stmt) (f : DTS) : Prop := ∃ t, (∀ i, PS (Xs i) st t) ∧ CpS mg Wx t f
def DSs (Xs : ι → Cx) (mg : Gm) (Wx : WX) (st : List Stmt) (f : DTS) : Prop := ∃ t, (∀ i, PSs (Xs i) st t) ∧ CpS mg Wx t f
end

section
variable {ι : Type} {Xs : ι → Cx} {mg : Gm} {Wx : WX} {pos : Pos}

/-- one of two ways -/
def bit (b : Bool) (A B : Prop) : Prop := match b with
  | true => A
  | false => B
/-- a truth as a datum -/
def blc (d : D) (k : Bool → Prop) : Prop := match d with
  | .bl b => k b
  | _ => False
theorem bit_t (A B : Prop) : bit true A B = A := rfl
theorem bit_f (A B : Prop) : bit false A B = B := rfl
theorem bit_not (b : Bool) (A B : Prop) : bit (!b) A B = bit b B A := by cases b <;> rfl
theorem bit_dec (p : Prop) [Decidable p] (A B : Prop) : bit (decide p) A B = ((p → A) ∧ (¬ p → B)) := by
  by_cases h : p <;> simp [h, bit]
theorem bit_iff (b : Bool) (A B : Prop) : bit b A B = ((b = true → A) ∧ (b = false → B)) := by cases b <;> simp [bit]
theorem blc_bl (b : Bool) (k : Bool → Prop) : blc (.bl b) k = k b := rfl
/-! ### what is new is locked -/
def tLk (t : TE) : TE := fun σ H Q => t σ H fun v H1 => ∃ p u, v = .ref p ∧ H1 p = some u ∧ Mut (some u) ∧ ∀ od, Q v (upd H1 p (.frz od u))
theorem pe_lk {X : Cx} {e : Expr} {t : TE} (h : PE X e t) : PE X e (tLk t) := by
  refine ⟨fun pins s σ H Q I hw => ?_⟩
  refine thn (h.run pins s σ H _ I hw) fun v s1 ⟨x, H1, I1, r, p, u, e, hp, mu, q⟩ => ?_
  obtain ⟨od, I2⟩ := I1.lock hp mu
  exact ⟨x, _, I2, r, q od⟩
def tLkS (t : TS) : TS := fun D σ H => t { D with nx := fun σ' H' => ∃ p u, H' p = some u ∧ Mut (some u) ∧ ∀ od, D.nx σ' (upd H' p (.frz od u)) } σ H
theorem ps_lk {X : Cx} {st : Stmt} {t : TS} (h : PS X st t) : PS X st (tLkS t) := by
  refine ⟨fun pins s σ H D I hw => ?_⟩
  refine thn (h.run pins s σ H _ I hw) fun f s1 q => ?_
  cases f with
  | next =>
    obtain ⟨σ', H', I2, p, u, hp, mu, q⟩ := q
    obtain ⟨od, I3⟩ := I2.lock hp mu
    exact ⟨σ', _, I3, q od⟩
  | brk => exact q
  | cont => exact q
  | ret v => exact q
/-! ### names, constants -/
abbrev dVar (i : Nat) : DTE := fun ρ Q _ => match ρ[i]? with
  | some (.d x) => Q x
  | _ => False
theorem de_var (i : Nat) {x : Str} (hN : ∀ j, (Xs j).N[i]? = some x := by intro _; rfl) (hv : ∀ j, Vis (Xs j).env.scope x := by intro _; first | exact Or.inl rfl | exact Or.inr (Or.inl rfl) | exact Or.inr (Or.inr rfl))
    (hd : (x == ("__debug__" : Str)) = false := by decide) (hcd : (x == ("__classdict__" : Str)) = false := by decide) : DE Xs mg Wx (.Name x pos) (dVar i) := by
  refine ⟨tVar i, fun j => pe_var (hN j) (hv j) hd hcd, fun B ρ Q E h W σ H Q' hh e _ q => ?_⟩
  unfold dVar at h
  split at h
  · rename_i z hz
    obtain ⟨v, hv, r⟩ := e.get hz
    exact ⟨v, hv, q W H v z (Step.refl hh) r h⟩
  · exact h.elim
abbrev dC (x : D) : DTE := fun _ Q _ => Q x
theorem Cp.const {v : V} {d : D} (r : ∀ W, Rep mg W v d) : Cp mg Wx (tC v) (dC d) := fun B ρ Q E h W σ H Q' hh _ _ q => q W H v d (Step.refl hh) (r W) h
theorem de_int {i : Int} {j : Nat} : DE Xs mg Wx (.Constant (.int i) j pos) (dC (.int i)) := ⟨_, fun _ => pe_int, Cp.const fun _ => .int i⟩
theorem de_bl {b : Bool} {j : Nat} : DE Xs mg Wx (.Constant (.bool b) j pos) (dC (.bl b)) := ⟨_, fun _ => pe_bl, Cp.const fun _ => .bl b⟩
theorem de_non {j : Nat} : DE Xs mg Wx (.Constant .none j pos) (dC .non) := ⟨_, fun _ => pe_non, Cp.const fun _ => .non⟩
theorem de_str {x : Str} {j : Nat} : DE Xs mg Wx (.Constant (.str x) j pos) (dC (.str x)) := ⟨_, fun _ => pe_str, Cp.const fun _ => .str x⟩
theorem de_gint {x : Str} {i : Int} (hm' : ∃ tk, mg.mg x = some (.int i tk)) (hM : ∀ j, (Xs j).mg = mg.mg := by intro _; rfl) (hg : ∀ j, Gl (Xs j) x := by intro _; rfl) (hd : (x == ("__debug__" : Str)) = false := by decide) : DE Xs mg Wx (.Name x pos) (dC (.int i)) := by
  obtain ⟨tk, hm⟩ := hm'
  exact ⟨_, fun j => pe_glob (v := .int i) (hg j) (by rw [hM j]; exact hm) ⟨tk, rfl⟩ hd, Cp.const fun _ => .int i⟩
theorem de_gstr {x y : Str} (hm' : ∃ tk, mg.mg x = some (.str y tk)) (hM : ∀ j, (Xs j).mg = mg.mg := by intro _; rfl) (hg : ∀ j, Gl (Xs j) x := by intro _; rfl) (hd : (x == ("__debug__" : Str)) = false := by decide) : DE Xs mg Wx (.Name x pos) (dC (.str y)) := by
  obtain ⟨tk, hm⟩ := hm'
  exact ⟨_, fun j => pe_glob (v := .str y) (hg j) (by rw [hM j]; exact hm) ⟨tk, rfl⟩ hd, Cp.const fun _ => .str y⟩

/-! ### operators by data -/
abbrev RD2 := D → D → (D → Prop) → Prop
def OpD (mg : Gm) (r : R2) (rd : RD2) : Prop := ∀ W H x y dx dy Q Q', Holds W H → Rep mg W x dx → Rep mg W y dy → rd dx dy Q → ToV mg W H Q Q' → r x y H Q'
/-- an operator that reads data alone -/
def OpOk (Xs : ι → Cx) (mg : Gm) (f : Value → Value → Sem Value) (rd : RD2) : Prop := ∃ r, (∀ i, OpR (Xs i) f r) ∧ OpD mg r rd
abbrev dOp (rd : RD2) (fa fb : DTE) : DTE := fun ρ Q E => fa ρ (fun x => fb ρ (fun y => rd x y Q) E) E
theorem Cp.op {r : R2} {rd : RD2} {ta tb : TE} {fa fb : DTE} (o : OpD mg r rd) (ha : Cp mg Wx ta fa) (hb : Cp mg Wx tb fb) : Cp mg Wx (tOp r ta tb) (dOp rd fa fb) := by
  intro B ρ Q E h W σ H Q' hh e x q
  refine ha B ρ _ E h W σ H _ hh e x fun W1 H1 v1 d1 s1 r1 h1 => ?_
  refine hb B ρ _ E h1 W1 σ H1 _ s1.holds (e.step s1) (x.step s1) fun W2 H2 v2 d2 s2 r2 h2 => ?_
  exact o W2 H2 v1 v2 d1 d2 _ _ s2.holds (r1.mono s2.le) r2 h2 fun W3 H3 v3 d3 s3 r3 h3 => q W3 H3 v3 d3 ((s1.trans s2).trans s3) r3 h3
theorem de_op {op : Operator} {rd : RD2} {a b : Expr} {fa fb : DTE} (o : OpOk Xs mg (binaryOp op) rd) (ha : DE Xs mg Wx a fa) (hb : DE Xs mg Wx b fb) : DE Xs mg Wx (.BinOp a op b pos) (dOp rd fa fb) := by
  obtain ⟨r, h1, h2⟩ := o
  obtain ⟨ta, a1, a2⟩ := ha
  obtain ⟨tb, b1, b2⟩ := hb
  exact ⟨_, fun i => pe_op (h1 i) (a1 i) (b1 i), Cp.op h2 a2 b2⟩
theorem de_cmp {op : CmpOp} {rd : RD2} {a b : Expr} {fa fb : DTE} (o : OpOk Xs mg (compareOp op) rd) (ha : DE Xs mg Wx a fa) (hb : DE Xs mg Wx b fb) (hm : behindInMarks op b = false := by first | rfl | exact nomark _) : DE Xs mg Wx (.Compare a [op] [b] pos) (dOp rd fa fb) := by
  obtain ⟨r, h1, h2⟩ := o
  obtain ⟨ta, a1, a2⟩ := ha
  obtain ⟨tb, b1, b2⟩ := hb
  exact ⟨_, fun i => pe_cmpR (h1 i) (a1 i) (b1 i) hm, Cp.op h2 a2 b2⟩
abbrev dChain (r r' : RD2) (fa fb fc : DTE) : DTE := fun ρ Q E => fa ρ (fun x => fb ρ (fun y => r x y fun z => blc z fun b => bit b (fc ρ (fun w => r' y w Q) E) (Q (.bl false))) E) E
theorem Cp.chain {r r' : R2} {rd rd' : RD2} {ta tb tc : TE} {fa fb fc : DTE} (h2 : OpD mg r rd) (h2' : OpD mg r' rd') (a2 : Cp mg Wx ta fa) (b2 : Cp mg Wx tb fb) (c2 : Cp mg Wx tc fc) : Cp mg Wx (tChain r r' ta tb tc) (dChain rd rd' fa fb fc) := by
  intro B ρ Q E h W σ H Q' hh e x q
  refine a2 B ρ _ E h W σ H _ hh e x fun W1 H1 v1 d1 s1 r1 h1 => ?_
  refine b2 B ρ _ E h1 W1 σ H1 _ s1.holds (e.step s1) (x.step s1) fun W2 H2 v2 d2 s2 r2 h2x => ?_
  refine h2 W2 H2 v1 v2 d1 d2 _ _ s2.holds (r1.mono s2.le) r2 h2x fun W3 H3 v3 d3 s3 r3 h3 => ?_
  have s13 := (s1.trans s2).trans s3
  cases r3 with
  | bl k =>
    refine ⟨k, rfl, ?_⟩
    cases k with
    | true =>
      rw [if_pos rfl]
      refine c2 B ρ _ E h3 W3 σ H3 _ s3.holds (e.step s13) (x.step s13) fun W4 H4 v4 d4 s4 r4 h4 => ?_
      exact h2' W4 H4 v2 v4 d2 d4 _ _ s4.holds ((r2.mono s3.le).mono s4.le) r4 h4 fun W5 H5 v5 d5 s5 r5 h5 => q W5 H5 v5 d5 ((s13.trans s4).trans s5) r5 h5
    | false =>
      rw [if_neg Bool.false_ne_true]
      exact q W3 H3 _ _ s13 (.bl false) h3
  | _ => exact h3.elim
theorem de_chain {op op' : CmpOp} {rd rd' : RD2} {a b c : Expr} {fa fb fc : DTE} (o : OpOk Xs mg (compareOp op) rd) (o' : OpOk Xs mg (compareOp op') rd') (ha : DE Xs mg Wx a fa) (hb : DE Xs mg Wx b fb) (hc : DE Xs mg Wx c fc) (hm : lastMarks [op, op'] [b, c] = false := by with_unfolding_all rfl) : DE Xs mg Wx (.Compare a [op, op'] [b, c] pos) (dChain rd rd' fa fb fc) := by
  obtain ⟨r, h1, h2⟩ := o
  obtain ⟨r', h1', h2'⟩ := o'
  obtain ⟨ta, a1, a2⟩ := ha
  obtain ⟨tb, b1, b2⟩ := hb
  obtain ⟨tc, c1, c2⟩ := hc
  exact ⟨_, fun i => pe_chain (h1 i) (h1' i) (a1 i) (b1 i) (c1 i) hm, Cp.chain h2 h2' a2 b2 c2⟩

/-! ### tests -/
abbrev dB (f : DTE) : DTT := fun ρ Q E => f ρ (fun x => blc x Q) E
theorem Cp.b {t : TE} {f : DTE} (h : Cp mg Wx t f) : CpT mg Wx (tB t) (dB f) := by
  intro B ρ Q E hf W σ H Q' hh e x q
  refine h B ρ _ E hf W σ H _ hh e x fun W1 H1 v1 d1 s1 r1 h1 => ?_
  cases r1 with
  | bl b => exact ⟨b, rfl, q W1 H1 b s1 h1⟩
  | _ => exact h1.elim
theorem dt_val {e : Expr} {f : DTE} (h : DE Xs mg Wx e f) (he : ∀ i whole, isTrue e (Xs i).env whole = (do let v ← whole; standAt e.pos; holding [v] (truthy v)) := by intro _ _; rfl) : DT Xs mg Wx e (dB f) := by
  obtain ⟨t, h1, h2⟩ := h
  exact ⟨_, fun i => pt_val (h1 i) (he i), h2.b⟩
theorem dt_cmp {op : CmpOp} {rd : RD2} {a b : Expr} {fa fb : DTE} (o : OpOk Xs mg (compareOp op) rd) (ha : DE Xs mg Wx a fa) (hb : DE Xs mg Wx b fb) (hm : behindInMarks op b = false := by first | rfl | exact nomark _) : DT Xs mg Wx (.Compare a [op] [b] pos) (dB (dOp rd fa fb)) := by
  obtain ⟨r, h1, h2⟩ := o
  obtain ⟨ta, a1, a2⟩ := ha
  obtain ⟨tb, b1, b2⟩ := hb
  exact ⟨_, fun i => pt_cmpR (h1 i) (a1 i) (b1 i) hm, Cp.b (Cp.op h2 a2 b2)⟩
theorem dt_chain {op op' : CmpOp} {rd rd' : RD2} {a b c : Expr} {fa fb fc : DTE} (o : OpOk Xs mg (compareOp op) rd) (o' : OpOk Xs mg (compareOp op') rd') (ha : DE Xs mg Wx a fa) (hb : DE Xs mg Wx b fb) (hc : DE Xs mg Wx c fc) (hm : lastMarks [op, op'] [b, c] = false := by with_unfolding_all rfl) : DT Xs mg Wx (.Compare a [op, op'] [b, c] pos) (dB (dChain rd rd' fa fb fc)) := by
  obtain ⟨r, h1, h2⟩ := o
  obtain ⟨r', h1', h2'⟩ := o'
  obtain ⟨ta, a1, a2⟩ := ha
  obtain ⟨tb, b1, b2⟩ := hb
  obtain ⟨tc, c1, c2⟩ := hc
  exact ⟨_, fun i => pt_chain (h1 i) (h1' i) (a1 i) (b1 i) (c1 i) hm, Cp.b (Cp.chain h2 h2' a2 b2 c2)⟩
abbrev dAnd (f g : DTT) : DTT := fun ρ Q E => f ρ (fun c => bit c (g ρ Q E) (Q false)) E
abbrev dOr (f g : DTT) : DTT := fun ρ Q E => f ρ (fun c => bit c (Q true) (g ρ Q E)) E
abbrev dNot (f : DTT) : DTT := fun ρ Q E => f ρ (fun c => Q (!c)) E
theorem dw_and1 {a : Expr} {f : DTT} (h : DT Xs mg Wx a f) : DW Xs mg Wx (.BoolOp .And [a] pos) f := by
  obtain ⟨t, h1, h2⟩ := h
  exact ⟨t, fun i => pw_and1 (h1 i), h2⟩
theorem dw_or1 {a : Expr} {f : DTT} (h : DT Xs mg Wx a f) : DW Xs mg Wx (.BoolOp .Or [a] pos) f := by
  obtain ⟨t, h1, h2⟩ := h
  exact ⟨t, fun i => pw_or1 (h1 i), h2⟩
theorem dw_and {a b : Expr} {rest : List Expr} {f g : DTT} (h : DT Xs mg Wx a f) (h' : DW Xs mg Wx (.BoolOp .And (b :: rest) pos) g) : DW Xs mg Wx (.BoolOp .And (a :: b :: rest) pos) (dAnd f g) := by
  obtain ⟨t, h1, h2⟩ := h
  obtain ⟨u, g1, g2⟩ := h'
  refine ⟨_, fun i => pw_and (h1 i) (g1 i), ?_⟩
  intro B ρ Q E hf W σ H Q' hh e x q
  refine h2 B ρ _ E hf W σ H _ hh e x fun W1 H1 c s1 k1 => ?_
  cases c with
  | true =>
    rw [if_pos rfl]
    exact g2 B ρ Q E k1 W1 σ H1 _ s1.holds (e.step s1) (x.step s1) fun W2 H2 b s2 k2 => q W2 H2 b (s1.trans s2) k2
  | false =>
    rw [if_neg Bool.false_ne_true]
    exact q W1 H1 false s1 k1
theorem dw_or {a b : Expr} {rest : List Expr} {f g : DTT} (h : DT Xs mg Wx a f) (h' : DW Xs mg Wx (.BoolOp .Or (b :: rest) pos) g) : DW Xs mg Wx (.BoolOp .Or (a :: b :: rest) pos) (dOr f g) := by
  obtain ⟨t, h1, h2⟩ := h
  obtain ⟨u, g1, g2⟩ := h'
  refine ⟨_, fun i => pw_or (h1 i) (g1 i), ?_⟩
  intro B ρ Q E hf W σ H Q' hh e x q
  refine h2 B ρ _ E hf W σ H _ hh e x fun W1 H1 c s1 k1 => ?_
  cases c with
  | true =>
    rw [if_pos rfl]
    exact q W1 H1 true s1 k1
  | false =>
    rw [if_neg Bool.false_ne_true]
    exact g2 B ρ Q E k1 W1 σ H1 _ s1.holds (e.step s1) (x.step s1) fun W2 H2 b s2 k2 => q W2 H2 b (s1.trans s2) k2
theorem dt_w {e : Expr} {f : DTT} (h : DW Xs mg Wx e f) : DT Xs mg Wx e f := by
  obtain ⟨t, h1, h2⟩ := h
  exact ⟨t, fun i => (h1 i).pt, h2⟩
theorem dt_not {a : Expr} {f : DTT} (h : DT Xs mg Wx a f) : DT Xs mg Wx (.UnaryOp .Not a pos) (dNot f) := by
  obtain ⟨t, h1, h2⟩ := h
  exact ⟨_, fun i => pt_not (h1 i), fun B ρ Q E hf W σ H Q' hh e x q => h2 B ρ _ E hf W σ H _ hh e x fun W1 H1 c s1 k1 => q W1 H1 _ s1 k1⟩
/-- and, or, not as values (bools) -/
abbrev dAndV (f g : DTE) : DTE := fun ρ Q E => f ρ (fun c => blc c fun b => bit b (g ρ Q E) (Q (.bl false))) E
abbrev dOrV (f g : DTE) : DTE := fun ρ Q E => f ρ (fun c => blc c fun b => bit b (Q (.bl true)) (g ρ Q E)) E
abbrev dNotV (f : DTE) : DTE := fun ρ Q E => f ρ (fun c => blc c fun b => Q (.bl (!b))) E
theorem de_one {op : BoolOp} {a : Expr} {f : DTE} (h : DE Xs mg Wx a f) : DE Xs mg Wx (.BoolOp op [a] pos) f := by
  obtain ⟨t, h1, h2⟩ := h
  exact ⟨t, fun i => pe_one (h1 i), h2⟩
theorem de_and {a b : Expr} {rest : List Expr} {f g : DTE} (h : DE Xs mg Wx a f) (h' : DE Xs mg Wx (.BoolOp .And (b :: rest) pos) g) : DE Xs mg Wx (.BoolOp .And (a :: b :: rest) pos) (dAndV f g) := by
  obtain ⟨t, h1, h2⟩ := h
  obtain ⟨u, g1, g2⟩ := h'
  refine ⟨_, fun i => pe_and (h1 i) (g1 i), ?_⟩
  intro B ρ Q E hf W σ H Q' hh e x q
  refine h2 B ρ _ E hf W σ H _ hh e x fun W1 H1 v d s1 r1 k1 => ?_
  cases r1 with
  | bl c =>
    refine ⟨c, rfl, ?_⟩
    cases c with
    | true =>
      rw [if_pos rfl]
      exact g2 B ρ Q E k1 W1 σ H1 _ s1.holds (e.step s1) (x.step s1) fun W2 H2 v d s2 r2 k2 => q W2 H2 v d (s1.trans s2) r2 k2
    | false =>
      rw [if_neg Bool.false_ne_true]
      exact q W1 H1 _ _ s1 (.bl false) k1
  | _ => exact k1.elim
theorem de_or {a b : Expr} {rest : List Expr} {f g : DTE} (h : DE Xs mg Wx a f) (h' : DE Xs mg Wx (.BoolOp .Or (b :: rest) pos) g) : DE Xs mg Wx (.BoolOp .Or (a :: b :: rest) pos) (dOrV f g) := by
  obtain ⟨t, h1, h2⟩ := h
  obtain ⟨u, g1, g2⟩ := h'
  refine ⟨_, fun i => pe_or (h1 i) (g1 i), ?_⟩
  intro B ρ Q E hf W σ H Q' hh e x q
  refine h2 B ρ _ E hf W σ H _ hh e x fun W1 H1 v d s1 r1 k1 => ?_
  cases r1 with
  | bl c =>
    refine ⟨c, rfl, ?_⟩
    cases c with
    | true =>
      rw [if_pos rfl]
      exact q W1 H1 _ _ s1 (.bl true) k1
    | false =>
      rw [if_neg Bool.false_ne_true]
      exact g2 B ρ Q E k1 W1 σ H1 _ s1.holds (e.step s1) (x.step s1) fun W2 H2 v d s2 r2 k2 => q W2 H2 v d (s1.trans s2) r2 k2
  | _ => exact k1.elim
theorem de_not {a : Expr} {f : DTE} (h : DE Xs mg Wx a f) : DE Xs mg Wx (.UnaryOp .Not a pos) (dNotV f) := by
  obtain ⟨t, h1, h2⟩ := h
  refine ⟨_, fun i => pe_not (h1 i), fun B ρ Q E hf W σ H Q' hh e x q => h2 B ρ _ E hf W σ H _ hh e x fun W1 H1 v d s1 r1 k1 => ?_⟩
  cases r1 with
  | bl c => exact ⟨c, rfl, q W1 H1 _ _ s1 (.bl _) k1⟩
  | _ => exact k1.elim
abbrev dIf (c : DTT) (f g : DTE) : DTE := fun ρ Q E => c ρ (fun b => bit b (f ρ Q E) (g ρ Q E)) E
theorem de_if {c a b : Expr} {fc : DTT} {fa fb : DTE} (hc : DT Xs mg Wx c fc) (ha : DE Xs mg Wx a fa) (hb : DE Xs mg Wx b fb) : DE Xs mg Wx (.IfExp c a b pos) (dIf fc fa fb) := by
  obtain ⟨tc, c1, c2⟩ := hc
  obtain ⟨ta, a1, a2⟩ := ha
  obtain ⟨tb, b1, b2⟩ := hb
  refine ⟨_, fun i => pe_ifExp (c1 i) (a1 i) (b1 i), ?_⟩
  intro B ρ Q E hf W σ H Q' hh e x q
  refine c2 B ρ _ E hf W σ H _ hh e x fun W1 H1 c s1 k1 => ?_
  cases c with
  | true =>
    rw [if_pos rfl]
    exact a2 B ρ Q E k1 W1 σ H1 _ s1.holds (e.step s1) (x.step s1) fun W2 H2 v d s2 r2 k2 => q W2 H2 v d (s1.trans s2) r2 k2
  | false =>
    rw [if_neg Bool.false_ne_true]
    exact b2 B ρ Q E k1 W1 σ H1 _ s1.holds (e.step s1) (x.step s1) fun W2 H2 v d s2 r2 k2 => q W2 H2 v d (s1.trans s2) r2 k2

/-! ### arguments, displays -/
abbrev dNil : DTA := fun _ Q _ => Q []
abbrev dCons (f : DTE) (g : DTA) : DTA := fun ρ Q E => f ρ (fun x => g ρ (fun xs => Q (x :: xs)) E) E
theorem da_nil : DA Xs mg Wx [] dNil := ⟨_, fun _ => pa_nil, fun B ρ Q E h W σ H Q' hh _ _ q => q W H [] [] (Step.refl hh) .nil h⟩
theorem da_cons {e : Expr} {es : List Expr} {f : DTE} {g : DTA} (h : DE Xs mg Wx e f) (h' : DA Xs mg Wx es g) (hs : ∀ i, starEach (e :: es) (Xs i).env = (false, eval e (Xs i).env) :: starEach es (Xs i).env := by intro _; rfl) : DA Xs mg Wx (e :: es) (dCons f g) := by
  obtain ⟨t, h1, h2⟩ := h
  obtain ⟨u, g1, g2⟩ := h'
  refine ⟨_, fun i => pa_cons (h1 i) (g1 i) (hs i), ?_⟩
  intro B ρ Q E hf W σ H Q' hh e x q
  refine h2 B ρ _ E hf W σ H _ hh e x fun W1 H1 v d s1 r1 k1 => ?_
  exact g2 B ρ _ E k1 W1 σ H1 _ s1.holds (e.step s1) (x.step s1) fun W2 H2 vs ds s2 r2 k2 => q W2 H2 _ _ (s1.trans s2) (.cons (r1.mono s2.le) r2) k2
abbrev dTup (g : DTA) : DTE := fun ρ Q E => g ρ (fun xs => xs.length ≤ sizeLine ∧ Q (.tup xs)) E
abbrev dLst (g : DTA) : DTE := fun ρ Q E => g ρ (fun xs => xs.length ≤ sizeLine ∧ Q (.lst xs)) E
theorem Wd.le_put {W : Wd} {p : Addr} {o : HO} (n : W.H p = none) : Le W (W.put p o) := Wd.put_le n
theorem Rep.newTup {W : Wd} {vs : List V} {ds : List D} {p : Addr} (r : Reps mg W vs ds) (n : W.H p = none) : Rep mg (W.put p (.tup vs)) (.ref p) (.tup ds) :=
  .tup (show upd W.H p _ p = _ from upd_same) (r.mono (Wd.le_put n))
theorem Rep.newLst {W : Wd} {vs : List V} {ds : List D} {p : Addr} (r : Reps mg W vs ds) (n : W.H p = none) : Rep mg (W.put p (.lst vs)) (.ref p) (.lst ds) :=
  .lst (show upd W.H p _ p = _ from upd_same) (r.mono (Wd.le_put n))
/-- what is wanted of a new tuple, of a new list -/
theorem to_tup {W : Wd} {H : Hp} {Q : D → Prop} {Q' : VK} {vs : List V} {ds : List D} (q : ToV mg W H Q Q') (hh : Holds W H) (r : Reps mg W vs ds) (h : Q (.tup ds)) : ∀ p, H p = none → Q' (.ref p) (upd H p (.tup vs)) :=
  fun p n => q _ _ _ _ (Step.alloc hh n) (Rep.newTup r (hh.same.free n)) h
theorem to_lst {W : Wd} {H : Hp} {Q : D → Prop} {Q' : VK} {vs : List V} {ds : List D} (q : ToV mg W H Q Q') (hh : Holds W H) (r : Reps mg W vs ds) (h : Q (.lst ds)) : ∀ p, H p = none → Q' (.ref p) (upd H p (.lst vs)) :=
  fun p n => q _ _ _ _ (Step.alloc hh n) (Rep.newLst r (hh.same.free n)) h
theorem ToV.step {W W1 : Wd} {H H1 : Hp} {Q : D → Prop} {Q' : VK} (q : ToV mg W H Q Q') (s : Step W H W1 H1) : ToV mg W1 H1 Q Q' := fun W' H' v d s' r h => q W' H' v d (s.trans s') r h
theorem de_tup {es : List Expr} {g : DTA} {k : Nat} (h : DA Xs mg Wx es g) : DE Xs mg Wx (.Tuple es k pos) (dTup g) := by
  obtain ⟨t, h1, h2⟩ := h
  refine ⟨_, fun i => pe_tup (h1 i), fun B ρ Q E hf W σ H Q' hh e x q => h2 B ρ _ E hf W σ H _ hh e x fun W1 H1 vs ds s1 r1 k1 => ?_⟩
  exact ⟨by rw [r1.length]; exact k1.1, to_tup (ToV.step q s1) s1.holds r1 k1.2⟩
theorem de_lst {es : List Expr} {g : DTA} (h : DA Xs mg Wx es g) : DE Xs mg Wx (.List es pos) (dLst g) := by
  obtain ⟨t, h1, h2⟩ := h
  refine ⟨_, fun i => pe_lst (h1 i), fun B ρ Q E hf W σ H Q' hh e x q => h2 B ρ _ E hf W σ H _ hh e x fun W1 H1 vs ds s1 r1 k1 => ?_⟩
  exact ⟨by rw [r1.length]; exact k1.1, to_lst (ToV.step q s1) s1.holds r1 k1.2⟩

/-! ### built-in functions and methods by data -/
abbrev RDL := List D → (D → Prop) → Prop
def CallD (mg : Gm) (r : List V → Hp → VK → Prop) (rd : RDL) : Prop := ∀ W H vs ds Q Q', Holds W H → Reps mg W vs ds → rd ds Q → ToV mg W H Q Q' → r vs H Q'
def CallOk (Xs : ι → Cx) (mg : Gm) (f : Value) (rd : RDL) : Prop := ∃ r, (∀ i, CallR (Xs i) f r) ∧ CallD mg r rd
abbrev dCB (rd : RDL) (g : DTA) : DTE := fun ρ Q E => g ρ (fun ds => rd ds Q) E
theorem Cp.cb {r : List V → Hp → VK → Prop} {rd : RDL} {t : TA} {g : DTA} (c : CallD mg r rd) (h : CpA mg Wx t g) : Cp mg Wx (tCB r t) (dCB rd g) := by
  intro B ρ Q E hf W σ H Q' hh e x q
  refine h B ρ _ E hf W σ H _ hh e x fun W1 H1 vs ds s1 r1 k1 => ?_
  exact c W1 H1 vs ds Q Q' s1.holds r1 k1 (ToV.step q s1)
theorem de_callB {id : String} {rd : RDL} {x : Str} {p : Pos} {e : Expr} {es : List Expr} {g : DTA} (c : CallOk Xs mg (.builtin id) rd) (hm : mg.mg x = none) (hv : bootBuiltins x = some (.builtin id)) (ha : DA Xs mg Wx (e :: es) g)
    (hM : ∀ j, (Xs j).mg = mg.mg := by intro _; rfl) (hg : ∀ j, Gl (Xs j) x := by intro _; rfl) (hn : x ≠ "__name__" := by decide) (hd : (x == ("__debug__" : Str)) = false := by decide)
    (he : ∀ i, starEach (e :: es) (Xs i).env = (false, eval e (Xs i).env) :: starEach es (Xs i).env := by intro _; rfl) (hpl : ∀ i, (backTo pos (starEach es (Xs i).env)).any (·.1) = false := by intro _; rfl) : DE Xs mg Wx (.Call (.Name x p) (e :: es) [] pos) (dCB rd g) := by
  obtain ⟨r, c1, c2⟩ := c
  obtain ⟨t, h1, h2⟩ := ha
  exact ⟨_, fun i => pe_callB (c1 i) (hg i) (by rw [hM i]; exact hm) hv (h1 i) hn hd (he i) (hpl i), Cp.cb c2 h2⟩
theorem de_callTy {T : String} {rd : RDL} {x : Str} {p : Pos} {e : Expr} {es : List Expr} {g : DTA} (c : CallOk Xs mg (.type T) rd) (hm : mg.mg x = none) (hv : bootBuiltins x = some (.type T)) (ha : DA Xs mg Wx (e :: es) g)
    (hM : ∀ j, (Xs j).mg = mg.mg := by intro _; rfl) (hg : ∀ j, Gl (Xs j) x := by intro _; rfl) (hn : x ≠ "__name__" := by decide) (hd : (x == ("__debug__" : Str)) = false := by decide)
    (he : ∀ i, starEach (e :: es) (Xs i).env = (false, eval e (Xs i).env) :: starEach es (Xs i).env := by intro _; rfl) (hpl : ∀ i, (backTo pos (starEach es (Xs i).env)).any (·.1) = false := by intro _; rfl) : DE Xs mg Wx (.Call (.Name x p) (e :: es) [] pos) (dCB rd g) := by
  obtain ⟨r, c1, c2⟩ := c
  obtain ⟨t, h1, h2⟩ := ha
  exact ⟨_, fun i => pe_callTy (c1 i) (hg i) (by rw [hM i]; exact hm) hv (h1 i) hn hd (he i) (hpl i), Cp.cb c2 h2⟩

/-! ### a def's promise; room with no repr under way -/
structure RmG (k : Nat) (A : Around) : Prop where
  r : Room k A
  g : A.guards = some []
theorem RmG.mono {j k : Nat} {A : Around} (x : RmG k A) (h : j ≤ k) : RmG j A := ⟨x.r.mono h, x.g⟩
/-- as FnOk, where no repr is under way -/
structure FnG (P : Program) (w : World) (K : PySem.W.Frag) (mg : Str → Option Value) (base : Heap) (k : Nat) (f : Addr) (fd : FuncData) (ps : List Str) (sp : Sp) : Prop where
  ln : ∀ vs H Q E, sp vs H Q E → vs.length = ps.length
  go : ∀ (A : Around) (out : List PySem.Env) (z : Shared) (H : Hp) (ag : Args) (us : List Value) (vs : List V) (Q : VK) (E : XK), RmG k A → Env0 P w K mg base A out z H → BindsTo z fd ag (ps.zip us) → Vals vs us → sp vs H Q E →
    codeAny (model P w) A (.call (.ref f) ag) (CR (L2.CX P w) out P w H z Q E) z
theorem FnG.of {P : Program} {w : World} {K : PySem.W.Frag} {mg : Str → Option Value} {base : Heap} {k : Nat} {f : Addr} {fd : FuncData} {ps : List Str} {sp : Sp} (F : FnOk P w K mg base (L2.CX P w) k f fd ps sp) : FnG P w K mg base k f fd ps sp :=
  ⟨F.len, fun A out z H ag us vs Q E m => F.run A out z H ag us vs Q E m.r⟩
theorem FnG.up {P : Program} {w : World} {K : PySem.W.Frag} {mg : Str → Option Value} {base : Heap} {j k : Nat} {f : Addr} {fd : FuncData} {ps : List Str} {sp : Sp} (F : FnG P w K mg base j f fd ps sp) (h : j ≤ k) : FnG P w K mg base k f fd ps sp :=
  ⟨F.ln, fun A out z H ag us vs Q E m => F.go A out z H ag us vs Q E (m.mono h)⟩
/-- the callee's run, for a caller -/
theorem goG {X : Cx} {k : Nat} {f : Addr} {fd : FuncData} {ps : List Str} {sp : Sp} {Ew : St → XK} {pins : List (Addr × Obj)} {σ : St} {H : Hp} {z : Shared} {Q : VK} {us : List Value} {vs : List V} (F : FnG X.prog X.w X.K X.mg X.base k f fd ps sp) (m : RmG k X.A) (hb : Binds X.K fd ps []) (hx : PassesAt (L2.CX X.prog X.w) X σ (Ew σ))
    (I : Inv X pins σ H z) (rv : Vals vs us) (h : sp vs H Q (Ew σ)) : wpAny (model X.prog X.w) X.A (call (.ref f) us) (EP X pins σ Q) X.xe z := by
  have hl : (us ++ []).length = ps.length := by
    rw [List.append_nil, ← rv.length]
    exact F.ln _ _ _ _ h
  have bd := hb z us I.kIn hl
  rw [List.append_nil] at bd
  have cd := F.go X.A X.stack z H ⟨us, []⟩ us vs Q (Ew σ) m I.env0 bd rv h
  refine wpAny_call (codeAny_mono cd ?_)
  intro res z' hq
  match res, hq with
  | .error e, hq => exact hx pins H z e z' I hq
  | .ok (.ret u), hq => exact I.after hq
  | .ok .next, hq => exact hq.elim
  | .ok .brk, hq => exact hq.elim
  | .ok .cont, hq => exact hq.elim
theorem pe_callG {X : Cx} {k : Nat} {f : Addr} {fd : FuncData} {ps : List Str} {sp : Sp} {Ew : St → XK} {x : Str} {p pos : Pos} {e : Expr} {es : List Expr} {t : TA} (F : FnG X.prog X.w X.K X.mg X.base k f fd ps sp) (m : RmG k X.A) (gx : Gl X x) (mx : X.mg x = some (.ref f)) (kf : PySem.W.keepIn X.K (.ref f) = true) (hb : Binds X.K fd ps [])
    (hx : ∀ σ, PassesAt (L2.CX X.prog X.w) X σ (Ew σ)) (ha : PA X (e :: es) t) (nd : (x == ("__debug__" : Str)) = false) (s1 : starEach (e :: es) X.env = (false, eval e X.env) :: starEach es X.env) (s2 : (backTo pos (starEach es X.env)).any (·.1) = false) : PE X (.Call (.Name x p) (e :: es) [] pos) (tCallS sp Ew t) := by
  constructor
  intro pins z σ H Q I hw
  apply wpAny_Call_Name_kw
  apply ld_glob I gx mx _ nd
  apply PySem.W.callWith_K (h₀ := X.base) I.ok.mod.kin kf _ s1 s2
  refine thn (ha.run pos pins z σ H _ I hw) ?_
  rintro us z1 ⟨vs, H1, I1, rv, q⟩
  exact ⟨I1.kIn, goG F m hb (hx σ) I1 rv q⟩
theorem pe_callG0 {X : Cx} {k : Nat} {f : Addr} {fd : FuncData} {ps : List Str} {sp : Sp} {Ew : St → XK} {x : Str} {p pos : Pos} (F : FnG X.prog X.w X.K X.mg X.base k f fd ps sp) (m : RmG k X.A) (gx : Gl X x) (mx : X.mg x = some (.ref f)) (kf : PySem.W.keepIn X.K (.ref f) = true) (hb : Binds X.K fd ps [])
    (hx : ∀ σ, PassesAt (L2.CX X.prog X.w) X σ (Ew σ)) (nd : (x == ("__debug__" : Str)) = false) : PE X (.Call (.Name x p) [] [] pos) (tCallS sp Ew tNil) := by
  constructor
  intro pins z σ H Q I hw
  apply wpAny_Call_Name_kw
  apply ld_glob I gx mx _ nd
  exact PySem.W.callWith_K0 I.kIn kf (goG (us := []) F m hb (hx σ) I .nil hw)
def spD (mg : Gm) (n : Nat) (f : List D → M D) : Sp := fun vs H Q E => ∃ W ds Qd Ed, Holds W H ∧ Reps mg W vs ds ∧ ds.length = n ∧ f ds Qd Ed ∧ ToV mg W H Qd Q ∧ ∀ W' H' cls dd x, Step W H W' H' → RepX mg W' H' cls dd x → Ed x → E cls dd H'
/-- what a callee lets out is taken -/
def Pas (X : Cx) (W : WX) : Prop := ∀ σ, PassesAt (L2.CX X.prog X.w) X σ (WE W σ)
theorem pas {X : Cx} {W : WX} (tk : Takes X W) : Pas X W := fun σ => passAt tk σ
structure DefOk (P : Program) (w : World) (mg : Gm) (base : Heap) (k : Nat) (x : Str) (n : Nat) (f : List D → M D) : Prop where
  ex : ∃ fa fd ps, mg.mg x = some (.ref fa) ∧ PySem.W.keepIn mg.K (.ref fa) = true ∧ Binds mg.K fd ps [] ∧ ps.length = n ∧ FnG P w mg.K mg.mg base k fa fd ps (spD mg n f)
abbrev dCall (f : List D → M D) (n : Nat) (g : DTA) : DTE := fun ρ Q E => g ρ (fun ds => ds.length = n ∧ f ds Q E) E
theorem Cp.call {n : Nat} {f : List D → M D} {t : TA} {g : DTA} (h : CpA mg Wx t g) : Cp mg Wx (tCallS (spD mg n f) (WE Wx) t) (dCall f n g) := by
  intro B ρ Q E hf W σ H Q' hh e x q
  refine h B ρ _ E hf W σ H _ hh e x fun W1 H1 vs ds s1 r1 k1 => ?_
  exact ⟨W1, ds, Q, E, s1.holds, r1, k1.1, k1.2, ToV.step q s1, fun W' H' cls dd y s' r h => x W' H' cls dd y (s1.trans s') r h⟩
theorem de_call {P : Program} {w : World} {base : Heap} {k n : Nat} {x : Str} {f : List D → M D} {p : Pos} {e : Expr} {es : List Expr} {g : DTA} (F : DefOk P w mg base k x n f) (hr : ∀ i, RmG k (Xs i).A) (tk : ∀ i, Pas (Xs i) Wx) (ha : DA Xs mg Wx (e :: es) g)
    (hP : ∀ j, (Xs j).prog = P ∧ (Xs j).w = w ∧ (Xs j).K = mg.K ∧ (Xs j).mg = mg.mg ∧ (Xs j).base = base := by intro _; exact ⟨rfl, rfl, rfl, rfl, rfl⟩) (hg : ∀ j, Gl (Xs j) x := by intro _; rfl) (hd : (x == ("__debug__" : Str)) = false := by decide)
    (he : ∀ i, starEach (e :: es) (Xs i).env = (false, eval e (Xs i).env) :: starEach es (Xs i).env := by intro _; rfl) (hpl : ∀ i, (backTo pos (starEach es (Xs i).env)).any (·.1) = false := by intro _; rfl) : DE Xs mg Wx (.Call (.Name x p) (e :: es) [] pos) (dCall f n g) := by
  obtain ⟨fa, fd, ps, hm, hk, hb, hl, G⟩ := F.ex
  obtain ⟨t, h1, h2⟩ := ha
  refine ⟨_, fun i => ?_, Cp.call (f := f) (n := n) h2⟩
  obtain ⟨p1, p2, p3, p4, p5⟩ := hP i
  subst p1 p2 p5
  exact pe_callG (by rw [p3, p4]; exact G) (hr i) (hg i) (by rw [p4]; exact hm) (by rw [p3]; exact hk) (by rw [p3]; exact hb) (fun σ => tk i σ) (h1 i) hd (he i) (hpl i)
end
end FP

/-! FP3: statements, targets, what is walked, loops, comprehensions, a def by its body. -/
namespace FP
open PySem L2
variable [Tabl]
section
variable {ι : Type} {Xs : ι → Cx} {mg : Gm} {Wx : WX} {pos : Pos}

/-! ### blocks, small statements -/
abbrev dNext : DTS := fun N ρ => N.nx ρ
abbrev dSeq (f g : DTS) : DTS := fun N ρ => f { N with nx := g N } ρ
theorem dss_nil : DSs Xs mg Wx [] dNext := ⟨_, fun _ => pss_nil, fun W0 B N ρ h W σ H Ds s e n => n.nx W H σ ρ s e h⟩
theorem EndsR.nxt {W0 : Wd} {B : Hp} {N : Nd} {Ds : Ends} {nx : Env → Prop} {nx' : St → Hp → Prop} (n : EndsR mg Wx W0 B N Ds) (h : ∀ W' H' σ' ρ', Step W0 B W' H' → EnvR mg B W' H' σ' ρ' → nx ρ' → nx' σ' H') : EndsR mg Wx W0 B { N with nx := nx } { Ds with nx := nx' } := ⟨h, n.rt, n.bk, n.ct, n.rs⟩
theorem EndsR.rebase {W0 W : Wd} {B H : Hp} {N : Nd} {Ds : Ends} (n : EndsR mg Wx W0 B N Ds) (s : Step W0 B W H) : EndsR mg Wx W B N Ds :=
  ⟨fun W' H' σ' ρ' s' => n.nx W' H' σ' ρ' (s.join s'), fun W' H' σ' ρ' v d s' => n.rt W' H' σ' ρ' v d (s.join s'), fun W' H' σ' ρ' s' => n.bk W' H' σ' ρ' (s.join s'), fun W' H' σ' ρ' s' => n.ct W' H' σ' ρ' (s.join s'), fun W' H' σ' ρ' c d x s' => n.rs W' H' σ' ρ' c d x (s.join s')⟩
theorem dss_cons {st : Stmt} {rest : List Stmt} {f g : DTS} (h : DS Xs mg Wx st f) (h' : DSs Xs mg Wx rest g) : DSs Xs mg Wx (st :: rest) (dSeq f g) := by
  obtain ⟨t, h1, h2⟩ := h
  obtain ⟨u, g1, g2⟩ := h'
  refine ⟨_, fun i => pss_cons (h1 i) (g1 i), fun W0 B N ρ hf W σ H Ds s e n => ?_⟩
  exact h2 W0 B _ ρ hf W σ H _ s e (n.nxt fun W' H' σ' ρ' s' e' k => g2 W0 B N ρ' k W' σ' H' Ds s' e' n)
theorem dss_one {st : Stmt} {f : DTS} (h : DS Xs mg Wx st f) : DSs Xs mg Wx [st] f := by
  obtain ⟨t, h1, h2⟩ := h
  exact ⟨t, fun i => pss_one (h1 i), h2⟩
abbrev dDrop (f : DTE) : DTS := fun N ρ => f ρ (fun _ => N.nx ρ) (fun x => N.rs x ρ)
theorem ds_expr {e : Expr} {f : DTE} (h : DE Xs mg Wx e f) (hs : ∀ i, swapsWith e none pos.line (Xs i).env = pure false := by intro _; rfl) : DS Xs mg Wx (.Expr e pos) (dDrop f) := by
  obtain ⟨t, h1, h2⟩ := h
  refine ⟨_, fun i => ps_expr (h1 i) (hs i), fun W0 B N ρ hf W σ H Ds s e n => ?_⟩
  exact h2 B ρ _ _ hf W σ H _ s.holds e (n.ex s e) fun W1 H1 v d s1 r1 k1 => n.nx W1 H1 σ ρ (s.trans s1) (e.step s1) k1
abbrev dRet (f : DTE) : DTS := fun N ρ => f ρ (fun d => N.rt d ρ) (fun x => N.rs x ρ)
theorem ds_ret {e : Expr} {f : DTE} (h : DE Xs mg Wx e f) : DS Xs mg Wx (.Return (some e) pos) (dRet f) := by
  obtain ⟨t, h1, h2⟩ := h
  refine ⟨_, fun i => ps_ret (h1 i), fun W0 B N ρ hf W σ H Ds s e n => ?_⟩
  exact h2 B ρ _ _ hf W σ H _ s.holds e (n.ex s e) fun W1 H1 v d s1 r1 k1 => n.rt W1 H1 σ ρ v d (s.trans s1) (e.step s1) r1 k1
abbrev dRetN : DTS := fun N ρ => N.rt .non ρ
theorem ds_retN : DS Xs mg Wx (.Return none pos) dRetN := ⟨_, fun _ => ps_retN, fun W0 B N ρ hf W σ H Ds s e n => n.rt W H σ ρ _ _ s e .non hf⟩
theorem ds_pass : DS Xs mg Wx (.Pass pos) dNext := ⟨_, fun _ => ps_pass, fun W0 B N ρ hf W σ H Ds s e n => n.nx W H σ ρ s e hf⟩
abbrev dBk : DTS := fun N ρ => N.bk ρ
abbrev dCt : DTS := fun N ρ => N.ct ρ
theorem ds_break : DS Xs mg Wx (.Break pos) dBk := ⟨_, fun _ => ps_break, fun W0 B N ρ hf W σ H Ds s e n => n.bk W H σ ρ s e hf⟩
theorem ds_continue : DS Xs mg Wx (.Continue pos) dCt := ⟨_, fun _ => ps_continue, fun W0 B N ρ hf W σ H Ds s e n => n.ct W H σ ρ s e hf⟩
abbrev dIfS (c : DTT) (f g : DTS) : DTS := fun N ρ => c ρ (fun b => bit b (f N ρ) (g N ρ)) (fun x => N.rs x ρ)
theorem ds_if {c : Expr} {a b : List Stmt} {fc : DTT} {f g : DTS} (hc : DT Xs mg Wx c fc) (ha : DSs Xs mg Wx a f) (hb : DSs Xs mg Wx b g) : DS Xs mg Wx (.If c a b pos) (dIfS fc f g) := by
  obtain ⟨tc, c1, c2⟩ := hc
  obtain ⟨ta, a1, a2⟩ := ha
  obtain ⟨tb, b1, b2⟩ := hb
  refine ⟨_, fun i => ps_if (c1 i) (a1 i) (b1 i), fun W0 B N ρ hf W σ H Ds s e n => ?_⟩
  refine c2 B ρ _ _ hf W σ H _ s.holds e (n.ex s e) fun W1 H1 k s1 k1 => ?_
  cases k with
  | true =>
    rw [if_pos rfl]
    exact a2 W0 B N ρ k1 W1 σ H1 Ds (s.trans s1) (e.step s1) n
  | false =>
    rw [if_neg Bool.false_ne_true]
    exact b2 W0 B N ρ k1 W1 σ H1 Ds (s.trans s1) (e.step s1) n
abbrev dSet (i : Nat) (f : DTE) : DTS := fun N ρ => f ρ (fun d => N.nx (ρ.set i (.d d))) (fun x => N.rs x ρ)
theorem ds_set {i : Nat} {x : Str} {e : Expr} {f : DTE} {pos' : Pos} (h : DE Xs mg Wx e f) (hN : ∀ j, (Xs j).N.Nodup) (hi : ∀ j, (Xs j).N[i]? = some x := by intro _; rfl) (hx : ∀ j, Loc (Xs j).env.scope x := by intro _; first | exact Or.inl rfl | exact Or.inr rfl)
    (hs : ∀ j, swapsWith e (some (.Name x pos')) pos.line (Xs j).env = pure false := by intro _; rfl) (hf : ∀ j, (Xs j).fn x = true ∨ (Xs j).env.scope.names.lookup x = some .local := by intro _; first | exact .inl rfl | exact .inr rfl) : DS Xs mg Wx (.Assign [.Name x pos'] e pos) (dSet i f) := by
  obtain ⟨t, h1, h2⟩ := h
  refine ⟨_, fun j => ps_set (i := i) (hN j) (hi j) (hx j) (h1 j) (hs j) (hf j), fun W0 B N ρ hf W σ H Ds s e n => ?_⟩
  exact h2 B ρ _ _ hf W σ H _ s.holds e (n.ex s e) fun W1 H1 v d s1 r1 k1 => n.nx W1 H1 _ _ (s.trans s1) ((e.step s1).set r1) k1

/-! ### targets -/
inductive Tg where
  | one (i : Nat) | many (is : List Nat) | manyL (is : List Nat)
def putAll : List Nat → List D → Env → Option Env
  | [], [], ρ => some ρ
  | i :: is, d :: ds, ρ => putAll is ds (ρ.set i (.d d))
  | _, _, _ => none
def Tg.put : Tg → D → Env → Option Env
  | .one i, d, ρ => some (ρ.set i (.d d))
  | .many is, .tup ds, ρ => putAll is ds ρ
  | .many _, _, _ => none
  | .manyL is, .lst ds, ρ => putAll is ds ρ
  | .manyL _, _, _ => none
def Tg.slots : Tg → List Nat
  | .one i => [i]
  | .many is => is
  | .manyL is => is
theorem wipe_set_in {σ : St} {i : Nat} {o : Option V} : ∀ {vs : List Nat}, i ∈ vs → wipe (σ.set i o) vs = wipe σ vs
  | [], h => by cases h
  | v :: vs, h => by
    unfold wipe
    by_cases hi : i ∈ vs
    · rw [wipe_set_in hi]
    · have e : i = v := by
        rcases List.mem_cons.mp h with q | q
        · exact q
        · exact absurd q hi
      subst e
      have out : ∀ ws : List Nat, wipe (σ.set i o) ws = wipe σ ws ∨ ∃ o', wipe (σ.set i o) ws = (wipe σ ws).set i o' := by
        intro ws
        induction ws with
        | nil => exact .inr ⟨o, rfl⟩
        | cons w ws ih =>
          unfold wipe
          rcases ih with ih | ⟨o', ih⟩
          · rw [ih]
            exact .inl rfl
          · rw [ih]
            by_cases hw : w = i
            · subst hw
              rw [List.set_set]
              exact .inl rfl
            · exact .inr ⟨o', by rw [List.set_comm _ _ (Ne.symm hw)]⟩
      rcases out vs with q | ⟨o', q⟩
      · rw [q]
      · rw [q, List.set_set]
theorem wipe_wipe (σ : St) (vs : List Nat) : L2.wipe (L2.wipe σ vs) vs = L2.wipe σ vs := by
  have key : ∀ (us ws : List Nat) (τ : St), (∀ i ∈ ws, i ∈ us) → L2.wipe (L2.wipe τ ws) us = L2.wipe τ us := by
    intro us ws
    induction ws with
    | nil => intro τ _; rfl
    | cons w ws ih =>
      intro τ h
      show L2.wipe ((L2.wipe τ ws).set w none) us = _
      rw [wipe_set_in (h w List.mem_cons_self)]
      exact ih τ fun i hi => h i (List.mem_cons_of_mem _ hi)
  exact key vs vs σ fun _ h => h
def CpG (mg : Gm) (g : TG) (T : Tg) : Prop := ∀ B W H x d σ ρ ρ' Q', Holds W H → Rep mg W x d → EnvR mg B W H σ ρ → T.put d ρ = some ρ' → (∀ σ', EnvR mg B W H σ' ρ' → (∀ vs : List Nat, (∀ i ∈ T.slots, i ∈ vs) → wipe σ' vs = wipe σ vs) → Q' σ' H) → g x σ H Q'
def CpGs (mg : Gm) (g : TGs) (is : List Nat) : Prop := ∀ B W H xs ds σ ρ ρ' Q', Holds W H → Reps mg W xs ds → EnvR mg B W H σ ρ → putAll is ds ρ = some ρ' → (∀ σ', EnvR mg B W H σ' ρ' → (∀ vs : List Nat, (∀ i ∈ is, i ∈ vs) → wipe σ' vs = wipe σ vs) → Q' σ' H) → g xs σ H Q'
def DG (Xs : ι → Cx) (mg : Gm) (tg : Expr) (T : Tg) : Prop := ∃ g, (∀ i, PG (Xs i) tg g) ∧ CpG mg g T
def DGs (Xs : ι → Cx) (mg : Gm) (tgs : List Expr) (is : List Nat) : Prop := ∃ g, (∀ i, PGs (Xs i) tgs g) ∧ CpGs mg g is
theorem CpG.name {i : Nat} : CpG mg (gName i) (.one i) := fun B W H x d σ ρ ρ' Q' hh r e h q => by
  cases h
  exact q _ (e.set r) fun vs hv => wipe_set_in (hv i (List.mem_singleton.mpr rfl))
theorem pg_nm {i : Nat} {x : Str} (hN : ∀ j, (Xs j).N.Nodup) (hi : ∀ j, (Xs j).N[i]? = some x) (hx : ∀ j, Loc (Xs j).env.scope x) (hf : ∀ j, (Xs j).fn x = true ∨ (Xs j).env.scope.names.lookup x = some .local) : ∀ j, PG (Xs j) (.Name x pos) (gName i) := fun j => pg_name (hN j) (hi j) (hx j) (hf j)
theorem dg_name {i : Nat} {x : Str} (hN : ∀ j, (Xs j).N.Nodup) (hi : ∀ j, (Xs j).N[i]? = some x := by intro _; rfl) (hx : ∀ j, Loc (Xs j).env.scope x := by intro _; first | exact Or.inl rfl | exact Or.inr rfl)
    (hf : ∀ j, (Xs j).fn x = true ∨ (Xs j).env.scope.names.lookup x = some .local := by intro _; first | exact .inl rfl | exact .inr rfl) : DG Xs mg (.Name x pos) (.one i) := ⟨_, pg_nm hN hi hx hf, CpG.name⟩
theorem dgs_nil : DGs Xs mg [] [] := ⟨_, fun _ => pgs_nil, fun B W H xs ds σ ρ ρ' Q' hh r e h q => by
  cases r with
  | nil =>
    cases h
    exact ⟨rfl, q σ e fun _ _ => rfl⟩
  | cons => cases h⟩
theorem dgs_cons {i : Nat} {is : List Nat} {e : Expr} {es : List Expr} (h : DG Xs mg e (.one i)) (h' : DGs Xs mg es is) (hs : ∀ j, (assignEach (e :: es) (Xs j).env).map (·.2) = assign e (Xs j).env :: (assignEach es (Xs j).env).map (·.2) := by intro _; rfl) : DGs Xs mg (e :: es) (i :: is) := by
  obtain ⟨g, h1, h2⟩ := h
  obtain ⟨gs, g1, g2⟩ := h'
  refine ⟨_, fun j => pgs_cons (h1 j) (g1 j) (hs j), fun B W H xs ds σ ρ ρ' Q' hh r e h q => ?_⟩
  cases r with
  | nil => cases h
  | cons r1 rs =>
    refine ⟨_, _, rfl, h2 B W H _ _ σ ρ _ _ hh r1 e rfl fun σ1 e1 w1 => ?_⟩
    exact g2 B W H _ _ σ1 _ ρ' Q' hh rs e1 h fun σ2 e2 w2 => q σ2 e2 fun vs hv => (w2 vs fun j hj => hv j (List.mem_cons_of_mem _ hj)).trans (w1 vs fun j hj => hv j (by
      rw [List.mem_singleton.mp hj]
      exact List.mem_cons_self))
theorem putAll_len : ∀ {is : List Nat} {ds : List D} {ρ ρ' : Env}, putAll is ds ρ = some ρ' → ds.length = is.length
  | [], [], _, _, _ => rfl
  | _ :: is, _ :: ds, _, _, h => congrArg (· + 1) (putAll_len (is := is) (ds := ds) h)
  | [], _ :: _, _, _, h => by cases h
  | _ :: _, [], _, _, h => by cases h
theorem dg_tup {es : List Expr} {k : Nat} {is : List Nat} (h : DGs Xs mg es is) (hc : ∀ j, (Xs j).calm = true := by intro _; rfl) (hK : ∀ j, (Xs j).K = mg.K := by intro _; rfl) (hn : ∀ j, (assignEach es (Xs j).env).length = is.length := by intro _; rfl) (hst : ∀ j, (assignEach es (Xs j).env).findIdx? (·.1) = none := by intro _; rfl) : DG Xs mg (.Tuple es k pos) (.many is) := by
  obtain ⟨g, h1, h2⟩ := h
  refine ⟨gTup mg.K is.length g, fun j => by
    have z := pg_tup (pos := pos) (k := k) (n := is.length) (hc j) (h1 j) (hn j) (hst j)
    rw [hK j] at z
    exact z, fun B W H x d σ ρ ρ' Q' hh r e h q => ?_⟩
  cases r with
  | tup ha rs => exact ⟨_, _, rfl, SqT.of (hh.same _ _ ha), by rw [rs.length]; exact putAll_len h, h2 B W H _ _ σ ρ ρ' Q' hh rs e h q⟩
  | _ => cases h
theorem dg_unl {es : List Expr} {k : Nat} {is : List Nat} (h : DGs Xs mg es is) (hc : ∀ j, (Xs j).calm = true := by intro _; rfl) (hK : ∀ j, (Xs j).K = mg.K := by intro _; rfl) (hn : ∀ j, (assignEach es (Xs j).env).length = is.length := by intro _; rfl) (hst : ∀ j, (assignEach es (Xs j).env).findIdx? (·.1) = none := by intro _; rfl) : DG Xs mg (.Tuple es k pos) (.manyL is) := by
  obtain ⟨g, h1, h2⟩ := h
  refine ⟨gUnl mg.K is.length g, fun j => by
    have z := pg_unl (pos := pos) (k := k) (n := is.length) (hc j) (h1 j) (hn j) (hst j)
    rw [hK j] at z
    exact z, fun B W H x d σ ρ ρ' Q' hh r e h q => ?_⟩
  cases r with
  | lst ha rs => exact ⟨_, _, rfl, SqL.of (hh.same _ _ ha), by rw [rs.length]; exact putAll_len h, h2 B W H _ _ σ ρ ρ' Q' hh rs e h q⟩
  | _ => cases h
abbrev dAsg (T : Tg) (f : DTE) : DTS := fun N ρ => f ρ (fun d => ∃ ρ', T.put d ρ = some ρ' ∧ N.nx ρ') (fun x => N.rs x ρ)
theorem ds_asg {tg e : Expr} {f : DTE} {T : Tg} (h : DE Xs mg Wx e f) (g : DG Xs mg tg T) (hs : ∀ j, swapsWithSole [tg] e pos.line (Xs j).env = pure false := by intro _; rfl) (hw : ∀ j, swappedStores [tg] e (Xs j).env = pure none := by intro _; rfl)
    (ha : ∀ j, (assignEach [tg] (Xs j).env).map (·.2) = [assign tg (Xs j).env] := by intro _; rfl) : DS Xs mg Wx (.Assign [tg] e pos) (dAsg T f) := by
  obtain ⟨t, h1, h2⟩ := h
  obtain ⟨u, g1, g2⟩ := g
  refine ⟨_, fun j => ps_asg (h1 j) (g1 j) (hs j) (hw j) (ha j), fun W0 B N ρ hf W σ H Ds s e n => ?_⟩
  refine h2 B ρ _ _ hf W σ H _ s.holds e (n.ex s e) fun W1 H1 v d s1 r1 k1 => ?_
  obtain ⟨ρ', k2, k3⟩ := k1
  exact g2 B W1 H1 v d σ ρ ρ' _ s1.holds r1 (e.step s1) k2 fun σ' e' _ => n.nx W1 H1 σ' ρ' (s.trans s1) e' k3

/-! ### what is walked -/
def WalkD (mg : Gm) (W : Wd) (J : It) (ds : List D) : Prop := ∀ W1 H1, Le W W1 → Holds W1 H1 → (∀ i, i < ds.length → J.go i H1) ∧ J.stop ds.length H1 ∧ ∀ i x H2, i < ds.length → J.yld i H1 x H2 → ∃ W2 d, Step W1 H1 W2 H2 ∧ ds[i]? = some d ∧ Rep mg W2 x d
def CpI (mg : Gm) (Wx : WX) (w : TI) (f : DTI) : Prop := ∀ B ρ Q E, f ρ Q E → ∀ W σ H Q', Holds W H → EnvR mg B W H σ ρ → ExR mg Wx W H σ E → (∀ W' H' J ds, Step W H W' H' → WalkD mg W' J ds → Q ds → Q' J H') → w σ H Q'
def DI (Xs : ι → Cx) (mg : Gm) (Wx : WX) (tg e : Expr) (f : DTI) : Prop := ∃ w, (∀ i, PI (Xs i) tg e w) ∧ CpI mg Wx w f
/-- a walk that leaves the heap as it was -/
theorem WalkD.of {W : Wd} {J : It} {ds : List D} {G : Hp → Prop} {vs : Nat → Option V} (w : L2.Walk J ds.length G (fun i H x H' => H' = H ∧ vs i = some x)) (hG : ∀ W1 H1, Le W W1 → Holds W1 H1 → G H1) (hv : ∀ i x, i < ds.length → vs i = some x → ∃ d, ds[i]? = some d ∧ Rep mg W x d) : WalkD mg W J ds := by
  intro W1 H1 l hh
  refine ⟨fun i hi => w.goes i H1 hi (hG W1 H1 l hh), w.stops H1 (hG W1 H1 l hh), fun i x H2 hi y => ?_⟩
  obtain ⟨e, hx⟩ := w.yields i H1 x H2 hi (hG W1 H1 l hh) y
  subst e
  obtain ⟨d, h1, h2⟩ := hv i x hi hx
  exact ⟨W1, d, Step.refl hh, h1, h2.mono l⟩
abbrev dIList (f : DTE) : DTI := fun ρ Q E => f ρ (fun x => match x with
  | .lst ds => Q ds
  | .fz ds => Q ds
  | _ => False) E
theorem WalkD.list {W : Wd} {H : Hp} {a : Addr} {vs : List V} {ds : List D} (r : Reps mg W vs ds) (h : ∀ W1 H1, Le W W1 → Holds W1 H1 → SqL mg.K H1 a vs) : WalkD mg W (Itl mg.K a) ds := by
  have e := r.length
  have w := walk_list (K := mg.K) (a := a) (xs := vs)
  rw [e] at w
  exact WalkD.of (vs := fun i => vs[i]?) w h fun i x hi hx => r.getV hx
theorem di_list {tg e : Expr} {f : DTE} (h : DE Xs mg Wx e f) (hK : ∀ j, (Xs j).K = mg.K := by intro _; rfl) : DI Xs mg Wx tg e (dIList f) := by
  obtain ⟨t, h1, h2⟩ := h
  refine ⟨iList mg.K t, fun j => by
    have z := pi_list (tg := tg) (h1 j)
    rw [hK j] at z
    exact z, fun B ρ Q E hf W σ H Q' hh e x q => ?_⟩
  refine h2 B ρ _ E hf W σ H _ hh e x fun W1 H1 v d s1 r1 k1 => ?_
  cases r1 with
  | lst ha rs => exact ⟨_, rfl, ⟨_, SqL.of (s1.holds.same _ _ ha)⟩, q W1 H1 _ _ s1 (WalkD.list (H := H1) rs fun W2 H2 l hh => SqL.of (hh.same _ _ (l.h _ _ ha))) k1⟩
  | fz ha rs => exact ⟨_, rfl, ⟨_, s1.holds.same.seq ha⟩, q W1 H1 _ _ s1 (WalkD.list (H := H1) rs fun W2 H2 l hh => hh.same.seq (l.h.seq ha)) k1⟩
  | _ => exact k1.elim
abbrev dITup (f : DTE) : DTI := fun ρ Q E => f ρ (fun x => match x with
  | .tup ds => Q ds
  | _ => False) E
theorem di_tup {tg e : Expr} {f : DTE} (h : DE Xs mg Wx e f) (hK : ∀ j, (Xs j).K = mg.K := by intro _; rfl) : DI Xs mg Wx tg e (dITup f) := by
  obtain ⟨t, h1, h2⟩ := h
  refine ⟨iTup mg.K t, fun j => by
    have z := pi_tup (tg := tg) (h1 j)
    rw [hK j] at z
    exact z, fun B ρ Q E hf W σ H Q' hh e x q => ?_⟩
  refine h2 B ρ _ E hf W σ H _ hh e x fun W1 H1 v d s1 r1 k1 => ?_
  cases r1 with
  | @tup a vs ds ha rs =>
    refine ⟨_, rfl, ⟨_, SqT.of (s1.holds.same _ _ ha)⟩, q W1 H1 _ ds s1 ?_ k1⟩
    have w := walk_tup (K := mg.K) (a := a) (xs := vs)
    rw [rs.length] at w
    exact WalkD.of (vs := fun i => vs[i]?) w (fun W2 H2 l hh => SqT.of (hh.same _ _ (l.h _ _ ha))) fun i x hi hx => rs.getV hx
  | _ => exact k1.elim
/-- the signs of a text -/
def signsD (x : Str) : List D := x.cps.toList.map fun c => .str ⟨#[c]⟩
theorem signsD_len (x : Str) : (signsD x).length = x.cps.size := by simp [signsD]
abbrev dIStr (f : DTE) : DTI := fun ρ Q E => f ρ (fun x => match x with
  | .str z => Q (signsD z)
  | _ => False) E
theorem di_str {tg e : Expr} {f : DTE} (h : DE Xs mg Wx e f) : DI Xs mg Wx tg e (dIStr f) := by
  obtain ⟨t, h1, h2⟩ := h
  refine ⟨iStr t, fun j => pi_str (h1 j), fun B ρ Q E hf W σ H Q' hh e x q => ?_⟩
  refine h2 B ρ _ E hf W σ H _ hh e x fun W1 H1 v d s1 r1 k1 => ?_
  cases r1 with
  | str z =>
    refine ⟨z, rfl, q W1 H1 _ _ s1 (fun W2 H2 l hh => ?_) k1⟩
    have w := walk_str (z := z)
    refine ⟨fun i hi => w.goes i H2 (by rw [← signsD_len]; exact hi) True.intro, by rw [signsD_len]; exact w.stops H2 True.intro, fun i x H3 hi y => ?_⟩
    obtain ⟨e, c, hc, hx⟩ := w.yields i H2 x H3 (by rw [← signsD_len]; exact hi) True.intro y
    subst e hx
    refine ⟨W2, _, Step.refl hh, ?_, .str _⟩
    unfold signsD
    rw [List.getElem?_map, Array.getElem?_toList, hc]
    rfl
  | _ => exact k1.elim
def rangeD (lo : Int) (n : Nat) : List D := (List.range n).map fun (i : Nat) => D.int (lo + i)
theorem rangeD_len (lo : Int) (n : Nat) : (rangeD lo n).length = n := by simp [rangeD]
theorem WalkD.range {W : Wd} {lo : Int} {n : Nat} : WalkD mg W (Itr lo n) (rangeD lo n) := by
  intro W1 H1 l hh
  have w := walk_range (lo := lo) (n := n)
  refine ⟨fun i hi => w.goes i H1 (by rw [rangeD_len] at hi; exact hi) True.intro, by rw [rangeD_len]; exact w.stops H1 True.intro, fun i x H3 hi y => ?_⟩
  rw [rangeD_len] at hi
  obtain ⟨e, hx⟩ := w.yields i H1 x H3 hi True.intro y
  subst e hx
  refine ⟨W1, _, Step.refl hh, ?_, .int _⟩
  unfold rangeD
  rw [List.getElem?_map, List.getElem?_range hi]
  rfl
abbrev dIRng1 (g : DTA) : DTI := fun ρ Q E => g ρ (fun ds => match ds with
  | [.int j] => -(2 ^ 62) ≤ j ∧ j < 2 ^ 62 ∧ Q (rangeD 0 j.toNat)
  | _ => False) E
theorem di_range1 {tg a : Expr} {p : Pos} {g : DTA} (hm : mg.mg "range" = none) (h : DA Xs mg Wx [a] g) (hM : ∀ j, (Xs j).mg = mg.mg := by intro _; rfl) (hg : ∀ j, Gl (Xs j) "range" := by intro _; rfl) (hs : ∀ j, starEach [a] (Xs j).env = [(false, eval a (Xs j).env)] := by intro _; rfl) :
    DI Xs mg Wx tg (.Call (.Name "range" p) [a] [] pos) (dIRng1 g) := by
  obtain ⟨t, h1, h2⟩ := h
  refine ⟨iRng1 t, fun j => pi_range1 (hg j) (by rw [hM j]; exact hm) (h1 j) (hs j), fun B ρ Q E hf W σ H Q' hh e x q => ?_⟩
  refine h2 B ρ _ E hf W σ H _ hh e x fun W1 H1 vs ds s1 r1 k1 => ?_
  split at k1
  · rename_i j
    cases r1 with
    | cons r rs =>
      cases r
      cases rs
      exact ⟨j, rfl, k1.1, k1.2.1, q W1 H1 _ _ s1 WalkD.range k1.2.2⟩
  · exact k1.elim
abbrev dIRng2 (g : DTA) : DTI := fun ρ Q E => g ρ (fun ds => match ds with
  | [.int i, .int j] => (-(2 ^ 62) ≤ i ∧ i < 2 ^ 62 ∧ -(2 ^ 62) ≤ j ∧ j < 2 ^ 62) ∧ Q (rangeD i (j - i).toNat)
  | _ => False) E
theorem di_range2 {tg a b : Expr} {p : Pos} {g : DTA} (hm : mg.mg "range" = none) (h : DA Xs mg Wx [a, b] g) (hM : ∀ j, (Xs j).mg = mg.mg := by intro _; rfl) (hg : ∀ j, Gl (Xs j) "range" := by intro _; rfl) (hs : ∀ j, starEach [a, b] (Xs j).env = [(false, eval a (Xs j).env), (false, eval b (Xs j).env)] := by intro _; rfl)
    (hs2 : ∀ j, starEach [b] (Xs j).env = [(false, eval b (Xs j).env)] := by intro _; rfl) : DI Xs mg Wx tg (.Call (.Name "range" p) [a, b] [] pos) (dIRng2 g) := by
  obtain ⟨t, h1, h2⟩ := h
  refine ⟨iRng2 t, fun j => pi_range2 (hg j) (by rw [hM j]; exact hm) (h1 j) (hs j) (hs2 j), fun B ρ Q E hf W σ H Q' hh e x q => ?_⟩
  refine h2 B ρ _ E hf W σ H _ hh e x fun W1 H1 vs ds s1 r1 k1 => ?_
  split at k1
  · rename_i i j
    cases r1 with
    | cons r rs =>
      cases r
      cases rs with
      | cons r rs =>
        cases r
        cases rs
        exact ⟨i, j, rfl, k1.1, q W1 H1 _ _ s1 WalkD.range k1.2⟩
  · exact k1.elim

/-! ### for -/
def forD (T : Tg) (f : DTS) (N : Nd) : List D → Env → Prop
  | [], ρ => N.nx ρ
  | d :: ds, ρ => ∃ ρ1, T.put d ρ = some ρ1 ∧ f { N with nx := forD T f N ds, ct := forD T f N ds, bk := N.nx } ρ1
abbrev dFor (w : DTI) (T : Tg) (f : DTS) : DTS := fun N ρ => w ρ (fun ds => forD T f N ds ρ) (fun x => N.rs x ρ)
theorem ds_for {tg iter : Expr} {body : List Stmt} {w : DTI} {T : Tg} {f : DTS} (hi : DI Xs mg Wx tg iter w) (hg : DG Xs mg tg T) (hb : DSs Xs mg Wx body f) (hp : ∀ j, PassesOwn (model (Xs j).prog (Xs j).w) (Xs j).A (Xs j).env (Xs j).xe) (hc : ∀ j, (Xs j).calm = true := by intro _; rfl)
    (hs : ∀ j x, foldedSetIterable iter (Xs j).env x = pure x := by intro _ _; rfl) : DS Xs mg Wx (.For tg iter body [] pos) (dFor w T f) := by
  obtain ⟨wi, i1, i2⟩ := hi
  obtain ⟨g, g1, g2⟩ := hg
  obtain ⟨tb, b1, b2⟩ := hb
  refine ⟨_, fun j => ps_for (hp j) (hc j) (i1 j) (g1 j) (b1 j) (hs j), fun W0 B N ρ hf W σ H Ds s e n => ?_⟩
  refine i2 B ρ _ _ hf W σ H _ s.holds e (n.ex s e) fun W1 H1 J ds s1 wk k1 => ?_
  refine ⟨fun i m σ' H' => m = ds.length - i ∧ i ≤ ds.length ∧ ∃ W' ρ', Step W0 B W' H' ∧ EnvR mg B W' H' σ' ρ' ∧ Le W1 W' ∧ forD T f N (ds.drop i) ρ', ⟨ds.length, by simp, Nat.zero_le _, W1, ρ, s.trans s1, e.step s1, Le.refl _, k1⟩, ?_⟩
  rintro i m σ' H' ⟨rfl, hi, W', ρ', s', e', l', k'⟩
  obtain ⟨go, stop, yld⟩ := wk W' H' l' s'.holds
  by_cases hlt : i < ds.length
  · refine .inr ⟨go i hlt, fun σ2 H2 => ∃ W2 ρ2, Step W0 B W2 H2 ∧ EnvR mg B W2 H2 σ2 ρ2 ∧ Le W1 W2 ∧ forD T f N (ds.drop (i + 1)) ρ2, fun σ2 H2 q => ⟨ds.length - (i + 1), by omega, rfl, hlt, q⟩, fun x H2 y => ?_⟩
    obtain ⟨W2, d, s2, hd, r⟩ := yld i x H2 hlt y
    have ed : ds.drop i = d :: ds.drop (i + 1) := by
      rw [List.drop_eq_getElem_cons hlt]
      have := (List.getElem?_eq_some_iff.mp hd).2
      rw [this]
    rw [ed] at k'
    obtain ⟨ρ1, p1, k2⟩ := k'
    refine g2 B W2 H2 x d σ' ρ' ρ1 _ s2.holds r (e'.step s2) p1 fun σ3 e3 _ => ?_
    have s02 := s'.trans s2
    have n2 := n.rebase s02
    refine b2 W2 B _ ρ1 k2 W2 σ3 H2 _ s02.rebase e3 ⟨fun W3 H3 σ4 ρ4 s3 e4 k4 => ⟨W3, ρ4, s02.join s3, e4, (l'.trans s2.le).trans s3.le, k4⟩, n2.rt, n2.nx, fun W3 H3 σ4 ρ4 s3 e4 k4 => ⟨W3, ρ4, s02.join s3, e4, (l'.trans s2.le).trans s3.le, k4⟩, n2.rs⟩
  · have ei : i = ds.length := by omega
    subst ei
    rw [List.drop_length] at k'
    exact .inl ⟨stop, n.nx W' H' σ' ρ' s' e' k'⟩

/-! ### while -/
abbrev dWhile (c : DTT) (f : DTS) : DTS := fun N ρ => ∃ I : Nat → Env → Prop, (∃ m, I m ρ) ∧ ∀ m ρ, I m ρ → c ρ (fun b => bit b (f { N with nx := fun ρ' => ∃ m', m' < m ∧ I m' ρ', ct := fun ρ' => ∃ m', m' < m ∧ I m' ρ', bk := N.nx } ρ) (N.nx ρ)) (fun x => N.rs x ρ)
theorem ds_while {c : Expr} {body : List Stmt} {fc : DTT} {f : DTS} (hc : DT Xs mg Wx c fc) (hb : DSs Xs mg Wx body f) (hp : ∀ j, PassesOwn (model (Xs j).prog (Xs j).w) (Xs j).A (Xs j).env (Xs j).xe) : DS Xs mg Wx (.While c body [] pos) (dWhile fc f) := by
  obtain ⟨tc, c1, c2⟩ := hc
  obtain ⟨tb, b1, b2⟩ := hb
  refine ⟨_, fun j => ps_while (hp j) (c1 j) (b1 j), fun W0 B N ρ hf W σ H Ds s e n => ?_⟩
  obtain ⟨I, ⟨m0, i0⟩, turn⟩ := hf
  refine ⟨fun m σ' H' => ∃ W' ρ', Step W0 B W' H' ∧ EnvR mg B W' H' σ' ρ' ∧ I m ρ', ⟨m0, W, ρ, s, e, i0⟩, ?_⟩
  rintro m σ' H' ⟨W', ρ', s', e', i'⟩
  refine c2 B ρ' _ _ (turn m ρ' i') W' σ' H' _ s'.holds e' (n.ex s' e') fun W1 H1 k s1 k1 => ?_
  cases k with
  | true =>
    rw [if_pos rfl]
    refine ⟨fun σ2 H2 => ∃ m', m' < m ∧ ∃ W2 ρ2, Step W0 B W2 H2 ∧ EnvR mg B W2 H2 σ2 ρ2 ∧ I m' ρ2, fun σ2 H2 q => q, ?_⟩
    exact b2 W0 B _ ρ' k1 W1 σ' H1 _ (s'.trans s1) (e'.step s1) ⟨fun W3 H3 σ4 ρ4 s3 e4 ⟨m', hm, k4⟩ => ⟨m', hm, W3, ρ4, s3, e4, k4⟩, n.rt, n.nx, fun W3 H3 σ4 ρ4 s3 e4 ⟨m', hm, k4⟩ => ⟨m', hm, W3, ρ4, s3, e4, k4⟩, n.rs⟩
  | false =>
    rw [if_neg Bool.false_ne_true]
    exact n.nx W1 H1 σ' ρ' (s'.trans s1) (e'.step s1) k1

/-! ### comprehensions -/
def lcD (body : D → (Option D → Prop) → Prop) : List D → (List D → Prop) → Prop
  | [], Q => Q []
  | d :: ds, Q => body d fun o => lcD body ds fun rs => match o with
    | some r => Q (r :: rs)
    | none => Q rs
def wipeD (ρ : Env) : List Nat → Env
  | [] => ρ
  | v :: vs => (wipeD ρ vs).set v .no
theorem EnvR.wipe {B : Hp} {W : Wd} {H : Hp} {σ : St} {ρ : Env} (e : EnvR mg B W H σ ρ) : ∀ vs : List Nat, EnvR mg B W H (L2.wipe σ vs) (wipeD ρ vs)
  | [] => e
  | v :: vs => (EnvR.wipe e vs).no
abbrev dLc (w : DTI) (T : Tg) (ft : DTT) (fe : DTE) (vs : List Nat) : DTE := fun ρ Q E => w ρ (fun ds => ds.length ≤ sizeLine ∧ lcD (fun d k => ∃ ρ2, T.put d (wipeD ρ vs) = some ρ2 ∧ ft ρ2 (fun b => bit b (fe ρ2 (fun r => k (some r)) F0) (k none)) F0) ds fun rs => Q (.lst rs)) E
abbrev blkF (Xs : ι → Cx) (scope : Scope) : ι × Shared × Hp × Addr × List (Str × Addr) × List Addr → Cx := fun j => (Xs j.1).blk j.2.1 j.2.2.1 scope (compEnvC scope j.2.2.2.2.1 j.2.2.2.1 (Xs j.1).env) j.2.2.2.2.2
def DTs (Xs : ι → Cx) (mg : Gm) (Wx : WX) (ifs : List Expr) (f : DTT) : Prop := ∃ t, (∀ i, PTs (Xs i) ifs t) ∧ CpT mg Wx t f
abbrev dYes : DTT := fun _ Q _ => Q true
theorem dts_nil : DTs Xs mg Wx [] dYes := ⟨_, fun _ => pts_nil, fun B ρ Q E hf W σ H Q' hh e x q => q W H true (Step.refl hh) hf⟩
theorem dts_one {c : Expr} {f : DTT} (h : DT Xs mg Wx c f) : DTs Xs mg Wx [c] f := by
  obtain ⟨t, h1, h2⟩ := h
  exact ⟨t, fun i => pts_one (h1 i), h2⟩
theorem Cp.lc {wi : TI} {g : TG} {tt : TT} {te : TE} {w : DTI} {T : Tg} {ft : DTT} {fe : DTE} {vs : List Nat} (hi : CpI mg Wx wi w) (hg : CpG mg g T) (hv : ∀ i ∈ T.slots, i ∈ vs) (ht : CpT mg Wx0 tt ft) (he : Cp mg Wx0 te fe) : Cp mg Wx (tLc wi g tt te vs) (dLc w T ft fe vs) := by
  intro B ρ Q E hf W σ H Q' hh e x q
  refine hi B ρ _ E hf W σ H _ hh e x fun W1 H1 J ds s1 wk k1 => ?_
  obtain ⟨hsz, k1⟩ := k1
  intro A hA
  have e1 := e.step s1
  refine ⟨fun i m H' => m = ds.length - i ∧ i ≤ ds.length ∧ ∃ W' us acc, Step W1 H1 W' H' ∧ H' A = some (.lst us) ∧ W'.H A = none ∧ ¬ W'.T A ∧ Reps mg W' us acc ∧ acc.length ≤ i ∧ lcD _ (ds.drop i) (fun rs => Q (.lst (acc ++ rs))),
    ⟨ds.length, by simp, Nat.zero_le _, W1, [], [], Step.lay s1.holds hA, upd_same, s1.holds.same.free hA, s1.holds.nT hA, .nil, Nat.le_refl _, k1⟩, ?_⟩
  rintro i m H' ⟨rfl, hi, W', us, acc, s', hL, nw, nt, rs, la, k'⟩
  obtain ⟨go, stop, yld⟩ := wk W' H' s'.le s'.holds
  by_cases hlt : i < ds.length
  · refine .inr ⟨go i hlt, fun H2 => ∃ W2 us2 acc2, Step W1 H1 W2 H2 ∧ H2 A = some (.lst us2) ∧ W2.H A = none ∧ ¬ W2.T A ∧ Reps mg W2 us2 acc2 ∧ acc2.length ≤ i + 1 ∧ lcD _ (ds.drop (i + 1)) (fun rs => Q (.lst (acc2 ++ rs))), fun H2 q => ⟨ds.length - (i + 1), by omega, rfl, hlt, q⟩, fun y H2 hy => ?_⟩
    obtain ⟨W2, d, s2, hd, r⟩ := yld i y H2 hlt hy
    have ed : ds.drop i = d :: ds.drop (i + 1) := by
      rw [List.drop_eq_getElem_cons hlt]
      have := (List.getElem?_eq_some_iff.mp hd).2
      rw [this]
    rw [ed] at k'
    obtain ⟨ρ1, p1, k2⟩ := k'
    have sA : ∀ {Wa Wb : Wd} {Ha Hb : Hp} {ws : List V}, Step Wa Ha Wb Hb → Ha A = some (.lst ws) → Wa.H A = none → ¬ Wa.T A → Hb A = some (.lst ws) ∧ Wb.H A = none ∧ ¬ Wb.T A := fun st a1 a2 a3 => ⟨st.keep A _ a1 a3, by rw [st.fresh A _ a1]; exact a2, fun t => by
      rcases st.freshT A t with t | t
      · exact a3 t
      · rw [a1] at t
        cases t⟩
    refine hg B W2 H2 y d _ _ ρ1 _ s2.holds r ((e1.step s').step s2 |>.wipe vs) p1 fun σ3 e3 w3 => ?_
    refine ⟨(w3 vs hv).trans ?_, ?_⟩
    · have idem : ∀ ws : List Nat, L2.wipe (L2.wipe σ vs) ws = L2.wipe σ vs ∨ True := fun _ => .inr trivial
      exact wipe_wipe σ vs
    refine ht B ρ1 _ _ k2 W2 σ3 H2 _ s2.holds e3 ExR.f0 fun W3 H3 b s3 k3 => ?_
    obtain ⟨b1, b2, b3⟩ := sA (s2.trans s3) hL nw nt
    cases b with
    | true =>
      rw [if_pos rfl]
      refine he B ρ1 _ _ k3 W3 σ3 H3 _ s3.holds (e3.step s3) ExR.f0 fun W4 H4 z dz s4 r4 k4 => ?_
      obtain ⟨c1, c2, c3⟩ := sA s4 b1 b2 b3
      have s14 := (s'.trans s2).trans (s3.trans s4)
      refine ⟨us, c1, ?_, W4, us ++ [z], acc ++ [dz], s14.own hA c1 c2 c3, upd_same, c2, c3, Reps.snoc (rs.mono ((s2.trans s3).trans s4).le) r4, ?_, ?_⟩
      · rw [rs.length]
        omega
      · rw [List.length_append, List.length_singleton]
        omega
      · simpa [List.append_assoc] using k4
    | false =>
      rw [if_neg Bool.false_ne_true]
      exact ⟨W3, us, acc, (s'.trans s2).trans s3, b1, b2, b3, rs.mono (s2.trans s3).le, by omega, k3⟩
  · have ei : i = ds.length := by omega
    subst ei
    rw [List.drop_length] at k'
    refine .inl ⟨stop, q (W'.put A (.lst us)) H' _ _ (s1.trans (s'.taken hA hL nw nt)) (Rep.newLst rs nw) ?_⟩
    have k2 : Q (.lst (acc ++ [])) := k'
    rw [List.append_nil] at k2
    exact k2
theorem de_lc {elt tg iter : Expr} {ifs : List Expr} {scope : Scope} {own : List (Str × Nat)} {w : DTI} {T : Tg} {ft : DTT} {fe : DTE} (hN : ∀ j, (Xs j).N.Nodup) (hi : DI Xs mg Wx tg iter w) (ok : ∀ j, BlkOk (Xs j).N (Xs j).env.scope scope own) (hg : DG (blkF Xs scope) mg tg T) (ht : DTs (blkF Xs scope) mg Wx0 ifs ft) (he : DE (blkF Xs scope) mg Wx0 elt fe)
    (hv : ∀ i ∈ T.slots, i ∈ own.map (·.2) := by decide) (hc : ∀ j, (Xs j).calm = true := by intro _; rfl) (hs : ∀ j x, foldedSetIterable iter (Xs j).env x = pure x := by intro _ _; rfl) : DE Xs mg Wx (.ListComp elt [⟨tg, iter, ifs, 0⟩] scope pos) (dLc w T ft fe (own.map (·.2))) := by
  obtain ⟨wi, i1, i2⟩ := hi
  obtain ⟨g, g1, g2⟩ := hg
  obtain ⟨tt, t1, t2⟩ := ht
  obtain ⟨te, e1, e2⟩ := he
  exact ⟨_, fun j => pe_lc (hc j) (hN j) (i1 j) (ok j) (fun s H C cl fp => g1 (j, s, H, C, cl, fp)) (fun s H C cl fp => t1 (j, s, H, C, cl, fp)) (fun s H C cl fp => e1 (j, s, H, C, cl, fp)) (hs j), Cp.lc i2 g2 hv t2 e2⟩
theorem ds_setLc {i : Nat} {y : Str} {py spos : Pos} {elt tg iter : Expr} {ifs : List Expr} {scope : Scope} {own : List (Str × Nat)} {w : DTI} {T : Tg} {ft : DTT} {fe : DTE} (hN : ∀ j, (Xs j).N.Nodup) (hi : DI Xs mg Wx tg iter w) (ok : ∀ j, BlkOk (Xs j).N (Xs j).env.scope scope own) (hg : DG (blkF Xs scope) mg tg T) (ht : DTs (blkF Xs scope) mg Wx0 ifs ft) (he : DE (blkF Xs scope) mg Wx0 elt fe)
    (hsw : ∀ j, swapsWith (.ListComp elt [⟨tg, iter, ifs, 0⟩] scope pos) (some (.Name y py)) spos.line (Xs j).env = pure true) (hy : ∀ j, (Xs j).N[i]? = some y := by intro _; rfl) (hyl : ∀ j, (Xs j).env.scope.names.lookup y = some .local := by intro _; rfl)
    (hv : ∀ i ∈ T.slots, i ∈ own.map (·.2) := by decide) (hc : ∀ j, (Xs j).calm = true := by intro _; rfl) (hs : ∀ j x, foldedSetIterable iter (Xs j).env x = pure x := by intro _ _; rfl) : DS Xs mg Wx (.Assign [.Name y py] (.ListComp elt [⟨tg, iter, ifs, 0⟩] scope pos) spos) (dSet i (dLc w T ft fe (own.map (·.2)))) := by
  obtain ⟨wi, i1, i2⟩ := hi
  obtain ⟨g, g1, g2⟩ := hg
  obtain ⟨tt, t1, t2⟩ := ht
  obtain ⟨te, e1, e2⟩ := he
  refine ⟨_, fun j => ps_setLc (i := i) (hc j) (hN j) (hy j) (hyl j) (hsw j) (i1 j) (ok j) (fun s H C cl fp => g1 (j, s, H, C, cl, fp)) (fun s H C cl fp => t1 (j, s, H, C, cl, fp)) (fun s H C cl fp => e1 (j, s, H, C, cl, fp)) (hs j), fun W0 B N ρ hf W σ H Ds s e n => ?_⟩
  exact Cp.lc i2 g2 hv t2 e2 B ρ _ _ hf W σ H _ s.holds e (n.ex s e) fun W1 H1 v d s1 r1 k1 => n.nx W1 H1 _ _ (s.trans s1) ((e.step s1).set r1) k1

/-! ### a def by its body -/
def startD (n : Nat) (ds : List D) : Env := ds.map Sl.d ++ List.replicate (n - ds.length) .no
theorem EnvR.start {N : List Str} {W : Wd} {H : Hp} : ∀ {vs : List V} {ds : List D}, Reps mg W vs ds → EnvR mg H W H (L2.start N vs) (startD N.length ds) := by
  intro vs ds r
  have el := r.length
  refine ⟨by simp [L2.start, startD, el], fun i s h => ?_, fun i j xs ys o1 o2 a _ h1 _ _ _ m1 _ => ?_⟩
  · unfold startD at h
    unfold L2.start
    by_cases hi : i < ds.length
    · rw [List.getElem?_append_left (by simpa using hi), List.getElem?_map] at h
      rw [List.getElem?_append_left (by simpa [el] using hi), List.getElem?_map]
      cases q : ds[i]? with
      | none =>
        rw [q] at h
        cases h
      | some d =>
        rw [q] at h
        cases h
        obtain ⟨v, h1, h2⟩ := r.get q
        exact ⟨some v, by rw [h1]; rfl, v, rfl, h2⟩
    · rw [List.getElem?_append_right (by simpa using Nat.le_of_not_lt hi), List.getElem?_replicate] at h
      rw [List.getElem?_append_right (by simpa [el] using Nat.le_of_not_lt hi), List.getElem?_replicate]
      split at h
      · cases h
        rename_i hq
        refine ⟨none, ?_, True.intro⟩
        rw [if_pos]
        simpa [el] using hq
      · cases h
  · unfold startD at h1
    have hm := List.mem_of_getElem? h1
    rcases List.mem_append.mp hm with q | q
    · obtain ⟨_, _, z⟩ := List.mem_map.mp q
      rw [← z] at m1
      cases m1
    · have z := List.eq_of_mem_replicate q
      rw [z] at m1
      cases m1
/-- the rule for a def, where no repr is under way -/
theorem fnG_of {P : Program} {w : World} {K : PySem.W.Frag} {mg : Str → Option Value} {base : Heap} {x qual : Str} {st : Stmt} {fa : Addr} {fd : FuncData} {N ps : List Str} {k : Nat} {sp : Sp} (F : Fun K x qual st fa fd) (S : FnScope N ps (defScope st)) (ln : ∀ vs H Q E, sp vs H Q E → vs.length = ps.length)
    (hb : ∀ (cdv : Value) (A : Around) (out : List PySem.Env) (z : Shared) (H : Hp) (vs : List V) (Q : VK) (E : XK), RmG k (A.deeper (PyProof.Rows.envOfC qual (defScope st) z.heap.objs.size fa cdv)) → sp vs H Q E →
      ∃ t, PSs (cxOf (L2.CX P w) P w K mg base N qual (defScope st) fa cdv A out z H E) (defBody st) t ∧ t { nx := fun _ H' => Q .non H', rt := Q } (L2.start N vs) H) : FnG P w K mg base (k + 1) fa fd ps sp := by
  obtain ⟨oc, od, kV, doc, pm, an, cdv, ct, osl, rfl, lk, hcd⟩ := F.ex
  refine ⟨ln, fun A out z H ag us vs Q E m e0 bd rv hs => ?_⟩
  have inK : K.In z.heap := e0.mod.kin.keeps fun c u q => (e0.bs c u q).1
  have noL : z.heap.NoLimit := e0.mod.nolimit.keeps fun c u q => (e0.bs c u q).1
  have kinds : ∀ y ∈ ps.zip us, (defScope st).names.lookup y.1 = some .local ∨ ((defScope st).names.lookup y.1 = some .cell ∧ ((cellsFrom (z.heap.objs.size + 1) (defScope st).names []).lookup y.1).isSome = true) := by
    rintro ⟨n, v⟩ hy
    refine (S.par n (List.of_mem_zip hy).1).imp id ?_
    intro c
    exact ⟨c, PySem.W.cellsFrom_some _ _ _ (.inl c)⟩
  apply codeAny_call_function m.r.depth (inK _ _ lk) rfl S.co S.gen rfl (PySem.W.codeRec_of inK hcd)
  apply bd
  apply wpAny_newFunctionEnv_cells S.kind kinds
  intro env he z1 inC
  subst he
  obtain ⟨t, pt, tq⟩ := hb cdv A out z H vs Q E ⟨m.r.deeper _, m.g⟩ hs
  have I0 := inv_start (CX := L2.CX P w) (E := E) S m.r.hd e0 (ln _ _ _ _ hs) rv inC
  refine ⟨noL.keeps inC.toInCall.keep, codeAny_func (wpAny_mono (pt.run [] z1 _ H _ I0 tq) ?_ fun _ _ q => q)⟩
  intro fl z' hfl
  match fl, hfl with
  | .ret u, ⟨v, _, H', J, ru, q⟩ => exact ⟨v, H', J.os, J.bare, J.base, J.hok, ru, q⟩
  | .next, ⟨_, H', J, q⟩ => exact ⟨V.non, H', J.os, J.bare, J.base, J.hok, rfl, q⟩
  | .brk, ⟨_, _, _, q⟩ => exact q.elim
  | .cont, ⟨_, _, _, q⟩ => exact q.elim
theorem def_ok {P : Program} {w : World} {base : Heap} {x qual : Str} {st : Stmt} {fa : Addr} {fd : FuncData} {N ps : List Str} {k : Nat} {f : List D → M D} (F : Fun mg.K x qual st fa fd) (S : FnScope N ps (defScope st))
    (h : ∀ (cdv : Value) (A : Around) (outer : List PySem.Env) (s : Shared) (H : Hp) (E : XK), RmG k (A.deeper (PyProof.Rows.envOfC qual (defScope st) s.heap.objs.size fa cdv)) →
      ∃ g, DSs (fun _ : Unit => cxOf (L2.CX P w) P w mg.K mg.mg base N qual (defScope st) fa cdv A outer s H E) mg (fun cls d _ H' => E cls d H') (defBody st) g ∧
        ∀ ds Q Ex, ds.length = ps.length → f ds Q Ex → g ⟨fun _ => Q .non, fun d _ => Q d, fun _ => False, fun _ => False, fun x _ => Ex x⟩ (startD N.length ds)) :
    FnG P w mg.K mg.mg base (k + 1) fa fd ps (spD mg ps.length f) := by
  refine fnG_of F S (fun vs H Q E hs => ?_) (fun cdv A outer s H vs Q E hr hs => ?_)
  · obtain ⟨W, ds, Qd, Ed, _, r, l, _⟩ := hs
    rw [r.length, l]
  · obtain ⟨W, ds, Qd, Ed, hh, r, l, hf, q, x⟩ := hs
    obtain ⟨g, ⟨t, h1, h2⟩, h3⟩ := h cdv A outer s H E hr
    refine ⟨t, h1 (), ?_⟩
    refine h2 W H _ _ (h3 ds Qd Ed l hf) W _ H _ (Step.refl hh) (EnvR.start r) ⟨fun W' H' σ' ρ' s' e' k => q W' H' _ _ s' .non k, fun W' H' _ _ v d s' _ r k => q W' H' v d s' r k, fun _ _ _ _ _ _ k => k, fun _ _ _ _ _ _ k => k, fun W' H' σ' ρ' cls dd y s' e' r' k => x W' H' cls dd y s' r' k⟩
end
end FP

/-! FP4: operators, comparisons, built-in functions by data. -/
namespace FP
open PySem L2
variable [Tabl]
section
variable {ι : Type} {Xs : ι → Cx} {mg : Gm} {Wx : WX} {pos : Pos}

/-! ### arithmetic, joining -/
theorem op_catK {X : Cx} {K : PySem.W.Frag} (h : X.K = K) : OpR X (binaryOp .Add) (rCatA K) := by
  subst h
  exact op_catA
theorem op_inK {X : Cx} {K : PySem.W.Frag} (h : X.K = K) : OpR X (compareOp .In) (rIn K false) := by
  subst h
  exact op_in_seq
theorem op_notInK {X : Cx} {K : PySem.W.Frag} (h : X.K = K) : OpR X (compareOp .NotIn) (rIn K true) := by
  subst h
  exact op_notIn_seq
def rdAdd : RD2 := fun x y Q => match x, y with
  | .int i, .int j => Q (.int (i + j))
  | .str a, .str b => a.length + b.length ≤ sizeLine ∧ Q (.str (a ++ b))
  | .lst xs, .lst ys => xs.length + ys.length ≤ sizeLine ∧ Q (.lst (xs ++ ys))
  | .tup xs, .tup ys => xs.length + ys.length ≤ sizeLine ∧ Q (.tup (xs ++ ys))
  | _, _ => False
theorem ok_add (hK : ∀ j, (Xs j).K = mg.K := by intro _; rfl) : OpOk Xs mg (binaryOp .Add) rdAdd := by
  refine ⟨_, fun j => OpR.or op_add (OpR.or op_add_str (OpR.or op_cat (op_catK (hK j)))), ?_⟩
  intro W H x y dx dy Q Q' hh rx ry h q
  unfold rdAdd at h
  split at h
  · cases rx
    cases ry
    exact .inl ⟨_, _, rfl, rfl, q W H _ _ (Step.refl hh) (.int _) h⟩
  · cases rx
    cases ry
    exact .inr (.inl ⟨_, _, rfl, rfl, h.1, q W H _ _ (Step.refl hh) (.str _) h.2⟩)
  · cases rx with
    | lst ha ra =>
      cases ry with
      | lst hb rb => exact .inr (.inr (.inl ⟨_, _, _, _, rfl, rfl, hh.same _ _ ha, hh.same _ _ hb, by rw [ra.length, rb.length]; exact h.1, to_lst q hh (ra.append rb) h.2⟩))
  · cases rx with
    | tup ha ra =>
      cases ry with
      | tup hb rb =>
        refine .inr (.inr (.inr ⟨_, _, _, _, rfl, rfl, SqT.of (hh.same _ _ ha), SqT.of (hh.same _ _ hb), by rw [ra.length, rb.length]; exact h.1, fun e => ?_, fun _ e => ?_, fun _ _ => to_tup q hh (ra.append rb) h.2⟩))
        · subst e
          cases ra
          exact q W H _ _ (Step.refl hh) (.tup hb rb) h.2
        · subst e
          cases rb
          have h2 := h.2
          rw [List.append_nil] at h2
          exact q W H _ _ (Step.refl hh) (.tup ha ra) h2
  · exact h.elim
def rdSub : RD2 := fun x y Q => match x, y with
  | .int i, .int j => Q (.int (i - j))
  | _, _ => False
theorem ok_sub : OpOk Xs mg (binaryOp .Sub) rdSub := by
  refine ⟨_, fun j => op_sub, ?_⟩
  intro W H x y dx dy Q Q' hh rx ry h q
  unfold rdSub at h
  split at h
  · cases rx
    cases ry
    exact ⟨_, _, rfl, rfl, q W H _ _ (Step.refl hh) (.int _) h⟩
  · exact h.elim
/-- a text said several times -/
def strRep (x : Str) (k : Int) : Str := ⟨(List.replicate k.toNat x.cps.toList).flatten.toArray⟩
def rdMul : RD2 := fun x y Q => match x, y with
  | .int i, .int j => CMul i j ∧ Q (.int (i * j))
  | .lst xs, .int k => (-(2 ^ 63) ≤ k ∧ k < 2 ^ 63) ∧ xs.length * k.toNat ≤ sizeLine ∧ Q (.lst (List.replicate k.toNat xs).flatten)
  | _, _ => False
theorem Reps.flat {W : Wd} {vs : List V} {ds : List D} (r : Reps mg W vs ds) : ∀ n, Reps mg W (List.replicate n vs).flatten (List.replicate n ds).flatten
  | 0 => .nil
  | n + 1 => by
    rw [List.replicate_succ, List.replicate_succ, List.flatten_cons, List.flatten_cons]
    exact r.append (Reps.flat r n)
theorem ok_mul : OpOk Xs mg (binaryOp .Mult) rdMul := by
  refine ⟨_, fun j => OpR.or op_mul op_rep, ?_⟩
  intro W H x y dx dy Q Q' hh rx ry h q
  unfold rdMul at h
  split at h
  · cases rx
    cases ry
    exact .inl ⟨_, _, rfl, rfl, h.1, q W H _ _ (Step.refl hh) (.int _) h.2⟩
  · cases rx with
    | lst ha ra =>
      cases ry
      exact .inr ⟨_, _, _, rfl, rfl, hh.same _ _ ha, h.1.1, h.1.2, by rw [ra.length]; exact h.2.1, to_lst q hh (ra.flat _) h.2.2⟩
  · exact h.elim
def rdFdiv : RD2 := fun x y Q => match x, y with
  | .int i, .int j => CDivN i j ∧ Q (.int (i.fdiv j))
  | _, _ => False
theorem ok_fdiv : OpOk Xs mg (binaryOp .FloorDiv) rdFdiv := by
  refine ⟨_, fun j => op_fdivN, ?_⟩
  intro W H x y dx dy Q Q' hh rx ry h q
  unfold rdFdiv at h
  split at h
  · cases rx
    cases ry
    exact ⟨_, _, rfl, rfl, h.1, q W H _ _ (Step.refl hh) (.int _) h.2⟩
  · exact h.elim
def rdMod : RD2 := fun x y Q => match x, y with
  | .int i, .int j => 0 < j ∧ Q (.int (i % j))
  | _, _ => False
theorem ok_mod : OpOk Xs mg (binaryOp .Mod) rdMod := by
  refine ⟨_, fun j => op_mod, ?_⟩
  intro W H x y dx dy Q Q' hh rx ry h q
  unfold rdMod at h
  split at h
  · cases rx
    cases ry
    exact ⟨_, _, rfl, rfl, h.1, q W H _ _ (Step.refl hh) (.int _) h.2⟩
  · exact h.elim
def CPowW (a n : Int) : Prop := 0 ≤ n ∧ (Builtin.Int.intBits a : Int) * n ≤ 2 ^ 27
theorem op_powW {X : Cx} : OpR X (binaryOp .Pow) (rI CPowW fun i j => .int (i ^ j.toNat)) := opI fun _ _ _ _ _ _ _ hc q => PyProof.Rows.pow_int hc.1 hc.2 q
def rdPow : RD2 := fun x y Q => match x, y with
  | .int i, .int j => CPowW i j ∧ Q (.int (i ^ j.toNat))
  | _, _ => False
theorem ok_pow : OpOk Xs mg (binaryOp .Pow) rdPow := by
  refine ⟨_, fun j => op_powW, ?_⟩
  intro W H x y dx dy Q Q' hh rx ry h q
  unfold rdPow at h
  split at h
  · cases rx
    cases ry
    exact ⟨_, _, rfl, rfl, h.1, q W H _ _ (Step.refl hh) (.int _) h.2⟩
  · exact h.elim
abbrev dNeg (f : DTE) : DTE := fun ρ Q E => f ρ (fun x => match x with
  | .int i => Q (.int (-i))
  | _ => False) E
theorem de_neg {a : Expr} {f : DTE} (h : DE Xs mg Wx a f) : DE Xs mg Wx (.UnaryOp .USub a pos) (dNeg f) := by
  obtain ⟨t, h1, h2⟩ := h
  refine ⟨_, fun i => pe_un un_neg (h1 i), fun B ρ Q E hf W σ H Q' hh e x q => h2 B ρ _ E hf W σ H _ hh e x fun W1 H1 v d s1 r1 k1 => ?_⟩
  cases r1 with
  | int i => exact ⟨_, rfl, q W1 H1 _ _ s1 (.int _) k1⟩
  | _ => exact k1.elim

/-! ### order -/
def rdLt : RD2 := fun x y Q => match x, y with
  | .int i, .int j => Q (.bl (decide (i < j)))
  | .str a, .str b => Q (.bl (decide (a.cps.toList < b.cps.toList)))
  | _, _ => False
def rdLe : RD2 := fun x y Q => match x, y with
  | .int i, .int j => Q (.bl (decide (i ≤ j)))
  | .str a, .str b => Q (.bl (!decide (b.cps.toList < a.cps.toList)))
  | _, _ => False
def rdGt : RD2 := fun x y Q => match x, y with
  | .int i, .int j => Q (.bl (decide (j < i)))
  | .str a, .str b => Q (.bl (decide (b.cps.toList < a.cps.toList)))
  | _, _ => False
def rdGe : RD2 := fun x y Q => match x, y with
  | .int i, .int j => Q (.bl (decide (j ≤ i)))
  | .str a, .str b => Q (.bl (!decide (a.cps.toList < b.cps.toList)))
  | _, _ => False
theorem ok_lt : OpOk Xs mg (compareOp .Lt) rdLt := by
  refine ⟨_, fun j => OpR.or op_lt op_lt_str, ?_⟩
  intro W H x y dx dy Q Q' hh rx ry h q
  unfold rdLt at h
  split at h
  · cases rx
    cases ry
    exact .inl ⟨_, _, rfl, rfl, q W H _ _ (Step.refl hh) (.bl _) h⟩
  · cases rx
    cases ry
    exact .inr ⟨_, _, rfl, rfl, q W H _ _ (Step.refl hh) (.bl _) h⟩
  · exact h.elim
theorem ok_le : OpOk Xs mg (compareOp .LtE) rdLe := by
  refine ⟨_, fun j => OpR.or op_le op_le_str, ?_⟩
  intro W H x y dx dy Q Q' hh rx ry h q
  unfold rdLe at h
  split at h
  · cases rx
    cases ry
    exact .inl ⟨_, _, rfl, rfl, q W H _ _ (Step.refl hh) (.bl _) h⟩
  · cases rx
    cases ry
    exact .inr ⟨_, _, rfl, rfl, q W H _ _ (Step.refl hh) (.bl _) h⟩
  · exact h.elim
theorem ok_gt : OpOk Xs mg (compareOp .Gt) rdGt := by
  refine ⟨_, fun j => OpR.or op_gt op_gt_str, ?_⟩
  intro W H x y dx dy Q Q' hh rx ry h q
  unfold rdGt at h
  split at h
  · cases rx
    cases ry
    exact .inl ⟨_, _, rfl, rfl, q W H _ _ (Step.refl hh) (.bl _) h⟩
  · cases rx
    cases ry
    exact .inr ⟨_, _, rfl, rfl, q W H _ _ (Step.refl hh) (.bl _) h⟩
  · exact h.elim
theorem ok_ge : OpOk Xs mg (compareOp .GtE) rdGe := by
  refine ⟨_, fun j => OpR.or op_ge op_ge_str, ?_⟩
  intro W H x y dx dy Q Q' hh rx ry h q
  unfold rdGe at h
  split at h
  · cases rx
    cases ry
    exact .inl ⟨_, _, rfl, rfl, q W H _ _ (Step.refl hh) (.bl _) h⟩
  · cases rx
    cases ry
    exact .inr ⟨_, _, rfl, rfl, q W H _ _ (Step.refl hh) (.bl _) h⟩
  · exact h.elim

/-! ### equality -/
mutual
def toPy : D → Option PyData
  | .non => some .none
  | .bl b => some (.bool b)
  | .int i => some (.int i)
  | .str x => some (.str x)
  | .tup xs => match toPys xs with
    | some ps => some (.tuple ps)
    | none => none
  | .lst xs => match toPys xs with
    | some ps => some (.list ps)
    | none => none
  | .fz _ => none
  | .dct _ => none
  | .ins _ _ => none
  | .tok => none
  | .cl _ => none
  | .fn _ _ => none
def toPys : List D → Option (List PyData)
  | [] => some []
  | x :: xs => match toPy x, toPys xs with
    | some p, some ps => some (p :: ps)
    | _, _ => none
end
mutual
theorem Rep.dp {W : Wd} {H : Hp} (hh : Holds W H) : ∀ {v : V} {d : D} {p : PyData}, Rep mg W v d → toPy d = some p → Dp mg.K H v p
  | _, _, _, .non, e => by
    unfold toPy at e
    cases e
    exact .non
  | _, _, _, .bl b, e => by
    unfold toPy at e
    cases e
    exact .bl b
  | _, _, _, .int i, e => by
    unfold toPy at e
    cases e
    exact .int i
  | _, _, _, .str x, e => by
    unfold toPy at e
    cases e
    exact .str x
  | _, _, _, .tup ha r, e => by
    unfold toPy at e
    split at e
    · rename_i ps hp
      cases e
      exact .tup (SqT.of (hh.same _ _ ha)) (Reps.dp hh r hp)
    · cases e
  | _, _, _, .lst ha r, e => by
    unfold toPy at e
    split at e
    · rename_i ps hp
      cases e
      exact .lst (SqL.of (hh.same _ _ ha)) (Reps.dp hh r hp)
    · cases e
  | _, _, _, .fz _ _, e => by
    unfold toPy at e
    cases e
  | _, _, _, .dct _ _ _, e => by
    unfold toPy at e
    cases e
  | _, _, _, .ins _ _ _ _, e => by
    unfold toPy at e
    cases e
  | _, _, _, .tok _, e => by
    unfold toPy at e
    cases e
  | _, _, _, .cl _, e => by
    unfold toPy at e
    cases e
  | _, _, _, .fn _, e => by
    unfold toPy at e
    cases e
theorem Reps.dp {W : Wd} {H : Hp} (hh : Holds W H) : ∀ {vs : List V} {ds : List D} {ps : List PyData}, Reps mg W vs ds → toPys ds = some ps → DpAll mg.K H vs ps
  | _, _, _, .nil, e => by
    unfold toPys at e
    cases e
    exact .nil
  | _, _, _, .cons r rs, e => by
    unfold toPys at e
    split at e
    · rename_i p ps h1 h2
      cases e
      exact .cons (Rep.dp hh r h1) (Reps.dp hh rs h2)
    · cases e
end
/-- two plain values -/
def eqS : D → D → Option Bool
  | .str a, .str b => some (decide (a = b))
  | .int a, .int b => some (decide (a = b))
  | .bl a, .bl b => some (decide (a = b))
  | .non, .non => some true
  | .non, .str _ => some false
  | .str _, .non => some false
  | .non, .int _ => some false
  | .int _, .non => some false
  | _, _ => none
def rdEq : RD2 := fun x y Q => match eqS x y with
  | some b => Q (.bl b)
  | none => ∃ p q, toPy x = some p ∧ toPy y = some q ∧ SeqAt.shaped p = true ∧ SeqAt.shaped q = true ∧ Q (.bl (PyData.eqv p q))
def rdNe : RD2 := fun x y Q => match eqS x y with
  | some b => Q (.bl (!b))
  | none => ∃ p q, toPy x = some p ∧ toPy y = some q ∧ SeqAt.shaped p = true ∧ SeqAt.shaped q = true ∧ Q (.bl (!PyData.eqv p q))
theorem eqS_v {W : Wd} {x y : V} {dx dy : D} {b : Bool} (rx : Rep mg W x dx) (ry : Rep mg W y dy) (h : eqS dx dy = some b) : scal x y = true ∧ decide (x = y) = b := by
  unfold eqS at h
  split at h
  all_goals first | (cases h; done) | skip
  all_goals (cases rx; cases ry; cases h; refine ⟨rfl, ?_⟩; try rfl)
  · rw [Bool.eq_iff_iff, decide_eq_true_iff, decide_eq_true_iff]
    exact ⟨fun q => V.str.inj q, fun q => by rw [q]⟩
  · rw [Bool.eq_iff_iff, decide_eq_true_iff, decide_eq_true_iff]
    exact ⟨fun q => V.int.inj q, fun q => by rw [q]⟩
  · rw [Bool.eq_iff_iff, decide_eq_true_iff, decide_eq_true_iff]
    exact ⟨fun q => V.bl.inj q, fun q => by rw [q]⟩
theorem ok_eq (hu : ∀ j, (Xs j).A.units + 64 < cLine) (hK : ∀ j, (Xs j).K = mg.K := by intro _; rfl) : OpOk Xs mg (compareOp .Eq) rdEq := by
  refine ⟨fun x y H Q => rEq x y H Q ∨ rEqD mg.K x y H Q, fun j => OpR.or op_eq (by rw [← hK j]; exact op_eqD (hu j)), ?_⟩
  intro W H x y dx dy Q Q' hh rx ry h q
  unfold rdEq at h
  split at h
  · rename_i b hb
    obtain ⟨h1, h2⟩ := eqS_v rx ry hb
    exact .inl ⟨h1, by rw [h2]; exact q W H _ _ (Step.refl hh) (.bl _) h⟩
  · obtain ⟨p, p', h1, h2, h3, h4, h5⟩ := h
    exact .inr ⟨p, p', rx.dp hh h1, ry.dp hh h2, h3, h4, q W H _ _ (Step.refl hh) (.bl _) h5⟩
theorem ok_ne (hu : ∀ j, (Xs j).A.units + 64 < cLine) (hK : ∀ j, (Xs j).K = mg.K := by intro _; rfl) : OpOk Xs mg (compareOp .NotEq) rdNe := by
  refine ⟨fun x y H Q => rNe x y H Q ∨ rNeD mg.K x y H Q, fun j => OpR.or op_ne (by rw [← hK j]; exact op_neD (hu j)), ?_⟩
  intro W H x y dx dy Q Q' hh rx ry h q
  unfold rdNe at h
  split at h
  · rename_i b hb
    obtain ⟨h1, h2⟩ := eqS_v rx ry hb
    exact .inl ⟨h1, by rw [h2]; exact q W H _ _ (Step.refl hh) (.bl _) h⟩
  · obtain ⟨p, p', h1, h2, h3, h4, h5⟩ := h
    exact .inr ⟨p, p', rx.dp hh h1, ry.dp hh h2, h3, h4, q W H _ _ (Step.refl hh) (.bl _) h5⟩
/-- is None, is not None -/
def isNon : D → Bool
  | .non => true
  | _ => false
theorem isNon_v {W : Wd} {x : V} {d : D} (r : Rep mg W x d) : decide (x = .non) = isNon d := by
  cases r <;> rfl
def rdIs : RD2 := fun x y Q => match y with
  | .non => Q (.bl (isNon x))
  | _ => False
def rdIsNot : RD2 := fun x y Q => match y with
  | .non => Q (.bl (!isNon x))
  | _ => False
theorem ok_is : OpOk Xs mg (compareOp .Is) rdIs := by
  refine ⟨_, fun j => op_isN, ?_⟩
  intro W H x y dx dy Q Q' hh rx ry h q
  cases ry with
  | non => exact ⟨rfl, by rw [isNon_v rx]; exact q W H _ _ (Step.refl hh) (.bl _) h⟩
  | _ => exact h.elim
theorem ok_isNot : OpOk Xs mg (compareOp .IsNot) rdIsNot := by
  refine ⟨_, fun j => op_notN, ?_⟩
  intro W H x y dx dy Q Q' hh rx ry h q
  cases ry with
  | non => exact ⟨rfl, by rw [isNon_v rx]; exact q W H _ _ (Step.refl hh) (.bl _) h⟩
  | _ => exact h.elim

/-! ### in -/
/-- the texts and numbers that stand in a row, as values -/
def flatD : D → Option V
  | .non => some .non
  | .bl b => some (.bl b)
  | .int i => some (.int i)
  | .str x => some (.str x)
  | _ => none
def flatsD : List D → Option (List V)
  | [] => some []
  | x :: xs => match flatD x, flatsD xs with
    | some p, some ps => some (p :: ps)
    | _, _ => none
theorem flat_v {W : Wd} {x v : V} {d : D} (r : Rep mg W x d) (h : flatD d = some v) : x = v := by
  cases r <;> first | (cases h; rfl) | cases h
theorem flats_v {W : Wd} : ∀ {xs vs : List V} {ds : List D}, Reps mg W xs ds → flatsD ds = some vs → xs = vs
  | _, _, _, .nil, h => by
    cases h
    rfl
  | _, _, _, .cons r rs, h => by
    unfold flatsD at h
    split at h
    · rename_i p ps h1 h2
      cases h
      rw [flat_v r h1, flats_v rs h2]
    · cases h
/-- x in y: a sign in a text, a text in a row of texts -/
def inD (x y : D) : Option Bool := match x, y with
  | .str a, .str z => match a.cps.toList with
    | [c] => some (decide (c ∈ z.cps.toList))
    | _ => none
  | x, .lst ys => match flatD x, flatsD ys with
    | some v, some vs => if flatV v = true ∧ vs.all flatV = true then some (inV v vs) else none
    | _, _ => none
  | x, .tup ys => match flatD x, flatsD ys with
    | some v, some vs => if flatV v = true ∧ vs.all flatV = true then some (inV v vs) else none
    | _, _ => none
  | _, _ => none
def rdIn : RD2 := fun x y Q => match inD x y with
  | some b => Q (.bl b)
  | none => False
def rdNotIn : RD2 := fun x y Q => match inD x y with
  | some b => Q (.bl (!b))
  | none => False
theorem str_one {a : Str} {c : Nat} (h : a.cps.toList = [c]) : a = ⟨#[c]⟩ := by
  cases a with
  | mk cps =>
    have e : cps = #[c] := by
      apply Array.ext'
      simpa using h
    rw [e]
theorem inD_v {W : Wd} {H : Hp} {x y : V} {dx dy : D} {b : Bool} (hh : Holds W H) (rx : Rep mg W x dx) (ry : Rep mg W y dy) (h : inD dx dy = some b) :
    (∃ (c : Nat) (z : Str), x = .str ⟨#[c]⟩ ∧ y = .str z ∧ decide (c ∈ z.cps.toList) = b) ∨ ∃ p xs, y = .ref p ∧ (SqL mg.K H p xs ∨ SqT mg.K H p xs) ∧ flatV x = true ∧ xs.all flatV = true ∧ inV x xs = b := by
  unfold inD at h
  split at h
  · cases rx
    cases ry
    split at h
    · rename_i c hc
      cases h
      exact .inl ⟨c, _, by rw [str_one hc], rfl, rfl⟩
    · cases h
  · cases ry with
    | lst ha ra =>
      split at h
      · rename_i v vs h1 h2
        have e1 := flat_v rx h1
        have e2 := flats_v ra h2
        subst e1 e2
        split at h
        · rename_i hf
          cases h
          exact .inr ⟨_, _, rfl, .inl (SqL.of (hh.same _ _ ha)), hf.1, hf.2, rfl⟩
        · cases h
      · cases h
  · cases ry with
    | tup ha ra =>
      split at h
      · rename_i v vs h1 h2
        have e1 := flat_v rx h1
        have e2 := flats_v ra h2
        subst e1 e2
        split at h
        · rename_i hf
          cases h
          exact .inr ⟨_, _, rfl, .inr (SqT.of (hh.same _ _ ha)), hf.1, hf.2, rfl⟩
        · cases h
      · cases h
  · cases h
theorem ok_in (hK : ∀ j, (Xs j).K = mg.K := by intro _; rfl) : OpOk Xs mg (compareOp .In) rdIn := by
  refine ⟨_, fun j => OpR.or op_in_sign (op_inK (hK j)), ?_⟩
  intro W H x y dx dy Q Q' hh rx ry h q
  unfold rdIn at h
  split at h
  · rename_i b hb
    rcases inD_v hh rx ry hb with ⟨c, z, e1, e2, e3⟩ | ⟨p, xs, e1, e2, e3, e4, e5⟩
    · exact .inl ⟨c, z, e1, e2, by rw [e3]; exact q W H _ _ (Step.refl hh) (.bl _) h⟩
    · exact .inr ⟨p, xs, e1, e2, e3, e4, by
        show Q' (.bl (inV x xs)) H
        rw [e5]
        exact q W H _ _ (Step.refl hh) (.bl _) h⟩
  · exact h.elim
theorem ok_notIn (hK : ∀ j, (Xs j).K = mg.K := by intro _; rfl) : OpOk Xs mg (compareOp .NotIn) rdNotIn := by
  refine ⟨_, fun j => OpR.or op_notIn_sign (op_notInK (hK j)), ?_⟩
  intro W H x y dx dy Q Q' hh rx ry h q
  unfold rdNotIn at h
  split at h
  · rename_i b hb
    rcases inD_v hh rx ry hb with ⟨c, z, e1, e2, e3⟩ | ⟨p, xs, e1, e2, e3, e4, e5⟩
    · exact .inl ⟨c, z, e1, e2, by rw [e3]; exact q W H _ _ (Step.refl hh) (.bl _) h⟩
    · exact .inr ⟨p, xs, e1, e2, e3, e4, by
        show Q' (.bl (!inV x xs)) H
        rw [e5]
        exact q W H _ _ (Step.refl hh) (.bl _) h⟩
  · exact h.elim
end
end FP

/-! FP5: built-in functions by data. -/
namespace FP
open PySem L2
variable [Tabl]
section
variable {ι : Type} {Xs : ι → Cx} {mg : Gm} {Wx : WX} {pos : Pos}

def rdLen : RDL := fun ds Q => match ds with
  | [.str z] => z.length ≤ sizeLine ∧ Q (.int z.length)
  | [.lst xs] => Q (.int xs.length)
  | [.fz xs] => Q (.int xs.length)
  | [.tup xs] => Q (.int xs.length)
  | [.dct kvs] => Q (.int kvs.length)
  | _ => False
theorem call_lenK {X : Cx} {K : PySem.W.Frag} (h : X.K = K) : CallR X (.builtin "len") (fun xs H Q => ∃ x n, xs = [x] ∧ LenV K x H n ∧ Q (.int n) H) := by
  subst h
  exact call_len
theorem call_lenF {X : Cx} : CallR X (.builtin "len") (fun xs H Q => ∃ a kvs, xs = [V.ref a] ∧ Rd H a (.dK kvs) ∧ Q (.int kvs.length) H) := by
  intro pins s σ H xs us Q I r h
  obtain ⟨a, kvs, rfl, ha, q⟩ := h
  rw [Vals.ref1 r]
  exact d_len I ha fun t s' I' => ⟨.int kvs.length, H, I', ⟨t, rfl⟩, q⟩
theorem ok_len (hK : ∀ j, (Xs j).K = mg.K := by intro _; rfl) : CallOk Xs mg (.builtin "len") rdLen := by
  refine ⟨_, fun j => CallR.or (call_lenK (hK j)) call_lenF, ?_⟩
  intro W H vs ds Q Q' hh r h q
  unfold rdLen at h
  split at h
  · cases r with
    | cons r rs =>
      cases rs
      cases r
      exact .inl ⟨_, _, rfl, ⟨h.1, rfl⟩, q W H _ _ (Step.refl hh) (.int _) h.2⟩
  · cases r with
    | cons r rs =>
      cases rs
      cases r with
      | lst ha ra => exact .inl ⟨_, _, rfl, .inl ⟨_, SqL.of (hh.same _ _ ha), rfl⟩, by rw [ra.length]; exact q W H _ _ (Step.refl hh) (.int _) h⟩
  · cases r with
    | cons r rs =>
      cases rs
      cases r with
      | fz ha ra => exact .inl ⟨_, _, rfl, .inl ⟨_, hh.same.seq ha, rfl⟩, by rw [ra.length]; exact q W H _ _ (Step.refl hh) (.int _) h⟩
  · cases r with
    | cons r rs =>
      cases rs
      cases r with
      | tup ha ra => exact .inl ⟨_, _, rfl, .inr ⟨_, SqT.of (hh.same _ _ ha), rfl⟩, by rw [ra.length]; exact q W H _ _ (Step.refl hh) (.int _) h⟩
  · cases r with
    | cons r rs =>
      cases rs
      cases r with
      | dct ha hk ra =>
        refine .inr ⟨_, _, rfl, .inr ⟨_, hh.same _ _ ha⟩, ?_⟩
        have e := congrArg List.length hk
        simp only [List.length_map] at e
        rw [e]
        exact q W H _ _ (Step.refl hh) (.int _) h
  · exact h.elim
def rdInt : RDL := fun ds Q => match ds with
  | [.int i] => Q (.int i)
  | [.bl b] => Q (.int (if b then 1 else 0))
  | [.str a] => ∃ n, PySem.intText? a = some n ∧ a.length ≤ 640 ∧ Q (.int n)
  | _ => False
theorem ok_int : CallOk Xs mg (.type "int") rdInt := by
  refine ⟨_, fun j => CallR.or call_int1 call_int_str, ?_⟩
  intro W H vs ds Q Q' hh r h q
  unfold rdInt at h
  split at h
  · cases r with
    | cons r rs =>
      cases rs
      cases r
      exact .inl (.inl ⟨_, rfl, q W H _ _ (Step.refl hh) (.int _) h⟩)
  · cases r with
    | cons r rs =>
      cases rs
      cases r
      exact .inl (.inr ⟨_, rfl, q W H _ _ (Step.refl hh) (.int _) h⟩)
  · cases r with
    | cons r rs =>
      cases rs
      cases r
      obtain ⟨n, h1, h2, h3⟩ := h
      exact .inr ⟨_, n, rfl, h1, h2, q W H _ _ (Step.refl hh) (.int _) h3⟩
  · exact h.elim
def rdAbs : RDL := fun ds Q => match ds with
  | [.int i] => Q (.int (if i < 0 then -i else i))
  | _ => False
theorem ok_abs : CallOk Xs mg (.builtin "abs") rdAbs := by
  refine ⟨_, fun j => call_abs, ?_⟩
  intro W H vs ds Q Q' hh r h q
  unfold rdAbs at h
  split at h
  · cases r with
    | cons r rs =>
      cases rs
      cases r
      exact ⟨_, rfl, q W H _ _ (Step.refl hh) (.int _) h⟩
  · exact h.elim
def rdMax : RDL := fun ds Q => match ds with
  | [.int i, .int j] => Q (.int (if j > i then j else i))
  | _ => False
def rdMin : RDL := fun ds Q => match ds with
  | [.int i, .int j] => Q (.int (if j < i then j else i))
  | _ => False
theorem ok_max (hc : ∀ j, (Xs j).calm = true := by intro _; rfl) : CallOk Xs mg (.builtin "max") rdMax := by
  refine ⟨_, fun j => call_max2 (hc j), ?_⟩
  intro W H vs ds Q Q' hh r h q
  unfold rdMax at h
  split at h
  · cases r with
    | cons r rs =>
      cases rs with
      | cons r2 rs =>
        cases rs
        cases r
        cases r2
        exact ⟨_, _, rfl, q W H _ _ (Step.refl hh) (.int _) h⟩
  · exact h.elim
theorem ok_min (hc : ∀ j, (Xs j).calm = true := by intro _; rfl) : CallOk Xs mg (.builtin "min") rdMin := by
  refine ⟨_, fun j => call_min2 (hc j), ?_⟩
  intro W H vs ds Q Q' hh r h q
  unfold rdMin at h
  split at h
  · cases r with
    | cons r rs =>
      cases rs with
      | cons r2 rs =>
        cases rs
        cases r
        cases r2
        exact ⟨_, _, rfl, q W H _ _ (Step.refl hh) (.int _) h⟩
  · exact h.elim
def rdStr : RDL := fun ds Q => match ds with
  | [.int i] => i.natAbs.log2 < 1920 ∧ Q (.str (toString i))
  | [.str a] => Q (.str a)
  | _ => False
theorem ok_str : CallOk Xs mg (.type "str") rdStr := by
  refine ⟨_, fun j => CallR.or call_str_int SkE.call_str_str, ?_⟩
  intro W H vs ds Q Q' hh r h q
  unfold rdStr at h
  split at h
  · cases r with
    | cons r rs =>
      cases rs
      cases r
      exact .inl ⟨_, rfl, h.1, q W H _ _ (Step.refl hh) (.str _) h.2⟩
  · cases r with
    | cons r rs =>
      cases rs
      cases r
      exact .inr ⟨_, rfl, q W H _ _ (Step.refl hh) (.str _) h⟩
  · exact h.elim
/-- truths as data -/
def blsD : List D → Option (List Bool)
  | [] => some []
  | .bl b :: r => match blsD r with
    | some bs => some (b :: bs)
    | none => none
  | _ :: _ => none
theorem bls_v {W : Wd} : ∀ {vs : List V} {ds : List D} {bs : List Bool}, Reps mg W vs ds → blsD ds = some bs → vs = bs.map V.bl
  | _, _, _, .nil, h => by
    cases h
    rfl
  | _, _, _, .cons r rs, h => by
    cases r with
    | bl b =>
      unfold blsD at h
      split at h
      · rename_i bs' hb
        cases h
        rw [bls_v rs hb]
        rfl
      · cases h
    | _ => cases h
theorem blsD_map (bs : List Bool) : blsD (bs.map D.bl) = some bs := by
  induction bs with
  | nil => rfl
  | cons b bs ih =>
    show (match blsD (bs.map D.bl) with | some bs => some (b :: bs) | none => none) = _
    rw [ih]
def rdAll : RDL := fun ds Q => match ds with
  | [.lst xs] => ∃ bs, blsD xs = some bs ∧ Q (.bl (bs.all id))
  | _ => False
def rdAny : RDL := fun ds Q => match ds with
  | [.lst xs] => ∃ bs, blsD xs = some bs ∧ Q (.bl (bs.any id))
  | _ => False
theorem cr_allK {X : Cx} {K : PySem.W.Frag} (h : X.K = K) (hc : X.calm = true) : CallR X (.builtin "all") (rAll K) := by
  subst h
  exact cr_all hc
theorem cr_anyK {X : Cx} {K : PySem.W.Frag} (h : X.K = K) (hc : X.calm = true) : CallR X (.builtin "any") (rAny K) := by
  subst h
  exact cr_any hc
theorem ok_all (hK : ∀ j, (Xs j).K = mg.K := by intro _; rfl) (hc : ∀ j, (Xs j).calm = true := by intro _; rfl) : CallOk Xs mg (.builtin "all") rdAll := by
  refine ⟨_, fun j => cr_allK (hK j) (hc j), ?_⟩
  intro W H vs ds Q Q' hh r h q
  unfold rdAll at h
  split at h
  · cases r with
    | cons r rs =>
      cases rs
      cases r with
      | lst ha ra =>
        obtain ⟨bs, h1, h2⟩ := h
        have e := bls_v ra h1
        subst e
        exact ⟨_, bs, rfl, SqL.of (hh.same _ _ ha), q W H _ _ (Step.refl hh) (.bl _) h2⟩
  · exact h.elim
theorem ok_any (hK : ∀ j, (Xs j).K = mg.K := by intro _; rfl) (hc : ∀ j, (Xs j).calm = true := by intro _; rfl) : CallOk Xs mg (.builtin "any") rdAny := by
  refine ⟨_, fun j => cr_anyK (hK j) (hc j), ?_⟩
  intro W H vs ds Q Q' hh r h q
  unfold rdAny at h
  split at h
  · cases r with
    | cons r rs =>
      cases rs
      cases r with
      | lst ha ra =>
        obtain ⟨bs, h1, h2⟩ := h
        have e := bls_v ra h1
        subst e
        exact ⟨_, bs, rfl, SqL.of (hh.same _ _ ha), q W H _ _ (Step.refl hh) (.bl _) h2⟩
  · exact h.elim

/-! ### list(x), tuple(x) -/
def rListS : List V → Hp → VK → Prop := fun xs H Q => ∃ z : Str, xs = [.str z] ∧ z.cps.size ≤ sizeLine ∧ ∀ l, H l = none → Q (.ref l) (upd H l (.lst (z.cps.toList.map fun c => V.str ⟨#[c]⟩)))
theorem call_listS {X : Cx} (hh : X.A.handled = none) : CallR X (.type "list") rListS := by
  intro pins s σ H xs us Q I r h
  obtain ⟨z, rfl, hz, q⟩ := h
  obtain ⟨u, rfl, rx⟩ := vals1 r
  obtain ⟨t, rfl⟩ := (show ∃ t, u = Value.str z t from rx)
  refine call_list_str hh z t (fun h' tk acc' c' kp e it => ?_) hz
  have rv : Vals (z.cps.toList.map fun c => V.str ⟨#[c]⟩) acc'.toList := by
    have key : ∀ (cs : List Nat) (ws : List Value), cs.length = ws.length → (∀ (j : Nat) (v : Value), ws[j]? = some v → ∃ c u, cs[j]? = some c ∧ v = Value.str ⟨#[c]⟩ u) → Vals (cs.map fun c => V.str ⟨#[c]⟩) ws := by
      intro cs
      induction cs with
      | nil =>
        intro ws hl _
        cases ws with
        | nil => exact .nil
        | cons => cases hl
      | cons c cs ih =>
        intro ws hl hw
        cases ws with
        | nil => cases hl
        | cons v ws =>
          obtain ⟨c', u, h1, h2⟩ := hw 0 v rfl
          cases h1
          exact .cons ⟨u, h2⟩ (ih ws (Nat.succ.inj hl) fun j v' hj => hw (j + 1) v' hj)
    refine key _ _ ?_ fun j v hj => ?_
    · rw [Array.length_toList, Array.length_toList]
      exact it.1.symm
    · rw [Array.getElem?_toList] at hj
      obtain ⟨c, u, h1, h2⟩ := it.2 j v hj
      exact ⟨c, u, by rw [Array.getElem?_toList]; exact h1, h2⟩
  refine ⟨.ref s.heap.objs.size, _, I.laid (t' := tk) kp (Nat.le_refl _) (show ObjOk X.prog X.w _ h' _ (.lst (z.cps.toList.map fun c => V.str ⟨#[c]⟩)) from ⟨?_, acc'.toList, c', rv, ?_⟩), rfl, q _ (I.hok.fresh (Nat.le_refl _))⟩
  · rw [List.length_map, Array.length_toList]
    exact hz
  · simpa using e
def rdList : RDL := fun ds Q => match ds with
  | [.lst xs] => Q (.lst xs)
  | [.tup xs] => Q (.lst xs)
  | [.str z] => z.cps.size ≤ sizeLine ∧ Q (.lst (signsD z))
  | [.dct kvs] => Q (.lst (kvs.map fun kv => match kv.1 with | .inl i => .int i | .inr x => .str x))
  | _ => False
theorem call_listK {X : Cx} {K : PySem.W.Frag} (h : X.K = K) : CallR X (.type "list") (fun xs H Q => ∃ p ys, xs = [.ref p] ∧ (SqL K H p ys ∨ SqT K H p ys) ∧ ∀ l, H l = none → Q (.ref l) (upd H l (.lst ys))) := by
  subst h
  exact call_list_of
theorem signs_reps {W : Wd} (z : Str) : Reps mg W (z.cps.toList.map fun c => V.str ⟨#[c]⟩) (signsD z) := by
  unfold signsD
  induction z.cps.toList with
  | nil => exact .nil
  | cons c r ih => exact .cons (.str _) ih
theorem keys_reps {W : Wd} : ∀ es : List (Key × D), Reps mg W ((es.map (·.1)).map kV) (es.map fun kv => match kv.1 with | .inl i => .int i | .inr x => .str x)
  | [] => .nil
  | (.inl i, _) :: r => .cons (.int i) (keys_reps r)
  | (.inr y, _) :: r => .cons (.str y) (keys_reps r)
theorem ok_list (hK : ∀ j, (Xs j).K = mg.K := by intro _; rfl) (ha : ∀ j, (Xs j).A.handled = none) (hc : ∀ j, (Xs j).calm = true := by intro _; rfl) : CallOk Xs mg (.type "list") rdList := by
  refine ⟨_, fun j => CallR.or (call_listK (hK j)) (CallR.or (call_listS (ha j)) (call_listD (hc j))), ?_⟩
  intro W H vs ds Q Q' hh r h q
  unfold rdList at h
  split at h
  · cases r with
    | cons r rs =>
      cases rs
      cases r with
      | lst ha ra => exact .inl ⟨_, _, rfl, .inl (SqL.of (hh.same _ _ ha)), to_lst q hh ra h⟩
  · cases r with
    | cons r rs =>
      cases rs
      cases r with
      | tup ha ra => exact .inl ⟨_, _, rfl, .inr (SqT.of (hh.same _ _ ha)), to_lst q hh ra h⟩
  · cases r with
    | cons r rs =>
      cases rs
      cases r with
      | str => exact .inr (.inl ⟨_, rfl, h.1, to_lst q hh (signs_reps _) h.2⟩)
  · cases r with
    | cons r rs =>
      cases rs
      cases r with
      | @dct a ob kvs es ha hk ra =>
        refine .inr (.inr ⟨_, _, rfl, .inr ⟨_, hh.same _ _ ha⟩, to_lst q hh ?_ h⟩)
        have e : (kvs.map fun kv => kV kv.1) = (kvs.map (·.1)).map kV := by simp
        rw [e, hk]
        exact keys_reps _
  · exact h.elim
def rdTuple : RDL := fun ds Q => match ds with
  | [.lst xs] => Q (.tup xs)
  | [.tup xs] => Q (.tup xs)
  | _ => False
theorem call_tupleK {X : Cx} {K : PySem.W.Frag} (h : X.K = K) : CallR X (.type "tuple") (fun xs H Q => ∃ p ys, xs = [.ref p] ∧ ((SqL K H p ys ∧ ∀ l, H l = none → Q (.ref l) (upd H l (.tup ys))) ∨ (SqT K H p ys ∧ Q (.ref p) H))) := by
  subst h
  exact call_tuple_of
theorem ok_tuple (hK : ∀ j, (Xs j).K = mg.K := by intro _; rfl) : CallOk Xs mg (.type "tuple") rdTuple := by
  refine ⟨_, fun j => call_tupleK (hK j), ?_⟩
  intro W H vs ds Q Q' hh r h q
  unfold rdTuple at h
  split at h
  · cases r with
    | cons r rs =>
      cases rs
      cases r with
      | lst ha ra => exact ⟨_, _, rfl, .inl ⟨SqL.of (hh.same _ _ ha), to_tup q hh ra h⟩⟩
  · cases r with
    | cons r rs =>
      cases rs
      cases r with
      | tup ha ra => exact ⟨_, _, rfl, .inr ⟨SqT.of (hh.same _ _ ha), q W H _ _ (Step.refl hh) (.tup ha ra) h⟩⟩
  · exact h.elim

/-! ### isinstance with a built-in class -/
def tyName : D → Option String
  | .non => some "NoneType"
  | .bl _ => some "bool"
  | .int _ => some "int"
  | .str _ => some "str"
  | .tup _ => some "tuple"
  | .lst _ => some "list"
  | .dct _ => some "dict"
  | .fz _ => none
  | .ins _ _ => none
  | .tok => some "list"
  | .cl _ => none
  | .fn _ _ => none
abbrev dIsi (T : String) (f : DTE) : DTE := fun ρ Q E => f ρ (fun x => match tyName x with
  | some n => ∃ b, kitB n T = some b ∧ Q (.bl b)
  | none => False) E
theorem tyName_v {W : Wd} {H : Hp} {x : V} {d : D} {n : String} (hh : Holds W H) (r : Rep mg W x d) (h : tyName d = some n) : TyX mg.K H x (.type n) := by
  cases r with
  | non => cases h; exact .base .non
  | bl b => cases h; exact .base (.bl b)
  | int i => cases h; exact .base (.int i)
  | str x => cases h; exact .base (.str x)
  | tup ha _ => cases h; exact .base (.tup (hh.same _ _ ha))
  | lst ha _ => cases h; exact .base (.lst (hh.same _ _ ha))
  | dct ha _ _ => cases h; exact .fDict (hh.same _ _ ha)
  | fz _ _ => cases h
  | ins _ _ _ _ => cases h
  | tok t =>
    cases h
    obtain ⟨_, x, y, z, e⟩ := hh.tok _ t
    exact .base (.lst e)
  | cl _ => cases h
  | fn _ => cases h
theorem call_isiK2 {X : Cx} {K : PySem.W.Frag} (h : X.K = K) : CallR X (.builtin "isinstance") (rIsi K) := by
  subst h
  exact call_isi
theorem de_isi {e : Expr} {f : DTE} {T : Str} {n : String} {p p2 : Pos} (h : DE Xs mg Wx e f) (hm : mg.mg "isinstance" = none) (hmT : mg.mg T = none) (hT : bootBuiltins T = some (.type n)) (hv : bootBuiltins "isinstance" = some (.builtin "isinstance"))
    (hK : ∀ j, (Xs j).K = mg.K := by intro _; rfl) (hM : ∀ j, (Xs j).mg = mg.mg := by intro _; rfl) (hg : ∀ j, Gl (Xs j) "isinstance" := by intro _; rfl) (hgT : ∀ j, Gl (Xs j) T := by intro _; rfl) (hn : T ≠ "__name__" := by decide) (hd : (T == ("__debug__" : Str)) = false := by decide)
    (he : ∀ j, starEach [e, .Name T p2] (Xs j).env = (false, eval e (Xs j).env) :: starEach [.Name T p2] (Xs j).env := by intro _; rfl) (he2 : ∀ j, starEach [.Name T p2] (Xs j).env = [(false, eval (.Name T p2) (Xs j).env)] := by intro _; rfl)
    (hpl : ∀ j, (backTo pos (starEach [.Name T p2] (Xs j).env)).any (·.1) = false := by intro _; rfl) : DE Xs mg Wx (.Call (.Name "isinstance" p) [e, .Name T p2] [] pos) (dIsi n f) := by
  obtain ⟨t, h1, h2⟩ := h
  refine ⟨tCB (rIsi mg.K) (tCons t (tCons (tC (.ty n)) tNil)), fun j => ?_, ?_⟩
  · exact pe_callB (call_isiK2 (hK j)) (hg j) (by rw [hM j]; exact hm) hv (pa_cons (h1 j) (pa_cons (pe_bltn (v := .ty n) (hgT j) (by rw [hM j]; exact hmT) hT rfl hn hd) pa_nil (he2 j)) (he j)) (by decide) (by decide) (he j) (hpl j)
  · intro B ρ Q E hf W σ H Q' hh e x q
    refine h2 B ρ _ E hf W σ H _ hh e x fun W1 H1 v d s1 r1 k1 => ?_
    dsimp only at k1
    split at k1
    · rename_i m hm
      obtain ⟨b, hb, hq⟩ := k1
      exact ⟨v, .ty n, .type m, .type n, b, rfl, .ty n, tyName_v s1.holds r1 hm, kit_ty hb, q W1 H1 _ _ s1 (.bl b) hq⟩
    · exact k1.elim

/-! ### items, slices, join -/
def rdIx : RD2 := fun x y Q => match x, y with
  | .lst xs, .int i => ∃ d, atI xs i = some d ∧ Q d
  | .fz xs, .int i => ∃ d, atI xs i = some d ∧ Q d
  | .tup xs, .int i => ∃ d, atI xs i = some d ∧ Q d
  | .str z, .int i => ∃ c, z.length ≤ sizeLine ∧ atI z.cps.toList i = some c ∧ Q (.str ⟨#[c]⟩)
  | .tok, .int i => (0 ≤ i ∧ i < 3) ∧ ∀ j, Q (.int j)
  | _, _ => False
theorem Reps.atI {W : Wd} {vs : List V} {ds : List D} {i : Int} {d : D} (r : Reps mg W vs ds) (h : atI ds i = some d) : ∃ v, L2.atI vs i = some v ∧ Rep mg W v d := by
  unfold L2.atI at h ⊢
  rw [r.length]
  cases q : ixN ds.length i with
  | none =>
    rw [q] at h
    cases h
  | some j =>
    rw [q] at h
    exact r.get h
theorem ix_seqK {X : Cx} {K : PySem.W.Frag} (h : X.K = K) : IxR X (rIx K) := by
  subst h
  exact ix_seq
theorem de_ix {a b : Expr} {fa fb : DTE} (ha : DE Xs mg Wx a fa) (hb : DE Xs mg Wx b fb) (hs : PlainIx b := by exact fun _ _ => rfl) (hK : ∀ j, (Xs j).K = mg.K := by intro _; rfl) : DE Xs mg Wx (.Subscript a b pos) (dOp rdIx fa fb) := by
  obtain ⟨ta, a1, a2⟩ := ha
  obtain ⟨tb, b1, b2⟩ := hb
  refine ⟨_, fun j => pe_ix (ix_seqK (hK j)) (a1 j) (b1 j) hs, Cp.op ?_ a2 b2⟩
  intro W H x y dx dy Q Q' hh rx ry h q
  unfold rdIx at h
  split at h
  · obtain ⟨d, h1, h2⟩ := h
    cases ry
    cases rx with
    | lst ha ra =>
      obtain ⟨v, g1, g2⟩ := ra.atI h1
      exact .inl ⟨_, _, _, v, rfl, rfl, SqL.of (hh.same _ _ ha), g1, q W H _ _ (Step.refl hh) g2 h2⟩
  · obtain ⟨d, h1, h2⟩ := h
    cases ry
    cases rx with
    | fz ha ra =>
      obtain ⟨v, g1, g2⟩ := ra.atI h1
      exact .inl ⟨_, _, _, v, rfl, rfl, hh.same.seq ha, g1, q W H _ _ (Step.refl hh) g2 h2⟩
  · obtain ⟨d, h1, h2⟩ := h
    cases ry
    cases rx with
    | tup ha ra =>
      obtain ⟨v, g1, g2⟩ := ra.atI h1
      exact .inr (.inl ⟨_, _, _, v, rfl, rfl, SqT.of (hh.same _ _ ha), g1, q W H _ _ (Step.refl hh) g2 h2⟩)
  · obtain ⟨c, h1, h2, h3⟩ := h
    cases ry
    cases rx
    exact .inr (.inr ⟨_, _, c, rfl, rfl, h1, h2, q W H _ _ (Step.refl hh) (.str _) h3⟩)
  · rename_i i
    obtain ⟨h1, h2⟩ := h
    cases ry with
    | int =>
      cases rx with
      | tok t =>
        obtain ⟨_, x, y, z, e⟩ := hh.tok _ t
        have hj : ∃ j, L2.atI [V.int x, V.int y, V.int z] i = some (.int j) := by
          have hi : i = 0 ∨ i = 1 ∨ i = 2 := by omega
          rcases hi with rfl | rfl | rfl
          · exact ⟨x, rfl⟩
          · exact ⟨y, rfl⟩
          · exact ⟨z, rfl⟩
        obtain ⟨j, hj⟩ := hj
        exact .inl ⟨_, _, _, _, rfl, rfl, SqL.of e, hj, q W H _ _ (Step.refl hh) (.int j) (h2 j)⟩
  · exact h.elim
/-- texts as data -/
def strsD : List D → Option (List Str)
  | [] => some []
  | .str b :: r => match strsD r with
    | some bs => some (b :: bs)
    | none => none
  | _ :: _ => none
theorem strs_v {W : Wd} : ∀ {vs : List V} {ds : List D} {bs : List Str}, Reps mg W vs ds → strsD ds = some bs → vs = bs.map V.str
  | _, _, _, .nil, h => by
    cases h
    rfl
  | _, _, _, .cons r rs, h => by
    cases r with
    | str b =>
      unfold strsD at h
      split at h
      · rename_i bs' hb
        cases h
        rw [strs_v rs hb]
        rfl
      · cases h
    | _ => cases h
theorem strsD_map (bs : List Str) : strsD (bs.map D.str) = some bs := by
  induction bs with
  | nil => rfl
  | cons b bs ih =>
    show (match strsD (bs.map D.str) with | some bs => some (b :: bs) | none => none) = _
    rw [ih]
abbrev dJoin (fo fe : DTE) : DTE := fun ρ Q E => fo ρ (fun x => match x with
  | .str a => fe ρ (fun y => match y with
    | .lst xs => ∃ ys, strsD xs = some ys ∧ (ys.map (·.length)).sum + ys.length * a.length ≤ 16777216 ∧ Q (.str (Txt.join a ys))
    | .tup xs => ∃ ys, strsD xs = some ys ∧ (ys.map (·.length)).sum + ys.length * a.length ≤ 16777216 ∧ Q (.str (Txt.join a ys))
    | _ => False) E
  | _ => False) E
theorem de_join {o e : Expr} {fo fe : DTE} {apos : Pos} (ho : DE Xs mg Wx o fo) (he : DE Xs mg Wx e fe) (hK : ∀ j, (Xs j).K = mg.K := by intro _; rfl) (hs : ∀ j, starEach [e] (Xs j).env = [(false, eval e (Xs j).env)] := by intro _; rfl)
    (hb : ∀ j, attributeBase o "join" (Xs j).env (eval o (Xs j).env) = eval o (Xs j).env := by intro _; rfl) (hl : (apos.endLine == pos.line) = true := by rfl) : DE Xs mg Wx (.Call (.Attribute o "join" apos) [e] [] pos) (dJoin fo fe) := by
  obtain ⟨ta, a1, a2⟩ := ho
  obtain ⟨tb, b1, b2⟩ := he
  refine ⟨tM1 (fun x xs H Q => ∃ a p, ∃ ys : List Str, x = .str a ∧ xs = [.ref p] ∧ (SqL mg.K H p (ys.map V.str) ∨ SqT mg.K H p (ys.map V.str)) ∧ (ys.map (·.length)).sum + ys.length * a.length ≤ 16777216 ∧ Q (.str (Txt.join a ys)) H) ta tb, fun j => ?_, ?_⟩
  · have z := pe_join (apos := apos) (pos := pos) (a1 j) (b1 j) (hs j) (hb j) hl
    rw [hK j] at z
    exact z
  · intro B ρ Q E h W σ H Q' hh e x q
    refine a2 B ρ _ E h W σ H _ hh e x fun W1 H1 v1 d1 s1 r1 h1 => ?_
    cases r1 with
    | str a =>
      refine ⟨⟨a, rfl⟩, b2 B ρ _ E h1 W1 σ H1 _ s1.holds (e.step s1) (x.step s1) fun W2 H2 v2 d2 s2 r2 h2 => ?_⟩
      cases r2 with
      | lst ha ra =>
        obtain ⟨ys, g1, g2, g3⟩ := h2
        have e' := strs_v ra g1
        subst e'
        exact ⟨a, _, ys, rfl, rfl, .inl (SqL.of (s2.holds.same _ _ ha)), g2, q W2 H2 _ _ (s1.trans s2) (.str _) g3⟩
      | tup ha ra =>
        obtain ⟨ys, g1, g2, g3⟩ := h2
        have e' := strs_v ra g1
        subst e'
        exact ⟨a, _, ys, rfl, rfl, .inr (SqT.of (s2.holds.same _ _ ha)), g2, q W2 H2 _ _ (s1.trans s2) (.str _) g3⟩
      | _ => exact h2.elim
    | _ => exact h1.elim
end
end FP

/-! FP6: repr, lists of one's own, the end of a law. -/
namespace FP
open PySem L2
variable [Tabl]
section
variable {ι : Type} {Xs : ι → Cx} {mg : Gm} {Wx : WX} {pos : Pos}

/-! ### repr -/
def rRepr (K : PySem.W.Frag) : List V → Hp → VK → Prop := fun xs H Q => ∃ x d, xs = [x] ∧ Dp K H x d ∧ d.showable = true ∧ d.hasDict = false ∧ d.depth ≤ 60 ∧ d.shown.length ≤ sizeLine ∧ Q (.str d.shown) H
theorem call_reprD {X : Cx} {K : PySem.W.Frag} (hK : X.K = K) (hg : X.A.guards = some []) (hu : X.A.units + 64 < cLine) : CallR X (.builtin "repr") (rRepr K) := by
  subst hK
  intro pins s σ H xs us Q I r h
  obtain ⟨x, d, rfl, dp, hs, hd, hdp, hl, q⟩ := h
  obtain ⟨u, rfl, rx⟩ := vals1 r
  obtain ⟨as, rd⟩ := Dp.reads I d x u dp rx
  have byRef : ∀ a, u = .ref a → wpAny (model X.prog X.w) X.A (call (.builtin "repr") [u]) (EP X pins σ Q) X.xe s := fun a e => by
    subst e
    refine repr_of_reads' rd hs (fun z => ?_) hg (by omega) (fun _ _ q => q) (fun h' u tk kp => ⟨.str d.shown, H, I.kept kp, ⟨u, rfl⟩, q⟩) hl
    rw [hd] at z
    cases z
  cases dp with
  | non =>
    cases rx
    exact PySem.P.repr_of_none ⟨.str _, H, I.tok _, ⟨_, rfl⟩, q⟩
  | bl b =>
    cases rx
    exact PySem.P.repr_of_bool ⟨.str _, H, I.tok _, ⟨_, rfl⟩, q⟩
  | int i =>
    obtain ⟨t, rfl⟩ := (show ∃ t, u = Value.int i t from rx)
    exact PySem.P.repr_of_int (of_decide_eq_true hs) ⟨.str _, H, I.tok _, ⟨_, rfl⟩, q⟩
  | str y =>
    obtain ⟨t, rfl⟩ := (show ∃ t, u = Value.str y t from rx)
    exact PySem.P.repr_of_str ⟨.str _, H, I.tok _, ⟨_, rfl⟩, q⟩ hl
  | lst _ _ => exact byRef _ rx
  | tup _ _ => exact byRef _ rx
def rdRepr : RDL := fun ds Q => match ds with
  | [d] => ∃ p, toPy d = some p ∧ p.showable = true ∧ p.hasDict = false ∧ p.depth ≤ 60 ∧ p.shown.length ≤ sizeLine ∧ Q (.str p.shown)
  | _ => False
theorem ok_repr (hg : ∀ j, (Xs j).A.guards = some []) (hu : ∀ j, (Xs j).A.units + 64 < cLine) (hK : ∀ j, (Xs j).K = mg.K := by intro _; rfl) : CallOk Xs mg (.builtin "repr") rdRepr := by
  refine ⟨_, fun j => call_reprD (hK j) (hg j) (hu j), ?_⟩
  intro W H vs ds Q Q' hh r h q
  unfold rdRepr at h
  split at h
  · cases r with
    | cons r rs =>
      cases rs
      obtain ⟨p, h1, h2, h3, h4, h5, h6⟩ := h
      exact ⟨_, p, rfl, r.dp hh h1, h2, h3, h4, h5, q W H _ _ (Step.refl hh) (.str _) h6⟩
  · exact h.elim

/-! ### lists of one's own -/
def CpO (mg : Gm) (Wx : WX) (t : TE) (g : DTA) : Prop := ∀ B ρ Q E, g ρ Q E → ∀ W σ H Q', Holds W H → EnvR mg B W H σ ρ → ExR mg Wx W H σ E → (∀ W' H' p vs ds, Step W H W' H' → H' p = none → Reps mg W' vs ds → Q ds → Q' (.ref p) (upd H' p (.lst vs))) → t σ H Q'
/-- an expression that gives a new list -/
def DO (Xs : ι → Cx) (mg : Gm) (Wx : WX) (e : Expr) (g : DTA) : Prop := ∃ t, (∀ i, PE (Xs i) e t) ∧ CpO mg Wx t g
abbrev dLen (g : DTA) : DTA := fun ρ Q E => g ρ (fun xs => xs.length ≤ sizeLine ∧ Q xs) E
theorem do_lst {es : List Expr} {g : DTA} (h : DA Xs mg Wx es g) : DO Xs mg Wx (.List es pos) (dLen g) := by
  obtain ⟨t, h1, h2⟩ := h
  refine ⟨_, fun i => pe_lst (h1 i), fun B ρ Q E hf W σ H Q' hh e x q => h2 B ρ _ E hf W σ H _ hh e x fun W1 H1 vs ds s1 r1 k1 => ?_⟩
  exact ⟨by rw [r1.length]; exact k1.1, fun p hp => q W1 H1 p vs ds s1 hp r1 k1.2⟩
abbrev dSetO (i : Nat) (g : DTA) : DTS := fun N ρ => g ρ (fun ds => N.nx (ρ.set i (.own ds))) (fun x => N.rs x ρ)
theorem ds_setO {i : Nat} {x : Str} {e : Expr} {g : DTA} {pos' : Pos} (h : DO Xs mg Wx e g) (hN : ∀ j, (Xs j).N.Nodup) (hi : ∀ j, (Xs j).N[i]? = some x := by intro _; rfl) (hx : ∀ j, Loc (Xs j).env.scope x := by intro _; first | exact Or.inl rfl | exact Or.inr rfl)
    (hs : ∀ j, swapsWith e (some (.Name x pos')) pos.line (Xs j).env = pure false := by intro _; rfl) (hf : ∀ j, (Xs j).fn x = true ∨ (Xs j).env.scope.names.lookup x = some .local := by intro _; first | exact .inl rfl | exact .inr rfl) : DS Xs mg Wx (.Assign [.Name x pos'] e pos) (dSetO i g) := by
  obtain ⟨t, h1, h2⟩ := h
  refine ⟨_, fun j => ps_set (i := i) (hN j) (hi j) (hx j) (h1 j) (hs j) (hf j), fun W0 B N ρ hf W σ H Ds s e n => ?_⟩
  refine h2 B ρ _ _ hf W σ H _ s.holds e (n.ex s e) fun W1 H1 p vs ds s1 hp r1 k1 => ?_
  have s01 := s.trans s1
  have bp : B p = none := by
    cases q : B p with
    | none => rfl
    | some o =>
      obtain ⟨o', e'⟩ := s01.live p o q
      rw [e'] at hp
      cases hp
  exact n.nx W1 _ _ _ (s01.trans (Step.lay s01.holds hp)) ((e.step s1).setOwn s01.holds hp bp r1) k1
/-- the own list is handed on ahead of a statement -/
abbrev dFrz (i : Nat) (f : DTS) : DTS := fun N ρ => match ρ[i]? with
  | some (.own xs) => f N (ρ.set i (.d (.lst xs)))
  | _ => False
theorem CpS.frz {i : Nat} {t : TS} {f : DTS} (h : CpS mg Wx t f) : CpS mg Wx t (dFrz i f) := by
  intro W0 B N ρ hf W σ H Ds s e n
  unfold dFrz at hf
  split at hf
  · rename_i xs hx
    obtain ⟨p, vs, h1, h2, h3, h4, h5, r, e'⟩ := e.freeze s.holds hx
    exact h W0 B N _ hf _ σ H Ds (s.taken h5 h2 h3 h4) e' n
  · exact hf.elim
theorem ds_frz (i : Nat) {st : Stmt} {f : DTS} (h : DS Xs mg Wx st f) : DS Xs mg Wx st (dFrz i f) := by
  obtain ⟨t, h1, h2⟩ := h
  exact ⟨t, h1, h2.frz⟩
/-- x.append(e), x one's own -/
abbrev dApp (i : Nat) (f : DTE) : DTS := fun N ρ => match ρ[i]? with
  | some (.own xs) => f ρ (fun d => xs.length < sizeLine ∧ N.nx (ρ.set i (.own (xs ++ [d])))) (fun x => N.rs x ρ)
  | _ => False
theorem ds_append (i : Nat) {x : Str} {e : Expr} {f : DTE} {p apos cpos : Pos} (h : DE Xs mg Wx e f) (hN : ∀ j, (Xs j).N[i]? = some x := by intro _; rfl) (hv : ∀ j, Vis (Xs j).env.scope x := by intro _; first | exact Or.inl rfl | exact Or.inr (Or.inl rfl) | exact Or.inr (Or.inr rfl))
    (hd : (x == ("__debug__" : Str)) = false := by decide) (hcd : (x == ("__classdict__" : Str)) = false := by decide)
    (pe : ∀ j t, PE (Xs j) e t → PS (Xs j) (.Expr (.Call (.Attribute (.Name x p) "append" apos) [e] [] cpos) pos) (tDrop (tBM (Xs j).K "list" rAppend (tVar i) (tCons t tNil)))) (hK : ∀ j, (Xs j).K = mg.K := by intro _; rfl) :
    DS Xs mg Wx (.Expr (.Call (.Attribute (.Name x p) "append" apos) [e] [] cpos) pos) (dApp i f) := by
  obtain ⟨t, h1, h2⟩ := h
  refine ⟨tDrop (tBM mg.K "list" rAppend (tVar i) (tCons t tNil)), fun j => by rw [← hK j]; exact pe j t (h1 j), fun W0 B N ρ hf W σ H Ds s e n => ?_⟩
  unfold dApp at hf
  split at hf
  · rename_i xs hx
    obtain ⟨o, g1, a, vs, g2, g3, g4, g5, g6, r⟩ := e.sl i _ hx
    subst g2
    refine ⟨.ref a, g1, .inl ⟨rfl, _, SqL.of g3⟩, ?_⟩
    refine h2 B ρ _ _ hf W σ H _ s.holds e (n.ex s e) fun W1 H1 v d s1 r1 k1 => ?_
    have e1 := e.step s1
    obtain ⟨o', q1, a', vs', q2, q3, q4, q5, q6, r'⟩ := e1.sl i _ hx
    rw [g1] at q1
    cases q1
    cases q2
    refine ⟨a, vs', v, rfl, rfl, q3, by rw [r'.length]; exact k1.1, ?_⟩
    exact n.nx W1 _ σ _ ((s.trans s1).own q6 q3 q4 q5) (e1.own (us := vs') hx g1 (r'.snoc r1)) k1.2
  · exact hf.elim

end
end FP

namespace FP
open PySem PySem.Spec PyProof.Rows L2
variable [Tabl]
/-! ### the end of a law -/
section
variable {P : Program} {w : World} {K : PySem.W.Frag} {mg mb : Str → Option Value} {k : Nat} {fa a : Addr} {sp : Sp} {z₁ : Shared} {vs : List Value} {ns : List Int}
/-- what is asked of the call -/
abbrev Fine (z₁ : Shared) : Result → Shared → Prop := fun r z' => r = .ok (.ret (.bool true)) ∧ OldK z₁.heap z'.heap ∧ z'.os = z₁.os ∧ AllBare z'.gens
theorem end_at (KX : K.In z₁.heap) (gl : z₁.heap.Ns mainGlobals mg) (bl : z₁.heap.Ns builtinsNs mb) (bb : ∀ y : Str, y ≠ "__name__" → mb y = bootBuiltins y) (lim : z₁.heap.NoLimit) (gn : z₁.gens = #[])
    (ha : z₁.heap.get? a = some { cls := .type "list", data := .seq vs.toArray }) (hr : RmG k callerA) (F : ∀ base : Heap, K.In base → base.Ns mainGlobals mg → ∃ fd ps, Binds K fd ps [] ∧ FnG P w K mg base k fa fd ps sp)
    {H : Hp} (only : Only H) (hok : HOk P w H z₁.heap) (atA : ∀ b, H b ≠ none → b = a) (offK : H a ≠ none → K.lookup a = none) (want : sp [.ref a] H (fun v _ => v = .bl true) fun _ _ _ => False) (noX : ∀ e z', L2.CX P w [] H z₁ (fun _ _ _ => False) e z' → False) :
    codeAny (model P w) callerA (.call (.ref fa) ⟨[.ref a], []⟩) (Fine z₁) z₁ := by
  -- dicts are not tracked
  have free : ∀ {c : Addr} {o : Obj} {es : Array DictEntry} {ep : Nat}, z₁.heap.get? c = some o → o.data = .dict es ep → H c = none := by
    intro c o es ep hc hd
    rcases hH : H c with _ | u
    · rfl
    · have ca : c = a := atA c (by rw [hH]; exact Option.some_ne_none u)
      rw [ca, ha] at hc
      cases hc
      cases hd
  have ns' : ∀ {c : Addr} {m : Str → Option Value}, z₁.heap.Ns c m → (hidT z₁.heap H).Ns c m := by
    rintro c m ⟨o, es, ep, h1, h2, h3⟩
    exact ⟨o, es, ep, hidT_get h1 (free h1 h2), h2, h3⟩
  have kin : K.In (hidT z₁.heap H) := by
    intro c o hc
    refine hidT_get (KX c o hc) ?_
    rcases hH : H c with _ | u
    · rfl
    · have ca : c = a := atA c (by rw [hH]; exact Option.some_ne_none u)
      subst ca
      rw [offK (by rw [hH]; exact Option.some_ne_none u)] at hc
      cases hc
  obtain ⟨mc, l1, l2⟩ := lim
  have md : Mod K mg (hidT z₁.heap H) := ⟨kin, ns' gl, ⟨mb, ns' bl, bb⟩, ⟨mc, ns' l1, l2⟩⟩
  have en : Env0 P w K mg (hidT z₁.heap H) callerA [] z₁ H := by
    refine ⟨rfl, md, fun c o q => of_hidT q, Nat.le_of_eq (hidT_size _ _), trivial, ?_, hok, .of_eq gn⟩
    intro c hc
    cases hc
  obtain ⟨fd, ps, bd, fn⟩ := F _ kin (ns' gl)
  have bz := bd z₁ [.ref a] KX (fn.ln _ _ _ _ want)
  rw [List.append_nil] at bz
  have run := fn.go callerA [] z₁ H ⟨[.ref a], []⟩ [.ref a] [.ref a] _ _ hr en bz (.cons rfl .nil) want
  refine codeAny_mono run ?_
  intro res z' hres
  match res, hres with
  | .error e, hq => exact (noX e z' hq).elim
  | .ok .next, hq => exact hq.elim
  | .ok .brk, hq => exact hq.elim
  | .ok .cont, hq => exact hq.elim
  | .ok (.ret u), ⟨v, H', os, bare, un, ok', ru, hv⟩ =>
    have hv' : v = .bl true := hv
    subst hv'
    have hu : u = Value.bool true := ru
    subst hu
    refine ⟨rfl, OldK.of_keep ?_, os, bare⟩
    intro c o hc
    rcases only c with hn | ⟨ob, xs, hf⟩
    · exact un.keep c o hc hn (by intro q; cases q) (by intro q; cases q)
    · have f2 := un.frzs c ob _ hf
      have g1 := (hok c _ hf).1
      have g2 := (ok' c _ f2).1
      rw [hc] at g1
      cases g1
      exact g2
theorem end_law (KX : K.In z₁.heap) (gl : z₁.heap.Ns mainGlobals mg) (bl : z₁.heap.Ns builtinsNs mb) (bb : ∀ y : Str, y ≠ "__name__" → mb y = bootBuiltins y) (lim : z₁.heap.NoLimit) (gn : z₁.gens = #[])
    (ha : z₁.heap.get? a = some { cls := .type "list", data := .seq vs.toArray }) (hi : IntsAre vs ns) (hl : ns.length ≤ sizeLine) (hr : RmG k callerA) (F : ∀ base : Heap, K.In base → base.Ns mainGlobals mg → ∃ fd ps, Binds K fd ps [] ∧ FnG P w K mg base k fa fd ps sp)
    (want : ∀ H : Hp, Only H → SqL K H a (ns.map V.int) → sp [.ref a] H (fun v _ => v = .bl true) fun _ _ _ => False) (noX : ∀ H e z', L2.CX P w [] H z₁ (fun _ _ _ => False) e z' → False) :
    codeAny (model P w) callerA (.call (.ref fa) ⟨[.ref a], []⟩) (Fine z₁) z₁ := by
  have rv := vals_ints hi
  have lv := hi.length
  rcases hk : K.lookup a with _ | o
  · have only : Only (upd (fun _ => none) a (.frz { cls := .type "list", data := .seq vs.toArray } (.lst (ns.map V.int)))) := by
      intro c
      by_cases hc : c = a
      · subst hc
        exact .inr ⟨_, _, upd_same⟩
      · exact .inl (upd_ne hc)
    refine end_at KX gl bl bb lim gn ha hr F only ?_ ?_ (fun _ => hk) (want _ only (.inl (.inr ⟨_, upd_same⟩))) (noX _)
    · intro c u hc
      by_cases hca : c = a
      · subst hca
        rw [upd_same] at hc
        cases hc
        refine ⟨ha, ?_, vs, _, rv, ha⟩
        rw [List.length_map]
        exact hl
      · rw [upd_ne hca] at hc
        cases hc
    · intro c hc
      by_cases hca : c = a
      · exact hca
      · exact absurd (upd_ne hca) hc
  · have ho := KX a o hk
    rw [ha] at ho
    cases ho
    have only : Only (fun _ => none) := fun _ => .inl rfl
    refine end_at KX gl bl bb lim gn ha hr F only (fun c u hc => by cases hc) (fun c hc => absurd rfl hc) (fun hc => absurd rfl hc) (want _ only (.inr ⟨_, vs.toArray, _, hk, rfl, rfl, rfl, ?_, by simpa using rv⟩)) (noX _)
    rw [List.size_toArray, lv]
    exact hl
end
/-- the script as a datum -/
abbrev scriptD (ns : List Int) : D := .fz (ns.map D.int)
theorem walkG {l : PySem.W.OpenLaw} {k : Nat} {q : Program} {loose : List Str} {XP : (Str → Option Value) → Heap → Prop} {YP : World → Heap → Prop} {d : DefRec} {K : Params → PySem.W.Frag} {f : List D → M D}
    (hB : Tabl.B = []) (hn : l.most = some 63) (hdf : d.params.defaults = []) (hr : RmG k callerA) (hY : ∀ (w : World) (h : Heap), YP w h → (K w.params).In h)
    (F : ∀ (w : World) (mg : Str → Option Value) (h : Heap), (K w.params).In h → h.Ns mainGlobals mg → ∀ base : Heap, DefOk l.prog w ⟨mg, K w.params⟩ base k d.name 1 f)
    (hf : ∀ ns : List Int, ns.length ≤ 63 → f [scriptD ns] (fun d => d = .bl true) F0) : PySem.W.WalkO q loose XP YP l.row.toRowW d [] (fun f vs => PySem.call f vs) := by
  refine Att.attach_call hn hdf fun w z₀ z₁ mg mb fa o pm cd doc a vs ns G Y ho hd hcd hmg hobj hints hlen hg => ?_
  have KX := hY w _ Y
  refine end_law (sp := spD ⟨mg, K w.params⟩ 1 f) KX G.T.g G.T.b G.T.builtins G.T.nolimit hg hobj hints (Nat.le_trans hlen (by decide)) hr (fun base _ _ => ?_) (fun H only hS => ?_) fun H e z' c => ?_
  · obtain ⟨fa', fd, ps, h1, h2, h3, h4, h5⟩ := (F w mg _ KX G.T.g base).ex
    have e : fa' = fa := by
      have e' := h1.symm.trans hmg
      cases e'
      rfl
    subst e
    exact ⟨fd, ps, h3, h5⟩
  · refine ⟨⟨H, fun _ => False, fun _ => False⟩, [scriptD ns], _, _, ⟨Same.refl H, fun _ t => t.elim, fun _ t => t.elim, fun _ h => (by rw [hB] at h; cases h), fun b ps e => by rcases only b with z | ⟨_, _, z⟩ <;> rw [z] at e <;> cases e⟩, .cons (.fz hS (Reps.ints ns)) .nil, rfl, hf ns hlen, fun W' H' v d _ r e => ?_, fun _ _ _ _ _ _ _ h => h⟩
    subst e
    cases r
    rfl
  · obtain ⟨_, _, _, _, _, _, _, _, _, _, _, _, z⟩ := c
    exact z.elim
end FP

/-! FP7: the dice; a comprehension that empties a list of one's own. -/
namespace FP
open PySem L2
variable [Tabl]
section
variable {ι : Type} {Xs : ι → Cx} {mg : Gm} {Wx : WX} {pos : Pos}

/-! ### dice -/
theorem Step.dice {W : Wd} {H : Hp} (h : Holds W H) {a : Addr} (t : W.Dc a) {x y z : Int} : Step W H W (upd H a (.lst [.int x, .int y, .int z])) := by
  obtain ⟨ta, x0, y0, z0, ea⟩ := h.tok a t
  obtain ⟨na, _⟩ := h.exm a ta
  refine ⟨Le.refl W, ⟨fun b u e => ?_, fun b tb => ?_, fun b tb => ?_, fun q hq => ?_, fun b ps e => ?_⟩, fun b u e n => ?_, fun _ _ _ => rfl, fun b t => .inl t, fun b u e => ?_⟩
  · rw [upd_ne (ne_of_none e na)]
    exact h.same b u e
  · obtain ⟨h1, u, h2⟩ := h.exm b tb
    by_cases hb : b = a
    · subst hb
      exact ⟨h1, _, upd_same⟩
    · exact ⟨h1, u, by rw [upd_ne hb]; exact h2⟩
  · by_cases hb : b = a
    · subst hb
      exact ⟨ta, x, y, z, upd_same⟩
    · rw [upd_ne hb]
      exact h.tok b tb
  · obtain ⟨h1, ps, h2, h3, h4⟩ := h.tab q hq
    have nq : q.1 ≠ a := fun z => by
      rw [z, ea] at h2
      cases h2
    refine ⟨h1, ps, by rw [upd_ne nq]; exact h2, h3, fun pos cv hc => ?_⟩
    obtain ⟨c, e1, e2⟩ := h4 pos cv hc
    have nc : c ≠ a := fun z => by
      rw [z, ea] at e2
      cases e2
    exact ⟨c, e1, by rw [upd_ne nc]; exact e2⟩
  · by_cases hb : b = a
    · rw [hb, upd_same] at e
      cases e
    · rw [upd_ne hb] at e
      exact h.all b ps e
  · rw [upd_ne fun q => n (by rw [q]; exact ta)]
    exact e
  · by_cases hb : b = a
    · subst hb
      exact ⟨_, upd_same⟩
    · rw [upd_ne hb]
      exact ⟨u, e⟩
/-- x[k] = e, x dice -/
abbrev dTok (i : Nat) (k : Int) (f : DTE) : DTS := fun N ρ => f ρ (fun d => match d, ρ[i]? with
  | .int _, some (.d .tok) => (0 ≤ k ∧ k < 3) ∧ N.nx ρ
  | _, _ => False) (fun x => N.rs x ρ)
theorem ds_tok (i : Nat) {x : Str} {k : Int} {e : Expr} {f : DTE} {p p2 p3 : Pos} {jj : Nat} (h : DE Xs mg Wx e f) (hN : ∀ j, (Xs j).N[i]? = some x := by intro _; rfl) (hv : ∀ j, Vis (Xs j).env.scope x := by intro _; first | exact Or.inl rfl | exact Or.inr (Or.inl rfl) | exact Or.inr (Or.inr rfl))
    (pg : ∀ j t, PE (Xs j) e t → PS (Xs j) (.Assign [.Subscript (.Name x p) (.Constant (.int k) jj p2) p3] e pos) (tAsg t (gSub (tVar i) (tC (.int k)) rSetL))) : DS Xs mg Wx (.Assign [.Subscript (.Name x p) (.Constant (.int k) jj p2) p3] e pos) (dTok i k f) := by
  obtain ⟨t, h1, h2⟩ := h
  refine ⟨_, fun j => pg j t (h1 j), fun W0 B N ρ hf W σ H Ds s e n => ?_⟩
  refine h2 B ρ _ _ hf W σ H _ s.holds e (n.ex s e) fun W1 H1 v d s1 r1 k1 => ?_
  dsimp only at k1
  split at k1
  · rename_i c hr
    obtain ⟨hk, k2⟩ := k1
    have e1 := e.step s1
    obtain ⟨v', g1, g2⟩ := e1.get hr
    cases r1
    cases g2 with
    | @tok a ta =>
      obtain ⟨_, x0, y0, z0, ha⟩ := s1.holds.tok a ta
      have hj : ∃ j u1 u2 u3, ixN 3 k = some j ∧ ([V.int x0, V.int y0, V.int z0].set j (V.int c)) = [V.int u1, V.int u2, V.int u3] := by
        have hi : k = 0 ∨ k = 1 ∨ k = 2 := by omega
        rcases hi with rfl | rfl | rfl
        · exact ⟨0, c, y0, z0, rfl, rfl⟩
        · exact ⟨1, x0, c, z0, rfl, rfl⟩
        · exact ⟨2, x0, y0, c, rfl, rfl⟩
      obtain ⟨j, u1, u2, u3, hj, hs⟩ := hj
      have st := Step.dice s1.holds ta (x := u1) (y := u2) (z := u3)
      refine ⟨_, g1, a, _, k, j, rfl, rfl, ha, hj, ?_⟩
      rw [hs]
      exact n.nx W1 _ σ ρ ((s.trans s1).trans st) (e1.step st) k2
  · exact k1.elim
/-- return [a, b, c]: new dice -/
abbrev dRetTok (g : DTA) : DTS := fun N ρ => g ρ (fun ds => match ds with
  | [.int _, .int _, .int _] => N.rt .tok ρ
  | _ => False) (fun x => N.rs x ρ)
theorem ds_retTok {es : List Expr} {g : DTA} {p : Pos} (h : DA Xs mg Wx es g) : DS Xs mg Wx (.Return (some (.List es p)) pos) (dRetTok g) := by
  obtain ⟨t, h1, h2⟩ := h
  refine ⟨_, fun j => ps_ret (pe_lst (h1 j)), fun W0 B N ρ hf W σ H Ds s e n => ?_⟩
  refine h2 B ρ _ _ hf W σ H _ s.holds e (n.ex s e) fun W1 H1 vs ds s1 r1 k1 => ?_
  split at k1
  · rename_i x y z
    cases r1 with
    | cons r rs =>
      cases r
      cases rs with
      | cons r rs =>
        cases r
        cases rs with
        | cons r rs =>
          cases r
          cases rs
          refine ⟨by show 3 ≤ sizeLine; decide, fun p hp => ?_⟩
          have hh := s1.holds
          have nw := hh.same.free hp
          have h0 := hh.lay (o := .lst [.int x, .int y, .int z]) hp (by intro _ h; cases h)
          have st : Step W1 H1 { W1 with T := fun b => W1.T b ∨ b = p, Dc := fun b => W1.Dc b ∨ b = p } (upd H1 p (.lst [.int x, .int y, .int z])) := by
            refine ⟨⟨Same.refl _, fun _ t => .inl t, fun _ t => .inl t⟩, ⟨h0.same, fun b tb => ?_, fun b tb => ?_, fun q hq => ⟨.inl (h0.tab q hq).1, (h0.tab q hq).2⟩, h0.all⟩, fun b u q _ => ?_, fun _ _ _ => rfl, fun b tb => ?_, fun b u q => ?_⟩
            · rcases tb with tb | rfl
              · exact h0.exm b tb
              · exact ⟨nw, _, upd_same⟩
            · rcases tb with tb | rfl
              · exact ⟨.inl (h0.tok b tb).1, (h0.tok b tb).2⟩
              · exact ⟨.inr rfl, x, y, z, upd_same⟩
            · rw [upd_ne (ne_of_none q hp)]
              exact q
            · rcases tb with tb | rfl
              · exact .inl tb
              · exact .inr hp
            · exact ⟨u, by rw [upd_ne (ne_of_none q hp)]; exact q⟩
          exact n.rt _ _ σ ρ _ _ ((s.trans s1).trans st) (e.step (s1.trans st)) (.tok (.inr rfl)) k1
  · exact k1.elim

/-! ### list(x) as a list of one's own; its length -/
abbrev dListO (g : DTA) : DTA := fun ρ Q E => g ρ (fun ds => match ds with
  | [.lst xs] => Q xs
  | [.tup xs] => Q xs
  | _ => False) E
theorem do_list {e : Expr} {g : DTA} {p : Pos} (h : DA Xs mg Wx [e] g) (hm : mg.mg "list" = none) (hv : bootBuiltins "list" = some (.type "list")) (hK : ∀ j, (Xs j).K = mg.K := by intro _; rfl) (hM : ∀ j, (Xs j).mg = mg.mg := by intro _; rfl) (hg : ∀ j, Gl (Xs j) "list" := by intro _; rfl)
    (he : ∀ j, starEach [e] (Xs j).env = [(false, eval e (Xs j).env)] := by intro _; rfl) : DO Xs mg Wx (.Call (.Name "list" p) [e] [] pos) (dListO g) := by
  obtain ⟨t, h1, h2⟩ := h
  refine ⟨_, fun j => pe_callTy (call_listK (hK j)) (hg j) (by rw [hM j]; exact hm) hv (h1 j) (by decide) (by decide) (he j) rfl, fun B ρ Q E hf W σ H Q' hh e x q => ?_⟩
  refine h2 B ρ _ E hf W σ H _ hh e x fun W1 H1 vs ds s1 r1 k1 => ?_
  split at k1
  · cases r1 with
    | cons r rs =>
      cases rs
      cases r with
      | lst ha ra => exact ⟨_, _, rfl, .inl (SqL.of (s1.holds.same _ _ ha)), fun l hl => q W1 H1 l _ _ s1 hl ra k1⟩
  · cases r1 with
    | cons r rs =>
      cases rs
      cases r with
      | tup ha ra => exact ⟨_, _, rfl, .inr (SqT.of (s1.holds.same _ _ ha)), fun l hl => q W1 H1 l _ _ s1 hl ra k1⟩
  · exact k1.elim
abbrev dLenO (i : Nat) : DTE := fun ρ Q _ => match ρ[i]? with
  | some (.own xs) => Q (.int xs.length)
  | _ => False
theorem de_lenO (i : Nat) {x : Str} {p p2 : Pos} (hm : mg.mg "len" = none) (hN : ∀ j, (Xs j).N[i]? = some x := by intro _; rfl) (hv : ∀ j, Vis (Xs j).env.scope x := by intro _; first | exact Or.inl rfl | exact Or.inr (Or.inl rfl) | exact Or.inr (Or.inr rfl))
    (hd : (x == ("__debug__" : Str)) = false := by decide) (hcd : (x == ("__classdict__" : Str)) = false := by decide) (hK : ∀ j, (Xs j).K = mg.K := by intro _; rfl) (hM : ∀ j, (Xs j).mg = mg.mg := by intro _; rfl) (hg : ∀ j, Gl (Xs j) "len" := by intro _; rfl)
    (he : ∀ j, starEach [.Name x p2] (Xs j).env = [(false, eval (.Name x p2) (Xs j).env)] := by intro _; rfl) : DE Xs mg Wx (.Call (.Name "len" p) [.Name x p2] [] pos) (dLenO i) := by
  refine ⟨_, fun j => pe_callB (call_lenK (hK j)) (hg j) (by rw [hM j]; exact hm) PySem.boot_len (pa_cons (pe_var (i := i) (hN j) (hv j) hd hcd) pa_nil (he j)) (by decide) (by decide) (he j) rfl, fun B ρ Q E hf W σ H Q' hh e x q => ?_⟩
  unfold dLenO at hf
  split at hf
  · rename_i xs hx
    obtain ⟨o, g1, a, vs, g2, g3, g4, g5, g6, r⟩ := e.sl i _ hx
    subst g2
    refine ⟨_, g1, _, _, rfl, .inl ⟨_, SqL.of g3, rfl⟩, ?_⟩
    rw [r.length]
    exact q W H _ _ (Step.refl hh) (.int _) hf
  · exact hf.elim

/-! ### return [own.pop(index) for .. in ..] -/
theorem EnvR.off {B : Hp} {W : Wd} {H : Hp} {σ : St} {ρ : Env} (e : EnvR mg B W H σ ρ) {A : Addr} {o : HO} (h : ∀ (j : Nat) (t : Sl) (o : Option V), ρ[j]? = some t → σ[j]? = some o → A ∉ t.fp o) : EnvR mg B W (upd H A o) σ ρ := by
  refine ⟨e.len, fun j sl hj => ?_, e.dis⟩
  obtain ⟨o', h1, h2⟩ := e.sl j sl hj
  refine ⟨o', h1, h2.keep (Le.refl W) fun a ha u h5 h6 h7 => ⟨?_, h6, h7⟩⟩
  have ne : a ≠ A := fun q => h j sl o' hj h1 (by rw [← q]; exact ha)
  rw [upd_ne ne]
  exact h5
def popD (T : Tg) (i : Nat) (f : DTE) (ρ : Env) (vs : List Nat) : List D → List D → (List D → Prop) → Prop
  | [], _, Q => Q []
  | d :: ds, xs, Q => ∃ ρ2, T.put d (wipeD (ρ.set i (.own xs)) vs) = some ρ2 ∧ ρ2[i]? = some (.own xs) ∧ f ρ2 (fun z => match z with
    | .int k => ∃ y, (0 ≤ k ∧ k < xs.length ∧ k < 2 ^ 62) ∧ xs[k.toNat]? = some y ∧ popD T i f ρ vs ds (xs.eraseIdx k.toNat) fun rs => Q (y :: rs)
    | _ => False) F0
abbrev dRetPop (w : DTI) (T : Tg) (i : Nat) (f : DTE) (vs : List Nat) : DTS := fun N ρ => match ρ[i]? with
  | some (.own xs) => w ρ (fun ds => ds.length ≤ sizeLine ∧ popD T i f ρ vs ds xs fun rs => N.rt (.lst rs) (noEnv ρ)) (fun x => N.rs x ρ)
  | _ => False
theorem ds_retPop {i : Nat} {tg iter idx : Expr} {x : Str} {p apos cpos lpos : Pos} {scope : Scope} {own : List (Str × Nat)} {w : DTI} {T : Tg} {f : DTE} (hN : ∀ j, (Xs j).N.Nodup) (hi : DI Xs mg Wx tg iter w) (ok : ∀ j, BlkOk (Xs j).N (Xs j).env.scope scope own) (hg : DG (blkF Xs scope) mg tg T) (he : DE (blkF Xs scope) mg Wx0 idx f)
    (pe : ∀ j t, PE (blkF Xs scope j) idx t → PE (blkF Xs scope j) (.Call (.Attribute (.Name x p) "pop" apos) [idx] [] cpos) (tBM (blkF Xs scope j).K "list" rPopAt (tVar i) (tCons t tNil))) (hio : i ∉ own.map (·.2) := by decide) (hK : ∀ j, (Xs j).K = mg.K := by intro _; rfl)
    (hv : ∀ k ∈ T.slots, k ∈ own.map (·.2) := by decide) (hc : ∀ j, (Xs j).calm = true := by intro _; rfl) (hs : ∀ j x, foldedSetIterable iter (Xs j).env x = pure x := by intro _ _; rfl) :
    DS Xs mg Wx (.Return (some (.ListComp (.Call (.Attribute (.Name x p) "pop" apos) [idx] [] cpos) [⟨tg, iter, [], 0⟩] scope lpos)) pos) (dRetPop w T i f (own.map (·.2))) := by
  obtain ⟨wi, i1, i2⟩ := hi
  obtain ⟨g, g1, g2⟩ := hg
  obtain ⟨te, e1, e2⟩ := he
  have pe' : ∀ j, PE (blkF Xs scope j) (.Call (.Attribute (.Name x p) "pop" apos) [idx] [] cpos) (tBM mg.K "list" rPopAt (tVar i) (tCons te tNil)) := fun j => by
    have z := pe j te (e1 j)
    have hk : (blkF Xs scope j).K = mg.K := hK j.1
    rw [hk] at z
    exact z
  refine ⟨_, fun j => ps_ret (pe_lc (tt := tYes) (hc j) (hN j) (i1 j) (ok j) (fun s H C cl fp => g1 (j, s, H, C, cl, fp)) (fun _ _ _ _ _ => pts_nil) (fun s H C cl fp => pe' (j, s, H, C, cl, fp)) (hs j)), fun W0 B N ρ hf W σ H Ds s e n => ?_⟩
  unfold dRetPop at hf
  split at hf
  · rename_i xs0 hx0
    refine i2 B ρ _ _ hf W σ H _ s.holds e (n.ex s e) fun W1 H1 J ds s1 wk k1 => ?_
    obtain ⟨hsz, k1⟩ := k1
    intro A hA
    have s01 := s.trans s1
    have bA : B A = none := by
      cases q : B A with
      | none => rfl
      | some o =>
        obtain ⟨o', e'⟩ := s01.live A o q
        rw [e'] at hA
        cases hA
    have e1 := e.step s1
    have offA : ∀ (j : Nat) (t : Sl) (o : Option V), ρ[j]? = some t → σ[j]? = some o → A ∉ t.fp o := fun j t o hj q mt => by
      obtain ⟨o', h1, h2⟩ := e1.sl j _ hj
      rw [q] at h1
      cases h1
      obtain ⟨u, h4, _⟩ := h2.at mt
      rw [h4] at hA
      cases hA
    have offB : ∀ (xs : List D) (j : Nat) (t : Sl) (o : Option V), (ρ.set i (.own xs))[j]? = some t → σ[j]? = some o → A ∉ t.fp o := fun xs j t o hj ho => by
      rcases get_set hj with ⟨rfl, z⟩ | ⟨_, q⟩
      · rw [← z]
        exact offA i (.own xs0) o hx0 ho
      · exact offA j t o q ho
    have own0 : ρ.set i (.own xs0) = ρ := by
      apply List.ext_getElem?
      intro j
      by_cases hj : i = j
      · subst hj
        rw [set_get hx0, hx0]
      · rw [List.getElem?_set_ne hj]
    refine ⟨fun m k H' => k = ds.length - m ∧ m ≤ ds.length ∧ ∃ W' us acc xs, Step W0 B W' H' ∧ Le W1 W' ∧ H' A = some (.lst us) ∧ W'.H A = none ∧ ¬ W'.T A ∧ Reps mg W' us acc ∧ acc.length ≤ m ∧ EnvR mg B W' H' σ (ρ.set i (.own xs)) ∧ popD T i f ρ (own.map (·.2)) (ds.drop m) xs (fun rs => N.rt (.lst (acc ++ rs)) (noEnv ρ)),
      ⟨ds.length, by simp, Nat.zero_le _, W1, [], [], xs0, s01.trans (Step.lay s01.holds hA), Le.refl _, upd_same, s01.holds.same.free hA, s01.holds.nT hA, .nil, Nat.le_refl _, by rw [own0]; exact e1.off offA, k1⟩, ?_⟩
    rintro m k H' ⟨rfl, hm, W', us, acc, xs, s', l', hL, nw, nt, rs, la, e', k'⟩
    obtain ⟨go, stop, yld⟩ := wk W' H' l' s'.holds
    by_cases hlt : m < ds.length
    · refine .inr ⟨go m hlt, fun H2 => ∃ W2 us2 acc2 xs2, Step W0 B W2 H2 ∧ Le W1 W2 ∧ H2 A = some (.lst us2) ∧ W2.H A = none ∧ ¬ W2.T A ∧ Reps mg W2 us2 acc2 ∧ acc2.length ≤ m + 1 ∧ EnvR mg B W2 H2 σ (ρ.set i (.own xs2)) ∧ popD T i f ρ (own.map (·.2)) (ds.drop (m + 1)) xs2 (fun rs => N.rt (.lst (acc2 ++ rs)) (noEnv ρ)), fun H2 q => ⟨ds.length - (m + 1), by omega, rfl, hlt, q⟩, fun y H2 hy => ?_⟩
      obtain ⟨W2, d, s2, hd, r⟩ := yld m y H2 hlt hy
      have ed : ds.drop m = d :: ds.drop (m + 1) := by
        rw [List.drop_eq_getElem_cons hlt]
        have := (List.getElem?_eq_some_iff.mp hd).2
        rw [this]
      rw [ed] at k'
      obtain ⟨ρ1, p1, p2, k2⟩ := k'
      have sA : ∀ {Wa Wb : Wd} {Ha Hb : Hp} {ws : List V}, Step Wa Ha Wb Hb → Ha A = some (.lst ws) → Wa.H A = none → ¬ Wa.T A → Hb A = some (.lst ws) ∧ Wb.H A = none ∧ ¬ Wb.T A := fun st a1 a2 a3 => ⟨st.keep A _ a1 a3, by rw [st.fresh A _ a1]; exact a2, fun t => by
        rcases st.freshT A t with t | t
        · exact a3 t
        · rw [a1] at t
          cases t⟩
      have eW := e'.step s2
      refine g2 B W2 H2 y d _ _ ρ1 _ s2.holds r (eW.wipe _) p1 fun σ3 e3 w3 => ?_
      refine ⟨(w3 _ hv).trans (wipe_wipe σ _), ?_⟩
      dsimp only [tYes]
      rw [if_pos rfl]
      obtain ⟨b1, b2, b3⟩ := sA s2 hL nw nt
      obtain ⟨o, q1, a, ws, q2, q3, q4, q5, q6, rw0⟩ := e3.sl i _ p2
      subst q2
      refine ⟨.ref a, q1, .inl ⟨rfl, _, SqL.of q3⟩, ?_⟩
      refine e2 B ρ1 _ _ k2 W2 σ3 H2 _ s2.holds e3 ExR.f0 fun W3 H3 z dz s3 r3 k3 => ?_
      dsimp only at k3
      split at k3
      · rename_i kk
        cases r3
        obtain ⟨yy, hk, hy2, k4⟩ := k3
        have e4 := e3.step s3
        obtain ⟨o', q1', a', ws', q2', q3', q4', q5', q6', rw1⟩ := e4.sl i _ p2
        rw [q1] at q1'
        cases q1'
        cases q2'
        obtain ⟨c1, c2, c3⟩ := sA s3 b1 b2 b3
        obtain ⟨vy, hvy, ry⟩ := rw1.get hy2
        have hseq : seqIndex? kk ws'.length = some kk.toNat := by
          unfold seqIndex?
          rw [rw1.length]
          have h0 : ¬ kk < 0 := by omega
          have hand : (decide (0 ≤ kk) && decide (kk < (xs.length : Int))) = true := by
            rw [Bool.and_eq_true]
            exact ⟨decide_eq_true hk.1, decide_eq_true hk.2.1⟩
          simp only [if_neg h0]
          rw [if_pos hand]
        refine ⟨a, ws', kk, kk.toNat, vy, rfl, rfl, q3', by omega, by omega, hseq, hvy, ?_⟩
        have na : a ≠ A := fun q => by
          subst q
          have sg : σ[i]? = some (some (V.ref a)) := by
            have hw := w3 _ hv
            have h1 : (L2.wipe σ3 (own.map (·.2)))[i]? = some (some (V.ref a)) := by
              have keep : ∀ us : List Nat, i ∉ us → (L2.wipe σ3 us)[i]? = σ3[i]? := by
                intro us
                induction us with
                | nil => intro _; rfl
                | cons u us ih =>
                  intro hu
                  show ((L2.wipe σ3 us).set u none)[i]? = _
                  rw [List.getElem?_set_ne (fun (q : u = i) => hu (by rw [q]; exact List.mem_cons_self))]
                  exact ih fun q => hu (List.mem_cons_of_mem _ q)
              rw [keep _ hio]
              exact q1
            rw [hw, wipe_wipe] at h1
            exact (wipe_some h1).1
          exact offA i _ _ hx0 sg (List.mem_singleton.mpr rfl)
        have st3 := (s'.trans s2).trans s3
        have st4 : Step W0 B W3 (upd H3 a (.lst (ws'.eraseIdx kk.toNat))) := st3.own q6' q3' q4' q5'
        have d1 : (upd H3 a (.lst (ws'.eraseIdx kk.toNat))) A = some (.lst us) := by
          rw [upd_ne (Ne.symm na)]
          exact c1
        refine ⟨us, d1, ?_, W3, us ++ [vy], acc ++ [yy], xs.eraseIdx kk.toNat, st4.own bA d1 c2 c3, (l'.trans s2.le).trans s3.le, upd_same, c2, c3, Reps.snoc (rs.mono (s2.trans s3).le) ry, ?_, ?_, ?_⟩
        · rw [rs.length]
          omega
        · rw [List.length_append, List.length_singleton]
          omega
        · have sg : σ[i]? = some (some (V.ref a)) := by
            have e5 := eW.sl i (.own xs) (set_get hx0)
            have hw := w3 _ hv
            have keep : ∀ (τ : St) (us : List Nat), i ∉ us → (L2.wipe τ us)[i]? = τ[i]? := by
              intro τ us
              induction us with
              | nil => intro _; rfl
              | cons u us ih =>
                intro hu
                show ((L2.wipe τ us).set u none)[i]? = _
                rw [List.getElem?_set_ne (fun (q : u = i) => hu (by rw [q]; exact List.mem_cons_self))]
                exact ih fun q => hu (List.mem_cons_of_mem _ q)
            have h1 := keep σ3 _ hio
            rw [hw, wipe_wipe, keep σ _ hio, q1] at h1
            exact h1
          have e6 := (eW.step s3).own (us := ws') (xs := xs) (set_get hx0) sg (rw1.eraseIdx kk.toNat)
          rw [List.set_set] at e6
          exact e6.off (offB _)
        · simpa [List.append_assoc] using k4
      · exact k3.elim
    · have em : m = ds.length := by omega
      subst em
      rw [List.drop_length] at k'
      have k2 : N.rt (.lst (acc ++ [])) (noEnv ρ) := k'
      rw [List.append_nil] at k2
      exact .inl ⟨stop, n.rt (W'.put A (.lst us)) H' σ (noEnv ρ) _ _ (s'.taken bA hL nw nt) (EnvR.noEnv e.len) (Rep.newLst rs nw) k2⟩
  · exact hf.elim
end
end FP

/-! FP8: a def of the text; empty dicts; what the dice helpers promise. -/
namespace FP
open PySem L2
variable [Tabl]
theorem boot_len : bootBuiltins "len" = some (.builtin "len") := by decide +kernel
theorem boot_abs : bootBuiltins "abs" = some (.builtin "abs") := by decide +kernel
theorem boot_max : bootBuiltins "max" = some (.builtin "max") := by decide +kernel
theorem boot_min : bootBuiltins "min" = some (.builtin "min") := by decide +kernel
theorem boot_all : bootBuiltins "all" = some (.builtin "all") := by decide +kernel
theorem boot_any : bootBuiltins "any" = some (.builtin "any") := by decide +kernel
theorem boot_repr : bootBuiltins "repr" = some (.builtin "repr") := by decide +kernel
theorem boot_sorted : bootBuiltins "sorted" = some (.builtin "sorted") := by decide +kernel
theorem boot_isinstance : bootBuiltins "isinstance" = some (.builtin "isinstance") := by decide +kernel
theorem boot_int : bootBuiltins "int" = some (.type "int") := by decide +kernel
theorem boot_str : bootBuiltins "str" = some (.type "str") := by decide +kernel
theorem boot_bool : bootBuiltins "bool" = some (.type "bool") := by decide +kernel
theorem boot_list : bootBuiltins "list" = some (.type "list") := by decide +kernel
theorem boot_tuple : bootBuiltins "tuple" = some (.type "tuple") := by decide +kernel
theorem boot_dict : bootBuiltins "dict" = some (.type "dict") := by decide +kernel
theorem boot_set : bootBuiltins "set" = some (.type "set") := by decide +kernel
section
variable {ι : Type} {Xs : ι → Cx} {mg : Gm} {Wx : WX} {pos : Pos}
theorem mkDef {P : Program} {w : World} {base : Heap} {x : Str} {st : Stmt} {N ps : List Str} {k : Nat} {f : List D → M D} (d : ∃ fa fd, mg.mg x = some (.ref fa) ∧ Fun mg.K x x st fa fd) (S : FnScope N ps (defScope st))
    (hb : ∀ (kV doc pm : Value) (an : Option Addr) (cdv ct : Value) (us : List Value), us.length = ps.length → bindArgs (PySem.W.fnOf x x (defArgs st) (defBody st) (defScope st) .none kV doc pm an cdv ct) ⟨us, []⟩ = pure (ps.zip us))
    (h : ∀ (fa : Addr) (cdv : Value) (A : Around) (outer : List PySem.Env) (s : Shared) (H : Hp) (E : XK), RmG k (A.deeper (PyProof.Rows.envOfC x (defScope st) s.heap.objs.size fa cdv)) →
      ∃ g, DSs (fun _ : Unit => cxOf (L2.CX P w) P w mg.K mg.mg base N x (defScope st) fa cdv A outer s H E) mg (fun cls d _ H' => E cls d H') (defBody st) g ∧
        ∀ ds Q Ex, ds.length = ps.length → f ds Q Ex → g ⟨fun _ => Q .non, fun d _ => Q d, fun _ => False, fun _ => False, fun x _ => Ex x⟩ (startD N.length ds)) :
    DefOk P w mg base (k + 1) x ps.length f := by
  obtain ⟨fa, fd, hm, F⟩ := d
  exact ⟨fa, fd, ps, hm, F.kp, F.binds hb, rfl, def_ok F S (h fa)⟩
abbrev dNewD : DTE := fun _ Q _ => Q (.dct [])
theorem de_dnew : DE Xs mg Wx (.Dict [] [] pos) dNewD := by
  refine ⟨_, fun _ => pe_lk pe_dnewK, fun B ρ Q E hf W σ H Q' hh e x q p hp => ?_⟩
  refine ⟨p, _, rfl, upd_same, True.intro, fun od => ?_⟩
  rw [upd_upd]
  exact q _ _ _ _ (Step.alloc hh hp) (.dct (kvs := []) (show upd W.H p _ p = _ from upd_same) rfl .nil) hf
end
/-! ### the dice helpers -/
def f_dice : List D → M D := fun ds Q _ => match ds with
  | [.fz xs, .int k] => (∃ ns : List Int, xs = ns.map D.int) ∧ (0 ≤ k ∧ k < 1000) ∧ Q .tok
  | _ => False
def f_roll : List D → M D := fun ds Q _ => match ds with
  | [.tok, .int n] => (0 < n ∧ n < 1073741824) ∧ ∀ r, 0 ≤ r → r < n → Q (.int r)
  | _ => False
def f_pick : List D → M D := fun ds Q _ => match ds with
  | [.tok, .lst xs] => (0 < xs.length ∧ xs.length < 1073741824) ∧ ∀ d, d ∈ xs → Q d
  | [.tok, .tup xs] => (0 < xs.length ∧ xs.length < 1073741824) ∧ ∀ d, d ∈ xs → Q d
  | _ => False
def f_some : List D → M D := fun ds Q _ => match ds with
  | [.tok, .lst xs, .int k] => (xs.length < 1000000) ∧ (0 ≤ k ∧ k < 1000000) ∧ ∀ ys zs, (ys ++ zs).Perm xs → ys.length = min k.toNat xs.length → Q (.lst ys)
  | [.tok, .tup xs, .int k] => (xs.length < 1000000) ∧ (0 ≤ k ∧ k < 1000000) ∧ ∀ ys zs, (ys ++ zs).Perm xs → ys.length = min k.toNat xs.length → Q (.lst ys)
  | _ => False
theorem at_of {α : Type} {xs : List α} {z : Int} {j : Nat} {v : α} (e : z = (j : Int)) (h : xs[j]? = some v) : atI xs z = some v := by
  rw [e]
  exact atI_nat h
theorem atI_mem {xs : List D} {r : Int} (h0 : 0 ≤ r) (h1 : r < xs.length) : ∃ d, atI xs r = some d ∧ d ∈ xs := by
  have hr : r.toNat < xs.length := by omega
  refine ⟨xs[r.toNat], ?_, List.getElem_mem hr⟩
  exact at_of (j := r.toNat) (by omega) (by simp [hr])
theorem atI_ints {ns : List Int} {r : Int} (h0 : 0 ≤ r) (h1 : r < (ns.map D.int).length) : ∃ i, atI (ns.map D.int) r = some (.int i) := by
  obtain ⟨d, h, hm⟩ := atI_mem h0 h1
  obtain ⟨i, _, e⟩ := List.mem_map.mp hm
  exact ⟨i, by rw [h, e]⟩
theorem erase_perm {α : Type} : ∀ {xs : List α} {i : Nat} {y : α}, xs[i]? = some y → (y :: xs.eraseIdx i).Perm xs
  | [], _, _, h => by simp at h
  | x :: xs, 0, y, h => by
    simp at h
    subst h
    exact List.Perm.refl _
  | x :: xs, i + 1, y, h => by
    have ih := erase_perm (xs := xs) (i := i) (y := y) (by simpa using h)
    exact (List.Perm.swap x y _).trans (ih.cons x)
theorem pop_some {a b c e : Sl} : ∀ (ds xs : List D) (Q : List D → Prop), ds.length ≤ xs.length → xs.length < 1000000 → (∀ ys zs, (ys ++ zs).Perm xs → ys.length = ds.length → Q ys) →
    popD (Tg.one 4) 3 (dCall f_roll 2 (dCons (dVar 0) (dCons (dLenO 3) dNil))) [Sl.d .tok, a, b, c, e] [4] ds xs Q
  | [], xs, Q, _, _, h => h [] xs (List.Perm.refl _) rfl
  | d :: ds, xs, Q, hl, hz, h => by
    have hl' : ds.length + 1 ≤ xs.length := hl
    refine ⟨[Sl.d .tok, a, b, .own xs, .d d], rfl, rfl, rfl, ⟨by omega, by omega⟩, fun r h0 h1 => ?_⟩
    have hr : r.toNat < xs.length := by omega
    have hg : xs[r.toNat]? = some xs[r.toNat] := by simp [hr]
    have el : (xs.eraseIdx r.toNat).length = xs.length - 1 := by simp [List.length_eraseIdx, hr]
    refine ⟨xs[r.toNat], ⟨h0, h1, by omega⟩, hg, pop_some ds _ _ (by omega) (by omega) fun ys zs hp hn => ?_⟩
    refine h (xs[r.toNat] :: ys) zs ?_ (by rw [List.length_cons, hn]; rfl)
    exact (hp.cons _).trans (erase_perm hg)
/-! ### comprehensions in pure words -/
theorem lcD_fm {body : D → (Option D → Prop) → Prop} (F : D → Option D) : ∀ (ds : List D) (Q : List D → Prop), (∀ d ∈ ds, ∀ k : Option D → Prop, k (F d) → body d k) → Q (ds.filterMap F) → lcD body ds Q
  | [], Q, _, h => h
  | d :: ds, Q, hb, h => by
    refine hb d List.mem_cons_self _ ?_
    refine lcD_fm F ds _ (fun e he => hb e (List.mem_cons_of_mem _ he)) ?_
    rw [List.filterMap_cons] at h
    cases q : F d with
    | none =>
      rw [q] at h
      exact h
    | some r =>
      rw [q] at h
      exact h
theorem lcD_map {body : D → (Option D → Prop) → Prop} (F : D → D) (ds : List D) (Q : List D → Prop) (hb : ∀ d ∈ ds, ∀ k : Option D → Prop, k (some (F d)) → body d k) (h : Q (ds.map F)) : lcD body ds Q := by
  refine lcD_fm (fun d => some (F d)) ds Q hb ?_
  rw [List.filterMap_eq_map']
  exact h
/-- each element is one of those that R lets -/
theorem lcD_any {body : D → (Option D → Prop) → Prop} (R : D → Prop) : ∀ (ds : List D) (Q : List D → Prop), (∀ d ∈ ds, ∀ k : Option D → Prop, (∀ r, R r → k (some r)) → body d k) → (∀ rs, rs.length = ds.length → (∀ r ∈ rs, R r) → Q rs) → lcD body ds Q
  | [], Q, _, h => h [] rfl (by simp)
  | d :: ds, Q, hb, h => by
    refine hb d List.mem_cons_self _ fun r hr => ?_
    refine lcD_any R ds _ (fun e he => hb e (List.mem_cons_of_mem _ he)) fun rs hl hrs => ?_
    refine h (r :: rs) (by simp [hl]) fun x hx => ?_
    rcases List.mem_cons.mp hx with q | q
    · rw [q]
      exact hr
    · exact hrs x q
/-- a loop by what holds between its turns -/
theorem forD_inv {T : Tg} {f : DTS} {N : Nd} (I : Env → Prop) : ∀ (ds : List D) (ρ : Env), I ρ → (∀ d ∈ ds, ∀ (ρ : Env) (K : Env → Prop), I ρ → (∀ ρ', I ρ' → K ρ') → ∃ ρ1, T.put d ρ = some ρ1 ∧ f { N with nx := K, ct := K, bk := N.nx } ρ1) → (∀ ρ, I ρ → N.nx ρ) → forD T f N ds ρ
  | [], ρ, h, _, he => he ρ h
  | d :: ds, ρ, h, hs, he => hs d List.mem_cons_self ρ _ h fun ρ' h' => forD_inv I ds ρ' h' (fun e h2 => hs e (List.mem_cons_of_mem _ h2)) he
/-- one statement, then the others, by what holds between them -/
theorem seq_by {f g : DTS} {N : Nd} {ρ : Env} (I : Env → Prop) (h1 : ∀ nx : Env → Prop, (∀ ρ', I ρ' → nx ρ') → f { N with nx := nx } ρ) (h2 : ∀ ρ', I ρ' → g N ρ') : dSeq f g N ρ := h1 _ h2
/-- how many spots a law looks at -/
theorem spots (n : Nat) : 1 ≤ (if (if (n : Int) < 8 then (n : Int) else 8) > 1 then (if (n : Int) < 8 then (n : Int) else 8) else 1) ∧ (if (if (n : Int) < 8 then (n : Int) else 8) > 1 then (if (n : Int) < 8 then (n : Int) else 8) else 1) ≤ 8 := by
  split <;> split <;> omega
theorem mem_range {lo : Int} {n : Nat} {d : D} (h : d ∈ rangeD lo n) : ∃ j : Nat, d = .int (lo + j) ∧ j < n := by
  unfold rangeD at h
  obtain ⟨j, hj, e⟩ := List.mem_map.mp h
  exact ⟨j, e.symm, List.mem_range.mp hj⟩
theorem eq_same (x : Str) {Q : D → Prop} (h : Q (.bl true)) : rdEq (.str x) (.str x) Q := by
  have e : eqS (.str x) (.str x) = some true := by simp [eqS]
  unfold rdEq
  rw [e]
  exact h
theorem ne_same (x : Str) {Q : D → Prop} (h : Q (.bl false)) : rdNe (.str x) (.str x) Q := by
  have e : eqS (.str x) (.str x) = some true := by simp [eqS]
  unfold rdNe
  rw [e]
  exact h
/-! ### texts -/
theorem str_app (a b : Str) : (a ++ b).cps.toList = a.cps.toList ++ b.cps.toList := by
  show (a.cps ++ b.cps).toList = _
  simp
theorem str_len (a : Str) : a.length = a.cps.toList.length := by
  show a.cps.size = _
  simp
theorem join_empty : ∀ ys : List Str, (Str.join ⟨#[]⟩ ys).cps.toList = (ys.map (·.cps.toList)).flatten
  | [] => rfl
  | [x] => by simp [Str.join]
  | x :: y :: r => by
    have ih := join_empty (y :: r)
    show ((x ++ ⟨#[]⟩) ++ Str.join ⟨#[]⟩ (y :: r)).cps.toList = _
    rw [str_app, str_app, ih]
    simp
theorem txt_join (x : Str) (l : List Str) : Txt.join x l = Str.join x l := by
  show Builtin.Str.glued x l = _
  rw [StrLaws.glued_eq_join]
theorem toPys_strs : ∀ ss : List Str, toPys (ss.map D.str) = some (ss.map PyData.str)
  | [] => rfl
  | s :: r => by
    show (match toPy (.str s), toPys (r.map D.str) with | some p, some ps => some (p :: ps) | _, _ => none) = _
    rw [toPys_strs r]
    rfl
theorem toPys_bls : ∀ ss : List Bool, toPys (ss.map D.bl) = some (ss.map PyData.bool)
  | [] => rfl
  | s :: r => by
    show (match toPy (.bl s), toPys (r.map D.bl) with | some p, some ps => some (p :: ps) | _, _ => none) = _
    rw [toPys_bls r]
    rfl
theorem shaped_strs {ss : List Str} (h : ∀ s ∈ ss, ∀ c ∈ s.cps.toList, c < 1114112) : SeqAt.shaped (.list (ss.map PyData.str)) = true := by
  unfold SeqAt.shaped
  rw [Bool.and_eq_true]
  constructor
  · show PyData.canLayAll0 (ss.map PyData.str) = true
    induction ss with
    | nil => rfl
    | cons s r ih =>
      show (PyData.canLay0 (.str s) && PyData.canLayAll0 (r.map PyData.str)) = true
      rw [Bool.and_eq_true]
      refine ⟨?_, ih fun x hx => h x (List.mem_cons_of_mem _ hx)⟩
      show (s.cps.all (· < 0x110000)) = true
      rw [Array.all_eq_true']
      intro c hc
      exact decide_eq_true (h s List.mem_cons_self c (by simpa using hc))
  · apply decide_eq_true
    have e : PyData.depthAll (ss.map PyData.str) = 0 := by
      clear h
      induction ss with
      | nil => rfl
      | cons s r ih =>
        show max 0 (PyData.depthAll (r.map PyData.str)) = 0
        rw [ih]
        rfl
    show PyData.depthAll (ss.map PyData.str) + 1 ≤ 64
    rw [e]
    decide
theorem eqv_nil (ps : List PyData) : PyData.eqv (.list ps) (.list []) = ps.isEmpty := by
  cases ps <;> rfl
/-! ### values of the judged kinds -/
def okStr (z : Str) : Prop := z.length ≤ 1000 ∧ ∀ c ∈ z.cps.toList, c < 1114112
def okV : D → Prop
  | .fz _ => False
  | .ins _ _ => False
  | .cl _ => False
  | .fn _ _ => False
  | .str z => okStr z
  | _ => True
def isStr : D → Bool
  | .str _ => true
  | _ => false
theorem isi_str {d : D} (h : okV d) : ∃ n, tyName d = some n ∧ kitB n "str" = some (isStr d) := by
  cases d with
  | fz _ => exact h.elim
  | cl _ => exact h.elim
  | fn _ _ => exact h.elim
  | ins _ _ => exact h.elim
  | non => exact ⟨_, rfl, by decide +kernel⟩
  | bl _ => exact ⟨_, rfl, by show kitB "bool" "str" = some false; decide +kernel⟩
  | int _ => exact ⟨_, rfl, by show kitB "int" "str" = some false; decide +kernel⟩
  | str _ => exact ⟨_, rfl, by show kitB "str" "str" = some true; decide +kernel⟩
  | tup _ => exact ⟨_, rfl, by show kitB "tuple" "str" = some false; decide +kernel⟩
  | lst _ => exact ⟨_, rfl, by show kitB "list" "str" = some false; decide +kernel⟩
  | dct _ => exact ⟨_, rfl, by show kitB "dict" "str" = some false; decide +kernel⟩
  | tok => exact ⟨_, rfl, by decide +kernel⟩
def okB : D → Bool
  | .fz _ => false
  | .ins _ _ => false
  | .cl _ => false
  | .fn _ _ => false
  | .str z => decide (z.length ≤ 1000) && z.cps.toList.all fun c => decide (c < 1114112)
  | _ => true
theorem okStr_of {z : Str} (h : (decide (z.length ≤ 1000) && z.cps.toList.all fun c => decide (c < 1114112)) = true) : okStr z := by
  rw [Bool.and_eq_true] at h
  exact ⟨of_decide_eq_true h.1, fun c hc => of_decide_eq_true (List.all_eq_true.mp h.2 c hc)⟩
theorem okV_of {d : D} (h : okB d = true) : okV d := by
  cases d with
  | fz _ => cases h
  | ins _ _ => cases h
  | cl _ => cases h
  | fn _ _ => cases h
  | str z => exact okStr_of h
  | _ => exact True.intro
theorem okV_all {xs : List D} (h : xs.all okB = true) {d : D} (hd : d ∈ xs) : okV d := okV_of (List.all_eq_true.mp h d hd)
/-- a text of the list -/
def okW : D → Bool
  | .str z => decide (z.length ≤ 1000) && z.cps.toList.all fun c => decide (c < 1114112)
  | _ => false
theorem okW_all {xs : List D} (h : xs.all okW = true) {d : D} (hd : d ∈ xs) : ∃ z, d = .str z ∧ okStr z := by
  have k := List.all_eq_true.mp h d hd
  cases d with
  | str z => exact ⟨z, rfl, okStr_of k⟩
  | _ => cases k
theorem okStr_app {a b : Str} (ha : okStr a) (hb : okStr b) (h : a.length + b.length ≤ 1000) : okStr (a ++ b) := by
  constructor
  · rw [str_len, str_app, List.length_append, ← str_len, ← str_len]
    exact h
  · intro c hc
    rw [str_app] at hc
    rcases List.mem_append.mp hc with q | q
    · exact ha.2 c q
    · exact hb.2 c q
/-- single signs -/
theorem ones_of {cs : List Nat} : ∀ {ss : List D}, (∀ d ∈ ss, ∃ c ∈ cs, d = .str ⟨#[c]⟩) → ∃ bs : List Nat, ss = bs.map (fun c => D.str ⟨#[c]⟩) ∧ ∀ c ∈ bs, c ∈ cs
  | [], _ => ⟨[], rfl, by simp⟩
  | d :: r, h => by
    obtain ⟨c, hc, e⟩ := h d List.mem_cons_self
    obtain ⟨bs, e2, hb⟩ := ones_of (ss := r) fun x hx => h x (List.mem_cons_of_mem _ hx)
    refine ⟨c :: bs, by rw [e, e2]; rfl, fun x hx => ?_⟩
    rcases List.mem_cons.mp hx with q | q
    · rw [q]
      exact hc
    · exact hb x q
theorem strsD_ones (bs : List Nat) : strsD (bs.map fun c => D.str ⟨#[c]⟩) = some (bs.map fun c => (⟨#[c]⟩ : Str)) := by
  have e := strsD_map (bs.map fun c => (⟨#[c]⟩ : Str))
  rw [List.map_map] at e
  exact e
theorem join_ones (bs : List Nat) : (Txt.join ⟨#[]⟩ (bs.map fun c => (⟨#[c]⟩ : Str))).cps.toList = bs := by
  rw [txt_join, join_empty, List.map_map]
  induction bs with
  | nil => rfl
  | cons c r ih =>
    rw [List.map_cons, List.flatten_cons, ih]
    rfl
theorem ones_sum (bs : List Nat) : ((bs.map fun c => (⟨#[c]⟩ : Str)).map (·.length)).sum = bs.length := by
  induction bs with
  | nil => rfl
  | cons c r ih =>
    rw [List.map_cons, List.map_cons, List.sum_cons, ih, List.length_cons]
    show 1 + r.length = _
    omega
theorem repr_bl (b : Bool) {Q : D → Prop} (h : Q (.str (if b then "True" else "False"))) : rdRepr [.bl b] Q := by
  refine ⟨.bool b, rfl, rfl, rfl, Nat.zero_le _, ?_, h⟩
  cases b <;> decide
instance (a n : Int) : Decidable (CPowW a n) := by
  unfold CPowW
  exact inferInstance
theorem cmulL {i j : Int} (h : -(2 ^ 64) < i ∧ i < 2 ^ 64) : CMul i j := .inl h
theorem cmulR {i j : Int} (h : -(2 ^ 64) < j ∧ j < 2 ^ 64) : CMul i j := .inr h
end FP

/-! FP9: slices, two names at once, lists joined as one's own. -/
namespace FP
open PySem L2
variable [Tabl]
section
variable {ι : Type} {Xs : ι → Cx} {mg : Gm} {Wx : WX} {pos : Pos}
abbrev DTO := FP.Env → M (Option Int)
def CpP (mg : Gm) (Wx : WX) (t : TO) (f : DTO) : Prop := ∀ B ρ Q E, f ρ Q E → ∀ W σ H Q', Holds W H → EnvR mg B W H σ ρ → ExR mg Wx W H σ E → (∀ W' H' o, Step W H W' H' → Q o → Q' o H') → t σ H Q'
def DP (Xs : ι → Cx) (mg : Gm) (Wx : WX) (e : Option Expr) (f : DTO) : Prop := ∃ t, (∀ i, PO (Xs i) e t) ∧ CpP mg Wx t f
abbrev dONone : DTO := fun _ Q _ => Q none
abbrev dOSome (f : DTE) : DTO := fun ρ Q E => f ρ (fun x => match x with
  | .int i => Q (some i)
  | _ => False) E
theorem do_none : DP Xs mg Wx none dONone := ⟨_, fun _ => po_none, fun B ρ Q E hf W σ H Q' hh e x q => q W H none (Step.refl hh) hf⟩
theorem do_some {e : Expr} {f : DTE} (h : DE Xs mg Wx e f) : DP Xs mg Wx (some e) (dOSome f) := by
  obtain ⟨t, h1, h2⟩ := h
  refine ⟨_, fun i => po_some (h1 i), fun B ρ Q E hf W σ H Q' hh e x q => h2 B ρ _ E hf W σ H _ hh e x fun W1 H1 v d s1 r1 k1 => ?_⟩
  cases r1 with
  | int i => exact ⟨i, rfl, q W1 H1 _ s1 k1⟩
  | _ => exact k1.elim
def cutD (xs : List D) (lo hi : Option Int) : List D := (xs.drop (HT.sIx xs.length 0 lo)).take (HT.sIx xs.length xs.length hi - HT.sIx xs.length 0 lo)
theorem Reps.cut {W : Wd} {vs : List V} {ds : List D} (r : Reps mg W vs ds) (lo hi : Option Int) : Reps mg W (cutV vs lo hi) (cutD ds lo hi) := by
  unfold cutV cutD
  rw [r.length]
  exact (r.drop _).take _
def rdSl (x : D) (lo hi : Option Int) (Q : D → Prop) : Prop := match x with
  | .str z => z.length ≤ sizeLine ∧ Q (.str (cutS z lo hi))
  | .lst xs => Q (.lst (cutD xs lo hi))
  | .tup xs => Q (.tup (cutD xs lo hi))
  | _ => False
abbrev dSl (f : DTE) (l u : DTO) : DTE := fun ρ Q E => f ρ (fun x => l ρ (fun lo => u ρ (fun hi => rdSl x lo hi Q) E) E) E
theorem sl_listK {X : Cx} {K : PySem.W.Frag} (h : X.K = K) : L2.SlR X (rSlL K) := by
  subst h
  exact sl_list
theorem sl_tupK {X : Cx} {K : PySem.W.Frag} (h : X.K = K) : L2.SlR X (rSlA K) := by
  subst h
  exact sl_tupA
theorem de_slice {e : Expr} {lo hi : Option Expr} {f : DTE} {l u : DTO} {p2 : Pos} (h : DE Xs mg Wx e f) (hl : DP Xs mg Wx lo l) (hu : DP Xs mg Wx hi u) (hK : ∀ j, (Xs j).K = mg.K := by intro _; rfl) : DE Xs mg Wx (.Subscript e (.Slice lo hi none p2) pos) (dSl f l u) := by
  obtain ⟨t, h1, h2⟩ := h
  obtain ⟨tl, l1, l2⟩ := hl
  obtain ⟨tu, u1, u2⟩ := hu
  refine ⟨_, fun j => pe_slice (L2.SlR.or (sl_listK (hK j)) (L2.SlR.or sl_str (sl_tupK (hK j)))) (h1 j) (l1 j) (u1 j), fun B ρ Q E hf W σ H Q' hh e x q => ?_⟩
  refine h2 B ρ _ E hf W σ H _ hh e x fun W1 H1 v d s1 r1 k1 => ?_
  refine l2 B ρ _ E k1 W1 σ H1 _ s1.holds (e.step s1) (x.step s1) fun W2 H2 o1 s2 k2 => ?_
  have s12 := s1.trans s2
  refine u2 B ρ _ E k2 W2 σ H2 _ s2.holds (e.step s12) (x.step s12) fun W3 H3 o2 s3 k3 => ?_
  have s13 := s12.trans s3
  have r3 := (r1.mono s2.le).mono s3.le
  have q3 : ToV mg W3 H3 Q Q' := ToV.step q s13
  cases r3 with
  | str z => exact .inr (.inl ⟨z, rfl, k3.1, q3 W3 H3 _ _ (Step.refl s3.holds) (.str _) k3.2⟩)
  | lst ha ra => exact .inl ⟨_, _, rfl, SqL.of (s3.holds.same _ _ ha), to_lst q3 s3.holds (ra.cut o1 o2) k3⟩
  | @tup a vs ds ha ra =>
    refine .inr (.inr ⟨_, _, rfl, SqT.of (s3.holds.same _ _ ha), fun hw => ?_, fun _ => to_tup q3 s3.holds (ra.cut o1 o2) k3⟩)
    have k4 : Q (.tup (cutD ds o1 o2)) := k3
    have e4 : cutD ds o1 o2 = ds := by
      unfold cutD
      rw [← ra.length, hw.1, hw.2, List.drop_zero, Nat.sub_zero, ra.length, List.take_length]
    rw [e4] at k4
    exact q3 W3 H3 _ _ (Step.refl s3.holds) (.tup ha ra) k4
  | _ => exact k3.elim
/-- a, b = e1, e2 -/
abbrev dPar (i j : Nat) (g : DTA) : DTS := fun N ρ => g ρ (fun ds => match ds with
  | [x, y] => N.nx ((ρ.set i (.d x)).set j (.d y))
  | _ => False) (fun x => N.rs x ρ)
theorem ds_par {i j : Nat} {x y : Str} {a b : Expr} {g : DTA} {px py pt : Pos} {kt k2 : Nat} {pt2 : Pos} (h : DA Xs mg Wx [a, b] g) (hN : ∀ l, (Xs l).N.Nodup)
    (hw : ∀ l, swappedStores [.Tuple [.Name x px, .Name y py] kt pt] (.Tuple [a, b] k2 pt2) (Xs l).env = pure (some [x, y]) := by intro _; rfl) (hij : i ≠ j := by decide) (hi : ∀ l, (Xs l).N[i]? = some x := by intro _; rfl) (hj : ∀ l, (Xs l).N[j]? = some y := by intro _; rfl)
    (hx : ∀ l, (Xs l).env.scope.names.lookup x = some .local := by intro _; rfl) (hy : ∀ l, (Xs l).env.scope.names.lookup y = some .local := by intro _; rfl) (hc : ∀ l, (Xs l).calm = true := by intro _; rfl)
    (hs : ∀ l, swapsWithSole [.Tuple [.Name x px, .Name y py] kt pt] (.Tuple [a, b] k2 pt2) pos.line (Xs l).env = pure false := by intro _; rfl) : DS Xs mg Wx (.Assign [.Tuple [.Name x px, .Name y py] kt pt] (.Tuple [a, b] k2 pt2) pos) (dPar i j g) := by
  obtain ⟨t, h1, h2⟩ := h
  refine ⟨_, fun l => ps_par (i := i) (j := j) (hc l) (hN l) (hi l) (hj l) hij (hx l) (hy l) (h1 l) (hw l) (hs l), fun W0 B N ρ hf W σ H Ds s e n => ?_⟩
  refine h2 B ρ _ _ hf W σ H _ s.holds e (n.ex s e) fun W1 H1 vs ds s1 r1 k1 => ?_
  split at k1
  · cases r1 with
    | cons r rs =>
      cases rs with
      | cons r2 rs =>
        cases rs
        exact ⟨_, _, rfl, n.nx W1 H1 _ _ (s.trans s1) (((e.step s1).set r).set r2) k1⟩
  · exact k1.elim
/-- xs + ys as a list of one's own -/
abbrev dCatO (fa fb : DTE) : DTA := fun ρ Q E => fa ρ (fun x => fb ρ (fun y => match x, y with
  | .lst xs, .lst ys => xs.length + ys.length ≤ sizeLine ∧ Q (xs ++ ys)
  | _, _ => False) E) E
theorem do_cat {a b : Expr} {fa fb : DTE} (ha : DE Xs mg Wx a fa) (hb : DE Xs mg Wx b fb) : DO Xs mg Wx (.BinOp a .Add b pos) (dCatO fa fb) := by
  obtain ⟨ta, a1, a2⟩ := ha
  obtain ⟨tb, b1, b2⟩ := hb
  refine ⟨_, fun i => pe_op op_cat (a1 i) (b1 i), fun B ρ Q E h W σ H Q' hh e x q => ?_⟩
  refine a2 B ρ _ E h W σ H _ hh e x fun W1 H1 v1 d1 s1 r1 h1 => ?_
  refine b2 B ρ _ E h1 W1 σ H1 _ s1.holds (e.step s1) (x.step s1) fun W2 H2 v2 d2 s2 r2 h2 => ?_
  have r1' := r1.mono s2.le
  dsimp only at h2
  split at h2
  · cases r1' with
    | lst ha ra =>
      cases r2 with
      | lst hb rb => exact ⟨_, _, _, _, rfl, rfl, s2.holds.same _ _ ha, s2.holds.same _ _ hb, by rw [ra.length, rb.length]; exact h2.1, fun p hp => q W2 H2 p _ _ (s1.trans s2) hp (ra.append rb) h2.2⟩
  · exact h2.elim
end
/-! ### pure words -/
theorem lc_in (al z : Str) {Q : List D → Prop} (h : Q (z.cps.toList.map fun c => .bl (decide (c ∈ al.cps.toList)))) :
    lcD (fun d k => match inD d (.str al) with | some b => k (some (.bl b)) | none => False) (signsD z) Q := by
  refine lcD_map (fun d => match inD d (.str al) with | some b => .bl b | none => .non) _ _ (fun d hd k hk => ?_) ?_
  · obtain ⟨c, _, rfl⟩ := List.mem_map.mp hd
    exact hk
  · unfold signsD
    rw [List.map_map]
    exact h
theorem blsD_fn {α : Type} (f : α → Bool) (cs : List α) : blsD (cs.map fun c => D.bl (f c)) = some (cs.map f) := by
  have e := blsD_map (cs.map f)
  rw [List.map_map] at e
  exact e
theorem signs_ok {z : Str} (h : okStr z) : (signsD z).length ≤ sizeLine := by
  rw [signsD_len]
  exact Nat.le_trans h.1 (by decide)
theorem len_ok {z : Str} (h : okStr z) : z.length ≤ sizeLine := Nat.le_trans h.1 (by decide)
theorem kit_ss : kitB "str" "str" = some true := by decide +kernel
def isIntT : D → Bool
  | .int _ => true
  | .bl _ => true
  | _ => false
def isBlT : D → Bool
  | .bl _ => true
  | _ => false
theorem isi_ty {d : D} (h : okV d) : ∃ n, tyName d = some n ∧ kitB n "int" = some (isIntT d) ∧ kitB n "bool" = some (isBlT d) := by
  cases d with
  | fz _ => exact h.elim
  | ins _ _ => exact h.elim
  | cl _ => exact h.elim
  | fn _ _ => exact h.elim
  | non => exact ⟨_, rfl, by show kitB "NoneType" "int" = some false; decide +kernel, by show kitB "NoneType" "bool" = some false; decide +kernel⟩
  | bl _ => exact ⟨_, rfl, by show kitB "bool" "int" = some true; decide +kernel, by show kitB "bool" "bool" = some true; decide +kernel⟩
  | int _ => exact ⟨_, rfl, by show kitB "int" "int" = some true; decide +kernel, by show kitB "int" "bool" = some false; decide +kernel⟩
  | str _ => exact ⟨_, rfl, by show kitB "str" "int" = some false; decide +kernel, by show kitB "str" "bool" = some false; decide +kernel⟩
  | tup _ => exact ⟨_, rfl, by show kitB "tuple" "int" = some false; decide +kernel, by show kitB "tuple" "bool" = some false; decide +kernel⟩
  | lst _ => exact ⟨_, rfl, by show kitB "list" "int" = some false; decide +kernel, by show kitB "list" "bool" = some false; decide +kernel⟩
  | dct _ => exact ⟨_, rfl, by show kitB "dict" "int" = some false; decide +kernel, by show kitB "dict" "bool" = some false; decide +kernel⟩
  | tok => exact ⟨_, rfl, by show kitB "list" "int" = some false; decide +kernel, by show kitB "list" "bool" = some false; decide +kernel⟩
def digL : List Nat := ("0123456789" : Str).cps.toList
theorem dig1 : ∀ a ∈ digL, PySem.intText? ⟨#[a]⟩ = some ((a : Int) - 48) ∧ (Str.ofString (toString ((a : Int) - 48))) = ⟨#[a]⟩ := by decide +kernel
theorem dig2 : ∀ a ∈ digL, ∀ b ∈ digL, PySem.intText? ⟨#[a, b]⟩ = some (((a : Int) - 48) * 10 + ((b : Int) - 48)) ∧ decide ((Str.ofString (toString (((a : Int) - 48) * 10 + ((b : Int) - 48)))) = ⟨#[a, b]⟩) = decide (a ≠ 48) := by decide +kernel
theorem dig_small : ∀ a ∈ digL, 48 ≤ a ∧ a < 58 := by decide
theorem log_small {n : Int} (h0 : 0 ≤ n) (h1 : n < 1000) : n.natAbs.log2 < 1920 := by
  refine Nat.lt_of_le_of_lt (Nat.log2_le_self _) ?_
  omega
theorem in23 (n : Int) : inD (.int n) (.tup [.int 2, .int 3]) = some (decide (n = 2 ∨ n = 3)) := by
  show some (((2 : Int) == n) || (((3 : Int) == n) || false)) = _
  congr 1
  by_cases h2 : n = 2
  · subst h2
    rfl
  · by_cases h3 : n = 3
    · subst h3
      rfl
    · rw [decide_eq_false (by omega), beq_eq_false_iff_ne.mpr (Ne.symm h2), beq_eq_false_iff_ne.mpr (Ne.symm h3)]
      rfl
theorem notIn23 (n : Int) {Q : D → Prop} (h1 : ¬ (n = 2 ∨ n = 3) → Q (.bl true)) (h2 : (n = 2 ∨ n = 3) → Q (.bl false)) : rdNotIn (.int n) (.tup [.int 2, .int 3]) Q := by
  unfold rdNotIn
  rw [in23]
  by_cases h : n = 2 ∨ n = 3
  · rw [decide_eq_true h]
    exact h2 h
  · rw [decide_eq_false h]
    exact h1 h
/-- a text of two or three signs -/
theorem str23 {z : Str} (h : (z.length : Int) = 2 ∨ (z.length : Int) = 3) : (∃ x a, z = ⟨#[x, a]⟩) ∨ ∃ x a b, z = ⟨#[x, a, b]⟩ := by
  have key : ∀ l : List Nat, z.cps.toList = l → z = ⟨l.toArray⟩ := fun l e => by
    cases z with
    | mk cps =>
      have e2 : cps = l.toArray := by
        apply Array.ext'
        simpa using e
      rw [e2]
  rw [str_len] at h
  match hz : z.cps.toList with
  | [] =>
    rw [hz] at h
    simp at h
  | [x] =>
    rw [hz] at h
    simp at h
  | [x, a] => exact .inl ⟨x, a, key _ hz⟩
  | [x, a, b] => exact .inr ⟨x, a, b, key _ hz⟩
  | x :: a :: b :: c :: r =>
    rw [hz] at h
    simp at h
    omega
/-- a loop by what holds at each turn -/
theorem forD_n {T : Tg} {f : DTS} {N : Nd} (I : Nat → FP.Env → Prop) : ∀ (ds : List D) (n : Nat) (ρ : FP.Env), I n ρ → (∀ (k : Nat) (d : D), ds[k]? = some d → ∀ (ρ : FP.Env) (K : FP.Env → Prop), I (n + k) ρ → (∀ ρ', I (n + k + 1) ρ' → K ρ') → ∃ ρ1, T.put d ρ = some ρ1 ∧ f { N with nx := K, ct := K, bk := N.nx } ρ1) → (∀ ρ, I (n + ds.length) ρ → N.nx ρ) → forD T f N ds ρ
  | [], n, ρ, h, _, he => he ρ h
  | d :: ds, n, ρ, h, hs, he => by
    refine hs 0 d rfl ρ _ h fun ρ' h' => forD_n I ds (n + 1) ρ' h' (fun k e hk ρ K hI hK => ?_) fun ρ hI => he ρ ?_
    · refine hs (k + 1) e (by simpa using hk) ρ K ?_ fun ρ' h' => hK ρ' ?_
      · rw [← Nat.add_assoc, Nat.add_right_comm]
        exact hI
      · rw [Nat.add_right_comm n 1 k]
        exact h'
    · rw [List.length_cons, ← Nat.add_assoc, Nat.add_right_comm]
      exact hI
theorem line {n : Nat} (h : Nat.ble n 16777216 = true) : n ≤ sizeLine := Nat.le_of_ble_eq_true h
theorem repr_2 (a b : Bool) {Q : D → Prop} (h : Q (.str (PyData.shown (.list [.bool a, .bool b])))) : rdRepr [.lst [.bl a, .bl b]] Q := by
  refine ⟨.list [.bool a, .bool b], rfl, rfl, rfl, by show 1 ≤ 60; decide, ?_, h⟩
  cases a <;> cases b <;> decide +kernel
theorem ne_deep {x y : D} {p q : PyData} {Q : D → Prop} (hx : toPy x = some p) (hy : toPy y = some q) (hn : eqS x y = none) (sp : SeqAt.shaped p = true) (sq : SeqAt.shaped q = true) (e : PyData.eqv p q = true) (h : Q (.bl false)) : rdNe x y Q := by
  unfold rdNe
  rw [hn]
  refine ⟨p, q, hx, hy, sp, sq, ?_⟩
  rw [e]
  exact h
theorem eq_deep {x y : D} {p q : PyData} {Q : D → Prop} (hx : toPy x = some p) (hy : toPy y = some q) (hn : eqS x y = none) (sp : SeqAt.shaped p = true) (sq : SeqAt.shaped q = true) (e : PyData.eqv p q = true) (h : Q (.bl true)) : rdEq x y Q := by
  unfold rdEq
  rw [hn]
  refine ⟨p, q, hx, hy, sp, sq, ?_⟩
  rw [e]
  exact h
/-- x and a number from 0 to 99 -/
def levelS (z : Str) : Option Int := match z.cps.toList with
  | [x, a] => if x = 120 ∧ a ∈ digL then some ((a : Int) - 48) else none
  | [x, a, b] => if x = 120 ∧ a ∈ digL ∧ b ∈ digL ∧ a ≠ 48 then some (((a : Int) - 48) * 10 + ((b : Int) - 48)) else none
  | _ => none
theorem levelS_bad {z : Str} (h : ¬ ((z.length : Int) = 2 ∨ (z.length : Int) = 3)) : levelS z = none := by
  rw [str_len] at h
  unfold levelS
  split
  · rename_i x a e
    rw [e] at h
    exact absurd (.inl rfl) h
  · rename_i x a b e
    rw [e] at h
    exact absurd (.inr rfl) h
  · rfl
def ofO : Option Int → D
  | some n => .int n
  | none => .non
def levelD : D → D
  | .str z => ofO (levelS z)
  | _ => .non
def f_level : List D → M D := fun ds Q _ => match ds with
  | [d] => okV d ∧ Q (levelD d)
  | _ => False
theorem ne_x (x : Nat) {Q : D → Prop} (h1 : x ≠ 120 → Q (.bl true)) (h2 : x = 120 → Q (.bl false)) : rdNe (.str ⟨#[x]⟩) (.str "x") Q := by
  have e : eqS (.str ⟨#[x]⟩) (.str "x") = some (decide ((⟨#[x]⟩ : Str) = "x")) := rfl
  unfold rdNe
  rw [e]
  by_cases hx : x = 120
  · subst hx
    exact h2 rfl
  · have e2 : decide ((⟨#[x]⟩ : Str) = "x") = false := decide_eq_false fun q => by
      have q2 : (⟨#[x]⟩ : Str).cps.toList = ("x" : Str).cps.toList := by rw [q]
      have q3 : [x] = [120] := q2
      exact hx (List.cons.inj q3).1
    rw [e2]
    exact h1 hx
end FP

/-! FP10: classes of one's own: fields, making, methods, properties, isinstance. -/
namespace FP
open PySem L2
variable [Tabl]
/-- a callee's run at any place whose frames are those of the caller -/
theorem callAt {X : Cx} {k : Nat} {f : Addr} {fd : FuncData} {ps : List Str} {sp : Sp} {Ex : XK} {pins : List (Addr × Obj)} {σ : St} {H : Hp} {z : Shared} {Q : VK} {us : List Value} {vs : List V} (F : FnG X.prog X.w X.K X.mg X.base k f fd ps sp) {A' : Around} (m : RmG k A') (hA : A'.frames = X.A.frames)
    (hb : Binds X.K fd ps []) (hx : PassesAt (L2.CX X.prog X.w) X σ Ex) (I : Inv X pins σ H z) (rv : Vals vs us) (h : sp vs H Q Ex) : wpAny (model X.prog X.w) A' (call (.ref f) us) (EP X pins σ Q) X.xe z := by
  have hl : (us ++ []).length = ps.length := by
    rw [List.append_nil, ← rv.length]
    exact F.ln _ _ _ _ h
  have bd := hb z us I.kIn hl
  rw [List.append_nil] at bd
  have e0 := I.env0
  have cd := F.go A' X.stack z H ⟨us, []⟩ us vs Q Ex m ⟨by rw [hA]; exact e0.frames, e0.mod, e0.bs, e0.bsz, e0.funs, e0.frf, e0.hok, e0.bare⟩ bd rv h
  refine wpAny_call (codeAny_mono cd ?_)
  intro res z' hq
  match res, hq with
  | .error e, hq => exact hx pins H z e z' I hq
  | .ok (.ret u), hq => exact I.after hq
  | .ok .next, hq => exact hq.elim
  | .ok .brk, hq => exact hq.elim
  | .ok .cont, hq => exact hq.elim
theorem RmG.in1 {k : Nat} {A : Around} (m : RmG (k + 1) A) : RmG k A.in1 := ⟨m.r.in1, m.g⟩
/-- a class of the text -/
structure ClsF (mg : Gm) (c : Str) (C : Addr) : Prop where
  nm : mg.mg c = some (.ref C)
  cl : Cls mg.K C
  ha : PySem.W.findIn mg.K (.ref C) "__class__" = some (some (.builtin "object.__class__"))
  hn : PySem.W.specialIn mg.K (.builtin "object.__class__") "__get__" = some (some (.builtin "getset_descriptor.__get__"))
  htk : PySem.W.takesIn mg.K (.builtin "object.__class__") = some true
  hm : PySem.W.mroIn mg.K C (.type "object") = some true
theorem ClsF.eq {mg : Gm} {c : Str} {C C' : Addr} (f : ClsF mg c C) (h : mg.mg c = some (.ref C')) : C' = C := by
  have e := h.symm.trans f.nm
  cases e
  rfl
section
variable {ι : Type} {Xs : ι → Cx} {mg : Gm} {Wx : WX} {pos : Pos}

/-! ### fields -/
theorem lookup_reps {W : Wd} : ∀ {vs : List (Str × V)} {ds : List (Str × D)} {f : Str} {d : D}, vs.map (·.1) = ds.map (·.1) → Reps mg W (vs.map (·.2)) (ds.map (·.2)) → ds.lookup f = some d → ∃ v, vs.lookup f = some v ∧ Rep mg W v d
  | [], [], _, _, _, _, h => by cases h
  | [], _ :: _, _, _, h, _, _ => by cases h
  | _ :: _, [], _, _, h, _, _ => by cases h
  | (a, v) :: vs, (b, e) :: ds, f, d, hk, hr, hl => by
    simp only [List.map_cons, List.cons.injEq] at hk
    obtain ⟨rfl, hk⟩ := hk
    cases hr with
    | cons r rs =>
      rw [List.lookup_cons] at hl ⊢
      split at hl
      · cases hl
        exact ⟨v, rfl, r⟩
      · exact lookup_reps hk rs hl
abbrev dFld (c f : Str) (g : DTE) : DTE := fun ρ Q E => g ρ (fun x => match x with
  | .ins c' fs => c' = c ∧ ∃ d, fs.lookup f = some d ∧ Q d
  | _ => False) E
theorem de_fld {c f : Str} {C : Addr} {e : Expr} {g : DTE} (F : ClsF mg c C) (na : NoAttr mg.K C f) (h : DE Xs mg Wx e g) (hK : ∀ j, (Xs j).K = mg.K := by intro _; rfl) (hb : ∀ j, attributeBase e f (Xs j).env (eval e (Xs j).env) = eval e (Xs j).env := by intro _; rfl) : DE Xs mg Wx (.Attribute e f pos) (dFld c f g) := by
  obtain ⟨t, h1, h2⟩ := h
  refine ⟨tFld mg.K t f, fun j => by
    have z := pe_fld (pos := pos) (h1 j) (hb j)
    rw [hK j] at z
    exact z, fun B ρ Q E hf W σ H Q' hh e x q => ?_⟩
  refine h2 B ρ _ E hf W σ H _ hh e x fun W1 H1 v d s1 r1 k1 => ?_
  cases r1 with
  | @ins a C' dx fs c' ds hc ha hk rs =>
    obtain ⟨rfl, d', hd, hq⟩ := k1
    have ec := F.eq hc
    subst ec
    obtain ⟨v', hv, rv⟩ := lookup_reps hk rs hd
    exact ⟨a, C', dx, fs, v', rfl, s1.holds.same _ _ ha, F.cl, na, hv, q W1 H1 v' d' s1 rv hq⟩
  | _ => exact k1.elim
/-- a field of an object that is being made -/
abbrev dFldO (i : Nat) (c f : Str) : DTE := fun ρ Q _ => match ρ[i]? with
  | some (.ob c' _ fs) => c' = c ∧ ∃ d, fs.lookup f = some d ∧ Q d
  | _ => False
theorem de_fldO (i : Nat) {c x f : Str} {C : Addr} {p : Pos} (F : ClsF mg c C) (na : NoAttr mg.K C f) (hK : ∀ j, (Xs j).K = mg.K := by intro _; rfl) (hN : ∀ j, (Xs j).N[i]? = some x := by intro _; rfl)
    (hv : ∀ j, Vis (Xs j).env.scope x := by intro _; first | exact Or.inl rfl | exact Or.inr (Or.inl rfl) | exact Or.inr (Or.inr rfl)) (hd : (x == ("__debug__" : Str)) = false := by decide) (hcd : (x == ("__classdict__" : Str)) = false := by decide)
    (hb : ∀ j, attributeBase (.Name x p) f (Xs j).env (eval (.Name x p) (Xs j).env) = eval (.Name x p) (Xs j).env := by intro _; rfl) : DE Xs mg Wx (.Attribute (.Name x p) f pos) (dFldO i c f) := by
  refine ⟨tFld mg.K (tVar i) f, fun j => by
    have z := pe_fld (pos := pos) (pe_var (i := i) (pos := p) (hN j) (hv j) hd hcd) (hb j)
    rw [hK j] at z
    exact z, fun B ρ Q E hf W σ H Q' hh e x q => ?_⟩
  unfold dFldO at hf
  split at hf
  · rename_i c' a fs hs
    obtain ⟨rfl, d, hd, hq⟩ := hf
    obtain ⟨o, h1, vs, h2, ⟨C', dx, hc, h3⟩, _, _, _, hk, rs⟩ := e.sl i _ hs
    subst h2
    have ec := F.eq hc
    subst ec
    obtain ⟨v', hv, rv⟩ := lookup_reps hk rs hd
    exact ⟨.ref a, h1, a, C', dx, vs, v', rfl, h3, F.cl, na, hv, q W H v' d (Step.refl hh) rv hq⟩
  · exact hf.elim
/-- an attribute put -/
def putD (f : Str) (d : D) : List (Str × D) → List (Str × D)
  | [] => [(f, d)]
  | (g, e) :: r => if g = f then (f, d) :: r else (g, e) :: putD f d r
theorem putF_reps {W : Wd} {f : Str} {v : V} {d : D} (r : Rep mg W v d) : ∀ {vs : List (Str × V)} {ds : List (Str × D)}, vs.map (·.1) = ds.map (·.1) → Reps mg W (vs.map (·.2)) (ds.map (·.2)) → (putF f v vs).map (·.1) = (putD f d ds).map (·.1) ∧ Reps mg W ((putF f v vs).map (·.2)) ((putD f d ds).map (·.2))
  | [], [], _, _ => ⟨rfl, .cons r .nil⟩
  | [], _ :: _, h, _ => by cases h
  | _ :: _, [], h, _ => by cases h
  | (a, w) :: vs, (b, e) :: ds, hk, hr => by
    simp only [List.map_cons, List.cons.injEq] at hk
    obtain ⟨rfl, hk⟩ := hk
    cases hr with
    | cons r1 rs =>
      unfold putF putD
      by_cases ha : a = f
      · rw [if_pos ha, if_pos ha]
        exact ⟨by simp [hk, ha], .cons r rs⟩
      · rw [if_neg ha, if_neg ha]
        obtain ⟨h1, h2⟩ := putF_reps r hk rs
        exact ⟨by simp [h1], .cons r1 h2⟩
abbrev dSetF (i : Nat) (c f : Str) (g : DTE) : DTS := fun N ρ => g ρ (fun d => match ρ[i]? with
  | some (.ob c' a fs) => c' = c ∧ fs.length < 1000 ∧ N.nx (ρ.set i (.ob c a (putD f d fs)))
  | _ => False) (fun x => N.rs x ρ)
theorem ds_setF (i : Nat) {c x f : Str} {C : Addr} {p p' : Pos} {e : Expr} {g : DTE} (F : ClsF mg c C) (na : NoAttr mg.K C f) (h : DE Xs mg Wx e g) (hK : ∀ j, (Xs j).K = mg.K := by intro _; rfl) (hN : ∀ j, (Xs j).N[i]? = some x := by intro _; rfl)
    (hv : ∀ j, Vis (Xs j).env.scope x := by intro _; first | exact Or.inl rfl | exact Or.inr (Or.inl rfl) | exact Or.inr (Or.inr rfl)) (hd : (x == ("__debug__" : Str)) = false := by decide) (hcd : (x == ("__classdict__" : Str)) = false := by decide)
    (hs : ∀ j, swapsWith e (some (.Attribute (.Name x p) f p')) pos.line (Xs j).env = pure false := by intro _; rfl) : DS Xs mg Wx (.Assign [.Attribute (.Name x p) f p'] e pos) (dSetF i c f g) := by
  obtain ⟨t, h1, h2⟩ := h
  refine ⟨sFld mg.K (tVar i) t f, fun j => by
    have z := ps_fld (pe_var (i := i) (pos := p) (hN j) (hv j) hd hcd) (h1 j) (hs j)
    rw [hK j] at z
    exact z, fun W0 B N ρ hf W σ H Ds s e n => ?_⟩
  refine h2 B ρ _ _ hf W σ H _ s.holds e (n.ex s e) fun W1 H1 v d s1 r1 k1 => ?_
  have e1 := e.step s1
  dsimp only at k1
  split at k1
  · rename_i c' a fs hs'
    obtain ⟨rfl, hl, hq⟩ := k1
    obtain ⟨o, g1, vs, g2, ⟨C', dx, hc, g3⟩, g4, g5, g6, hk, rs⟩ := e1.sl i _ hs'
    subst g2
    have ec := F.eq hc
    subst ec
    have el : vs.length = fs.length := by
      have q := congrArg List.length hk
      simpa using q
    obtain ⟨k2, k3⟩ := putF_reps (f := f) r1 hk rs
    refine ⟨.ref a, g1, a, C', dx, vs, rfl, g3, F.cl, na, by omega, ?_⟩
    refine n.nx W1 _ σ _ ((s.trans s1).own g6 g3 g4 g5) (e1.turn (s' := .ob c' a (putD f d fs)) hs' g1 (List.mem_singleton.mpr rfl) (fun _ h => h) ⟨_, rfl, ⟨C', dx, hc, upd_same⟩, g4, g5, g6, k2, k3⟩) hq
  · exact k1.elim

/-! ### making an object -/
/-- an __init__'s promise: the fields that the object has behind it -/
def spI (mg : Gm) (c : Str) (C : Addr) (n : Nat) (f : List D → ((List (Str × D)) → Prop) → (XD → Prop) → Prop) : Sp := fun vs H Q E => ∃ W ds us H1 x dx Qd Ed, vs = .ref x :: us ∧ H1 x = none ∧ H1 dx = none ∧ dx ≠ x ∧ H = upd (upd H1 dx (.own x)) x (.ins C dx []) ∧ Holds W H1 ∧ Reps mg W us ds ∧ ds.length = n ∧ f ds Qd Ed ∧
  (∀ W' H' gs fs dy, Step W H1 W' H' → H' x = some (.ins C dy gs) → W'.H x = none → ¬ W'.T x → gs.map (·.1) = fs.map (·.1) → Reps mg W' (gs.map (·.2)) (fs.map (·.2)) → Qd fs → Q .non H') ∧ ∀ W' H' cls dd y, Step W H1 W' H' → RepX mg W' H' cls dd y → Ed y → E cls dd H'
structure InitOk (P : Program) (w : World) (mg : Gm) (base : Heap) (k : Nat) (c : Str) (C : Addr) (n : Nat) (f : List D → ((List (Str × D)) → Prop) → (XD → Prop) → Prop) : Prop where
  ex : ∃ fa fd ps, Mk mg.K C fa ∧ Binds mg.K fd ps [] ∧ ps.length = n + 1 ∧ FnG P w mg.K mg.mg base k fa fd ps (spI mg c C n f)
/-- the making, where no repr is under way -/
theorem makeG {X : Cx} {C f : Addr} {k : Nat} {fd : FuncData} {ps : List Str} {sp : Sp} {Ex : XK} {pins : List (Addr × Obj)} {σ : St} {H : Hp} {z : Shared} {Q : VK} {us : List Value} {vs : List V} (M : Mk X.K C f) (F : FnG X.prog X.w X.K X.mg X.base k f fd ps sp) (m : RmG (k + 1) X.A) (hb : Binds X.K fd ps [])
    (hx : PassesAt (L2.CX X.prog X.w) X σ Ex) (I : Inv X pins σ H z) (rv : Vals vs us)
    (h : ∀ x dx, H x = none → H dx = none → dx ≠ x → sp (.ref x :: vs) (upd (upd H dx (.own x)) x (.ins C dx [])) (fun v H2 => v = .non ∧ Q (.ref x) H2) Ex) : wpAny (model X.prog X.w) X.A (call (.ref C) us) (EP X pins σ Q) X.xe z := by
  have fr0 := I.hok.fresh (Nat.le_refl z.heap.objs.size)
  have fr1 := I.hok.fresh (Nat.le_succ z.heap.objs.size)
  have want := h (z.heap.objs.size + 1) z.heap.objs.size fr1 fr0 (Nat.ne_of_lt (Nat.lt_succ_self _))
  have J := Inv.made (C := C) I
  have rv2 : Vals (V.ref (z.heap.objs.size + 1) :: vs) (Value.ref (z.heap.objs.size + 1) :: us) := .cons rfl rv
  have ln : (Value.ref (z.heap.objs.size + 1) :: us ++ []).length = ps.length := by
    rw [List.append_nil, ← rv2.length]
    exact F.ln _ _ _ _ want
  have bd := hb _ (Value.ref (z.heap.objs.size + 1) :: us) J.kIn ln
  rw [List.append_nil] at bd
  have gd : (X.A.under (.builtin "type.__call__" ⟨.ref C :: us, []⟩)).guards = some [] := by
    simp [Around.under, Code.guards, Code.isGuard, guardIds, pushGuards, m.g]
  have cd := F.go _ X.stack _ _ ⟨Value.ref (z.heap.objs.size + 1) :: us, []⟩ _ _ _ Ex ⟨m.r.make C us [], gd⟩ (J.env0.make C us []) bd rv2 want
  refine wpAny_call (make_map (f := f) I.kIn M.makes M.init (beq_iff_eq.mp M.fn) (codeAny_mono cd ?_))
  intro res z' hq
  match res, hq with
  | .error e, hq => exact hx pins _ _ e z' J hq
  | .ok .next, hq => exact hq.elim
  | .ok .brk, hq => exact hq.elim
  | .ok .cont, hq => exact hq.elim
  | .ok (.ret u), hq =>
    obtain ⟨v, H', I3, ru, ev, q3⟩ := J.after hq
    subst ev
    exact ⟨ru, ⟨V.ref (z.heap.objs.size + 1), H', I3, rfl, q3⟩⟩
abbrev dMake (c : Str) (f : List D → ((List (Str × D)) → Prop) → (XD → Prop) → Prop) (n : Nat) (g : DTA) : DTE := fun ρ Q E => g ρ (fun ds => ds.length = n ∧ f ds (fun fs => Q (.ins c fs)) E) E
theorem de_make {P : Program} {w : World} {base : Heap} {k n : Nat} {c : Str} {C : Addr} {f : List D → ((List (Str × D)) → Prop) → (XD → Prop) → Prop} {p : Pos} {e : Expr} {es : List Expr} {g : DTA} (Fc : ClsF mg c C) (F : InitOk P w mg base k c C n f) (hr : ∀ i, RmG (k + 1) (Xs i).A) (tk : ∀ i, Pas (Xs i) Wx) (ha : DA Xs mg Wx (e :: es) g)
    (hP : ∀ j, (Xs j).prog = P ∧ (Xs j).w = w ∧ (Xs j).K = mg.K ∧ (Xs j).mg = mg.mg ∧ (Xs j).base = base := by intro _; exact ⟨rfl, rfl, rfl, rfl, rfl⟩) (hg : ∀ j, Gl (Xs j) c := by intro _; rfl) (hd : (c == ("__debug__" : Str)) = false := by decide)
    (he : ∀ i, starEach (e :: es) (Xs i).env = (false, eval e (Xs i).env) :: starEach es (Xs i).env := by intro _; rfl) (hpl : ∀ i, (backTo pos (starEach es (Xs i).env)).any (·.1) = false := by intro _; rfl) : DE Xs mg Wx (.Call (.Name c p) (e :: es) [] pos) (dMake c f n g) := by
  obtain ⟨fa, fd, ps, M, hb, hl, G⟩ := F.ex
  obtain ⟨t, h1, h2⟩ := ha
  refine ⟨fun σ H Q => t σ H fun vs H1 => ∀ x dx, H1 x = none → H1 dx = none → dx ≠ x → spI mg c C n f (.ref x :: vs) (upd (upd H1 dx (.own x)) x (.ins C dx [])) (fun v H2 => v = .non ∧ Q (.ref x) H2) (WE Wx σ), fun i => ?_, ?_⟩
  · obtain ⟨p1, p2, p3, p4, p5⟩ := hP i
    subst p1 p2 p5
    constructor
    intro pins z σ H Q I hw
    apply wpAny_Call_Name_kw
    apply ld_glob I (hg i) (by rw [p4]; exact Fc.nm) _ hd
    apply PySem.W.callWith_K (h₀ := (Xs i).base) I.ok.mod.kin (by rw [p3]; exact M.kp) _ (he i) (hpl i)
    refine thn ((h1 i).run pos pins z σ H _ I hw) ?_
    rintro us z1 ⟨vs, H1, I1, rv, q⟩
    exact ⟨I1.kIn, makeG (by rw [p3]; exact M) (by rw [p3, p4]; exact G) (hr i) (by rw [p3]; exact hb) (tk i σ) I1 rv q⟩
  · intro B ρ Q E hf W σ H Q' hh e x q
    refine h2 B ρ _ E hf W σ H _ hh e x fun W1 H1 vs ds s1 r1 k1 => ?_
    intro a dx na ndx ne
    refine ⟨W1, ds, vs, H1, a, dx, _, E, rfl, na, ndx, ne, rfl, s1.holds, r1, k1.1, k1.2, fun W' H' gs fs dy s' ha' nw nt hk rs hq => ⟨rfl, ?_⟩, fun W' H' cls dd y s' r h => x W' H' cls dd y (s1.trans s') r h⟩
    have st := s'.taken na ha' nw nt
    exact q _ _ _ _ (s1.trans st) (.ins Fc.nm (show upd W'.H a _ a = _ from upd_same) hk (rs.mono (Wd.le_put nw))) hq
/-- an __init__ by its body: the object stands in slot 0 -/
theorem mkInit {P : Program} {w : World} {base : Heap} {c : Str} {C : Addr} {qual : Str} {st : Stmt} {N ps : List Str} {k n : Nat} {f : List D → ((List (Str × D)) → Prop) → (XD → Prop) → Prop} (Fc : ClsF mg c C) (d : ∃ fa fd, Mk mg.K C fa ∧ Fun mg.K "__init__" qual st fa fd) (S : FnScope N ps (defScope st)) (hn : ps.length = n + 1)
    (hb : ∀ (kV doc pm : Value) (an : Option Addr) (cdv ct : Value) (us : List Value), us.length = ps.length → bindArgs (PySem.W.fnOf "__init__" qual (defArgs st) (defBody st) (defScope st) .none kV doc pm an cdv ct) ⟨us, []⟩ = pure (ps.zip us))
    (h : ∀ (fa : Addr) (cdv : Value) (A : Around) (outer : List PySem.Env) (s : Shared) (H : Hp) (E : XK), RmG k (A.deeper (PyProof.Rows.envOfC qual (defScope st) s.heap.objs.size fa cdv)) →
      ∃ g, DSs (fun _ : Unit => cxOf (L2.CX P w) P w mg.K mg.mg base N qual (defScope st) fa cdv A outer s H E) mg (fun cls d _ H' => E cls d H') (defBody st) g ∧
        ∀ x ds Q Ex, ds.length = n → f ds Q Ex → g ⟨fun ρ => ∃ fs r, ρ = .ob c x fs :: r ∧ Q fs, fun _ _ => False, fun _ => False, fun _ => False, fun x _ => Ex x⟩ (.ob c x [] :: startD (N.length - 1) ds)) :
    InitOk P w mg base (k + 1) c C n f := by
  obtain ⟨fa, fd, M, F⟩ := d
  refine ⟨fa, fd, ps, M, F.binds hb, hn, ?_⟩
  refine fnG_of F S (fun vs H Q E hs => ?_) (fun cdv A outer s H vs Q E hr hs => ?_)
  · obtain ⟨W, ds, us, H1, x, dx, Qd, Ed, rfl, _, _, _, _, _, r, l, _⟩ := hs
    rw [List.length_cons, r.length, l, hn]
  · obtain ⟨W, ds, us, H1, x, dx, Qd, Ed, rfl, nx, ndx, ne, rfl, hh, r, l, hf, q, ex⟩ := hs
    obtain ⟨g, ⟨t, h1, h2⟩, h3⟩ := h fa cdv A outer s _ E hr
    have lu : us.length = n := by rw [r.length, l]
    have sd : Step W H1 W (upd H1 dx (.own x)) := Step.lay hh ndx
    have nx2 : (upd H1 dx (.own x)) x = none := by
      rw [upd_ne (Ne.symm ne)]
      exact nx
    have sx : Step W H1 W (upd (upd H1 dx (.own x)) x (.ins C dx [])) := sd.trans (Step.lay sd.holds nx2)
    refine ⟨t, h1 (), ?_⟩
    have hN : N.length = (N.length - 1) + 1 := by
      have q1 := congrArg List.length S.pre
      rw [List.length_take, hn] at q1
      omega
    have e0 : EnvR mg H1 W (upd (upd H1 dx (.own x)) x (.ins C dx [])) (L2.start N (.ref x :: us)) (.ob c x [] :: startD (N.length - 1) ds) := by
      have base0 := EnvR.start (N := N.tail) (mg := mg) (H := H1) r
      have lt : N.tail.length = N.length - 1 := List.length_tail
      have es : L2.start N (.ref x :: us) = some (.ref x) :: L2.start N.tail us := by
        unfold L2.start
        rw [List.map_cons, List.cons_append, List.length_cons, lt, Nat.sub_sub, Nat.add_comm 1]
      rw [es, ← lt]
      refine ⟨congrArg (· + 1) base0.len, fun i sl hi => ?_, fun i j s1 s2 o1 o2 a hij q1 q2 q3 q4 m1 m2 => ?_⟩
      · cases i with
        | zero =>
          cases hi
          exact ⟨_, rfl, [], rfl, ⟨C, dx, Fc.nm, upd_same⟩, hh.same.free nx, hh.nT nx, nx, rfl, .nil⟩
        | succ i =>
          obtain ⟨o, g1, g2⟩ := base0.sl i sl hi
          refine ⟨o, g1, g2.keep (Le.refl W) fun a _ u h5 h6 h7 => sx.mine h5 h6 h7⟩
      · have none2 : ∀ (j : Nat) (s : Sl) (o : Option V), (startD N.tail.length ds)[j]? = some s → a ∉ s.fp o := fun j s o hj m => by
          unfold startD at hj
          rcases List.mem_append.mp (List.mem_of_getElem? hj) with z | z
          · obtain ⟨_, _, z⟩ := List.mem_map.mp z
            rw [← z] at m
            cases m
          · have z := List.eq_of_mem_replicate z
            rw [z] at m
            cases m
        cases i with
        | succ i => exact none2 i s1 o1 q1 m1
        | zero =>
          cases j with
          | zero => exact hij rfl
          | succ j => exact none2 j s2 o2 q2 m2
    refine h2 W H1 _ _ (h3 x ds Qd Ed l hf) W _ _ _ sx e0 ⟨fun W' H' σ' ρ' s' e' k => ?_, fun _ _ _ _ _ _ _ _ _ k => k.elim, fun _ _ _ _ _ _ k => k.elim, fun _ _ _ _ _ _ k => k.elim, fun W' H' σ' ρ' cls dd y s' e' r' k => ex W' H' cls dd y s' r' k⟩
    obtain ⟨fs, rr, rfl, hq⟩ := k
    obtain ⟨o, g1, vs, g2, ⟨C', dy, hc, g3⟩, g4, g5, g6, hk, rs⟩ := e'.sl 0 _ rfl
    have ec := Fc.eq hc
    subst ec
    exact q W' H' vs fs dy s' g3 g4 g5 hk rs hq
end
end FP

/-! FP11: methods, properties, isinstance with an own class, len, in, [], str of own objects. -/
namespace FP
open PySem L2
variable [Tabl]
section
variable {ι : Type} {Xs : ι → Cx} {mg : Gm} {Wx : WX} {pos : Pos}

/-! ### methods -/
structure MethOk (P : Program) (w : World) (mg : Gm) (base : Heap) (k : Nat) (C : Addr) (m : Str) (n : Nat) (f : List D → M D) : Prop where
  ex : ∃ fa fd ps, Meth mg.K C m fa ∧ Binds mg.K fd ps [] ∧ ps.length = n ∧ FnG P w mg.K mg.mg base k fa fd ps (spD mg n f)
theorem mkMeth {P : Program} {w : World} {base : Heap} {C : Addr} {m qual : Str} {st : Stmt} {N ps : List Str} {k : Nat} {f : List D → M D} (d : ∃ fa fd, Meth mg.K C m fa ∧ Fun mg.K m qual st fa fd) (S : FnScope N ps (defScope st))
    (hb : ∀ (kV doc pm : Value) (an : Option Addr) (cdv ct : Value) (us : List Value), us.length = ps.length → bindArgs (PySem.W.fnOf m qual (defArgs st) (defBody st) (defScope st) .none kV doc pm an cdv ct) ⟨us, []⟩ = pure (ps.zip us))
    (h : ∀ (fa : Addr) (cdv : Value) (A : Around) (outer : List PySem.Env) (s : Shared) (H : Hp) (E : XK), RmG k (A.deeper (PyProof.Rows.envOfC qual (defScope st) s.heap.objs.size fa cdv)) →
      ∃ g, DSs (fun _ : Unit => cxOf (L2.CX P w) P w mg.K mg.mg base N qual (defScope st) fa cdv A outer s H E) mg (fun cls d _ H' => E cls d H') (defBody st) g ∧
        ∀ ds Q Ex, ds.length = ps.length → f ds Q Ex → g ⟨fun _ => Q .non, fun d _ => Q d, fun _ => False, fun _ => False, fun x _ => Ex x⟩ (startD N.length ds)) :
    MethOk P w mg base (k + 1) C m ps.length f := by
  obtain ⟨fa, fd, hm, F⟩ := d
  exact ⟨fa, fd, ps, hm, F.binds hb, rfl, def_ok F S (h fa)⟩
abbrev dMeth (c : Str) (f : List D → M D) (n : Nat) (m : Str) (go : DTE) (g : DTA) : DTE := fun ρ Q E => go ρ (fun x => match x with
  | .ins c' fs => c' = c ∧ fs.lookup m = none ∧ g ρ (fun ds => ds.length + 1 = n ∧ f (.ins c' fs :: ds) Q E) E
  | _ => False) E
theorem lookup_none {α β : Type} : ∀ {vs : List (Str × α)} {ds : List (Str × β)} {f : Str}, vs.map (·.1) = ds.map (·.1) → ds.lookup f = none → vs.lookup f = none
  | [], [], _, _, _ => rfl
  | [], _ :: _, _, h, _ => by cases h
  | _ :: _, [], _, h, _ => by cases h
  | (a, v) :: vs, (b, e) :: ds, f, hk, hl => by
    simp only [List.map_cons, List.cons.injEq] at hk
    obtain ⟨rfl, hk⟩ := hk
    rw [List.lookup_cons] at hl ⊢
    split at hl
    · cases hl
    · exact lookup_none hk hl
theorem de_meth {P : Program} {w : World} {base : Heap} {k n : Nat} {c m : Str} {C : Addr} {f : List D → M D} {apos : Pos} {o e : Expr} {es : List Expr} {go : DTE} {g : DTA} {pl : ι → Sem Bool} (Fc : ClsF mg c C) (F : MethOk P w mg base k C m n f) (hr : ∀ i, RmG k (Xs i).A) (tk : ∀ i, Pas (Xs i) Wx) (ho : DE Xs mg Wx o go) (ha : DA Xs mg Wx (e :: es) g)
    (hP : ∀ j, (Xs j).prog = P ∧ (Xs j).w = w ∧ (Xs j).K = mg.K ∧ (Xs j).mg = mg.mg ∧ (Xs j).base = base := by intro _; exact ⟨rfl, rfl, rfl, rfl, rfl⟩)
    (he : ∀ i, starEach (e :: es) (Xs i).env = (false, eval e (Xs i).env) :: starEach es (Xs i).env := by intro _; rfl) (hpl : ∀ i, (backTo pos (starEach es (Xs i).env)).any (·.1) = false := by intro _; rfl)
    (ht : ∀ i, eval (.Call (.Attribute o m apos) (e :: es) [] pos) (Xs i).env = (do
      let ov ← eval o (Xs i).env
      standAt apos.atName
      let (fn, first) ← holding [ov] (getMethod ov m (pl i))
      callWith pos fn first (backTo pos (starEach (e :: es) (Xs i).env)) (backToKw pos (keywordEach [] (Xs i).env))) := by intro _; rfl) : DE Xs mg Wx (.Call (.Attribute o m apos) (e :: es) [] pos) (dMeth c f n m go g) := by
  obtain ⟨fa, fd, ps, hm, hb, hl, G⟩ := F.ex
  obtain ⟨to, o1, o2⟩ := ho
  obtain ⟨t, h1, h2⟩ := ha
  refine ⟨fun σ H Q => to σ H fun x H1 => ∃ a dx fs, x = .ref a ∧ H1 a = some (.ins C dx fs) ∧ fs.lookup m = none ∧ t σ H1 fun vs H2 => spD mg n f (x :: vs) H2 Q (WE Wx σ), fun i => ?_, ?_⟩
  · obtain ⟨p1, p2, p3, p4, p5⟩ := hP i
    subst p1 p2 p5
    constructor
    intro pins z σ H Q I hw
    refine PySem.W.methodCall_KW (pl := pl i) (thn ((o1 i).run pins z σ H _ I hw) ?_) (ht i)
    rintro u z1 ⟨x, H1, I1, rx, a, dx, fs, ex, ea, l, q⟩
    subst ex
    have eu : u = Value.ref a := rx
    subst eu
    apply getmeth_ok I1 ea (by rw [p3]; exact Fc.cl) (by rw [p3]; exact hm) l
    apply PySem.W.callWith_K (first := [.ref a]) (h₀ := (Xs i).base) I.ok.mod.kin (by rw [p3]; exact hm.kp) _ (he i) (hpl i)
    refine thn ((h1 i).run pos pins z1 σ H1 _ I1 q) ?_
    rintro us z2 ⟨vs, H2, I2, rv, q2⟩
    exact ⟨I2.kIn, goG (Ew := WE Wx) (us := .ref a :: us) (vs := .ref a :: vs) (by rw [p3, p4]; exact G) (hr i) (by rw [p3]; exact hb) (tk i σ) I2 (.cons rfl rv) q2⟩
  · intro B ρ Q E hf W σ H Q' hh e x q
    refine o2 B ρ _ E hf W σ H _ hh e x fun W1 H1 v d s1 r1 k1 => ?_
    cases r1 with
    | @ins a C' dx fs c' ds hc ha hk rs =>
      obtain ⟨rfl, hno, k2⟩ := k1
      have ec := Fc.eq hc
      subst ec
      refine ⟨a, dx, fs, rfl, s1.holds.same _ _ ha, lookup_none hk hno, ?_⟩
      refine h2 B ρ _ E k2 W1 σ H1 _ s1.holds (e.step s1) (x.step s1) fun W2 H2 vs ds2 s2 r2 k3 => ?_
      have s12 := s1.trans s2
      exact ⟨W2, _, Q, E, s2.holds, .cons ((Rep.ins hc ha hk rs).mono s2.le) r2, k3.1, k3.2, ToV.step q s12, fun W' H' cls dd y s' r h => x W' H' cls dd y (s12.trans s') r h⟩
    | _ => exact k1.elim

/-! ### properties -/
structure PropOk (P : Program) (w : World) (mg : Gm) (base : Heap) (k : Nat) (C : Addr) (m : Str) (f : List D → M D) : Prop where
  ex : ∃ p fa fd ps, PropOf mg.K C m p fa ∧ Binds mg.K fd ps [] ∧ ps.length = 1 ∧ FnG P w mg.K mg.mg base k fa fd ps (spD mg 1 f)
theorem mkProp {P : Program} {w : World} {base : Heap} {C : Addr} {m qual : Str} {st : Stmt} {N ps : List Str} {k : Nat} {f : List D → M D} (d : ∃ p fa fd, PropOf mg.K C m p fa ∧ Fun mg.K m qual st fa fd) (S : FnScope N ps (defScope st)) (h1 : ps.length = 1)
    (hb : ∀ (kV doc pm : Value) (an : Option Addr) (cdv ct : Value) (us : List Value), us.length = ps.length → bindArgs (PySem.W.fnOf m qual (defArgs st) (defBody st) (defScope st) .none kV doc pm an cdv ct) ⟨us, []⟩ = pure (ps.zip us))
    (h : ∀ (fa : Addr) (cdv : Value) (A : Around) (outer : List PySem.Env) (s : Shared) (H : Hp) (E : XK), RmG k (A.deeper (PyProof.Rows.envOfC qual (defScope st) s.heap.objs.size fa cdv)) →
      ∃ g, DSs (fun _ : Unit => cxOf (L2.CX P w) P w mg.K mg.mg base N qual (defScope st) fa cdv A outer s H E) mg (fun cls d _ H' => E cls d H') (defBody st) g ∧
        ∀ ds Q Ex, ds.length = ps.length → f ds Q Ex → g ⟨fun _ => Q .non, fun d _ => Q d, fun _ => False, fun _ => False, fun x _ => Ex x⟩ (startD N.length ds)) :
    PropOk P w mg base (k + 1) C m f := by
  obtain ⟨p, fa, fd, hm, F⟩ := d
  have G := def_ok F S (h fa)
  rw [h1] at G
  exact ⟨p, fa, fd, ps, hm, F.binds hb, h1, G⟩
/-- a property that raises nothing -/
abbrev dProp (c : Str) (f : List D → M D) (go : DTE) : DTE := fun ρ Q E => go ρ (fun x => match x with
  | .ins c' fs => c' = c ∧ f [.ins c' fs] Q F0
  | _ => False) E
theorem getpropG {X : Cx} {k : Nat} {C p g a dx : Addr} {fs : List (Str × V)} {f : Str} {fd : FuncData} {ps : List Str} {sp : Sp} {pins : List (Addr × Obj)} {σ : St} {H : Hp} {z : Shared} {Q : VK} {b : Bool} {E' : Value → Shared → Prop} (I : Inv X pins σ H z) (ea : H a = some (.ins C dx fs)) (c : Cls X.K C) (hp : PropOf X.K C f p g)
    (F : FnG X.prog X.w X.K X.mg X.base k g fd ps sp) (m : RmG (k + 1) X.A) (hb : Binds X.K fd ps []) (h : sp [.ref a] H Q E0) : wpAny (model X.prog X.w) X.A (getAttr (.ref a) f b) (EP X pins σ Q) E' z := by
  obtain ⟨mA, O, _⟩ := ins_get I.hok ea
  obtain ⟨od, J, _⟩ := O.look
  obtain ⟨rest, hrec⟩ := hp.rec_
  have I1 := I.tok (z.toks + 1)
  have hc : (PySem.W.clsIn X.K C).isSome = true := by
    obtain ⟨cd, q, _⟩ := PySem.W.any_some c.hd
    rw [q]
    rfl
  have plain := PySem.W.plainGet_of (c.get f)
  refine PySem.W.get_bind I.kIn J plain.1 (PySem.W.findObj_data hc hp.at_ hp.get hp.tak) plain.2 (wpAny_call (PySem.W.prop_get (s := { z with toks := z.toks + 1 }) I.kIn hrec ?_))
  have bd := hb { z with toks := z.toks + 1 } [.ref a] I1.kIn (F.ln _ _ _ _ h)
  rw [List.append_nil] at bd
  have cd := F.go X.A.in1 X.stack { z with toks := z.toks + 1 } H ⟨[.ref a], []⟩ [.ref a] [.ref a] Q E0 m.in1 I1.env0.in1 bd (.cons rfl .nil) h
  refine codeAny_mono cd ?_
  intro res z' hq
  match res, hq with
  | .error e, hq =>
    obtain ⟨_, _, _, _, _, _, _, _, _, _, _, _, w⟩ := hq
    exact w.elim
  | .ok .next, hq => exact hq.elim
  | .ok .brk, hq => exact hq.elim
  | .ok .cont, hq => exact hq.elim
  | .ok (.ret u), hq =>
    obtain ⟨v, H', I3, rv, q3⟩ := I1.after hq
    show wpAny _ _ (handedOut u) _ _ _
    rw [PySem.W.handedOut_of (handed_of rv)]
    exact wpAny_pure ⟨v, H', I3, rv, q3⟩
theorem de_prop {P : Program} {w : World} {base : Heap} {k : Nat} {c m : Str} {C : Addr} {f : List D → M D} {o : Expr} {go : DTE} (Fc : ClsF mg c C) (F : PropOk P w mg base k C m f) (hr : ∀ i, RmG (k + 1) (Xs i).A) (ho : DE Xs mg Wx o go)
    (hP : ∀ j, (Xs j).prog = P ∧ (Xs j).w = w ∧ (Xs j).K = mg.K ∧ (Xs j).mg = mg.mg ∧ (Xs j).base = base := by intro _; exact ⟨rfl, rfl, rfl, rfl, rfl⟩) (hab : ∀ j, attributeBase o m (Xs j).env (eval o (Xs j).env) = eval o (Xs j).env := by intro _; rfl) : DE Xs mg Wx (.Attribute o m pos) (dProp c f go) := by
  obtain ⟨p, fa, fd, ps, hm, hb, hl, G⟩ := F.ex
  obtain ⟨to, o1, o2⟩ := ho
  refine ⟨fun σ H Q => to σ H fun x H1 => ∃ a dx fs, x = .ref a ∧ H1 a = some (.ins C dx fs) ∧ spD mg 1 f [.ref a] H1 Q E0, fun i => ?_, ?_⟩
  · obtain ⟨p1, p2, p3, p4, p5⟩ := hP i
    subst p1 p2 p5
    constructor
    intro pins z σ H Q I hw
    refine attr_of (hab i) (thn ((o1 i).run pins z σ H _ I hw) ?_)
    rintro u z1 ⟨x, H1, I1, rx, a, dx, fs, ex, ea, q⟩
    subst ex
    have eu : u = Value.ref a := rx
    subst eu
    exact getpropG I1 ea (by rw [p3]; exact Fc.cl) (by rw [p3]; exact hm) (by rw [p3, p4]; exact G) (hr i) (by rw [p3]; exact hb) q
  · intro B ρ Q E hf W σ H Q' hh e x q
    refine o2 B ρ _ E hf W σ H _ hh e x fun W1 H1 v d s1 r1 k1 => ?_
    cases r1 with
    | @ins a C' dx fs c' ds hc ha hk rs =>
      obtain ⟨rfl, k2⟩ := k1
      have ec := Fc.eq hc
      subst ec
      exact ⟨a, dx, fs, rfl, s1.holds.same _ _ ha, W1, _, Q, F0, s1.holds, .cons (.ins hc ha hk rs) .nil, rfl, k2, ToV.step q s1, fun _ _ _ _ _ _ _ h => h⟩
    | _ => exact k1.elim

/-! ### isinstance with a class of the text -/
/-- what isinstance says of built-in kinds and of the classes cs -/
structure IsiF (mg : Gm) (C : Addr) (cs : List Str) (yes : Str → Bool) : Prop where
  bn : ∀ n ∈ ["NoneType", "bool", "int", "str", "tuple", "list", "dict"], PySem.W.kitOne mg.K (.type n) (.ref C) = some false
  cl : ∀ c ∈ cs, ∃ C', ClsF mg c C' ∧ PySem.W.kitOne mg.K (.ref C') (.ref C) = some (yes c)
def isiD (cs : List Str) (yes : Str → Bool) : D → Option Bool
  | .ins c _ => if c ∈ cs then some (yes c) else none
  | .fz _ => none
  | .cl _ => none
  | .fn _ _ => none
  | _ => some false
abbrev dIsiO (cs : List Str) (yes : Str → Bool) (f : DTE) : DTE := fun ρ Q E => f ρ (fun x => match isiD cs yes x with
  | some b => Q (.bl b)
  | none => False) E
theorem isiD_v {W : Wd} {H : Hp} {C : Addr} {cs : List Str} {yes : Str → Bool} {x : V} {d : D} {b : Bool} (K : IsiF mg C cs yes) (hh : Holds W H) (r : Rep mg W x d) (h : isiD cs yes d = some b) : ∃ t, TyX mg.K H x t ∧ PySem.W.kitOne mg.K t (.ref C) = some b := by
  cases r with
  | @ins a C0 dx fs c ds hc ha hk rs =>
    have h' : (if c ∈ cs then some (yes c) else none) = some b := h
    by_cases hm : c ∈ cs
    · rw [if_pos hm] at h'
      cases h'
      obtain ⟨C', F, hy⟩ := K.cl _ hm
      have ec := F.eq hc
      subst ec
      exact ⟨_, .base (.ins (hh.same _ _ ha) F.cl F.ha F.hn F.htk F.hm), hy⟩
    · rw [if_neg hm] at h'
      cases h'
  | fz _ _ => cases h
  | cl _ => cases h
  | fn _ => cases h
  | non => cases h; exact ⟨_, tyName_v (mg := mg) hh .non rfl, K.bn _ (by decide)⟩
  | bl k => cases h; exact ⟨_, tyName_v (mg := mg) hh (.bl k) rfl, K.bn _ (by decide)⟩
  | int k => cases h; exact ⟨_, tyName_v (mg := mg) hh (.int k) rfl, K.bn _ (by decide)⟩
  | str k => cases h; exact ⟨_, tyName_v (mg := mg) hh (.str k) rfl, K.bn _ (by decide)⟩
  | tup ha rs => cases h; exact ⟨_, tyName_v (mg := mg) hh (.tup ha rs) rfl, K.bn _ (by decide)⟩
  | lst ha rs => cases h; exact ⟨_, tyName_v (mg := mg) hh (.lst ha rs) rfl, K.bn _ (by decide)⟩
  | dct ha hk rs => cases h; exact ⟨_, tyName_v (mg := mg) hh (.dct ha hk rs) rfl, K.bn _ (by decide)⟩
  | tok t => cases h; exact ⟨_, tyName_v (mg := mg) hh (.tok t) rfl, K.bn _ (by decide)⟩
theorem de_isiO {e : Expr} {f : DTE} {c : Str} {C : Addr} {cs : List Str} {yes : Str → Bool} {p p2 : Pos} (h : DE Xs mg Wx e f) (hm : mg.mg "isinstance" = none) (Fc : mg.mg c = some (.ref C)) (K : IsiF mg C cs yes) (hv : bootBuiltins "isinstance" = some (.builtin "isinstance"))
    (hK : ∀ j, (Xs j).K = mg.K := by intro _; rfl) (hM : ∀ j, (Xs j).mg = mg.mg := by intro _; rfl) (hg : ∀ j, Gl (Xs j) "isinstance" := by intro _; rfl) (hgT : ∀ j, Gl (Xs j) c := by intro _; rfl) (hd : (c == ("__debug__" : Str)) = false := by decide)
    (he : ∀ j, starEach [e, .Name c p2] (Xs j).env = (false, eval e (Xs j).env) :: starEach [.Name c p2] (Xs j).env := by intro _; rfl) (he2 : ∀ j, starEach [.Name c p2] (Xs j).env = [(false, eval (.Name c p2) (Xs j).env)] := by intro _; rfl)
    (hpl : ∀ j, (backTo pos (starEach [.Name c p2] (Xs j).env)).any (·.1) = false := by intro _; rfl) : DE Xs mg Wx (.Call (.Name "isinstance" p) [e, .Name c p2] [] pos) (dIsiO cs yes f) := by
  obtain ⟨t, h1, h2⟩ := h
  refine ⟨tCB (rIsi mg.K) (tCons t (tCons (tC (.ref C)) tNil)), fun j => ?_, ?_⟩
  · exact pe_callB (call_isiK2 (hK j)) (hg j) (by rw [hM j]; exact hm) hv (pa_cons (h1 j) (pa_cons (pe_glob (v := .ref C) (hgT j) (by rw [hM j]; exact Fc) rfl hd) pa_nil (he2 j)) (he j)) (by decide) (by decide) (he j) (hpl j)
  · intro B ρ Q E hf W σ H Q' hh e x q
    refine h2 B ρ _ E hf W σ H _ hh e x fun W1 H1 v d s1 r1 k1 => ?_
    dsimp only at k1
    split at k1
    · rename_i b hb
      obtain ⟨ty, hy, hk⟩ := isiD_v K s1.holds r1 hb
      exact ⟨v, .ref C, ty, .ref C, b, rfl, .own C, hy, hk, q W1 H1 _ _ s1 (.bl b) k1⟩
    · exact k1.elim
end
end FP

/-! FP12: what Python asks of own objects by special methods: len, in, ==, str, []. -/
namespace FP
open PySem L2
variable [Tabl]
theorem CX.none {P : Program} {w : World} {out : List PySem.Env} {H : Hp} {z : Shared} {e : Value} {z' : Shared} (h : L2.CX P w out H z E0 e z') : False := by
  obtain ⟨_, _, _, _, _, _, _, _, _, _, _, _, w⟩ := h
  exact w
/-- a callee that raises nothing, at any place -/
theorem callAt0 {X : Cx} {k : Nat} {f : Addr} {fd : FuncData} {ps : List Str} {sp : Sp} {pins : List (Addr × Obj)} {σ : St} {H : Hp} {z : Shared} {Q : VK} {us : List Value} {vs : List V} {E' : Value → Shared → Prop} (F : FnG X.prog X.w X.K X.mg X.base k f fd ps sp) {A' : Around} (m : RmG k A') (hA : A'.frames = X.A.frames)
    (hb : Binds X.K fd ps []) (I : Inv X pins σ H z) (rv : Vals vs us) (h : sp vs H Q E0) : wpAny (model X.prog X.w) A' (call (.ref f) us) (EP X pins σ Q) E' z := by
  have hl : (us ++ []).length = ps.length := by
    rw [List.append_nil, ← rv.length]
    exact F.ln _ _ _ _ h
  have bd := hb z us I.kIn hl
  rw [List.append_nil] at bd
  have e0 := I.env0
  have cd := F.go A' X.stack z H ⟨us, []⟩ us vs Q E0 m ⟨by rw [hA]; exact e0.frames, e0.mod, e0.bs, e0.bsz, e0.funs, e0.frf, e0.hok, e0.bare⟩ bd rv h
  refine wpAny_call (codeAny_mono cd ?_)
  intro res z' hq
  match res, hq with
  | .error e, hq => exact (CX.none hq).elim
  | .ok (.ret u), hq => exact I.after hq
  | .ok .next, hq => exact hq.elim
  | .ok .brk, hq => exact hq.elim
  | .ok .cont, hq => exact hq.elim
/-- a special method of a class: found, a def of the text, with its promise -/
structure SpecOk (P : Program) (w : World) (mg : Gm) (base : Heap) (k : Nat) (C : Addr) (m : Str) (n : Nat) (f : List D → M D) : Prop where
  ex : ∃ fa fd ps, PySem.W.findIn mg.K (.ref C) m = some (some (.ref fa)) ∧ PySem.W.isFn mg.K (.ref fa) = true ∧ PySem.W.fnIn mg.K fa = true ∧ Binds mg.K fd ps [] ∧ ps.length = n ∧ FnG P w mg.K mg.mg base k fa fd ps (spD mg n f)
theorem MethOk.spec {P : Program} {w : World} {mg : Gm} {base : Heap} {k : Nat} {C : Addr} {m : Str} {n : Nat} {f : List D → M D} (h : MethOk P w mg base k C m n f) (hf : ∀ fa, PySem.W.findIn mg.K (.ref C) m = some (some (.ref fa)) → PySem.W.fnIn mg.K fa = true) : SpecOk P w mg base k C m n f := by
  obtain ⟨fa, fd, ps, hm, hb, hl, G⟩ := h.ex
  exact ⟨fa, fd, ps, hm.at_, hm.fn, hf fa hm.at_, hb, hl, G⟩
section
variable {ι : Type} {Xs : ι → Cx} {mg : Gm} {Wx : WX} {pos : Pos} {P : Program} {w : World} {base : Heap} {k : Nat} {c : Str} {C : Addr} {f : List D → M D}
/-- the contexts are those of the module -/
abbrev HPs (Xs : ι → Cx) (P : Program) (w : World) (mg : Gm) (base : Heap) : Prop := ∀ j, (Xs j).prog = P ∧ (Xs j).w = w ∧ (Xs j).K = mg.K ∧ (Xs j).mg = mg.mg ∧ (Xs j).base = base
theorem spD_of {W : Wd} {H : Hp} {Q : D → Prop} {Q' : VK} {vs : List V} {ds : List D} {n : Nat} (hh : Holds W H) (r : Reps mg W vs ds) (hl : ds.length = n) (h : f ds Q F0) (q : ToV mg W H Q Q') : spD mg n f vs H Q' E0 :=
  ⟨W, ds, Q, F0, hh, r, hl, h, q, fun _ _ _ _ _ _ _ h => h⟩
/-! ### len -/
def rdLenM (c : Str) (f : List D → M D) : RDL := fun ds Q => match ds with
  | [.ins c' fs] => c' = c ∧ f [.ins c' fs] (fun d => match d with
    | .int n => (0 ≤ n ∧ n < 2 ^ 63) ∧ Q (.int n)
    | _ => False) F0
  | _ => False
theorem ok_lenM (Fc : ClsF mg c C) (S : SpecOk P w mg base k C "__len__" 1 f) (hr : ∀ j, RmG (k + 1) (Xs j).A) (hP : HPs Xs P w mg base := by intro _; exact ⟨rfl, rfl, rfl, rfl, rfl⟩) : CallOk Xs mg (.builtin "len") (rdLenM c f) := by
  obtain ⟨fa, fd, ps, h1, h2, h3, hb, hl, G⟩ := S.ex
  refine ⟨fun xs H Q => ∃ a dx fs, xs = [.ref a] ∧ H a = some (.ins C dx fs) ∧ spD mg 1 f [.ref a] H (fun v H' => ∃ n : Int, v = .int n ∧ (0 ≤ n ∧ n < 2 ^ 63) ∧ Q (.int n) H') E0, fun j => ?_, ?_⟩
  · obtain ⟨p1, p2, p3, p4, p5⟩ := hP j
    subst p1 p2 p5
    intro pins z σ H xs us Q I rv h
    obtain ⟨a, dx, fs, rfl, ea, hs⟩ := h
    obtain ⟨u, rfl, ru⟩ := vals1 rv
    cases ru
    obtain ⟨mA, O, _⟩ := ins_get I.hok ea
    obtain ⟨od, J, _⟩ := O.look
    obtain ⟨m, hF⟩ := I.fr
    refine PySem.W.len_K hF I.ok.mod.kin J (by rw [p3]; exact h1) (by rw [p3]; exact h2) ?_
    refine wpAny_mono (callAt0 (X := Xs j) (by rw [p3, p4]; exact G) (hr j).in1 rfl (by rw [p3]; exact hb) I (vs := [.ref a]) (.cons (show RelV (.ref _) (.ref _) from rfl) .nil) hs) (fun v z' hv => ?_) fun _ _ q => q
    obtain ⟨x, H', I', rx, n, rfl, hn, hq⟩ := hv
    obtain ⟨t, rfl⟩ := (show ∃ t, v = Value.int n t from rx)
    exact ⟨hn, .int n, H', I'.tok _, ⟨_, rfl⟩, hq⟩
  · intro W H vs ds Q Q' hh r h q
    unfold rdLenM at h
    split at h
    · cases r with
      | cons r rs =>
        cases rs
        cases r with
        | @ins a C' dx fs c' ds hc ha hk rs =>
          obtain ⟨rfl, h⟩ := h
          have ec := Fc.eq hc
          subst ec
          refine ⟨a, dx, fs, rfl, hh.same _ _ ha, spD_of hh (.cons (.ins hc ha hk rs) .nil) rfl h fun W' H' v d s' r' hd => ?_⟩
          cases r' with
          | int n => exact ⟨n, rfl, hd.1, q W' H' _ _ s' (.int n) hd.2⟩
          | _ => exact hd.elim
    · exact h.elim
/-! ### in -/
def rdInM (neg : Bool) (c : Str) (f : List D → M D) : RD2 := fun x y Q => match y with
  | .ins c' fs => c' = c ∧ f [.ins c' fs, x] (fun d => blc d fun b => Q (.bl (if neg then !b else b))) F0
  | _ => False
theorem ok_inM (Fc : ClsF mg c C) (S : SpecOk P w mg base k C "__contains__" 2 f) (hr : ∀ j, RmG k (Xs j).A) (hP : HPs Xs P w mg base := by intro _; exact ⟨rfl, rfl, rfl, rfl, rfl⟩) : OpOk Xs mg (compareOp .In) (rdInM false c f) := by
  obtain ⟨fa, fd, ps, h1, h2, h3, hb, hl, G⟩ := S.ex
  refine ⟨fun x y H Q => ∃ a dx fs, y = .ref a ∧ H a = some (.ins C dx fs) ∧ spD mg 2 f [.ref a, x] H (fun v H' => ∃ b, v = .bl b ∧ Q (.bl b) H') E0, fun j => ?_, ?_⟩
  · obtain ⟨p1, p2, p3, p4, p5⟩ := hP j
    subst p1 p2 p5
    intro pins z σ H x y v u Q I rx ry h
    obtain ⟨a, dx, fs, rfl, ea, hs⟩ := h
    cases ry
    obtain ⟨mA, O, _⟩ := ins_get I.hok ea
    obtain ⟨od, J, _⟩ := O.look
    obtain ⟨m, hF⟩ := I.fr
    refine PySem.W.in_K hF I.ok.mod.kin J (by rw [p3]; exact h1) (by rw [p3]; exact h2) ?_
    refine wpAny_mono (callAt0 (X := Xs j) (by rw [p3, p4]; exact G) (hr j) rfl (by rw [p3]; exact hb) I (vs := [.ref a, x]) (.cons (show RelV (.ref _) (.ref _) from rfl) (.cons rx .nil)) hs) (fun r z' hv => ?_) fun _ _ q => q
    obtain ⟨y, H', I', ry, b, rfl, hq⟩ := hv
    cases ry
    exact wpAny_truthy_bool ⟨.bl b, H', I', rfl, hq⟩
  · intro W H x y dx dy Q Q' hh rx ry h q
    cases ry with
    | @ins a C' ax fs c' ds hc ha hk rs =>
      obtain ⟨rfl, h⟩ := h
      have ec := Fc.eq hc
      subst ec
      refine ⟨a, ax, fs, rfl, hh.same _ _ ha, spD_of hh (.cons (.ins hc ha hk rs) (.cons rx .nil)) rfl h fun W' H' v d s' r' hd => ?_⟩
      cases r' with
      | bl b => exact ⟨b, rfl, q W' H' _ _ s' (.bl b) hd⟩
      | _ => exact hd.elim
    | _ => exact h.elim
theorem ok_notInM (Fc : ClsF mg c C) (S : SpecOk P w mg base k C "__contains__" 2 f) (hr : ∀ j, RmG k (Xs j).A) (hP : HPs Xs P w mg base := by intro _; exact ⟨rfl, rfl, rfl, rfl, rfl⟩) : OpOk Xs mg (compareOp .NotIn) (rdInM true c f) := by
  obtain ⟨fa, fd, ps, h1, h2, h3, hb, hl, G⟩ := S.ex
  refine ⟨fun x y H Q => ∃ a dx fs, y = .ref a ∧ H a = some (.ins C dx fs) ∧ spD mg 2 f [.ref a, x] H (fun v H' => ∃ b, v = .bl b ∧ Q (.bl (!b)) H') E0, fun j => ?_, ?_⟩
  · obtain ⟨p1, p2, p3, p4, p5⟩ := hP j
    subst p1 p2 p5
    intro pins z σ H x y v u Q I rx ry h
    obtain ⟨a, dx, fs, rfl, ea, hs⟩ := h
    cases ry
    obtain ⟨mA, O, _⟩ := ins_get I.hok ea
    obtain ⟨od, J, _⟩ := O.look
    obtain ⟨m, hF⟩ := I.fr
    refine PySem.W.notIn_K hF I.ok.mod.kin J (by rw [p3]; exact h1) (by rw [p3]; exact h2) ?_
    refine wpAny_mono (callAt0 (X := Xs j) (by rw [p3, p4]; exact G) (hr j) rfl (by rw [p3]; exact hb) I (vs := [.ref a, x]) (.cons (show RelV (.ref _) (.ref _) from rfl) (.cons rx .nil)) hs) (fun r z' hv => ?_) fun _ _ q => q
    obtain ⟨y, H', I', ry, b, rfl, hq⟩ := hv
    cases ry
    exact wpAny_truthy_bool ⟨.bl _, H', I', rfl, hq⟩
  · intro W H x y dx dy Q Q' hh rx ry h q
    cases ry with
    | @ins a C' ax fs c' ds hc ha hk rs =>
      obtain ⟨rfl, h⟩ := h
      have ec := Fc.eq hc
      subst ec
      refine ⟨a, ax, fs, rfl, hh.same _ _ ha, spD_of hh (.cons (.ins hc ha hk rs) (.cons rx .nil)) rfl h fun W' H' v d s' r' hd => ?_⟩
      cases r' with
      | bl b => exact ⟨b, rfl, q W' H' _ _ s' (.bl _) hd⟩
      | _ => exact hd.elim
    | _ => exact h.elim
/-! ### str -/
def rdStrM (c : Str) (f : List D → M D) : RDL := fun ds Q => match ds with
  | [.ins c' fs] => c' = c ∧ f [.ins c' fs] (fun d => match d with
    | .str z => Q (.str z)
    | _ => False) F0
  | _ => False
theorem ok_strM (Fc : ClsF mg c C) (S : SpecOk P w mg base k C "__str__" 1 f) (hr : ∀ j, RmG (k + 2) (Xs j).A) (hP : HPs Xs P w mg base := by intro _; exact ⟨rfl, rfl, rfl, rfl, rfl⟩) : CallOk Xs mg (.type "str") (rdStrM c f) := by
  obtain ⟨fa, fd, ps, h1, h2, h3, hb, hl, G⟩ := S.ex
  refine ⟨fun xs H Q => ∃ a dx fs, xs = [.ref a] ∧ H a = some (.ins C dx fs) ∧ spD mg 1 f [.ref a] H (fun v H' => ∃ n : Str, v = .str n ∧ Q (.str n) H') E0, fun j => ?_, ?_⟩
  · obtain ⟨p1, p2, p3, p4, p5⟩ := hP j
    subst p1 p2 p5
    intro pins z σ H xs us Q I rv h
    obtain ⟨a, dx, fs, rfl, ea, hs⟩ := h
    obtain ⟨u, rfl, ru⟩ := vals1 rv
    cases ru
    obtain ⟨mA, O, _⟩ := ins_get I.hok ea
    obtain ⟨od, J, _⟩ := O.look
    have m2 : RmG k (Xs j).A.in1.in1 := (RmG.in1 (k := k + 1) (hr j)).in1
    refine PySem.W.kso_call m2.r.units0 I.kIn J (by rw [p3]; exact h1) (by rw [p3]; exact h2) ?_
    refine wpAny_mono (callAt0 (X := Xs j) (by rw [p3, p4]; exact G) m2 rfl (by rw [p3]; exact hb) I (vs := [.ref a]) (.cons (show RelV (.ref _) (.ref _) from rfl) .nil) hs) (fun v z' hv => ?_) fun _ _ q => q
    obtain ⟨x, H', I', rx, n, rfl, hq⟩ := hv
    obtain ⟨t, rfl⟩ := (show ∃ t, v = Value.str n t from rx)
    exact ⟨.str n, H', I', ⟨_, rfl⟩, hq⟩
  · intro W H vs ds Q Q' hh r h q
    unfold rdStrM at h
    split at h
    · cases r with
      | cons r rs =>
        cases rs
        cases r with
        | @ins a C' dx fs c' ds hc ha hk rs =>
          obtain ⟨rfl, h⟩ := h
          have ec := Fc.eq hc
          subst ec
          refine ⟨a, dx, fs, rfl, hh.same _ _ ha, spD_of hh (.cons (.ins hc ha hk rs) .nil) rfl h fun W' H' v d s' r' hd => ?_⟩
          cases r' with
          | str n => exact ⟨n, rfl, q W' H' _ _ s' (.str n) hd⟩
          | _ => exact hd.elim
    · exact h.elim
/-! ### == -/
/-- the class does not stand ahead of the other's, for the kinds of values at hand -/
structure EqF (mg : Gm) (C : Addr) (cs : List Str) : Prop where
  bn : ∀ n ∈ ["NoneType", "bool", "int", "str", "tuple", "list", "dict"], PySem.W.notFirst mg.K C (.type n) = true
  cl : ∀ c ∈ cs, ∃ C', ClsF mg c C' ∧ PySem.W.notFirst mg.K C (.ref C') = true
def eqKind (cs : List Str) : D → Prop
  | .ins c _ => c ∈ cs
  | .fz _ => False
  | .cl _ => False
  | .fn _ _ => False
  | _ => True
def rdEqM (cs : List Str) (c : Str) (f : List D → M D) : RD2 := fun x y Q => match x with
  | .ins c' fs => c' = c ∧ eqKind cs y ∧ f [.ins c' fs, y] (fun d => blc d fun b => Q (.bl b)) F0
  | _ => False
/-- the type of a value; frozen dicts too -/
def TyL (K : PySem.W.Frag) (H : Hp) (x : V) (t : Value) : Prop := TyOf K H x t ∨ ∃ a o kvs, x = .ref a ∧ H a = some (.frz o (.dK kvs)) ∧ t = .type "dict"
theorem type_looks0 {X : Cx} {pins : List (Addr × Obj)} {σ : St} {H : Hp} {z : Shared} {x : V} {u t : Value} {M : Model} (I : Inv X pins σ H z) (rx : RelV x u) (ty : TyOf X.K H x t) : PySem.W.Looks M z.heap (typeOf u) t := by
  have ref : ∀ {a : Addr} {o : Obj} {t : Value}, z.heap.get? a = some o → o.cls = t → PySem.W.Looks M z.heap (typeOf (.ref a)) t := fun h1 h2 => h2 ▸ (PySem.W.Looks.ld h1).andThen .now
  cases ty with
  | non => cases rx; exact PySem.W.Looks.of_pure rfl
  | bl b => cases rx; exact PySem.W.Looks.of_pure rfl
  | int i => obtain ⟨t, rfl⟩ := (show ∃ t, u = Value.int i t from rx); exact PySem.W.Looks.of_pure rfl
  | str y => obtain ⟨t, rfl⟩ := (show ∃ t, u = Value.str y t from rx); exact PySem.W.Looks.of_pure rfl
  | flt y => obtain ⟨t, rfl⟩ := (show ∃ t, u = Value.float y t from rx); exact PySem.W.Looks.of_pure rfl
  | @lst a xs ea =>
    cases rx
    obtain ⟨_, _, n, _, h1⟩ := (show ObjOk X.prog X.w H z.heap a (.lst xs) from I.hok a _ ea)
    exact ref h1 rfl
  | @frz a ob xs ea =>
    cases rx
    obtain ⟨_, _, _, n, _, h1⟩ := (show ObjOk X.prog X.w H z.heap a (.frz ob (.lst xs)) from I.hok a _ ea)
    exact ref h1 rfl
  | @tup a xs ea =>
    cases rx
    obtain ⟨_, _, _, o, h1, h2, _⟩ := (show ObjOk X.prog X.w H z.heap a (.tup xs) from I.hok a _ ea)
    exact ref h1 h2
  | @dK a kvs ea =>
    cases rx
    obtain ⟨_, _, vs, _, o, es, ep, h1, h2, _⟩ := (show ObjOk X.prog X.w H z.heap a (.dK kvs) from I.hok a _ ea)
    exact ref h1 h2.1
  | @dT a kvs ea =>
    cases rx
    obtain ⟨_, _, xs, _, o, es, ep, h1, h2, _⟩ := (show ObjOk X.prog X.w H z.heap a (.dT kvs) from I.hok a _ ea)
    exact ref h1 h2.1
  | @ins a C dx fs ea cl ha hn htk hm =>
    cases rx
    obtain ⟨mA, O, _⟩ := ins_get I.hok ea
    obtain ⟨od, J, _⟩ := O.look
    exact J.type
theorem type_looks {X : Cx} {pins : List (Addr × Obj)} {σ : St} {H : Hp} {z : Shared} {x : V} {u t : Value} {M : Model} (I : Inv X pins σ H z) (rx : RelV x u) (ty : TyL X.K H x t) : PySem.W.Looks M z.heap (typeOf u) t := by
  rcases ty with ty | ⟨a, o, kvs, rfl, ea, rfl⟩
  · exact type_looks0 I rx ty
  · cases rx
    obtain ⟨_, hx⟩ := (show ObjOk X.prog X.w H z.heap a (.frz o (.dK kvs)) from I.hok a _ ea)
    obtain ⟨_, _, vs, _, o', es, ep, h1, h2, _⟩ := hx
    exact h2.1 ▸ (PySem.W.Looks.ld h1).andThen .now
/-- the kinds of values that may stand on the other side, with their types -/
theorem eqKind_v {W : Wd} {H : Hp} {C : Addr} {cs : List Str} {x : V} {d : D} (K : EqF mg C cs) (hh : Holds W H) (r : Rep mg W x d) (h : eqKind cs d) : ∃ t, TyL mg.K H x t ∧ PySem.W.notFirst mg.K C t = true := by
  cases r with
  | @ins a C0 dx fs c ds hc ha hk rs =>
    obtain ⟨C', F, hy⟩ := K.cl _ h
    have ec := F.eq hc
    subst ec
    exact ⟨_, .inl (.ins (hh.same _ _ ha) F.cl F.ha F.hn F.htk F.hm), hy⟩
  | fz ha => exact h.elim
  | cl ha => exact h.elim
  | fn ha => exact h.elim
  | non => exact ⟨_, .inl .non, K.bn _ (by decide)⟩
  | bl b => exact ⟨_, .inl (.bl b), K.bn _ (by decide)⟩
  | int b => exact ⟨_, .inl (.int b), K.bn _ (by decide)⟩
  | str b => exact ⟨_, .inl (.str b), K.bn _ (by decide)⟩
  | lst ha rs => exact ⟨_, .inl (.lst (hh.same _ _ ha)), K.bn _ (by decide)⟩
  | tup ha rs => exact ⟨_, .inl (.tup (hh.same _ _ ha)), K.bn _ (by decide)⟩
  | dct ha hk rs => exact ⟨_, .inr ⟨_, _, _, rfl, hh.same _ _ ha, rfl⟩, K.bn _ (by decide)⟩
  | tok t =>
    obtain ⟨_, _, _, _, h2⟩ := hh.tok _ t
    exact ⟨_, .inl (.lst h2), K.bn _ (by decide)⟩
theorem ok_eqM {cs : List Str} (Fc : ClsF mg c C) (S : SpecOk P w mg base k C "__eq__" 2 f) (K : EqF mg C cs) (hr : ∀ j, RmG k (Xs j).A) (hP : HPs Xs P w mg base := by intro _; exact ⟨rfl, rfl, rfl, rfl, rfl⟩) : OpOk Xs mg (compareOp .Eq) (rdEqM cs c f) := by
  obtain ⟨fa, fd, ps, h1, h2, h3, hb, hl, G⟩ := S.ex
  refine ⟨fun x y H Q => ∃ a dx fs t, x = .ref a ∧ H a = some (.ins C dx fs) ∧ TyL mg.K H y t ∧ PySem.W.notFirst mg.K C t = true ∧ spD mg 2 f [.ref a, y] H (fun v H' => ∃ b, v = .bl b ∧ Q (.bl b) H') E0, fun j => ?_, ?_⟩
  · obtain ⟨p1, p2, p3, p4, p5⟩ := hP j
    subst p1 p2 p5
    intro pins z σ H x y v u Q I rx ry h
    obtain ⟨a, dx, fs, t, rfl, ea, ty, hn, hs⟩ := h
    cases rx
    obtain ⟨mA, O, _⟩ := ins_get I.hok ea
    obtain ⟨od, J, _⟩ := O.look
    obtain ⟨m, hF⟩ := I.fr
    refine PySem.W.cmp_K (op := .Eq) (by have := (hr j).r.un; omega) hF I.ok.mod.kin J (type_looks I ry (by rw [p3]; exact ty)) (by rw [p3]; exact hn) (by rw [p3]; exact h1) (by rw [p3]; exact h2) ?_
    refine wpAny_mono (callAt0 (X := Xs j) (by rw [p3, p4]; exact G) (hr j) rfl (by rw [p3]; exact hb) I (vs := [.ref a, y]) (.cons (show RelV (.ref _) (.ref _) from rfl) (.cons ry .nil)) hs) (fun r z' hv => ?_) fun _ _ q => q
    obtain ⟨y, H', I', ry, b, rfl, hq⟩ := hv
    cases ry
    exact ⟨.bl b, H', I', rfl, hq⟩
  · intro W H x y dx dy Q Q' hh rx ry h q
    cases rx with
    | @ins a C' ax fs c' ds hc ha hk rs =>
      obtain ⟨rfl, hy, h⟩ := h
      have ec := Fc.eq hc
      subst ec
      obtain ⟨t, ty, hn⟩ := eqKind_v K hh ry hy
      refine ⟨a, ax, fs, t, rfl, hh.same _ _ ha, ty, hn, spD_of hh (.cons (.ins hc ha hk rs) (.cons ry .nil)) rfl h fun W' H' v d s' r' hd => ?_⟩
      cases r' with
      | bl b => exact ⟨b, rfl, q W' H' _ _ s' (.bl b) hd⟩
      | _ => exact hd.elim
    | _ => exact h.elim
/-! ### != by an own == -/
theorem ifBoundS {M : Model} {A : Around} {E : Value → Shared → Prop} {s : Shared} {K : PySem.W.Frag} {x C : Addr} {ox : Obj} {od : Option Obj} {name : Str} {id : String} {args : List Value} {Q : Option Value → Shared → Prop} (X : K.In s.heap) (I : PySem.W.InstAt s.heap x ox C od)
    (hs : PySem.W.findIn K (.ref C) name = some (some (.builtin id))) (hb : ∀ self, bindSpecial (.builtin id) self = pure (.builtin id, [self])) (h : wpAny M A (call (.builtin id) (.ref x :: args)) (fun v => Q (some v)) E s) : wpAny M A (callSpecialIfBound? (.ref x) name args) Q E s := by
  simp only [callSpecialIfBound?, bindSpecialIfBound?]
  refine wpAny_holding (wpAny_bind (wpAny_bind (wpAny_bind (I.type.here ((PySem.W.looks_findIn X hs).here ?_)))))
  refine wpAny_bind (wpAny_askSetting (wpAny_ite ?_))
  have fin : wpAny M A (call (.builtin id) ([.ref x] ++ args) >>= fun v => pure (some v)) Q E s := wpAny_bind (wpAny_mono h (fun v s' h' => wpAny_pure h') fun _ _ h' => h')
  split
  · exact wpAny_bind ((PySem.W.Looks.of_pure (hb _)).here (wpAny_pure (by exact fin)))
  · exact wpAny_tryCatch (wpAny_bind ((PySem.W.Looks.of_pure (hb _)).here (wpAny_pure (by exact fin))))
theorem neK {prog : Program} {w : World} {A : Around} {E : Value → Shared → Prop} {s : Shared} {K : PySem.W.Frag} {x C f : Addr} {ox : Obj} {od : Option Obj} {b tb : Value} {Q : Value → Shared → Prop} (hu : A.units + 1 < cLine) (X : K.In s.heap) (I : PySem.W.InstAt s.heap x ox C od)
    (hb : PySem.W.Looks (model prog w) s.heap (typeOf b) tb) (hn : PySem.W.notFirst K C tb = true) (hne : PySem.W.findIn K (.ref C) "__ne__" = some (some (.builtin "object.__ne__"))) (hm : PySem.W.mroIn K C (.type "object") = some true)
    (hs : PySem.W.findIn K (.ref C) "__eq__" = some (some (.ref f))) (hf : PySem.W.isFn K (.ref f) = true)
    (h : wpAny (model prog w) A.in1 (call (.ref f) [.ref x, b]) (fun v s' => ∃ c, v = .bool c ∧ Q (.bool (!c)) s') E s) : wpAny (model prog w) A (richCompare .NotEq (.ref x) b) Q E s := by
  have one : wpAny (model prog w) A (tryCompare (.ref x) (cmpInfo .NotEq).2.1 b) (fun r s' => ∃ v, r = some v ∧ Q v s') E s := by
    unfold tryCompare
    refine wpAny_bind (ifBoundS X I hne PySem.F.cmp_object.ne.bind (wpAny_call (codeAny_call_builtin PySem.F.cmp_object.ne.plain PySem.F.cmpEntry_ne (PySem.W.check_slot (i := "object.__ne__") (owner := "object") (n := "__ne__") PySem.F.cmpKind_ne PySem.F.cmpSplit_ne (I.type.andThen (PySem.W.looks_mroIn X hm)) (PySem.F.cmpArgs_ne _ _) ?_))))
    unfold Builtin.«object.__ne__»
    refine wpAny_bind (m := slotArgs "__ne__" 1 _) (wpAny_pure ?_)
    refine wpAny_bind (m := cRoomFor _ _) (wpAny_cRoomFor hu ?_)
    refine wpAny_bind (m := callSpecialIfBound? (.ref x) (Str.ofString "__eq__") _) (PySem.W.ifBound_K X I hs hf (wpAny_mono h (fun r s' hq => ?_) fun _ _ y => y))
    obtain ⟨c, rfl, hq⟩ := hq
    exact wpAny_bind (wpAny_truthy_bool (wpAny_pure (wpAny_pure ⟨_, rfl, hq⟩)))
  unfold richCompare
  simp only [oneThing_ref]
  refine wpAny_holding (wpAny_bind (wpAny_cRoomFor (Nat.lt_of_succ_lt hu) ?_))
  refine wpAny_bind (I.type.here (wpAny_bind (hb.here ?_)))
  split
  · rename_i q
    have e : PySem.W.subIn K tb (.ref C) = some false := by
      rcases Bool.or_eq_true_iff.mp hn with e | e
      · rw [beq_iff_eq.mp e] at q; simp at q
      · exact beq_iff_eq.mp e
    refine wpAny_bind ((PySem.W.looks_subIn X e).here ?_)
    simp only [Bool.false_eq_true, if_false]
    refine wpAny_bind (wpAny_mono one (fun r s' z => ?_) fun _ _ e => e)
    obtain ⟨v, rfl, hq⟩ := z
    exact wpAny_pure hq
  · refine wpAny_bind (wpAny_pure ?_)
    simp only [Bool.false_eq_true, if_false]
    refine wpAny_bind (wpAny_mono one (fun r s' z => ?_) fun _ _ e => e)
    obtain ⟨v, rfl, hq⟩ := z
    exact wpAny_pure hq
def rdNeM (cs : List Str) (c : Str) (f : List D → M D) : RD2 := fun x y Q => match x with
  | .ins c' fs => c' = c ∧ eqKind cs y ∧ f [.ins c' fs, y] (fun d => blc d fun b => Q (.bl (!b))) F0
  | _ => False
theorem ok_neM {cs : List Str} (Fc : ClsF mg c C) (S : SpecOk P w mg base k C "__eq__" 2 f) (K : EqF mg C cs) (hne : PySem.W.findIn mg.K (.ref C) "__ne__" = some (some (.builtin "object.__ne__"))) (hr : ∀ j, RmG (k + 1) (Xs j).A) (hP : HPs Xs P w mg base := by intro _; exact ⟨rfl, rfl, rfl, rfl, rfl⟩) : OpOk Xs mg (compareOp .NotEq) (rdNeM cs c f) := by
  obtain ⟨fa, fd, ps, h1, h2, h3, hb, hl, G⟩ := S.ex
  refine ⟨fun x y H Q => ∃ a dx fs t, x = .ref a ∧ H a = some (.ins C dx fs) ∧ TyL mg.K H y t ∧ PySem.W.notFirst mg.K C t = true ∧ spD mg 2 f [.ref a, y] H (fun v H' => ∃ b, v = .bl b ∧ Q (.bl (!b)) H') E0, fun j => ?_, ?_⟩
  · obtain ⟨p1, p2, p3, p4, p5⟩ := hP j
    subst p1 p2 p5
    intro pins z σ H x y v u Q I rx ry h
    obtain ⟨a, dx, fs, t, rfl, ea, ty, hn, hs⟩ := h
    cases rx
    obtain ⟨mA, O, _⟩ := ins_get I.hok ea
    obtain ⟨od, J, _⟩ := O.look
    have kin := I.kIn
    rw [p3] at kin
    refine neK (by have := (hr j).r.un; omega) kin J (type_looks I ry (by rw [p3]; exact ty)) hn hne Fc.hm h1 h2 ?_
    refine wpAny_mono (callAt0 (X := Xs j) (by rw [p3, p4]; exact G) (hr j).in1 rfl (by rw [p3]; exact hb) I (vs := [.ref a, y]) (.cons (show RelV (.ref _) (.ref _) from rfl) (.cons ry .nil)) hs) (fun r z' hv => ?_) fun _ _ q => q
    obtain ⟨y, H', I', ry, b, rfl, hq⟩ := hv
    cases ry
    exact ⟨b, rfl, .bl (!b), H', I', rfl, hq⟩
  · intro W H x y dx dy Q Q' hh rx ry h q
    cases rx with
    | @ins a C' ax fs c' ds hc ha hk rs =>
      obtain ⟨rfl, hy, h⟩ := h
      have ec := Fc.eq hc
      subst ec
      obtain ⟨t, ty, hn⟩ := eqKind_v K hh ry hy
      refine ⟨a, ax, fs, t, rfl, hh.same _ _ ha, ty, hn, spD_of hh (.cons (.ins hc ha hk rs) (.cons ry .nil)) rfl h fun W' H' v d s' r' hd => ?_⟩
      cases r' with
      | bl b => exact ⟨b, rfl, q W' H' _ _ s' (.bl _) hd⟩
      | _ => exact hd.elim
    | _ => exact h.elim
end
end FP

/-! FP13: sets of texts: set(list of texts), sorted(set(..)), len(set(..)). -/
namespace FP
open PySem L2 PySem.Spec PyProof.Rows
variable [Tabl]
def keyS (e : Int × Value) : Str := match e.2 with
  | .str k _ => k
  | _ => Str.empty
def GoodS (w : World) (e : Int × Value) : Prop := ∃ k tk, e.2 = Value.str k tk ∧ e.1 = hashStr w k
/-- the set of texts at a has the members of M; its table can be walked -/
def SetS (w : World) (h : Heap) (a : Addr) (M : List Str) : Prop :=
  ∃ o es ep t, h.get? a = some o ∧ o.ExactSet ∧ o.data = .set es ep t ∧ (∀ e ∈ es.toList, GoodS w e) ∧ (es.toList.map keyS).Nodup ∧ (∀ k, k ∈ M ↔ k ∈ es.toList.map keyS) ∧
    es.size < scanBound ∧ t.fits es.size = true ∧ es.size ≤ M.length ∧ Ris t.place.toList ∧ (w.params.followText "set-order" = true ∨ t.led = true)
section
variable {P : Program} {w : World} {h h' : Heap} {a : Addr} {M : List Str}
theorem SetS.at (R : SetS w h a M) (k : ∀ o, h.get? a = some o → h'.get? a = some o) : SetS w h' a M := by
  obtain ⟨o, es, ep, t, ho, r⟩ := R
  exact ⟨o, es, ep, t, k o ho, r⟩
theorem goodS_elems {l : List (Int × Value)} (g : ∀ e ∈ l, GoodS w e) : ElemsOf (PySem.strKind P w) l := fun e he => by
  obtain ⟨k, tk, h1, h2⟩ := g e he
  exact ⟨⟨k, by rw [h1]; exact strKind_is P w k tk, h2⟩, by rw [h1] <;> rfl⟩
theorem goodS_is {e : Int × Value} (g : GoodS w e) (k : Str) : (PySem.strKind P w).is k e.2 = true ↔ keyS e = k := by
  obtain ⟨k0, tk, h1, _⟩ := g
  unfold keyS
  rw [h1]
  constructor
  · intro q
    obtain ⟨t, e⟩ := Value.isStrOf_shape (x := k) (v := .str k0 tk) q
    injection e
  · intro q
    have q' : k0 = k := q
    rw [q']
    exact strKind_is P w k tk
theorem goodS_mem {l : List (Int × Value)} (g : ∀ e ∈ l, GoodS w e) (k : Str) : k ∈ l.map keyS ↔ ∃ e ∈ l, (PySem.strKind P w).is k e.2 = true := by
  rw [List.mem_map]
  constructor
  · rintro ⟨e, he, q⟩
    exact ⟨e, he, (goodS_is (g e he) k).2 q⟩
  · rintro ⟨e, he, q⟩
    exact ⟨e, he, (goodS_is (g e he) k).1 q⟩
end
section
variable {P : Program} {w : World} {A : Around} {E : Value → Shared → Prop} {s : Shared} {a : Addr} {M : List Str}
theorem setS_tail {g : Bool → Sem Unit} (hg : ∀ (b : Bool) (s₁ : Shared) (Q' : Unit → Shared → Prop), Q' () s₁ → wpAny (model P w) A (g b) Q' E s₁)
    {o : Obj} {es : Array (Int × Value)} {ep : Nat} {t : SetTable} (ho : s.heap.get? a = some o) (hex : o.ExactSet) (hd : o.data = .set es ep t)
    {es1 : Array (Int × Value)} {t2 : SetTable} {M' : List Str} (g1 : ∀ e ∈ es1.toList, GoodS w e) (nd1 : (es1.toList.map keyS).Nodup) (m1 : ∀ k, k ∈ M' ↔ k ∈ es1.toList.map keyS)
    (hb1 : es1.size < scanBound) (hf2 : t2.fits es1.size = true) (hz : es1.size ≤ M'.length) (hr : Ris t2.place.toList) (hl : w.params.followText "set-order" = true ∨ t2.led = true) {wasDummy : Bool} {R : Option Bool → Shared → Prop}
    (hR : ∀ h', Heap.SameBut a s.heap h' → SetS w h' a M' → R (some true) { s with heap := h' }) :
    wpAny (model P w) A (do
        storeSet a es1 t2
        if (!wasDummy && t2.tooFull) = true then do
            g (relayAll t2 es1 (SetTable.grown es1.size)).2.2
            storeSet a (relayAll t2 es1 (SetTable.grown es1.size)).1 (relayAll t2 es1 (SetTable.grown es1.size)).2.1
            pure (some true)
          else pure (some true)) R E s := by
  refine wpAny_bind (wpAny_storeSet_of ho hd ?_ (fits_of_scanBound hb1))
  have ho1 := store_at (es' := es1) (t' := t2) ho hd
  have sb1 := Heap.SameBut.update s.heap a (Obj.putSet es1 t2)
  split
  · have pm := relayAll_perm t2 es1 (SetTable.grown es1.size)
    have hf3 := relayAll_fits t2 es1 (SetTable.grown es1.size)
    have hr3 := relayAll_ris t2 es1 (SetTable.grown es1.size)
    have hl3 := relayAll_led t2 es1 (SetTable.grown es1.size)
    generalize relayAll t2 es1 (SetTable.grown es1.size) = Z at pm hf3 hr3 hl3 ⊢
    obtain ⟨es2, t3, gave⟩ := Z
    dsimp only at pm hf3 hr3 hl3 ⊢
    have hsz : es2.size = es1.size := by rw [← Array.length_toList, pm.length_eq, Array.length_toList]
    have hb2 : es2.size < scanBound := by rw [hsz]; exact hb1
    refine wpAny_bind (hg _ _ _ ?_)
    refine wpAny_bind (wpAny_storeSet_of ho1 rfl ?_ (fits_of_scanBound hb2))
    have ho2 := store_at (es' := es2) (t' := t3) ho1 rfl
    refine wpAny_pure (hR _ (sb1.trans (Heap.SameBut.update _ a _)) ?_)
    exact ⟨_, es2, _, t3, ho2, hex, rfl, fun e he => g1 e (pm.mem_iff.mp he), (pm.map keyS).nodup_iff.mpr nd1, fun k => (m1 k).trans (pm.map keyS).mem_iff.symm, hb2, hf3, by rw [hsz]; exact hz, hr3,
      hl.imp id fun z => by rw [hl3]; exact z⟩
  · exact wpAny_pure (hR _ sb1 ⟨_, es1, _, t2, ho1, hex, rfl, g1, nd1, m1, hb1, hf2, hz, hr, hl⟩)
theorem setS_add_hashed {k : Str} {tk : Tok} {Q : Bool → Shared → Prop} (R : SetS w s.heap a M) (room : M.length + 1 < scanBound)
    (hQ : ∀ b h', Heap.SameBut a s.heap h' → SetS w h' a (M ++ [k]) → Q b { s with heap := h' }) :
    wpAny (model P w) A (setAddHashed a (.str k tk) ((PySem.strKind P w).hash k)) Q E s := by
  obtain ⟨o, es, ep, t, ho, hex, hd, g, nd, hm, hb, hf, hn, hr, hl⟩ := R
  have hkey : (PySem.strKind P w).is k (.str k tk) = true := strKind_is P w k tk
  have hsc : (Value.str k tk).scannable = true := rfl
  have hel : ElemsOf (PySem.strKind P w) es.toList := goodS_elems g
  unfold setAddHashed setAddHashedIn
  refine wpAny_holding (wpAny_bind (wpAny_setState_of ho hd hf ?_))
  dsimp only
  rw [byScan_of hsc hb hel]
  simp only [↓reduceIte]
  unfold setAddByScan
  refine wpAny_bind ?_
  refine wpAny_bind (wpAny_rule ?_)
  refine wpAny_bind (wpAny_setScan_of hkey ho hd hf hel ?_)
  cases hfi : List.findIdx? (fun e => (PySem.strKind P w).is k e.2) es.toList with
  | some j =>
    dsimp only
    obtain ⟨hj, pj, _⟩ := List.findIdx?_eq_some_iff_getElem.mp hfi
    have hSk : k ∈ M := (hm k).2 ((goodS_mem (P := P) (w := w) g k).2 ⟨es.toList[j], List.getElem_mem hj, pj⟩)
    refine wpAny_pure (wpAny_pure ?_)
    exact hQ _ s.heap (Heap.SameBut.refl a s.heap) ⟨o, es, ep, t, ho, hex, hd, g, nd, fun i => by
      rw [List.mem_append, List.mem_singleton, ← hm i]
      exact ⟨fun z => z.elim id (fun e => e ▸ hSk), .inl⟩, hb, hf, by rw [List.length_append]; omega, hr, hl⟩
  | none =>
    dsimp only
    have hnk : k ∉ es.toList.map keyS := fun z => by
      obtain ⟨e, he, q⟩ := (goodS_mem (P := P) (w := w) g k).1 z
      have c := List.findIdx?_eq_none_iff.mp hfi e he
      rw [q] at c
      cases c
    have hgw : ∀ (b : Bool) {s₁ : Shared} {Q' : Unit → Shared → Prop}, Q' () s₁ → wpAny (model P w) A (match b with | true => rule "set.scan.the-table-gave-way" | false => pure ()) Q' E s₁ :=
      fun b s₁ Q' q => by cases b <;> first | exact wpAny_pure q | exact wpAny_rule q
    have pm := layNew_perm t es ((PySem.strKind P w).hash k) (.str k tk)
    have hf1 := layNew_fits t es ((PySem.strKind P w).hash k) (.str k tk)
    have hr1 := layNew_ris t es ((PySem.strKind P w).hash k) (.str k tk) hr
    have hl1 := layNew_led t es ((PySem.strKind P w).hash k) (.str k tk)
    generalize layNew t es ((PySem.strKind P w).hash k) (.str k tk) = Z at pm hf1 hr1 hl1 ⊢
    obtain ⟨es1, t1, wasDummy, gave⟩ := Z
    dsimp only at pm hf1 hr1 hl1 ⊢
    rw [Array.toList_push] at pm
    have pc : es1.toList.Perm (((PySem.strKind P w).hash k, Value.str k tk) :: es.toList) := pm.trans (List.perm_append_singleton _ _)
    have pk : (es1.toList.map keyS).Perm (k :: es.toList.map keyS) := pc.map keyS
    have g1 : ∀ e ∈ es1.toList, GoodS w e := fun e he => by
      rcases List.mem_cons.mp (pc.mem_iff.mp he) with z | z
      · rw [z]; exact ⟨k, tk, rfl, rfl⟩
      · exact g e z
    have nd1 : (es1.toList.map keyS).Nodup := pk.nodup_iff.mpr (List.nodup_cons.mpr ⟨hnk, nd⟩)
    have m1 : ∀ i, i ∈ M ++ [k] ↔ i ∈ es1.toList.map keyS := fun i => by
      rw [List.mem_append, List.mem_singleton, hm i, pk.mem_iff, List.mem_cons]
      exact Or.comm
    have hsz : es1.size = es.size + 1 := by rw [← Array.length_toList, pc.length_eq, List.length_cons, Array.length_toList]
    have hb1 : es1.size < scanBound := by rw [hsz]; omega
    have hzz : es1.size ≤ (M ++ [k]).length := by rw [hsz, List.length_append]; simp; exact hn
    have hled : w.params.followText "set-order" = true ∨ t1.led = true := hl.imp id fun z => by rw [hl1]; exact z
    refine wpAny_bind (hgw _ ?_)
    split
    · refine wpAny_bind ?_
      rw [hashByValue_scannable 8 hsc]
      refine wpAny_pure ?_
      refine setS_tail (M' := M ++ [k]) ?_ ho hex hd g1 nd1 m1 hb1 ?_ hzz ?_ ?_ ?_
      · intro b s₁ Q' q; cases b <;> first | exact wpAny_pure q | exact wpAny_rule q
      · first | (split <;> first | exact hf1 | exact SetTable.fits_plain_off hf1) | exact hf1
      · first | (split <;> exact hr1) | exact hr1
      · first | (split <;> exact hled) | exact hled
      · intro h' sb r; dsimp only; exact wpAny_pure (hQ _ h' sb r)
    · refine wpAny_bind (wpAny_pure ?_)
      simp only [↓reduceIte]
      refine setS_tail (M' := M ++ [k]) ?_ ho hex hd g1 nd1 m1 hb1 hf1 hzz hr1 hled ?_
      · intro b s₁ Q' q; cases b <;> first | exact wpAny_pure q | exact wpAny_rule q
      · intro h' sb r; dsimp only; exact wpAny_pure (hQ _ h' sb r)
end
/-! ### set(list of texts) -/
theorem strsAt : ∀ {us : List Value} {xs : List Str}, StrsAre us xs → ∀ (i : Nat) (v : Value), us[i]? = some v → ∃ t, v = .str (xs.getD i Str.empty) t
  | _, _, .nil, i, v, h => by simp at h
  | _, _, .cons n t hr, 0, v, h => by simp at h; exact ⟨t, by rw [← h]; rfl⟩
  | _, _, .cons n t hr, i + 1, v, h => by
    simp only [List.getElem?_cons_succ] at h
    obtain ⟨t', e⟩ := strsAt hr i v h
    exact ⟨t', by rw [e]; rfl⟩
section
variable {prog : Program} {w : World} {A : Around} {R : Result → Shared → Prop} {I : Addr} {fp wr : List Addr} {G : Array GenState → Array GenState → Prop} {n : Nat} {P : Nat → Value → Prop} {St : Nat → Shared → Prop}
theorem loopS (W : WalksS prog w A.in1 I fp wr G n P St) (S : Addr) (hSf : S ∉ fp) (xs : List Str) (hsz : xs.length = n) (hb : n + 1 < scanBound)
    (hval : ∀ i v, P i v → ∃ t, v = .str (xs.getD i Str.empty) t) :
    ∀ (k i : Nat) (s : Shared), n - i = k → i ≤ n → St i s → SetS w s.heap S (xs.take i) →
      (∀ s', Moved (S :: wr) G s s' → SetS w s'.heap S xs → R (.ok (.ret .none)) s') →
      codeAny (model prog w) A (.builtin "set.update.loop" ⟨[.ref S, .ref I], []⟩) R s := by
  have hSw : S ∉ wr := fun h => hSf (W.sub _ h)
  have hsub : ∀ b ∈ wr, b ∈ S :: wr := fun b hb => List.mem_cons_of_mem _ hb
  intro k
  induction k with
  | zero =>
    intro i s hk hi hst hS hR
    have hin : i = n := by omega
    subst hin
    refine codeAny_builtin PyProof.Rows.F.entry_set_update_loop ?_
    rw [Around.under_plainId PyProof.Rows.F.plain_set_update_loop _]
    show wpAny _ A.in1 (pyNext (.ref I) >>= _) _ _ s
    refine wpAny_bind (W.done s _ _ hst fun s' hm => ?_)
    show wpAny _ A.in1 (ret Value.none) _ _ s'
    rw [List.take_of_length_le (by omega)] at hS
    exact wpAny_pure (hR s' (hm.mono hsub) (hS.at fun o e => hm.heap S o hSw e))
  | succ k ih =>
    intro i s hk hi hst hS hR
    have hlt : i < n := by omega
    refine codeAny_builtin PyProof.Rows.F.entry_set_update_loop ?_
    rw [Around.under_plainId PyProof.Rows.F.plain_set_update_loop _]
    show wpAny _ A.in1 (pyNext (.ref I) >>= _) _ _ s
    refine wpAny_bind (W.item i s _ _ hlt hst fun v s' hP hst' hm => ?_)
    obtain ⟨t, rfl⟩ := hval i v hP
    have hS' := hS.at (h' := s'.heap) fun o e => hm.heap S o hSw e
    show wpAny _ A.in1 (holding [Value.str (xs.getD i Str.empty) t] (setAdd S (.str (xs.getD i Str.empty) t)) >>= _) _ _ s'
    refine wpAny_bind (wpAny_holding ?_)
    unfold setAdd
    refine wpAny_holding ?_
    refine wpAny_bind ((PySem.strKind prog w).pyHash (k := xs.getD i Str.empty) (strKind_is _ _ _ _) ?_)
    refine setS_add_hashed (s := { s' with toks := s'.toks + 1 }) hS' (by rw [List.length_take]; omega) fun b h' hsb hS2 => ?_
    have e1 : xs.take i ++ [xs.getD i Str.empty] = xs.take (i + 1) := by
      rw [List.take_add_one, List.getElem?_eq_getElem (by omega), List.getD_eq_getElem?_getD, List.getElem?_eq_getElem (by omega)]
      rfl
    rw [e1] at hS2
    refine wpAny_pure ⟨plainId_quiet PyProof.Rows.F.plain_set_update_loop _, ih (i + 1) _ (by omega) hlt (W.frame _ s' _ _ hst' (Nat.le_succ _) fun b hb o e => ?_) hS2 fun s'' hm'' hS'' => ?_⟩
    · rw [hsb.2 b (fun h : b = S => hSf (by rw [← h]; exact hb))]; exact e
    · refine hR s'' (Moved.trans W.gtrans ((hm.mono hsub).then_heap (Nat.le_succ _) fun b o hb e => ?_) hm'') hS''
      rw [hsb.2 b (fun h : b = S => hb (by rw [h]; exact List.mem_cons_self))]; exact e
end
section
variable {prog : Program} {w : World} {A : Around} {E : Value → Shared → Prop} {s : Shared}
theorem setNew_led (a : Value) {Q₁ : Value → Shared → Prop}
    (h : Q₁ (.ref s.heap.objs.size) { s with heap := s.heap.push { cls := .type "set", dict := none, data := .set #[] 0 (.fresh 0 0 (!w.params.followText "set-order")) } }) :
    codeAny (model prog w) A (.call (.builtin "set.__new__") ⟨[.type "set", a], []⟩) (wants Q₁ E) s := by
  refine codeAny_of_tree ?_
  show wpAny _ A.in1 (do checkBuiltinCall "set.__new__" ⟨[.type "set", a], []⟩; again (.builtin "set.__new__" ⟨[.type "set", a], []⟩)) _ _ s
  refine wpAny_bind (wpAny_of_eq (PySem.F.newCall_set_1 a) (wpAny_pure ⟨plainId_quiet PySem.F.plain_set_new _, codeAny_builtin PySem.F.entry_set_new ?_⟩))
  rw [Around.under_plainId PySem.F.plain_set_new _]
  unfold Builtin.«set.__new__» Builtin.Frozenset.newClass
  have hsub := sub_set_self
  obtain ⟨hp, g, d, tk, os⟩ := s
  dsimp only
  wp_walk
  refine wpAny_askSetting (wpAny_pure ?_)
  dsimp only
  simp only [newObj]
  refine wpAny_bind (wpAny_alloc (wpAny_pure ?_))
  exact wpAny_pure h
theorem setS_fresh {h : Heap} (w : World) : SetS w (h.push { cls := .type "set", dict := none, data := .set #[] 0 (.fresh 0 0 (!w.params.followText "set-order")) }) h.objs.size [] :=
  ⟨_, #[], 0, _, Heap.get?_push_size _ rfl, ⟨rfl, rfl, rfl⟩, rfl, (fun e he => by simp at he), (by simp), (fun k => by simp), (by decide), (by rfl), Nat.le_refl _, List.Pairwise.nil, by
    show _ ∨ (!w.params.followText "set-order") = true
    cases w.params.followText "set-order"
    · exact .inr rfl
    · exact .inl rfl⟩
theorem setS_list {l : Addr} {items : Array Value} {xs : List Str} {Q : Value → Shared → Prop}
    (hh : A.handled = none) (hl : s.heap.IsList l items) (hi : PyProof.Rows.StrsAre items.toList xs) (hb : xs.length + 1 < scanBound)
    (h : ∀ (h' : Heap) (tk : Nat), SetS w h' s.heap.objs.size xs → (∀ b o, b < s.heap.objs.size → s.heap.get? b = some o → h'.get? b = some o) → Q (.ref s.heap.objs.size) { s with heap := h', toks := tk }) :
    wpAny (model prog w) A (call (.type "set") [.ref l]) Q E s := by
  obtain ⟨c, tl, hmro⟩ := PySem.F.called_set.mro
  have hmade := PySem.F.called_set.made
  have hsub := PySem.F.called_set.sub
  refine wpAny_call (codeAny_of_tree ?_)
  show wpAny _ _ (callAny (.type "set") _) _ _ _
  refine wpAny_pure ⟨Code.quiet_builtin _ (by decide +kernel), codeAny_builtin PySem.F.entry_type_call ?_⟩
  rw [Around.under_plain (weight_type_call_type "set" [.ref l] []) rfl]
  have h1 := PySem.F.called_set.notType
  have h2 := PySem.F.called_set.canCreate
  have hct := PySem.F.typeCall_set_1 (.ref l)
  repeat (any_goals (first | assumption | wp_step))
  generalize hled : (!w.params.followText "set-order") = led
  refine codeAny_mono (setNew_led (.ref l) (E := E) (Q₁ := fun obj s₁ => obj = .ref s.heap.objs.size ∧ s₁ = { s with heap := s.heap.push { cls := .type "set", dict := none, data := .set #[] 0 (.fresh 0 0 led) } }) (by rw [hled]; exact ⟨rfl, rfl⟩)) fun r s₁ hr => ?_
  cases r with
  | error e => exact hr
  | ok fl =>
    cases fl with
    | ret obj =>
      obtain ⟨rfl, rfl⟩ := hr
      have hS : (s.heap.push { cls := .type "set", dict := none, data := .set #[] 0 (.fresh 0 0 led) }).get? s.heap.objs.size = some { cls := .type "set", dict := none, data := .set #[] 0 (.fresh 0 0 led) } := Heap.get?_push_size _ rfl
      have hT : Shared.TypeIs { s with heap := s.heap.push { cls := .type "set", dict := none, data := .set #[] 0 (.fresh 0 0 led) } } (.ref s.heap.objs.size) "set" := ⟨_, hS, rfl⟩
      have hli := PySem.F.called_set.init.lookup
      have hbi := PySem.F.called_set.init.bind (.ref s.heap.objs.size)
      repeat (any_goals (first | assumption | wp_step))
      refine codeAny_mono (codeAny_call_builtin (R := wants (fun r s₂ => r = .none ∧ ∃ h' tk, s₂ = { s with heap := h', toks := tk } ∧
          SetS w h' s.heap.objs.size xs ∧ (∀ b o, b < s.heap.objs.size → s.heap.get? b = some o → h'.get? b = some o)) E) PySem.F.called_set.init.plain PySem.F.entry_set_init (check_set_init_1 hT ?_)) fun r₂ s₂ hr₂ => ?_
      · obtain ⟨ol, hol, hcl, nl, hdl⟩ := hl
        obtain ⟨ocls, odict, odata, oslots⟩ := ol
        simp only at hcl hdl
        subst hcl; subst hdl
        have hol' : (s.heap.push { cls := .type "set", dict := none, data := .set #[] 0 (.fresh 0 0 led) }).get? l = some { cls := .type "list", dict := odict, data := .seq items nl, slots := oslots } := Heap.get?_push_of_some _ hol
        have hsls := PySem.F.sub_list_set
        have hslf := PySem.F.sub_list_frozenset
        have hne : (Value.type "list" == Value.type "dict") = false := by decide
        have hl1 : (s.heap.push { cls := .type "set", dict := none, data := .set #[] 0 (.fresh 0 0 led) }).IsList l items := ⟨_, hol', rfl, nl, rfl⟩
        unfold Builtin.«set.__init__» noKeywords Builtin.Frozenset.updateFrom
        generalize hPI : pyIter = PI
        wp_walk
        subst hPI
        refine wpAny_pyIter_list hl1 ?_
        refine wpAny_bind (wpAny_runValue ?_)
        have hlS : l < s.heap.objs.size := Heap.lt_size hol
        have hh3 : A.in1.in1.in1.handled = none := by simp [hh]
        have hneI : l ≠ (s.heap.push { cls := .type "set", dict := none, data := .set #[] 0 (.fresh 0 0 led) }).objs.size := by
          rw [Heap.size_push]; exact Nat.ne_of_lt (Nat.lt_succ_of_lt hlS)
        have hSf : s.heap.objs.size ∉ [(s.heap.push { cls := .type "set", dict := none, data := .set #[] 0 (.fresh 0 0 led) }).objs.size, l] := by
          rw [Heap.size_push]; simp only [List.mem_cons, List.mem_singleton, List.not_mem_nil, or_false, not_or]
          exact ⟨Nat.ne_of_lt (Nat.lt_succ_self _), Nat.ne_of_gt hlS⟩
        have hsz : xs.length = items.size := by rw [← StrsAre.len_eq hi, Array.length_toList]
        have hval : ∀ (i : Nat) (v : Value), items[i]? = some v → ∃ t, v = .str (xs.getD i Str.empty) t := fun i v hv => strsAt hi i v (by rw [Array.getElem?_toList]; exact hv)
        refine loopS ((Walks.list hh3 _ l hneI items).toS) s.heap.objs.size
          hSf xs hsz (by rw [← hsz]; exact hb) hval (items.size - 0) 0 _ (by omega) (Nat.zero_le _)
          ⟨⟨_, Heap.get?_push_size _ rfl, rfl, rfl⟩, (hl1.push _)⟩ ?hS0 ?hR
        case hS0 =>
          rw [List.take_zero, ← hled]
          exact (setS_fresh w).at fun o e => Heap.get?_push_of_some _ e
        case hR =>
          intro s' hm hS'
          obtain ⟨h', g', d', tk', os'⟩ := s'
          have eg : g' = s.gens := hm.gens
          have ed : d' = s.drawn := hm.drawn
          have eo : os' = s.os := hm.os
          subst eg; subst ed; subst eo
          show wpAny _ _ _ _ _ _
          refine wpAny_pure ?_
          show wpAny _ _ (ret Value.none) _ _ _
          refine wpAny_pure ⟨rfl, h', tk', rfl, hS', fun b o hb e => ?_⟩
          have hb1 : b ≠ s.heap.objs.size := Nat.ne_of_lt hb
          have hb2 : b ≠ (s.heap.push { cls := .type "set", dict := none, data := .set #[] 0 (.fresh 0 0 led) }).objs.size := by
            rw [Heap.size_push]; exact Nat.ne_of_lt (Nat.lt_succ_of_lt hb)
          exact hm.heap b o (by simp only [List.mem_cons, List.mem_singleton, List.not_mem_nil, or_false, not_or]; exact ⟨hb1, hb2⟩) (Heap.get?_push_of_some _ (Heap.get?_push_of_some _ e))
      · cases r₂ with
        | error e => exact hr₂
        | ok fl₂ =>
          cases fl₂ with
          | ret r =>
            obtain ⟨rfl, h', tk, rfl, hS', hk'⟩ := hr₂
            repeat (any_goals (first | assumption | wp_step))
            exact h _ _ hS' hk'
          | _ => exact hr₂.elim
    | _ => exact hr.elim
end
end FP

/-! FP14: the order of texts; sorted(texts), sorted(set(texts)), len(set(texts)). -/
namespace FP
open PySem L2 PySem.Spec PyProof.Rows
variable [Tabl]
/-! ### the order of texts, pure -/
abbrev ltS (a b : Str) : Bool := ltCps a.cps.toList b.cps.toList
theorem ltS_iff {a b : Str} : ltS a b = true ↔ a.cps.toList < b.cps.toList := by
  unfold ltS
  rw [ltCps_eq]
  exact decide_eq_true_iff
theorem ltS_irrefl (a : Str) : ltS a a = false := by
  cases q : ltS a a with
  | false => rfl
  | true => exact (List.lt_irrefl _ (ltS_iff.mp q)).elim
theorem ltS_trans {a b c : Str} (h : ltS a b = true) (g : ltS b c = true) : ltS a c = true := ltS_iff.mpr (List.lt_trans (ltS_iff.mp h) (ltS_iff.mp g))
theorem str_of_list {a b : Str} (h : a.cps.toList = b.cps.toList) : a = b := by
  cases a; cases b
  simp only [Str.mk.injEq]
  exact Array.toList_inj.mp h
theorem ltS_tri {a b : Str} (h : ltS a b = false) (g : ltS b a = false) : a = b := by
  have h1 : ¬ a.cps.toList < b.cps.toList := fun z => by rw [ltS_iff.mpr z] at h; cases h
  have h2 : ¬ b.cps.toList < a.cps.toList := fun z => by rw [ltS_iff.mpr z] at g; cases g
  exact str_of_list (List.le_antisymm (List.not_lt.mp h2) (List.not_lt.mp h1))
theorem ltS_asym {a b : Str} (h : ltS a b = true) : ltS b a = false := by
  cases q : ltS b a with
  | false => rfl
  | true => have := ltS_trans h q; rw [ltS_irrefl] at this; cases this
theorem geS_trans {a b c : Str} (h : ltS b a = false) (g : ltS c b = false) : ltS c a = false := by
  cases q : ltS c a with
  | false => rfl
  | true =>
    by_cases e : a = b
    · rw [e] at q; rw [q] at g; cases g
    · have : ltS a b = true := by
        cases z : ltS a b with
        | true => rfl
        | false => exact (e (ltS_tri z h)).elim
      rw [ltS_trans q this] at g
      cases g
abbrev UpS (l : List Str) : Prop := l.Pairwise (fun a b => ltS b a = false)
abbrev Up (l : List Str) : Prop := l.Pairwise (fun a b => ltS a b = true)
theorem risingS_up : ∀ (l : List Str) (p : Str), risingS p l = true → (∀ x ∈ l, ltS x p = false) ∧ UpS l
  | [], p, _ => ⟨(fun x h => by cases h), List.Pairwise.nil⟩
  | y :: r, p, h => by
    have h' : (!ltS y p && risingS y r) = true := h
    rw [Bool.and_eq_true, Bool.not_eq_true'] at h'
    obtain ⟨i1, i2⟩ := risingS_up r y h'.2
    refine ⟨fun x hx => ?_, List.pairwise_cons.mpr ⟨i1, i2⟩⟩
    cases hx with
    | head => exact h'.1
    | tail _ hx => exact geS_trans h'.1 (i1 x hx)
theorem sortedS_up {l : List Str} (h : sortedS l = true) : UpS l := by
  cases l with
  | nil => exact .nil
  | cons x r =>
    obtain ⟨i1, i2⟩ := risingS_up r x h
    exact List.pairwise_cons.mpr ⟨i1, i2⟩
def insS (x : Str) : List Str → List Str
  | [] => [x]
  | y :: r => if ltS y x then y :: insS x r else x :: y :: r
def sortS : List Str → List Str
  | [] => []
  | x :: r => insS x (sortS r)
theorem insS_perm (x : Str) : ∀ l, (insS x l).Perm (x :: l)
  | [] => .refl _
  | y :: r => by
    unfold insS
    split
    · exact ((insS_perm x r).cons y).trans (.swap ..)
    · exact .refl _
theorem sortS_perm : ∀ l, (sortS l).Perm l
  | [] => .refl _
  | x :: r => (insS_perm x _).trans ((sortS_perm r).cons x)
theorem insS_up {x : Str} : ∀ {l}, UpS l → UpS (insS x l)
  | [], _ => List.pairwise_singleton _ _
  | y :: r, h => by
    obtain ⟨h1, h2⟩ := List.pairwise_cons.mp h
    unfold insS
    split
    · rename_i q
      refine List.pairwise_cons.mpr ⟨fun z hz => ?_, insS_up h2⟩
      rcases List.mem_cons.mp ((insS_perm x r).mem_iff.mp hz) with e | e
      · rw [e]; exact ltS_asym q
      · exact h1 z e
    · rename_i q
      have q' : ltS y x = false := by simpa using q
      refine List.pairwise_cons.mpr ⟨fun z hz => ?_, h⟩
      rcases List.mem_cons.mp hz with e | e
      · rw [e]; exact q'
      · exact geS_trans q' (h1 z e)
theorem sortS_up : ∀ l, UpS (sortS l)
  | [] => .nil
  | x :: r => insS_up (sortS_up r)
theorem upS_eq {l l' : List Str} (h : UpS l) (h' : UpS l') (p : l.Perm l') : l = l' := List.Perm.eq_of_pairwise (fun a b _ _ x y => ltS_tri y x) h h' p
theorem sortS_eq {l xs : List Str} (p : l.Perm xs) (h : sortedS l = true) : l = sortS xs := upS_eq (sortedS_up h) (sortS_up xs) (p.trans (sortS_perm xs).symm)
/-- without what comes twice -/
def nubS : List Str → List Str
  | [] => []
  | x :: r => if x ∈ nubS r then nubS r else x :: nubS r
theorem nubS_mem {k : Str} : ∀ {l}, k ∈ nubS l ↔ k ∈ l
  | [] => Iff.rfl
  | x :: r => by
    unfold nubS
    split
    · rename_i h
      rw [nubS_mem, List.mem_cons]
      exact ⟨.inr, fun z => z.elim (fun e => by rw [e]; exact nubS_mem.mp h) id⟩
    · rw [List.mem_cons, List.mem_cons, nubS_mem]
theorem nubS_nodup : ∀ l, (nubS l).Nodup
  | [] => .nil
  | x :: r => by
    unfold nubS
    split
    · exact nubS_nodup r
    · rename_i h
      exact List.nodup_cons.mpr ⟨h, nubS_nodup r⟩
theorem nubS_len : ∀ l, (nubS l).length ≤ l.length
  | [] => Nat.le_refl _
  | x :: r => by
    unfold nubS
    have := nubS_len r
    split
    · rw [List.length_cons]; omega
    · rw [List.length_cons, List.length_cons]; omega
/-- sorted(set(l)) -/
def sortU (l : List Str) : List Str := sortS (nubS l)
theorem sortU_mem {k : Str} {l : List Str} : k ∈ sortU l ↔ k ∈ l := by
  unfold sortU
  rw [(sortS_perm _).mem_iff, nubS_mem]
theorem sortU_len (l : List Str) : (sortU l).length ≤ l.length := by
  unfold sortU
  rw [(sortS_perm _).length_eq]
  exact nubS_len l
theorem sortU_nodup (l : List Str) : (sortU l).Nodup := (sortS_perm _).nodup_iff.mpr (nubS_nodup l)
theorem nodup_perm {l l' : List Str} (h : l.Nodup) (h' : l'.Nodup) (m : ∀ k, k ∈ l ↔ k ∈ l') : l.Perm l' := by
  rw [List.perm_iff_count]
  intro a
  rw [h.count, h'.count]
  by_cases q : a ∈ l
  · rw [if_pos q, if_pos ((m a).mp q)]
  · rw [if_neg q, if_neg fun z => q ((m a).mpr z)]
theorem sortU_congr {l l' : List Str} (m : ∀ k, k ∈ l ↔ k ∈ l') : sortU l = sortU l' :=
  upS_eq (sortS_up _) (sortS_up _) (nodup_perm (sortU_nodup l) (sortU_nodup l') fun k => by rw [sortU_mem, sortU_mem]; exact m k)
theorem sortU_up (l : List Str) : Up (sortU l) := by
  have h := sortS_up (nubS l)
  have d := sortU_nodup l
  refine List.Pairwise.imp (R := fun a b => ltS b a = false ∧ a ≠ b) (fun {a b} z => ?_) (List.Pairwise.and h d)
  cases q : ltS a b with
  | true => rfl
  | false => exact (z.2 (ltS_tri q z.1)).elim
/-! ### the rules -/
def SetSO (w : World) (a : Addr) (M : List Str) : HO := .ext fun h => SetS w h a M
section
variable {X : Cx}
theorem setSO_new {w : World} {P : Program} {H : Hp} {h : Heap} {a : Addr} {M : List Str} (R : SetS w h a M) : ObjOk P w H h a (SetSO w a M) := by
  have ⟨o, _, _, _, ho, _⟩ := R
  exact ⟨R, ⟨o, ho⟩, fun h1 h2 p k => SetS.at p k⟩
theorem setSO_get {pins : List (Addr × Obj)} {σ : L2.St} {H : Hp} {s : Shared} {a : Addr} {M : List Str} (I : Inv X pins σ H s) (ha : H a = some (SetSO X.w a M)) : SetS X.w s.heap a M := (I.hok a _ ha).1
def rSetL (K : PySem.W.Frag) (w : World) : List V → Hp → VK → Prop := fun vs H Q => ∃ (l : Addr) (xs : List Str), vs = [V.ref l] ∧ SqL K H l (xs.map V.str) ∧ xs.length + 1 < scanBound ∧ ∀ p, H p = none → Q (.ref p) (upd H p (SetSO w p xs))
theorem cr_setL (hc : X.calm = true) : CallR X (.type "set") (rSetL X.K X.w) := by
  intro pins s σ H vs us Q I r h
  obtain ⟨a, xs, rfl, hs, hb, q⟩ := h
  obtain ⟨its, rv, hl, _⟩ := I.list hs
  rw [Vals.ref1 r]
  refine setS_list (I.ok.hd hc) hl.isList rv.strs hb fun h' tk new k => ?_
  exact ⟨.ref _, upd H s.heap.objs.size (SetSO X.w s.heap.objs.size xs), I.laid (t' := tk) (fun b u e => k b u (Heap.lt_size e) e) (Nat.le_refl _) (setSO_new new), rfl, q _ (I.hok.fresh (Nat.le_refl _))⟩
theorem setS_perm {w : World} {es : Array (Int × Value)} {M : List Str} (nd : (es.toList.map keyS).Nodup) (hm : ∀ k, k ∈ M ↔ k ∈ es.toList.map keyS) : (es.toList.map keyS).Perm (sortU M) :=
  nodup_perm nd (sortU_nodup M) fun k => by rw [sortU_mem, hm k]
def rLenSS (w : World) : List V → Hp → VK → Prop := fun vs H Q => ∃ (a : Addr) (M : List Str), vs = [V.ref a] ∧ H a = some (SetSO w a M) ∧ Q (.int (sortU M).length) H
theorem cr_lenSS : CallR X (.builtin "len") (rLenSS X.w) := by
  intro pins s σ H vs us Q I r h
  obtain ⟨a, M, rfl, ha, q⟩ := h
  obtain ⟨o, es, ep, t, ho, hex, hd, g, nd, hm, hb, hf, hn, hr, hl⟩ := setSO_get I ha
  rw [Vals.ref1 r]
  have e := (setS_perm (w := X.w) nd hm).length_eq
  rw [List.length_map, Array.length_toList] at e
  refine call_len_set ho hex hd hf (by have : es.size < 4096 := hb; omega) ⟨.int (sortU M).length, H, I.tok _, ⟨_, by rw [← e]⟩, q⟩
theorem strsOf : ∀ (l : List Value), (∀ v ∈ l, ∃ k tk, v = Value.str k tk) → StrsAre l (l.map fun v => keyS (0, v))
  | [], _ => .nil
  | v :: l, h => by
    obtain ⟨k, tk, rfl⟩ := h v List.mem_cons_self
    exact .cons k tk (strsOf l fun u hu => h u (List.mem_cons_of_mem _ hu))
def rSortSS (w : World) : List V → Hp → VK → Prop := fun vs H Q => ∃ (a : Addr) (M : List Str), vs = [V.ref a] ∧ H a = some (SetSO w a M) ∧ ∀ p, H p = none → Q (.ref p) (upd H p (.lst ((sortU M).map V.str)))
theorem cr_sortSS (hc : X.calm = true) : CallR X (.builtin "sorted") (rSortSS X.w) := by
  intro pins s σ H vs us Q I r h
  obtain ⟨a, M, rfl, ha, q⟩ := h
  obtain ⟨o, es, ep, t, ho, hex, hd, g, nd, hm, hb, hf, hn, hr, hl⟩ := setSO_get I ha
  rw [Vals.ref1 r]
  have pe := setS_perm (w := X.w) nd hm
  refine Calls.call_function_entry kind_sorted plain_sorted entry_sorted (args_sorted1 _) ?_
  unfold Builtin.«sorted»
  refine wpAny_bind (m := checkCount "sorted" 1 1 _) (wpAny_pure ?_)
  refine wpAny_bind (collect_set (A := X.A.in1) (I.ok.hd hc) ⟨o, ho, hex.1, hd⟩ hf hb hr hl fun s1 vs k1 hz g1 o1 pm => ?_)
  have hvl : vs.length = es.size := by rw [pm.length_eq, List.length_map, Array.length_toList]
  have h4 : es.size < 4096 := hb
  have hs0 : vs.length ≤ sizeLine := by rw [hvl, sizeLine_eq]; omega
  have hI : StrsAre vs (vs.map fun v => keyS (0, v)) := strsOf vs fun v hv => by
    obtain ⟨e, he, q⟩ := List.mem_map.mp (pm.mem_iff.mp hv)
    obtain ⟨k, tk, h1, _⟩ := g e he
    exact ⟨k, tk, by rw [← q]; exact h1⟩
  have pk : (vs.map fun v => keyS (0, v)).Perm (es.toList.map keyS) := by
    have q := pm.map fun v => keyS (0, v)
    rw [List.map_map] at q
    exact q
  refine wpAny_bind (wpAny_newList ?_ hs0)
  have hoL : (s1.heap.push (seqObj "list" vs.toArray 0)).get? s1.heap.objs.size = some (seqObj "list" vs.toArray 0) := Heap.get?_push_size _ rfl
  refine wpAny_bind (wpAny_holding (wpAny_call_entry slot_list_sort ⟨_, hoL, rfl⟩ entry_list_sort (list_sort_treeKAny strKind_oneLt hoL hI.keysOf (fun v₁ v₂ rest e => keyKind_strs (by rw [← e]; exact hI)) hs0 fun st' hp hs => ⟨_, rfl, ?_⟩) (args_list_sort _)))
  obtain ⟨ys, q1, q2, q3⟩ := sorted_out_str hI hp hs
  obtain ⟨c, hc'⟩ := sortedHeap_at (vs := vs) (out := (arrOf st').map (·.2)) hoL
  have ey : ys = sortU M := upS_eq (sortedS_up q3) (sortS_up _) (q2.trans (pk.trans pe))
  subst ey
  have hlen : ((sortU M).map V.str).length ≤ sizeLine := by rw [List.length_map, q2.length_eq, List.length_map]; exact hs0
  have hn : H s1.heap.objs.size = none := I.hok.fresh hz
  have kk : ∀ b u, s.heap.get? b = some u → (sortedHeap (s1.heap.push (seqObj "list" vs.toArray 0)) s1.heap.objs.size vs ((arrOf st').map (·.2))).get? b = some u := fun b u e => by
    have q := k1 b u e
    have hlt := Heap.lt_size q
    rw [sortedHeap_old (Nat.ne_of_lt hlt) (by rw [size_push']; exact Nat.lt_succ_of_lt hlt)]
    exact Heap.get?_push_of_some _ q
  have J : Inv X pins σ (upd H s1.heap.objs.size (.lst ((sortU M).map V.str))) { s with heap := sortedHeap (s1.heap.push (seqObj "list" vs.toArray 0)) s1.heap.objs.size vs ((arrOf st').map (·.2)), gens := s1.gens, drawn := s1.drawn, toks := s1.toks } :=
    I.call (ch := []) (Un.laid kk hz hn) (I.hok.laid kk hz ⟨hlen, ((arrOf st').map (·.2)).toList, c, vals_of_strs q1, by rw [Array.toArray_toList]; exact hc'⟩) (by rw [g1]; exact I.bare) (fun _ z => nomatch z)
  have e : ({ s1 with heap := sortedHeap (s1.heap.push (seqObj "list" vs.toArray 0)) s1.heap.objs.size vs ((arrOf st').map (·.2)) } : Shared) = { s with heap := sortedHeap (s1.heap.push (seqObj "list" vs.toArray 0)) s1.heap.objs.size vs ((arrOf st').map (·.2)), gens := s1.gens, drawn := s1.drawn, toks := s1.toks } := by
    cases s1
    cases s
    cases o1
    rfl
  refine wpAny_pure ⟨_, rfl, ?_⟩
  rw [e]
  exact ⟨.ref s1.heap.objs.size, _, J, rfl, q s1.heap.objs.size hn⟩
/-- sorted(list of texts), of any length -/
def rSortLS (K : PySem.W.Frag) : List V → Hp → VK → Prop := fun vs H Q => ∃ (a : Addr) (xs : List Str), vs = [V.ref a] ∧ SqL K H a (xs.map V.str) ∧ ∀ p, H p = none → Q (.ref p) (upd H p (.lst ((sortS xs).map V.str)))
theorem cr_sortLS : CallR X (.builtin "sorted") (rSortLS X.K) := by
  intro pins s σ H vs us Q I r h
  obtain ⟨a, xs, rfl, hs, q⟩ := h
  obtain ⟨its, rv, hl, hz⟩ := I.list hs
  rw [Vals.ref1 r]
  have hlen0 := rv.length
  refine PyProof.Rows.sorted_strsAny hl.isList rv.strs (by rw [← hlen0]; exact hz) fun out ys h1 h2 h3 => ?_
  obtain ⟨ep, he'⟩ := PyProof.Rows.sortedAll_at s.heap its out
  have ey := sortS_eq h2 h3
  subst ey
  have hlen : ((sortS xs).map V.str).length ≤ sizeLine := by rw [List.length_map, h2.length_eq, ← List.length_map (f := V.str)]; exact hz
  exact ⟨.ref _, upd H (s.heap.objs.size + 1) (.lst ((sortS xs).map V.str)), I.laid (t' := s.toks) (fun _ _ => PyProof.Rows.sortedAll_old) (Nat.le_succ _) ⟨hlen, out.toList, ep, vals_of_strs h1, he'⟩, rfl, q _ (I.hok.fresh (Nat.le_succ _))⟩
end
end FP

/-! FP15: sorted(set(..)), len(set(..)), sorted(..) by data; o[i]; star displays; two-clause comprehensions. -/
namespace FP
open PySem L2
variable [Tabl]
section
variable {ι : Type} {Xs : ι → Cx} {mg : Gm} {Wx : WX} {pos : Pos}
theorem cr_setLK {X : Cx} {K : PySem.W.Frag} {w : World} (h : X.K = K) (hw : X.w = w) (hc : X.calm = true) : CallR X (.type "set") (rSetL K w) := by
  subst h hw
  exact cr_setL hc
theorem cr_sortSSK {X : Cx} {w : World} (hw : X.w = w) (hc : X.calm = true) : CallR X (.builtin "sorted") (rSortSS w) := by
  subst hw
  exact cr_sortSS hc
theorem cr_lenSSK {X : Cx} {w : World} (hw : X.w = w) : CallR X (.builtin "len") (rLenSS w) := by
  subst hw
  exact cr_lenSS
theorem cr_sortLSK {X : Cx} {K : PySem.W.Frag} (h : X.K = K) : CallR X (.builtin "sorted") (rSortLS K) := by
  subst h
  exact cr_sortLS
abbrev dSortSet (f : DTE) : DTE := fun ρ Q E => f ρ (fun x => match x with
  | .lst xs => ∃ ss, strsD xs = some ss ∧ ss.length < 4000 ∧ Q (.lst ((sortU ss).map .str))
  | _ => False) E
abbrev dLenSet (f : DTE) : DTE := fun ρ Q E => f ρ (fun x => match x with
  | .lst xs => ∃ ss, strsD xs = some ss ∧ ss.length < 4000 ∧ Q (.int (sortU ss).length)
  | _ => False) E
theorem de_sortSet {w : World} {e : Expr} {f : DTE} {p p2 q : Pos} (h : DE Xs mg Wx e f) (hm : mg.mg "sorted" = none) (hm2 : mg.mg "set" = none) (hv : bootBuiltins "sorted" = some (.builtin "sorted")) (hv2 : bootBuiltins "set" = some (.type "set"))
    (hw : ∀ j, (Xs j).w = w := by intro _; rfl) (hK : ∀ j, (Xs j).K = mg.K := by intro _; rfl) (hM : ∀ j, (Xs j).mg = mg.mg := by intro _; rfl) (hc : ∀ j, (Xs j).calm = true := by intro _; rfl) (hg : ∀ j, Gl (Xs j) "sorted" := by intro _; rfl) (hg2 : ∀ j, Gl (Xs j) "set" := by intro _; rfl)
    (he : ∀ j, starEach [e] (Xs j).env = [(false, eval e (Xs j).env)] := by intro _; rfl)
    (he2 : ∀ j, starEach [.Call (.Name "set" p2) [e] [] q] (Xs j).env = [(false, eval (.Call (.Name "set" p2) [e] [] q) (Xs j).env)] := by intro _; rfl) :
    DE Xs mg Wx (.Call (.Name "sorted" p) [.Call (.Name "set" p2) [e] [] q] [] pos) (dSortSet f) := by
  obtain ⟨t, h1, h2⟩ := h
  refine ⟨tCB (rSortSS w) (tCons (tCB (rSetL mg.K w) (tCons t tNil)) tNil), fun j => ?_, ?_⟩
  · exact pe_callB (cr_sortSSK (hw j) (hc j)) (hg j) (by rw [hM j]; exact hm) hv (pa_cons (pe_callTy (cr_setLK (hK j) (hw j) (hc j)) (hg2 j) (by rw [hM j]; exact hm2) hv2 (pa_cons (h1 j) pa_nil (he j)) (by decide) (by decide) (he j) rfl) pa_nil (he2 j)) (by decide) (by decide) (he2 j) rfl
  · intro B ρ Q E hf W σ H Q' hh e x q
    refine h2 B ρ _ E hf W σ H _ hh e x fun W1 H1 v d s1 r1 k1 => ?_
    dsimp only at k1
    split at k1
    · cases r1 with
      | lst ha ra =>
        obtain ⟨ss, g1, g2, g3⟩ := k1
        have ev := strs_v ra g1
        subst ev
        refine ⟨_, ss, rfl, SqL.of (s1.holds.same _ _ ha), (show ss.length + 1 < 4096 by omega), fun p1 n1 => ⟨p1, ss, rfl, upd_same, fun p2 n2 => ?_⟩⟩
        have s2 := s1.trans (Step.lay s1.holds (o := SetSO w p1 ss) n1)
        exact to_lst (ToV.step q s2) s2.holds (Reps.strs _) g3 p2 n2
    · exact k1.elim
theorem de_lenSet {w : World} {e : Expr} {f : DTE} {p p2 q : Pos} (h : DE Xs mg Wx e f) (hm : mg.mg "len" = none) (hm2 : mg.mg "set" = none) (hv : bootBuiltins "len" = some (.builtin "len")) (hv2 : bootBuiltins "set" = some (.type "set"))
    (hw : ∀ j, (Xs j).w = w := by intro _; rfl) (hK : ∀ j, (Xs j).K = mg.K := by intro _; rfl) (hM : ∀ j, (Xs j).mg = mg.mg := by intro _; rfl) (hc : ∀ j, (Xs j).calm = true := by intro _; rfl) (hg : ∀ j, Gl (Xs j) "len" := by intro _; rfl) (hg2 : ∀ j, Gl (Xs j) "set" := by intro _; rfl)
    (he : ∀ j, starEach [e] (Xs j).env = [(false, eval e (Xs j).env)] := by intro _; rfl)
    (he2 : ∀ j, starEach [.Call (.Name "set" p2) [e] [] q] (Xs j).env = [(false, eval (.Call (.Name "set" p2) [e] [] q) (Xs j).env)] := by intro _; rfl) :
    DE Xs mg Wx (.Call (.Name "len" p) [.Call (.Name "set" p2) [e] [] q] [] pos) (dLenSet f) := by
  obtain ⟨t, h1, h2⟩ := h
  refine ⟨tCB (rLenSS w) (tCons (tCB (rSetL mg.K w) (tCons t tNil)) tNil), fun j => ?_, ?_⟩
  · exact pe_callB (cr_lenSSK (hw j)) (hg j) (by rw [hM j]; exact hm) hv (pa_cons (pe_callTy (cr_setLK (hK j) (hw j) (hc j)) (hg2 j) (by rw [hM j]; exact hm2) hv2 (pa_cons (h1 j) pa_nil (he j)) (by decide) (by decide) (he j) rfl) pa_nil (he2 j)) (by decide) (by decide) (he2 j) rfl
  · intro B ρ Q E hf W σ H Q' hh e x q
    refine h2 B ρ _ E hf W σ H _ hh e x fun W1 H1 v d s1 r1 k1 => ?_
    dsimp only at k1
    split at k1
    · cases r1 with
      | lst ha ra =>
        obtain ⟨ss, g1, g2, g3⟩ := k1
        have ev := strs_v ra g1
        subst ev
        refine ⟨_, ss, rfl, SqL.of (s1.holds.same _ _ ha), (show ss.length + 1 < 4096 by omega), fun p1 n1 => ⟨p1, ss, rfl, upd_same, ?_⟩⟩
        have s2 := s1.trans (Step.lay s1.holds (o := SetSO w p1 ss) n1)
        exact q _ _ _ _ s2 (.int _) g3
    · exact k1.elim
def rdSorted : RDL := fun ds Q => match ds with
  | [.lst xs] => ∃ ss, strsD xs = some ss ∧ Q (.lst ((sortS ss).map .str))
  | _ => False
theorem ok_sorted (hK : ∀ j, (Xs j).K = mg.K := by intro _; rfl) : CallOk Xs mg (.builtin "sorted") rdSorted := by
  refine ⟨_, fun j => cr_sortLSK (hK j), ?_⟩
  intro W H vs ds Q Q' hh r h q
  unfold rdSorted at h
  split at h
  · cases r with
    | cons r rs =>
      cases rs
      cases r with
      | lst ha ra =>
        obtain ⟨ss, h1, h2⟩ := h
        have e := strs_v ra h1
        subst e
        exact ⟨_, ss, rfl, SqL.of (hh.same _ _ ha), to_lst q hh (Reps.strs _) h2⟩
  · exact h.elim
/-! ### *e among arguments and in displays -/
abbrev dStar (f : DTE) (g : DTA) : DTA := fun ρ Q E => f ρ (fun x => match x with
  | .lst xs => g ρ (fun ys => Q (xs ++ ys)) E
  | .fz xs => g ρ (fun ys => Q (xs ++ ys)) E
  | .tup xs => g ρ (fun ys => Q (xs ++ ys)) E
  | _ => False) E
theorem pa_starK {X : Cx} {K : PySem.W.Frag} {e : Expr} {es : List Expr} {te : TE} {t : TA} {p : Pos} (h : X.K = K) (he : PE X e te) (hr : PA X es t) (hs : starEach (.Starred e p :: es) X.env = (true, eval e X.env) :: starEach es X.env) : PA X (.Starred e p :: es) (StX.tStar K te t) := by
  subst h
  exact StX.pa_star he hr hs
theorem da_star {e : Expr} {es : List Expr} {f : DTE} {g : DTA} {p : Pos} (h : DE Xs mg Wx e f) (h' : DA Xs mg Wx es g) (hK : ∀ j, (Xs j).K = mg.K := by intro _; rfl) (hs : ∀ i, starEach (.Starred e p :: es) (Xs i).env = (true, eval e (Xs i).env) :: starEach es (Xs i).env := by intro _; rfl) :
    DA Xs mg Wx (.Starred e p :: es) (dStar f g) := by
  obtain ⟨t, h1, h2⟩ := h
  obtain ⟨u, g1, g2⟩ := h'
  refine ⟨_, fun i => pa_starK (hK i) (h1 i) (g1 i) (hs i), ?_⟩
  intro B ρ Q E hf W σ H Q' hh e x q
  refine h2 B ρ _ E hf W σ H _ hh e x fun W1 H1 v d s1 r1 k1 => ?_
  have fin : ∀ {xs : List V} {ds : List D}, Reps mg W1 xs ds → g ρ (fun ys => Q (ds ++ ys)) E → u σ H1 fun ys H2 => Q' (xs ++ ys) H2 := fun {xs ds} ra k => g2 B ρ _ E k W1 σ H1 _ s1.holds (e.step s1) (x.step s1) fun W2 H2 vs ds2 s2 r2 k2 => q W2 H2 _ _ (s1.trans s2) ((ra.mono s2.le).append r2) k2
  dsimp only at k1
  split at k1
  · cases r1 with
    | lst ha ra => exact ⟨_, _, rfl, .inr (SqL.of (s1.holds.same _ _ ha)), fin ra k1⟩
  · cases r1 with
    | fz ha ra => exact ⟨_, _, rfl, .inr (s1.holds.same.seq ha), fin ra k1⟩
  · cases r1 with
    | tup ha ra => exact ⟨_, _, rfl, .inl (SqT.of (s1.holds.same _ _ ha)), fin ra k1⟩
  · exact k1.elim
/-! ### o[i] of an own class -/
def rIxO (P : Program) (w : World) (mg : Gm) (base : Heap) (C : Addr) (f : List D → M D) : R2 := fun x y H Q => ∃ a dx fs, x = .ref a ∧ H a = some (.ins C dx fs) ∧ spD mg 2 f [.ref a, y] H Q E0
def rdIxM (c : Str) (f : List D → M D) : RD2 := fun x y Q => match x with
  | .ins c' fs => c' = c ∧ f [.ins c' fs, y] Q F0
  | _ => False
abbrev IxOwn (b : Expr) : Prop := ∀ a i, subscripted b true (.ref a) i = runValue (.builtin "lifetime.subscript" ⟨[.ref a, i], []⟩)
theorem de_ixM {P : Program} {w : World} {base : Heap} {k : Nat} {c : Str} {C : Addr} {f : List D → M D} {a b : Expr} {fa fb : DTE} (Fc : ClsF mg c C) (S : SpecOk P w mg base k C "__getitem__" 2 f) (hr : ∀ j, RmG (k + 1) (Xs j).A) (ha : DE Xs mg Wx a fa) (hb : DE Xs mg Wx b fb)
    (hs : IxOwn b := by exact fun _ _ => rfl) (hP : HPs Xs P w mg base := by intro _; exact ⟨rfl, rfl, rfl, rfl, rfl⟩) : DE Xs mg Wx (.Subscript a b pos) (dOp (rdIxM c f) fa fb) := by
  obtain ⟨fa', fd, ps, h1, h2, h3, hbd, hl, G⟩ := S.ex
  obtain ⟨ta, a1, a2⟩ := ha
  obtain ⟨tb, b1, b2⟩ := hb
  refine ⟨tOp (rIxO P w mg base C f) ta tb, fun j => ?_, Cp.op ?_ a2 b2⟩
  · obtain ⟨p1, p2, p3, p4, p5⟩ := hP j
    subst p1 p2 p5
    refine ⟨fun pins s σ H Q I h => PyProof.Rows.Subscript_ (binT (a1 j) (b1 j) I h fun v u s2 x y H2 I2 rx ry q => ?_)⟩
    obtain ⟨r, dx, fs, rfl, ea, hsp⟩ := q
    cases rx
    obtain ⟨mA, O, _⟩ := ins_get I2.hok ea
    obtain ⟨od, J, _⟩ := O.look
    obtain ⟨m, hF⟩ := I2.fr
    refine PySem.W.sub_K hF I2.ok.mod.kin J (by rw [p3]; exact h1) (by rw [p3]; exact h3) (by rw [p3]; exact h2) ?_ (hs _ _)
    exact callAt0 (X := Xs j) (by rw [p3, p4]; exact G) (hr j).in1 rfl (by rw [p3]; exact hbd) I2 (vs := [.ref r, y]) (.cons (show RelV (.ref _) (.ref _) from rfl) (.cons ry .nil)) hsp
  · intro W H x y dx dy Q Q' hh rx ry h q
    cases rx with
    | @ins a C' ax fs c' ds hc ha hk rs =>
      obtain ⟨rfl, h⟩ := h
      have ec := Fc.eq hc
      subst ec
      exact ⟨a, ax, fs, rfl, hh.same _ _ ha, spD_of hh (.cons (.ins hc ha hk rs) (.cons ry .nil)) rfl h q⟩
    | _ => exact h.elim
end
end FP

/-! FP16: comprehensions with two clauses. -/
namespace FP
open PySem L2
variable [Tabl]
section
variable {ι : Type} {Xs : ι → Cx} {mg : Gm} {Wx : WX} {pos : Pos}
def lcS (body : D → (List D → Prop) → Prop) : List D → (List D → Prop) → Prop
  | [], Q => Q []
  | d :: ds, Q => body d fun r => lcS body ds fun rs => Q (r ++ rs)
/-- so many items that no list is too long -/
def few : Nat := 4000
abbrev fewD (ds : List D) : Prop := ds.length ≤ few
theorem few_mul {a i j : Nat} (h : a ≤ i * few + j) (hi : i < few) (hj : j < few) : a < sizeLine := by
  unfold few at *
  rw [PySem.sizeLine_eq]
  omega
abbrev dLc2 (w : DTI) (T : Tg) (ft : DTT) (w1 : DTI) (T1 : Tg) (ft1 : DTT) (fe : DTE) (vs vs1 : List Nat) : DTE := fun ρ Q E => w ρ (fun ds => fewD ds ∧ lcS (fun d k => ∃ ρ2, T.put d (wipeD ρ vs) = some ρ2 ∧ ft ρ2 (fun b => bit b
  (w1 ρ2 (fun es => fewD es ∧ lcD (fun e k => ∃ ρ3, T1.put e (wipeD ρ2 vs1) = some ρ3 ∧ ft1 ρ3 (fun b => bit b (fe ρ3 (fun r => k (some r)) F0) (k none)) F0) es fun rs => k rs) F0) (k [])) F0) ds fun rs => Q (.lst rs)) E
theorem EnvR.mark {B : Hp} {W : Wd} {H : Hp} {σ : St} {ρ : Env} (e : EnvR mg B W H σ ρ) {A : Addr} {o : HO} (n : H A = none) : EnvR mg (upd B A o) W H σ ρ := by
  refine ⟨e.len, fun i s h => ?_, e.dis⟩
  obtain ⟨v, h1, h2⟩ := e.sl i s h
  refine ⟨v, h1, ?_⟩
  cases s with
  | no => exact True.intro
  | exc => exact h2
  | d x => exact h2
  | own xs =>
    obtain ⟨a, vs, q1, q2, q3, q4, q5, q6⟩ := h2
    exact ⟨a, vs, q1, q2, q3, q4, by rw [upd_ne (ne_of_none q2 n)]; exact q5, q6⟩
  | ob c a fs =>
    obtain ⟨vs, q1, ⟨C, dx, q0, q2⟩, q3, q4, q5, q6⟩ := h2
    exact ⟨vs, q1, ⟨C, dx, q0, q2⟩, q3, q4, by rw [upd_ne (ne_of_none q2 n)]; exact q5, q6⟩
  | ow c as fs =>
    obtain ⟨a, as', vs, q0, q1, q2, q3, q4, q5⟩ := h2
    exact ⟨a, as', vs, q0, q1, q2, q3, q4, fun b hb => by
      obtain ⟨⟨u, hu⟩, k2, k3, k4⟩ := q5 b hb
      exact ⟨⟨u, hu⟩, k2, k3, by rw [upd_ne (ne_of_none hu n)]; exact k4⟩⟩
theorem EnvR.beside {B : Hp} {W : Wd} {H : Hp} {σ : St} {ρ : Env} (e : EnvR mg B W H σ ρ) {A : Addr} {o o' : HO} (n : B A = some o') : EnvR mg B W (upd H A o) σ ρ := by
  refine ⟨e.len, fun i s h => ?_, e.dis⟩
  obtain ⟨v, h1, h2⟩ := e.sl i s h
  refine ⟨v, h1, h2.keep (Le.refl W) fun a ha u h5 h6 h7 => ⟨?_, h6, h7⟩⟩
  obtain ⟨_, _, _, _, z⟩ := h2.at ha
  have ne : a ≠ A := fun q => by rw [q, n] at z; cases z
  rw [upd_ne ne]
  exact h5
theorem Cp.lc2 {wi wi1 : TI} {g g1 : TG} {tt tt1 : TT} {te : TE} {w w1 : DTI} {T T1 : Tg} {ft ft1 : DTT} {fe : DTE} {vs vs1 : List Nat} (hi : CpI mg Wx wi w) (hg : CpG mg g T) (hv : ∀ i ∈ T.slots, i ∈ vs) (ht : CpT mg Wx0 tt ft)
    (hi1 : CpI mg Wx0 wi1 w1) (hg1 : CpG mg g1 T1) (hv1 : ∀ i ∈ T1.slots, i ∈ vs1) (ht1 : CpT mg Wx0 tt1 ft1) (he : Cp mg Wx0 te fe) : Cp mg Wx (tLc2 wi g tt wi1 g1 tt1 te vs vs1) (dLc2 w T ft w1 T1 ft1 fe vs vs1) := by
  intro B ρ Q E hf W σ H Q' hh e x q
  refine hi B ρ _ E hf W σ H _ hh e x fun W1 H1 J ds s1 wk k1 => ?_
  obtain ⟨hsz, k1⟩ := k1
  intro A hA
  have e1 := (e.step s1).mark (o := .lst []) hA
  generalize hBm : upd B A (.lst []) = B' at e1
  have hBA : B' A = some (.lst []) := by rw [← hBm]; exact upd_same
  have sA : ∀ {Wa Wb : Wd} {Ha Hb : Hp} {ws : List V}, Step Wa Ha Wb Hb → Ha A = some (.lst ws) → Wa.H A = none → ¬ Wa.T A → Hb A = some (.lst ws) ∧ Wb.H A = none ∧ ¬ Wb.T A := fun st a1 a2 a3 => ⟨st.keep A _ a1 a3, by rw [st.fresh A _ a1]; exact a2, fun t => by
    rcases st.freshT A t with t | t
    · exact a3 t
    · rw [a1] at t
      cases t⟩
  refine ⟨fun i m H' => m = ds.length - i ∧ i ≤ ds.length ∧ ∃ W' us acc, Step W1 H1 W' H' ∧ H' A = some (.lst us) ∧ W'.H A = none ∧ ¬ W'.T A ∧ Reps mg W' us acc ∧ acc.length ≤ i * few ∧ lcS _ (ds.drop i) (fun rs => Q (.lst (acc ++ rs))),
    ⟨ds.length, by simp, Nat.zero_le _, W1, [], [], Step.lay s1.holds hA, upd_same, s1.holds.same.free hA, s1.holds.nT hA, .nil, Nat.zero_le _, k1⟩, ?_⟩
  rintro i m H' ⟨rfl, hi, W', us, acc, s', hL, nw, nt, rs, la, k'⟩
  obtain ⟨go, stop, yld⟩ := wk W' H' s'.le s'.holds
  by_cases hlt : i < ds.length
  · refine .inr ⟨go i hlt, fun H2 => ∃ W2 us2 acc2, Step W1 H1 W2 H2 ∧ H2 A = some (.lst us2) ∧ W2.H A = none ∧ ¬ W2.T A ∧ Reps mg W2 us2 acc2 ∧ acc2.length ≤ (i + 1) * few ∧ lcS _ (ds.drop (i + 1)) (fun rs => Q (.lst (acc2 ++ rs))), fun H2 q => ⟨ds.length - (i + 1), by omega, rfl, hlt, q⟩, fun y H2 hy => ?_⟩
    obtain ⟨W2, d, s2, hd, r⟩ := yld i y H2 hlt hy
    have ed : ds.drop i = d :: ds.drop (i + 1) := by
      rw [List.drop_eq_getElem_cons hlt]
      have := (List.getElem?_eq_some_iff.mp hd).2
      rw [this]
    rw [ed] at k'
    obtain ⟨ρ1, p1, k2⟩ := k'
    refine hg B' W2 H2 y d _ _ ρ1 _ s2.holds r ((e1.step s').step s2 |>.wipe vs) p1 fun σ3 e3 w3 => ?_
    refine ⟨(w3 vs hv).trans (wipe_wipe σ vs), ?_⟩
    refine ht B' ρ1 _ _ k2 W2 σ3 H2 _ s2.holds e3 ExR.f0 fun W3 H3 b s3 k3 => ?_
    obtain ⟨b1, b2, b3⟩ := sA (s2.trans s3) hL nw nt
    have rs3 := rs.mono (s2.trans s3).le
    have s13 := (s'.trans s2).trans s3
    cases b with
    | false =>
      rw [if_neg Bool.false_ne_true]
      exact ⟨W3, us, acc, s13, b1, b2, b3, rs3, by rw [Nat.succ_mul]; omega, k3⟩
    | true =>
      rw [if_pos rfl]
      refine hi1 B' ρ1 _ _ k3 W3 σ3 H3 _ s3.holds (e3.step s3) ExR.f0 fun W4 H4 J1 es s4 wk1 k4 => ?_
      obtain ⟨hsz1, k4⟩ := k4
      obtain ⟨c1, c2, c3⟩ := sA s4 b1 b2 b3
      have e4 := (e3.step s3).step s4
      have s14 := s13.trans s4
      refine ⟨fun j k H' => k = es.length - j ∧ j ≤ es.length ∧ ∃ W' us' acc', Step W1 H1 W' H' ∧ Le W4 W' ∧ EnvR mg B' W' H' σ3 ρ1 ∧ H' A = some (.lst us') ∧ W'.H A = none ∧ ¬ W'.T A ∧ Reps mg W' us' acc' ∧ acc'.length ≤ i * few + j ∧ lcD _ (es.drop j) (fun r => lcS _ (ds.drop (i + 1)) (fun rs => Q (.lst (acc' ++ (r ++ rs))))),
        ⟨es.length, by simp, Nat.zero_le _, W4, us, acc, s14, Le.refl _, e4, c1, c2, c3, rs3.mono s4.le, by omega, k4⟩, ?_⟩
      rintro j k H5 ⟨rfl, hj, W5, us5, acc5, s5, l45, e5, hL5, nw5, nt5, rs5, la5, k5⟩
      obtain ⟨go1, stop1, yld1⟩ := wk1 W5 H5 l45 s5.holds
      by_cases hlt1 : j < es.length
      · refine .inr ⟨go1 j hlt1, fun H6 => ∃ W6 us6 acc6, Step W1 H1 W6 H6 ∧ Le W4 W6 ∧ EnvR mg B' W6 H6 σ3 ρ1 ∧ H6 A = some (.lst us6) ∧ W6.H A = none ∧ ¬ W6.T A ∧ Reps mg W6 us6 acc6 ∧ acc6.length ≤ i * few + (j + 1) ∧ lcD _ (es.drop (j + 1)) (fun r => lcS _ (ds.drop (i + 1)) (fun rs => Q (.lst (acc6 ++ (r ++ rs))))), fun H6 q => ⟨es.length - (j + 1), by omega, rfl, hlt1, q⟩, fun y1 H6 hy1 => ?_⟩
        obtain ⟨W6, d1, s6, hd1, r6⟩ := yld1 j y1 H6 hlt1 hy1
        have ed1 : es.drop j = d1 :: es.drop (j + 1) := by
          rw [List.drop_eq_getElem_cons hlt1]
          have := (List.getElem?_eq_some_iff.mp hd1).2
          rw [this]
        rw [ed1] at k5
        obtain ⟨ρ3, p3, k6⟩ := k5
        refine hg1 B' W6 H6 y1 d1 _ _ ρ3 _ s6.holds r6 ((e5.step s6).wipe vs1) p3 fun σ6 e6 w6 => ?_
        refine ⟨(w6 vs1 hv1).trans (wipe_wipe σ3 vs1), ?_⟩
        refine ht1 B' ρ3 _ _ k6 W6 σ6 H6 _ s6.holds e6 ExR.f0 fun W7 H7 b s7 k7 => ?_
        obtain ⟨d1, d2, d3⟩ := sA (s6.trans s7) hL5 nw5 nt5
        cases b with
        | true =>
          rw [if_pos rfl]
          refine he B' ρ3 _ _ k7 W7 σ6 H7 _ s7.holds (e6.step s7) ExR.f0 fun W8 H8 z dz s8 r8 k8 => ?_
          obtain ⟨c1, c2, c3⟩ := sA s8 d1 d2 d3
          have s18 := (s5.trans s6).trans (s7.trans s8)
          refine ⟨us5, c1, ?_, W8, us5 ++ [z], acc5 ++ [dz], s18.own hA c1 c2 c3, l45.trans ((s6.trans s7).trans s8).le, (e5.step ((s6.trans s7).trans s8)).beside hBA, upd_same, c2, c3, Reps.snoc (rs5.mono ((s6.trans s7).trans s8).le) r8, ?_, ?_⟩
          · rw [rs5.length]
            exact few_mul la5 (Nat.lt_of_lt_of_le hlt hsz) (Nat.lt_of_lt_of_le hlt1 hsz1)
          · rw [List.length_append, List.length_singleton]
            omega
          · simpa [List.append_assoc] using k8
        | false =>
          rw [if_neg Bool.false_ne_true]
          exact ⟨W7, us5, acc5, (s5.trans s6).trans s7, l45.trans (s6.trans s7).le, e5.step (s6.trans s7), d1, d2, d3, rs5.mono (s6.trans s7).le, by omega, k7⟩
      · have ej : j = es.length := by omega
        subst ej
        rw [List.drop_length] at k5
        refine .inl ⟨stop1, W5, us5, acc5, s5, hL5, nw5, nt5, rs5, ?_, k5⟩
        have : es.length ≤ few := hsz1
        rw [Nat.succ_mul]
        omega
  · have ei : i = ds.length := by omega
    subst ei
    rw [List.drop_length] at k'
    refine .inl ⟨stop, q (W'.put A (.lst us)) H' _ _ (s1.trans (s'.taken hA hL nw nt)) (Rep.newLst rs nw) ?_⟩
    have k2 : Q (.lst (acc ++ [])) := k'
    rw [List.append_nil] at k2
    exact k2
theorem de_lc2 {elt tg iter tg1 iter1 : Expr} {ifs ifs1 : List Expr} {scope : Scope} {own : List (Str × Nat)} {vs1 : List Nat} {w w1 : DTI} {T T1 : Tg} {ft ft1 : DTT} {fe : DTE} (hN : ∀ j, (Xs j).N.Nodup) (hi : DI Xs mg Wx tg iter w) (ok : ∀ j, BlkOk (Xs j).N (Xs j).env.scope scope own) (hg : DG (blkF Xs scope) mg tg T) (ht : DTs (blkF Xs scope) mg Wx0 ifs ft)
    (hi1 : DI (blkF Xs scope) mg Wx0 tg1 iter1 w1) (hg1 : DG (blkF Xs scope) mg tg1 T1) (ht1 : DTs (blkF Xs scope) mg Wx0 ifs1 ft1) (he : DE (blkF Xs scope) mg Wx0 elt fe)
    (hw : ∀ i ∈ vs1, i ∈ own.map (·.2) := by decide) (hv : ∀ i ∈ T.slots, i ∈ own.map (·.2) := by decide) (hv1 : ∀ i ∈ T1.slots, i ∈ vs1 := by decide) (hc : ∀ j, (Xs j).calm = true := by intro _; rfl) (hs : ∀ j x, foldedSetIterable iter (Xs j).env x = pure x := by intro _ _; rfl) (hs1 : ∀ env x, foldedSetIterable iter1 env x = pure x := by intro _ _; rfl) :
    DE Xs mg Wx (.ListComp elt [⟨tg, iter, ifs, 0⟩, ⟨tg1, iter1, ifs1, 0⟩] scope pos) (dLc2 w T ft w1 T1 ft1 fe (own.map (·.2)) vs1) := by
  obtain ⟨wi, i1, i2⟩ := hi
  obtain ⟨g, g1, g2⟩ := hg
  obtain ⟨tt, t1, t2⟩ := ht
  obtain ⟨wi1, i3, i4⟩ := hi1
  obtain ⟨g', g3, g4⟩ := hg1
  obtain ⟨tt', t3, t4⟩ := ht1
  obtain ⟨te, e1, e2⟩ := he
  exact ⟨_, fun j => pe_lc2 (hc j) (hN j) (i1 j) (ok j) hw (fun s H C cl fp => g1 (j, s, H, C, cl, fp)) (fun s H C cl fp => t1 (j, s, H, C, cl, fp)) (fun s H C cl fp => i3 (j, s, H, C, cl, fp)) (fun s H C cl fp => g3 (j, s, H, C, cl, fp)) (fun s H C cl fp => t3 (j, s, H, C, cl, fp)) (fun s H C cl fp => e1 (j, s, H, C, cl, fp)) (hs j) hs1, Cp.lc2 i2 g2 hv t2 i4 g4 hv1 t4 e2⟩
end
end FP

/-! FP17: f-strings; dicts: d[k], k in d, dict comprehensions. -/
namespace FP
open PySem L2
variable [Tabl]
section
variable {ι : Type} {Xs : ι → Cx} {mg : Gm} {Wx : WX} {pos : Pos}
/-! ### f-strings -/
def fmtD : D → (Str → Prop) → Prop := fun x Q => match x with
  | .str y => y.length ≤ sizeLine ∧ Q y
  | .int i => i.natAbs.log2 < 1920 ∧ Q (toString i)
  | _ => False
abbrev dFmt (f : DTE) : DTE := fun ρ Q E => f ρ (fun x => fmtD x fun y => Q (.str y)) E
theorem de_fmt {e : Expr} {f : DTE} (h : DE Xs mg Wx e f) : DE Xs mg Wx (.FormattedValue e (-1) none pos) (dFmt f) := by
  obtain ⟨t, h1, h2⟩ := h
  refine ⟨_, fun i => pe_fmt (h1 i), fun B ρ Q E hf W σ H Q' hh e x q => h2 B ρ _ E hf W σ H _ hh e x fun W1 H1 v d s1 r1 k1 => ?_⟩
  unfold fmtD at k1
  dsimp only at k1
  split at k1
  · cases r1
    exact .inl ⟨_, rfl, k1.1, q W1 H1 _ _ s1 (.str _) k1.2⟩
  · cases r1
    exact .inr ⟨_, rfl, k1.1, q W1 H1 _ _ s1 (.str _) k1.2⟩
  · exact k1.elim
/-- the parts of an f-string -/
abbrev DJT := Env → Str → (Str → Prop) → (XD → Prop) → Prop
def CpJ (mg : Gm) (Wx : WX) (ts : List TE) (f : DJT) : Prop := ∀ B ρ acc Q E, f ρ acc Q E → ∀ W σ H Q', Holds W H → EnvR mg B W H σ ρ → ExR mg Wx W H σ E → (∀ W' H' z, Step W H W' H' → Q z → Q' z H') → tJs ts acc σ H Q'
def DJ (Xs : ι → Cx) (mg : Gm) (Wx : WX) (es : List Expr) (f : DJT) : Prop := ∃ ts, (∀ i, PJ (Xs i) es ts) ∧ CpJ mg Wx ts f
abbrev dJNil : DJT := fun _ acc Q _ => Q acc
abbrev dJCons (f : DTE) (g : DJT) : DJT := fun ρ acc Q E => f ρ (fun x => match x with
  | .str y => (acc ++ y).length ≤ sizeLine ∧ g ρ (acc ++ y) Q E
  | _ => False) E
theorem dj_nil : DJ Xs mg Wx [] dJNil := ⟨[], fun _ => .nil, fun B ρ acc Q E hf W σ H Q' hh e x q => q W H acc (Step.refl hh) hf⟩
theorem dj_cons {e : Expr} {es : List Expr} {f : DTE} {g : DJT} (h : DE Xs mg Wx e f) (h' : DJ Xs mg Wx es g) : DJ Xs mg Wx (e :: es) (dJCons f g) := by
  obtain ⟨t, h1, h2⟩ := h
  obtain ⟨ts, g1, g2⟩ := h'
  refine ⟨t :: ts, fun i => .cons (h1 i) (g1 i), fun B ρ acc Q E hf W σ H Q' hh e x q => ?_⟩
  refine h2 B ρ _ E hf W σ H _ hh e x fun W1 H1 v d s1 r1 k1 => ?_
  dsimp only at k1
  split at k1
  · cases r1
    exact ⟨_, rfl, k1.1, g2 B ρ _ Q E k1.2 W1 σ H1 _ s1.holds (e.step s1) (x.step s1) fun W2 H2 z s2 k2 => q W2 H2 z (s1.trans s2) k2⟩
  · exact k1.elim
abbrev dJoined (g : DJT) : DTE := fun ρ Q E => g ρ Str.empty (fun z => Q (.str z)) E
theorem de_joined {v1 v2 : Expr} {rest : List Expr} {g : DJT} (h : DJ Xs mg Wx (v1 :: v2 :: rest) g) : DE Xs mg Wx (.JoinedStr (v1 :: v2 :: rest) pos) (dJoined g) := by
  obtain ⟨ts, h1, h2⟩ := h
  exact ⟨_, fun i => pe_joined (h1 i), fun B ρ Q E hf W σ H Q' hh e x q => h2 B ρ _ _ E hf W σ H _ hh e x fun W1 H1 z s1 k1 => q W1 H1 _ _ s1 (.str z) k1⟩
theorem de_joined1 {e : Expr} {f : DTE} (h : DE Xs mg Wx e f) : DE Xs mg Wx (.JoinedStr [e] pos) f := by
  obtain ⟨t, h1, h2⟩ := h
  exact ⟨t, fun i => pe_joined1 (h1 i), h2⟩
/-! ### dicts -/
def keyD : D → Option Key
  | .int i => some (.inl i)
  | .str z => some (.inr z)
  | _ => none
def valD (kvs : List (Key × D)) (k : Key) : Option D := (kvs.find? fun kv => decide (kv.1 = k)).map (·.2)
def putKD (kvs : List (Key × D)) (k : Key) (v : D) : List (Key × D) :=
  if (kvs.any fun kv => decide (kv.1 = k)) = true then kvs.map (fun kv => if kv.1 = k then (kv.1, v) else kv) else kvs ++ [(k, v)]
theorem keyD_v {W : Wd} {x : V} {d : D} {k : Key} (r : Rep mg W x d) (h : keyD d = some k) : x = kV k := by
  cases r with
  | int i => cases h; rfl
  | str i => cases h; rfl
  | _ => cases h
theorem valD_cons (p : Key × D) (r : List (Key × D)) (k : Key) : valD (p :: r) k = if p.1 = k then some p.2 else valD r k := by
  unfold valD
  rw [List.find?_cons]
  by_cases q : p.1 = k <;> simp [q]
theorem valV_cons (p : Key × V) (r : List (Key × V)) (k : Key) : valV (p :: r) k = if p.1 = k then some p.2 else valV r k := by
  unfold valV
  rw [List.find?_cons]
  by_cases q : p.1 = k <;> simp [q]
theorem val_rep {W : Wd} {k : Key} : ∀ {kvs : List (Key × V)} {ds : List (Key × D)}, kvs.map (·.1) = ds.map (·.1) → Reps mg W (kvs.map (·.2)) (ds.map (·.2)) →
    (valD ds k = none ∧ valV kvs k = none) ∨ ∃ v d, valD ds k = some d ∧ valV kvs k = some v ∧ Rep mg W v d
  | [], [], _, _ => .inl ⟨rfl, rfl⟩
  | p :: kvs, q :: ds, hk, hr => by
    obtain ⟨h1, h2⟩ := List.cons.inj hk
    cases hr with
    | cons r rs =>
      rw [valD_cons, valV_cons]
      by_cases e : q.1 = k
      · rw [if_pos e, if_pos (h1.trans e)]
        exact .inr ⟨_, _, rfl, rfl, r⟩
      · rw [if_neg e, if_neg (fun z => e (h1.symm.trans z))]
        exact val_rep h2 rs
  | [], _ :: _, hk, _ => by cases hk
  | _ :: _, [], hk, _ => by cases hk
theorem any_key {k : Key} : ∀ {kvs : List (Key × V)} {ds : List (Key × D)}, kvs.map (·.1) = ds.map (·.1) → (kvs.any fun kv => decide (kv.1 = k)) = (ds.any fun kv => decide (kv.1 = k))
  | [], [], _ => rfl
  | p :: kvs, q :: ds, hk => by
    obtain ⟨h1, h2⟩ := List.cons.inj hk
    have h1 : p.1 = q.1 := h1
    rw [List.any_cons, List.any_cons, h1, any_key h2]
  | [], _ :: _, hk => by cases hk
  | _ :: _, [], hk => by cases hk
theorem put_rep {W : Wd} {k : Key} {v : V} {d : D} {kvs : List (Key × V)} {ds : List (Key × D)} (hk : kvs.map (·.1) = ds.map (·.1)) (hr : Reps mg W (kvs.map (·.2)) (ds.map (·.2))) (r : Rep mg W v d) :
    (putK kvs k v).map (·.1) = (putKD ds k d).map (·.1) ∧ Reps mg W ((putK kvs k v).map (·.2)) ((putKD ds k d).map (·.2)) := by
  unfold putK putKD
  rw [any_key hk]
  split
  · rename_i hq
    clear hq
    induction kvs generalizing ds with
    | nil =>
      cases ds with
      | nil => exact ⟨rfl, .nil⟩
      | cons q ds => cases hk
    | cons p kvs ih =>
      cases ds with
      | nil => cases hk
      | cons q ds =>
        obtain ⟨h1, h2⟩ := List.cons.inj hk
        cases hr with
        | cons r1 rs =>
          obtain ⟨i1, i2⟩ := ih h2 rs
          simp only [List.map_cons]
          by_cases e : q.1 = k
          · have e' : p.1 = k := h1.trans e
            rw [if_pos e, if_pos e']
            exact ⟨by rw [i1]; exact congrArg (· :: _) h1, .cons r i2⟩
          · have e' : ¬ p.1 = k := fun z => e (h1.symm.trans z)
            rw [if_neg e, if_neg e']
            exact ⟨by rw [i1]; exact congrArg (· :: _) h1, .cons r1 i2⟩
  · rw [List.map_append, List.map_append, List.map_append, List.map_append]
    exact ⟨by rw [hk]; rfl, hr.append (.cons r .nil)⟩
theorem DGet.kf {H : Hp} {a : Addr} {o : Obj} {kvs : List (Key × V)} {k : Key} (e : H a = some (.frz o (.dK kvs))) : DGet H a (kV k) (valV kvs k) := .inl ⟨kvs, k, .inr ⟨o, e⟩, rfl, rfl⟩
def rdDGet : RD2 := fun x y Q => match x with
  | .dct kvs => ∃ k d, keyD y = some k ∧ valD kvs k = some d ∧ Q d
  | _ => False
theorem de_dget {k : Nat} {a b : Expr} {fa fb : DTE} (hr : ∀ j, RmG k (Xs j).A) (ha : DE Xs mg Wx a fa) (hb : DE Xs mg Wx b fb) (hs : NoSl b := by exact fun _ _ => rfl) : DE Xs mg Wx (.Subscript a b pos) (dOp rdDGet fa fb) := by
  obtain ⟨ta, a1, a2⟩ := ha
  obtain ⟨tb, b1, b2⟩ := hb
  refine ⟨tDGet ta tb, fun j => pe_dget (by have := (hr j).r.un; omega) (a1 j) (b1 j) hs, ?_⟩
  refine Cp.op (r := fun x y H Q => ∃ a v, x = .ref a ∧ DGet H a y (some v) ∧ Q v H) ?_ a2 b2
  intro W H x y dx dy Q Q' hh rx ry h q
  unfold rdDGet at h
  split at h
  · obtain ⟨k, d, h1, h2, h3⟩ := h
    cases rx with
    | dct ha hk rs =>
      have ey := keyD_v ry h1
      subst ey
      rcases val_rep (k := k) hk rs with ⟨z, _⟩ | ⟨v, d', z1, z2, z3⟩
      · rw [z] at h2
        cases h2
      · rw [z1] at h2
        cases h2
        refine ⟨_, v, rfl, ?_, q W H _ _ (Step.refl hh) z3 h3⟩
        rw [← z2]
        exact DGet.kf (hh.same _ _ ha)
  · exact h.elim
def rdDIn (neg : Bool) : RD2 := fun x y Q => match y with
  | .dct kvs => ∃ k, keyD x = some k ∧ Q (.bl (if neg then !(valD kvs k).isSome else (valD kvs k).isSome))
  | _ => False
theorem ok_inD {k : Nat} (hr : ∀ j, RmG k (Xs j).A) : OpOk Xs mg (compareOp .In) (rdDIn false) := by
  refine ⟨fun y x H Q => ∃ a o, x = .ref a ∧ DGet H a y o ∧ Q (.bl o.isSome) H, fun j => ?_, ?_⟩
  · intro pins s σ H y x v u Q I ry rx h
    obtain ⟨a, o, rfl, g, q⟩ := h
    cases rx
    exact d_in (by have := (hr j).r.un; omega) I g ry fun s3 I3 => ⟨.bl o.isSome, H, I3, rfl, q⟩
  · intro W H x y dx dy Q Q' hh rx ry h q
    unfold rdDIn at h
    split at h
    · obtain ⟨k, h1, h3⟩ := h
      cases ry with
      | dct ha hk rs =>
        have ey := keyD_v rx h1
        subst ey
        rcases val_rep (k := k) hk rs with ⟨z, z2⟩ | ⟨v, d', z1, z2, z3⟩
        · rw [z] at h3
          exact ⟨_, none, rfl, by rw [← z2]; exact DGet.kf (hh.same _ _ ha), q W H _ _ (Step.refl hh) (.bl _) h3⟩
        · rw [z1] at h3
          exact ⟨_, some v, rfl, by rw [← z2]; exact DGet.kf (hh.same _ _ ha), q W H _ _ (Step.refl hh) (.bl _) h3⟩
    · exact h.elim
theorem ok_notInD {k : Nat} (hr : ∀ j, RmG k (Xs j).A) : OpOk Xs mg (compareOp .NotIn) (rdDIn true) := by
  refine ⟨fun y x H Q => ∃ a o, x = .ref a ∧ DGet H a y o ∧ Q (.bl (!o.isSome)) H, fun j => ?_, ?_⟩
  · intro pins s σ H y x v u Q I ry rx h
    obtain ⟨a, o, rfl, g, q⟩ := h
    cases rx
    exact d_notIn (by have := (hr j).r.un; omega) I g ry fun s3 I3 => ⟨.bl (!o.isSome), H, I3, rfl, q⟩
  · intro W H x y dx dy Q Q' hh rx ry h q
    unfold rdDIn at h
    split at h
    · obtain ⟨k, h1, h3⟩ := h
      cases ry with
      | dct ha hk rs =>
        have ey := keyD_v rx h1
        subst ey
        rcases val_rep (k := k) hk rs with ⟨z, z2⟩ | ⟨v, d', z1, z2, z3⟩
        · rw [z] at h3
          exact ⟨_, none, rfl, by rw [← z2]; exact DGet.kf (hh.same _ _ ha), q W H _ _ (Step.refl hh) (.bl _) h3⟩
        · rw [z1] at h3
          exact ⟨_, some v, rfl, by rw [← z2]; exact DGet.kf (hh.same _ _ ha), q W H _ _ (Step.refl hh) (.bl _) h3⟩
    · exact h.elim
end
end FP

/-! FP18: dict comprehensions. -/
namespace FP
open PySem L2
variable [Tabl]
section
variable {ι : Type} {Xs : ι → Cx} {mg : Gm} {Wx : WX} {pos : Pos}
def dcD (body : D → (Option (Key × D) → Prop) → Prop) : List D → List (Key × D) → (List (Key × D) → Prop) → Prop
  | [], acc, Q => Q acc
  | d :: ds, acc, Q => body d fun o => match o with
    | some kv => dcD body ds (putKD acc kv.1 kv.2) Q
    | none => dcD body ds acc Q
abbrev dDc (w : DTI) (T : Tg) (ft : DTT) (fk fv : DTE) (vs : List Nat) : DTE := fun ρ Q E => w ρ (fun ds => ds.length ≤ sizeLine ∧ dcD (fun d k => ∃ ρ2, T.put d (wipeD ρ vs) = some ρ2 ∧ ft ρ2 (fun b => bit b
  (fk ρ2 (fun y => fv ρ2 (fun z => ∃ kk, keyD y = some kk ∧ k (some (kk, z))) F0) F0) (k none)) F0) ds [] fun kvs => Q (.dct kvs)) E
theorem putKD_len (kvs : List (Key × D)) (k : Key) (v : D) : (putKD kvs k v).length ≤ kvs.length + 1 := by
  unfold putKD
  split
  · rw [List.length_map]; omega
  · rw [List.length_append]; exact Nat.le_refl _
theorem Rep.newDct {W : Wd} {kvs : List (Key × V)} {ds : List (Key × D)} {p : Addr} {o : Obj} (hk : kvs.map (·.1) = ds.map (·.1)) (r : Reps mg W (kvs.map (·.2)) (ds.map (·.2))) (n : W.H p = none) : Rep mg (W.put p (.frz o (.dK kvs))) (.ref p) (.dct ds) :=
  .dct (show upd W.H p _ p = _ from upd_same) hk (r.mono (Wd.le_put n))
theorem to_dct {W : Wd} {H : Hp} {Q : D → Prop} {Q' : VK} {kvs : List (Key × V)} {ds : List (Key × D)} (q : ToV mg W H Q Q') (hh : Holds W H) (hk : kvs.map (·.1) = ds.map (·.1)) (r : Reps mg W (kvs.map (·.2)) (ds.map (·.2))) (h : Q (.dct ds)) : ∀ p o, H p = none → Q' (.ref p) (upd H p (.frz o (.dK kvs))) :=
  fun p _ n => q _ _ _ _ (Step.alloc hh n) (Rep.newDct hk r (hh.same.free n)) h
theorem len_keys {kvs : List (Key × V)} {ds : List (Key × D)} (h : kvs.map (·.1) = ds.map (·.1)) : kvs.length = ds.length := by
  have := congrArg List.length h
  simpa using this
theorem Cp.dc {wi : TI} {g : TG} {tt : TT} {tk tv : TE} {w : DTI} {T : Tg} {ft : DTT} {fk fv : DTE} {vs : List Nat} (hi : CpI mg Wx wi w) (hg : CpG mg g T) (hv : ∀ i ∈ T.slots, i ∈ vs) (ht : CpT mg Wx0 tt ft) (hk : Cp mg Wx0 tk fk) (he : Cp mg Wx0 tv fv) : Cp mg Wx (tLk (tDc wi g tt tk tv vs)) (dDc w T ft fk fv vs) := by
  intro B ρ Q E hf W σ H Q' hh e x q
  refine hi B ρ _ E hf W σ H _ hh e x fun W1 H1 J ds s1 wk k1 => ?_
  obtain ⟨hsz, k1⟩ := k1
  intro A hA
  have e1 := e.step s1
  refine ⟨fun i m H' => m = ds.length - i ∧ i ≤ ds.length ∧ ∃ W' us acc, Step W1 H1 W' H' ∧ H' A = some (.dK us) ∧ W'.H A = none ∧ ¬ W'.T A ∧ us.map (·.1) = acc.map (·.1) ∧ Reps mg W' (us.map (·.2)) (acc.map (·.2)) ∧ acc.length ≤ i ∧ dcD _ (ds.drop i) acc (fun kvs => Q (.dct kvs)),
    ⟨ds.length, by simp, Nat.zero_le _, W1, [], [], Step.lay s1.holds hA, upd_same, s1.holds.same.free hA, s1.holds.nT hA, rfl, .nil, Nat.le_refl _, k1⟩, ?_⟩
  rintro i m H' ⟨rfl, hi, W', us, acc, s', hL, nw, nt, ks, rs, la, k'⟩
  obtain ⟨go, stop, yld⟩ := wk W' H' s'.le s'.holds
  by_cases hlt : i < ds.length
  · refine .inr ⟨go i hlt, fun H2 => ∃ W2 us2 acc2, Step W1 H1 W2 H2 ∧ H2 A = some (.dK us2) ∧ W2.H A = none ∧ ¬ W2.T A ∧ us2.map (·.1) = acc2.map (·.1) ∧ Reps mg W2 (us2.map (·.2)) (acc2.map (·.2)) ∧ acc2.length ≤ i + 1 ∧ dcD _ (ds.drop (i + 1)) acc2 (fun kvs => Q (.dct kvs)), fun H2 q => ⟨ds.length - (i + 1), by omega, rfl, hlt, q⟩, fun y H2 hy => ?_⟩
    obtain ⟨W2, d, s2, hd, r⟩ := yld i y H2 hlt hy
    have ed : ds.drop i = d :: ds.drop (i + 1) := by
      rw [List.drop_eq_getElem_cons hlt]
      have := (List.getElem?_eq_some_iff.mp hd).2
      rw [this]
    rw [ed] at k'
    obtain ⟨ρ1, p1, k2⟩ := k'
    have sA : ∀ {Wa Wb : Wd} {Ha Hb : Hp} {ws : List (Key × V)}, Step Wa Ha Wb Hb → Ha A = some (.dK ws) → Wa.H A = none → ¬ Wa.T A → Hb A = some (.dK ws) ∧ Wb.H A = none ∧ ¬ Wb.T A := fun st a1 a2 a3 => ⟨st.keep A _ a1 a3, by rw [st.fresh A _ a1]; exact a2, fun t => by
      rcases st.freshT A t with t | t
      · exact a3 t
      · rw [a1] at t
        cases t⟩
    refine hg B W2 H2 y d _ _ ρ1 _ s2.holds r ((e1.step s').step s2 |>.wipe vs) p1 fun σ3 e3 w3 => ?_
    refine ⟨(w3 vs hv).trans (wipe_wipe σ vs), ?_⟩
    refine ht B ρ1 _ _ k2 W2 σ3 H2 _ s2.holds e3 ExR.f0 fun W3 H3 b s3 k3 => ?_
    obtain ⟨b1, b2, b3⟩ := sA (s2.trans s3) hL nw nt
    cases b with
    | true =>
      rw [if_pos rfl]
      refine hk B ρ1 _ _ k3 W3 σ3 H3 _ s3.holds (e3.step s3) ExR.f0 fun W4 H4 y dy s4 r4 k4 => ?_
      refine he B ρ1 _ _ k4 W4 σ3 H4 _ s4.holds ((e3.step s3).step s4) ExR.f0 fun W5 H5 z dz s5 r5 k5 => ?_
      obtain ⟨kk, h1, k6⟩ := k5
      have ey := keyD_v r4 h1
      subst ey
      obtain ⟨c1, c2, c3⟩ := sA (s4.trans s5) b1 b2 b3
      have s15 := (s'.trans s2).trans (s3.trans (s4.trans s5))
      have rs5 := rs.mono ((s2.trans s3).trans (s4.trans s5)).le
      obtain ⟨u1, u2⟩ := put_rep (k := kk) ks rs5 r5
      refine ⟨us, kk, rfl, c1, ?_, W5, putK us kk z, putKD acc kk dz, s15.own hA c1 c2 c3, upd_same, c2, c3, u1, u2, ?_, k6⟩
      · rw [len_keys ks]
        omega
      · have := putKD_len acc kk dz
        omega
    | false =>
      rw [if_neg Bool.false_ne_true]
      exact ⟨W3, us, acc, (s'.trans s2).trans s3, b1, b2, b3, ks, rs.mono (s2.trans s3).le, by omega, k3⟩
  · have ei : i = ds.length := by omega
    subst ei
    rw [List.drop_length] at k'
    exact .inl ⟨stop, A, _, rfl, hL, True.intro, fun od => q (W'.put A (.frz od (.dK us))) _ _ _ (s1.trans ((s'.own hA hL nw nt).taken hA upd_same nw nt)) (Rep.newDct ks rs nw) k'⟩
theorem de_dc {kx vx tg iter : Expr} {ifs : List Expr} {scope : Scope} {own : List (Str × Nat)} {w : DTI} {T : Tg} {ft : DTT} {fk fv : DTE} (hN : ∀ j, (Xs j).N.Nodup) (hi : DI Xs mg Wx tg iter w) (ok : ∀ j, BlkOk (Xs j).N (Xs j).env.scope scope own) (hg : DG (blkF Xs scope) mg tg T) (ht : DTs (blkF Xs scope) mg Wx0 ifs ft) (hk : DE (blkF Xs scope) mg Wx0 kx fk) (he : DE (blkF Xs scope) mg Wx0 vx fv)
    (hv : ∀ i ∈ T.slots, i ∈ own.map (·.2) := by decide) (hc : ∀ j, (Xs j).calm = true := by intro _; rfl) (hs : ∀ j x, foldedSetIterable iter (Xs j).env x = pure x := by intro _ _; rfl) : DE Xs mg Wx (.DictComp kx vx [⟨tg, iter, ifs, 0⟩] scope pos) (dDc w T ft fk fv (own.map (·.2))) := by
  obtain ⟨wi, i1, i2⟩ := hi
  obtain ⟨g, g1, g2⟩ := hg
  obtain ⟨tt, t1, t2⟩ := ht
  obtain ⟨tk, q1, q2⟩ := hk
  obtain ⟨te, e1, e2⟩ := he
  exact ⟨_, fun j => pe_lk (pe_dc (hc j) (hN j) (i1 j) (ok j) (fun s H C cl fp => g1 (j, s, H, C, cl, fp)) (fun s H C cl fp => t1 (j, s, H, C, cl, fp)) (fun s H C cl fp => q1 (j, s, H, C, cl, fp)) (fun s H C cl fp => e1 (j, s, H, C, cl, fp)) (hs j)), Cp.dc i2 g2 hv t2 q2 e2⟩
theorem ps_setDc {X : Cx} {i : Nat} {y : Str} {py : Pos} {kx vx tg iter : Expr} {ifs : List Expr} {scope : Scope} {own : List (Str × Nat)} {pos spos : Pos} {wi : TI} {g : TG} {tt : TT} {tk tv : TE} (hc : X.calm = true) (hN : X.N.Nodup) (hy : X.N[i]? = some y) (hyl : X.env.scope.names.lookup y = some .local)
    (hsw : swapsWith (.DictComp kx vx [⟨tg, iter, ifs, 0⟩] scope pos) (some (.Name y py)) spos.line X.env = pure true) (hi : PI X tg iter wi) (ok : BlkOk X.N X.env.scope scope own)
    (hg : ∀ (s : Shared) (H : Hp) (C : Addr) (cl : List (Str × Addr)) (fp : List Addr), PG (X.blk s H scope (compEnvC scope cl C X.env) fp) tg g) (ht : ∀ (s : Shared) (H : Hp) (C : Addr) (cl : List (Str × Addr)) (fp : List Addr), PTs (X.blk s H scope (compEnvC scope cl C X.env) fp) ifs tt)
    (hk : ∀ (s : Shared) (H : Hp) (C : Addr) (cl : List (Str × Addr)) (fp : List Addr), PE (X.blk s H scope (compEnvC scope cl C X.env) fp) kx tk)
    (he : ∀ (s : Shared) (H : Hp) (C : Addr) (cl : List (Str × Addr)) (fp : List Addr), PE (X.blk s H scope (compEnvC scope cl C X.env) fp) vx tv) (hs : ∀ x, foldedSetIterable iter X.env x = pure x := by intro _; rfl) :
    PS X (.Assign [.Name y py] (.DictComp kx vx [⟨tg, iter, ifs, 0⟩] scope pos) spos) (tAsg (tLk (tDc wi g tt tk tv (own.map (·.2)))) (gName i)) := by
  refine ⟨fun pins s σ H D I h => ?_⟩
  rw [exec_Assign_Name_used _ _ _ _ hsw]
  refine wpAny_bind (wpAny_standAt (wpAny_bind ?_))
  show wpAny _ X.A (do let _ ← comprehension (.DictComp kx vx [⟨tg, iter, ifs, 0⟩] scope pos) scope X.env (firstIterPos [⟨tg, iter, ifs, 0⟩] pos) newDict false (eval iter X.env) (some (assign (.Name y py) X.env))) _ _ s
  have h : tDc wi g tt tk tv (own.map (·.2)) σ H (fun x H1 => ∃ p u, x = .ref p ∧ H1 p = some u ∧ Mut (some u) ∧ ∀ od, gName i x σ (upd H1 p (.frz od u)) D.nx) := h
  refine wpAny_bind (thn (dc_core (Qf := fun _ s' => SP X pins D .next s') hc hN I hi ok hg ht hk he hs h fun L C s' m H' I' q hn f => ?_) fun _ s' hq => wpAny_pure (wpAny_pure hq))
  show wpAny _ _ (assign (.Name y py) X.env (.ref L)) _ _ _
  refine wpAny_assign_Name (store_ok2 (v := V.ref L) I' hN hy (.inl hyl) rfl (fun s2 I2 ⟨a, sb, ha⟩ => ?_) (.inr hyl))
  obtain ⟨f0, f1, f2, f3, f4, f5⟩ := f
  have haC : C ≠ a := by
    rcases ha with z | z
    · rw [z]; exact f1
    · exact fun e => f4 y a z e.symm
  refine ⟨m, hn.sameBut sb haC, fun h3 sb3 => ?_⟩
  obtain ⟨p, u, _, hp, mu, q⟩ := q
  obtain ⟨od, I3⟩ := (I2.turned (t' := s2.toks) (fun b o hb e => (sb3.2 b hb).trans e) f0 f1 f3 f4 f5).lock hp mu
  exact ⟨_, _, I3, q od⟩
theorem ds_setDc {i : Nat} {y : Str} {py spos : Pos} {kx vx tg iter : Expr} {ifs : List Expr} {scope : Scope} {own : List (Str × Nat)} {w : DTI} {T : Tg} {ft : DTT} {fk fv : DTE} (hN : ∀ j, (Xs j).N.Nodup) (hi : DI Xs mg Wx tg iter w) (ok : ∀ j, BlkOk (Xs j).N (Xs j).env.scope scope own) (hg : DG (blkF Xs scope) mg tg T) (ht : DTs (blkF Xs scope) mg Wx0 ifs ft) (hk : DE (blkF Xs scope) mg Wx0 kx fk) (he : DE (blkF Xs scope) mg Wx0 vx fv)
    (hsw : ∀ j, swapsWith (.DictComp kx vx [⟨tg, iter, ifs, 0⟩] scope pos) (some (.Name y py)) spos.line (Xs j).env = pure true) (hy : ∀ j, (Xs j).N[i]? = some y := by intro _; rfl) (hyl : ∀ j, (Xs j).env.scope.names.lookup y = some .local := by intro _; rfl)
    (hv : ∀ i ∈ T.slots, i ∈ own.map (·.2) := by decide) (hc : ∀ j, (Xs j).calm = true := by intro _; rfl) (hs : ∀ j x, foldedSetIterable iter (Xs j).env x = pure x := by intro _ _; rfl) : DS Xs mg Wx (.Assign [.Name y py] (.DictComp kx vx [⟨tg, iter, ifs, 0⟩] scope pos) spos) (dSet i (dDc w T ft fk fv (own.map (·.2)))) := by
  obtain ⟨wi, i1, i2⟩ := hi
  obtain ⟨g, g1, g2⟩ := hg
  obtain ⟨tt, t1, t2⟩ := ht
  obtain ⟨tk, q1, q2⟩ := hk
  obtain ⟨te, e1, e2⟩ := he
  refine ⟨_, fun j => ps_setDc (i := i) (hc j) (hN j) (hy j) (hyl j) (hsw j) (i1 j) (ok j) (fun s H C cl fp => g1 (j, s, H, C, cl, fp)) (fun s H C cl fp => t1 (j, s, H, C, cl, fp)) (fun s H C cl fp => q1 (j, s, H, C, cl, fp)) (fun s H C cl fp => e1 (j, s, H, C, cl, fp)) (hs j), fun W0 B N ρ hf W σ H Ds s e n => ?_⟩
  exact Cp.dc i2 g2 hv t2 q2 e2 B ρ _ _ hf W σ H _ s.holds e (n.ex s e) fun W1 H1 v d s1 r1 k1 => n.nx W1 H1 _ _ (s.trans s1) ((e.step s1).set r1) k1
end
end FP

/-! FP19: for x in o, where o's class has an __iter__ that returns iter(self.f), f a tuple. -/
namespace FP
open PySem L2
variable [Tabl]
abbrev titObj (t : Addr) (i : Nat) : Obj := { cls := .type "tuple_iterator", data := .fields #[.ref t, .int i 0] }
def TitO (t it : Addr) (i : Nat) : HO := .ext fun h => h.get? it = some (titObj t i)
theorem titO_ok {P : Program} {w : World} {H : Hp} {h : Heap} {t it : Addr} {i : Nat} (e : h.get? it = some (titObj t i)) : ObjOk P w H h it (TitO t it i) := ⟨e, ⟨_, e⟩, fun h1 h2 q k => k _ q⟩
theorem titO_get {X : Cx} {pins : List (Addr × Obj)} {σ : St} {H : Hp} {s : Shared} {t it : Addr} {i : Nat} (I : Inv X pins σ H s) (e : H it = some (TitO t it i)) : s.heap.get? it = some (titObj t i) := (I.hok it _ e).1
theorem call_iterTup {prog : Program} {w : World} {A : Around} {E : Value → Shared → Prop} {s : Shared} {l : Addr} {items : Array Value} {Q : Value → Shared → Prop} (hl : s.heap.IsTuple l items) (h : Q (.ref s.heap.objs.size) { s with heap := s.heap.push (titObj l 0) }) : wpAny (model prog w) A (call (.builtin "iter") [.ref l]) Q E s := by
  refine Calls.call_function_entry (by decide +kernel) (by decide +kernel) PySem.W.kdk_entry_iter (PySem.W.kdk_args_iter _) ?_
  unfold Builtin.«iter»
  refine wpAny_bind (m := someArgs "iter" 1 2 _) (wpAny_of_eq (a := [Value.ref l]) (by first | rfl | kernel_rfl!) ?_)
  show wpAny _ _ (pyIter (.ref l) >>= _) _ _ _
  refine wpAny_bind (wpAny_pyIter_tuple hl ?_)
  exact wpAny_pure ⟨_, rfl, h⟩
def rIterT (K : PySem.W.Frag) (n : Nat) : List V → Hp → VK → Prop := fun xs H Q => ∃ (l : Addr) (zs : List V), xs = [.ref l] ∧ SqT K H l zs ∧ ∀ it, H it = none → n ≤ it → Q (.ref it) (upd H it (TitO l it 0))
theorem cr_iterT {X : Cx} : CallR X (.builtin "iter") (rIterT X.K X.s_0.heap.objs.size) := by
  intro pins s σ H xs us Q I r h
  obtain ⟨l, zs, rfl, hq, q⟩ := h
  obtain ⟨u, rfl, ru⟩ := vals1 r
  cases ru
  obtain ⟨its, rv, pl, hz⟩ := I.tuple hq
  refine call_iterTup (show s.heap.IsTuple l its.toArray from pl) ?_
  exact ⟨.ref s.heap.objs.size, _, I.laid (t' := s.toks) (fun b u e => Heap.get?_push_of_some _ e) (Nat.le_refl _) (titO_ok (Heap.get?_push_size _ rfl)), rfl, q _ (I.hok.fresh (Nat.le_refl _)) I.sz⟩
/-- as FnG, the promise by the size of the heap at the call -/
structure FnGn (P : Program) (w : World) (K : PySem.W.Frag) (mg : Str → Option Value) (base : Heap) (k : Nat) (f : Addr) (fd : FuncData) (ps : List Str) (sp : Nat → Sp) : Prop where
  ln : ∀ n vs H Q E, sp n vs H Q E → vs.length = ps.length
  go : ∀ (A : Around) (out : List PySem.Env) (z : Shared) (H : Hp) (ag : Args) (us : List Value) (vs : List V) (Q : VK) (E : XK), RmG k A → Env0 P w K mg base A out z H → BindsTo z fd ag (ps.zip us) → Vals vs us → sp z.heap.objs.size vs H Q E →
    codeAny (model P w) A (.call (.ref f) ag) (CR (L2.CX P w) out P w H z Q E) z
theorem fnGn_of {P : Program} {w : World} {K : PySem.W.Frag} {mg : Str → Option Value} {base : Heap} {x qual : Str} {st : Stmt} {fa : Addr} {fd : FuncData} {N ps : List Str} {k : Nat} {sp : Nat → Sp} (F : Fun K x qual st fa fd) (S : FnScope N ps (defScope st)) (ln : ∀ n vs H Q E, sp n vs H Q E → vs.length = ps.length)
    (hb : ∀ (cdv : Value) (A : Around) (out : List PySem.Env) (z : Shared) (H : Hp) (vs : List V) (Q : VK) (E : XK), RmG k (A.deeper (PyProof.Rows.envOfC qual (defScope st) z.heap.objs.size fa cdv)) → sp z.heap.objs.size vs H Q E →
      ∃ t, PSs (cxOf (L2.CX P w) P w K mg base N qual (defScope st) fa cdv A out z H E) (defBody st) t ∧ t { nx := fun _ H' => Q .non H', rt := Q } (L2.start N vs) H) : FnGn P w K mg base (k + 1) fa fd ps sp := by
  obtain ⟨oc, od, kV, doc, pm, an, cdv, ct, osl, rfl, lk, hcd⟩ := F.ex
  refine ⟨ln, fun A out z H ag us vs Q E m e0 bd rv hs => ?_⟩
  have inK : K.In z.heap := e0.mod.kin.keeps fun c u q => (e0.bs c u q).1
  have noL : z.heap.NoLimit := e0.mod.nolimit.keeps fun c u q => (e0.bs c u q).1
  have kinds : ∀ y ∈ ps.zip us, (defScope st).names.lookup y.1 = some .local ∨ ((defScope st).names.lookup y.1 = some .cell ∧ ((cellsFrom (z.heap.objs.size + 1) (defScope st).names []).lookup y.1).isSome = true) := by
    rintro ⟨n, v⟩ hy
    refine (S.par n (List.of_mem_zip hy).1).imp id ?_
    intro c
    exact ⟨c, PySem.W.cellsFrom_some _ _ _ (.inl c)⟩
  apply codeAny_call_function m.r.depth (inK _ _ lk) rfl S.co S.gen rfl (PySem.W.codeRec_of inK hcd)
  apply bd
  apply wpAny_newFunctionEnv_cells S.kind kinds
  intro env he z1 inC
  subst he
  obtain ⟨t, pt, tq⟩ := hb cdv A out z H vs Q E ⟨m.r.deeper _, m.g⟩ hs
  have I0 := inv_start (CX := L2.CX P w) (E := E) S m.r.hd e0 (ln _ _ _ _ _ hs) rv inC
  refine ⟨noL.keeps inC.toInCall.keep, codeAny_func (wpAny_mono (pt.run [] z1 _ H _ I0 tq) ?_ fun _ _ q => q)⟩
  intro fl z' hfl
  match fl, hfl with
  | .ret u, ⟨v, _, H', J, ru, q⟩ => exact ⟨v, H', J.os, J.bare, J.base, J.hok, ru, q⟩
  | .next, ⟨_, H', J, q⟩ => exact ⟨V.non, H', J.os, J.bare, J.base, J.hok, rfl, q⟩
  | .brk, ⟨_, _, _, q⟩ => exact q.elim
  | .cont, ⟨_, _, _, q⟩ => exact q.elim
/-- what __iter__ gives -/
def spIt (K : PySem.W.Frag) (C : Addr) (fld : Str) (n : Nat) : Sp := fun vs H Q _ => ∃ a dx fs b xs, vs = [.ref a] ∧ H a = some (.ins C dx fs) ∧ fs.lookup fld = some (.ref b) ∧ SqT K H b xs ∧ ∀ it, H it = none → n ≤ it → Q (.ref it) (upd H it (TitO b it 0))
structure IterOk (P : Program) (w : World) (mg : Gm) (base : Heap) (k : Nat) (C : Addr) (fld : Str) : Prop where
  ex : ∃ fa fd ps, PySem.W.findIn mg.K (.ref C) "__iter__" = some (some (.ref fa)) ∧ PySem.W.isFn mg.K (.ref fa) = true ∧ Binds mg.K fd ps [] ∧ FnGn P w mg.K mg.mg base k fa fd ps (spIt mg.K C fld)
theorem mkIter {P : Program} {w : World} {mg : Gm} {base : Heap} {C : Addr} {fld qual self : Str} {st : Stmt} {N : List Str} {k : Nat} {p1 p2 p3 p4 p5 : Pos} (d : ∃ fa fd, PySem.W.findIn mg.K (.ref C) "__iter__" = some (some (.ref fa)) ∧ PySem.W.isFn mg.K (.ref fa) = true ∧ Fun mg.K "__iter__" qual st fa fd) (S : FnScope N [self] (defScope st))
    (hb : ∀ (kV doc pm : Value) (an : Option Addr) (cdv ct : Value) (us : List Value), us.length = [self].length → bindArgs (PySem.W.fnOf "__iter__" qual (defArgs st) (defBody st) (defScope st) .none kV doc pm an cdv ct) ⟨us, []⟩ = pure ([self].zip us))
    (cl : Cls mg.K C) (na : NoAttr mg.K C fld) (hm : mg.mg "iter" = none) (hv : bootBuiltins "iter" = some (.builtin "iter"))
    (hbody : defBody st = [.Return (some (.Call (.Name "iter" p1) [.Attribute (.Name self p2) fld p3] [] p4)) p5]) (hN : N[0]? = some self) (hvis : Vis (defScope st) self)
    (hg : ∀ cdv fa A out z H E, Gl (cxOf (L2.CX P w) P w mg.K mg.mg base N qual (defScope st) fa cdv A out z H E) "iter") (hsl : (self == ("__debug__" : Str)) = false := by decide) (hcd : (self == ("__classdict__" : Str)) = false := by decide) : IterOk P w mg base (k + 1) C fld := by
  obtain ⟨fa, fd, h1, h2, F⟩ := d
  refine ⟨fa, fd, [self], h1, h2, F.binds hb, fnGn_of F S ?_ ?_⟩
  · rintro n vs H Q E ⟨a, dx, fs, b, xs, rfl, _⟩
    rfl
  · rintro cdv A out z H vs Q E hr ⟨a, dx, fs, b, xs, rfl, ha, hf, hx, q⟩
    rw [hbody]
    refine ⟨_, pss_cons (ps_ret (pe_callB (cr_iterT (X := cxOf (L2.CX P w) P w mg.K mg.mg base N qual (defScope st) fa cdv A out z H E)) (hg _ _ _ _ _ _ _) hm hv (pa_cons (pe_fld (pe_var (i := 0) hN hvis hsl hcd) rfl) pa_nil rfl) (by decide) (by decide) rfl rfl)) pss_nil, ?_⟩
    refine ⟨.ref a, ?_, a, C, dx, fs, .ref b, rfl, ha, cl, na, hf, b, xs, rfl, hx, q⟩
    unfold L2.start
    rfl
section
variable {ι : Type} {Xs : ι → Cx} {mg : Gm} {Wx : WX} {pos : Pos}
abbrev dIOwn (c fld : Str) (f : DTE) : DTI := fun ρ Q E => f ρ (fun x => match x with
  | .ins c' fs => c' = c ∧ ∃ ds, fs.lookup fld = some (.tup ds) ∧ Q ds
  | _ => False) E
def iOwn (K : PySem.W.Frag) (C : Addr) (fld : Str) (te : TE) : TI := fun σ H R => te σ H fun x H1 => ∃ a dx fs b xs, x = .ref a ∧ H1 a = some (.ins C dx fs) ∧ fs.lookup fld = some (.ref b) ∧ SqT K H1 b xs ∧ R (Itt K b) H1
theorem di_own {P : Program} {w : World} {base : Heap} {k : Nat} {c fld : Str} {C : Addr} {tg e : Expr} {f : DTE} (Fc : ClsF mg c C) (S : IterOk P w mg base k C fld) (hr : ∀ j, RmG k (Xs j).A) (h : DE Xs mg Wx e f) (hP : HPs Xs P w mg base := by intro _; exact ⟨rfl, rfl, rfl, rfl, rfl⟩) :
    DI Xs mg Wx tg e (dIOwn c fld f) := by
  obtain ⟨fa, fd, ps, h1, h2, hb, G⟩ := S.ex
  obtain ⟨t, q1, q2⟩ := h
  refine ⟨iOwn mg.K C fld t, fun j => ?_, fun B ρ Q E hf W σ H Q' hh e x q => ?_⟩
  · obtain ⟨p1, p2, p3, p4, p5⟩ := hP j
    subst p1 p2 p5
    refine ⟨fun pins s σ H R I h => ?_⟩
    refine thn ((q1 j).run pins s σ H _ I h) fun v s1 ⟨x, H1, I1, r1, a, dx, fs, b, xs, ex, ha, hf, hx, q⟩ => ?_
    subst ex
    cases r1
    obtain ⟨mA, O, _⟩ := ins_get I1.hok ha
    obtain ⟨od, J, _⟩ := O.look
    obtain ⟨m, hF⟩ := I1.fr
    refine PySem.W.owit_iter hF I1.ok.mod.kin J (by rw [p3]; exact h1) (by rw [p3]; exact h2) ?_
    have hG : FnGn (Xs j).prog (Xs j).w (Xs j).K (Xs j).mg (Xs j).base k fa fd ps (spIt mg.K C fld) := by rw [p3, p4]; exact G
    have hs : spIt mg.K C fld s1.heap.objs.size [.ref a] H1 (fun v H' => ∃ it, v = .ref it ∧ s1.heap.objs.size ≤ it ∧ H1 it = none ∧ H' = upd H1 it (TitO b it 0)) E0 := ⟨a, dx, fs, b, xs, rfl, ha, hf, hx, fun it n1 n2 => ⟨it, rfl, n2, n1, rfl⟩⟩
    have hl := hG.ln _ _ _ _ _ hs
    have bd := (by rw [p3]; exact hb : Binds (Xs j).K fd ps []) s1 [.ref a] I1.kIn (by simpa using hl)
    rw [List.append_nil] at bd
    have cd := hG.go (Xs j).A (Xs j).stack s1 H1 ⟨[.ref a], []⟩ [.ref a] [.ref a] _ E0 (hr j) I1.env0 bd (.cons (show RelV (.ref _) (.ref _) from rfl) .nil) hs
    refine wpAny_call (codeAny_mono cd ?_)
    intro res z' hq
    match res, hq with
    | .error e, hq => exact (CX.none hq).elim
    | .ok (.ret u), hq =>
      obtain ⟨y, H2, I2, r2, it, ey, hn, hno, eH⟩ := I1.after hq
      subst ey eH
      cases r2
      have st := titO_get I2 (upd_same (H := H1) (a := it))
      have hd := ItX.inv_drop I2 (show upd H1 it (TitO b it 0) it = some (.ext _) from upd_same)
      rw [ItX.dropH_upd hno] at hd
      unfold PySem.W.OwitIt
      refine wpAny_specialOf (T := "tuple_iterator") ⟨_, st, rfl⟩ PySem.F.slot_tuple_iterator_next.lookup ?_
      refine ⟨it, [it], _, _, H1, rfl, hd, turn_tuple b it, ⟨_, st, rfl, rfl⟩, fun c hc => ?_, by rw [p3]; exact q⟩
      have e : c = it := by simpa using hc
      subst e
      exact I1.fpOk hn hno
    | .ok .next, hq => exact hq.elim
    | .ok .brk, hq => exact hq.elim
    | .ok .cont, hq => exact hq.elim
  · refine q2 B ρ _ E hf W σ H _ hh e x fun W1 H1 v d s1 r1 k1 => ?_
    cases r1 with
    | @ins a C' dx fs c' ds hc ha hk rs =>
      obtain ⟨rfl, es, g1, g2⟩ := k1
      have ec := Fc.eq hc
      subst ec
      obtain ⟨v', hv, rv⟩ := lookup_reps hk rs g1
      cases rv with
      | @tup b vs _ hb rb =>
        refine ⟨a, dx, fs, b, vs, rfl, s1.holds.same _ _ ha, hv, SqT.of (s1.holds.same _ _ hb), q W1 H1 _ es s1 ?_ g2⟩
        have w := walk_tup (K := mg.K) (a := b) (xs := vs)
        rw [rb.length] at w
        exact WalkD.of (vs := fun i => vs[i]?) w (fun W2 H2 l hh => SqT.of (hh.same _ _ (l.h _ _ hb))) fun i x hi hx => rb.getV hx
    | _ => exact k1.elim
end
end FP

/-! FP20: classes as values, classmethods, cls(..). -/
namespace FP
open PySem L2
variable [Tabl]
theorem goGc {X : Cx} {k : Nat} {f : Addr} {fd : FuncData} {ps : List Str} {sp : Sp} {Ex : XK} {pins : List (Addr × Obj)} {σ : St} {H : Hp} {z : Shared} {Q : VK} {us : List Value} {vs : List V} (F : FnG X.prog X.w X.K X.mg X.base k f fd ps sp) (m : RmG k X.A) (hb : Binds X.K fd ps []) (hx : PassesAt (L2.CX X.prog X.w) X σ Ex)
    (I : Inv X pins σ H z) (rv : Vals vs us) (h : sp vs H Q Ex) : codeAny (model X.prog X.w) X.A (.call (.ref f) ⟨us, []⟩) (fun r s' => match r with | .ok (.ret v) => EP X pins σ Q v s' | .ok _ => False | .error e => X.xe e s') z := by
  have hl : (us ++ []).length = ps.length := by
    rw [List.append_nil, ← rv.length]
    exact F.ln _ _ _ _ h
  have bd := hb z us I.kIn hl
  rw [List.append_nil] at bd
  have cd := F.go X.A X.stack z H ⟨us, []⟩ us vs Q Ex m I.env0 bd rv h
  refine codeAny_mono cd ?_
  intro res z' hq
  match res, hq with
  | .error e, hq => exact hx pins H z e z' I hq
  | .ok (.ret u), hq => exact I.after hq
  | .ok .next, hq => exact hq.elim
  | .ok .brk, hq => exact hq.elim
  | .ok .cont, hq => exact hq.elim
section
variable {ι : Type} {Xs : ι → Cx} {mg : Gm} {Wx : WX} {pos : Pos}
abbrev dCl (c : Str) : DTE := fun _ Q _ => Q (.cl c)
theorem de_cls {c : Str} {C : Addr} (Fc : ClsF mg c C) (hM : ∀ j, (Xs j).mg = mg.mg := by intro _; rfl) (hg : ∀ j, Gl (Xs j) c := by intro _; rfl) (hd : (c == ("__debug__" : Str)) = false := by decide) : DE Xs mg Wx (.Name c pos) (dCl c) :=
  ⟨tC (.ref C), fun j => pe_glob (v := .ref C) (hg j) (by rw [hM j]; exact Fc.nm) rfl hd, fun B ρ Q E hf W σ H Q' hh e x q => q W H _ _ (Step.refl hh) (.cl Fc.nm) hf⟩
structure CMethOk (P : Program) (w : World) (mg : Gm) (base : Heap) (k : Nat) (C : Addr) (m : Str) (n : Nat) (f : List D → M D) : Prop where
  ex : ∃ mc p g fd ps, ClX.CRead mg.K C mc ∧ ClX.CMet mg.K C mc m p g ∧ Binds mg.K fd ps [] ∧ ps.length = n ∧ FnG P w mg.K mg.mg base k g fd ps (spD mg n f)
theorem mkCMeth {P : Program} {w : World} {base : Heap} {C : Addr} {m qual : Str} {st : Stmt} {N ps : List Str} {k : Nat} {f : List D → M D} (d : ∃ mc p fa fd, ClX.CRead mg.K C mc ∧ ClX.CMet mg.K C mc m p fa ∧ Fun mg.K m qual st fa fd) (S : FnScope N ps (defScope st))
    (hb : ∀ (kV doc pm : Value) (an : Option Addr) (cdv ct : Value) (us : List Value), us.length = ps.length → bindArgs (PySem.W.fnOf m qual (defArgs st) (defBody st) (defScope st) .none kV doc pm an cdv ct) ⟨us, []⟩ = pure (ps.zip us))
    (h : ∀ (fa : Addr) (cdv : Value) (A : Around) (outer : List PySem.Env) (s : Shared) (H : Hp) (E : XK), RmG k (A.deeper (PyProof.Rows.envOfC qual (defScope st) s.heap.objs.size fa cdv)) →
      ∃ g, DSs (fun _ : Unit => cxOf (L2.CX P w) P w mg.K mg.mg base N qual (defScope st) fa cdv A outer s H E) mg (fun cls d _ H' => E cls d H') (defBody st) g ∧
        ∀ ds Q Ex, ds.length = ps.length → f ds Q Ex → g ⟨fun _ => Q .non, fun d _ => Q d, fun _ => False, fun _ => False, fun x _ => Ex x⟩ (startD N.length ds)) :
    CMethOk P w mg base (k + 1) C m ps.length f := by
  obtain ⟨mc, p, fa, fd, h1, h2, F⟩ := d
  exact ⟨mc, p, fa, fd, ps, h1, h2, F.binds hb, rfl, def_ok F S (h fa)⟩
abbrev dCMeth (c : Str) (f : List D → M D) (n : Nat) (g : DTA) : DTE := fun ρ Q E => g ρ (fun ds => ds.length + 1 = n ∧ f (.cl c :: ds) Q E) E
theorem de_cmeth {P : Program} {w : World} {base : Heap} {k n : Nat} {c m : Str} {C : Addr} {f : List D → M D} {p apos : Pos} {e : Expr} {es : List Expr} {g : DTA} {pl : ι → Sem Bool} (Fc : ClsF mg c C) (F : CMethOk P w mg base k C m n f) (hr : ∀ i, RmG k (Xs i).A) (tk : ∀ i, Pas (Xs i) Wx) (ha : DA Xs mg Wx (e :: es) g)
    (hP : HPs Xs P w mg base := by intro _; exact ⟨rfl, rfl, rfl, rfl, rfl⟩) (hg : ∀ j, Gl (Xs j) c := by intro _; rfl) (hd : (c == ("__debug__" : Str)) = false := by decide)
    (he : ∀ i, starEach (e :: es) (Xs i).env = (false, eval e (Xs i).env) :: starEach es (Xs i).env := by intro _; rfl) (hpl : ∀ i, (backTo pos (starEach es (Xs i).env)).any (·.1) = false := by intro _; rfl)
    (ht : ∀ i, eval (.Call (.Attribute (.Name c p) m apos) (e :: es) [] pos) (Xs i).env = (do
      let ov ← eval (.Name c p) (Xs i).env
      standAt apos.atName
      let (f, first) ← holding [ov] (getMethod ov m (pl i))
      callWith pos f first (backTo pos (starEach (e :: es) (Xs i).env)) (backToKw pos (keywordEach [] (Xs i).env))) := by intro _; rfl) : DE Xs mg Wx (.Call (.Attribute (.Name c p) m apos) (e :: es) [] pos) (dCMeth c f n g) := by
  obtain ⟨mc, p1, ga, fd, ps, hrd, hcm, hb, hl, G⟩ := F.ex
  obtain ⟨t, h1, h2⟩ := ha
  refine ⟨fun σ H Q => t σ H fun vs H1 => spD mg n f (.ref C :: vs) H1 Q (WE Wx σ), fun i => ?_, ?_⟩
  · obtain ⟨e1, e2, e3, e4, e5⟩ := hP i
    subst e1 e2 e5
    refine ⟨fun pins s σ H Q I h => ?_⟩
    refine PySem.W.methodCall_KW (pl := pl i) (ld_glob I (hg i) (by rw [e4]; exact Fc.nm) ?_ hd) (ht i)
    refine ClX.getmethcm_ok I (by rw [e3]; exact hrd) (by rw [e3]; exact hcm) fun s2 I2 => ?_
    refine ClX.callwith_cm I2 (ClX.base_none I (Nat.le_refl _)) (by rw [e3]; exact hcm.fi) (thn ((h1 i).run pos _ s2 σ H _ I2 h) fun us s3 ⟨vs, H2, I3, rv, q2⟩ => ⟨⟨ClX.pin_at I3, I3.kIn⟩, ?_⟩) (he i) (hpl i)
    have z := wpAny_call (PySem.W.method_call (ClX.pin_at I3) (goGc (us := .ref C :: us) (vs := .ref C :: vs) (by rw [e3, e4]; exact G) (hr i) (by rw [e3]; exact hb) (tk i σ) I3 (.cons rfl rv) q2))
    exact thn z fun _ _ y => ClX.unpinE y
  · intro B ρ Q E hf W σ H Q' hh e x q
    refine h2 B ρ _ E hf W σ H _ hh e x fun W1 H1 vs ds s1 r1 k1 => ?_
    exact ⟨W1, _, Q, E, s1.holds, .cons (.cl Fc.nm) r1, k1.1, k1.2, ToV.step q s1, fun W' H' cls dd y s' r h => x W' H' cls dd y (s1.trans s') r h⟩
/-- cls(..), the class in a local name -/
abbrev dMakeV (i : Nat) (c : Str) (f : List D → ((List (Str × D)) → Prop) → (XD → Prop) → Prop) (n : Nat) (g : DTA) : DTE := fun ρ Q E => ρ[i]? = some (.d (.cl c)) ∧ g ρ (fun ds => ds.length = n ∧ f ds (fun fs => Q (.ins c fs)) E) E
theorem de_makeV (i0 : Nat) {P : Program} {w : World} {base : Heap} {k n : Nat} {c x : Str} {C : Addr} {f : List D → ((List (Str × D)) → Prop) → (XD → Prop) → Prop} {p : Pos} {e : Expr} {es : List Expr} {g : DTA} (Fc : ClsF mg c C) (F : InitOk P w mg base k c C n f) (hr : ∀ i, RmG (k + 1) (Xs i).A) (tk : ∀ i, Pas (Xs i) Wx) (ha : DA Xs mg Wx (e :: es) g)
    (hP : HPs Xs P w mg base := by intro _; exact ⟨rfl, rfl, rfl, rfl, rfl⟩) (hN : ∀ j, (Xs j).N[i0]? = some x := by intro _; rfl)
    (hv : ∀ j, Vis (Xs j).env.scope x := by intro _; first | exact Or.inl rfl | exact Or.inr (Or.inl rfl) | exact Or.inr (Or.inr rfl)) (hd : (x == ("__debug__" : Str)) = false := by decide) (hcd : (x == ("__classdict__" : Str)) = false := by decide)
    (he : ∀ i, starEach (e :: es) (Xs i).env = (false, eval e (Xs i).env) :: starEach es (Xs i).env := by intro _; rfl) (hpl : ∀ i, (backTo pos (starEach es (Xs i).env)).any (·.1) = false := by intro _; rfl) : DE Xs mg Wx (.Call (.Name x p) (e :: es) [] pos) (dMakeV i0 c f n g) := by
  obtain ⟨fa, fd, ps, M, hb, hl, G⟩ := F.ex
  obtain ⟨t, h1, h2⟩ := ha
  refine ⟨fun σ H Q => σ[i0]? = some (some (.ref C)) ∧ t σ H fun vs H1 => ∀ x dx, H1 x = none → H1 dx = none → dx ≠ x → spI mg c C n f (.ref x :: vs) (upd (upd H1 dx (.own x)) x (.ins C dx [])) (fun v H2 => v = .non ∧ Q (.ref x) H2) (WE Wx σ), fun i => ?_, ?_⟩
  · obtain ⟨p1, p2, p3, p4, p5⟩ := hP i
    subst p1 p2 p5
    constructor
    intro pins z σ H Q I hw
    obtain ⟨hs, hw⟩ := hw
    refine wpAny_Call_Name_kw (thn ((pe_var (pos := p) (i := i0) (hN i) (hv i) hd hcd).run pins z σ H (fun v H1 => v = .ref C ∧ H1 = H) I ⟨.ref C, hs, rfl, rfl⟩) fun u s1 ⟨v, H1, I1, r1, ev, eH⟩ => ?_)
    subst ev
    rw [eH] at I1
    cases r1
    apply PySem.W.callWith_K (h₀ := (Xs i).base) I.ok.mod.kin (by rw [p3]; exact M.kp) _ (he i) (hpl i)
    refine thn ((h1 i).run pos pins s1 σ H _ I1 hw) ?_
    rintro us z1 ⟨vs, H2, I2, rv, q⟩
    exact ⟨I2.kIn, makeG (by rw [p3]; exact M) (by rw [p3, p4]; exact G) (hr i) (by rw [p3]; exact hb) (tk i σ) I2 rv q⟩
  · intro B ρ Q E hf W σ H Q' hh e x q
    obtain ⟨hs, hf⟩ := hf
    obtain ⟨o, g1, v, g2, g3⟩ := e.sl i0 _ hs
    subst g2
    cases g3 with
    | @cl C' _ hc =>
      have ec := Fc.eq hc
      subst ec
      refine ⟨g1, h2 B ρ _ E hf W σ H _ hh e x fun W1 H1 vs ds s1 r1 k1 => ?_⟩
      intro a dx na ndx ne
      refine ⟨W1, ds, vs, H1, a, dx, _, E, rfl, na, ndx, ne, rfl, s1.holds, r1, k1.1, k1.2, fun W' H' gs fs dy s' ha' nw nt hk rs hq => ⟨rfl, ?_⟩, fun W' H' cls dd y s' r h => x W' H' cls dd y (s1.trans s') r h⟩
      have st := s'.taken na ha' nw nt
      exact q _ _ _ _ (s1.trans st) (.ins Fc.nm (show upd W'.H a _ a = _ from upd_same) hk (rs.mono (Wd.le_put nw))) hq
end
end FP

/-! FP21: raise X('..'); try .. except X. -/
namespace FP
open PySem L2
variable [Tabl]
section
variable {ι : Type} {Xs : ι → Cx} {mg : Gm} {Wx : WX} {pos : Pos}
/-- a statement that is not reached -/
theorem ds_never {st : Stmt} : DS Xs mg Wx st (fun _ _ => False) := ⟨fun _ _ _ => False, fun _ => ⟨fun _ _ _ _ _ _ h => h.elim⟩, fun _ _ _ _ hf => hf.elim⟩
abbrev dRaise (x : Str) : DTS := fun N ρ => N.rs ⟨x, []⟩ ρ
/-- an own exception without own __init__ -/
structure ExcF (mg : Gm) (x : Str) (C : Addr) (bmB : List Value) (newId : String) : Prop where
  nm : mg.mg x = some (.ref C)
  ei : PySem.W.excIn mg.K C bmB newId = true
  kp : PySem.W.keepIn mg.K (.ref C) = true
  sb : PySem.W.subIn mg.K (.ref C) (.type "BaseException") = some true
  ty : PySem.W.typeIn mg.K (.ref C) = some (.type "type")
theorem ds_raise {x m : Str} {C : Addr} {bmB : List Value} {B newId initId : String} {j : Nat} {p p2 q : Pos} (F : ExcBaseFacts B newId initId bmB) (X : ExcF mg x C bmB newId) (tk : ∀ i, Takes (Xs i) Wx) (hK : ∀ j, (Xs j).K = mg.K := by intro _; rfl) (hM : ∀ j, (Xs j).mg = mg.mg := by intro _; rfl)
    (hc : ∀ j, (Xs j).calm = true := by intro _; rfl) (hg : ∀ j, Gl (Xs j) x := by intro _; rfl) (hdb : (x == ("__debug__" : Str)) = false := by decide) : DS Xs mg Wx (.Raise (some (.Call (.Name x p) [.Constant (.str m) j p2] [] q)) none pos) (dRaise x) := by
  refine ⟨fun _ σ H => Wx (.ref C) none σ H, fun i => ?_, fun W0 B N ρ hf W σ H Ds s e n => ?_⟩
  · have z := ps_raise (pos := pos) (hc i) (tk i) (pmk_own (m := m) (j := j) (p := p) (p2 := p2) (pos := q) (X := Xs i) F (by rw [hK i]; exact X.ei) (by rw [hM i]; exact X.nm) (by rw [hK i]; exact X.kp) (raises_own (by rw [hK i]; exact X.sb) (by rw [hK i]; exact X.ty)) (hg i) hdb)
    exact z
  · exact n.rs W H σ ρ _ _ _ s e ⟨C, X.nm, rfl, .inl ⟨rfl, rfl⟩⟩ hf
/-- which of the errors cs the clause takes -/
structure CatF (mg : Gm) (c : Value) (cs : List Str) (yes : Str → Bool) : Prop where
  cl : ∀ x ∈ cs, ∃ C, mg.mg x = some (.ref C) ∧ PySem.W.exmOne mg.K (.ref C) c = some (yes x)
abbrev trI (Xs : ι → Cx) (W : WX) : Type := { j : ι × List (Addr × Obj) × (Value → Shared → Prop) // Takes ((Xs j.1).tr j.2.1 j.2.2) W ∧ PassesOwn (model (Xs j.1).prog (Xs j.1).w) (Xs j.1).A (Xs j.1).env j.2.2 }
abbrev trF (Xs : ι → Cx) (W : WX) : trI Xs W → Cx := fun j => (Xs j.1.1).tr j.1.2.1 j.1.2.2
abbrev suI (ι : Type) : Type := { j : ι × Addr × Obj × List (Addr × Obj) // ∃ vs, j.2.2.1.data = .fields vs }
abbrev suF (Xs : ι → Cx) : suI ι → Cx := fun j => (Xs j.1.1).suite j.1.2.1 ((j.1.2.1, j.1.2.2.1) :: j.1.2.2.2)
abbrev dTry (cs : List Str) (yes : Str → Bool) (fb fs : DTS) : DTS := fun N ρ => fb { N with rs := fun x ρ' => x.cls ∈ cs ∧ bit (yes x.cls) (fs { N with rs := fun _ _ => False } ρ') (N.rs x ρ') } ρ
theorem ds_try {x : Str} {c : Value} {cs : List Str} {yes : Str → Bool} {body suite : List Stmt} {b₀ : Stmt} {np pos' : Pos} {fb fs : DTS} (hnm : ∀ j, Names (Xs j) x c) (K : CatF mg c cs yes) (tk : ∀ i, Takes (Xs i) Wx)
    (hb : ∀ W : WX, DSs (trF Xs W) mg W body fb) (hsu : DSs (suF Xs) mg Wx0 (b₀ :: suite) fs) (hK : ∀ j, (Xs j).K = mg.K := by intro _; rfl) (hs : ∀ j, (Xs j).stack = (Xs j).env :: (Xs j).outer := by intro _; rfl) (hf : ∀ j, (Xs j).env.frame = some (Xs j).env.locals := by intro _; rfl) :
    DS Xs mg Wx (.Try body [.ExceptHandler (some (.Name x np)) none (b₀ :: suite) pos'] [] [] pos) (dTry cs yes fb fs) := by
  obtain ⟨ts, s1, s2⟩ := hsu
  have hbt : ∃ tb : WX → TS, (∀ W, ∀ i, PSs (trF Xs W i) body (tb W)) ∧ ∀ W, CpS mg W (tb W) fb := by
    refine ⟨fun W => (hb W).choose, fun W => (hb W).choose_spec.1, fun W => (hb W).choose_spec.2⟩
  obtain ⟨tb, b1, b2⟩ := hbt
  refine ⟨fun D σ H => tb (wOnly mg.K c (fun _ _ _ => ts) Wx D) D σ H, fun i => ?_, fun W0 B N ρ hf W σ H Ds s e n => ?_⟩
  · have z := ps_try_only (X := Xs i) (np := np) (pos := pos) (pos' := pos') (tb := tb) (ts := fun _ _ _ => ts) (Wout := Wx) (hs i) (hf i) (hnm i) (tk i) (fun W pn xe h1 h2 => b1 W ⟨(i, pn, xe), h1, h2⟩) (fun a oe cls d pn _ hv => s1 ⟨(i, a, oe, pn), hv⟩)
    rw [hK i] at z
    exact z
  · refine b2 _ W0 B _ ρ hf W σ H Ds s e ⟨n.nx, n.rt, n.bk, n.ct, fun W' H' σ' ρ' cls dd y s' e' r k => ?_⟩
    obtain ⟨hm, k⟩ := k
    obtain ⟨C, hC, hy⟩ := K.cl _ hm
    obtain ⟨C', h1, h2, h3⟩ := id r
    rw [hC] at h1
    cases h1
    subst h2
    refine ⟨_, hy, fun hb a ha => ?_, fun hb => ?_⟩
    · rw [hb] at k
      exact s2 W0 B _ ρ' k W' σ' H' Ds s' e' ⟨n.nx, n.rt, n.bk, n.ct, fun _ _ _ _ _ _ _ _ _ _ k => k⟩
    · rw [hb] at k
      exact n.rs W' H' σ' ρ' _ _ _ s' e' r k
end
end FP

/-! FP22: owned objects: a pure expression reads one as data (view). -/
namespace FP
open PySem L2
variable [Tabl]
def OF.toD : OF → D
  | .d x => x
  | .l xs => .lst xs
  | .ll xss => .lst (xss.map .lst)
def toDs (fs : List (Str × OF)) : List (Str × D) := fs.map fun p => (p.1, p.2.toD)
def plainD : D → Bool
  | .non => true
  | .bl _ => true
  | .int _ => true
  | .str _ => true
  | _ => false
theorem Rep.flat {mg : Gm} {W W' : Wd} {v : V} {d : D} (r : Rep mg W v d) (h : plainD d = true) : Rep mg W' v d := by
  cases r with
  | non => exact .non
  | bl b => exact .bl b
  | int b => exact .int b
  | str b => exact .str b
  | _ => cases h
/-- the world with some addresses as they stand -/
def Wd.seen (W : Wd) (H : Hp) (as : List Addr) : Wd := { W with H := fun b => if b ∈ as then H b else W.H b }
def Wd.cut (W : Wd) (as : List Addr) : Wd := { W with H := fun b => if b ∈ as then none else W.H b }
section
variable {mg : Gm} {B : Hp} {W W' : Wd} {H H' : Hp} {σ : St} {ρ : Env} {as : List Addr}
theorem seen_le (k : ∀ b ∈ as, W.H b = none) : Le W (W.seen H as) := ⟨fun b o e => by
  show (if b ∈ as then H b else W.H b) = some o
  by_cases q : b ∈ as
  · rw [k b q] at e
    cases e
  · rw [if_neg q]
    exact e, fun _ t => t, fun _ t => t⟩
theorem seen_holds (h : Holds W H) (k : ∀ b ∈ as, ¬ W.T b) : Holds (W.seen H as) H := ⟨fun b o e => by
  have e : (if b ∈ as then H b else W.H b) = some o := e
  by_cases q : b ∈ as
  · rw [if_pos q] at e
    exact e
  · rw [if_neg q] at e
    exact h.same b o e, fun a t => by
  obtain ⟨h1, h2⟩ := h.exm a t
  refine ⟨?_, h2⟩
  show (if a ∈ as then H a else W.H a) = none
  rw [if_neg fun q => k a q t]
  exact h1, h.tok, h.tab, h.all⟩
theorem seen_step {W1 : Wd} {H1 : Hp} (s : Step (W.seen H as) H W1 H1) (k : ∀ b ∈ as, W.H b = none) : Step W H (W1.cut as) H1 := by
  refine ⟨⟨fun b o e => ?_, s.le.t, s.le.dc⟩, ⟨fun b o e => ?_, fun a t => ?_, s.holds.tok, s.holds.tab, s.holds.all⟩, s.keep, fun b o e => ?_, s.freshT, s.live⟩
  · show (if b ∈ as then none else W1.H b) = some o
    have q : b ∉ as := fun q => by rw [k b q] at e; cases e
    rw [if_neg q]
    exact s.le.h b o ((seen_le k).h b o e)
  · have e : (if b ∈ as then none else W1.H b) = some o := e
    by_cases q : b ∈ as
    · rw [if_pos q] at e
      cases e
    · rw [if_neg q] at e
      exact s.holds.same b o e
  · obtain ⟨h1, h2⟩ := s.holds.exm a t
    refine ⟨?_, h2⟩
    show (if a ∈ as then none else W1.H a) = none
    by_cases q : a ∈ as
    · rw [if_pos q]
    · rw [if_neg q]
      exact h1
  · show (if b ∈ as then none else W1.H b) = W.H b
    by_cases q : b ∈ as
    · rw [if_pos q, k b q]
    · rw [if_neg q, s.fresh b o e]
      show (if b ∈ as then H b else W.H b) = W.H b
      rw [if_neg q]
theorem seen_in {b : Addr} (h : b ∈ as) : (W.seen H as).H b = H b := if_pos h
theorem Reps.lsts {W : Wd} : ∀ {Ls : List Addr} {xss : List (List D)}, Ls.length = xss.length → (∀ (i : Nat) (l : Addr) (xs : List D), Ls[i]? = some l → xss[i]? = some xs → ∃ vs, W.H l = some (.lst vs) ∧ Reps mg W vs xs) → Reps mg W (Ls.map V.ref) (xss.map D.lst)
  | [], [], _, _ => .nil
  | L :: Ls, xs :: xss, hl, h => by
    obtain ⟨vs, h1, h2⟩ := h 0 L xs rfl rfl
    exact .cons (.lst h1 h2) (Reps.lsts (by simpa using hl) fun i l ys q1 q2 => h (i + 1) l ys q1 q2)
  | [], _ :: _, hl, _ => by cases hl
  | _ :: _, [], hl, _ => by cases hl
theorem OFR.rep {v : V} {x : OF} {bs : List Addr} (h : OFR mg W H v x bs) (l : Le W (W.seen H as)) (k : ∀ b ∈ bs, b ∈ as) : Rep mg (W.seen H as) v x.toD := by
  cases x with
  | d x => exact h.2.mono l
  | l xs =>
    obtain ⟨L, vs, rfl, rfl, h3, h4⟩ := h
    exact .lst (by rw [seen_in (k L (by simp))]; exact h3) (h4.mono l)
  | ll xss =>
    obtain ⟨L, Ls, rfl, rfl, h3, h4, h5⟩ := h
    refine .lst (by rw [seen_in (k L (by simp))]; exact h3) (Reps.lsts h4 fun i b xs q1 q2 => ?_)
    obtain ⟨vs, g1, g2⟩ := h5 i b xs q1 q2
    exact ⟨vs, by rw [seen_in (k b (List.mem_cons_of_mem _ (List.mem_of_getElem? q1)))]; exact g1, g2.mono l⟩
theorem OFs.rep (l : Le W (W.seen H as)) : ∀ {vs : List (Str × V)} {fs : List (Str × OF)} {bs : List Addr}, OFs mg W H vs fs bs → (∀ b ∈ bs, b ∈ as) → vs.map (·.1) = (toDs fs).map (·.1) ∧ Reps mg (W.seen H as) (vs.map (·.2)) ((toDs fs).map (·.2))
  | [], [], _, _, _ => ⟨rfl, .nil⟩
  | (f, v) :: vs, (g, x) :: fs, _, ⟨e, as1, as2, rfl, h1, h2⟩, k => by
    obtain ⟨i1, i2⟩ := OFs.rep l h2 fun b hb => k b (List.mem_append_right _ hb)
    refine ⟨?_, .cons (h1.rep l fun b hb => k b (List.mem_append_left _ hb)) i2⟩
    show f :: vs.map (·.1) = g :: (toDs fs).map (·.1)
    rw [e, i1]
  | [], _ :: _, _, h, _ => h.elim
  | _ :: _, [], _, h, _ => h.elim
/-- the environment seen -/
theorem EnvR.seen (e : EnvR mg B W H σ ρ) {i : Nat} {c : Str} {fs : List (Str × OF)} (hi : ρ[i]? = some (.ow c as fs)) :
    (∀ b ∈ as, W.H b = none ∧ ¬ W.T b) ∧ EnvR mg B (W.seen H as) H σ (ρ.set i (.d (.ins c (toDs fs)))) := by
  obtain ⟨o, h1, a, as', vs, ea, ho, ⟨C, dx, hc, h2⟩, h3, h4, h5⟩ := e.sl i _ hi
  have k : ∀ b ∈ as, W.H b = none ∧ ¬ W.T b := fun b hb => ⟨(h5 b hb).2.1, (h5 b hb).2.2.1⟩
  have l := seen_le (W := W) (H := H) fun b hb => (k b hb).1
  refine ⟨k, by simpa using e.len, fun j sl hj => ?_, fun j m s1 s2 o1 o2 b hjk q1 q2 q3 q4 m1 m2 => ?_⟩
  · rcases get_set hj with ⟨rfl, rfl⟩ | ⟨nj, hj⟩
    · obtain ⟨g1, g2⟩ := OFs.rep (as := as) l h3 fun b hb => by rw [ea]; exact List.mem_cons_of_mem _ hb
      exact ⟨o, h1, _, ho, .ins hc (by rw [seen_in (by rw [ea]; exact List.mem_cons_self)]; exact h2) g1 g2⟩
    · obtain ⟨o', g1, g2⟩ := e.sl j sl hj
      refine ⟨o', g1, g2.keep l fun b hb u h5 h6 h7 => ⟨h5, ?_, h7⟩⟩
      show (if b ∈ as then H b else W.H b) = none
      have nb : b ∉ as := fun q => e.dis i j _ sl o o' b nj hi hj h1 g1 q hb
      rw [if_neg nb]
      exact h6
  · rcases get_set q1 with ⟨_, z⟩ | ⟨n1, q1⟩
    · rw [← z] at m1
      cases m1
    · rcases get_set q2 with ⟨_, z⟩ | ⟨n2, q2⟩
      · rw [← z] at m2
        cases m2
      · exact e.dis j m s1 s2 o1 o2 b hjk q1 q2 q3 q4 m1 m2
end
section
variable {ι : Type} {Xs : ι → Cx} {mg : Gm} {Wx : WX} {pos : Pos}
abbrev dView (i : Nat) (f : DTE) : DTE := fun ρ Q _ => match ρ[i]? with
  | some (.ow c _ fs) => f (ρ.set i (.d (.ins c (toDs fs)))) (fun d => plainD d = true ∧ Q d) F0
  | _ => False
abbrev dViewT (i : Nat) (f : DTT) : DTT := fun ρ Q _ => match ρ[i]? with
  | some (.ow c _ fs) => f (ρ.set i (.d (.ins c (toDs fs)))) Q F0
  | _ => False
theorem de_view (i : Nat) {e : Expr} {f : DTE} (h : DE Xs mg Wx e f) : DE Xs mg Wx e (dView i f) := by
  obtain ⟨t, h1, h2⟩ := h
  refine ⟨t, h1, fun B ρ Q E hf W σ H Q' hh e x q => ?_⟩
  unfold dView at hf
  split at hf
  · rename_i c as fs hi
    obtain ⟨k, e1⟩ := e.seen hi
    refine h2 B _ _ _ hf _ σ H _ (seen_holds hh fun b hb => (k b hb).2) e1 ExR.f0 fun W1 H1 v d s1 r1 k1 => ?_
    exact q _ H1 v d (seen_step s1 fun b hb => (k b hb).1) (r1.flat k1.1) k1.2
  · exact hf.elim
theorem dt_view (i : Nat) {e : Expr} {f : DTT} (h : DT Xs mg Wx e f) : DT Xs mg Wx e (dViewT i f) := by
  obtain ⟨t, h1, h2⟩ := h
  refine ⟨t, h1, fun B ρ Q E hf W σ H Q' hh e x q => ?_⟩
  unfold dViewT at hf
  split at hf
  · rename_i c as fs hi
    obtain ⟨k, e1⟩ := e.seen hi
    refine h2 B _ _ _ hf _ σ H _ (seen_holds hh fun b hb => (k b hb).2) e1 ExR.f0 fun W1 H1 b s1 k1 => ?_
    exact q _ H1 b (seen_step s1 fun b hb => (k b hb).1) k1
  · exact hf.elim
end
end FP

/-! FP23: owned objects: what changes them. -/
namespace FP
open PySem L2
variable [Tabl]
def putO (f : Str) (x : OF) : List (Str × OF) → List (Str × OF)
  | [] => []
  | (g, y) :: r => if f == g then (g, x) :: r else (g, y) :: putO f x r
section
variable {mg : Gm} {B : Hp} {W : Wd} {H : Hp} {σ : St} {ρ : Env} {as : List Addr}
/-- a field is found; another thing is put in its place, its address kept -/
theorem OFs.get {f : Str} {x : OF} : ∀ {vs : List (Str × V)} {fs : List (Str × OF)} {as : List Addr}, OFs mg W H vs fs as → fs.lookup f = some x → as.Nodup →
    ∃ v pre bs post, vs.lookup f = some v ∧ as = pre ++ (bs ++ post) ∧ OFR mg W H v x bs ∧
      ∀ x' bs' H', (∀ b u, H b = some u → b ∉ bs → H' b = some u) → OFR mg W H' v x' bs' → OFs mg W H' vs (putO f x' fs) (pre ++ (bs' ++ post))
  | [], [], _, _, hl, _ => by cases hl
  | (g, v) :: vs, (g', y) :: fs, as, ⟨e, as1, as2, ea, h1, h2⟩, hl, nd => by
    subst e
    rw [List.lookup_cons] at hl
    rw [List.lookup_cons]
    rw [ea] at nd
    by_cases q : (f == g) = true
    · rw [q] at hl ⊢
      cases hl
      refine ⟨v, [], as1, as2, rfl, ea, h1, fun x' bs' H' hH r => ?_⟩
      have ep : putO f x' ((g, x) :: fs) = (g, x') :: fs := by
        show (if (f == g) = true then _ else _) = _
        rw [if_pos q]
      rw [ep]
      refine ⟨rfl, bs', as2, rfl, r, h2.keep (Le.refl W) fun b hb u hu => hH b u hu fun z => ?_⟩
      exact (List.nodup_append.mp nd).2.2 b z b hb rfl
    · have q : (f == g) = false := by simpa using q
      rw [q] at hl ⊢
      obtain ⟨w, pre, bs, post, g1, g2, g3, g4⟩ := OFs.get h2 hl (List.nodup_append.mp nd).2.1
      refine ⟨w, as1 ++ pre, bs, post, g1, by rw [ea, g2, List.append_assoc], g3, fun x' bs' H' hH r => ?_⟩
      have ep : putO f x' ((g, y) :: fs) = (g, y) :: putO f x' fs := by
        show (if (f == g) = true then _ else _) = _
        rw [q, if_neg Bool.false_ne_true]
      rw [ep, List.append_assoc]
      refine ⟨rfl, as1, _, rfl, h1.keep (Le.refl W) fun b hb u hu => hH b u hu fun z => ?_, g4 x' bs' H' hH r⟩
      exact (List.nodup_append.mp nd).2.2 b hb b (by rw [g2]; exact List.mem_append_right _ (List.mem_append_left _ z)) rfl
  | [], _ :: _, _, h, _, _ => h.elim
  | _ :: _, [], _, h, _, _ => h.elim
/-- an owned object's field, and how it may be changed -/
theorem EnvR.field (e : EnvR mg B W H σ ρ) (hh : Holds W H) {i : Nat} {c f : Str} {fs : List (Str × OF)} {x : OF} (hi : ρ[i]? = some (.ow c as fs)) (hf : fs.lookup f = some x) :
    ∃ a C dx vs v pre bs post, σ[i]? = some (some (.ref a)) ∧ mg.mg c = some (.ref C) ∧ H a = some (.ins C dx vs) ∧ vs.lookup f = some v ∧ as = a :: (pre ++ (bs ++ post)) ∧ OFR mg W H v x bs ∧ a ∉ bs ∧ (∀ b ∈ bs, (∃ u, H b = some u) ∧ W.H b = none ∧ ¬ W.T b ∧ B b = none) ∧
      ∀ x' bs' H', (∀ b u, H b = some u → b ∉ bs → H' b = some u) → (∀ b ∈ bs', (∃ u, H' b = some u) ∧ (b ∈ bs ∨ H b = none ∧ B b = none)) → bs'.Nodup → OFR mg W H' v x' bs' →
        EnvR mg B W H' σ (ρ.set i (.ow c (a :: (pre ++ (bs' ++ post))) (putO f x' fs))) := by
  obtain ⟨o, h1, a, as', vs, ea, ho, ⟨C, dx, hc, h2⟩, h3, h4, h5⟩ := e.sl i _ hi
  subst ho
  have nd : as'.Nodup := by rw [ea] at h4; exact (List.nodup_cons.mp h4).2
  have na : a ∉ as' := by rw [ea] at h4; exact (List.nodup_cons.mp h4).1
  obtain ⟨v, pre, bs, post, g1, g2, g3, g4⟩ := OFs.get h3 hf nd
  have inA : ∀ b ∈ pre ++ (bs ++ post), b ∈ as := fun b hb => by rw [ea, g2]; exact List.mem_cons_of_mem _ hb
  have nab : a ∉ bs := fun z => na (by rw [g2]; exact List.mem_append_right _ (List.mem_append_left _ z))
  refine ⟨a, C, dx, vs, v, pre, bs, post, h1, hc, h2, g1, by rw [ea, g2], g3, nab, fun b hb => h5 b (inA b (List.mem_append_right _ (List.mem_append_left _ hb))), fun x' bs' H' hH hb' nd' r => ?_⟩
  rw [g2] at nd na
  obtain ⟨n1, n2, n3⟩ := List.nodup_append.mp nd
  obtain ⟨n4, n5, n6⟩ := List.nodup_append.mp n2
  have mem : ∀ b, b ∈ pre ++ (bs' ++ post) → b ∈ pre ∨ b ∈ bs' ∨ b ∈ post := fun b hb => by
    rcases List.mem_append.mp hb with z | z
    · exact .inl z
    · exact .inr (List.mem_append.mp z)
  have old : ∀ b, b ∈ pre ∨ b ∈ post → b ∈ as ∧ b ∉ bs := fun b hb => by
    rcases hb with z | z
    · exact ⟨inA b (List.mem_append_left _ z), fun y => n3 b z b (List.mem_append_left _ y) rfl⟩
    · exact ⟨inA b (List.mem_append_right _ (List.mem_append_right _ z)), fun y => n6 b y b z rfl⟩
  have dis' : ∀ b, b ∈ bs' → b ∈ as → b ∈ bs := fun b hb ha => by
    rcases (hb' b hb).2 with z | z
    · exact z
    · obtain ⟨⟨u, hu⟩, _⟩ := h5 b ha
      rw [z.1] at hu
      cases hu
  have aas : a ∈ as := by rw [ea]; exact List.mem_cons_self
  have keepA : ∀ b, b ∈ as → b ∉ bs → ∃ u, H' b = some u := fun b hb nb => by
    obtain ⟨⟨u, hu⟩, _⟩ := h5 b hb
    exact ⟨u, hH b u hu nb⟩
  refine e.turns hi h1 (fun b u hu nb => hH b u hu fun z => nb (inA b (List.mem_append_right _ (List.mem_append_left _ z)))) ?_ ?_
  · intro b hb
    rcases List.mem_cons.mp hb with z | z
    · exact .inl (by rw [z]; exact aas)
    · rcases mem b z with z | z | z
      · exact .inl (old b (.inl z)).1
      · rcases (hb' b z).2 with y | y
        · exact .inl (inA b (List.mem_append_right _ (List.mem_append_left _ y)))
        · exact .inr y.1
      · exact .inl (old b (.inr z)).1
  · refine ⟨a, _, vs, rfl, rfl, ⟨C, dx, hc, hH a _ h2 nab⟩, g4 x' bs' H' hH r, ?_, fun b hb => ?_⟩
    · refine List.nodup_cons.mpr ⟨fun z => ?_, List.nodup_append.mpr ⟨n1, List.nodup_append.mpr ⟨nd', n5, fun b hb b' hb' q => ?_⟩, fun b hb b' hb' q => ?_⟩⟩
      · rcases mem a z with z | z | z
        · exact na (List.mem_append_left _ z)
        · exact nab (dis' a z aas)
        · exact na (List.mem_append_right _ (List.mem_append_right _ z))
      · subst q
        exact (old b (.inr hb')).2 (dis' b hb (old b (.inr hb')).1)
      · subst q
        rcases List.mem_append.mp hb' with z | z
        · exact (old b (.inl hb)).2 (dis' b z (old b (.inl hb)).1)
        · exact n3 b hb b (List.mem_append_right _ z) rfl
    · have fin : ∀ b, b ∈ as → b ∉ bs → (∃ u, H' b = some u) ∧ W.H b = none ∧ ¬ W.T b ∧ B b = none := fun b hb nb => ⟨keepA b hb nb, (h5 b hb).2⟩
      rcases List.mem_cons.mp hb with z | z
      · rw [z]
        exact fin a aas nab
      · rcases mem b z with z | z | z
        · exact fin b (old b (.inl z)).1 (old b (.inl z)).2
        · refine ⟨(hb' b z).1, ?_⟩
          rcases (hb' b z).2 with y | y
          · exact (h5 b (inA b (List.mem_append_right _ (List.mem_append_left _ y)))).2
          · exact ⟨hh.same.free y.1, hh.nT y.1, y.2⟩
        · exact fin b (old b (.inr z)).1 (old b (.inr z)).2
end
section
variable {ι : Type} {Xs : ι → Cx} {mg : Gm} {Wx : WX} {pos : Pos}
/-- x.f.append(e), f an owned list of the owned object x -/
abbrev dOwApp (i : Nat) (c f : Str) (g : DTE) : DTS := fun N ρ => match ρ[i]? with
  | some (.ow c' as fs) => c' = c ∧ ∃ xs, fs.lookup f = some (.l xs) ∧ g ρ (fun d => xs.length < sizeLine ∧ N.nx (ρ.set i (.ow c as (putO f (.l (xs ++ [d])) fs)))) (fun x => N.rs x ρ)
  | _ => False
theorem ds_owApp (i : Nat) {c f x : Str} {C : Addr} {e : Expr} {g : DTE} {st : Stmt} (F : ClsF mg c C) (na : NoAttr mg.K C f) (h : DE Xs mg Wx e g)
    (pe : ∀ j t, PE (Xs j) e t → PS (Xs j) st (tDrop (tBM (Xs j).K "list" rAppend (tFld (Xs j).K (tVar i) f) (tCons t tNil)))) (hK : ∀ j, (Xs j).K = mg.K := by intro _; rfl) : DS Xs mg Wx st (dOwApp i c f g) := by
  obtain ⟨t, h1, h2⟩ := h
  refine ⟨tDrop (tBM mg.K "list" rAppend (tFld mg.K (tVar i) f) (tCons t tNil)), fun j => by rw [← hK j]; exact pe j t (h1 j), fun W0 B N ρ hf W σ H Ds s e n => ?_⟩
  unfold dOwApp at hf
  split at hf
  · rename_i c' as fs hi
    obtain ⟨rfl, xs, hl, hf⟩ := hf
    obtain ⟨a, C', dx, vs, v, pre, bs, post, q1, q2, q3, q4, q5, ⟨L, us, rfl, rfl, q7, q8⟩, q9, q10, _⟩ := e.field s.holds hi hl
    have ec := F.eq q2
    subst ec
    refine ⟨.ref a, q1, a, C', dx, vs, .ref L, rfl, q3, F.cl, na, q4, .inl ⟨rfl, _, SqL.of q7⟩, ?_⟩
    refine h2 B ρ _ _ hf W σ H _ s.holds e (n.ex s e) fun W1 H1 y d s1 r1 k1 => ?_
    have e1 := e.step s1
    obtain ⟨a2, C2, dx2, vs2, v2, pre2, bs2, post2, p1, p2, p3, p4, p5, ⟨L2, us2, rfl, rfl, p7, p8⟩, p9, p10, p11⟩ := e1.field s1.holds hi hl
    rw [q1] at p1
    cases p1
    have ha := (e.sl i _ hi)
    have hka : H1 a = some (.ins C' dx vs) := by
      obtain ⟨o, g1, g2⟩ := ha
      obtain ⟨u, _, g3, g4, _⟩ := g2.at (a := a) (by rw [q5]; exact List.mem_cons_self)
      exact s1.keep a _ q3 g4
    rw [hka] at p3
    cases p3
    rw [q4] at p4
    cases p4
    refine ⟨L, us2, y, rfl, rfl, p7, by rw [p8.length]; exact k1.1, ?_⟩
    obtain ⟨_, g3, g4, g6⟩ := p10 L (List.mem_singleton.mpr rfl)
    have e2 := p11 (.l (xs ++ [d])) [L] (upd H1 L (.lst (us2 ++ [y]))) (fun b u hb nb => by
      have ne : b ≠ L := fun z => nb (by rw [z]; exact List.mem_singleton.mpr rfl)
      rw [upd_ne ne]
      exact hb) (fun b hb => by
      obtain rfl := List.mem_singleton.mp hb
      exact ⟨⟨_, upd_same⟩, .inl hb⟩) (by simp) ⟨L, _, rfl, rfl, upd_same, p8.snoc r1⟩
    rw [← p5] at e2
    exact n.nx W1 _ σ _ ((s.trans s1).own g6 p7 g3 g4) e2 k1.2
  · exact hf.elim
end
end FP

/-! FP24: owned objects: fields stored. -/
namespace FP
open PySem L2
variable [Tabl]
/-- a field is put, at the end if it is new -/
def setO (f : Str) (x : OF) : List (Str × OF) → List (Str × OF)
  | [] => [(f, x)]
  | (g, y) :: r => if g = f then (f, x) :: r else (g, y) :: setO f x r
section
variable {mg : Gm} {B : Hp} {W : Wd} {H : Hp} {σ : St} {ρ : Env} {as : List Addr}
theorem OFs.length : ∀ {vs : List (Str × V)} {fs : List (Str × OF)} {as : List Addr}, OFs mg W H vs fs as → vs.length = fs.length
  | [], [], _, _ => rfl
  | _ :: _, _ :: _, _, ⟨_, _, _, _, _, h⟩ => congrArg (· + 1) (OFs.length h)
  | [], _ :: _, _, h => h.elim
  | _ :: _, [], _, h => h.elim
/-- a datum's field may be stored -/
def datF (f : Str) (fs : List (Str × OF)) : Bool := match fs.lookup f with
  | none => true
  | some (.d _) => true
  | _ => false
theorem OFs.put {f : Str} {v : V} {d : D} (r : Rep mg W v d) : ∀ {vs : List (Str × V)} {fs : List (Str × OF)} {as : List Addr}, OFs mg W H vs fs as → datF f fs = true → OFs mg W H (putF f v vs) (setO f (.d d) fs) as
  | [], [], as, h, _ => by
    have h : as = [] := h
    subst h
    exact ⟨rfl, [], [], rfl, ⟨rfl, r⟩, rfl⟩
  | (g, w) :: vs, (g', y) :: fs, as, ⟨e, as1, as2, ea, h1, h2⟩, hd => by
    subst e
    unfold putF setO
    by_cases q : g = f
    · rw [if_pos q, if_pos q]
      have hy : ∃ d0, y = .d d0 := by
        unfold datF at hd
        rw [List.lookup_cons, show (f == g) = true from by rw [q]; exact beq_self_eq_true f] at hd
        cases y with
        | d d0 => exact ⟨d0, rfl⟩
        | l _ => cases hd
        | ll _ => cases hd
      obtain ⟨d0, rfl⟩ := hy
      obtain ⟨z, _⟩ := h1
      subst z
      exact ⟨q, [], as2, ea, ⟨rfl, r⟩, h2⟩
    · rw [if_neg q, if_neg q]
      refine ⟨rfl, as1, as2, ea, h1, OFs.put r h2 ?_⟩
      unfold datF at hd ⊢
      rw [List.lookup_cons, show (f == g) = false from by simpa using fun z => q z.symm] at hd
      exact hd
  | [], _ :: _, _, h, _ => h.elim
  | _ :: _, [], _, h, _ => h.elim
end
section
variable {ι : Type} {Xs : ι → Cx} {mg : Gm} {Wx : WX} {pos : Pos}
abbrev dOwSet (i : Nat) (c f : Str) (g : DTE) : DTS := fun N ρ => g ρ (fun d => match ρ[i]? with
  | some (.ow c' as fs) => c' = c ∧ fs.length < 1000 ∧ datF f fs = true ∧ N.nx (ρ.set i (.ow c as (setO f (.d d) fs)))
  | _ => False) (fun x => N.rs x ρ)
theorem ds_owSet (i : Nat) {c x f : Str} {C : Addr} {p p' : Pos} {e : Expr} {g : DTE} (F : ClsF mg c C) (na : NoAttr mg.K C f) (h : DE Xs mg Wx e g) (hK : ∀ j, (Xs j).K = mg.K := by intro _; rfl) (hN : ∀ j, (Xs j).N[i]? = some x := by intro _; rfl)
    (hv : ∀ j, Vis (Xs j).env.scope x := by intro _; first | exact Or.inl rfl | exact Or.inr (Or.inl rfl) | exact Or.inr (Or.inr rfl)) (hd : (x == ("__debug__" : Str)) = false := by decide) (hcd : (x == ("__classdict__" : Str)) = false := by decide)
    (hs : ∀ j, swapsWith e (some (.Attribute (.Name x p) f p')) pos.line (Xs j).env = pure false := by intro _; rfl) : DS Xs mg Wx (.Assign [.Attribute (.Name x p) f p'] e pos) (dOwSet i c f g) := by
  obtain ⟨t, h1, h2⟩ := h
  refine ⟨sFld mg.K (tVar i) t f, fun j => by
    have z := ps_fld (pe_var (i := i) (pos := p) (hN j) (hv j) hd hcd) (h1 j) (hs j)
    rw [hK j] at z
    exact z, fun W0 B N ρ hf W σ H Ds s e n => ?_⟩
  refine h2 B ρ _ _ hf W σ H _ s.holds e (n.ex s e) fun W1 H1 v d s1 r1 k1 => ?_
  have e1 := e.step s1
  dsimp only at k1
  split at k1
  · rename_i c' as fs hs'
    obtain ⟨rfl, hl, hdf, hq⟩ := k1
    obtain ⟨o, g1, a, as', vs, ea, rfl, ⟨C', dx, hc, g3⟩, hof, hnd, hk⟩ := e1.sl i _ hs'
    have ec := F.eq hc
    subst ec
    have el := hof.length
    have aas : a ∈ as := by rw [ea]; exact List.mem_cons_self
    obtain ⟨_, g4, g5, g6⟩ := hk a aas
    refine ⟨.ref a, g1, a, C', dx, vs, rfl, g3, F.cl, na, by omega, ?_⟩
    have na' : a ∉ as' := by rw [ea] at hnd; exact (List.nodup_cons.mp hnd).1
    refine n.nx W1 _ σ _ ((s.trans s1).own g6 g3 g4 g5) (e1.turn (s' := .ow c' as (setO f (.d d) fs)) hs' g1 aas (fun _ h => h) ⟨a, as', _, ea, rfl, ⟨C', dx, hc, upd_same⟩, (OFs.put r1 hof hdf).keep (Le.refl _) fun b hb u hu => ?_, hnd, fun b hb => ?_⟩) hq
    · have ne : b ≠ a := fun z => na' (by rw [← z]; exact hb)
      rw [upd_ne ne]
      exact hu
    · obtain ⟨⟨u, hu⟩, k2⟩ := hk b hb
      refine ⟨?_, k2⟩
      by_cases z : b = a
      · rw [z]
        exact ⟨_, upd_same⟩
      · rw [upd_ne z]
        exact ⟨u, hu⟩
  · exact k1.elim
end
end FP

/-! FP25: owned objects: a new field that holds a new list (x.f = []), or a new list of new lists (x.f = [[]]). -/
namespace FP
open PySem L2
variable [Tabl]
section
variable {mg : Gm} {B : Hp} {W : Wd} {H : Hp} {σ : St} {ρ : Env}
theorem OFs.snoc {f : Str} {v : V} {x : OF} {bs : List Addr} (r : OFR mg W H v x bs) : ∀ {vs : List (Str × V)} {fs : List (Str × OF)} {as : List Addr}, OFs mg W H vs fs as → fs.lookup f = none → OFs mg W H (putF f v vs) (fs ++ [(f, x)]) (as ++ bs)
  | [], [], as, h, _ => by
    have h : as = [] := h
    subst h
    exact ⟨rfl, bs, [], by simp, r, rfl⟩
  | (g, w) :: vs, (g', y) :: fs, as, ⟨e, as1, as2, ea, h1, h2⟩, hl => by
    subst e
    rw [List.lookup_cons] at hl
    have q : (f == g) = false := by
      cases z : f == g with
      | false => rfl
      | true => rw [z] at hl; cases hl
    rw [q] at hl
    unfold putF
    rw [if_neg fun z => by rw [z, beq_self_eq_true] at q; cases q]
    exact ⟨rfl, as1, as2 ++ bs, by rw [ea, List.append_assoc], h1, OFs.snoc r h2 hl⟩
  | [], _ :: _, _, h, _ => h.elim
  | _ :: _, [], _, h, _ => h.elim
/-- an owned object gets a field whose addresses are new -/
theorem EnvR.addF (e : EnvR mg B W H σ ρ) (hh : Holds W H) {i : Nat} {c f : Str} {as : List Addr} {fs : List (Str × OF)} {x : OF} {v : V} {bs : List Addr} {H2 : Hp} (hi : ρ[i]? = some (.ow c as fs)) (hl : fs.lookup f = none)
    (nb : ∀ b ∈ bs, H b = none ∧ B b = none) (nd : bs.Nodup) (hH : ∀ b u, H b = some u → H2 b = some u) (hbs : ∀ b ∈ bs, ∃ u, H2 b = some u) (r : OFR mg W H2 v x bs) :
    ∃ a C dx vs, σ[i]? = some (some (.ref a)) ∧ mg.mg c = some (.ref C) ∧ H2 a = some (.ins C dx vs) ∧ vs.length = fs.length ∧ W.H a = none ∧ ¬ W.T a ∧ B a = none ∧
      EnvR mg B W (upd H2 a (.ins C dx (putF f v vs))) σ (ρ.set i (.ow c (as ++ bs) (fs ++ [(f, x)]))) := by
  obtain ⟨o, g1, a, as', vs, ea, rfl, ⟨C, dx, hc, g3⟩, hof, hnd, hk⟩ := e.sl i _ hi
  have aas : a ∈ as := by rw [ea]; exact List.mem_cons_self
  obtain ⟨_, g4, g5, g6⟩ := hk a aas
  have apart : ∀ b, b ∈ as → b ∈ bs → False := fun b h1 h2 => by
    obtain ⟨⟨u, hu⟩, _⟩ := hk b h1
    rw [(nb b h2).1] at hu
    cases hu
  have na' : a ∉ as' := by rw [ea] at hnd; exact (List.nodup_cons.mp hnd).1
  have neA : ∀ b, b ∈ as' ++ bs → b ≠ a := fun b hb z => by
    rcases List.mem_append.mp hb with q | q
    · exact na' (by rw [← z]; exact q)
    · exact apart a aas (by rw [← z]; exact q)
  refine ⟨a, C, dx, vs, g1, hc, hH a _ g3, hof.length, g4, g5, g6, ?_⟩
  refine e.turns hi g1 (fun b u hu nf => ?_) (fun b hb => ?_) ⟨a, as' ++ bs, putF f v vs, by rw [ea]; rfl, rfl, ⟨C, dx, hc, upd_same⟩, ?_, ?_, fun b hb => ?_⟩
  · have ne : b ≠ a := fun z => nf (by rw [z]; exact aas)
    rw [upd_ne ne]
    exact hH b u hu
  · rcases List.mem_append.mp hb with q | q
    · exact .inl q
    · exact .inr (nb b q).1
  · have h2 := OFs.snoc r (hof.keep (Le.refl W) fun b _ u hu => hH b u hu) hl
    exact h2.keep (Le.refl W) fun b hb u hu => by
      rw [upd_ne (neA b hb)]
      exact hu
  · exact List.nodup_append.mpr ⟨hnd, nd, fun b h1 b' h2 q => apart b h1 (by rw [q]; exact h2)⟩
  · rcases List.mem_append.mp hb with q | q
    · obtain ⟨⟨u, hu⟩, k2⟩ := hk b q
      refine ⟨?_, k2⟩
      by_cases z : b = a
      · rw [z]
        exact ⟨_, upd_same⟩
      · rw [upd_ne z]
        exact ⟨u, hH b u hu⟩
    · obtain ⟨u, hu⟩ := hbs b q
      refine ⟨⟨u, ?_⟩, hh.same.free (nb b q).1, hh.nT (nb b q).1, (nb b q).2⟩
      rw [upd_ne (neA b (List.mem_append_right _ q))]
      exact hu
end
section
variable {ι : Type} {Xs : ι → Cx} {mg : Gm} {Wx : WX} {pos : Pos}
theorem Step.noB {W0 W : Wd} {B H : Hp} (s : Step W0 B W H) {p : Addr} (h : H p = none) : B p = none := by
  cases q : B p with
  | none => rfl
  | some o =>
    obtain ⟨o', e'⟩ := s.live p o q
    rw [e'] at h
    cases h
abbrev dOwNewL (i : Nat) (c f : Str) (g : DTA) : DTS := fun N ρ => g ρ (fun ds => match ρ[i]? with
  | some (.ow c' as fs) => c' = c ∧ fs.length < 1000 ∧ fs.lookup f = none ∧ ∀ p, N.nx (ρ.set i (.ow c (as ++ [p]) (fs ++ [(f, .l ds)])))
  | _ => False) (fun x => N.rs x ρ)
theorem ds_owNewL (i : Nat) {c x f : Str} {C : Addr} {p p' : Pos} {e : Expr} {g : DTA} (F : ClsF mg c C) (na : NoAttr mg.K C f) (h : DO Xs mg Wx e g) (hK : ∀ j, (Xs j).K = mg.K := by intro _; rfl) (hN : ∀ j, (Xs j).N[i]? = some x := by intro _; rfl)
    (hv : ∀ j, Vis (Xs j).env.scope x := by intro _; first | exact Or.inl rfl | exact Or.inr (Or.inl rfl) | exact Or.inr (Or.inr rfl)) (hd : (x == ("__debug__" : Str)) = false := by decide) (hcd : (x == ("__classdict__" : Str)) = false := by decide)
    (hs : ∀ j, swapsWith e (some (.Attribute (.Name x p) f p')) pos.line (Xs j).env = pure false := by intro _; rfl) : DS Xs mg Wx (.Assign [.Attribute (.Name x p) f p'] e pos) (dOwNewL i c f g) := by
  obtain ⟨t, h1, h2⟩ := h
  refine ⟨sFld mg.K (tVar i) t f, fun j => by
    have z := ps_fld (pe_var (i := i) (pos := p) (hN j) (hv j) hd hcd) (h1 j) (hs j)
    rw [hK j] at z
    exact z, fun W0 B N ρ hf W σ H Ds s e n => ?_⟩
  refine h2 B ρ _ _ hf W σ H _ s.holds e (n.ex s e) fun W1 H1 q vs ds s1 hq r1 k1 => ?_
  have e1 := e.step s1
  have s01 := s.trans s1
  split at k1
  · rename_i c' as fs hs'
    obtain ⟨rfl, hl, hlk, hq2⟩ := k1
    obtain ⟨a, C', dx, us, g1, hc, g3, gl, g4, g5, g6, e2⟩ := e1.addF (x := .l ds) (v := .ref q) (bs := [q]) (H2 := upd H1 q (.lst vs)) s01.holds hs' hlk (fun b hb => by
      obtain rfl := List.mem_singleton.mp hb
      exact ⟨hq, s01.noB hq⟩) (by simp) (fun b u hb => by rw [upd_ne (ne_of_none hb hq)]; exact hb) (fun b hb => by
      obtain rfl := List.mem_singleton.mp hb
      exact ⟨_, upd_same⟩) ⟨q, vs, rfl, rfl, upd_same, r1⟩
    have ec := F.eq hc
    subst ec
    refine ⟨.ref a, g1, a, C', dx, us, rfl, g3, F.cl, na, by omega, ?_⟩
    exact n.nx W1 _ σ _ ((s01.trans (Step.lay s01.holds hq)).own g6 g3 g4 g5) e2 (hq2 q)
  · exact k1.elim
/-- x.f = [[]] -/
abbrev dOwNewLL (i : Nat) (c f : Str) : DTS := fun N ρ => match ρ[i]? with
  | some (.ow c' as fs) => c' = c ∧ fs.length < 1000 ∧ fs.lookup f = none ∧ ∀ p q, N.nx (ρ.set i (.ow c (as ++ [p, q]) (fs ++ [(f, .ll [[]])])))
  | _ => False
theorem ds_owNewLL (i : Nat) {c x f : Str} {C : Addr} {p p' p1 p2 : Pos} (F : ClsF mg c C) (na : NoAttr mg.K C f) (hK : ∀ j, (Xs j).K = mg.K := by intro _; rfl) (hN : ∀ j, (Xs j).N[i]? = some x := by intro _; rfl)
    (hv : ∀ j, Vis (Xs j).env.scope x := by intro _; first | exact Or.inl rfl | exact Or.inr (Or.inl rfl) | exact Or.inr (Or.inr rfl)) (hd : (x == ("__debug__" : Str)) = false := by decide) (hcd : (x == ("__classdict__" : Str)) = false := by decide)
    (hs : ∀ j, swapsWith (.List [.List [] p2] p1) (some (.Attribute (.Name x p) f p')) pos.line (Xs j).env = pure false := by intro _; rfl) (hst : ∀ j, starEach [.List [] p2] (Xs j).env = [(false, eval (.List [] p2) (Xs j).env)] := by intro _; rfl) :
    DS Xs mg Wx (.Assign [.Attribute (.Name x p) f p'] (.List [.List [] p2] p1) pos) (dOwNewLL i c f) := by
  refine ⟨_, fun j => by
    have z := ps_fld (pe_var (i := i) (pos := p) (hN j) (hv j) hd hcd) (pe_lst (pos := p1) (pa_cons (pe_lst (pos := p2) pa_nil) pa_nil (hst j))) (hs j)
    rw [hK j] at z
    exact z, fun W0 B N ρ hf W σ H Ds s e n => ?_⟩
  unfold dOwNewLL at hf
  split at hf
  · rename_i c' as fs hs'
    obtain ⟨rfl, hl, hlk, hq2⟩ := hf
    refine ⟨Nat.zero_le _, fun q1 n1 => ⟨by show 1 ≤ sizeLine; rw [PySem.sizeLine_eq]; omega, fun q2 n2 => ?_⟩⟩
    have s1 := Step.lay s.holds (o := .lst []) n1
    have s2 := s1.trans (Step.lay s1.holds (o := .lst [.ref q1]) n2)
    have ne : q2 ≠ q1 := fun z => by rw [z, upd_same] at n2; cases n2
    have n2' : H q2 = none := by rw [upd_ne ne] at n2; exact n2
    have hq1 : (upd (upd H q1 (.lst [])) q2 (.lst [.ref q1])) q1 = some (.lst []) := by rw [upd_ne (Ne.symm ne)]; exact upd_same
    obtain ⟨a, C', dx, us, g1, hc, g3, gl, g4, g5, g6, e2⟩ := e.addF (x := .ll [[]]) (v := .ref q2) (bs := [q2, q1]) (H2 := upd (upd H q1 (.lst [])) q2 (.lst [.ref q1])) s.holds hs' hlk (fun b hb => by
      rcases List.mem_cons.mp hb with z | z
      · rw [z]; exact ⟨n2', s.noB n2'⟩
      · rw [List.mem_singleton.mp z]; exact ⟨n1, s.noB n1⟩) (by simp [ne]) (fun b u hb => by rw [upd_ne (ne_of_none hb n2'), upd_ne (ne_of_none hb n1)]; exact hb) (fun b hb => by
      rcases List.mem_cons.mp hb with z | z
      · rw [z]; exact ⟨_, upd_same⟩
      · rw [List.mem_singleton.mp z]; exact ⟨_, hq1⟩) ⟨q2, [q1], rfl, rfl, upd_same, rfl, fun k l xs z1 z2 => by
      cases k with
      | zero => cases z1; cases z2; exact ⟨[], hq1, .nil⟩
      | succ k => cases z1⟩
    have ec := F.eq hc
    subst ec
    refine ⟨.ref a, g1, a, C', dx, us, rfl, g3, F.cl, na, by omega, ?_⟩
    exact n.nx W _ σ _ ((s.trans s2).own g6 g3 g4 g5) e2 (hq2 q2 q1)
  · exact hf.elim
end
end FP

/-! FP26: owned lists of owned lists: x.f.append([]), x.f[-1].append(e), y = x.f.pop(). -/
namespace FP
open PySem L2
variable [Tabl]
section
variable {ι : Type} {Xs : ι → Cx} {mg : Gm} {Wx : WX} {pos : Pos}
theorem EnvR.owNd {B : Hp} {W : Wd} {H : Hp} {σ : St} {ρ : Env} {i : Nat} {c : Str} {as : List Addr} {fs : List (Str × OF)} (e : EnvR mg B W H σ ρ) (hi : ρ[i]? = some (.ow c as fs)) : as.Nodup := by
  obtain ⟨_, _, _, _, _, _, _, _, _, h, _⟩ := e.sl i _ hi
  exact h
theorem nd_mid {a : Addr} {pre bs post : List Addr} (h : (a :: (pre ++ (bs ++ post))).Nodup) : bs.Nodup := by
  have h1 := (List.nodup_cons.mp h).2
  exact (List.nodup_append.mp (List.nodup_append.mp h1).2.1).1
abbrev dOwAppNew (i : Nat) (c f : Str) (g : DTA) : DTS := fun N ρ => match ρ[i]? with
  | some (.ow c' as fs) => c' = c ∧ ∃ xss, fs.lookup f = some (.ll xss) ∧ g ρ (fun ds => xss.length < sizeLine ∧ ∀ as', as'.head? = as.head? → N.nx (ρ.set i (.ow c as' (putO f (.ll (xss ++ [ds])) fs)))) (fun x => N.rs x ρ)
  | _ => False
theorem ds_owAppNew (i : Nat) {c f : Str} {C : Addr} {e : Expr} {g : DTA} {st : Stmt} (F : ClsF mg c C) (na : NoAttr mg.K C f) (h : DO Xs mg Wx e g)
    (pe : ∀ j t, PE (Xs j) e t → PS (Xs j) st (tDrop (tBM (Xs j).K "list" rAppend (tFld (Xs j).K (tVar i) f) (tCons t tNil)))) (hK : ∀ j, (Xs j).K = mg.K := by intro _; rfl) : DS Xs mg Wx st (dOwAppNew i c f g) := by
  obtain ⟨t, h1, h2⟩ := h
  refine ⟨tDrop (tBM mg.K "list" rAppend (tFld mg.K (tVar i) f) (tCons t tNil)), fun j => by rw [← hK j]; exact pe j t (h1 j), fun W0 B N ρ hf W σ H Ds s e n => ?_⟩
  unfold dOwAppNew at hf
  split at hf
  · rename_i c' as fs hi
    obtain ⟨rfl, xss, hl, hf⟩ := hf
    obtain ⟨a, C', dx, vs, v, pre, bs, post, q1, q2, q3, q4, q5, ⟨L, Ls, rfl, rfl, q7, q8⟩, q9, q10, _⟩ := e.field s.holds hi hl
    have ec := F.eq q2
    subst ec
    refine ⟨.ref a, q1, a, C', dx, vs, .ref L, rfl, q3, F.cl, na, q4, .inl ⟨rfl, _, SqL.of q7⟩, ?_⟩
    refine h2 B ρ _ _ hf W σ H _ s.holds e (n.ex s e) fun W1 H1 y ys ds s1 hy r1 k1 => ?_
    have e1 := e.step s1
    have s01 := s.trans s1
    have nd := e1.owNd hi
    obtain ⟨a2, C2, dx2, vs2, v2, pre2, bs2, post2, p1, p2, p3, p4, p5, ⟨M, Ms, rfl, rfl, p7, p8, pE⟩, p9, p10, p11⟩ := e1.field s1.holds hi hl
    rw [q1] at p1
    cases p1
    have hka : H1 a = some (.ins C' dx vs) := by
      obtain ⟨o, g1, g2⟩ := e.sl i _ hi
      obtain ⟨u, _, g3, g4, _⟩ := g2.at (a := a) (by rw [q5]; exact List.mem_cons_self)
      exact s1.keep a _ q3 g4
    rw [hka] at p3
    cases p3
    rw [q4] at p4
    cases p4
    have hne : L ≠ y := ne_of_none p7 hy
    have hL : (upd H1 y (.lst ys)) L = some (.lst (Ms.map V.ref)) := by rw [upd_ne hne]; exact p7
    refine ⟨L, Ms.map V.ref, .ref y, rfl, rfl, hL, by rw [List.length_map, p8]; exact k1.1, ?_⟩
    obtain ⟨_, g3, g4, g6⟩ := p10 L List.mem_cons_self
    rw [p5] at nd
    have ndb := nd_mid nd
    have oldM : ∀ b ∈ Ms, b ≠ L ∧ b ≠ y := fun b hb => ⟨fun z => (List.nodup_cons.mp ndb).1 (by rw [← z]; exact hb), fun z => by
      obtain ⟨⟨u, hu⟩, _⟩ := p10 b (List.mem_cons_of_mem _ hb)
      rw [z, hy] at hu
      cases hu⟩
    have hyv : (upd (upd H1 y (.lst ys)) L (.lst (Ms.map V.ref ++ [.ref y]))) y = some (.lst ys) := by rw [upd_ne (Ne.symm hne)]; exact upd_same
    have e2 := p11 (.ll (xss ++ [ds])) (L :: (Ms ++ [y])) (upd (upd H1 y (.lst ys)) L (.lst (Ms.map V.ref ++ [.ref y]))) (fun b u hb nb => by
      have n1 : b ≠ L := fun z => nb (by rw [z]; exact List.mem_cons_self)
      rw [upd_ne n1, upd_ne (ne_of_none hb hy)]
      exact hb) (fun b hb => by
      rcases List.mem_cons.mp hb with z | z
      · rw [z]
        exact ⟨⟨_, upd_same⟩, .inl List.mem_cons_self⟩
      · rcases List.mem_append.mp z with z | z
        · obtain ⟨⟨u, hu⟩, _⟩ := p10 b (List.mem_cons_of_mem _ z)
          exact ⟨⟨u, by rw [upd_ne (oldM b z).1, upd_ne (oldM b z).2]; exact hu⟩, .inl (List.mem_cons_of_mem _ z)⟩
        · rw [List.mem_singleton.mp z]
          exact ⟨⟨_, hyv⟩, .inr ⟨hy, s01.noB hy⟩⟩) (by
      refine List.nodup_cons.mpr ⟨fun z => ?_, List.nodup_append.mpr ⟨(List.nodup_cons.mp ndb).2, by simp, fun b hb b' hb' q => ?_⟩⟩
      · rcases List.mem_append.mp z with z | z
        · exact (List.nodup_cons.mp ndb).1 z
        · exact hne (List.mem_singleton.mp z)
      · rw [List.mem_singleton.mp hb'] at q
        exact (oldM b hb).2 q) ⟨L, Ms ++ [y], rfl, rfl, by rw [List.map_append]; exact upd_same, by rw [List.length_append, List.length_append, p8]; rfl, fun k l xs z1 z2 => by
      by_cases hk : k < Ms.length
      · rw [List.getElem?_append_left hk] at z1
        rw [List.getElem?_append_left (by rw [← p8]; exact hk)] at z2
        obtain ⟨ws, w1, w2⟩ := pE k l xs z1 z2
        have hm := List.mem_of_getElem? z1
        exact ⟨ws, by rw [upd_ne (oldM l hm).1, upd_ne (oldM l hm).2]; exact w1, w2⟩
      · rw [List.getElem?_append_right (by omega)] at z1
        rw [List.getElem?_append_right (by rw [← p8]; omega), ← p8] at z2
        cases hz : k - Ms.length with
        | zero =>
          rw [hz] at z1 z2
          cases z1
          cases z2
          exact ⟨ys, hyv, r1⟩
        | succ m =>
          rw [hz] at z1
          cases z1⟩
    exact n.nx W1 _ σ _ ((s01.trans (Step.lay s01.holds hy)).own g6 hL g3 g4) e2 (k1.2 _ (by rw [p5]; rfl))
  · exact hf.elim
end
end FP

/-! FP27: x.f[-1].append(e). -/
namespace FP
open PySem L2
variable [Tabl]
theorem atI_last {α : Type} {xs : List α} {n : Nat} {x : α} (h : xs.length = n + 1) (hx : xs[n]? = some x) : atI xs (-1) = some x := by
  unfold atI ixN
  rw [if_neg (by omega), if_pos (by omega), h]
  show xs[((-1 : Int) + ((n + 1 : Nat) : Int)).toNat]? = some x
  rw [show ((-1 : Int) + ((n + 1 : Nat) : Int)).toNat = n by omega]
  exact hx
section
variable {ι : Type} {Xs : ι → Cx} {mg : Gm} {Wx : WX} {pos : Pos}
abbrev dOwAppLast (i : Nat) (c f : Str) (g : DTE) : DTS := fun N ρ => match ρ[i]? with
  | some (.ow c' as fs) => c' = c ∧ ∃ xss xs, fs.lookup f = some (.ll (xss ++ [xs])) ∧ g ρ (fun d => xs.length < sizeLine ∧ N.nx (ρ.set i (.ow c as (putO f (.ll (xss ++ [xs ++ [d]])) fs)))) (fun x => N.rs x ρ)
  | _ => False
theorem ds_owAppLast (i : Nat) {c f : Str} {C : Addr} {e : Expr} {g : DTE} {st : Stmt} {ti : TE} (F : ClsF mg c C) (na : NoAttr mg.K C f) (h : DE Xs mg Wx e g) (hti : ∀ σ H Q, Q (.int (-1)) H → ti σ H Q)
    (pe : ∀ j t, PE (Xs j) e t → PS (Xs j) st (tDrop (tBM (Xs j).K "list" rAppend (tOp (rIx (Xs j).K) (tFld (Xs j).K (tVar i) f) ti) (tCons t tNil)))) (hK : ∀ j, (Xs j).K = mg.K := by intro _; rfl) : DS Xs mg Wx st (dOwAppLast i c f g) := by
  obtain ⟨t, h1, h2⟩ := h
  refine ⟨tDrop (tBM mg.K "list" rAppend (tOp (rIx mg.K) (tFld mg.K (tVar i) f) ti) (tCons t tNil)), fun j => by rw [← hK j]; exact pe j t (h1 j), fun W0 B N ρ hf W σ H Ds s e n => ?_⟩
  unfold dOwAppLast at hf
  split at hf
  · rename_i c' as fs hi
    obtain ⟨rfl, xss, xs, hl, hf⟩ := hf
    obtain ⟨a, C', dx, vs, v, pre, bs, post, q1, q2, q3, q4, q5, ⟨L, Ls, rfl, rfl, q7, q8, qE⟩, q9, q10, _⟩ := e.field s.holds hi hl
    have ec := F.eq q2
    subst ec
    have q8 : Ls.length = xss.length + 1 := by rw [q8, List.length_append]; rfl
    have hlast : ∃ l, Ls[xss.length]? = some l := ⟨_, List.getElem?_eq_getElem (by omega)⟩
    obtain ⟨l, hl1⟩ := hlast
    obtain ⟨us, hl2, _⟩ := qE xss.length l xs hl1 (by simp)
    refine ⟨.ref a, q1, a, C', dx, vs, .ref L, rfl, q3, F.cl, na, q4, hti _ _ _ (.inl ⟨L, _, -1, .ref l, rfl, rfl, SqL.of q7, atI_last (n := xss.length) (by rw [List.length_map]; exact q8) (by rw [List.getElem?_map, hl1]; rfl), ?_⟩)⟩
    refine ⟨.inl ⟨rfl, _, SqL.of hl2⟩, ?_⟩
    refine h2 B ρ _ _ hf W σ H _ s.holds e (n.ex s e) fun W1 H1 y d s1 r1 k1 => ?_
    have e1 := e.step s1
    have s01 := s.trans s1
    have nd := e1.owNd hi
    obtain ⟨a2, C2, dx2, vs2, v2, pre2, bs2, post2, p1, p2, p3, p4, p5, ⟨M, Ms, rfl, rfl, p7, p8, pE⟩, p9, p10, p11⟩ := e1.field s1.holds hi hl
    rw [q1] at p1
    cases p1
    obtain ⟨oo, gg1, gg2⟩ := e.sl i _ hi
    have kp : ∀ b u, b ∈ as → H b = some u → H1 b = some u := fun b u hb hu => by
      obtain ⟨_, _, _, g4, _⟩ := gg2.at (a := b) hb
      exact s1.keep b u hu g4
    have hka := kp a _ (by rw [q5]; exact List.mem_cons_self) q3
    rw [hka] at p3
    cases p3
    rw [q4] at p4
    cases p4
    have hkL := kp L _ (by rw [q5]; exact List.mem_cons_of_mem _ (List.mem_append_right _ (List.mem_append_left _ List.mem_cons_self))) q7
    rw [hkL] at p7
    have eMs : Ls = Ms := by
      have z : Ls.map V.ref = Ms.map V.ref := by injection p7 with z; injection z
      exact List.map_inj_right (f := V.ref) (fun x y q => by injection q) |>.mp z
    subst eMs
    obtain ⟨us1, w1, w2⟩ := pE xss.length l xs hl1 (by simp)
    refine ⟨l, us1, y, rfl, rfl, w1, by rw [w2.length]; exact k1.1, ?_⟩
    have hml : l ∈ Ls := List.mem_of_getElem? hl1
    obtain ⟨_, g3, g4, g6⟩ := p10 l (List.mem_cons_of_mem _ hml)
    rw [p5] at nd
    have ndb := nd_mid nd
    have neL : L ≠ l := fun z => (List.nodup_cons.mp ndb).1 (by rw [z]; exact hml)
    have e2 := p11 (.ll (xss ++ [xs ++ [d]])) (L :: Ls) (upd H1 l (.lst (us1 ++ [y]))) (fun b u hb nb => by
      have n1 : b ≠ l := fun z => nb (by rw [z]; exact List.mem_cons_of_mem _ hml)
      rw [upd_ne n1]
      exact hb) (fun b hb => by
      refine ⟨?_, .inl hb⟩
      by_cases z : b = l
      · rw [z]; exact ⟨_, upd_same⟩
      · obtain ⟨⟨u, hu⟩, _⟩ := p10 b hb
        exact ⟨u, by rw [upd_ne z]; exact hu⟩) ndb ⟨L, Ls, rfl, rfl, by rw [upd_ne neL]; exact hkL, by rw [q8, List.length_append]; rfl, fun k l' zs z1 z2 => by
      by_cases hk : k < xss.length
      · rw [List.getElem?_append_left hk] at z2
        obtain ⟨ws, v1, v2⟩ := pE k l' zs z1 (by rw [List.getElem?_append_left hk]; exact z2)
        have ne : l' ≠ l := fun z => by
          have nn := (List.nodup_cons.mp ndb).2
          have e1 := (List.getElem?_eq_some_iff.mp z1)
          have e2 := (List.getElem?_eq_some_iff.mp hl1)
          exact (List.pairwise_iff_getElem.mp nn) k xss.length e1.1 e2.1 hk (by rw [e1.2, e2.2, z])
        exact ⟨ws, by rw [upd_ne ne]; exact v1, v2⟩
      · have hk2 : k < Ls.length := (List.getElem?_eq_some_iff.mp z1).1
        have ek : k = xss.length := by omega
        subst ek
        rw [hl1] at z1
        cases z1
        rw [List.getElem?_append_right (Nat.le_refl _), Nat.sub_self] at z2
        cases z2
        exact ⟨_, upd_same, w2.snoc r1⟩⟩
    rw [← p5] at e2
    exact n.nx W1 _ σ _ (s01.own g6 w1 g3 g4) e2 k1.2
  · exact hf.elim
end
end FP

/-! FP28: y = x.f.pop() of an owned list of owned lists. -/
namespace FP
open PySem L2
variable [Tabl]
section
variable {mg : Gm} {B : Hp} {W : Wd} {H : Hp} {σ : St} {ρ : Env}
/-- a place gets what no place has -/
theorem EnvR.move (e : EnvR mg B W H σ ρ) {k : Nat} {o : Option V} {s : Sl} (n : ∀ (j : Nat) (t : Sl) (o' : Option V) (b : Addr), j ≠ k → ρ[j]? = some t → σ[j]? = some o' → b ∈ t.fp o' → b ∈ s.fp o → False) (r : SlR mg B W H o s) : EnvR mg B W H (σ.set k o) (ρ.set k s) := by
  refine ⟨by simpa using e.len, fun j sl hj => ?_, fun j m s1 s2 o1 o2 a hjk h1 h2 h3 h4 m1 m2 => ?_⟩
  · rcases get_set hj with ⟨rfl, rfl⟩ | ⟨nj, hj⟩
    · have hl : k < ρ.length := by simpa using (List.getElem?_eq_some_iff.mp hj).1
      exact ⟨o, by rw [List.getElem?_set_self (by rw [e.len]; exact hl)], r⟩
    · obtain ⟨o', h1, h2⟩ := e.sl j sl hj
      exact ⟨o', by rw [List.getElem?_set_ne nj]; exact h1, h2⟩
  · rcases get_set h1 with ⟨e1, z1⟩ | ⟨n1, h1⟩
    · rcases get_set h2 with ⟨q, _⟩ | ⟨n2, h2⟩
      · exact hjk (e1.symm.trans q)
      · rw [List.getElem?_set_ne n2] at h4
        rcases get_set h3 with ⟨_, q⟩ | ⟨q, _⟩
        · rw [← z1, ← q] at m1
          exact n m s2 o2 a (Ne.symm n2) h2 h4 m2 m1
        · exact q e1
    · rcases get_set h2 with ⟨e2, z2⟩ | ⟨n2, h2⟩
      · rw [List.getElem?_set_ne n1] at h3
        rcases get_set h4 with ⟨_, q⟩ | ⟨q, _⟩
        · rw [← z2, ← q] at m2
          exact n j s1 o1 a (Ne.symm n1) h1 h3 m1 m2
        · exact q e2
      · rw [List.getElem?_set_ne n1] at h3
        rw [List.getElem?_set_ne n2] at h4
        exact e.dis j m s1 s2 o1 o2 a hjk h1 h2 h3 h4 m1 m2
end
section
variable {ι : Type} {Xs : ι → Cx} {mg : Gm} {Wx : WX} {pos : Pos}
abbrev dOwPop (i k : Nat) (c f : Str) : DTS := fun N ρ => match ρ[i]? with
  | some (.ow c' as fs) => c' = c ∧ ∃ xss xs, fs.lookup f = some (.ll (xss ++ [xs])) ∧ ∀ as', as'.head? = as.head? → N.nx ((ρ.set i (.ow c as' (putO f (.ll xss) fs))).set k (.own xs))
  | _ => False
theorem ds_owPop (i k : Nat) {c f : Str} {C : Addr} {st : Stmt} (F : ClsF mg c C) (na : NoAttr mg.K C f) (hik : i ≠ k)
    (pe : ∀ j, PS (Xs j) st (tAsg (tBM0 (Xs j).K "list" rPop (tFld (Xs j).K (tVar i) f)) (gName k))) (hK : ∀ j, (Xs j).K = mg.K := by intro _; rfl) : DS Xs mg Wx st (dOwPop i k c f) := by
  refine ⟨tAsg (tBM0 mg.K "list" rPop (tFld mg.K (tVar i) f)) (gName k), fun j => by rw [← hK j]; exact pe j, fun W0 B N ρ hf W σ H Ds s e n => ?_⟩
  unfold dOwPop at hf
  split at hf
  · rename_i c' as fs hi
    obtain ⟨rfl, xss, xs, hl, hf⟩ := hf
    have nd := e.owNd hi
    obtain ⟨a, C', dx, vs, v, pre, bs, post, q1, q2, q3, q4, q5, ⟨L, Ls, rfl, rfl, q7, q8, qE⟩, q9, q10, q11⟩ := e.field s.holds hi hl
    have ec := F.eq q2
    subst ec
    have q8 : Ls.length = xss.length + 1 := by rw [q8, List.length_append]; rfl
    obtain ⟨l, hl1⟩ : ∃ l, Ls[xss.length]? = some l := ⟨_, List.getElem?_eq_getElem (by omega)⟩
    obtain ⟨us, hl2, rl⟩ := qE xss.length l xs hl1 (by simp)
    have eLs : Ls = Ls.dropLast ++ [l] := by
      have hne : Ls ≠ [] := fun z => by rw [z] at q8; cases q8
      have hg : Ls.getLast hne = l := by
        rw [List.getLast_eq_getElem]
        have := (List.getElem?_eq_some_iff.mp hl1).2
        rw [← this]
        congr 1
        omega
      rw [← hg]
      exact (List.dropLast_concat_getLast hne).symm
    have hml : l ∈ Ls := List.mem_of_getElem? hl1
    rw [q5] at nd
    have ndb := nd_mid nd
    have ndL := (List.nodup_cons.mp ndb).2
    have neL : l ≠ L := fun z => (List.nodup_cons.mp ndb).1 (by rw [← z]; exact hml)
    have hdl : (Ls.map V.ref).dropLast = Ls.dropLast.map V.ref := by rw [List.map_dropLast]
    have hlm : ∀ b, b ∈ Ls.dropLast → b ∈ Ls := fun b hb => by rw [eLs]; exact List.mem_append_left _ hb
    have nl : l ∉ Ls.dropLast := fun z => by
      rw [eLs] at ndL
      exact (List.nodup_append.mp ndL).2.2 l z l (List.mem_singleton.mpr rfl) rfl
    refine ⟨.ref a, q1, a, C', dx, vs, .ref L, rfl, q3, F.cl, na, q4, .inl ⟨rfl, _, SqL.of q7⟩, L, Ls.map V.ref, .ref l, rfl, rfl, q7, by rw [List.length_map, q8, List.getElem?_map]; show Option.map V.ref Ls[xss.length]? = _; rw [hl1]; rfl, ?_⟩
    rw [hdl]
    obtain ⟨_, g3, g4, g6⟩ := q10 L List.mem_cons_self
    obtain ⟨_, k3, k4, k6⟩ := q10 l (List.mem_cons_of_mem _ hml)
    have e2 := q11 (.ll xss) (L :: Ls.dropLast) (upd H L (.lst (Ls.dropLast.map V.ref))) (fun b u hb nb => by
      have n1 : b ≠ L := fun z => nb (by rw [z]; exact List.mem_cons_self)
      rw [upd_ne n1]
      exact hb) (fun b hb => by
      rcases List.mem_cons.mp hb with z | z
      · rw [z]; exact ⟨⟨_, upd_same⟩, .inl List.mem_cons_self⟩
      · have hb' := List.mem_cons_of_mem L (hlm b z)
        obtain ⟨⟨u, hu⟩, _⟩ := q10 b hb'
        have n1 : b ≠ L := fun y => (List.nodup_cons.mp ndb).1 (by rw [← y]; exact hlm b z)
        exact ⟨⟨u, by rw [upd_ne n1]; exact hu⟩, .inl hb'⟩) (List.nodup_cons.mpr ⟨fun z => (List.nodup_cons.mp ndb).1 (hlm L z), by
      rw [eLs] at ndL
      exact (List.nodup_append.mp ndL).1⟩) ⟨L, Ls.dropLast, rfl, rfl, upd_same, by rw [List.length_dropLast, q8]; rfl, fun m l' zs z1 z2 => by
      have hm : m < xss.length := (List.getElem?_eq_some_iff.mp z2).1
      have z1' : Ls[m]? = some l' := by rw [eLs, List.getElem?_append_left (by rw [List.length_dropLast]; omega)]; exact z1
      obtain ⟨ws, w1, w2⟩ := qE m l' zs z1' (by rw [List.getElem?_append_left hm]; exact z2)
      have n1 : l' ≠ L := fun y => (List.nodup_cons.mp ndb).1 (by rw [← y]; exact List.mem_of_getElem? z1')
      exact ⟨ws, by rw [upd_ne n1]; exact w1, w2⟩⟩
    have hlas : l ∈ as := by rw [q5]; exact List.mem_cons_of_mem _ (List.mem_append_right _ (List.mem_append_left _ (List.mem_cons_of_mem _ hml)))
    refine n.nx W _ _ _ (s.own g6 q7 g3 g4) (e2.move (k := k) (o := some (.ref l)) (s := .own xs) (fun j t o' b hj h1 h2 m1 m2 => ?_) ⟨l, us, rfl, by rw [upd_ne neL]; exact hl2, k3, k4, k6, rl⟩) (hf _ (by rw [q5]; rfl))
    obtain rfl := List.mem_singleton.mp m2
    rcases get_set h1 with ⟨rfl, z⟩ | ⟨nj, h1⟩
    · rw [← z] at m1
      have m1 : b ∈ a :: (pre ++ (L :: Ls.dropLast ++ post)) := m1
      have h0 := List.nodup_cons.mp nd
      have h00 := List.nodup_append.mp h0.2
      have h000 := List.nodup_append.mp h00.2.1
      have inb : b ∈ L :: Ls := List.mem_cons_of_mem _ hml
      rcases List.mem_cons.mp m1 with z | z
      · exact q9 (by rw [← z]; exact inb)
      · rcases List.mem_append.mp z with z | z
        · exact h00.2.2 b z b (List.mem_append_left _ inb) rfl
        · rcases List.mem_append.mp z with z | z
          · rcases List.mem_cons.mp z with z | z
            · exact neL z
            · exact nl z
          · exact h000.2.2 b inb b z rfl
    · exact e.dis i j _ t _ o' b nj hi h1 q1 h2 hlas m1
  · exact hf.elim
end
end FP

/-! FP29: methods that change an owned object; making an owned object; handing it to the world. -/
namespace FP
open PySem L2
variable [Tabl]
/-- the heap without some addresses -/
def offH (H : Hp) (as : List Addr) : Hp := fun b => if b ∈ as then none else H b
theorem offH_in {H : Hp} {as : List Addr} {b : Addr} (h : b ∈ as) : offH H as b = none := if_pos h
theorem offH_out {H : Hp} {as : List Addr} {b : Addr} (h : b ∉ as) : offH H as b = H b := if_neg h
theorem offH_some {H : Hp} {as : List Addr} {b : Addr} {o : HO} (h : offH H as b = some o) : b ∉ as ∧ H b = some o := by
  by_cases q : b ∈ as
  · rw [offH_in q] at h
    cases h
  · rw [offH_out q] at h
    exact ⟨q, h⟩
theorem offH_none {H : Hp} {as : List Addr} {b : Addr} (h : offH H as b = none) : b ∈ as ∨ H b = none := by
  by_cases q : b ∈ as
  · exact .inl q
  · rw [offH_out q] at h
    exact .inr h
theorem Step.off {W : Wd} {H : Hp} {as : List Addr} (h : Holds W H) : Step W (offH H as) W H :=
  ⟨Le.refl W, h, fun _ _ e _ => (offH_some e).2, fun _ _ _ => rfl, fun _ t => .inl t, fun _ o e => ⟨o, (offH_some e).2⟩⟩
theorem Step.over {W0 W W' : Wd} {B H H' : Hp} {as : List Addr} (a : Step W0 B W H) (k : ∀ b ∈ as, B b = none) (b : Step W (offH H as) W' H') : Step W0 B W' H' where
  le := a.le.trans b.le
  holds := b.holds
  keep := fun c o e n => by
    have nc : c ∉ as := fun z => by rw [k c z] at e; cases e
    refine b.keep c o (by rw [offH_out nc]; exact a.keep c o e n) fun t => ?_
    rcases a.freshT c t with t | t
    · exact n t
    · rw [e] at t
      cases t
  fresh := fun c o e => by
    have nc : c ∉ as := fun z => by rw [k c z] at e; cases e
    obtain ⟨o', e'⟩ := a.live c o e
    rw [b.fresh c o' (by rw [offH_out nc]; exact e'), a.fresh c o e]
  freshT := fun c t => by
    rcases b.freshT c t with t | t
    · exact a.freshT c t
    · refine .inr ?_
      cases q : B c with
      | none => rfl
      | some o =>
        have nc : c ∉ as := fun z => by rw [k c z] at q; cases q
        obtain ⟨o', e'⟩ := a.live c o q
        rw [offH_out nc, e'] at t
        cases t
  live := fun c o e => by
    have nc : c ∉ as := fun z => by rw [k c z] at e; cases e
    obtain ⟨o', e'⟩ := a.live c o e
    exact b.live c o' (by rw [offH_out nc]; exact e')
section
variable {mg : Gm} {B B' : Hp} {W W' : Wd} {H H' : Hp} {σ : St} {ρ : Env} {as : List Addr}
theorem SlR.rebase {o : Option V} {s : Sl} (h : SlR mg B W H o s) (k : ∀ a ∈ s.fp o, B a = none → B' a = none) : SlR mg B' W H o s := by
  cases s with
  | no => exact h
  | exc => exact h
  | d x => exact h
  | own xs =>
    obtain ⟨a, vs, h1, h2, h3, h4, h5, r⟩ := h
    subst h1
    exact ⟨a, vs, rfl, h2, h3, h4, k a (List.mem_singleton.mpr rfl) h5, r⟩
  | ob c a fs =>
    obtain ⟨vs, h1, h2, h3, h4, h5, r⟩ := h
    exact ⟨vs, h1, h2, h3, h4, k a (List.mem_singleton.mpr rfl) h5, r⟩
  | ow c as fs =>
    obtain ⟨a, as', vs, h1, h2, h3, h4, h5, h6⟩ := h
    exact ⟨a, as', vs, h1, h2, h3, h4, h5, fun b hb => ⟨(h6 b hb).1, (h6 b hb).2.1, (h6 b hb).2.2.1, k b hb (h6 b hb).2.2.2⟩⟩
/-- what is mine at a place was changed by a callee -/
theorem EnvR.over (e : EnvR mg B W H σ ρ) {i : Nat} {o : Option V} {s s' : Sl} (hi : ρ[i]? = some s) (hs : σ[i]? = some o) (st : Step W (offH H (s.fp o)) W' H') (hn : ∀ a ∈ s'.fp o, a ∈ s.fp o ∨ H a = none) (r : SlR mg B W' H' o s') : EnvR mg B W' H' σ (ρ.set i s') := by
  have off : ∀ (j : Nat) (t : Sl) (o' : Option V) (b : Addr), j ≠ i → ρ[j]? = some t → σ[j]? = some o' → b ∈ t.fp o' → b ∈ s'.fp o → False := fun j t o' b nj h1 h2 m m' => by
    rcases hn b m' with z | z
    · exact e.dis j i t s o' o b nj h1 hi h2 hs m z
    · obtain ⟨o2, h3, h4⟩ := e.sl j _ h1
      rw [h2] at h3
      cases h3
      obtain ⟨u', h6, _⟩ := h4.at m
      rw [z] at h6
      cases h6
  refine ⟨by simpa using e.len, fun j sl hj => ?_, fun j k s1 s2 o1 o2 a hjk h1 h2 h3 h4 m1 m2 => ?_⟩
  · rcases get_set hj with ⟨rfl, rfl⟩ | ⟨nj, hj⟩
    · exact ⟨_, hs, r⟩
    · obtain ⟨o', h1, h2⟩ := e.sl j sl hj
      exact ⟨o', h1, h2.keep st.le fun a ha u h5 h6 h7 => st.mine (by rw [offH_out fun z => e.dis i j s sl o o' a nj hi hj hs h1 z ha]; exact h5) h6 h7⟩
  · rcases get_set h1 with ⟨e1, z1⟩ | ⟨n1, h1⟩
    · rcases get_set h2 with ⟨q, _⟩ | ⟨n2, h2⟩
      · exact hjk (e1.symm.trans q)
      · subst e1
        rw [hs] at h3
        cases h3
        rw [← z1] at m1
        exact off k s2 o2 a (Ne.symm n2) h2 h4 m2 m1
    · rcases get_set h2 with ⟨e2, z2⟩ | ⟨n2, h2⟩
      · subst e2
        rw [hs] at h4
        cases h4
        rw [← z2] at m2
        exact off j s1 o1 a (Ne.symm n1) h1 h3 m1 m2
      · exact e.dis j k s1 s2 o1 o2 a hjk h1 h2 h3 h4 m1 m2
/-- new things of one's own at a place, made by a callee -/
theorem EnvR.newsW (e : EnvR mg B W H σ ρ) {i : Nat} {o : Option V} {s : Sl} (st : Step W H W' H') (n : ∀ a ∈ s.fp o, H a = none) (r : SlR mg B W' H' o s) : EnvR mg B W' H' (σ.set i o) (ρ.set i s) := by
  have e1 := e.step st
  have old : ∀ (j : Nat) (t : Sl) (o' : Option V) (b : Addr), ρ[j]? = some t → σ[j]? = some o' → b ∈ t.fp o' → b ∈ s.fp o → False := fun j t o' b h1 h2 m m' => by
    obtain ⟨o2, h3, h4⟩ := e.sl j _ h1
    rw [h2] at h3
    cases h3
    obtain ⟨u', h6, _⟩ := h4.at m
    rw [n b m'] at h6
    cases h6
  refine ⟨by simpa using e.len, fun j sl hj => ?_, fun j k s1 s2 o1 o2 a hjk h1 h2 h3 h4 m1 m2 => ?_⟩
  · rcases get_set hj with ⟨rfl, rfl⟩ | ⟨nj, hj⟩
    · have hl : i < ρ.length := by simpa using (List.getElem?_eq_some_iff.mp hj).1
      exact ⟨o, by rw [List.getElem?_set_self (by rw [e.len]; exact hl)], r⟩
    · obtain ⟨o', h1, h2⟩ := e1.sl j sl hj
      exact ⟨o', by rw [List.getElem?_set_ne nj]; exact h1, h2⟩
  · rcases get_set h1 with ⟨e1, z1⟩ | ⟨n1, h1⟩
    · rcases get_set h2 with ⟨q, _⟩ | ⟨n2, h2⟩
      · exact hjk (e1.symm.trans q)
      · rw [List.getElem?_set_ne n2] at h4
        rcases get_set h3 with ⟨_, q⟩ | ⟨q, _⟩
        · rw [← z1, ← q] at m1
          exact old k s2 o2 a h2 h4 m2 m1
        · exact q e1
    · rcases get_set h2 with ⟨e2, z2⟩ | ⟨n2, h2⟩
      · rw [List.getElem?_set_ne n1] at h3
        rcases get_set h4 with ⟨_, q⟩ | ⟨q, _⟩
        · rw [← z2, ← q] at m2
          exact old j s1 o1 a h1 h3 m1 m2
        · exact q e2
      · rw [List.getElem?_set_ne n1] at h3
        rw [List.getElem?_set_ne n2] at h4
        exact e.dis j k s1 s2 o1 o2 a hjk h1 h2 h3 h4 m1 m2
/-- a start with an owned object in slot 0 -/
theorem EnvR.startO {N : List Str} {o : Option V} {s : Sl} {vs : List V} {ds : List D} {v : V} (hN : N.length = (N.length - 1) + 1) (ho : o = some v) (r : Reps mg W vs ds) (r0 : SlR mg B W H o s) : EnvR mg B W H (L2.start N (v :: vs)) (s :: startD (N.length - 1) ds) := by
  subst ho
  have lt : N.tail.length = N.length - 1 := List.length_tail
  have es : L2.start N (v :: vs) = some v :: L2.start N.tail vs := by
    unfold L2.start
    rw [List.map_cons, List.cons_append, List.length_cons, lt, Nat.sub_sub, Nat.add_comm 1]
  have base0 := EnvR.start (N := N.tail) (mg := mg) (H := H) r
  rw [es, ← lt]
  have none2 : ∀ (j : Nat) (s : Sl) (o : Option V) (a : Addr), (startD N.tail.length ds)[j]? = some s → a ∉ s.fp o := fun j s o a hj m => by
    unfold startD at hj
    rcases List.mem_append.mp (List.mem_of_getElem? hj) with z | z
    · obtain ⟨_, _, z⟩ := List.mem_map.mp z
      rw [← z] at m
      cases m
    · have z := List.eq_of_mem_replicate z
      rw [z] at m
      cases m
  refine ⟨congrArg (· + 1) base0.len, fun i sl hi => ?_, fun i j s1 s2 o1 o2 a hij q1 q2 q3 q4 m1 m2 => ?_⟩
  · cases i with
    | zero =>
      cases hi
      exact ⟨_, rfl, r0⟩
    | succ i =>
      obtain ⟨o, g1, g2⟩ := base0.sl i sl hi
      exact ⟨o, g1, g2.rebase fun a ha _ => (none2 i sl o a hi ha).elim⟩
  · cases i with
    | succ i => exact none2 i s1 o1 a q1 m1
    | zero =>
      cases j with
      | zero => exact hij rfl
      | succ j => exact none2 j s2 o2 a q2 m2
theorem OFs.noField {m : Str} : ∀ {vs : List (Str × V)} {fs : List (Str × OF)} {as : List Addr}, OFs mg W H vs fs as → fs.lookup m = none → vs.lookup m = none
  | [], [], _, _, _ => rfl
  | (g, v) :: vs, (g', y) :: fs, as, ⟨e, as1, as2, ea, h1, h2⟩, hl => by
    subst e
    rw [List.lookup_cons] at hl ⊢
    split at hl
    · cases hl
    · exact OFs.noField h2 hl
  | [], _ :: _, _, h, _ => h.elim
  | _ :: _, [], _, h, _ => h.elim
end

/-! ### the promise of a method that changes its object -/
abbrev FO := List (Str × OF)
abbrev MO := (D → FO → Prop) → (XD → FO → Prop) → Prop
def spO (mg : Gm) (c : Str) (n : Nat) (f : FO → List D → MO) : Sp := fun vs H Q E => ∃ W a us ds as fs Qd Ed, vs = .ref a :: us ∧ Holds W H ∧ SlR mg (offH H as) W H (some (.ref a)) (.ow c as fs) ∧ Reps mg W us ds ∧ ds.length = n ∧ f fs ds Qd Ed ∧
  (∀ W' H' v d as' fs', Step W (offH H as) W' H' → Rep mg W' v d → SlR mg (offH H as) W' H' (some (.ref a)) (.ow c as' fs') → Qd d fs' → Q v H') ∧
  ∀ W' H' cls dd x as' fs', Step W (offH H as) W' H' → RepX mg W' H' cls dd x → SlR mg (offH H as) W' H' (some (.ref a)) (.ow c as' fs') → Ed x fs' → E cls dd H'
structure MethO (P : Program) (w : World) (mg : Gm) (base : Heap) (k : Nat) (c : Str) (C : Addr) (m : Str) (n : Nat) (f : FO → List D → MO) : Prop where
  ex : ∃ fa fd ps, Meth mg.K C m fa ∧ Binds mg.K fd ps [] ∧ ps.length = n + 1 ∧ FnG P w mg.K mg.mg base k fa fd ps (spO mg c n f)
section
variable {ι : Type} {Xs : ι → Cx} {mg : Gm} {Wx : WX} {pos : Pos}
/-- a method by its body: its own object stands in slot 0 -/
theorem mkMethO {P : Program} {w : World} {base : Heap} {c : Str} {C : Addr} {m qual : Str} {st : Stmt} {N ps : List Str} {k n : Nat} {f : FO → List D → MO} (d : ∃ fa fd, Meth mg.K C m fa ∧ Fun mg.K m qual st fa fd) (S : FnScope N ps (defScope st)) (hn : ps.length = n + 1)
    (hb : ∀ (kV doc pm : Value) (an : Option Addr) (cdv ct : Value) (us : List Value), us.length = ps.length → bindArgs (PySem.W.fnOf m qual (defArgs st) (defBody st) (defScope st) .none kV doc pm an cdv ct) ⟨us, []⟩ = pure (ps.zip us))
    (h : ∀ (fa : Addr) (cdv : Value) (A : Around) (outer : List PySem.Env) (s : Shared) (H : Hp) (E : XK), RmG k (A.deeper (PyProof.Rows.envOfC qual (defScope st) s.heap.objs.size fa cdv)) →
      ∃ g, DSs (fun _ : Unit => cxOf (L2.CX P w) P w mg.K mg.mg base N qual (defScope st) fa cdv A outer s H E) mg (fun cls d _ H' => E cls d H') (defBody st) g ∧
        ∀ as fs ds Q Ex, ds.length = n → f fs ds Q Ex → g ⟨fun ρ => ∃ as' fs' r, ρ = .ow c as' fs' :: r ∧ as'.head? = as.head? ∧ Q .non fs', fun d ρ => ∃ as' fs' r, ρ = .ow c as' fs' :: r ∧ as'.head? = as.head? ∧ Q d fs', fun _ => False, fun _ => False, fun x ρ => ∃ as' fs' r, ρ = .ow c as' fs' :: r ∧ as'.head? = as.head? ∧ Ex x fs'⟩ (.ow c as fs :: startD (N.length - 1) ds)) :
    MethO P w mg base (k + 1) c C m n f := by
  obtain ⟨fa, fd, hm, F⟩ := d
  refine ⟨fa, fd, ps, hm, F.binds hb, hn, ?_⟩
  refine fnG_of F S (fun vs H Q E hs => ?_) (fun cdv A outer s H vs Q E hr hs => ?_)
  · obtain ⟨W, a, us, ds, as, fs, Qd, Ed, rfl, _, _, r, l, _⟩ := hs
    rw [List.length_cons, r.length, l, hn]
  · obtain ⟨W, a, us, ds, as, fs, Qd, Ed, rfl, hh, r0, r, l, hf, q, ex⟩ := hs
    obtain ⟨g, ⟨t, h1, h2⟩, h3⟩ := h fa cdv A outer s H E hr
    refine ⟨t, h1 (), ?_⟩
    have hN : N.length = (N.length - 1) + 1 := by
      have q1 := congrArg List.length S.pre
      rw [List.length_take, hn] at q1
      omega
    have hda : as.head? = some a := by
      obtain ⟨a', as', vs, ea, ho, _⟩ := r0
      cases ho
      rw [ea]
      rfl
    have back : ∀ W' H' σ' ρ' as' fs' rr, EnvR mg (offH H as) W' H' σ' ρ' → ρ' = .ow c as' fs' :: rr → as'.head? = as.head? → SlR mg (offH H as) W' H' (some (.ref a)) (.ow c as' fs') := by
      intro W' H' σ' ρ' as' fs' rr e' er eh
      subst er
      obtain ⟨o, g1, g2⟩ := e'.sl 0 _ rfl
      obtain ⟨a', as2, vs, ea, ho, g3⟩ := id g2
      rw [ea, hda] at eh
      cases eh
      rw [ho] at g2
      exact g2
    refine h2 W (offH H as) _ _ (h3 as fs ds Qd Ed l hf) W _ H _ (Step.off hh) (EnvR.startO hN rfl r r0) ⟨fun W' H' σ' ρ' s' e' k => ?_, fun W' H' σ' ρ' v d s' e' rv k => ?_, fun _ _ _ _ _ _ k => k.elim, fun _ _ _ _ _ _ k => k.elim, fun W' H' σ' ρ' cls dd y s' e' ry k => ?_⟩
    · obtain ⟨as', fs', rr, er, eh, hq⟩ := k
      exact q W' H' _ _ as' fs' s' .non (back W' H' σ' ρ' as' fs' rr e' er eh) hq
    · obtain ⟨as', fs', rr, er, eh, hq⟩ := k
      exact q W' H' _ _ as' fs' s' rv (back W' H' σ' ρ' as' fs' rr e' er eh) hq
    · obtain ⟨as', fs', rr, er, eh, hq⟩ := k
      exact ex W' H' _ _ _ as' fs' s' ry (back W' H' σ' ρ' as' fs' rr e' er eh) hq

/-! ### expressions that change what is mine -/
abbrev DTX := Env → (D → Env → Prop) → (XD → Env → Prop) → Prop
def CpX (mg : Gm) (Wx : WX) (t : TE) (f : DTX) : Prop := ∀ W0 B ρ Q E, f ρ Q E → ∀ W σ H Q', Step W0 B W H → EnvR mg B W H σ ρ → (∀ W' H' cls dd x ρ', Step W0 B W' H' → EnvR mg B W' H' σ ρ' → RepX mg W' H' cls dd x → E x ρ' → Wx cls dd σ H') →
  (∀ W' H' v d ρ', Step W0 B W' H' → EnvR mg B W' H' σ ρ' → Rep mg W' v d → Q d ρ' → Q' v H') → t σ H Q'
def DX (Xs : ι → Cx) (mg : Gm) (Wx : WX) (e : Expr) (f : DTX) : Prop := ∃ t, (∀ i, PE (Xs i) e t) ∧ CpX mg Wx t f
abbrev dxMeth (i : Nat) (c m : Str) (n : Nat) (f : FO → List D → MO) (g : DTA) : DTX := fun ρ Q E => match ρ[i]? with
  | some (.ow c' as fs) => c' = c ∧ fs.lookup m = none ∧ g ρ (fun ds => ds.length = n ∧ f fs ds (fun d fs' => ∀ as', as'.head? = as.head? → Q d (ρ.set i (.ow c as' fs'))) (fun x fs' => ∀ as', as'.head? = as.head? → E x (ρ.set i (.ow c as' fs')))) (fun x => E x ρ)
  | _ => False
theorem dx_meth (i0 : Nat) {P : Program} {w : World} {base : Heap} {k n : Nat} {c m x : Str} {C : Addr} {f : FO → List D → MO} {p apos : Pos} {e : Expr} {es : List Expr} {g : DTA} {pl : ι → Sem Bool} (Fc : ClsF mg c C) (F : MethO P w mg base k c C m n f) (hr : ∀ i, RmG k (Xs i).A) (tk : ∀ i, Pas (Xs i) Wx) (ha : DA Xs mg Wx (e :: es) g)
    (hP : ∀ j, (Xs j).prog = P ∧ (Xs j).w = w ∧ (Xs j).K = mg.K ∧ (Xs j).mg = mg.mg ∧ (Xs j).base = base := by intro _; exact ⟨rfl, rfl, rfl, rfl, rfl⟩) (hN : ∀ j, (Xs j).N[i0]? = some x := by intro _; rfl)
    (hv : ∀ j, Vis (Xs j).env.scope x := by intro _; first | exact Or.inl rfl | exact Or.inr (Or.inl rfl) | exact Or.inr (Or.inr rfl)) (hd : (x == ("__debug__" : Str)) = false := by decide) (hcd : (x == ("__classdict__" : Str)) = false := by decide)
    (he : ∀ i, starEach (e :: es) (Xs i).env = (false, eval e (Xs i).env) :: starEach es (Xs i).env := by intro _; rfl) (hpl : ∀ i, (backTo pos (starEach es (Xs i).env)).any (·.1) = false := by intro _; rfl)
    (ht : ∀ i, eval (.Call (.Attribute (.Name x p) m apos) (e :: es) [] pos) (Xs i).env = (do
      let ov ← eval (.Name x p) (Xs i).env
      standAt apos.atName
      let (fn, first) ← holding [ov] (getMethod ov m (pl i))
      callWith pos fn first (backTo pos (starEach (e :: es) (Xs i).env)) (backToKw pos (keywordEach [] (Xs i).env))) := by intro _; rfl) : DX Xs mg Wx (.Call (.Attribute (.Name x p) m apos) (e :: es) [] pos) (dxMeth i0 c m n f g) := by
  obtain ⟨fa, fd, ps, hm, hb, hl, G⟩ := F.ex
  obtain ⟨t, h1, h2⟩ := ha
  refine ⟨fun σ H Q => tVar i0 σ H fun x H1 => ∃ a dx fs, x = .ref a ∧ H1 a = some (.ins C dx fs) ∧ fs.lookup m = none ∧ t σ H1 fun vs H2 => spO mg c n f (x :: vs) H2 Q (WE Wx σ), fun i => ?_, ?_⟩
  · obtain ⟨p1, p2, p3, p4, p5⟩ := hP i
    subst p1 p2 p5
    constructor
    intro pins z σ H Q I hw
    refine PySem.W.methodCall_KW (pl := pl i) (thn ((pe_var (i := i0) (pos := p) (hN i) (hv i) hd hcd).run pins z σ H _ I hw) ?_) (ht i)
    rintro u z1 ⟨x, H1, I1, rx, a, dx, fs, ex, ea, l, q⟩
    subst ex
    have eu : u = Value.ref a := rx
    subst eu
    apply getmeth_ok I1 ea (by rw [p3]; exact Fc.cl) (by rw [p3]; exact hm) l
    apply PySem.W.callWith_K (first := [.ref a]) (h₀ := (Xs i).base) I.ok.mod.kin (by rw [p3]; exact hm.kp) _ (he i) (hpl i)
    refine thn ((h1 i).run pos pins z1 σ H1 _ I1 q) ?_
    rintro us z2 ⟨vs, H2, I2, rv, q2⟩
    exact ⟨I2.kIn, goG (Ew := WE Wx) (us := .ref a :: us) (vs := .ref a :: vs) (by rw [p3, p4]; exact G) (hr i) (by rw [p3]; exact hb) (tk i σ) I2 (.cons rfl rv) q2⟩
  · intro W0 B ρ Q E hf W σ H Q' s e ex q
    unfold dxMeth at hf
    split at hf
    · rename_i c' as fs hi
      obtain ⟨rfl, hno, hf⟩ := hf
      obtain ⟨o, g1, g2⟩ := e.sl i0 _ hi
      obtain ⟨a, as', vs, ea, ho, ⟨C', dx, hc, h3⟩, h4, h5, h6⟩ := id g2
      subst ho
      have ec := Fc.eq hc
      subst ec
      refine ⟨.ref a, g1, a, dx, vs, rfl, h3, OFs.noField h4 hno, ?_⟩
      refine h2 B ρ _ _ hf W σ H _ s.holds e (fun W' H' cls dd y s' ry hy => ex W' H' cls dd y ρ (s.trans s') (e.step s') ry hy) fun W1 H1 us ds s1 r1 k1 => ?_
      have e1 := e.step s1
      have s01 := s.trans s1
      obtain ⟨o2, g3, g4⟩ := e1.sl i0 _ hi
      rw [g1] at g3
      cases g3
      have kb : ∀ b ∈ as, B b = none := fun b hb => (h6 b hb).2.2.2
      have fin : ∀ (W' : Wd) (H' : Hp) (as2 : List Addr) (fs2 : FO), Step W1 (offH H1 as) W' H' → SlR mg (offH H1 as) W' H' (some (.ref a)) (.ow c' as2 fs2) → as2.head? = as.head? ∧ EnvR mg B W' H' σ (ρ.set i0 (.ow c' as2 fs2)) := fun W' H' as2 fs2 s' r' => by
        have hn : ∀ b ∈ as2, b ∈ as ∨ H1 b = none := fun b hb => by
          obtain ⟨_, _, _, _, _, _, _, _, h7⟩ := id r'
          exact offH_none (h7 b hb).2.2.2
        refine ⟨?_, e1.over (s := .ow c' as fs) hi g1 s' hn (r'.rebase fun b hb _ => ?_)⟩
        · obtain ⟨a2, _, _, ea2, ho2, _⟩ := id r'
          cases ho2
          rw [ea, ea2]
          rfl
        · rcases hn b hb with z | z
          · exact kb b z
          · exact s01.noB z
      refine ⟨W1, a, us, ds, as, fs, _, _, rfl, s1.holds, g4.rebase fun b hb _ => offH_in hb, r1, k1.1, k1.2, fun W' H' v d as2 fs2 s' rv r' hq => ?_, fun W' H' cls dd y as2 fs2 s' ry r' hq => ?_⟩
      · obtain ⟨f1, f2⟩ := fin W' H' as2 fs2 s' r'
        exact q W' H' v d _ (s01.over kb s') f2 rv (hq as2 f1)
      · obtain ⟨f1, f2⟩ := fin W' H' as2 fs2 s' r'
        exact ex W' H' cls dd y _ (s01.over kb s') f2 ry (hq as2 f1)
    · exact hf.elim
abbrev dRetX (f : DTX) : DTS := fun N ρ => f ρ (fun d ρ' => N.rt d ρ') (fun x ρ' => N.rs x ρ')
theorem ds_retX {e : Expr} {f : DTX} (h : DX Xs mg Wx e f) : DS Xs mg Wx (.Return (some e) pos) (dRetX f) := by
  obtain ⟨t, h1, h2⟩ := h
  refine ⟨_, fun i => ps_ret (h1 i), fun W0 B N ρ hf W σ H Ds s e n => ?_⟩
  exact h2 W0 B ρ _ _ hf W σ H _ s e (fun W' H' cls dd x ρ' s' e' r k => n.rs W' H' σ ρ' cls dd x s' e' r k) fun W1 H1 v d ρ' s1 e1 r1 k1 => n.rt W1 H1 σ ρ' v d s1 e1 r1 k1
abbrev dDropX (f : DTX) : DTS := fun N ρ => f ρ (fun _ ρ' => N.nx ρ') (fun x ρ' => N.rs x ρ')
theorem ds_exprX {e : Expr} {f : DTX} (h : DX Xs mg Wx e f) (hs : ∀ i, swapsWith e none pos.line (Xs i).env = pure false := by intro _; rfl) : DS Xs mg Wx (.Expr e pos) (dDropX f) := by
  obtain ⟨t, h1, h2⟩ := h
  refine ⟨_, fun i => ps_expr (h1 i) (hs i), fun W0 B N ρ hf W σ H Ds s e n => ?_⟩
  exact h2 W0 B ρ _ _ hf W σ H _ s e (fun W' H' cls dd x ρ' s' e' r k => n.rs W' H' σ ρ' cls dd x s' e' r k) fun W1 H1 v d ρ' s1 e1 r1 k1 => n.nx W1 H1 σ ρ' s1 e1 k1
/-- tests that change what is mine -/
abbrev DTTX := Env → (Bool → Env → Prop) → (XD → Env → Prop) → Prop
def CpTX (mg : Gm) (Wx : WX) (t : TT) (f : DTTX) : Prop := ∀ W0 B ρ Q E, f ρ Q E → ∀ W σ H Q', Step W0 B W H → EnvR mg B W H σ ρ → (∀ W' H' cls dd x ρ', Step W0 B W' H' → EnvR mg B W' H' σ ρ' → RepX mg W' H' cls dd x → E x ρ' → Wx cls dd σ H') →
  (∀ W' H' b ρ', Step W0 B W' H' → EnvR mg B W' H' σ ρ' → Q b ρ' → Q' b H') → t σ H Q'
def DTX' (Xs : ι → Cx) (mg : Gm) (Wx : WX) (e : Expr) (f : DTTX) : Prop := ∃ t, (∀ i, PT (Xs i) e t) ∧ CpTX mg Wx t f
abbrev dBX (f : DTX) : DTTX := fun ρ Q E => f ρ (fun d ρ' => blc d fun b => Q b ρ') E
theorem dtx_val {e : Expr} {f : DTX} (h : DX Xs mg Wx e f) (he : ∀ i whole, isTrue e (Xs i).env whole = (do let v ← whole; standAt e.pos; holding [v] (truthy v)) := by intro _ _; rfl) : DTX' Xs mg Wx e (dBX f) := by
  obtain ⟨t, h1, h2⟩ := h
  refine ⟨_, fun i => pt_val (h1 i) (he i), fun W0 B ρ Q E hf W σ H Q' s e ex q => ?_⟩
  refine h2 W0 B ρ _ _ hf W σ H _ s e ex fun W1 H1 v d ρ' s1 e1 r1 k1 => ?_
  cases r1 with
  | bl b => exact ⟨b, rfl, q W1 H1 b ρ' s1 e1 k1⟩
  | _ => exact k1.elim
abbrev dNotX (f : DTTX) : DTTX := fun ρ Q E => f ρ (fun b ρ' => Q (!b) ρ') E
theorem dtx_not {e : Expr} {f : DTTX} (h : DTX' Xs mg Wx e f) : DTX' Xs mg Wx (.UnaryOp .Not e pos) (dNotX f) := by
  obtain ⟨t, h1, h2⟩ := h
  exact ⟨_, fun i => pt_not (h1 i), fun W0 B ρ Q E hf W σ H Q' s e ex q => h2 W0 B ρ _ _ hf W σ H _ s e ex fun W1 H1 b ρ' s1 e1 k1 => q W1 H1 _ ρ' s1 e1 k1⟩
abbrev dIfX (c : DTTX) (f g : DTS) : DTS := fun N ρ => c ρ (fun b ρ' => bit b (f N ρ') (g N ρ')) (fun x ρ' => N.rs x ρ')
theorem ds_ifX {c : Expr} {a b : List Stmt} {fc : DTTX} {f g : DTS} (hc : DTX' Xs mg Wx c fc) (ha : DSs Xs mg Wx a f) (hb : DSs Xs mg Wx b g) : DS Xs mg Wx (.If c a b pos) (dIfX fc f g) := by
  obtain ⟨tc, c1, c2⟩ := hc
  obtain ⟨ta, a1, a2⟩ := ha
  obtain ⟨tb, b1, b2⟩ := hb
  refine ⟨_, fun i => ps_if (c1 i) (a1 i) (b1 i), fun W0 B N ρ hf W σ H Ds s e n => ?_⟩
  refine c2 W0 B ρ _ _ hf W σ H _ s e (fun W' H' cls dd x ρ' s' e' r k => n.rs W' H' σ ρ' cls dd x s' e' r k) fun W1 H1 k ρ' s1 e1 k1 => ?_
  cases k with
  | true =>
    rw [if_pos rfl]
    exact a2 W0 B N ρ' k1 W1 σ H1 Ds s1 e1 n
  | false =>
    rw [if_neg Bool.false_ne_true]
    exact b2 W0 B N ρ' k1 W1 σ H1 Ds s1 e1 n

/-! ### making an owned object -/
def spIO (mg : Gm) (c : Str) (C : Addr) (n : Nat) (f : List D → (FO → Prop) → Prop) : Sp := fun vs H Q E => ∃ W ds us H1 x dx Qd, vs = .ref x :: us ∧ H1 x = none ∧ H1 dx = none ∧ dx ≠ x ∧ H = upd (upd H1 dx (.own x)) x (.ins C dx []) ∧ Holds W H1 ∧ Reps mg W us ds ∧ ds.length = n ∧ f ds Qd ∧
  ∀ W' H' as fs, Step W H1 W' H' → SlR mg H1 W' H' (some (.ref x)) (.ow c as fs) → Qd fs → Q .non H'
structure InitO (P : Program) (w : World) (mg : Gm) (base : Heap) (k : Nat) (c : Str) (C : Addr) (n : Nat) (f : List D → (FO → Prop) → Prop) : Prop where
  ex : ∃ fa fd ps, Mk mg.K C fa ∧ Binds mg.K fd ps [] ∧ ps.length = n + 1 ∧ FnG P w mg.K mg.mg base k fa fd ps (spIO mg c C n f)
theorem mkInitO {P : Program} {w : World} {base : Heap} {c : Str} {C : Addr} {qual : Str} {st : Stmt} {N ps : List Str} {k n : Nat} {f : List D → (FO → Prop) → Prop} (Fc : ClsF mg c C) (d : ∃ fa fd, Mk mg.K C fa ∧ Fun mg.K "__init__" qual st fa fd) (S : FnScope N ps (defScope st)) (hn : ps.length = n + 1)
    (hb : ∀ (kV doc pm : Value) (an : Option Addr) (cdv ct : Value) (us : List Value), us.length = ps.length → bindArgs (PySem.W.fnOf "__init__" qual (defArgs st) (defBody st) (defScope st) .none kV doc pm an cdv ct) ⟨us, []⟩ = pure (ps.zip us))
    (h : ∀ (fa : Addr) (cdv : Value) (A : Around) (outer : List PySem.Env) (s : Shared) (H : Hp) (E : XK), RmG k (A.deeper (PyProof.Rows.envOfC qual (defScope st) s.heap.objs.size fa cdv)) →
      ∃ g, DSs (fun _ : Unit => cxOf (L2.CX P w) P w mg.K mg.mg base N qual (defScope st) fa cdv A outer s H E) mg (fun cls d _ H' => E cls d H') (defBody st) g ∧
        ∀ x ds Q, ds.length = n → f ds Q → g ⟨fun ρ => ∃ as fs r, ρ = .ow c as fs :: r ∧ as.head? = some x ∧ Q fs, fun _ _ => False, fun _ => False, fun _ => False, fun _ _ => False⟩ (.ow c [x] [] :: startD (N.length - 1) ds)) :
    InitO P w mg base (k + 1) c C n f := by
  obtain ⟨fa, fd, M, F⟩ := d
  refine ⟨fa, fd, ps, M, F.binds hb, hn, ?_⟩
  refine fnG_of F S (fun vs H Q E hs => ?_) (fun cdv A outer s H vs Q E hr hs => ?_)
  · obtain ⟨W, ds, us, H1, x, dx, Qd, rfl, _, _, _, _, _, r, l, _⟩ := hs
    rw [List.length_cons, r.length, l, hn]
  · obtain ⟨W, ds, us, H1, x, dx, Qd, rfl, nx, ndx, ne, rfl, hh, r, l, hf, q⟩ := hs
    obtain ⟨g, ⟨t, h1, h2⟩, h3⟩ := h fa cdv A outer s _ E hr
    have sd : Step W H1 W (upd H1 dx (.own x)) := Step.lay hh ndx
    have nx2 : (upd H1 dx (.own x)) x = none := by
      rw [upd_ne (Ne.symm ne)]
      exact nx
    have sx : Step W H1 W (upd (upd H1 dx (.own x)) x (.ins C dx [])) := sd.trans (Step.lay sd.holds nx2)
    refine ⟨t, h1 (), ?_⟩
    have hN : N.length = (N.length - 1) + 1 := by
      have q1 := congrArg List.length S.pre
      rw [List.length_take, hn] at q1
      omega
    have r0 : SlR mg H1 W (upd (upd H1 dx (.own x)) x (.ins C dx [])) (some (.ref x)) (.ow c [x] []) := by
      refine ⟨x, [], [], rfl, rfl, ⟨C, dx, Fc.nm, upd_same⟩, rfl, by simp, fun b hb => ?_⟩
      obtain rfl := List.mem_singleton.mp hb
      exact ⟨⟨_, upd_same⟩, hh.same.free nx, hh.nT nx, nx⟩
    refine h2 W H1 _ _ (h3 x ds Qd l hf) W _ _ _ sx (EnvR.startO hN rfl r r0) ⟨fun W' H' σ' ρ' s' e' k => ?_, fun _ _ _ _ _ _ _ _ _ k => k.elim, fun _ _ _ _ _ _ k => k.elim, fun _ _ _ _ _ _ k => k.elim, fun _ _ _ _ _ _ _ _ _ _ k => k.elim⟩
    obtain ⟨as, fs, rr, rfl, eh, hq⟩ := k
    obtain ⟨o, g1, g2⟩ := e'.sl 0 _ rfl
    obtain ⟨a', as2, vs, ea, ho, _⟩ := id g2
    rw [ea] at eh
    cases eh
    rw [ho] at g2
    exact q W' H' as fs s' g2 hq
/-- x = C() -/
abbrev dMakeO0 (i : Nat) (c : Str) (f : List D → (FO → Prop) → Prop) : DTS := fun N ρ => f [] (fun fs => ∀ as, N.nx (ρ.set i (.ow c as fs)))
theorem ds_makeO0 {i : Nat} {P : Program} {w : World} {base : Heap} {k : Nat} {c y : Str} {C : Addr} {f : List D → (FO → Prop) → Prop} {p py p2 : Pos} (Fc : ClsF mg c C) (F : InitO P w mg base k c C 0 f) (hr : ∀ i, RmG (k + 1) (Xs i).A) (tk : ∀ i, Pas (Xs i) Wx) (hN : ∀ j, (Xs j).N.Nodup)
    (hP : ∀ j, (Xs j).prog = P ∧ (Xs j).w = w ∧ (Xs j).K = mg.K ∧ (Xs j).mg = mg.mg ∧ (Xs j).base = base := by intro _; exact ⟨rfl, rfl, rfl, rfl, rfl⟩) (hg : ∀ j, Gl (Xs j) c := by intro _; rfl) (hd : (c == ("__debug__" : Str)) = false := by decide)
    (hi : ∀ j, (Xs j).N[i]? = some y := by intro _; rfl) (hx : ∀ j, Loc (Xs j).env.scope y := by intro _; first | exact Or.inl rfl | exact Or.inr rfl)
    (hs : ∀ j, swapsWith (.Call (.Name c p) [] [] p2) (some (.Name y py)) pos.line (Xs j).env = pure false := by intro _; rfl) (hf : ∀ j, (Xs j).fn y = true ∨ (Xs j).env.scope.names.lookup y = some .local := by intro _; first | exact .inl rfl | exact .inr rfl) : DS Xs mg Wx (.Assign [.Name y py] (.Call (.Name c p) [] [] p2) pos) (dMakeO0 i c f) := by
  obtain ⟨fa, fd, ps, M, hb, hl, G⟩ := F.ex
  have pe : ∀ j, PE (Xs j) (.Call (.Name c p) [] [] p2) (fun σ H Q => ∀ x dx, H x = none → H dx = none → dx ≠ x → spIO mg c C 0 f [.ref x] (upd (upd H dx (.own x)) x (.ins C dx [])) (fun v H2 => v = .non ∧ Q (.ref x) H2) (WE Wx σ)) := fun j => by
    obtain ⟨p1, p2, p3, p4, p5⟩ := hP j
    subst p1 p2 p5
    constructor
    intro pins z σ H Q I hw
    apply wpAny_Call_Name_kw
    apply ld_glob I (hg j) (by rw [p4]; exact Fc.nm) _ hd
    exact PySem.W.callWith_K0 I.kIn (by rw [p3]; exact M.kp) (makeG (us := []) (vs := []) (by rw [p3]; exact M) (by rw [p3, p4]; exact G) (hr j) (by rw [p3]; exact hb) (tk j σ) I .nil hw)
  refine ⟨_, fun j => ps_set (i := i) (hN j) (hi j) (hx j) (pe j) (hs j) (hf j), fun W0 B N ρ hf W σ H Ds s e n => ?_⟩
  intro x dx nx ndx ne
  refine ⟨W, [], [], H, x, dx, _, rfl, nx, ndx, ne, rfl, s.holds, .nil, rfl, hf, fun W' H' as fs s' r' hq => ⟨rfl, ?_⟩⟩
  have hnone : ∀ b ∈ as, H b = none := fun b hb => by
    obtain ⟨_, _, _, _, _, _, _, _, h7⟩ := id r'
    exact (h7 b hb).2.2.2
  exact n.nx W' H' _ _ (s.trans s') (e.newsW (s := .ow c as fs) s' hnone (r'.rebase fun b hb _ => s.noB (hnone b hb))) (hq as)
/-- an owned object is handed to the world ahead of a statement -/
abbrev dFrzO (i : Nat) (f : DTS) : DTS := fun N ρ => match ρ[i]? with
  | some (.ow c _ fs) => f N (ρ.set i (.d (.ins c (toDs fs))))
  | _ => False
theorem ds_frzO (i : Nat) {st : Stmt} {f : DTS} (h : DS Xs mg Wx st f) : DS Xs mg Wx st (dFrzO i f) := by
  obtain ⟨t, h1, h2⟩ := h
  refine ⟨t, h1, fun W0 B N ρ hf W σ H Ds s e n => ?_⟩
  unfold dFrzO at hf
  split at hf
  · rename_i c as fs hi
    obtain ⟨k, e1⟩ := e.seen hi
    have kb : ∀ b ∈ as, B b = none := fun b hb => by
      obtain ⟨_, _, _, _, _, _, _, _, _, _, h7⟩ := e.sl i _ hi
      exact (h7 b hb).2.2.2
    have l := seen_le (W := W) (H := H) fun b hb => (k b hb).1
    have s2 : Step W0 B (W.seen H as) H := ⟨s.le.trans l, seen_holds s.holds fun b hb => (k b hb).2, s.keep, fun b o q => by
      show (if b ∈ as then H b else W.H b) = _
      rw [if_neg fun z => by rw [kb b z] at q; cases q]
      exact s.fresh b o q, s.freshT, s.live⟩
    exact h2 W0 B N _ hf _ σ H Ds s2 e1 n
  · exact hf.elim
/-- a method without arguments -/
abbrev dMeth0 (c : Str) (f : List D → M D) (m : Str) (go : DTE) : DTE := fun ρ Q E => go ρ (fun x => match x with
  | .ins c' fs => c' = c ∧ fs.lookup m = none ∧ f [.ins c' fs] Q E
  | _ => False) E
theorem de_meth0 {P : Program} {w : World} {base : Heap} {k : Nat} {c m : Str} {C : Addr} {f : List D → M D} {apos : Pos} {o : Expr} {go : DTE} {pl : ι → Sem Bool} (Fc : ClsF mg c C) (F : MethOk P w mg base k C m 1 f) (hr : ∀ i, RmG k (Xs i).A) (tk : ∀ i, Pas (Xs i) Wx) (ho : DE Xs mg Wx o go)
    (hP : ∀ j, (Xs j).prog = P ∧ (Xs j).w = w ∧ (Xs j).K = mg.K ∧ (Xs j).mg = mg.mg ∧ (Xs j).base = base := by intro _; exact ⟨rfl, rfl, rfl, rfl, rfl⟩)
    (ht : ∀ i, eval (.Call (.Attribute o m apos) [] [] pos) (Xs i).env = (do
      let ov ← eval o (Xs i).env
      standAt apos.atName
      let (fn, first) ← holding [ov] (getMethod ov m (pl i))
      callWith pos fn first (backTo pos (starEach [] (Xs i).env)) (backToKw pos (keywordEach [] (Xs i).env))) := by intro _; rfl) : DE Xs mg Wx (.Call (.Attribute o m apos) [] [] pos) (dMeth0 c f m go) := by
  obtain ⟨fa, fd, ps, hm, hb, hl, G⟩ := F.ex
  obtain ⟨to, o1, o2⟩ := ho
  refine ⟨fun σ H Q => to σ H fun x H1 => ∃ a dx fs, x = .ref a ∧ H1 a = some (.ins C dx fs) ∧ fs.lookup m = none ∧ spD mg 1 f [x] H1 Q (WE Wx σ), fun i => ?_, ?_⟩
  · obtain ⟨p1, p2, p3, p4, p5⟩ := hP i
    subst p1 p2 p5
    constructor
    intro pins z σ H Q I hw
    refine PySem.W.methodCall_KW (pl := pl i) (thn ((o1 i).run pins z σ H _ I hw) ?_) (ht i)
    rintro u z1 ⟨x, H1, I1, rx, a, dx, fs, ex, ea, l, q⟩
    subst ex
    have eu : u = Value.ref a := rx
    subst eu
    apply getmeth_ok I1 ea (by rw [p3]; exact Fc.cl) (by rw [p3]; exact hm) l
    exact PySem.W.callWith_K0 (first := [.ref a]) I1.kIn (by rw [p3]; exact hm.kp) (goG (Ew := WE Wx) (us := [.ref a]) (vs := [.ref a]) (by rw [p3, p4]; exact G) (hr i) (by rw [p3]; exact hb) (tk i σ) I1 (.cons rfl .nil) q)
  · intro B ρ Q E hf W σ H Q' hh e x q
    refine o2 B ρ _ E hf W σ H _ hh e x fun W1 H1 v d s1 r1 k1 => ?_
    cases r1 with
    | @ins a C' dx fs c' ds hc ha hk rs =>
      obtain ⟨rfl, hno, k2⟩ := k1
      have ec := Fc.eq hc
      subst ec
      refine ⟨a, dx, fs, rfl, s1.holds.same _ _ ha, lookup_none hk hno, ?_⟩
      exact ⟨W1, _, Q, E, s1.holds, .cons (Rep.ins hc ha hk rs) .nil, rfl, k2, ToV.step q s1, fun W' H' cls dd y s' r h => x W' H' cls dd y (s1.trans s') r h⟩
    | _ => exact k1.elim
end
end FP

/-! FP30: t == (), t != (); max of a list; x, y = [], e; a def that is not called. -/
namespace FP
open PySem L2
variable [Tabl]
section
variable {ι : Type} {Xs : ι → Cx} {mg : Gm} {Wx : WX} {pos : Pos}
def rT0 (K : PySem.W.Frag) (neg : Bool) : R2 := fun x y H Q => ∃ a b xs, x = .ref a ∧ y = .ref b ∧ SqT K H a xs ∧ SqT K H b [] ∧ Q (.bl (if neg then !xs.isEmpty else xs.isEmpty)) H
theorem op_eqT0 {X : Cx} (hu : X.A.units + 64 < cLine) : OpR X (compareOp .Eq) (rT0 X.K false) := by
  intro pins s σ H x y v u Q I rx ry h
  obtain ⟨a, b, xs, rfl, rfl, h1, h2, q⟩ := h
  cases rx
  cases ry
  obtain ⟨its, rv, pl, hz⟩ := I.tuple h1
  obtain ⟨its2, rv2, pl2, hz2⟩ := I.tuple h2
  have e2 : its2 = [] := by
    have := rv2.length
    cases its2 with
    | nil => rfl
    | cons => cases this
  subst e2
  refine SeqAt.rcIn_tuples (e := fun _ => true) (show s.heap.IsTuple a its.toArray from pl) (show s.heap.IsTuple b #[] from pl2) (by omega) (fun j _ h2 => absurd h2 (Nat.not_lt_zero j)) ⟨.bl xs.isEmpty, H, I, ?_, q⟩
  show Value.bool _ = Value.bool _
  congr 1
  have el := rv.length
  cases xs with
  | nil =>
    cases its with
    | nil => rfl
    | cons => cases el
  | cons =>
    cases its with
    | nil => cases el
    | cons => rfl
theorem op_neT0 {X : Cx} (hu : X.A.units + 64 < cLine) : OpR X (compareOp .NotEq) (rT0 X.K true) := by
  intro pins s σ H x y v u Q I rx ry h
  obtain ⟨a, b, xs, rfl, rfl, h1, h2, q⟩ := h
  cases rx
  cases ry
  obtain ⟨its, rv, pl, hz⟩ := I.tuple h1
  obtain ⟨its2, rv2, pl2, hz2⟩ := I.tuple h2
  have e2 : its2 = [] := by
    have := rv2.length
    cases its2 with
    | nil => rfl
    | cons => cases this
  subst e2
  have hl : s.heap.IsTuple a its.toArray := pl
  have hb : s.heap.IsTuple b #[] := pl2
  obtain ⟨⟨cls, dd, data, sl⟩, ho, hc, n, hd⟩ := id hl
  obtain ⟨⟨cls2, dd2, data2, sl2⟩, ho2, hc2, n2, hd2⟩ := id hb
  simp only at hc hd hc2 hd2
  subst hc hd hc2 hd2
  refine wpAny_richCompare_same_room (T := "tuple") (op := .NotEq) ⟨_, ho, rfl⟩ ⟨_, ho2, rfl⟩ F.slot_tuple_ne (call_meets F.slot_tuple_ne ⟨_, ho, rfl⟩ F.entry_tuple_ne (F.args_tuple_ne_2 _ _) (SeqAt.tuple_neAt a b its.toArray #[] n n2 dd dd2 sl sl2 (fun _ => true))
    ⟨ho, ho2, fun j _ h2 => absurd h2 (Nat.not_lt_zero j), (fun x => nomatch x), .bl (!xs.isEmpty), H, I, ?_, q⟩) (by omega)
  show Value.bool _ = Value.bool _
  congr 1
  have el := rv.length
  cases xs with
  | nil =>
    cases its with
    | nil => rfl
    | cons => cases el
  | cons =>
    cases its with
    | nil => cases el
    | cons => rfl
/-- a tuple of anything beside () -/
def rdT0 (neg : Bool) : RD2 := fun x y Q => match x, y with
  | .tup xs, .tup [] => Q (.bl (if neg then !xs.isEmpty else xs.isEmpty))
  | _, _ => False
theorem ok_T0 {neg : Bool} {W : Wd} {H : Hp} {x y : V} {dx dy : D} {Q : D → Prop} {Q' : VK} (hh : Holds W H) (rx : Rep mg W x dx) (ry : Rep mg W y dy) (h : rdT0 neg dx dy Q) (q : ToV mg W H Q Q') : rT0 mg.K neg x y H Q' := by
  unfold rdT0 at h
  split at h
  · rename_i xs
    cases rx with
    | @tup a vs ds ha rs =>
      cases ry with
      | @tup b vs2 ds2 hb rs2 =>
        cases rs2
        have e : vs.isEmpty = xs.isEmpty := by
          cases rs <;> rfl
        refine ⟨a, b, vs, rfl, rfl, SqT.of (hh.same _ _ ha), SqT.of (hh.same _ _ hb), ?_⟩
        rw [e]
        exact q W H _ _ (Step.refl hh) (.bl _) h
  · exact h.elim
theorem ok_eqT0 (hu : ∀ j, (Xs j).A.units + 64 < cLine) (hK : ∀ j, (Xs j).K = mg.K := by intro _; rfl) : OpOk Xs mg (compareOp .Eq) (rdT0 false) :=
  ⟨_, fun j => by rw [← hK j]; exact op_eqT0 (hu j), fun W H x y dx dy Q Q' hh rx ry h q => ok_T0 hh rx ry h q⟩
theorem ok_neT0 (hu : ∀ j, (Xs j).A.units + 64 < cLine) (hK : ∀ j, (Xs j).K = mg.K := by intro _; rfl) : OpOk Xs mg (compareOp .NotEq) (rdT0 true) :=
  ⟨_, fun j => by rw [← hK j]; exact op_neT0 (hu j), fun W H x y dx dy Q Q' hh rx ry h q => ok_T0 hh rx ry h q⟩

/-! ### max of a list of ints -/
def intsD : List D → Option (List Int)
  | [] => some []
  | .int i :: r => (intsD r).map (i :: ·)
  | _ :: _ => none
theorem intsD_map : ∀ ns : List Int, intsD (ns.map D.int) = some ns
  | [] => rfl
  | n :: r => by
    show (intsD (r.map D.int)).map (n :: ·) = _
    rw [intsD_map r]
    rfl
theorem intsD_v {W : Wd} : ∀ {vs : List V} {xs : List D} {ns : List Int}, Reps mg W vs xs → intsD xs = some ns → vs = ns.map V.int
  | [], [], _, _, h => by cases h; rfl
  | _ :: _, .int i :: r', ns, .cons r rs, h => by
    have h : (intsD r').map (i :: ·) = some ns := h
    cases r
    cases q : intsD r' with
    | none => rw [q] at h; cases h
    | some ms =>
      rw [q] at h
      cases h
      rw [intsD_v rs q]
      rfl
  | _ :: _, .non :: _, _, _, h | _ :: _, .bl _ :: _, _, _, h | _ :: _, .str _ :: _, _, _, h | _ :: _, .tup _ :: _, _, _, h | _ :: _, .lst _ :: _, _, _, h | _ :: _, .fz _ :: _, _, _, h | _ :: _, .dct _ :: _, _, _, h | _ :: _, .ins _ _ :: _, _, _, h | _ :: _, .tok :: _, _, _, h | _ :: _, .cl _ :: _, _, _, h | _ :: _, .fn _ _ :: _, _, _, h => by cases h
def rdMaxL : RDL := fun ds Q => match ds with
  | [.lst xs] => ∃ ns, intsD xs = some ns ∧ 0 < ns.length ∧ ∀ m, m ∈ ns → (∀ y ∈ ns, y ≤ m) → Q (.int m)
  | _ => False
theorem cr_maxK {X : Cx} {K : PySem.W.Frag} (h : X.K = K) (hc : X.calm = true) : CallR X (.builtin "max") (rMax K) := by
  subst h
  exact cr_max hc
theorem ok_maxL (hK : ∀ j, (Xs j).K = mg.K := by intro _; rfl) (hc : ∀ j, (Xs j).calm = true := by intro _; rfl) : CallOk Xs mg (.builtin "max") rdMaxL := by
  refine ⟨_, fun j => cr_maxK (hK j) (hc j), ?_⟩
  intro W H vs ds Q Q' hh r h q
  unfold rdMaxL at h
  split at h
  · cases r with
    | cons r rs =>
      cases rs
      cases r with
      | @lst a us ds ha ru =>
        obtain ⟨ns, h1, h2, h3⟩ := h
        have e := intsD_v ru h1
        subst e
        exact ⟨a, ns, rfl, SqL.of (hh.same _ _ ha), h2, fun m hm hy => q W H _ _ (Step.refl hh) (.int m) (h3 m hm hy)⟩
  · exact h.elim

/-! ### x, y = [..], e -/
abbrev dParO (i j : Nat) (g : DTA) (f : DTE) : DTS := fun N ρ => g ρ (fun xs => f ρ (fun d => N.nx ((ρ.set i (.own xs)).set j (.d d))) (fun x => N.rs x ρ)) (fun x => N.rs x ρ)
theorem ds_parO {i j : Nat} {x y : Str} {a b : Expr} {g : DTA} {f : DTE} {px py pt : Pos} {kt k2 : Nat} {pt2 : Pos} (h : DO Xs mg Wx a g) (h' : DE Xs mg Wx b f) (hN : ∀ l, (Xs l).N.Nodup)
    (hw : ∀ l, swappedStores [.Tuple [.Name x px, .Name y py] kt pt] (.Tuple [a, b] k2 pt2) (Xs l).env = pure (some [x, y]) := by intro _; rfl) (hij : i ≠ j := by decide) (hi : ∀ l, (Xs l).N[i]? = some x := by intro _; rfl) (hj : ∀ l, (Xs l).N[j]? = some y := by intro _; rfl)
    (hx : ∀ l, (Xs l).env.scope.names.lookup x = some .local := by intro _; rfl) (hy : ∀ l, (Xs l).env.scope.names.lookup y = some .local := by intro _; rfl) (hc : ∀ l, (Xs l).calm = true := by intro _; rfl)
    (hs : ∀ l, swapsWithSole [.Tuple [.Name x px, .Name y py] kt pt] (.Tuple [a, b] k2 pt2) pos.line (Xs l).env = pure false := by intro _; rfl)
    (he : ∀ i, starEach [a, b] (Xs i).env = (false, eval a (Xs i).env) :: starEach [b] (Xs i).env := by intro _; rfl) (he2 : ∀ i, starEach [b] (Xs i).env = [(false, eval b (Xs i).env)] := by intro _; rfl) : DS Xs mg Wx (.Assign [.Tuple [.Name x px, .Name y py] kt pt] (.Tuple [a, b] k2 pt2) pos) (dParO i j g f) := by
  obtain ⟨t, h1, h2⟩ := h
  obtain ⟨u, g1, g2⟩ := h'
  refine ⟨_, fun l => ps_par (i := i) (j := j) (hc l) (hN l) (hi l) (hj l) hij (hx l) (hy l) (pa_cons (h1 l) (pa_cons (g1 l) pa_nil (he2 l)) (he l)) (hw l) (hs l), fun W0 B N ρ hf W σ H Ds s e n => ?_⟩
  refine h2 B ρ _ _ hf W σ H _ s.holds e (n.ex s e) fun W1 H1 p vs ds s1 hp r1 k1 => ?_
  have e1 := e.step s1
  have s01 := s.trans s1
  have sl := Step.lay (o := .lst vs) s1.holds hp
  have e2 := e1.setOwn (i := i) s1.holds hp (s01.noB hp) r1
  refine g2 B ρ _ _ k1 W1 σ _ _ sl.holds (e1.step sl) (n.ex (s01.trans sl) (e1.step sl)) fun W2 H2 v d s2 r2 k2 => ?_
  exact ⟨_, _, rfl, n.nx W2 H2 _ _ ((s01.trans sl).trans s2) ((e2.step s2).set r2) k2⟩
/-- a def that is not called -/
theorem DefOk.never {P : Program} {w : World} {mg : Gm} {base : Heap} {x qual : Str} {st : Stmt} {ps : List Str} {k : Nat} (d : ∃ fa fd, mg.mg x = some (.ref fa) ∧ Fun mg.K x qual st fa fd)
    (hb : ∀ (kV doc pm : Value) (an : Option Addr) (cdv ct : Value) (us : List Value), us.length = ps.length → bindArgs (PySem.W.fnOf x qual (defArgs st) (defBody st) (defScope st) .none kV doc pm an cdv ct) ⟨us, []⟩ = pure (ps.zip us)) : DefOk P w mg base k x ps.length (fun _ _ _ => False) := by
  obtain ⟨fa, fd, h1, F⟩ := d
  refine ⟨fa, fd, ps, h1, F.kp, F.binds hb, rfl, fun vs H Q E hs => ?_, fun A out z H ag us vs Q E _ _ _ _ hs => ?_⟩
  · obtain ⟨W, ds, Qd, Ed, _, _, _, h, _⟩ := hs
    exact h.elim
  · obtain ⟨W, ds, Qd, Ed, _, _, _, h, _⟩ := hs
    exact h.elim
end
end FP

/-! FP31: class facts put together; special methods by their bodies. -/
namespace FP
open PySem L2
variable [Tabl]
section
variable {mg : Gm}
theorem kit_no {n : String} {C : Addr} (ic : PySem.W.isClsIn mg.K C = true) (ty : PySem.W.typeIn mg.K (.ref C) = some (.type "type")) (h : PySem.W.subIn mg.K (.type n) (.ref C) = some false) : PySem.W.kitOne mg.K (.type n) (.ref C) = some false := by
  have e : (Value.type n == Value.ref C) = false := rfl
  unfold PySem.W.kitOne
  rw [e, if_neg Bool.false_ne_true]
  show (if ((PySem.W.clsIn mg.K C).isSome && PySem.W.typeIn mg.K (.ref C) == some (.type "type")) = true then PySem.W.subIn mg.K (.type n) (.ref C) else none) = _
  have ic : (PySem.W.clsIn mg.K C).isSome = true := ic
  rw [ic, ty, h]
  rfl
theorem isi_mk {c : Str} {C : Addr} (F : ClsF mg c C) (ic : PySem.W.isClsIn mg.K C = true) (ty : PySem.W.typeIn mg.K (.ref C) = some (.type "type")) (h0 : PySem.W.subIn mg.K (.type "NoneType") (.ref C) = some false) (h1 : PySem.W.subIn mg.K (.type "bool") (.ref C) = some false) (h2 : PySem.W.subIn mg.K (.type "int") (.ref C) = some false) (h3 : PySem.W.subIn mg.K (.type "str") (.ref C) = some false)
    (h4 : PySem.W.subIn mg.K (.type "tuple") (.ref C) = some false) (h5 : PySem.W.subIn mg.K (.type "list") (.ref C) = some false) (h6 : PySem.W.subIn mg.K (.type "dict") (.ref C) = some false) : IsiF mg C [c] (fun _ => true) := by
  refine ⟨fun n hn => kit_no ic ty ?_, fun x hx => ?_⟩
  · simp only [List.mem_cons, List.not_mem_nil, or_false] at hn
    rcases hn with rfl | rfl | rfl | rfl | rfl | rfl | rfl <;> assumption
  · rw [List.mem_singleton.mp hx]
    exact ⟨C, F, if_pos (beq_self_eq_true _)⟩
theorem eqF_mk {c : Str} {C : Addr} (F : ClsF mg c C) (h0 : PySem.W.notFirst mg.K C (.type "NoneType") = true) (h1 : PySem.W.notFirst mg.K C (.type "bool") = true) (h2 : PySem.W.notFirst mg.K C (.type "int") = true) (h3 : PySem.W.notFirst mg.K C (.type "str") = true)
    (h4 : PySem.W.notFirst mg.K C (.type "tuple") = true) (h5 : PySem.W.notFirst mg.K C (.type "list") = true) (h6 : PySem.W.notFirst mg.K C (.type "dict") = true) (h7 : PySem.W.notFirst mg.K C (.ref C) = true) : EqF mg C [c] := by
  refine ⟨fun n hn => ?_, fun x hx => ?_⟩
  · simp only [List.mem_cons, List.not_mem_nil, or_false] at hn
    rcases hn with rfl | rfl | rfl | rfl | rfl | rfl | rfl <;> assumption
  · rw [List.mem_singleton.mp hx]
    exact ⟨C, F, h7⟩
theorem mkSpec {P : Program} {w : World} {base : Heap} {C : Addr} {m qual : Str} {st : Stmt} {N ps : List Str} {k : Nat} {f : List D → M D} (d : ∃ fa fd, (Meth mg.K C m fa ∧ PySem.W.fnIn mg.K fa = true) ∧ Fun mg.K m qual st fa fd) (S : FnScope N ps (defScope st))
    (hb : ∀ (kV doc pm : Value) (an : Option Addr) (cdv ct : Value) (us : List Value), us.length = ps.length → bindArgs (PySem.W.fnOf m qual (defArgs st) (defBody st) (defScope st) .none kV doc pm an cdv ct) ⟨us, []⟩ = pure (ps.zip us))
    (h : ∀ (fa : Addr) (cdv : Value) (A : Around) (outer : List PySem.Env) (s : Shared) (H : Hp) (E : XK), RmG k (A.deeper (PyProof.Rows.envOfC qual (defScope st) s.heap.objs.size fa cdv)) →
      ∃ g, DSs (fun _ : Unit => cxOf (L2.CX P w) P w mg.K mg.mg base N qual (defScope st) fa cdv A outer s H E) mg (fun cls d _ H' => E cls d H') (defBody st) g ∧
        ∀ ds Q Ex, ds.length = ps.length → f ds Q Ex → g ⟨fun _ => Q .non, fun d _ => Q d, fun _ => False, fun _ => False, fun x _ => Ex x⟩ (startD N.length ds)) :
    SpecOk P w mg base (k + 1) C m ps.length f := by
  obtain ⟨fa, fd, ⟨hm, hf⟩, F⟩ := d
  exact ⟨fa, fd, ps, hm.at_, hm.fn, hf, F.binds hb, rfl, def_ok F S (h fa)⟩
theorem FnG.imp {P : Program} {w : World} {K : PySem.W.Frag} {mg : Str → Option Value} {base : Heap} {k : Nat} {f : Addr} {fd : FuncData} {ps : List Str} {sp sp' : Sp} (F : FnG P w K mg base k f fd ps sp) (h : ∀ vs H Q E, sp' vs H Q E → sp vs H Q E) : FnG P w K mg base k f fd ps sp' :=
  ⟨fun vs H Q E hs => F.ln vs H Q E (h vs H Q E hs), fun A out z H ag us vs Q E m e0 bd rv hs => F.go A out z H ag us vs Q E m e0 bd rv (h vs H Q E hs)⟩
theorem spD_imp {n : Nat} {f f' : List D → M D} (h : ∀ ds Q E, f' ds Q E → f ds Q E) : ∀ vs H Q E, spD mg n f' vs H Q E → spD mg n f vs H Q E := by
  rintro vs H Q E ⟨W, ds, Qd, Ed, h1, h2, h3, h4, h5⟩
  exact ⟨W, ds, Qd, Ed, h1, h2, h3, h ds Qd Ed h4, h5⟩
theorem DefOk.mono {P : Program} {w : World} {base : Heap} {k k' n : Nat} {x : Str} {f f' : List D → M D} (F : DefOk P w mg base k x n f) (hk : k ≤ k') (h : ∀ ds Q E, f' ds Q E → f ds Q E) : DefOk P w mg base k' x n f' := by
  obtain ⟨fa, fd, ps, h1, h2, h3, h4, G⟩ := F.ex
  exact ⟨fa, fd, ps, h1, h2, h3, h4, (G.up hk).imp (spD_imp h)⟩
theorem boot_iter : bootBuiltins "iter" = some (.builtin "iter") := by decide +kernel
/-- nothing is caught -/
theorem CatF.nil {c : Value} {yes : Str → Bool} : CatF mg c [] yes := ⟨fun _ h => absurd h List.not_mem_nil⟩
end
end FP

/-! FP32: max(e, default=d) of whole numbers. -/
namespace FP
open PySem PyProof.Rows L2
variable [Tabl]
section
variable {prog : Program} {w : World} {A : Around} {E : Value → Shared → Prop} {s : Shared} {R : Result → Shared → Prop} {J : Addr} {fp wr : List Addr} {n : Nat} {P : Nat → Value → Prop} {St : Nat → Heap → Prop}
/-- the best so far -/
def BestD (bt : Nat → Nat → Bool) (P : Nat → Value → Prop) (j : Nat) (its : Array Value) : Prop := (j = 0 ∧ its = #[]) ∨ ∃ i vb, j = i + 1 ∧ P (argBest bt i) vb ∧ its = #[vb, vb]
theorem maxD_loop (W : Walks prog w A.in1 J fp wr n P St) (bt : Nat → Nat → Bool) (hcmp : CmpOf prog w A.in1 .Gt P bt) (T : Addr) (hT : T ∉ fp) (d : Value) : ∀ (k j : Nat) (s : Shared) (its : Array Value) (c : Nat), n - j = k → j ≤ n → St j s.heap → BestD bt P j its →
    s.heap.get? T = some { cls := .type "list", dict := none, data := .seq its c, slots := #[] } →
    (∀ v h' tk, (n = 0 ∧ v = d ∨ 0 < n ∧ P (argBest bt (n - 1)) v) → (∀ b o, b ∉ wr → b ≠ T → s.heap.get? b = some o → h'.get? b = some o) → R (.ok (.ret v)) { s with heap := h', toks := tk }) →
    codeAny (model prog w) A (.builtin "max.loop" ⟨[.ref J, .none, .ref T], [(Str.ofString "default", d)]⟩) R s := by
  have hTw : T ∉ wr := fun h => hT (W.sub _ h)
  have nm : (toString "max" ++ toString ".loop" : String) = "max.loop" := by decide
  intro k
  induction k with
  | zero =>
    intro j s its c hk hj hst hb hS hR
    obtain rfl : j = n := by omega
    refine codeAny_builtin PySem.F.entry_max_loop ?_
    rw [Around.under_plainId PySem.F.plain_max_loop _]
    show wpAny _ A.in1 (seqItems? (.ref T) >>= _) _ _ s
    refine wpAny_bind (wpAny_seqItems hS rfl ?_)
    show wpAny _ A.in1 (tryCatch (pyNext (.ref J)) _ >>= _) _ _ s
    refine wpAny_bind (wpAny_tryCatch (W.done s _ _ hst fun h' tk hk' => ?_))
    have hS' := hk' T _ hTw hS
    rcases hb with ⟨rfl, rfl⟩ | ⟨i, vb, rfl, hP, rfl⟩
    · refine wpAny_bind (wpAny_rule (wpAny_pure ?_))
      exact hR d h' tk (.inl ⟨rfl, rfl⟩) fun b o hbw _ e => hk' b o hbw e
    · show wpAny _ A.in1 (updateSeq T (fun _ => #[]) >>= _) _ _ _
      refine wpAny_bind ?_
      refine wpAny_updateSeq hS' rfl (wpAny_bind (wpAny_letGo (wpAny_pure ?_)))
      exact hR vb _ tk (.inr ⟨by omega, hP⟩) fun b o hbw hbT e => (Heap.get?_update_other _ _ (Ne.symm hbT)).trans (hk' b o hbw e)
  | succ k ih =>
    intro j s its c hk hj hst hb hS hR
    have hlt : j < n := by omega
    refine codeAny_builtin PySem.F.entry_max_loop ?_
    rw [Around.under_plainId PySem.F.plain_max_loop _]
    show wpAny _ A.in1 (seqItems? (.ref T) >>= _) _ _ s
    refine wpAny_bind (wpAny_seqItems hS rfl ?_)
    show wpAny _ A.in1 (tryCatch (pyNext (.ref J)) _ >>= _) _ _ s
    refine wpAny_bind (wpAny_tryCatch (W.item j s _ _ hlt hst fun v h' tk hP hst' hk' => ?_))
    have hS' := hk' T _ hTw hS
    have fr : ∀ (its' : Array Value), St (j + 1) (h'.update T (Obj.mapSeq fun _ => its')) := fun its' => W.frame _ _ _ hst' fun b hbf o e => (Heap.get?_update_other _ _ (fun h : T = b => hT (by rw [h]; exact hbf))).trans e
    have kp : ∀ (its' : Array Value) (h2 : Heap), (∀ b o, b ∉ wr → b ≠ T → (h'.update T (Obj.mapSeq fun _ => its')).get? b = some o → h2.get? b = some o) → ∀ b o, b ∉ wr → b ≠ T → s.heap.get? b = some o → h2.get? b = some o :=
      fun its' h2 hk2 b o hbw hbT e => hk2 b o hbw hbT ((Heap.get?_update_other _ _ (Ne.symm hbT)).trans (hk' b o hbw e))
    rcases hb with ⟨rfl, rfl⟩ | ⟨i, vb, rfl, hPb, rfl⟩
    · show wpAny _ A.in1 (updateSeq T (fun _ => #[v, v]) >>= _) _ _ _
      refine wpAny_bind ?_
      refine wpAny_updateSeq hS' rfl ?_
      rw [nm]
      refine wpAny_pure ⟨plainId_quiet PySem.F.plain_max_loop _, ih 1 _ #[v, v] _ (by omega) hlt (fr _) (.inr ⟨0, v, rfl, hP, rfl⟩) (Heap.get?_update_self _ hS' rfl) fun v' h2 tk2 hv hk2 => hR v' h2 tk2 hv (kp _ h2 hk2)⟩
    · show wpAny _ A.in1 (tryCatch (holding [v, v] (richCompare .Gt v vb >>= _)) _ >>= _) _ _ _
      refine wpAny_bind (wpAny_tryCatch (wpAny_holding (wpAny_bind (hcmp (i + 1) (argBest bt i) v vb _ _ _ hP hPb ?_))))
      refine wpAny_bind (wpAny_holding (wpAny_truthy_bool ?_))
      refine wpAny_bind (wpAny_letGo (wpAny_pure ?_))
      cases hb : bt (i + 1) (argBest bt i) with
      | true =>
        simp only [if_true]
        refine wpAny_bind ?_
        refine wpAny_updateSeq hS' rfl (wpAny_bind (wpAny_letGo ?_))
        rw [nm]
        refine wpAny_pure ⟨plainId_quiet PySem.F.plain_max_loop _, ih (i + 2) _ #[v, v] _ (by omega) hlt (fr _) (.inr ⟨i + 1, v, rfl, by simp only [argBest, hb, if_true]; exact hP, rfl⟩) (Heap.get?_update_self _ hS' rfl) fun v' h2 tk2 hv hk2 => hR v' h2 tk2 hv (kp _ h2 hk2)⟩
      | false =>
        simp only [Bool.false_eq_true, if_false]
        refine wpAny_bind (wpAny_letGo ?_)
        rw [nm]
        refine wpAny_pure ⟨plainId_quiet PySem.F.plain_max_loop _, ih (i + 2) _ #[vb, vb] c (by omega) hlt hst' (.inr ⟨i + 1, vb, rfl, by simp only [argBest, hb, Bool.false_eq_true, if_false]; exact hPb, rfl⟩) hS' fun v' h2 tk2 hv hk2 => ?_⟩
        exact hR v' h2 tk2 hv fun b o hbw hbT e => hk2 b o hbw hbT (hk' b o hbw e)
theorem max_dflt (a v : Value) : argsOk "max" ⟨[a], [(Str.ofString "default", v)]⟩ := by unfold argsOk; kernel_rfl
theorem maxD_call {x d : Value} {Q : Value → Shared → Prop}
    (h : wpAny (model prog w) A.in1 (pyIter x) (fun it s2 => ∃ J fp wr n P St bt, it = .ref J ∧ Walks prog w A.in1 J fp wr n P St ∧ St 0 s2.heap ∧ (∀ b ∈ fp, b < s2.heap.objs.size) ∧ CmpOf prog w A.in1 .Gt P bt ∧
      ∀ v h' tk, (n = 0 ∧ v = d ∨ 0 < n ∧ P (argBest bt (n - 1)) v) → (∀ b o, b ∉ wr → s2.heap.get? b = some o → h'.get? b = some o) → Q v { s2 with heap := h', toks := tk }) E s) :
    wpAny (model prog w) A (call (.builtin "max") [x] [(Str.ofString "default", d)]) Q E s := by
  have nm : (toString "max" ++ toString ".loop" : String) = "max.loop" := by decide
  refine kmb_tree PySem.F.kind_max PySem.F.plain_max PySem.F.entry_max (max_dflt _ _) ?_
  show wpAny _ A.in1 (Builtin.Builtins.bindParams "max" ["key", "default"] 0 ⟨[], [(Str.ofString "default", d)]⟩ >>= _) _ _ s
  refine wpAny_bind (wpAny_of_eq (show Builtin.Builtins.bindParams "max" ["key", "default"] 0 ⟨[], [(Str.ofString "default", d)]⟩ = pure [none, some d] from rfl) ?_)
  refine wpAny_bind (wpAny_pure ?_)
  refine wpAny_bind (wpAny_mono h (fun it s2 h2 => ?_) fun _ _ e => e)
  obtain ⟨J, fp, wr, n, P, St, bt, rfl, W, hst, hfp, hcmp, hQ⟩ := h2
  refine wpAny_bind (wpAny_newObj_type ?_)
  have hT : s2.heap.objs.size ∉ fp := fun hm => Nat.lt_irrefl _ (hfp _ hm)
  rw [nm]
  refine wpAny_pure ⟨plainId_quiet PySem.F.plain_max_loop _, maxD_loop W bt hcmp s2.heap.objs.size hT d _ 0 _ #[] _ rfl (Nat.zero_le _) (W.frame _ _ _ hst fun b _ o e => Heap.get?_push_of_some _ e) (.inl ⟨rfl, rfl⟩) (Heap.get?_push_size _ rfl) fun v h' tk hv hk => ?_⟩
  exact hQ v h' tk hv fun b o hbw e => hk b o hbw (Nat.ne_of_lt (Heap.lt_size e)) (Heap.get?_push_of_some _ e)
theorem maxD_ints {l : Addr} {its : List Value} {ns : List Int} {d : Value} {Q : Value → Shared → Prop} (hh : A.handled = none) (hl : s.heap.IsList l its.toArray) (hi : IntsAre its ns)
    (h : ∀ h' tk v, (∀ b o, s.heap.get? b = some o → h'.get? b = some o) → (ns = [] ∧ v = d ∨ ∃ m t', v = .int m t' ∧ m ∈ ns ∧ ∀ a, a ∈ ns → a ≤ m) → Q v { s with heap := h', toks := tk }) : wpAny (model prog w) A (call (.builtin "max") [.ref l] [(Str.ofString "default", d)]) Q E s := by
  obtain ⟨xs, e⟩ := hi.allInts.items
  have hn : numsOf (intItems xs).toList = ns := by rw [← e]; exact hi.numsOf
  rw [nums_intItems] at hn
  subst hn
  rw [e] at hl
  refine maxD_call (iter_intList hl fun s2 e2 st hfp hlI => ?_)
  subst e2
  refine ⟨_, _, _, _, _, _, _, rfl, Walks.list (A := A.in1) hh _ l hlI (intItems xs), st, hfp, CmpOf.ints_gt (numAt xs) (fun _ _ => intItems_at), fun v h' tk hP hk => ?_⟩
  refine h h' tk v (old_kept hk) ?_
  have hsz : (intItems xs).size = xs.size := by simp [intItems]
  rcases hP with ⟨h0, rfl⟩ | ⟨h0, hP⟩
  · refine .inl ⟨?_, rfl⟩
    have : xs.size = 0 := by omega
    rw [Array.size_eq_zero_iff.mp this]
    rfl
  · rw [hsz] at h0 hP
    obtain ⟨t, rfl⟩ := intItems_at hP
    obtain ⟨h1, h2⟩ := argBest_gt (numAt xs) (xs.size - 1)
    refine .inr ⟨_, t, rfl, ?_, fun a ha => ?_⟩
    · rw [numAt_eq]; exact PySem.getD_mem (by rw [List.length_map, Array.length_toList]; omega)
    · obtain ⟨j, hj, rfl⟩ := mem_getD ha
      rw [List.length_map, Array.length_toList] at hj
      rw [← numAt_eq]
      exact h2 j (by omega)
end
section
variable {ι : Type} {Xs : ι → Cx} {mg : Gm} {Wx : WX} {pos : Pos}
def tMaxD (K : PySem.W.Frag) (ta td : TE) : TE := fun σ H Q => ta σ H fun x H1 => td σ H1 fun y H2 => ∃ (a : Addr) (ns : List Int), x = V.ref a ∧ SqL K H2 a (ns.map V.int) ∧ (ns = [] → Q y H2) ∧ ∀ m, m ∈ ns → (∀ z, z ∈ ns → z ≤ m) → Q (.int m) H2
theorem pe_maxD {X : Cx} {e e2 : Expr} {ta td : TE} {p kp : Pos} (ha : PE X e ta) (hd : PE X e2 td) (hc : X.calm = true) (hg : Gl X "max") (hm : X.mg "max" = none) (hv : bootBuiltins "max" = some (.builtin "max"))
    (he : starEach [e] X.env = [(false, eval e X.env)]) : PE X (.Call (.Name "max" p) [e] [⟨some "default", e2, kp⟩] pos) (tMaxD X.K ta td) := by
  refine ⟨fun pins s σ H Q I h => ?_⟩
  refine wpAny_Call_Name_kw (ld_blt I hg hm hv ?_ (by decide) (by decide))
  refine PyProof.Rows.callWith_kw ?_ (by rw [he]; rfl) (by rw [he]; rfl)
  have hA : PA X [e] (tCons ta tNil) := pa_cons ha pa_nil he
  refine thn (hA.run pos pins s σ H (fun vs H1 => match vs with
    | [x] => td σ H1 fun y H2 => ∃ (a : Addr) (ns : List Int), x = V.ref a ∧ SqL X.K H2 a (ns.map V.int) ∧ (ns = [] → Q y H2) ∧ ∀ m, m ∈ ns → (∀ z, z ∈ ns → z ≤ m) → Q (.int m) H2
    | _ => False) I h) ?_
  rintro us s1 ⟨vs, H1, I1, r1, q1⟩
  match vs, us, r1, q1 with
  | [x], [u], r1, q1 =>
    refine PyProof.Rows.kws_cons ?_
    refine thn (hd.run pins s1 σ H1 _ I1 q1) ?_
    rintro u2 s2 ⟨y, H2, I2, r2, a, ns, rfl, hs, q0, qm⟩
    refine PyProof.Rows.kws_nil ?_
    have hu := Vals.ref1 r1
    rw [hu]
    obtain ⟨its, rv, hl, _⟩ := I2.list hs
    refine maxD_ints (I2.ok.hd hc) hl.isList rv.ints fun h' tk v hk hv => ?_
    rcases hv with ⟨rfl, rfl⟩ | ⟨m, t', rfl, h1, h2⟩
    · exact ⟨y, H2, I2.kept hk, r2, q0 rfl⟩
    · exact ⟨.int m, H2, I2.kept hk, ⟨_, rfl⟩, qm m h1 h2⟩
abbrev dMaxD (f g : DTE) : DTE := fun ρ Q E => f ρ (fun x => g ρ (fun y => match x with
  | .lst xs => ∃ ns, intsD xs = some ns ∧ (ns = [] → Q y) ∧ ∀ m, m ∈ ns → (∀ z, z ∈ ns → z ≤ m) → Q (.int m)
  | _ => False) E) E
theorem de_maxD {e e2 : Expr} {f g : DTE} {p kp : Pos} (h : DE Xs mg Wx e f) (h' : DE Xs mg Wx e2 g) (hm : mg.mg "max" = none) (hv : bootBuiltins "max" = some (.builtin "max")) (hK : ∀ j, (Xs j).K = mg.K := by intro _; rfl) (hM : ∀ j, (Xs j).mg = mg.mg := by intro _; rfl)
    (hc : ∀ j, (Xs j).calm = true := by intro _; rfl) (hg : ∀ j, Gl (Xs j) "max" := by intro _; rfl) (hs : ∀ j, starEach [e] (Xs j).env = [(false, eval e (Xs j).env)] := by intro _; rfl) : DE Xs mg Wx (.Call (.Name "max" p) [e] [⟨some "default", e2, kp⟩] pos) (dMaxD f g) := by
  obtain ⟨t, h1, h2⟩ := h
  obtain ⟨u, g1, g2⟩ := h'
  refine ⟨tMaxD mg.K t u, fun j => by rw [← hK j]; exact pe_maxD (h1 j) (g1 j) (hc j) (hg j) (by rw [hM j]; exact hm) hv (hs j), fun B ρ Q E hf W σ H Q' hh e x q => ?_⟩
  refine h2 B ρ _ E hf W σ H _ hh e x fun W1 H1 v1 d1 s1 r1 k1 => ?_
  refine g2 B ρ _ E k1 W1 σ H1 _ s1.holds (e.step s1) (x.step s1) fun W2 H2 v2 d2 s2 r2 k2 => ?_
  have r3 := r1.mono s2.le
  cases r3 with
  | lst ha ra =>
    obtain ⟨ns, e1, q0, qm⟩ := k2
    refine ⟨_, ns, rfl, ?_, fun h0 => q W2 H2 _ _ (s1.trans s2) r2 (q0 h0), fun m h1 h2 => q W2 H2 _ _ (s1.trans s2) (.int m) (qm m h1 h2)⟩
    rw [← intsD_v ra e1]
    exact SqL.of (s2.holds.same _ _ ha)
  | _ => exact k2.elim
end
end FP

/-! FP33: binary operators of own objects. -/
namespace FP
open PySem PyProof.Rows L2
variable [Tabl]
section
variable {prog : Program} {w : World} {A : Around} {E : Value → Shared → Prop} {s : Shared} {K : PySem.W.Frag} {x C f : Addr} {ox : Obj} {od : Option Obj}
theorem inPython {M : Model} {h : Heap} {nm : String} (X : K.In h) (hs : PySem.W.findIn K (.ref C) (PySem.dunder nm) = some (some (.ref f))) (hn : PySem.W.findIn K (.ref C) (dunderR nm) = some none) : PySem.W.Looks M h (numberSlotInPython (.ref C) nm) true := by
  intro A Q E s k q
  unfold numberSlotInPython
  refine wpAny_bind (m := typeLookup (.ref C) (PySem.dunder nm)) (PySem.W.looks_findIn X hs A _ E s k ?_)
  refine wpAny_bind (m := calledByName (.ref C) (PySem.dunder nm) (some (.ref f))) (wpAny_pure ?_)
  refine wpAny_bind (m := typeLookup (.ref C) (dunderR nm)) (PySem.W.looks_findIn X hn A _ E s k ?_)
  refine wpAny_bind (m := calledByName (.ref C) (dunderR nm) none) (wpAny_pure ?_)
  exact wpAny_pure q
theorem binopT {op : Operator} {b : Value} {T : String} {r0 : Bool} {tk : Option Value} {Q : Value → Shared → Prop} (X : K.In s.heap) (I : PySem.W.InstAt s.heap x ox C od) (hb : PySem.W.Looks (model prog w) s.heap (typeOf b) (.type T)) (hc : PySem.W.selfFirst K C = true)
    (hs : PySem.W.findIn K (.ref C) (PySem.dunder op.info.2) = some (some (.ref f))) (hn : PySem.W.findIn K (.ref C) (dunderR op.info.2) = some none) (hsub : PySem.W.subIn K (.type T) (.ref C) = some false) (hfl : fillsNumberSlot (.type T) op.info.2 = pure r0) (htk : typeLookup (.type T) (dunderR op.info.2) = pure tk)
    (hf : PySem.W.isFn K (.ref f) = true) (h : wpAny (model prog w) A (call (.ref f) [.ref x, b]) (PySem.W.CmpBack Q) E s) : wpAny (model prog w) A (binaryOp op (.ref x) b) Q E s := by
  obtain ⟨cd, hcd, hm⟩ := PySem.W.any_some hc
  obtain ⟨rest, hm⟩ : ∃ rest, cd.mro = .ref C :: rest := by
    cases q : cd.mro with
    | nil =>
      rw [q] at hm
      cases hm
    | cons a r =>
      rw [q, List.head?_cons] at hm
      cases beq_iff_eq.mp hm
      exact ⟨r, rfl⟩
  have try1 : wpAny (model prog w) A (tryMethod (.ref x) (PySem.dunder op.info.2) b) (fun o s' => ∃ v, o = some v ∧ Q v s') E s := by
    unfold tryMethod
    refine wpAny_bind (PySem.W.special_fn X I hs (beq_iff_eq.mp hf) (wpAny_mono h (fun v s' hv => ?_) fun _ _ e => e))
    cases v <;> first | exact hv.elim | exact wpAny_pure ⟨_, rfl, hv⟩
  unfold binaryOp
  refine wpAny_holding (wpAny_bind ?_)
  unfold binaryOp1
  refine wpAny_bind (I.type.here (wpAny_bind (hb.here (wpAny_bind ((PySem.W.fills_K X hcd hm hs).here ?_)))))
  have ne : ((Value.ref C) == Value.type T) = false := rfl
  simp only [ne, Bool.false_eq_true, if_false]
  refine wpAny_bind (wpAny_of_eq hfl ?_)
  cases r0 with
  | false =>
    simp only [Bool.and_false, Bool.false_eq_true, if_false, Bool.false_and]
    refine wpAny_bind (wpAny_pure ?_)
    simp only [Bool.false_eq_true, if_false]
    refine wpAny_bind (m := tryMethod (.ref x) _ b) (wpAny_mono try1 (fun o s' ho => ?_) fun _ _ e => e)
    obtain ⟨v, rfl, hv⟩ := ho
    exact wpAny_pure (wpAny_pure hv)
  | true =>
    simp only [Bool.and_true, Bool.true_and, if_true]
    refine wpAny_bind (m := isSubtype (.type T) (.ref C)) ((PySem.W.looks_subIn X hsub).here ?_)
    simp only [Bool.false_eq_true, if_false, Bool.not_false, if_true]
    refine wpAny_bind (m := numberSlotInPython (.ref C) op.info.2) ((inPython X hs hn).here ?_)
    simp only [if_true]
    refine wpAny_bind (m := numberSlotInPython (.type T) op.info.2) (wpAny_pure ?_)
    simp only [Bool.not_false, if_true]
    refine wpAny_bind (m := typeLookup (.type T) (dunderR op.info.2)) (wpAny_of_eq htk ?_)
    refine wpAny_bind (m := tryMethod (.ref x) (PySem.dunder op.info.2) b) (wpAny_mono try1 (fun o s' ho => ?_) fun _ _ e => e)
    obtain ⟨v, rfl, hv⟩ := ho
    exact wpAny_pure (wpAny_pure hv)
end
/-- what an operator of an own class needs: itself first, no reflected one; the types that may stand on the right -/
structure OpF (mg : Gm) (C : Addr) (nm : String) (ts : List String) : Prop where
  sf : PySem.W.selfFirst mg.K C = true
  nr : PySem.W.findIn mg.K (.ref C) (dunderR nm) = some none
  ty : ∀ t ∈ ts, PySem.W.subIn mg.K (.type t) (.ref C) = some false ∧ (∃ r0, fillsNumberSlot (.type t) nm = pure r0) ∧ ∃ tk, typeLookup (.type t) (dunderR nm) = pure tk
section
variable {ι : Type} {Xs : ι → Cx} {mg : Gm} {Wx : WX} {pos : Pos}
def plainTy : D → Option String
  | .non => some "NoneType"
  | .bl _ => some "bool"
  | .int _ => some "int"
  | .str _ => some "str"
  | .lst _ => some "list"
  | .tup _ => some "tuple"
  | .dct _ => some "dict"
  | _ => none
theorem plainTy_v {W : Wd} {H : Hp} {x : V} {d : D} {t : String} (hh : Holds W H) (r : Rep mg W x d) (h : plainTy d = some t) : TyL mg.K H x (.type t) := by
  cases r with
  | non => cases h; exact .inl .non
  | bl b => cases h; exact .inl (.bl b)
  | int b => cases h; exact .inl (.int b)
  | str b => cases h; exact .inl (.str b)
  | lst ha rs => cases h; exact .inl (.lst (hh.same _ _ ha))
  | tup ha rs => cases h; exact .inl (.tup (hh.same _ _ ha))
  | dct ha hk rs => cases h; exact .inr ⟨_, _, _, rfl, hh.same _ _ ha, rfl⟩
  | _ => cases h
/-- what stands on the right: an object of the class, or a plain thing of one of the types -/
def opKind (c : Str) (ts : List String) (y : D) : Prop := (∃ fs, y = .ins c fs) ∨ ∃ t, plainTy y = some t ∧ t ∈ ts
abbrev dOpM (c : Str) (ts : List String) (f : List D → M D) (fa fb : DTE) : DTE := fun ρ Q E => fa ρ (fun x => fb ρ (fun y => match x with
  | .ins c' fs => c' = c ∧ opKind c ts y ∧ f [.ins c' fs, y] Q E
  | _ => False) E) E
theorem back_of {X : Cx} {pins : List (Addr × Obj)} {σ : L2.St} {Q : VK} {v : Value} {s : Shared} (h : EP X pins σ Q v s) : PySem.W.CmpBack (EP X pins σ Q) v s := by
  obtain ⟨y, H', I', r, q⟩ := id h
  cases v with
  | notImplemented => cases y <;> first | exact (show False from r).elim | (obtain ⟨_, e⟩ := r; cases e) | cases r
  | _ => exact h
theorem de_opM {P : Program} {w : World} {base : Heap} {k : Nat} {c : Str} {C : Addr} {f : List D → M D} {op : Operator} {ts : List String} {a b : Expr} {fa fb : DTE} (Fc : ClsF mg c C) (S : SpecOk P w mg base k C (PySem.dunder op.info.2) 2 f) (O : OpF mg C op.info.2 ts) (hr : ∀ j, RmG k (Xs j).A) (tk : ∀ i, Pas (Xs i) Wx)
    (ha : DE Xs mg Wx a fa) (hb : DE Xs mg Wx b fb) (hP : HPs Xs P w mg base := by intro _; exact ⟨rfl, rfl, rfl, rfl, rfl⟩) : DE Xs mg Wx (.BinOp a op b pos) (dOpM c ts f fa fb) := by
  obtain ⟨g, fd, ps, h1, h2, h3, hbd, hl, G⟩ := S.ex
  obtain ⟨ta, a1, a2⟩ := ha
  obtain ⟨tb, b1, b2⟩ := hb
  refine ⟨fun σ H Q => ta σ H fun x H1 => tb σ H1 fun y H2 => ∃ p dx fs, x = .ref p ∧ H2 p = some (.ins C dx fs) ∧ ((∃ q dx' fs', y = .ref q ∧ H2 q = some (.ins C dx' fs')) ∨ ∃ t, TyL mg.K H2 y (.type t) ∧ t ∈ ts) ∧ spD mg 2 f [x, y] H2 Q (WE Wx σ), fun j => ?_, ?_⟩
  · obtain ⟨p1, p2, p3, p4, p5⟩ := hP j
    subst p1 p2 p5
    refine ⟨fun pins s σ H Q I h => ?_⟩
    refine wpAny_BinOp (binT (a1 j) (b1 j) I h fun v u s2 x y H2 I2 rx ry q => ?_)
    obtain ⟨p, dx, fs, rfl, ea, hy, q⟩ := q
    cases rx
    obtain ⟨mA, O1, _⟩ := ins_get I2.hok ea
    obtain ⟨od, J, _⟩ := O1.look
    obtain ⟨m, hF⟩ := I2.fr
    have go : wpAny (model (Xs j).prog (Xs j).w) (Xs j).A (call (.ref g) [.ref p, u]) (PySem.W.CmpBack (EP (Xs j) pins σ Q)) (Xs j).xe s2 :=
      thn (goG (Ew := WE Wx) (us := [.ref p, u]) (vs := [.ref p, y]) (by rw [p3, p4]; exact G) (hr j) (by rw [p3]; exact hbd) (tk j σ) I2 (.cons rfl (.cons ry .nil)) q) fun v s h => back_of h
    rcases hy with ⟨p', dx', fs', rfl, eb⟩ | ⟨t, ty, ht⟩
    · cases ry
      obtain ⟨mA', O2, _⟩ := ins_get I2.hok eb
      obtain ⟨od', J', _⟩ := O2.look
      exact PySem.W.binop_K hF I2.ok.mod.kin J J'.type (by rw [p3]; exact O.sf) (by rw [p3]; exact h1) (by rw [p3]; exact h2) go
    · obtain ⟨hsb, ⟨r0, hfl⟩, tkv, htk⟩ := O.ty t ht
      exact binopT I2.kIn J (type_looks I2 ry (by rw [p3]; exact ty)) (by rw [p3]; exact O.sf) (by rw [p3]; exact h1) (by rw [p3]; exact O.nr) (by rw [p3]; exact hsb) hfl htk (by rw [p3]; exact h2) go
  · intro B ρ Q E hf W σ H Q' hh e x q
    refine a2 B ρ _ E hf W σ H _ hh e x fun W1 H1 v1 d1 s1 r1 k1 => ?_
    refine b2 B ρ _ E k1 W1 σ H1 _ s1.holds (e.step s1) (x.step s1) fun W2 H2 v2 d2 s2 r2 k2 => ?_
    have s12 := s1.trans s2
    have r3 := r1.mono s2.le
    cases r3 with
    | @ins p C' dx fs c' ds hc ha hk rs =>
      obtain ⟨rfl, hy, k3⟩ := k2
      have ec := Fc.eq hc
      subst ec
      refine ⟨p, dx, fs, rfl, s2.holds.same _ _ ha, ?_, W2, _, Q, E, s2.holds, .cons (.ins hc ha hk rs) (.cons r2 .nil), rfl, k3, ToV.step q s12, fun W' H' cls dd y s' r h => x W' H' cls dd y (s12.trans s') r h⟩
      rcases hy with ⟨fs', rfl⟩ | ⟨t, ht, hm⟩
      · cases r2 with
        | @ins p2 C2 dx2 fs2 c2 ds2 hc2 ha2 hk2 rs2 =>
          have ec := Fc.eq hc2
          subst ec
          exact .inl ⟨p2, dx2, fs2, rfl, s2.holds.same _ _ ha2⟩
      · exact .inr ⟨t, plainTy_v s2.holds r2 ht, hm⟩
    | _ => exact k2.elim
end
end FP

/-! FP34: dicts walked (keys, values, items), d.get(k, x), dict(rows of pairs). -/
namespace FP
open PySem L2
variable [Tabl]
section
variable {ι : Type} {Xs : ι → Cx} {mg : Gm} {Wx : WX} {pos : Pos}
/-- a key as a datum -/
def kD : Key → D
  | .inl i => .int i
  | .inr x => .str x
theorem kD_rep {W : Wd} : ∀ k : Key, Rep mg W (kV k) (kD k)
  | .inl i => .int i
  | .inr x => .str x
theorem keyD_kD (k : Key) : keyD (kD k) = some k := by cases k <;> rfl
theorem pair_get {kvs : List (Key × V)} {ds : List (Key × D)} {W : Wd} (hk : kvs.map (·.1) = ds.map (·.1)) (rs : Reps mg W (kvs.map (·.2)) (ds.map (·.2))) {i : Nat} {k : Key} {v : V} (h : kvs[i]? = some (k, v)) : ∃ d, ds[i]? = some (k, d) ∧ Rep mg W v d := by
  have h2 : (kvs.map (·.2))[i]? = some v := by rw [List.getElem?_map, h]; rfl
  obtain ⟨d, h3, r⟩ := rs.getV h2
  rw [List.getElem?_map] at h3
  have h1 : (kvs.map (·.1))[i]? = some k := by rw [List.getElem?_map, h]; rfl
  rw [hk, List.getElem?_map] at h1
  cases q : ds[i]? with
  | none =>
    rw [q] at h3
    cases h3
  | some p =>
    rw [q] at h1 h3
    obtain ⟨k', d'⟩ := p
    cases h1
    cases h3
    exact ⟨_, rfl, r⟩
abbrev dIKeys (f : DTE) : DTI := fun ρ Q E => f ρ (fun x => match x with
  | .dct kvs => Q (kvs.map fun kv => kD kv.1)
  | _ => False) E
theorem di_keys {tg e : Expr} {f : DTE} (h : DE Xs mg Wx e f) : DI Xs mg Wx tg e (dIKeys f) := by
  obtain ⟨t, h1, h2⟩ := h
  refine ⟨_, fun j => pi_keys (h1 j), fun B ρ Q E hf W σ H Q' hh e x q => h2 B ρ _ E hf W σ H _ hh e x fun W1 H1 v d s1 r1 k1 => ?_⟩
  cases r1 with
  | @dct a o kvs ds ha hk rs =>
    refine ⟨a, o, rfl, .inl ⟨kvs, s1.holds.same _ _ ha, q W1 H1 _ _ s1 ?_ k1⟩⟩
    have hl := len_keys hk
    intro W2 H2 le hh2
    have hd := hh2.same _ _ (le.h _ _ ha)
    refine ⟨fun i hi => ⟨hd, by rw [List.length_map] at hi; omega⟩, ⟨hd, by rw [List.length_map]; omega⟩, fun i x H3 hi y => ?_⟩
    obtain ⟨rfl, k, v, hkv, rfl⟩ := y
    obtain ⟨d, hd2, _⟩ := pair_get hk rs hkv
    exact ⟨W2, kD k, Step.refl hh2, by rw [List.getElem?_map, hd2]; rfl, kD_rep k⟩
  | _ => exact k1.elim
abbrev dIVals (f : DTE) : DTI := fun ρ Q E => f ρ (fun x => match x with
  | .dct kvs => Q (kvs.map (·.2))
  | _ => False) E
theorem di_vals {tg e : Expr} {f : DTE} {apos cpos : Pos} (h : DE Xs mg Wx e f) (hb : ∀ j, attributeBase e "values" (Xs j).env (eval e (Xs j).env) = eval e (Xs j).env := by intro _; rfl) (hl : (apos.endLine == cpos.line) = true := by rfl) : DI Xs mg Wx tg (.Call (.Attribute e "values" apos) [] [] cpos) (dIVals f) := by
  obtain ⟨t, h1, h2⟩ := h
  refine ⟨_, fun j => pi_values (h1 j) (hb j) hl, fun B ρ Q E hf W σ H Q' hh e x q => h2 B ρ _ E hf W σ H _ hh e x fun W1 H1 v d s1 r1 k1 => ?_⟩
  cases r1 with
  | @dct a o kvs ds ha hk rs =>
    refine ⟨a, o, kvs, rfl, s1.holds.same _ _ ha, q W1 H1 _ _ s1 ?_ k1⟩
    have hl := len_keys hk
    intro W2 H2 le hh2
    have hd := hh2.same _ _ (le.h _ _ ha)
    refine ⟨fun i hi => ⟨hd, by rw [List.length_map] at hi; omega⟩, ⟨hd, by rw [List.length_map]; omega⟩, fun i x H3 hi y => ?_⟩
    obtain ⟨rfl, k, hkv⟩ := y
    obtain ⟨d, hd2, r⟩ := pair_get hk rs hkv
    exact ⟨W2, d, Step.refl hh2, by rw [List.getElem?_map, hd2]; rfl, r.mono le⟩
  | _ => exact k1.elim
abbrev dIItems (f : DTE) : DTI := fun ρ Q E => f ρ (fun x => match x with
  | .dct kvs => Q (kvs.map fun kv => .tup [kD kv.1, kv.2])
  | _ => False) E
theorem di_items {e : Expr} {f : DTE} {apos cpos tpos : Pos} {elts : List Expr} {kk : Nat} (h : DE Xs mg Wx e f) (hb : ∀ j, attributeBase e "items" (Xs j).env (eval e (Xs j).env) = eval e (Xs j).env := by intro _; rfl) (hl : (apos.endLine == cpos.line) = true := by rfl) : DI Xs mg Wx (.Tuple elts kk tpos) (.Call (.Attribute e "items" apos) [] [] cpos) (dIItems f) := by
  obtain ⟨t, h1, h2⟩ := h
  refine ⟨_, fun j => pi_items (h1 j) (hb j) hl, fun B ρ Q E hf W σ H Q' hh e x q => h2 B ρ _ E hf W σ H _ hh e x fun W1 H1 v d s1 r1 k1 => ?_⟩
  cases r1 with
  | @dct a o kvs ds ha hk rs =>
    refine ⟨a, o, kvs, rfl, s1.holds.same _ _ ha, q W1 H1 _ _ s1 ?_ k1⟩
    have hl := len_keys hk
    intro W2 H2 le hh2
    have hd := hh2.same _ _ (le.h _ _ ha)
    refine ⟨fun i hi => ⟨hd, by rw [List.length_map] at hi; omega⟩, ⟨hd, by rw [List.length_map]; omega⟩, fun i x H3 hi y => ?_⟩
    obtain ⟨T, k, v, hkv, rfl, hT, rfl⟩ := y
    obtain ⟨d, hd2, r⟩ := pair_get hk rs hkv
    refine ⟨W2.put T (.tup [kV k, v]), .tup [kD k, d], Step.alloc hh2 hT, by rw [List.getElem?_map, hd2]; rfl, Rep.newTup (.cons (kD_rep k) (.cons (r.mono le) .nil)) (hh2.same.free hT)⟩
  | _ => exact k1.elim
/-! ### d.get(k, x) -/
abbrev dDGet2 (fo fk fx : DTE) : DTE := fun ρ Q E => fo ρ (fun x => match x with
  | .dct kvs => fk ρ (fun y => fx ρ (fun z => ∃ k, keyD y = some k ∧ Q ((valD kvs k).getD z)) E) E
  | _ => False) E
theorem de_dget2 {k : Nat} {o e e2 : Expr} {fo fk fx : DTE} {apos cpos : Pos} (hr : ∀ j, RmG k (Xs j).A) (ho : DE Xs mg Wx o fo) (hk : DE Xs mg Wx e fk) (hx : DE Xs mg Wx e2 fx) (m : ∀ j, M2 (Xs j) o "get" apos e e2 cpos := by intro _; exact ⟨rfl, rfl, rfl, rfl⟩) : DE Xs mg Wx (.Call (.Attribute o "get" apos) [e, e2] [] cpos) (dDGet2 fo fk fx) := by
  obtain ⟨t, o1, o2⟩ := ho
  obtain ⟨tk, k1, k2⟩ := hk
  obtain ⟨tx, x1, x2⟩ := hx
  refine ⟨_, fun j => pe_dget2 (by have := (hr j).r.un; omega) (o1 j) (k1 j) (x1 j) (m j), fun B ρ Q E hf W σ H Q' hh e x q => o2 B ρ _ E hf W σ H _ hh e x fun W1 H1 v d s1 r1 q1 => ?_⟩
  cases r1 with
  | @dct a o kvs ds ha hk rs =>
    refine ⟨a, rfl, .inl ⟨kvs, .inr ⟨o, s1.holds.same _ _ ha⟩⟩, ?_⟩
    refine k2 B ρ _ E q1 W1 σ H1 _ s1.holds (e.step s1) (x.step s1) fun W2 H2 v2 d2 s2 r2 q2 => ?_
    have s12 := s1.trans s2
    refine x2 B ρ _ E q2 W2 σ H2 _ s2.holds (e.step s12) (x.step s12) fun W3 H3 v3 d3 s3 r3 q3 => ?_
    obtain ⟨kk, h1, h2⟩ := q3
    have ey := keyD_v (r2.mono s3.le) h1
    subst ey
    have s13 := s12.trans s3
    have ha3 : W3.H a = some (.frz o (.dK kvs)) := (s2.trans s3).le.h _ _ ha
    have rs3 := rs.mono (s2.trans s3).le
    rcases val_rep (k := kk) hk rs3 with ⟨z, z2⟩ | ⟨u, d', z1, z2, z3⟩
    · rw [z] at h2
      exact ⟨none, by rw [← z2]; exact DGet.kf (s3.holds.same _ _ ha3), q W3 H3 _ _ s13 r3 h2⟩
    · rw [z1] at h2
      exact ⟨some u, by rw [← z2]; exact DGet.kf (s3.holds.same _ _ ha3), q W3 H3 _ _ s13 z3 h2⟩
  | _ => exact q1.elim
end
end FP

/-! FP35: a list comprehension whose element raises. -/
namespace FP
open PySem L2
variable [Tabl]
/-! ### the comprehension: what is wanted of an error, with the frame known -/
def postX (M : Model) (A : Around) (E : Value → Shared → Prop) (use : Option (Value → Sem Unit)) (Q : Value → Shared → Prop) (fr : Option Addr) (acc : Value) (C : Addr) (r : Result) (z : Shared) : Prop :=
  match r with
  | .ok x => compPost M A E use Q acc C (.ok x) z
  | .error x => ∃ m, z.heap.Ns C m ∧ ∀ hp, Heap.SameBut C z.heap hp → ∀ ce : PySem.Env, ce.locals = C → ce.frame = fr → wpAny M A (passOn "comprehension.variables-let-go" x ce : Sem Value) (fun _ _ => False) E { z with heap := hp }
section
variable {M : Model} {A : Around} {E : Value → Shared → Prop} {z : Shared} {env : PySem.Env}
theorem comp_freeX {e : Expr} {scope : Scope} {pos : Pos} {mk it0 : Sem Value} {g : Comprehension} {gs : List Comprehension} {cl : List (Str × Addr)} {use : Option (Value → Sem Unit)} {Q : Value → Shared → Prop}
    (c1 : clausesOf e = g :: gs) (c2 : ∀ x, foldedSetIterable g.iter env x = pure x) (c3 : closureFor scope env = pure cl) (c4 : scope.kind = .function) (c5 : ∀ x ∈ scope.names, x.2 = .local → scope.names.lookup x.1 = some .local)
    (h : wpAny M A it0 (fun x z1 => wpAny M A (pyIter x) (fun i z2 => wpAny M A mk (fun acc z3 => wpAny M A (newFunctionEnv scope env.globals cl [] env.qual none .none (some env)) (fun ce z4 =>
        codeAny M A (.compStart e 0 i acc { ce with scope := relabel scope env }) (postX M A E use Q ce.frame acc ce.locals) z4) E z3) E z2) E z1) E z) :
    wpAny M A (comprehension e scope env pos mk false it0 use) Q E z := by
  unfold comprehension
  rw [c3, c1]
  refine wpAny_bind (wpAny_mono h (fun x z1 h1 => wpAny_bind (wpAny_standAt (wpAny_bind (wpAny_of_eq (c2 x) (wpAny_bind (wpAny_holding (wpAny_mono h1 (fun i z2 h2 => ?_) fun _ _ q => q))))))) fun _ _ q => q)
  refine wpAny_standIf (wpAny_bind (wpAny_mono h2 (fun acc z3 h3 => wpAny_bind (wpAny_pure (wpAny_bind (wpAny_mono h3 (fun ce z4 h4 => ?_) fun _ _ q => q)))) fun _ _ q => q))
  dsimp only
  have own : ∀ y ∈ (scope.names.filter fun x => (x.2 == .local || x.2 == .cell) && x.1 != (".0" : Str)).reverse, y.2 = .local → PySem.Env.kindOf { ce with scope := relabel scope env } y.1 = some .local :=
    fun y hy hl => lookup_relabel_local (c5 y (List.mem_filter.mp (List.mem_reverse.mp hy)).1 hl)
  have own' : ∀ y ∈ (scope.names.filter fun x => (x.2 == .local || x.2 == .cell) && x.1 != (".0" : Str)).reverse.drop 1 ++ (scope.names.filter fun x => (x.2 == .local || x.2 == .cell) && x.1 != (".0" : Str)).reverse.take 1, y.2 = .local → PySem.Env.kindOf { ce with scope := relabel scope env } y.1 = some .local := fun y hy hl => by
    rcases List.mem_append.mp hy with q | q
    · exact own y (List.mem_of_mem_drop q) hl
    · exact own y (List.mem_of_mem_take q) hl
  refine wpAny_holding (wpAny_bind (wpAny_attempt (wpAny_holding (wpAny_run (codeAny_mono h4 fun r z' hr => ?_)))))
  cases r with
  | ok f =>
    cases use with
    | none =>
      obtain ⟨m, ns, hr⟩ := hr
      exact wpAny_bind (wpAny_holding (wpAny_comp_letGo (cenv := { ce with scope := relabel scope env }) c4 _ z' m own ns fun hp m' _ sb => wpAny_pure (hr hp sb)))
    | some u =>
      refine wpAny_bind (wpAny_rule (wpAny_bind (wpAny_holding (wpAny_mono hr (fun _ z2 hr2 => ?_) fun _ _ q => q))))
      obtain ⟨m, ns, hr2⟩ := hr2
      exact wpAny_bind (wpAny_comp_letGo (cenv := { ce with scope := relabel scope env }) c4 _ z2 m own' ns fun hp m' _ sb => wpAny_pure (hr2 hp sb))
  | error x =>
    obtain ⟨m, ns, hr⟩ := hr
    exact wpAny_bind (wpAny_holding (wpAny_comp_letGo (cenv := { ce with scope := relabel scope env }) c4 _ z' m own ns fun hp m' _ sb => wpAny_mono (hr hp sb _ rfl rfl) (fun _ _ f => f.elim) fun _ _ y => y))
theorem note_eq {x : Value} {e1 e2 : PySem.Env} (h : e1.frame = e2.frame) : noteFrame x e1 = noteFrame x e2 := by
  unfold noteFrame frameOf
  rw [h]
end
/-! ### the block's context, with a wish about errors -/
abbrev blkX (X : Cx) (s : Shared) (H : Hp) (scope : Scope) (ce : PySem.Env) (fp : List Addr) (xe : Value → Shared → Prop) : Cx := { X.blk s H scope ce fp with xe := xe }
theorem inv_xe {X : Cx} {xe : Value → Shared → Prop} {pins : List (Addr × Obj)} {σ : St} {H : Hp} {s : Shared} (I : Inv X pins σ H s) : Inv { X with xe := xe } pins σ H s :=
  ⟨⟨I.ok.mod, I.ok.kind, I.ok.glob, I.ok.blt, I.ok.above, I.ok.inj, I.ok.has, I.ok.cab, I.ok.hd, I.ok.frames, I.ok.stk, I.ok.exf, I.ok.bs, I.ok.bsz, I.ok.noex, I.ok.exfs, I.ok.funs, I.ok.frf⟩, I.os, I.bare, I.base, I.loc, I.cell, I.free, I.freeC, I.pin, I.hok, I.len⟩
section
variable {X : Cx} {pins : List (Addr × Obj)} {σ : St} {H : Hp} {s s' : Shared} {W : WX} {E : XK}
/-- a call's exception in flight, and the state without it -/
theorem callSky (I : Inv X pins σ H s) {u : Value} (c : L2.CX X.prog X.w X.stack H s E u s') : ∃ (a : Addr) (B : Heap) (zI : Shared) (H1 : Hp) (cls : Value) (d : Option Addr),
    u = .ref a ∧ Inv X pins σ H1 zI ∧ (∀ b o, zI.heap.get? b = some o → b ∉ frs X.stack → B.get? b = some o) ∧ zI.heap.UpToSlots s'.heap ∧ HandSPX.FlyingZ B X.stack a (Zc cls d) s'.heap ∧ H1 a = none ∧ s'.os = zI.os ∧ PyProof.Rows.AllBare s'.gens ∧ E cls d H1 := by
  obtain ⟨a, B, H1, cls, d, rfl, fl, ok, ub, na, os, ag, hE⟩ := c
  obtain ⟨G, p1, p2⟩ := restrict s'.heap fun b => (B.get? b).isSome || decide (b ∈ frs X.stack)
  have stay : B.StaysIn s'.heap := fl.1
  have inB : ∀ c o, B.get? c = some o → G.get? c = some o := fun c o q => by
    rw [p1 c (by simp [q])]
    exact stay c o q
  have inF : ∀ c, c ∈ frs X.stack → G.get? c = s'.heap.get? c := fun c hc => p1 c (by simp [hc])
  have back : ∀ c o, G.get? c = some o → s'.heap.get? c = some o ∧ ((B.get? c).isSome = true ∨ c ∈ frs X.stack) := fun c o q => by
    cases k : ((B.get? c).isSome || decide (c ∈ frs X.stack)) with
    | false =>
      rw [p2 c k] at q
      cases q
    | true =>
      rw [p1 c k] at q
      exact ⟨q, by simpa [Bool.or_eq_true] using k⟩
  refine ⟨a, B, { s with heap := G, gens := s'.gens, drawn := s'.drawn, toks := s'.toks }, H1, cls, d, rfl, ?_, fun c o q nf => ?_, Heap.UpToSlots.of_keeps fun c o q => (back c o q).1, fl, na, os, ag, hE⟩
  · refine I.call (ch := []) ⟨fun c o q n nf _ => inB c o (ub.keep c o q n nf), fun c o q n hc _ => ?_, fun c o q n _ => ub.free c o q n, fun c o q _ => ?_, ub.tups, ub.frzs, ub.tbls⟩ (ok.kept inB) ag (fun _ k => nomatch k)
    · obtain ⟨sl, k⟩ := ub.slot c o q hc
      exact ⟨sl, by rw [inF c hc]; exact k⟩
    · by_cases hc : c ∈ frs X.stack
      · obtain ⟨sl, k⟩ := ub.slot c o q hc
        exact ⟨_, by rw [inF c hc]; exact k⟩
      · obtain ⟨o', k⟩ := ub.there c o q hc
        exact ⟨o', inB c o' k⟩
  · obtain ⟨q', k⟩ := back c o q
    rcases k with k | k
    · obtain ⟨o', k'⟩ := Option.isSome_iff_exists.mp k
      have y := stay c o' k'
      rw [q'] at y
      cases y
      exact k'
    · exact absurd k nf
/-- one untracked object of the ground turned -/
theorem held_but {B h h' : Heap} {l : List PySem.Env} {a C L : Addr} {Z : Obj → Prop} {o : Obj} (hC : B.get? C = some o) (x : HandSPX.HeldZ B l a Z L h) (sb : Heap.SameBut C h h') : HandSPX.HeldZ (PySem.W.hideAll B [C]) l a Z L h' := by
  obtain ⟨x1, x2, x3, oe, vs, T, oT, ts, he, hz, hd, h1, hnT, hTe, hT, hdT, h3⟩ := x
  have ne : ∀ b, B.get? b = none → b ≠ C := fun b q k => by
    rw [k, hC] at q
    cases q
  have hid : ∀ b, B.get? b = none → (PySem.W.hideAll B [C]).get? b = none := fun b q => by
    cases k : (PySem.W.hideAll B [C]).get? b with
    | none => rfl
    | some v =>
      have y := PySem.W.of_hideAll _ k
      rw [q] at y
      cases y
  have at' : ∀ b, b ≠ C → h'.get? b = h.get? b := fun b q => sb.2 b q
  refine ⟨fun b v q => ?_, hid a x2, ?_, oe, vs, T, oT, ts, (at' a (ne a x2)).trans he, hz, hd, h1, hid T hnT, hTe, (at' T (ne T hnT)).trans hT, hdT, h3⟩
  · have y := PySem.W.of_hideAll _ q
    have nC : b ≠ C := fun k => by
      rw [k, PySem.W.hideAll_none [C] (by simp)] at q
      cases q
    exact (at' b nC).trans (x1 b v y)
  · clear he hz hd h1 hnT hTe hT hdT h3
    induction l with
    | nil => trivial
    | cons env r ih =>
      obtain ⟨hk, ⟨M, v, hf, hn, ho, hd⟩, hr⟩ := x3
      exact ⟨hk, ⟨M, v, hf, hid M hn, (at' M (ne M hn)).trans ho, hd⟩, ih hr⟩
/-- the error of a call in the block reaches the def -/
theorem pas_blk {scope : Scope} {cl : List (Str × Addr)} {C : Addr} {fp : List Addr} {use : Option (Value → Sem Unit)} {Q : Value → Shared → Prop} {acc : Value} (tk : Takes X W) (hs : X.stack = X.env :: X.outer) (hf : X.env.frame = some X.env.locals) (I : Inv X pins σ H s) (hC : s.heap.objs.size ≤ C)
    (ff : ∀ b ∈ fp, FpOk X pins H b) :
    Pas (blkX X s H scope (compEnvC scope cl C X.env) fp (notedBy (model X.prog X.w) X.A (compEnvC scope cl C X.env) fun e z => postX (model X.prog X.w) X.A X.xe use Q X.env.frame acc C (.error e) z)) (fun cls d _ H' => W cls d σ H') := by
  intro τ pb Hb sb e s' J c
  obtain ⟨a, B, zI, H1, cls, d, rfl, J1, nb, up, fl, na, os, ag, w⟩ := callSky J c
  have I1 : Inv X pins σ H1 zI := I.call' (ch := fp) J1.os J1.base J1.hok J1.bare fun b hb => ⟨(ff b hb).2.2.2.1, (ff b hb).2.1, (ff b hb).2.2.2.2.1, (ff b hb).2.2.2.2.2⟩
  have nC : H1 C = none := J1.free
  have fC : FpOk X pins H1 C := I.fpOk hC nC
  have nS : C ∉ frs X.stack := fun k => by
    rw [hs] at k
    unfold frs at k
    rw [List.filterMap_cons, hf] at k
    rcases List.mem_cons.mp k with k | k
    · exact fC.2.1 k
    · exact fC.2.2.1 k
  obtain ⟨m, ns, _⟩ := J1.loc
  have ns : zI.heap.Ns C m := ns
  show wpAny _ _ (noteFrame _ _) _ _ _
  rw [note_eq (e1 := compEnvC scope cl C X.env) (e2 := X.env) rfl]
  have hfr : X.A.frames = some (X.env :: X.outer) := by rw [I.ok.frames, hs]
  have fl' : HandSPX.FlyingZ B (X.env :: X.outer) a (Zc cls d) s'.heap := by
    rw [← hs]
    exact fl
  refine HandSPX.looks_onZ Zc.steady hfr hf fl' fun h1 hh up1 => ?_
  obtain ⟨oC, es, ep, hoC, r⟩ := id ns
  have bC : B.get? C = some oC := nb C oC hoC nS
  refine ⟨m, (up.trans up1).ns ns, fun hp sb ce hL hF => ?_⟩
  have hh2 := held_but bC hh sb
  have I2 : Inv X pins σ H1 { zI with heap := PySem.W.hideAll zI.heap [C], toks := zI.toks } := I1.turned (it := C) (fun b o k q => PySem.W.hideAll_get [C] q (by simpa using k)) nC fC.2.1 fC.2.2.2.1 fC.2.2.2.2.1 fC.2.2.2.2.2
  have back : ∀ b o, (PySem.W.hideAll zI.heap [C]).get? b = some o → b ≠ C ∧ zI.heap.get? b = some o := fun b o q => by
    refine ⟨fun k => ?_, PySem.W.of_hideAll _ q⟩
    rw [k, PySem.W.hideAll_none [C] (by simp)] at q
    cases q
  unfold passOn
  obtain ⟨k1, k2, k3, oe, vs, T, oT, ts, he, hz, hd, hv1, hnT, hTe, hT, hdT, hv3⟩ := id hh2
  refine wpAny_bind (wpAny_field (s := { s' with heap := hp }) he hd hv1 ?_)
  rw [if_neg (show ¬ ((Value.ref T == Value.none) = true) from by simp)]
  rw [hF, hf]
  refine wpAny_bind (HandSPX.setFlight_onZ (s := { s' with heap := hp }) hh2 fun h2 hh3 up2 => ?_)
  refine wpAny_throw (tk _ _ ⟨a, _, _, pins, σ, H1, cls, d, rfl, I2, fun b o q nf => ?_, fun b o q nd => ?_, .inr (.inr (by rw [hs]; exact hh3)), na, os, ag, w⟩)
  · obtain ⟨k, q'⟩ := back b o q
    exact PySem.W.hideAll_get [C] (nb b o q' nf) (by simpa using k)
  · obtain ⟨k, q'⟩ := back b o q
    obtain ⟨sl, y⟩ := (up.trans up1) b o q' nd
    have y2 : hp.get? b = some { o with slots := sl } := (sb.2 b k).trans y
    obtain ⟨sl2, y3⟩ := up2 b _ y2 nd
    exact ⟨sl2, y3⟩
end
end FP

/-! FP36: the list comprehension whose element raises, by data. -/
namespace FP
open PySem L2
variable [Tabl]
section
variable {X : Cx}
theorem lcX_core {W : WX} {pins : List (Addr × Obj)} {z : Shared} {σ : St} {H : Hp} {Q : VK} {elt tg iter : Expr} {ifs : List Expr} {scope : Scope} {own : List (Str × Nat)} {pos pos' : Pos} {wi : TI} {g : TG} {tt : TT} {te : TE} {use : Option (Value → Sem Unit)} {Qf : Value → Shared → Prop}
    (calm : X.calm = true) (nd : X.N.Nodup) (I : Inv X pins σ H z) (hi : PI X tg iter wi) (ok : BlkOk X.N X.env.scope scope own) (tk : Takes X W) (st : X.stack = X.env :: X.outer) (fr : X.env.frame = some X.env.locals)
    (hg : ∀ (z : Shared) (H : Hp) (C : Addr) (cl : List (Str × Addr)) (fp : List Addr) (xe : Value → Shared → Prop), Pas (blkX X z H scope (compEnvC scope cl C X.env) fp xe) (fun c d _ H' => W c d σ H') → PG (blkX X z H scope (compEnvC scope cl C X.env) fp xe) tg g)
    (ht : ∀ (z : Shared) (H : Hp) (C : Addr) (cl : List (Str × Addr)) (fp : List Addr) (xe : Value → Shared → Prop), Pas (blkX X z H scope (compEnvC scope cl C X.env) fp xe) (fun c d _ H' => W c d σ H') → PTs (blkX X z H scope (compEnvC scope cl C X.env) fp xe) ifs tt)
    (he : ∀ (z : Shared) (H : Hp) (C : Addr) (cl : List (Str × Addr)) (fp : List Addr) (xe : Value → Shared → Prop), Pas (blkX X z H scope (compEnvC scope cl C X.env) fp xe) (fun c d _ H' => W c d σ H') → PE (blkX X z H scope (compEnvC scope cl C X.env) fp xe) elt te) (fd : ∀ x, foldedSetIterable iter X.env x = pure x)
    (h : tLc wi g tt te (own.map (·.2)) σ H Q)
    (fin0 : ∀ D C z' m H', Inv X pins σ H' z' → Q (.ref D) H' → z'.heap.Ns C m → FpOk X pins H' C → compPost (model X.prog X.w) X.A X.xe use Qf (.ref D) C (.ok .next) z') :
    wpAny (model X.prog X.w) X.A (comprehension (.ListComp elt [⟨tg, iter, ifs, 0⟩] scope pos) scope X.env pos' (newList []) false (eval iter X.env) use) Qf X.xe z := by
  have cells : ∀ y ∈ scope.names, y.2 = .free → ∃ c, X.env.cells.lookup y.1 = some c := fun y hy e => (ok.free y hy e).elim (fun k => I.ok.has _ (.inl k)) fun k => I.ok.has _ (.inr k)
  refine comp_freeX (use := use) rfl fd (closure_ok cells) ok.kind (fun y hy e => by rw [ok.uniq y hy, e]) (thn (hi.run pins z σ H _ I h) fun xv z1 hx => thn hx fun itv z2 h2 => ?_)
  obtain ⟨it, fp, tn, J, H2, e, I2, T, st2, f2, q⟩ := h2
  subst e
  refine wpAny_newObj_type (newEnv_comp ?_) (by show 0 ≤ sizeLine; decide)
  generalize eD : z2.heap.objs.size = D
  have nD : H2 D = none := I2.hok.fresh (Nat.le_of_eq eD)
  obtain ⟨Wi, ⟨m0, w0⟩, turn⟩ := q D nD
  generalize ez3 : ({ z2 with heap := z2.heap.push { cls := .type "list", data := .seq ([] : List Value).toArray } } : Shared) = z3
  have I3 : Inv X pins σ (upd H2 D (.lst [])) z3 := by
    rw [← ez3]
    refine I2.laid (t' := z2.toks) (fun b o e => Heap.get?_push_of_some _ e) (Nat.le_of_eq eD) ⟨Nat.zero_le _, [], 0, .nil, ?_⟩
    rw [← eD]
    exact Heap.get?_push_size _ rfl
  have hz3 : z3.heap = z2.heap.push { cls := .type "list", data := .seq ([] : List Value).toArray } := by rw [← ez3]
  have lt2 : ∀ b ∈ fp, b < z2.heap.objs.size := fun b hb => by
    obtain ⟨o, e, _⟩ := T.obj _ _ st2 b hb
    exact Heap.lt_size e
  have f3 : ∀ b ∈ fp, FpOk X pins (upd H2 D (.lst [])) b ∧ b < z3.heap.objs.size := fun b hb => by
    have lt := lt2 b hb
    refine ⟨⟨?_, (f2 b hb).2⟩, by rw [hz3, Heap.size_push]; exact Nat.lt_succ_of_lt lt⟩
    rw [upd_ne (by rw [← eD]; exact Nat.ne_of_lt lt)]
    exact (f2 b hb).1
  have st3 : tn 0 z3.heap := T.keep _ _ _ st2 fun b _ o e => by rw [hz3]; exact Heap.get?_push_of_some _ e
  have I4 := block_start I3 ok nd f3
  have pz := pas_blk (scope := scope) (cl := cellsFrom (z3.heap.objs.size + 1) scope.names (cloFrom X.env.cells scope.names [])) (use := use) (Q := Qf) (acc := .ref D) tk st fr I3 (Nat.le_refl _) (fun b hb => (f3 b hb).1)
  have pg := hg _ _ _ _ _ _ pz
  have pt := ht _ _ _ _ _ _ pz
  have pe := he _ _ _ _ _ _ pz
  clear pz
  show codeAny _ _ (.compStart (.ListComp elt [⟨tg, iter, ifs, 0⟩] scope pos) 0 (.ref it) (.ref D) (compEnvC scope (cellsFrom (z3.heap.objs.size + 1) scope.names (cloFrom X.env.cells scope.names [])) z3.heap.objs.size X.env)) (postX (model X.prog X.w) X.A X.xe use Qf X.env.frame (.ref D) z3.heap.objs.size) { z3 with heap := pushCells (z3.heap.push { cls := .type "dict", data := .dict #[] }) scope.names }
  have nfp : ∀ b ∈ fp, (upd H2 D (.lst [])) b = none := fun b hb => (f3 b hb).1.1
  generalize hce : compEnvC scope (cellsFrom (z3.heap.objs.size + 1) scope.names (cloFrom X.env.cells scope.names [])) z3.heap.objs.size X.env = ce at I4 pg pt pe ⊢
  have cL : ce.locals = z3.heap.objs.size := by subst hce; rfl
  generalize hH3 : upd H2 D (.lst []) = H3 at I3 I4 pg pt pe w0 nfp f3
  generalize hz4 : ({ z3 with heap := pushCells (z3.heap.push { cls := .type "dict", data := .dict #[] }) scope.names } : Shared) = z4 at I4 ⊢
  generalize hxb : (notedBy (model X.prog X.w) X.A ce fun e z => postX (model X.prog X.w) X.A X.xe use Qf X.env.frame (.ref D) z3.heap.objs.size (.error e) z) = XB at pg pt pe
  have J4 : Inv (blkX X z3 H3 scope ce fp XB) [] (wipe σ (own.map (·.2))) H3 z4 := inv_xe I4
  have st4 : tn 0 z4.heap := T.keep _ _ _ st3 fun b _ o e => by rw [← hz4]; exact pushCells_keeps _ _ _ _ (Heap.get?_push_of_some _ e)
  have stat : ∀ {τ : St} {G : Hp} {y : Shared}, Inv (blkX X z3 H3 scope ce fp XB) [] τ G y → (∀ b ∈ fp, G b = none) → ∀ b ∈ fp, FpOk (blkX X z3 H3 scope ce fp XB) [] G b := fun {τ G y} I' hn b hb =>
    ⟨hn b hb, (I'.ok.exf b hb).1, I'.ok.exfs b hb, .inl hb, fun x c e => (I'.ok.exf b hb).2 x c e, fun p hp => absurd (show p ∈ ([] : List (Addr × Obj)) ++ [] from hp) (by simp)⟩
  have loop : codeAny (model X.prog X.w) X.A (.compLoop (.ListComp elt [⟨tg, iter, ifs, 0⟩] scope pos) 0 (.ref it) (.ref D) ce) (postX (model X.prog X.w) X.A X.xe use Qf X.env.frame (.ref D) z3.heap.objs.size) z4 := by
    refine compLoop_any (fun n y => ∃ i G, Inv (blkX X z3 H3 scope ce fp XB) [] (wipe σ (own.map (·.2))) G y ∧ tn i y.heap ∧ (∀ b ∈ fp, G b = none) ∧ Wi i n G) ?_ m0 ⟨0, H3, J4, st4, nfp, w0⟩
    rw [hxb]
    rintro n z5 ⟨i, H5, I5, st5, n5, w5⟩
    rcases turn i n H5 w5 with ⟨stop, qq⟩ | ⟨go, Nx, hNx, step⟩
    · have td := T.done (blkX X z3 H3 scope ce fp XB) rfl rfl rfl calm i [] z5 _ H5 (fun _ _ => False) I5 (stat I5 n5) st5 stop
      refine thnF td fun r z6 ⟨hr, I6⟩ => ?_
      subst hr
      have I7 : Inv X pins σ H5 z6 := I3.call' (ch := fp) I6.os I6.base I6.hok I6.bare fun b hb => ⟨(f3 b hb).1.2.2.2.1, (f3 b hb).1.2.1, (f3 b hb).1.2.2.2.2.1, (f3 b hb).1.2.2.2.2.2⟩
      have nC : H5 z3.heap.objs.size = none := by
        have k : H5 ce.locals = none := I6.free
        rw [cL] at k
        exact k
      obtain ⟨m, ns, _⟩ := I6.loc
      have ns : z6.heap.Ns ce.locals m := ns
      rw [cL] at ns
      exact fin0 D z3.heap.objs.size z6 m H5 I7 qq ns (I3.fpOk (Nat.le_refl _) nC)
    · have ti := T.item (blkX X z3 H3 scope ce fp XB) rfl rfl rfl calm i [] z5 _ H5 (fun _ _ => False) I5 (stat I5 n5) st5 go
      refine thnF ti fun r z6 ⟨u, hr, h6⟩ => ?_
      subst hr
      refine thnF h6 fun _ z7 ⟨x, H7, I7, r7, y7, st7, n7⟩ => ?_
      have I7' := I7.pinned (stat I7 n7) (T.obj _ _ st7)
      refine thn (pg.run _ z7 _ H7 x u _ I7' r7 (step x H7 y7)) fun _ z8 ⟨σ8, H8, I8, hw8, q8⟩ => ?_
      refine thn (pt.run _ z8 σ8 H8 _ I8 q8) fun b z9 ⟨H9, I9, q9⟩ => ?_
      have fin : ∀ {y : Shared} {G : Hp}, Inv (blkX X z3 H3 scope ce fp XB) ([] ++ pinsAt fp z7.heap) σ8 G y → Nx G → ∃ m, m < n ∧ ∃ i G, Inv (blkX X z3 H3 scope ce fp XB) [] (wipe σ (own.map (·.2))) G y ∧ tn i y.heap ∧ (∀ b ∈ fp, G b = none) ∧ Wi i m G := fun {y G} I' nx => by
        obtain ⟨m', hm, w'⟩ := hNx G nx
        have pin' : ∀ b ∈ fp, ∀ o, z7.heap.get? b = some o → y.heap.get? b = some o ∧ G b = none := fun b hb o e =>
          let k := I'.pin (b, o) (List.mem_append_right _ (List.mem_append_right _ (mem_pinsAt hb e)))
          ⟨k.1, k.2.1⟩
        have len : (wipe σ (own.map (·.2))).length = σ8.length := by rw [← hw8, wipe_length]
        refine ⟨m', hm, i + 1, G, (I'.unpinned (pins := [])).weak len (fun j v e => ?_), T.keep _ _ _ st7 fun b hb o e => (pin' b hb o e).1, fun b hb => ?_, w'⟩
        · rw [← hw8] at e
          exact (wipe_some e).1
        · obtain ⟨o, e, _⟩ := T.obj _ _ st7 b hb
          exact (pin' b hb o e).2
      cases b with
      | false =>
        simp only [Bool.false_eq_true, if_false] at q9 ⊢
        exact fin I9 q9
      | true =>
        simp only [if_true] at q9 ⊢
        refine thn (pe.run _ z9 σ8 H9 _ I9 q9) fun v z10 ⟨yv, H10, I10, r10, acc, hD10, hz10, nx⟩ => ?_
        exact app_ok (X := blkX X z3 H3 scope ce fp XB) I10 hD10 hz10 r10 fun z11 I11 => fin I11 nx
  exact codeAny_compStart_list loop (T.self X.A 0 _ _ _ st4 loop)
theorem pe_lcX {W : WX} {elt tg iter : Expr} {ifs : List Expr} {scope : Scope} {own : List (Str × Nat)} {pos : Pos} {wi : TI} {g : WX → TG} {tt : WX → TT} {te : WX → TE} (calm : X.calm = true) (nd : X.N.Nodup) (hi : PI X tg iter wi) (ok : BlkOk X.N X.env.scope scope own) (tk : Takes X W) (st : X.stack = X.env :: X.outer) (fr : X.env.frame = some X.env.locals)
    (hg : ∀ (V : WX) (z : Shared) (H : Hp) (C : Addr) (cl : List (Str × Addr)) (fp : List Addr) (xe : Value → Shared → Prop), Pas (blkX X z H scope (compEnvC scope cl C X.env) fp xe) V → PG (blkX X z H scope (compEnvC scope cl C X.env) fp xe) tg (g V))
    (ht : ∀ (V : WX) (z : Shared) (H : Hp) (C : Addr) (cl : List (Str × Addr)) (fp : List Addr) (xe : Value → Shared → Prop), Pas (blkX X z H scope (compEnvC scope cl C X.env) fp xe) V → PTs (blkX X z H scope (compEnvC scope cl C X.env) fp xe) ifs (tt V))
    (he : ∀ (V : WX) (z : Shared) (H : Hp) (C : Addr) (cl : List (Str × Addr)) (fp : List Addr) (xe : Value → Shared → Prop), Pas (blkX X z H scope (compEnvC scope cl C X.env) fp xe) V → PE (blkX X z H scope (compEnvC scope cl C X.env) fp xe) elt (te V)) (fd : ∀ x, foldedSetIterable iter X.env x = pure x := by intro _; rfl) :
    PE X (.ListComp elt [⟨tg, iter, ifs, 0⟩] scope pos) (fun σ H Q => tLc wi (g fun c d _ H' => W c d σ H') (tt fun c d _ H' => W c d σ H') (te fun c d _ H' => W c d σ H') (own.map (·.2)) σ H Q) := by
  refine ⟨fun pins z σ H Q I h => ?_⟩
  rw [eval_ListComp]
  refine lcX_core calm nd I hi ok tk st fr (hg _) (ht _) (he _) fd h fun D C z' m H' I' q ns f => ⟨m, ns, fun hp sb => ?_⟩
  obtain ⟨f0, f1, f2, f3, f4, f5⟩ := f
  exact ⟨.ref D, H', I'.turned (t' := z'.toks) (fun b o hb e => (sb.2 b hb).trans e) f0 f1 f3 f4 f5, rfl, q⟩
end
section
variable {ι : Type} {Xs : ι → Cx} {mg : Gm} {Wx : WX} {pos : Pos}
abbrev blkI (Xs : ι → Cx) (scope : Scope) (V : WX) : Type := { j : ι × Shared × Hp × Addr × List (Str × Addr) × List Addr × (Value → Shared → Prop) // Pas (blkX (Xs j.1) j.2.1 j.2.2.1 scope (compEnvC scope j.2.2.2.2.1 j.2.2.2.1 (Xs j.1).env) j.2.2.2.2.2.1 j.2.2.2.2.2.2) V }
abbrev blkXF (Xs : ι → Cx) (scope : Scope) (V : WX) : blkI Xs scope V → Cx := fun j => blkX (Xs j.1.1) j.1.2.1 j.1.2.2.1 scope (compEnvC scope j.1.2.2.2.2.1 j.1.2.2.2.1 (Xs j.1.1).env) j.1.2.2.2.2.2.1 j.1.2.2.2.2.2.2
abbrev dLcX (w : DTI) (T : Tg) (ft : DTT) (fe : DTE) (vs : List Nat) : DTE := fun ρ Q E => w ρ (fun ds => ds.length ≤ sizeLine ∧ lcD (fun d k => ∃ ρ2, T.put d (wipeD ρ vs) = some ρ2 ∧ ft ρ2 (fun b => bit b (fe ρ2 (fun r => k (some r)) E) (k none)) E) ds fun rs => Q (.lst rs)) E
theorem Cp.lcX {wi : TI} {g : WX → TG} {tt : WX → TT} {te : WX → TE} {w : DTI} {T : Tg} {ft : DTT} {fe : DTE} {vs : List Nat} (hi : CpI mg Wx wi w) (hg : ∀ V, CpG mg (g V) T) (hv : ∀ i ∈ T.slots, i ∈ vs) (ht : ∀ V, CpT mg V (tt V) ft) (he : ∀ V, Cp mg V (te V) fe) :
    Cp mg Wx (fun σ H Q => tLc wi (g fun c d _ H' => Wx c d σ H') (tt fun c d _ H' => Wx c d σ H') (te fun c d _ H' => Wx c d σ H') vs σ H Q) (dLcX w T ft fe vs) := by
  intro B ρ Q E hf W σ H Q' hh e x q
  refine hi B ρ _ E hf W σ H _ hh e x fun W1 H1 J ds s1 wk k1 => ?_
  obtain ⟨hsz, k1⟩ := k1
  intro A hA
  have e1 := e.step s1
  have xE : ∀ {W2 : Wd} {H2 : Hp} (τ : St), Step W1 H1 W2 H2 → ExR mg (fun c d _ H' => Wx c d σ H') W2 H2 τ E := fun {W2 H2} τ s2 W' H' cls dd y s' r h => x W' H' cls dd y ((s1.trans s2).trans s') r h
  refine ⟨fun i m H' => m = ds.length - i ∧ i ≤ ds.length ∧ ∃ W' us acc, Step W1 H1 W' H' ∧ H' A = some (.lst us) ∧ W'.H A = none ∧ ¬ W'.T A ∧ Reps mg W' us acc ∧ acc.length ≤ i ∧ lcD _ (ds.drop i) (fun rs => Q (.lst (acc ++ rs))),
    ⟨ds.length, by simp, Nat.zero_le _, W1, [], [], Step.lay s1.holds hA, upd_same, s1.holds.same.free hA, s1.holds.nT hA, .nil, Nat.le_refl _, k1⟩, ?_⟩
  rintro i m H' ⟨rfl, hi, W', us, acc, s', hL, nw, nt, rs, la, k'⟩
  obtain ⟨go, stop, yld⟩ := wk W' H' s'.le s'.holds
  by_cases hlt : i < ds.length
  · refine .inr ⟨go i hlt, fun H2 => ∃ W2 us2 acc2, Step W1 H1 W2 H2 ∧ H2 A = some (.lst us2) ∧ W2.H A = none ∧ ¬ W2.T A ∧ Reps mg W2 us2 acc2 ∧ acc2.length ≤ i + 1 ∧ lcD _ (ds.drop (i + 1)) (fun rs => Q (.lst (acc2 ++ rs))), fun H2 q => ⟨ds.length - (i + 1), by omega, rfl, hlt, q⟩, fun y H2 hy => ?_⟩
    obtain ⟨W2, d, s2, hd, r⟩ := yld i y H2 hlt hy
    have ed : ds.drop i = d :: ds.drop (i + 1) := by
      rw [List.drop_eq_getElem_cons hlt]
      have := (List.getElem?_eq_some_iff.mp hd).2
      rw [this]
    rw [ed] at k'
    obtain ⟨ρ1, p1, k2⟩ := k'
    have sA : ∀ {Wa Wb : Wd} {Ha Hb : Hp} {ws : List V}, Step Wa Ha Wb Hb → Ha A = some (.lst ws) → Wa.H A = none → ¬ Wa.T A → Hb A = some (.lst ws) ∧ Wb.H A = none ∧ ¬ Wb.T A := fun st a1 a2 a3 => ⟨st.keep A _ a1 a3, by rw [st.fresh A _ a1]; exact a2, fun t => by
      rcases st.freshT A t with t | t
      · exact a3 t
      · rw [a1] at t
        cases t⟩
    refine hg _ B W2 H2 y d _ _ ρ1 _ s2.holds r ((e1.step s').step s2 |>.wipe vs) p1 fun σ3 e3 w3 => ?_
    refine ⟨(w3 vs hv).trans (wipe_wipe σ vs), ?_⟩
    refine ht _ B ρ1 _ _ k2 W2 σ3 H2 _ s2.holds e3 (xE σ3 (s'.trans s2)) fun W3 H3 b s3 k3 => ?_
    obtain ⟨b1, b2, b3⟩ := sA (s2.trans s3) hL nw nt
    cases b with
    | true =>
      rw [if_pos rfl]
      refine he _ B ρ1 _ _ k3 W3 σ3 H3 _ s3.holds (e3.step s3) (xE σ3 ((s'.trans s2).trans s3)) fun W4 H4 z dz s4 r4 k4 => ?_
      obtain ⟨c1, c2, c3⟩ := sA s4 b1 b2 b3
      have s14 := (s'.trans s2).trans (s3.trans s4)
      refine ⟨us, c1, ?_, W4, us ++ [z], acc ++ [dz], s14.own hA c1 c2 c3, upd_same, c2, c3, Reps.snoc (rs.mono ((s2.trans s3).trans s4).le) r4, ?_, ?_⟩
      · rw [rs.length]
        omega
      · rw [List.length_append, List.length_singleton]
        omega
      · simpa [List.append_assoc] using k4
    | false =>
      rw [if_neg Bool.false_ne_true]
      exact ⟨W3, us, acc, (s'.trans s2).trans s3, b1, b2, b3, rs.mono (s2.trans s3).le, by omega, k3⟩
  · have ei : i = ds.length := by omega
    subst ei
    rw [List.drop_length] at k'
    refine .inl ⟨stop, q (W'.put A (.lst us)) H' _ _ (s1.trans (s'.taken hA hL nw nt)) (Rep.newLst rs nw) ?_⟩
    have k2 : Q (.lst (acc ++ [])) := k'
    rw [List.append_nil] at k2
    exact k2
theorem de_lcX {elt tg iter : Expr} {ifs : List Expr} {scope : Scope} {own : List (Str × Nat)} {w : DTI} {T : Tg} {ft : DTT} {fe : DTE} (hN : ∀ j, (Xs j).N.Nodup) (tk : ∀ i, Takes (Xs i) Wx) (hi : DI Xs mg Wx tg iter w) (ok : ∀ j, BlkOk (Xs j).N (Xs j).env.scope scope own) (hg : ∀ V, DG (blkXF Xs scope V) mg tg T) (ht : ∀ V, DTs (blkXF Xs scope V) mg V ifs ft) (he : ∀ V, DE (blkXF Xs scope V) mg V elt fe)
    (hv : ∀ i ∈ T.slots, i ∈ own.map (·.2) := by decide) (hc : ∀ j, (Xs j).calm = true := by intro _; rfl) (hs : ∀ j x, foldedSetIterable iter (Xs j).env x = pure x := by intro _ _; rfl) (hst : ∀ j, (Xs j).stack = (Xs j).env :: (Xs j).outer := by intro _; rfl) (hfr : ∀ j, (Xs j).env.frame = some (Xs j).env.locals := by intro _; rfl) :
    DE Xs mg Wx (.ListComp elt [⟨tg, iter, ifs, 0⟩] scope pos) (dLcX w T ft fe (own.map (·.2))) := by
  obtain ⟨wi, i1, i2⟩ := hi
  exact ⟨_, fun j => pe_lcX (W := Wx) (g := fun V => (hg V).choose) (tt := fun V => (ht V).choose) (te := fun V => (he V).choose) (hc j) (hN j) (i1 j) (ok j) (tk j) (hst j) (hfr j) (fun V z H C cl fp xe p => (hg V).choose_spec.1 ⟨(j, z, H, C, cl, fp, xe), p⟩) (fun V z H C cl fp xe p => (ht V).choose_spec.1 ⟨(j, z, H, C, cl, fp, xe), p⟩) (fun V z H C cl fp xe p => (he V).choose_spec.1 ⟨(j, z, H, C, cl, fp, xe), p⟩) (hs j),
    Cp.lcX i2 (fun V => (hg V).choose_spec.2) hv (fun V => (ht V).choose_spec.2) (fun V => (he V).choose_spec.2)⟩
end
end FP

/-! FP37: a lambda without parameters is made: the heap behind it, told exactly. -/
namespace FP
open PySem L2 LamX
variable [Tabl]
/-- the heap behind the making: the same, or with one entry more in the table and a new code object -/
def Made (H : Hp) (P : Addr) (q : Str) (H1 : Hp) : Prop := H1 = H ∨ ∃ ps more c, H P = some (.tbl ps) ∧ H c = none ∧ H1 = upd (upd H P (.tbl (ps ++ more))) c (CodeO c q)
theorem among_new {pos : Pos} {c : Value} (l : List Value) (h : TriplesOk l) (n : codeAmong pos l = none) : codeAmong pos (l ++ [rawInt pos.line, rawInt pos.col, c]) = some c := by
  fun_induction TriplesOk l with
  | case1 => simp [rawInt, codeAmong]
  | case2 a t b u x rest ih =>
    simp only [List.cons_append, codeAmong] at n ⊢
    split at n
    · cases n
    · rename_i q
      rw [if_neg q]
      exact ih h n
  | case3 l h1 h2 => exact h.elim
theorem among_more {pos : Pos} {cv : Value} (l m : List Value) (h : TriplesOk l) (n : codeAmong pos l = some cv) : codeAmong pos (l ++ m) = some cv := by
  fun_induction TriplesOk l with
  | case1 => simp [codeAmong] at n
  | case2 a t b u x rest ih =>
    simp only [List.cons_append, codeAmong] at n ⊢
    split at n
    · rename_i q
      rw [if_pos q]
      exact n
    · rename_i q
      rw [if_neg q]
      exact ih h n
  | case3 l h1 h2 => exact h.elim
section
variable {X : Cx} {pins : List (Addr × Obj)} {σ : L2.St} {H : Hp} {z : Shared}
theorem lam_mk {T : List (Addr × Str)} {c P : Addr} {params : Arguments} {body : Expr} {scope : Scope} {pos : Pos} {E : Value → Shared → Prop} {Q : Value → Shared → Prop} (I : Inv X pins σ H z) (TB : TabB X.base X.mg c P) (hcode : X.env.code = .ref c)
    (mem : (P, X.env.qual ++ "<lambda>") ∈ T) (uniq : ∀ p ∈ T, p.1 = P → p.2 = X.env.qual ++ "<lambda>") (hT : Tabs T H) (hdef : defaultsOf params X.env = ([], [])) (hfree : ∀ y ∈ scope.names, y.2 = .free → ∃ c, X.env.cells.lookup y.1 = some c)
    (h : ∀ (f c' : Addr) (pm ctv : Value) (H1 : Hp) (z' : Shared), Inv X pins σ H1 z' → Made H P (X.env.qual ++ "<lambda>") H1 → Tabs T H1 →
      z'.heap.get? f = some (PySem.W.kla_obj "<lambda>" (X.env.qual ++ "<lambda>") params body scope (cloFrom X.env.cells scope.names []) pm c' ctv) → H1 f = none → f ∉ frs X.stack → (∃ qs, H1 P = some (.tbl qs) ∧ TriplesOk qs.toList ∧ codeAmong pos qs.toList = some (.ref c')) → Q (.ref f) z') :
    wpAny (model X.prog X.w) X.A (eval (.Lambda params body scope pos) X.env) Q E z := by
  obtain ⟨ps, hP, trip, among⟩ := hT _ mem
  refine PySem.W.kla_eval hdef ?_
  have bP : z.heap.BuiltinsAt X.mg P := TB.bm.keeps I.bk
  have oP : z.heap.get? P = some { cls := .none, data := .fields ps } := I.hok P _ hP
  have noFr : ∀ f, z.heap.objs.size ≤ f → f ∉ frs X.stack := fun f hf k => by
    rcases List.mem_cons.mp (I.stkSub _ k) with e | e
    · have lt := I.lt
      rw [← e] at lt
      exact Nat.lt_irrefl _ (Nat.lt_of_lt_of_le lt hf)
    · exact I.nofs hf e
  cases hc : codeAmong pos ps.toList with
  | some cv =>
    obtain ⟨c', e, known⟩ := among pos cv hc
    subst e
    refine PySem.W.kla_makeFunctionHit (mg := X.mg) (c := c) (P := P) (ps := ps) (closure_ok hfree) I.ok.glob (I.mod.glob.keeps I.bk) hcode (TB.code.keeps I.bk) oP trip hc bP fun ctv h' tk hx le => ?_
    have J : Inv X pins σ H { z with heap := h'.push (PySem.W.kla_obj "<lambda>" (X.env.qual ++ "<lambda>") params body scope (cloFrom X.env.cells scope.names []) ((X.mg "__name__").getD .none) c' ctv), toks := tk } := I.kept fun b o e => Heap.get?_push_of_some _ (hx b o e)
    exact h h'.objs.size c' ((X.mg "__name__").getD .none) ctv H _ J (.inl rfl) hT (Heap.get?_push_size _ rfl) (I.hok.fresh le) (noFr _ le) ⟨ps, hP, trip, hc⟩
  | none =>
    refine PySem.W.kla_makeFunction (mg := X.mg) (c := c) (P := P) (ps := ps) (closure_ok hfree) I.ok.glob (I.mod.glob.keeps I.bk) hcode (TB.code.keeps I.bk) oP trip hc TB.gP bP fun c' ctv h' tk hx ge lt rec1 tb1 => ?_
    obtain ⟨c2, oc, vs, t, e2, k1, k2, k3⟩ := rec1
    cases e2
    have le : z.heap.objs.size ≤ h'.objs.size := Nat.le_trans ge (Nat.le_of_lt lt)
    have nC : H c' = none := I.hok.fresh ge
    have J := inv_table (t' := tk) (more := #[rawInt pos.line, rawInt pos.col, .ref c']) (h' := h'.push (PySem.W.kla_obj "<lambda>" (X.env.qual ++ "<lambda>") params body scope (cloFrom X.env.cells scope.names []) ((X.mg "__name__").getD .none) c' ctv)) I hP
      (fun b o hb e => Heap.get?_push_of_some _ (hx b o hb e)) (Heap.get?_push_of_some _ tb1) ge ⟨oc, vs, t, Heap.get?_push_of_some _ k1, k2, k3⟩
    have ext : ExtN H (upd (upd H P (.tbl (ps ++ #[rawInt pos.line, rawInt pos.col, .ref c']))) c' (CodeO c' (X.env.qual ++ "<lambda>"))) := fun b o e n => by
      rw [upd_ne (ne_of_none e nC), upd_ne (fun k => n ps (Option.some.inj (e.symm.trans (by rw [k]; exact hP))))]
      exact e
    have eL : (ps ++ #[rawInt pos.line, rawInt pos.col, .ref c']).toList = ps.toList ++ [rawInt pos.line, rawInt pos.col, .ref c'] := by simp
    refine h h'.objs.size c' ((X.mg "__name__").getD .none) ctv _ _ J (.inr ⟨ps, _, c', hP, nC, rfl⟩) (fun p hp => ?_) (Heap.get?_push_size _ rfl) ?_ (noFr _ le) ⟨_, by rw [upd_ne (ne_of_none hP nC), upd_same], by rw [eL]; exact PySem.TriplesOk_snoc _ _ _ _ trip, by rw [eL]; exact among_new _ trip hc⟩
    · by_cases hb : p.1 = P
      · rw [uniq p hp hb, hb]
        refine ⟨_, by rw [upd_ne (ne_of_none hP nC), upd_same], by rw [eL]; exact PySem.TriplesOk_snoc _ _ _ _ trip, fun p' cv hcv => ?_⟩
        rw [eL] at hcv
        rcases among_app _ trip hcv with k | k
        · obtain ⟨c0, y1, y2⟩ := among p' cv k
          exact ⟨c0, y1, ext _ _ y2 codeO_ne⟩
        · exact ⟨c', k, upd_same⟩
      · obtain ⟨ps', y1, y2, y3⟩ := hT p hp
        refine ⟨ps', by rw [upd_ne (ne_of_none y1 nC), upd_ne hb]; exact y1, y2, fun p' cv hcv => ?_⟩
        obtain ⟨c0, w1, w2⟩ := y3 p' cv hcv
        exact ⟨c0, w1, ext _ _ w2 codeO_ne⟩
    · rw [upd_ne (Nat.ne_of_gt lt), upd_ne (Nat.ne_of_gt (Nat.lt_of_lt_of_le (Heap.lt_size oP) le))]
      exact I.hok.fresh le
end
/-- the world is borne behind the making -/
theorem Made.step {W : Wd} {H H1 : Hp} {P : Addr} {q : Str} (hh : Holds W H) (mem : (P, q) ∈ Tabl.B) (m : Made H P q H1) (tabs : Tabs Tabl.B H1) : Step W H W H1 := by
  rcases m with rfl | ⟨ps, more, c, hP, nC, rfl⟩
  · exact Step.refl hh
  have tP : W.T P := (hh.tab _ mem).1
  have at' : ∀ b, b ≠ P → b ≠ c → upd (upd H P (.tbl (ps ++ more))) c (CodeO c q) b = H b := fun b h1 h2 => by rw [upd_ne h2, upd_ne h1]
  have atP : upd (upd H P (.tbl (ps ++ more))) c (CodeO c q) P = some (.tbl (ps ++ more)) := by rw [upd_ne (ne_of_none hP nC), upd_same]
  have nc : ∀ {b u}, H b = some u → b ≠ c := fun e => ne_of_none e nC
  have live : ∀ b o, H b = some o → ∃ o', upd (upd H P (.tbl (ps ++ more))) c (CodeO c q) b = some o' := fun b o e => by
    by_cases hb : b = P
    · rw [hb, atP]
      exact ⟨_, rfl⟩
    · rw [at' b hb (nc e)]
      exact ⟨o, e⟩
  have nP : ∀ b o, W.H b = some o → b ≠ P := fun b o e k => by
    rw [k, (hh.exm P tP).1] at e
    cases e
  refine ⟨Le.refl W, ⟨fun b o e => ?_, fun a t => ?_, fun a t => ?_, fun p hp => ⟨(hh.tab p hp).1, tabs p hp⟩, fun b qs e => ?_⟩, fun b o e nt => ?_, fun _ _ _ => rfl, fun _ t => .inl t, live⟩
  · rw [at' b (nP b o e) (nc (hh.same b o e))]
    exact hh.same b o e
  · obtain ⟨h1, o, h2⟩ := hh.exm a t
    exact ⟨h1, live a o h2⟩
  · obtain ⟨h1, x, y, z, h2⟩ := hh.tok a t
    have ne : a ≠ P := fun k => by
      rw [k, hP] at h2
      cases h2
    exact ⟨h1, x, y, z, by rw [at' a ne (nc h2)]; exact h2⟩
  · by_cases hb : b = P
    · exact ⟨q, by rw [hb]; exact mem⟩
    · by_cases hc : b = c
      · rw [hc, upd_same] at e
        exact absurd (Option.some.inj e) (codeO_ne _)
      · rw [at' b hb hc] at e
        exact hh.all b qs e
  · have ne : b ≠ P := fun k => nt (by rw [k]; exact tP)
    rw [at' b ne (nc e)]
    exact e
end FP

/-! FP38: x(lambda: e), where x calls what it got. -/
namespace FP
open PySem L2 LamX
variable [Tabl]
/-- the data of an environment alone -/
def Sl.only : Sl → Sl
  | .d x => .d x
  | _ => .no
abbrev dataE (ρ : Env) : Env := ρ.map Sl.only
theorem EnvR.data {mg : Gm} {B B' : Hp} {W W' : Wd} {H H' : Hp} {σ : St} {ρ : Env} (e : EnvR mg B W H σ ρ) (l : Le W W') : EnvR mg B' W' H' σ (dataE ρ) := by
  refine ⟨by simpa using e.len, fun i s h => ?_, fun i j xs ys o1 o2 a _ h1 _ _ _ m1 _ => ?_⟩
  · rw [List.getElem?_map] at h
    cases q : ρ[i]? with
    | none =>
      rw [q] at h
      cases h
    | some s0 =>
      rw [q] at h
      cases h
      obtain ⟨o, h1, h2⟩ := e.sl _ _ q
      refine ⟨o, h1, ?_⟩
      cases s0 with
      | d x =>
        obtain ⟨v, h3, h4⟩ := h2
        exact ⟨v, h3, h4.mono l⟩
      | _ => exact True.intro
  · rw [List.getElem?_map] at h1
    cases q : ρ[i]? with
    | none =>
      rw [q] at h1
      cases h1
    | some s0 =>
      rw [q] at h1
      cases h1
      cases s0 <;> cases m1
/-- the run of a def at the very state -/
theorem fn_run {P : Program} {w : World} {K : PySem.W.Frag} {mg : Str → Option Value} {base : Heap} {x qual : Str} {st : Stmt} {fa : Addr} {fd : FuncData} {N ps : List Str} {k : Nat} (F : Fun K x qual st fa fd) (S : FnScope N ps (defScope st)) {A : Around} {out : List PySem.Env} {z : Shared} {H : Hp} {ag : Args} {us : List Value} {vs : List V} {Q : VK} {E : XK}
    (m : RmG (k + 1) A) (e0 : Env0 P w K mg base A out z H) (bd : BindsTo z fd ag (ps.zip us)) (rv : Vals vs us) (ln : vs.length = ps.length)
    (hb : ∀ cdv : Value, fd.code = cdv → RmG k (A.deeper (PyProof.Rows.envOfC qual (defScope st) z.heap.objs.size fa cdv)) → ∃ t, PSs (cxOf (L2.CX P w) P w K mg base N qual (defScope st) fa cdv A out z H E) (defBody st) t ∧ t { nx := fun _ H' => Q .non H', rt := Q } (L2.start N vs) H) :
    codeAny (model P w) A (.call (.ref fa) ag) (CR (L2.CX P w) out P w H z Q E) z := by
  obtain ⟨oc, od, kV, doc, pm, an, cdv, ct, osl, rfl, lk, hcd⟩ := F.ex
  have inK : K.In z.heap := e0.mod.kin.keeps fun c u q => (e0.bs c u q).1
  have noL : z.heap.NoLimit := e0.mod.nolimit.keeps fun c u q => (e0.bs c u q).1
  have kinds : ∀ y ∈ ps.zip us, (defScope st).names.lookup y.1 = some .local ∨ ((defScope st).names.lookup y.1 = some .cell ∧ ((cellsFrom (z.heap.objs.size + 1) (defScope st).names []).lookup y.1).isSome = true) := by
    rintro ⟨n, v⟩ hy
    refine (S.par n (List.of_mem_zip hy).1).imp id ?_
    intro c
    exact ⟨c, PySem.W.cellsFrom_some _ _ _ (.inl c)⟩
  apply codeAny_call_function m.r.depth (inK _ _ lk) rfl S.co S.gen rfl (PySem.W.codeRec_of inK hcd)
  apply bd
  apply wpAny_newFunctionEnv_cells S.kind kinds
  intro env he z1 inC
  subst he
  obtain ⟨t, pt, tq⟩ := hb cdv rfl ⟨m.r.deeper _, m.g⟩
  have I0 := inv_start (CX := L2.CX P w) (E := E) S m.r.hd e0 ln rv inC
  refine ⟨noL.keeps inC.toInCall.keep, codeAny_func (wpAny_mono (pt.run [] z1 _ H _ I0 tq) ?_ fun _ _ q => q)⟩
  intro fl z' hfl
  match fl, hfl with
  | .ret u, ⟨v, _, H', J, ru, q⟩ => exact ⟨v, H', J.os, J.bare, J.base, J.hok, ru, q⟩
  | .next, ⟨_, H', J, q⟩ => exact ⟨V.non, H', J.os, J.bare, J.base, J.hok, rfl, q⟩
  | .brk, ⟨_, _, _, q⟩ => exact q.elim
  | .cont, ⟨_, _, _, q⟩ => exact q.elim
/-! ### what was got is called -/
section
variable {X : Cx} {pins : List (Addr × Obj)} {σ : L2.St} {H : Hp} {s : Shared}
theorem actG {CXg : CXT} {Eg : XK} {Ng : List Str} {qg : Str} {sg : Scope} {g f c' P : Addr} {cdg pm ctv : Value} {params : Arguments} {body : Expr} {scope : Scope} {k i : Nat} {a : Str} {pn : List (Addr × Obj)} {xe : Value → Shared → Prop} {W : WX} {tb : XK → TE} {lpos p1 p2 : Pos}
    (I : Inv X pins σ H s) (L : LamS X.env.scope scope) (hf : s.heap.get? f = some (PySem.W.kla_obj "<lambda>" (X.env.qual ++ "<lambda>") params body scope (cloFrom X.env.cells scope.names []) pm c' ctv)) (hfn : H f = none) (hfr : f ∉ frs X.stack)
    (known : ∃ qs, H P = some (.tbl qs) ∧ TriplesOk qs.toList ∧ codeAmong lpos qs.toList = some (.ref c'))
    (bound : bindArgs (PySem.W.kla_fn "<lambda>" (X.env.qual ++ "<lambda>") params body scope (cloFrom X.env.cells scope.names []) pm (.ref c') ctv) ⟨[], []⟩ = pure [])
    (tk : Pas ((cxOf CXg X.prog X.w X.K X.mg X.base Ng qg sg g cdg X.A X.stack s H Eg).tr pn xe) W) (hr : RmG (k + 1) (X.A.deeper (PyProof.Rows.envOfC qg sg s.heap.objs.size g cdg)))
    (inner : ∀ (A : Around) (outer : List PySem.Env) (s : Shared) (H : Hp) (E : XK), RmG k (A.deeper (lamEnv X scope s.heap.objs.size f c')) → PE (lamCx X A outer s H E scope f c') body (tb E))
    (hN : Ng[i]? = some a) (hv : Vis sg a) (hd : (a == ("__debug__" : Str)) = false) (hcd : (a == ("__classdict__" : Str)) = false) :
    PE ((cxOf CXg X.prog X.w X.K X.mg X.base Ng qg sg g cdg X.A X.stack s H Eg).tr pn xe) (.Call (.Name a p1) [] [] p2)
      (fun τ HZ Q => τ[i]? = some (some (.ref f)) ∧ TabS HZ P (X.env.qual ++ "<lambda>") ∧ tb (WE W τ) σ HZ Q) := by
  refine ⟨fun pinsZ zZ τ HZ Q IZ h => ?_⟩
  obtain ⟨hs, tabZ, ht⟩ := h
  refine wpAny_Call_Name_kw (thn ((pe_var (pos := p1) (i := i) hN hv hd hcd).run pinsZ zZ τ HZ (fun v H1 => v = .ref f ∧ H1 = HZ) IZ ⟨.ref f, hs, rfl, rfl⟩) fun u z1 ⟨v, H1, I1, r1, q1⟩ => ?_)
  obtain ⟨ev, eH⟩ := q1
  subst ev
  rw [eH] at I1
  obtain rfl : u = Value.ref f := r1
  have un : Un (frs X.stack) [] H HZ s.heap z1.heap := I1.base
  have of1 : z1.heap.get? f = some (PySem.W.kla_obj "<lambda>" (X.env.qual ++ "<lambda>") params body scope (cloFrom X.env.cells scope.names []) pm c' ctv) := un.keep f _ hf hfn hfr (fun k => nomatch (show f ∈ ([] : List Addr) from k))
  refine PySem.W.callWith_F0 ⟨_, _, _, _, of1⟩ ?_
  have code : HZ c' = some (CodeO c' (X.env.qual ++ "<lambda>")) := by
    obtain ⟨qs, y1, y2, y3⟩ := known
    obtain ⟨more, y4⟩ := un.tbls P qs y1
    obtain ⟨ps, y5, y6, y7⟩ := tabZ
    rw [y4] at y5
    cases y5
    obtain ⟨c2, y8, y9⟩ := y7 lpos (.ref c') (by rw [Array.toList_append]; exact among_more _ _ y2 y3)
    cases y8
    exact y9
  obtain ⟨⟨oc, vs, t, hoc, hdc, hvc⟩, _, _⟩ := I1.hok c' _ code
  have run : codeAny (model X.prog X.w) (X.A.deeper (PyProof.Rows.envOfC qg sg s.heap.objs.size g cdg)) (.call (.ref f) ⟨[], []⟩) (CR (L2.CX X.prog X.w) (PyProof.Rows.envOfC qg sg s.heap.objs.size g cdg :: X.stack) X.prog X.w HZ z1 Q (WE W τ)) z1 := by
    refine PySem.W.kla_callFunE hr.r.depth of1 rfl L.co L.gen rfl ⟨c', oc, vs, t, rfl, hoc, hdc, hvc⟩ ?_
    rw [bound]
    refine wpAny_pure (wpAny_newFunctionEnv (fun y hy => (L.own y hy).2) (fun y hy => absurd hy (by simp)) (fun h1 ns sb => ⟨I1.nolimit.fresh _ sb, ?_⟩) L.kind)
    show codeAny _ _ (.expr body (lamEnv X scope z1.heap.objs.size f c')) _ _
    have kp : ∀ b o, z1.heap.get? b = some o → h1.get? b = some o := fun b o e => sb.extBut b o (Nat.ne_of_lt (Heap.lt_size e)) (Heap.get?_push_of_some _ e)
    have J : Inv (lamCx X (X.A.deeper (PyProof.Rows.envOfC qg sg s.heap.objs.size g cdg)) (PyProof.Rows.envOfC qg sg s.heap.objs.size g cdg :: X.stack) z1 HZ (WE W τ) scope f c') [] σ HZ { z1 with heap := h1, toks := z1.toks + ([] : List (Str × Value)).length } :=
      lam_start2 I L I1.env0 hr.r.hd un ns kp
    refine PySem.W.kla_codeExpr (wpAny_mono ((inner _ _ z1 HZ (WE W τ) ⟨hr.r.deeper _, hr.g⟩).run [] _ _ HZ Q J ht) (fun v z' hq => ?_) fun e z' hq => hq)
    obtain ⟨w', H', J', rv, q⟩ := hq
    exact ⟨w', H', J'.os, J'.bare, J'.base, J'.hok, rv, q⟩
  refine wpAny_call (codeAny_mono run fun r z' hq => ?_)
  match r, hq with
  | .error e, hq => exact tk τ pinsZ HZ z1 e z' I1 hq
  | .ok (.ret u), hq => exact I1.after hq
  | .ok .next, hq => exact hq.elim
  | .ok .brk, hq => exact hq.elim
  | .ok .cont, hq => exact hq.elim
end
/-! ### a def that calls what it got -/
abbrev dAct (f : Addr) (W : Wd) (F : M D) : DTE := fun ρ Q E => ρ[0]? = some (.d (.fn f W)) ∧ F Q E
structure HelpOk (P : Program) (w : World) (mg : Gm) (base : Heap) (k : Nat) (x : Str) (sp : M D → M D) : Prop where
  ex : ∃ (fa : Addr) (fd : FuncData) (a : Str) (N : List Str) (st : Stmt), mg.mg x = some (.ref fa) ∧ PySem.W.keepIn mg.K (.ref fa) = true ∧ Binds mg.K fd [a] [] ∧ Fun mg.K x x st fa fd ∧ FnScope N [a] (defScope st) ∧ N[0]? = some a ∧ Vis (defScope st) a ∧ (a == ("__debug__" : Str)) = false ∧ (a == ("__classdict__" : Str)) = false ∧
    ∀ (cdv : Value) (A : Around) (outer : List PySem.Env) (s : Shared) (H : Hp) (E : XK) (f : Addr) (W : Wd) (F : M D) (ta : WX → TE), RmG k (A.deeper (PyProof.Rows.envOfC x (defScope st) s.heap.objs.size fa cdv)) →
      (∀ (V : WX) (pn : List (Addr × Obj)) (xe : Value → Shared → Prop) (p1 p2 : Pos), Pas ((cxOf (L2.CX P w) P w mg.K mg.mg base N x (defScope st) fa cdv A outer s H E).tr pn xe) V → PE ((cxOf (L2.CX P w) P w mg.K mg.mg base N x (defScope st) fa cdv A outer s H E).tr pn xe) (.Call (.Name a p1) [] [] p2) (ta V)) →
      (∀ V, Cp mg V (ta V) (dAct f W F)) →
      ∃ g, DSs (fun _ : Unit => cxOf (L2.CX P w) P w mg.K mg.mg base N x (defScope st) fa cdv A outer s H E) mg (fun cls d _ H' => E cls d H') (defBody st) g ∧
        ∀ Q Ex, sp F Q Ex → g ⟨fun _ => Q .non, fun d _ => Q d, fun _ => False, fun _ => False, fun x _ => Ex x⟩ (startD N.length [.fn f W])
section
variable {ι : Type} {Xs : ι → Cx} {mg : Gm} {Wx : WX} {pos : Pos}
abbrev lamI (Xs : ι → Cx) (scope : Scope) (k : Nat) : Type := { j : ι × Around × List PySem.Env × Shared × Hp × Addr × Addr // RmG k (j.2.1.deeper (lamEnv (Xs j.1) scope j.2.2.2.1.heap.objs.size j.2.2.2.2.2.1 j.2.2.2.2.2.2)) }
abbrev lamF (Xs : ι → Cx) (scope : Scope) (k : Nat) (E : XK) : lamI Xs scope k → Cx := fun j => lamCx (Xs j.1.1) j.1.2.1 j.1.2.2.1 j.1.2.2.2.1 j.1.2.2.2.2.1 E scope j.1.2.2.2.2.2.1 j.1.2.2.2.2.2.2
abbrev dLam (sp : M D → M D) (fb : DTE) : DTE := fun ρ Q E => sp (fun Q' E' => fb (dataE ρ) Q' E') Q E
/-- the facts of a def that makes lambdas: its code object, its table -/
structure TabF (mg : Gm) (base : Heap) (q : Str) (c P : Addr) : Prop where
  mem : (P, q) ∈ Tabl.B
  uniq : ∀ p ∈ Tabl.B, p.1 = P → p.2 = q
  tb : TabB base mg.mg c P
theorem de_lam {P' : Program} {w : World} {base : Heap} {k : Nat} {x q : Str} {c P : Addr} {sp : M D → M D} {params : Arguments} {body : Expr} {scope : Scope} {fb : DTE} {p lpos : Pos} (G : HelpOk P' w mg base (k + 1) x sp) (hr : ∀ i, RmG (k + 2) (Xs i).A) (tk : ∀ i, Pas (Xs i) Wx) (TF : TabF mg base (q ++ "<lambda>") c P)
    (hb : ∀ E : XK, DE (lamF Xs scope k E) mg (fun cls d _ H' => E cls d H') body fb) (hq : ∀ i, (Xs i).env.qual = q) (hc : ∀ i, (Xs i).env.code = .ref c) (L : ∀ i, LamS (Xs i).env.scope scope)
    (hdef : ∀ i, defaultsOf params (Xs i).env = ([], []) := by intro _; rfl)
    (bound : ∀ (q : Str) (cl : List (Str × Addr)) (pm cv ctv : Value), bindArgs (PySem.W.kla_fn "<lambda>" q params body scope cl pm cv ctv) ⟨[], []⟩ = pure [] := by intro _ _ _ _ _; rfl)
    (hP : ∀ j, (Xs j).prog = P' ∧ (Xs j).w = w ∧ (Xs j).K = mg.K ∧ (Xs j).mg = mg.mg ∧ (Xs j).base = base := by intro _; exact ⟨rfl, rfl, rfl, rfl, rfl⟩) (hg : ∀ j, Gl (Xs j) x := by intro _; rfl) (hd : (x == ("__debug__" : Str)) = false := by decide) :
    DE Xs mg Wx (.Call (.Name x p) [.Lambda params body scope lpos] [] pos) (dLam sp fb) := by
  obtain ⟨fa, fd, a, N, st, hm, hk, hbi, Fn, S, hN, hv, hd1, hd2, help⟩ := G.ex
  have hbt : ∃ tb : XK → TE, (∀ E i, PE (lamF Xs scope k E i) body (tb E)) ∧ ∀ E : XK, Cp mg (fun cls d _ H' => E cls d H') (tb E) fb := ⟨fun E => (hb E).choose, fun E => (hb E).choose_spec.1, fun E => (hb E).choose_spec.2⟩
  obtain ⟨tb, b1, b2⟩ := hbt
  refine ⟨fun σ H Q => ∃ (B : Hp) (W : Wd) (ρ : Env) (Qd : D → Prop) (Ed : XD → Prop), Holds W H ∧ EnvR mg B W H σ ρ ∧ ExR mg Wx W H σ Ed ∧ ToV mg W H Qd Q ∧ dLam sp fb ρ Qd Ed, fun i => ⟨fun pins z σ H Q I h => ?_⟩, fun B ρ Q E hf W σ H Q' hh e x q => ⟨B, W, ρ, Q, E, hh, e, x, q, hf⟩⟩
  obtain ⟨B, W, ρ, Qd, Ed, hh, e, xr, tv, hf⟩ := h
  obtain ⟨p1, p2, p3, p4, p5⟩ := hP i
  subst p1 p2 p5
  refine wpAny_Call_Name_kw (ld_glob I (hg i) (by rw [p4]; exact hm) ?_ hd)
  refine PySem.W.callWith_K (h₀ := (Xs i).base) I.ok.mod.kin (by rw [p3]; exact hk) ?_ (by rfl) (by rfl)
  show wpAny _ _ (spliced ((false, eval (.Lambda params body scope lpos) (Xs i).env) :: backTo pos (starEach [] (Xs i).env))) _ _ z
  have eq := hq i
  refine Calls.spliced_cons (lam_mk (T := Tabl.B) I (by rw [p4]; exact TF.tb) (hc i) (by rw [eq]; exact TF.mem) (fun p hp e => by rw [eq]; exact TF.uniq p hp e) (fun p hp => (hh.tab p hp).2) (hdef i) ((L i).has I.ok) fun f c' pm ctv H1 z' I1 made tabs of nf nfr known => ?_)
  refine Calls.spliced_nil ⟨I1.kIn, ?_⟩
  have st1 : Step W H W H1 := made.step hh (by rw [eq]; exact TF.mem) tabs
  have e1 := e.step st1
  have xr1 := xr.step st1
  have tv1 := tv.step st1
  have run : codeAny (model (Xs i).prog (Xs i).w) (Xs i).A (.call (.ref fa) ⟨[.ref f], []⟩) (CR (L2.CX (Xs i).prog (Xs i).w) (Xs i).stack (Xs i).prog (Xs i).w H1 z' Q (WE Wx σ)) z' := by
    have e0 := I1.env0
    rw [p3, p4] at e0
    have kin := I1.kIn
    rw [p3] at kin
    refine fn_run (N := N) (ps := [a]) (us := [.ref f]) (vs := [.ref f]) Fn S (hr i) e0 (by have y := hbi z' [.ref f] kin rfl; rw [List.append_nil] at y; exact y) (.cons rfl .nil) rfl fun cdv _ m => ?_
    have key := help cdv (Xs i).A (Xs i).stack z' H1 (WE Wx σ) f W (fun Q' E' => fb (dataE ρ) Q' E') (fun V τ HZ Q => τ[0]? = some (some (.ref f)) ∧ TabS HZ P ((Xs i).env.qual ++ "<lambda>") ∧ tb (WE V τ) σ HZ Q) m
    have k1 := key ?A ?B
    case A =>
      intro V pn xe q1 q2 pv
      have act := actG (X := Xs i) (CXg := L2.CX (Xs i).prog (Xs i).w) (Eg := WE Wx σ) (Ng := N) (qg := x) (sg := defScope st) (g := fa) (cdg := cdv) (pn := pn) (xe := xe) (W := V) (i := 0) (p1 := q1) (p2 := q2) (tb := tb) (k := k) I1 (L i) of nf nfr known (bound _ _ _ _ _) (by rw [p3, p4]; exact pv) m (fun A outer s H E m2 => b1 E ⟨(i, A, outer, s, H, f, c'), m2⟩) hN hv hd1 hd2
      rw [p3, p4] at act
      exact act
    case B =>
      intro V B' ρZ Q' E' hz W' τ HZ QZ hhZ eZ xZ qZ
      obtain ⟨z0, hz⟩ := hz
      obtain ⟨v, y1, y2⟩ := eZ.get z0
      cases y2 with
      | fn le =>
        refine ⟨y1, by rw [eq]; exact (hhZ.tab _ TF.mem).2, ?_⟩
        exact b2 (WE V τ) HZ (dataE ρ) Q' E' hz W' σ HZ QZ hhZ (e1.data le) (fun W2 H2 cls dd y s r h => xZ W2 H2 cls dd y s r h) qZ
    obtain ⟨g, ⟨t, t1, t2⟩, spec⟩ := k1
    refine ⟨t, t1 (), ?_⟩
    refine t2 W H1 _ _ (spec Qd Ed hf) W _ H1 _ (Step.refl st1.holds) (EnvR.start (.cons (.fn (Le.refl W)) .nil)) ⟨fun W' H' σ' ρ' s' e' k => tv1 W' H' _ _ s' .non k, fun W' H' _ _ v d s' _ r k => tv1 W' H' v d s' r k, fun _ _ _ _ _ _ k => k, fun _ _ _ _ _ _ k => k, fun W' H' σ' ρ' cls dd y s' e' r' k => xr1 W' H' cls dd y s' r' k⟩
  refine wpAny_call (codeAny_mono run fun r z2 hq2 => ?_)
  match r, hq2 with
  | .error e, hq2 => exact tk i σ pins H1 z' e z2 I1 hq2
  | .ok (.ret u), hq2 => exact I1.after hq2
  | .ok .next, hq2 => exact hq2.elim
  | .ok .brk, hq2 => exact hq2.elim
  | .ok .cont, hq2 => exact hq2.elim
/-- a call of what was got, in the body of a try -/
theorem de_act {a : Str} {p1 p2 : Pos} {t : TE} {f : DTE} (h : ∀ i, PE (Xs i) (.Call (.Name a p1) [] [] p2) t) (c : Cp mg Wx t f) : DE Xs mg Wx (.Call (.Name a p1) [] [] p2) f := ⟨t, h, c⟩
end
/-- a def that calls what it got, of the text -/
theorem mkHelp {mg : Gm} {P : Program} {w : World} {base : Heap} {x a : Str} {st : Stmt} {N : List Str} {k : Nat} {sp : M D → M D} (d : ∃ fa fd, mg.mg x = some (.ref fa) ∧ Fun mg.K x x st fa fd) (S : FnScope N [a] (defScope st)) (hN : N[0]? = some a) (hv : Vis (defScope st) a)
    (hb : ∀ (kV doc pm : Value) (an : Option Addr) (cdv ct : Value) (us : List Value), us.length = 1 → bindArgs (PySem.W.fnOf x x (defArgs st) (defBody st) (defScope st) .none kV doc pm an cdv ct) ⟨us, []⟩ = pure ([a].zip us))
    (h : ∀ (fa : Addr) (cdv : Value) (A : Around) (outer : List PySem.Env) (s : Shared) (H : Hp) (E : XK) (f : Addr) (W : Wd) (F : M D) (ta : WX → TE), RmG k (A.deeper (PyProof.Rows.envOfC x (defScope st) s.heap.objs.size fa cdv)) →
      (∀ (V : WX) (pn : List (Addr × Obj)) (xe : Value → Shared → Prop) (p1 p2 : Pos), Pas ((cxOf (L2.CX P w) P w mg.K mg.mg base N x (defScope st) fa cdv A outer s H E).tr pn xe) V → PE ((cxOf (L2.CX P w) P w mg.K mg.mg base N x (defScope st) fa cdv A outer s H E).tr pn xe) (.Call (.Name a p1) [] [] p2) (ta V)) →
      (∀ V, Cp mg V (ta V) (dAct f W F)) →
      ∃ g, DSs (fun _ : Unit => cxOf (L2.CX P w) P w mg.K mg.mg base N x (defScope st) fa cdv A outer s H E) mg (fun cls d _ H' => E cls d H') (defBody st) g ∧
        ∀ Q Ex, sp F Q Ex → g ⟨fun _ => Q .non, fun d _ => Q d, fun _ => False, fun _ => False, fun x _ => Ex x⟩ (startD N.length [.fn f W]))
    (hd1 : (a == ("__debug__" : Str)) = false := by decide) (hd2 : (a == ("__classdict__" : Str)) = false := by decide) : HelpOk P w mg base k x sp := by
  obtain ⟨fa, fd, hm, F⟩ := d
  exact ⟨fa, fd, a, N, st, hm, F.kp, F.binds hb, F, S, hN, hv, hd1, hd2, h fa⟩
/-- a def that makes lambdas, of the text -/
theorem mkDefL {mg : Gm} {P : Program} {w : World} {base : Heap} {x : Str} {c : Addr} {st : Stmt} {N ps : List Str} {k : Nat} {f : List D → M D} (d : ∃ fa fd, mg.mg x = some (.ref fa) ∧ Fun mg.K x x st fa fd ∧ fd.code = .ref c) (S : FnScope N ps (defScope st))
    (hb : ∀ (kV doc pm : Value) (an : Option Addr) (cdv ct : Value) (us : List Value), us.length = ps.length → bindArgs (PySem.W.fnOf x x (defArgs st) (defBody st) (defScope st) .none kV doc pm an cdv ct) ⟨us, []⟩ = pure (ps.zip us))
    (h : ∀ (fa : Addr) (A : Around) (outer : List PySem.Env) (s : Shared) (H : Hp) (E : XK), RmG k (A.deeper (PyProof.Rows.envOfC x (defScope st) s.heap.objs.size fa (.ref c))) →
      ∃ g, DSs (fun _ : Unit => cxOf (L2.CX P w) P w mg.K mg.mg base N x (defScope st) fa (.ref c) A outer s H E) mg (fun cls d _ H' => E cls d H') (defBody st) g ∧
        ∀ ds Q Ex, ds.length = ps.length → f ds Q Ex → g ⟨fun _ => Q .non, fun d _ => Q d, fun _ => False, fun _ => False, fun x _ => Ex x⟩ (startD N.length ds)) :
    DefOk P w mg base (k + 1) x ps.length f := by
  obtain ⟨fa, fd, hm, F, hcode⟩ := d
  refine ⟨fa, fd, ps, hm, F.kp, F.binds hb, rfl, ?_, ?_⟩
  · rintro vs H Q E ⟨W, ds, Qd, Ed, _, r, l, _⟩
    rw [r.length, l]
  · intro A out z H ag us vs Q E m e0 bd rv hs
    obtain ⟨W, ds, Qd, Ed, hh, r, l, hf, q, x'⟩ := hs
    refine fn_run F S m e0 bd rv (by rw [r.length, l]) fun cdv ec m' => ?_
    rw [hcode] at ec
    subst ec
    obtain ⟨g, ⟨t, h1, h2⟩, h3⟩ := h fa A out z H E m'
    refine ⟨t, h1 (), ?_⟩
    refine h2 W H _ _ (h3 ds Qd Ed l hf) W _ H _ (Step.refl hh) (EnvR.start r) ⟨fun W' H' σ' ρ' s' e' k => q W' H' _ _ s' .non k, fun W' H' _ _ v d s' _ r k => q W' H' v d s' r k, fun _ _ _ _ _ _ k => k, fun _ _ _ _ _ _ k => k, fun W' H' σ' ρ' cls dd y s' e' r' k => x' W' H' cls dd y s' r' k⟩
end FP

/-! FP39: the end of a law whose defs make lambdas. -/
namespace FP
open PySem PySem.Spec PyProof.Rows L2 LamX
section
variable {P : Program} {w : World} {K : PySem.W.Frag} {mg mb : Str → Option Value} {k : Nat} {fa a : Addr} {sp : Sp} {z₁ : Shared} {vs : List Value} {ns : List Int} {cs : List (Addr × Addr)}
abbrev tabsOf (cs : List (Addr × Addr)) : List Addr := cs.map (·.2)
/-- nothing but the script and the tables -/
def OnlyT (cs : List (Addr × Addr)) (H : Hp) : Prop := ∀ b, H b = none ∨ b ∈ tabsOf cs ∨ ∃ o xs, H b = some (.frz o (.lst xs))
/-- what is known of the code objects and their tables -/
structure TabsK (h : Heap) (K : PySem.W.Frag) (cs : List (Addr × Addr)) : Prop where
  e : ∀ p ∈ cs, h.get? p.2 = some { cls := .none, data := .fields #[] }
  n : ∀ p ∈ cs, K.lookup p.2 = none
  c : ∀ p ∈ cs, PySem.W.CodeHd h p.1 p.2
theorem end_atT (KX : K.In z₁.heap) (gl : z₁.heap.Ns mainGlobals mg) (bl : z₁.heap.Ns builtinsNs mb) (bb : ∀ y : Str, y ≠ "__name__" → mb y = bootBuiltins y) (lim : z₁.heap.NoLimit) (gn : z₁.gens = #[]) (T : TabsK z₁.heap K cs)
    (bmod : ∃ (bm : Addr) (ob : Obj), mg "__builtins__" = some (.ref bm) ∧ bm ≠ builtinsNs ∧ z₁.heap.get? bm = some ob ∧ ob.cls = .type "module" ∧ ob.dict = some builtinsNs ∧ ob.data = .plain)
    (ha : z₁.heap.get? a = some { cls := .type "list", data := .seq vs.toArray }) (hr : RmG k callerA) (F : ∀ base : Heap, K.In base → base.Ns mainGlobals mg → (∀ p ∈ cs, TabB base mg p.1 p.2) → ∃ fd ps, Binds K fd ps [] ∧ FnG P w K mg base k fa fd ps sp)
    {H : Hp} (isT : ∀ p ∈ cs, H p.2 = some (.tbl #[])) (only : OnlyT cs H) (hok : HOk P w H z₁.heap) (atA : ∀ b, H b ≠ none → b = a ∨ b ∈ tabsOf cs) (offK : H a ≠ none → K.lookup a = none) (want : sp [.ref a] H (fun v _ => v = .bl true) fun _ _ _ => False) (noX : ∀ e z', L2.CX P w [] H z₁ (fun _ _ _ => False) e z' → False) :
    codeAny (model P w) callerA (.call (.ref fa) ⟨[.ref a], []⟩) (Fine z₁) z₁ := by
  have tabO : ∀ c ∈ tabsOf cs, z₁.heap.get? c = some { cls := .none, data := .fields #[] } := by
    intro c hc
    obtain ⟨p, hp, rfl⟩ := List.mem_map.mp hc
    exact T.e p hp
  -- what is no list and no empty record is not tracked
  have free : ∀ {c : Addr} {o : Obj}, z₁.heap.get? c = some o → (∀ us m, o.data ≠ .seq us m) → o.data ≠ .fields #[] → H c = none := by
    intro c o hc n1 n2
    rcases hH : H c with _ | u
    · rfl
    · rcases atA c (by rw [hH]; exact Option.some_ne_none u) with ca | ca
      · rw [ca, ha] at hc
        cases hc
        exact absurd rfl (n1 _ _)
      · rw [tabO c ca] at hc
        cases hc
        exact absurd rfl n2
  have freeD : ∀ {c : Addr} {o : Obj} {es : Array DictEntry} {ep : Nat}, z₁.heap.get? c = some o → o.data = .dict es ep → H c = none := by
    intro c o es ep hc hd
    refine free hc ?_ ?_
    · intro us m q
      rw [hd] at q
      cases q
    · intro q
      rw [hd] at q
      cases q
  have ns' : ∀ {c : Addr} {m : Str → Option Value}, z₁.heap.Ns c m → (hidT z₁.heap H).Ns c m := by
    rintro c m ⟨o, es, ep, h1, h2, h3⟩
    exact ⟨o, es, ep, hidT_get h1 (freeD h1 h2), h2, h3⟩
  have kin : K.In (hidT z₁.heap H) := by
    intro c o hc
    refine hidT_get (KX c o hc) ?_
    rcases hH : H c with _ | u
    · rfl
    · rcases atA c (by rw [hH]; exact Option.some_ne_none u) with ca | ca
      · subst ca
        rw [offK (by rw [hH]; exact Option.some_ne_none u)] at hc
        cases hc
      · obtain ⟨p, hp, rfl⟩ := List.mem_map.mp ca
        rw [T.n p hp] at hc
        cases hc
  have tbs : ∀ p ∈ cs, TabB (hidT z₁.heap H) mg p.1 p.2 := by
    intro p hp
    refine ⟨?_, ?_, ?_⟩
    · obtain ⟨o, us, file, tf, flags, tg, inF, text, tt, k1, r1, r2, r3, r4, r5, r6, r7, r8, r9⟩ := T.c p hp
      refine ⟨o, us, file, tf, flags, tg, inF, text, tt, hidT_get k1 (free k1 ?_ ?_), r1, r2, r3, r4, r5, r6, r7, r8, r9⟩
      · intro us' m q
        rw [r2] at q
        cases q
      · intro q
        rw [r2] at q
        cases q
        simp at r3
    · obtain ⟨bm, ob, b1, b2, b3, b4, b5, b6⟩ := bmod
      refine ⟨bm, ob, b1, b2, ?_, ?_, hidT_get b3 (free b3 ?_ ?_), b4, b5, b6⟩
      · intro q
        obtain ⟨o, es, ep, e, hd, _⟩ := gl
        rw [q, e] at b3
        cases b3
        rw [hd] at b6
        cases b6
      · intro q
        rw [q, T.e p hp] at b3
        cases b3
        cases b6
      · intro us' m q
        rw [b6] at q
        cases q
      · intro q
        rw [b6] at q
        cases q
    · intro q
      obtain ⟨o, es, ep, e, hd, _⟩ := gl
      rw [q, T.e p hp] at e
      cases e
      cases hd
  obtain ⟨mc, l1, l2⟩ := lim
  have md : L2.Mod K mg (hidT z₁.heap H) := ⟨kin, ns' gl, ⟨mb, ns' bl, bb⟩, ⟨mc, ns' l1, l2⟩⟩
  have en : Env0 P w K mg (hidT z₁.heap H) callerA [] z₁ H := by
    refine ⟨rfl, md, fun c o q => of_hidT q, Nat.le_of_eq (hidT_size _ _), trivial, ?_, hok, .of_eq gn⟩
    intro c hc
    cases hc
  obtain ⟨fd, ps, bd, fn⟩ := F _ kin (ns' gl) tbs
  have bz := bd z₁ [.ref a] KX (fn.ln _ _ _ _ want)
  rw [List.append_nil] at bz
  have run := fn.go callerA [] z₁ H ⟨[.ref a], []⟩ [.ref a] [.ref a] _ _ hr en bz (.cons rfl .nil) want
  refine codeAny_mono run ?_
  intro res z' hres
  match res, hres with
  | .error e, hq => exact (noX e z' hq).elim
  | .ok .next, hq => exact hq.elim
  | .ok .brk, hq => exact hq.elim
  | .ok .cont, hq => exact hq.elim
  | .ok (.ret u), ⟨v, H', os, bare, un, ok', ru, hv⟩ =>
    have hv' : v = .bl true := hv
    subst hv'
    have hu : u = Value.bool true := ru
    subst hu
    have stays : ∀ c o, c ∉ tabsOf cs → z₁.heap.get? c = some o → z'.heap.get? c = some o := by
      intro c o nc hc
      rcases hH : H c with _ | u
      · exact un.keep c o hc hH (by intro q; cases q) (by intro q; cases q)
      · rcases only c with hn | hn | ⟨ob, xs, hf⟩
        · rw [hH] at hn
          cases hn
        · exact absurd hn nc
        · have f2 := un.frzs c ob _ hf
          have g1 := (hok c _ hf).1
          have g2 := (ok' c _ f2).1
          rw [hc] at g1
          cases g1
          exact g2
    have grows : ∀ p ∈ cs, ∃ more : Array Value, z'.heap.get? p.2 = some { cls := .none, data := .fields more } := by
      intro p hp
      obtain ⟨more, q⟩ := un.tbls p.2 #[] (isT p hp)
      exact ⟨_, ok' p.2 _ q⟩
    refine ⟨rfl, ⟨?_, ?_⟩, os, bare⟩
    · intro c o hc
      by_cases hm : c ∈ tabsOf cs
      · obtain ⟨p, hp, rfl⟩ := List.mem_map.mp hm
        obtain ⟨more, q⟩ := grows p hp
        rw [T.e p hp] at hc
        cases hc
        refine .inr (.inl ⟨((T.c p hp).tab (T.e p hp)).isCodeTable, rfl, #[], more, rfl, ?_⟩)
        rw [Array.empty_append]
        exact q
      · exact .inl (stays c o hm hc)
    · intro c o hc
      by_cases hm : c ∈ tabsOf cs
      · obtain ⟨p, hp, rfl⟩ := List.mem_map.mp hm
        obtain ⟨more, q⟩ := grows p hp
        exact ⟨_, q⟩
      · exact ⟨o, stays c o hm hc⟩
/-- the heap at the start -/
def startH (cs : List (Addr × Addr)) (H : Hp) : Hp := fun b => if b ∈ tabsOf cs then some (.tbl #[]) else H b
theorem end_lawT (KX : K.In z₁.heap) (gl : z₁.heap.Ns mainGlobals mg) (bl : z₁.heap.Ns builtinsNs mb) (bb : ∀ y : Str, y ≠ "__name__" → mb y = bootBuiltins y) (lim : z₁.heap.NoLimit) (gn : z₁.gens = #[]) (T : TabsK z₁.heap K cs)
    (bmod : ∃ (bm : Addr) (ob : Obj), mg "__builtins__" = some (.ref bm) ∧ bm ≠ builtinsNs ∧ z₁.heap.get? bm = some ob ∧ ob.cls = .type "module" ∧ ob.dict = some builtinsNs ∧ ob.data = .plain)
    (ha : z₁.heap.get? a = some { cls := .type "list", data := .seq vs.toArray }) (hi : IntsAre vs ns) (hl : ns.length ≤ sizeLine) (hr : RmG k callerA) (F : ∀ base : Heap, K.In base → base.Ns mainGlobals mg → (∀ p ∈ cs, TabB base mg p.1 p.2) → ∃ fd ps, Binds K fd ps [] ∧ FnG P w K mg base k fa fd ps sp)
    (want : ∀ H : Hp, (∀ p ∈ cs, H p.2 = some (.tbl #[])) → OnlyT cs H → SqL K H a (ns.map V.int) → sp [.ref a] H (fun v _ => v = .bl true) fun _ _ _ => False) (noX : ∀ H e z', L2.CX P w [] H z₁ (fun _ _ _ => False) e z' → False) :
    codeAny (model P w) callerA (.call (.ref fa) ⟨[.ref a], []⟩) (Fine z₁) z₁ := by
  have rv := vals_ints hi
  have lv := hi.length
  have tabO : ∀ c ∈ tabsOf cs, z₁.heap.get? c = some { cls := .none, data := .fields #[] } := by
    intro c hc
    obtain ⟨p, hp, rfl⟩ := List.mem_map.mp hc
    exact T.e p hp
  have na : a ∉ tabsOf cs := by
    intro q
    have q2 := tabO a q
    rw [ha] at q2
    have q3 : Data.seq vs.toArray _ = Data.fields #[] := congrArg Obj.data (Option.some.inj q2)
    cases q3
  have isT : ∀ (H : Hp), ∀ p ∈ cs, startH cs H p.2 = some (.tbl #[]) := fun H p hp => if_pos (List.mem_map.mpr ⟨p, hp, rfl⟩)
  rcases hk : K.lookup a with _ | o
  · have atA : startH cs (upd (fun _ => none) a (.frz { cls := .type "list", data := .seq vs.toArray } (.lst (ns.map V.int)))) a = some (.frz { cls := .type "list", data := .seq vs.toArray } (.lst (ns.map V.int))) := (if_neg na).trans upd_same
    have els : ∀ c, c ≠ a → c ∉ tabsOf cs → startH cs (upd (fun _ => none) a (.frz { cls := .type "list", data := .seq vs.toArray } (.lst (ns.map V.int)))) c = none := fun c h1 h2 => (if_neg h2).trans (upd_ne h1)
    have only : OnlyT cs (startH cs (upd (fun _ => none) a (.frz { cls := .type "list", data := .seq vs.toArray } (.lst (ns.map V.int))))) := by
      intro c
      by_cases hm : c ∈ tabsOf cs
      · exact .inr (.inl hm)
      · by_cases hc : c = a
        · rw [hc]
          exact .inr (.inr ⟨_, _, atA⟩)
        · exact .inl (els c hc hm)
    refine end_atT KX gl bl bb lim gn T bmod ha hr F (isT _) only ?_ ?_ (fun _ => hk) (want _ (isT _) only (.inl (.inr ⟨_, atA⟩))) (noX _)
    · intro c u hc
      by_cases hm : c ∈ tabsOf cs
      · have y := (if_pos hm).symm.trans hc
        cases y
        exact tabO c hm
      · by_cases hca : c = a
        · subst hca
          rw [atA] at hc
          cases hc
          refine ⟨ha, ?_, vs, _, rv, ha⟩
          rw [List.length_map]
          exact hl
        · rw [els c hca hm] at hc
          cases hc
    · intro c hc
      by_cases hm : c ∈ tabsOf cs
      · exact .inr hm
      · by_cases hca : c = a
        · exact .inl hca
        · exact absurd (els c hca hm) hc
  · have ho := KX a o hk
    rw [ha] at ho
    cases ho
    have els : ∀ c, c ∉ tabsOf cs → startH cs (fun _ => none) c = none := fun c h2 => if_neg h2
    have only : OnlyT cs (startH cs (fun _ => none)) := by
      intro c
      by_cases hm : c ∈ tabsOf cs
      · exact .inr (.inl hm)
      · exact .inl (els c hm)
    refine end_atT KX gl bl bb lim gn T bmod ha hr F (isT _) only ?_ ?_ (fun hc => absurd (els a na) hc) (want _ (isT _) only (.inr ⟨_, vs.toArray, _, hk, rfl, rfl, rfl, ?_, by simpa using rv⟩)) (noX _)
    · intro c u hc
      by_cases hm : c ∈ tabsOf cs
      · have y := (if_pos hm).symm.trans hc
        cases y
        exact tabO c hm
      · rw [els c hm] at hc
        cases hc
    · intro c hc
      by_cases hm : c ∈ tabsOf cs
      · exact .inr hm
      · exact absurd (els c hm) hc
    · rw [List.size_toArray, lv]
      exact hl
end
/-- the makers: a def's name, its code object, its table -/
abbrev Mks := List (Str × Addr × Addr)
abbrev Mks.tabl (ms : Mks) : Tabl := ⟨ms.map fun m => (m.2.2, m.1 ++ ".<locals>." ++ "<lambda>")⟩
theorem tabF_of {ms : Mks} {K : PySem.W.Frag} {mg : Str → Option Value} {base : Heap} {x : Str} {c P : Addr} (ht : ∀ m ∈ ms, PySem.W.tabIn K m.1 = some m.2) (TB : ∀ m ∈ ms, TabB base mg m.2.1 m.2.2) (hx : x ∈ ms.map (·.1)) (nd : ∀ m ∈ ms, ∀ m' ∈ ms, m.2.2 = m'.2.2 → m.1 = m'.1) (e : PySem.W.tabIn K x = some (c, P)) :
    @TabF ms.tabl ⟨mg, K⟩ base ((x ++ ".<locals>.") ++ "<lambda>") c P := by
  letI : Tabl := ms.tabl
  obtain ⟨m, hm, rfl⟩ := List.mem_map.mp hx
  have e2 : m.2 = (c, P) := Option.some.inj ((ht m hm).symm.trans e)
  have tb := TB m hm
  rw [e2] at tb
  refine ⟨List.mem_map.mpr ⟨m, hm, by rw [e2]⟩, fun p hp q => ?_, tb⟩
  obtain ⟨m', hm', rfl⟩ := List.mem_map.mp hp
  have q : m'.2.2 = P := q
  show m'.1 ++ ".<locals>." ++ "<lambda>" = _
  rw [nd m' hm' m hm (by rw [q, e2])]
theorem walkGT (ms : Mks) {l : PySem.W.OpenLaw} {k : Nat} {q : Program} {loose : List Str} {XP : (Str → Option Value) → Heap → Prop} {YP : World → Heap → Prop} {d : DefRec} {K : Params → PySem.W.Frag} {f : List D → M D}
    (hn : l.most = some 63) (hdf : d.params.defaults = []) (hr : RmG k callerA) (hY : ∀ (w : World) (h : Heap), YP w h → (K w.params).In h)
    (hrec : ∀ m ∈ ms, ∃ e, (recsOf q).find? (fun e => e.name == m.1) = some e) (htab : ∀ (w : World), ∀ m ∈ ms, PySem.W.tabIn (K w.params) m.1 = some m.2) (hoff : ∀ (w : World), ∀ m ∈ ms, (K w.params).lookup m.2.2 = none)
    (F : ∀ (w : World) (mg : Str → Option Value) (h : Heap), (K w.params).In h → h.Ns mainGlobals mg → ∀ base : Heap, (∀ m ∈ ms, PySem.W.tabIn (K w.params) m.1 = some m.2) → (∀ m ∈ ms, TabB base mg m.2.1 m.2.2) → @DefOk ms.tabl l.prog w ⟨mg, K w.params⟩ base k d.name 1 f)
    (hf : ∀ ns : List Int, ns.length ≤ 63 → f [scriptD ns] (fun d => d = .bl true) F0) : PySem.W.WalkO q loose XP YP l.row.toRowW d [] (fun f vs => PySem.call f vs) := by
  letI : Tabl := ms.tabl
  refine Att.attach_call hn hdf fun w z₀ z₁ mg mb fa o pm cd doc a vs ns G Y ho hd hcd hmg hobj hints hlen hg => ?_
  have KX := hY w _ Y
  have T : TabsK z₁.heap (K w.params) (ms.map (·.2)) := by
    refine ⟨?_, ?_, ?_⟩ <;> intro p hp <;> obtain ⟨m, hm, rfl⟩ := List.mem_map.mp hp
    · obtain ⟨e, he⟩ := hrec m hm
      exact (PySem.W.tab_of G.T KX he (htab w m hm)).2
    · exact hoff w m hm
    · obtain ⟨e, he⟩ := hrec m hm
      exact (PySem.W.tab_of G.T KX he (htab w m hm)).1
  refine end_lawT (cs := ms.map (·.2)) (sp := spD ⟨mg, K w.params⟩ 1 f) KX G.T.g G.T.b G.T.builtins G.T.nolimit hg T G.T.bmain hobj hints (Nat.le_trans hlen (by decide)) hr (fun base _ _ tb => ?_) (fun H isT only hS => ?_) fun H e z' c => ?_
  · obtain ⟨fa', fd, ps, h1, h2, h3, h4, h5⟩ := (F w mg _ KX G.T.g base (htab w) fun m hm => tb m.2 (List.mem_map.mpr ⟨m, hm, rfl⟩)).ex
    have e : fa' = fa := by
      have e' := h1.symm.trans hmg
      cases e'
      rfl
    subst e
    exact ⟨fd, ps, h3, h5⟩
  · have noW : ∀ b, b ∈ tabsOf (ms.map (·.2)) → H b = some (.tbl #[]) := by
      intro b hb
      obtain ⟨p, hp, rfl⟩ := List.mem_map.mp hb
      exact isT p hp
    have inB : ∀ p ∈ (Tabl.B : List (Addr × Str)), p.1 ∈ tabsOf (ms.map (·.2)) := by
      intro p hp
      obtain ⟨m, hm, rfl⟩ := List.mem_map.mp hp
      exact List.mem_map.mpr ⟨m.2, List.mem_map.mpr ⟨m, hm, rfl⟩, rfl⟩
    refine ⟨⟨fun b => if b ∈ tabsOf (ms.map (·.2)) then none else H b, fun b => b ∈ tabsOf (ms.map (·.2)), fun _ => False⟩, [scriptD ns], _, _, ⟨fun b u e => ?_, fun b t => ⟨if_pos t, _, noW b t⟩, fun _ t => t.elim, fun p hp => ⟨inB p hp, TabS.nil (noW _ (inB p hp))⟩, fun b ps e => ?_⟩, .cons (.fz ?_ (Reps.ints ns)) .nil, rfl, hf ns hlen, fun W' H' v d _ r e => ?_, fun _ _ _ _ _ _ _ h => h⟩
    · by_cases hb : b ∈ tabsOf (ms.map (·.2))
      · have y := (if_pos hb).symm.trans e
        cases y
      · exact (if_neg hb).symm.trans e
    · rcases only b with y | y | ⟨_, _, y⟩
      · rw [y] at e
        cases e
      · obtain ⟨p, hp, rfl⟩ := List.mem_map.mp y
        obtain ⟨m, hm, rfl⟩ := List.mem_map.mp hp
        exact ⟨_, List.mem_map.mpr ⟨m, hm, rfl⟩⟩
      · rw [y] at e
        cases e
    · rcases hS with (y | ⟨o, y⟩) | y
      · exact .inl (.inl ((if_neg (fun q => by rw [noW a q] at y; cases y)).trans y))
      · exact .inl (.inr ⟨o, (if_neg (fun q => by rw [noW a q] at y; cases y)).trans y⟩)
      · exact .inr y
    · subst e
      cases r
      rfl
  · obtain ⟨_, _, _, _, _, _, _, _, _, _, _, _, z⟩ := c
    exact z.elim
end FP

/-! FP40: dict(list of pairs); facts of operators and of exceptions. -/
namespace FP
open PySem L2
variable [Tabl]
section
variable {ι : Type} {Xs : ι → Cx} {mg : Gm} {Wx : WX} {pos : Pos}
def pairsD : List D → Option (List (Key × D))
  | [] => some []
  | .tup [k, v] :: xs => match keyD k, pairsD xs with
    | some k, some r => some ((k, v) :: r)
    | _, _ => none
  | _ => none
def mergeD (kvs more : List (Key × D)) : List (Key × D) := more.foldl (fun acc kv => putKD acc kv.1 kv.2) kvs
def rdDictP : RDL := fun ds Q => match ds with
  | [.lst xs] => ∃ kvs, pairsD xs = some kvs ∧ Q (.dct (mergeD [] kvs))
  | _ => False
theorem pairs_v {W : Wd} {H : Hp} (hh : Holds W H) : ∀ {vs : List V} {xs : List D} {kvs : List (Key × D)}, Reps mg W vs xs → pairsD xs = some kvs → ∃ (ps : List Addr) (us : List (Key × V)), vs = ps.map V.ref ∧ Paired (fun p kv => SqT mg.K H p [kV kv.1, kv.2]) ps us ∧ us.map (·.1) = kvs.map (·.1) ∧ Reps mg W (us.map (·.2)) (kvs.map (·.2))
  | _, _, _, .nil, e => by
    cases e
    exact ⟨[], [], rfl, .nil, rfl, .nil⟩
  | _, _, kvs, .cons (d := d) (ds := ds) r t, e => by
    cases r with
    | @tup a vs' ds' ha rs =>
      match ds', rs with
      | [k, v], .cons (v := x) rk (.cons (v := y) rv .nil) =>
        unfold pairsD at e
        cases hk : keyD k with
        | none =>
          rw [hk] at e
          cases e
        | some kk =>
          cases hp : pairsD ds with
          | none =>
            rw [hk, hp] at e
            cases e
          | some kr =>
            rw [hk, hp] at e
            cases e
            obtain ⟨ps, us, h1, h2, h3, h4⟩ := pairs_v hh t hp
            have ek := keyD_v rk hk
            subst ek
            exact ⟨a :: ps, (kk, y) :: us, by rw [h1]; rfl, .cons (SqT.of (hh.same _ _ ha)) h2, by rw [List.map_cons, List.map_cons, h3], .cons rv h4⟩
    | _ => cases e
theorem merge_v {W : Wd} : ∀ {us : List (Key × V)} {kvs : List (Key × D)} {us0 : List (Key × V)} {kvs0 : List (Key × D)}, us.map (·.1) = kvs.map (·.1) → Reps mg W (us.map (·.2)) (kvs.map (·.2)) → us0.map (·.1) = kvs0.map (·.1) → Reps mg W (us0.map (·.2)) (kvs0.map (·.2)) →
    (mergeK us0 us).map (·.1) = (mergeD kvs0 kvs).map (·.1) ∧ Reps mg W ((mergeK us0 us).map (·.2)) ((mergeD kvs0 kvs).map (·.2))
  | [], [], _, _, _, _, h3, h4 => ⟨h3, h4⟩
  | (k, v) :: us, (k', d) :: kvs, _, _, h1, h2, h3, h4 => by
    rw [List.map_cons, List.map_cons] at h1
    injection h1 with e1 e2
    have e1 : k = k' := e1
    subst e1
    cases h2 with
    | cons r t =>
      obtain ⟨g1, g2⟩ := put_rep (k := k) h3 h4 r
      exact merge_v (us := us) (kvs := kvs) (us0 := putK _ k v) (kvs0 := putKD _ k d) e2 t g1 g2
  | [], _ :: _, _, _, h1, _, _, _ => by cases h1
  | _ :: _, [], _, _, h1, _, _, _ => by cases h1
theorem cr_dictP {X : Cx} {K : PySem.W.Frag} (h : X.K = K) (hc : X.calm = true) : CallR X (.type "dict") (fun xs H Q => ∃ (a : Addr) (ps : List Addr) (kvs : List (Key × V)), xs = [.ref a] ∧ SqL K H a (ps.map V.ref) ∧ Paired (fun p kv => SqT K H p [kV kv.1, kv.2]) ps kvs ∧
    ∀ p, H p = none → Q (.ref p) (upd H p (.dK (mergeK [] kvs)))) := by
  subst h
  exact call_dictP hc
theorem de_dictP {p : Pos} {e : Expr} {f : DTE} (h : DE Xs mg Wx e f) (hm : mg.mg "dict" = none) (hv : bootBuiltins "dict" = some (.type "dict")) (hK : ∀ j, (Xs j).K = mg.K := by intro _; rfl) (hM : ∀ j, (Xs j).mg = mg.mg := by intro _; rfl) (hc : ∀ j, (Xs j).calm = true := by intro _; rfl) (hg : ∀ j, Gl (Xs j) "dict" := by intro _; rfl)
    (he : ∀ i, starEach [e] (Xs i).env = (false, eval e (Xs i).env) :: starEach [] (Xs i).env := by intro _; rfl) : DE Xs mg Wx (.Call (.Name "dict" p) [e] [] pos) (dCB rdDictP (dCons f dNil)) := by
  obtain ⟨t, h1, h2⟩ := da_cons h da_nil he
  refine ⟨_, fun i => pe_lk (pe_callTy (cr_dictP (hK i) (hc i)) (hg i) (by rw [hM i]; exact hm) hv (h1 i) (by decide) (by decide) (he i) rfl), ?_⟩
  intro B ρ Q E hf W σ H Q' hh en x q
  refine h2 B ρ _ E hf W σ H _ hh en x fun W1 H1 vs ds s1 r1 k1 => ?_
  match ds, r1, k1 with
  | [.lst xs], .cons (v := v) r .nil, ⟨kvs, hk, k2⟩ =>
    cases r with
    | @lst a us _ ha rs =>
      obtain ⟨ps, ws, g1, g2, g3, g4⟩ := pairs_v s1.holds rs hk
      refine ⟨a, ps, ws, rfl, by rw [← g1]; exact SqL.of (s1.holds.same _ _ ha), g2, fun p n => ⟨p, _, rfl, upd_same, True.intro, fun od => ?_⟩⟩
      rw [upd_upd]
      obtain ⟨m1, m2⟩ := merge_v (us0 := []) (kvs0 := []) g3 g4 rfl .nil
      exact q _ _ _ _ (s1.trans (Step.alloc s1.holds n)) (Rep.newDct m1 m2 (s1.holds.same.free n)) k2
/-- one of two readings of an operator -/
theorem OpOk.or {f : Value → Value → Sem Value} {rd rd' : RD2} (a : OpOk Xs mg f rd) (b : OpOk Xs mg f rd') : OpOk Xs mg f (fun x y Q => rd x y Q ∨ rd' x y Q) := by
  obtain ⟨r, a1, a2⟩ := a
  obtain ⟨r', b1, b2⟩ := b
  refine ⟨fun x y H Q => r x y H Q ∨ r' x y H Q, fun i pins s σ H x y v u Q I rx ry h => ?_, fun W H x y dx dy Q Q' hh rx ry h q => ?_⟩
  · rcases h with h | h
    · exact a1 i pins s σ H x y v u Q I rx ry h
    · exact b1 i pins s σ H x y v u Q I rx ry h
  · rcases h with h | h
    · exact .inl (a2 W H x y dx dy Q Q' hh rx ry h q)
    · exact .inr (b2 W H x y dx dy Q Q' hh rx ry h q)
/-! ### facts of operators -/
theorem opF_own {K : PySem.W.Frag} {mg : Str → Option Value} {C : Addr} {nm : String} (h1 : PySem.W.selfFirst K C = true) (h2 : PySem.W.findIn K (.ref C) (dunderR nm) = some none) : OpF ⟨mg, K⟩ C nm [] := ⟨h1, h2, fun _ h => absurd h List.not_mem_nil⟩
theorem opF_int {K : PySem.W.Frag} {mg : Str → Option Value} {C : Addr} {nm : String} (h1 : PySem.W.selfFirst K C = true) (h2 : PySem.W.findIn K (.ref C) (dunderR nm) = some none) (h3 : PySem.W.subIn K (.type "int") (.ref C) = some false) (h4 : ∃ r0, fillsNumberSlot (.type "int") nm = pure r0) (h5 : ∃ tk, typeLookup (.type "int") (dunderR nm) = pure tk) : OpF ⟨mg, K⟩ C nm ["int"] :=
  ⟨h1, h2, fun t h => by
    rw [List.mem_singleton] at h
    subst h
    exact ⟨h3, h4, h5⟩⟩
theorem int_mod1 : ∃ r0, fillsNumberSlot (.type "int") "mod" = pure r0 := ⟨_, rfl⟩
theorem int_mod2 : ∃ tk, typeLookup (.type "int") (dunderR "mod") = pure tk := ⟨_, rfl⟩
end
/-! ### facts of exceptions -/
abbrev veBm : List Value := [.type "ValueError", .type "Exception", .type "BaseException", .type "object"]
theorem veB : ExcBaseFacts "ValueError" "ValueError.__new__" "ValueError.__init__" veBm := PySem.F.excBase_ValueError
theorem cat_self {K : PySem.W.Frag} {mg : Str → Option Value} {x : Str} {C : Addr} (h1 : mg x = some (.ref C)) (h2 : PySem.W.exmOne K (.ref C) (.ref C) = some true) : CatF ⟨mg, K⟩ (.ref C) [x] (fun _ => true) := ⟨fun y hy => by
  rw [List.mem_singleton] at hy
  subst hy
  exact ⟨C, h1, h2⟩⟩
theorem InitOk.imp {P : Program} {w : World} {mg : Gm} {base : Heap} {k n : Nat} {c : Str} {C : Addr} {f f' : List D → ((List (Str × D)) → Prop) → (XD → Prop) → Prop} (G : InitOk P w mg base k c C n f) (h : ∀ ds Q E, f' ds Q E → f ds Q E) : InitOk P w mg base k c C n f' := by
  obtain ⟨fa, fd, ps, h1, h2, h3, F⟩ := G.ex
  refine ⟨fa, fd, ps, h1, h2, h3, F.imp ?_⟩
  rintro vs H Q E ⟨W, ds, us, H1, x, dx, Qd, Ed, g1, g2, g3, g4, g5, g6, g7, g8, g9, g10⟩
  exact ⟨W, ds, us, H1, x, dx, Qd, Ed, g1, g2, g3, g4, g5, g6, g7, g8, h _ _ _ g9, g10⟩
end FP

/-! FP41: displays of dicts. -/
namespace FP
open PySem L2
variable [Tabl]
section
variable {ι : Type} {Xs : ι → Cx} {mg : Gm} {Wx : WX} {pos : Pos}
abbrev DTP := Env → M (List (Key × D))
def CpPs (mg : Gm) (Wx : WX) (trs : List (TE × TE)) (f : DTP) : Prop := ∀ B ρ Q E, f ρ Q E → ∀ W σ H Q', Holds W H → EnvR mg B W H σ ρ → ExR mg Wx W H σ E →
  (∀ W' H' (kvs : List (Key × V)) (ds : List (Key × D)), Step W H W' H' → kvs.map (·.1) = ds.map (·.1) → Reps mg W' (kvs.map (·.2)) (ds.map (·.2)) → Q ds → Q' (kvs.map fun kv => (kV kv.1, kv.2)) H') → tPairs trs σ H Q'
def DPs (Xs : ι → Cx) (mg : Gm) (Wx : WX) (pos : Pos) (ks : List (Option Expr)) (vs : List Expr) (f : DTP) : Prop := ∃ trs, (∀ i, PPs (Xs i) pos ks vs trs) ∧ CpPs mg Wx trs f
abbrev dPn : DTP := fun _ Q _ => Q []
abbrev dPc (fk fv : DTE) (g : DTP) : DTP := fun ρ Q E => fk ρ (fun x => fv ρ (fun y => ∃ k, keyD x = some k ∧ g ρ (fun r => Q ((k, y) :: r)) E) E) E
theorem dps_nil : DPs Xs mg Wx pos [] [] dPn := ⟨[], fun _ => pps_nil, fun B ρ Q E h W σ H Q' hh _ _ q => q W H [] [] (Step.refl hh) rfl .nil h⟩
theorem dps_cons {k v : Expr} {ks : List (Option Expr)} {vs : List Expr} {fk fv : DTE} {g : DTP} (hk : DE Xs mg Wx k fk) (hv : DE Xs mg Wx v fv) (hr : DPs Xs mg Wx pos ks vs g) : DPs Xs mg Wx pos (some k :: ks) (v :: vs) (dPc fk fv g) := by
  obtain ⟨tk, a1, a2⟩ := hk
  obtain ⟨tv, b1, b2⟩ := hv
  obtain ⟨trs, c1, c2⟩ := hr
  refine ⟨_, fun i => pps_cons (a1 i) (b1 i) (c1 i), fun B ρ Q E hf W σ H Q' hh e x q => ?_⟩
  refine a2 B ρ _ E hf W σ H _ hh e x fun W1 H1 v1 d1 s1 r1 k1 => ?_
  refine b2 B ρ _ E k1 W1 σ H1 _ s1.holds (e.step s1) (x.step s1) fun W2 H2 v2 d2 s2 r2 k2 => ?_
  obtain ⟨kk, hkk, k3⟩ := k2
  have s12 := s1.trans s2
  refine c2 B ρ _ E k3 W2 σ H2 _ s2.holds (e.step s12) (x.step s12) fun W3 H3 kvs ds s3 h1 h2 k4 => ?_
  have ek := keyD_v r1 hkk
  subst ek
  exact q W3 H3 ((kk, v2) :: kvs) ((kk, d2) :: ds) (s12.trans s3) (by rw [List.map_cons, List.map_cons, h1]) (.cons (r2.mono s3.le) h2) k4
abbrev dDisp (g : DTP) : DTE := fun ρ Q E => g ρ (fun kvs => kvs.length ≤ 15 ∧ Q (.dct (mergeD [] kvs))) E
theorem de_disp {ks : List (Option Expr)} {vs : List Expr} {g : DTP} (h : DPs Xs mg Wx pos ks vs g) (hall : ks.all (·.isSome) = true := by rfl) (hl : ks.length = vs.length := by rfl) (h0 : ks ≠ [] := by intro h; cases h) (h15 : ks.length ≤ 15 := by decide) : DE Xs mg Wx (.Dict ks vs pos) (dDisp g) := by
  obtain ⟨trs, h1, h2⟩ := h
  refine ⟨_, fun i => pe_lk (pe_disp (h1 i) hall hl h0 h15), ?_⟩
  intro B ρ Q E hf W σ H Q' hh e x q p hp
  have s0 := Step.lay hh hp (o := .dK [])
  refine h2 B ρ _ E hf W σ (upd H p (.dK [])) _ s0.holds (e.step s0) (x.step s0) fun W' H' kvs ds s1 hk hr ⟨hn, k2⟩ => ?_
  obtain ⟨c1, c2, c3⟩ := s1.mine (a := p) upd_same (hh.same.free hp) (hh.nT hp)
  refine ⟨c1, kvs, rfl, by rw [len_keys hk]; exact hn, p, _, rfl, upd_same, True.intro, fun od => ?_⟩
  rw [upd_upd]
  obtain ⟨m1, m2⟩ := merge_v (us0 := []) (kvs0 := []) hk hr rfl .nil
  exact q _ _ _ _ (((s0.trans s1).own hp c1 c2 c3).taken hp upd_same c2 c3) (Rep.newDct m1 m2 c2) k2
end
end FP

/-! FP42: own exceptions with one field: made and raised; several except clauses, with and without a name; the field read. -/
namespace PySem
namespace XcM
open PySem.W PySem.Calls PyProof.Rows PySem.HandSPX Builtin Builtin.ObjectAttr
/-! ### the text of the __init__ -/
def initA (f : Str) (p1 p2 : Pos) : Arguments := { posonlyargs := [], args := [{ arg := "self", annotation := none, pos := p1 }, { arg := f, annotation := none, pos := p2 }], vararg := none, kwonlyargs := [], kw_defaults := [], kwarg := none, defaults := [] }
def initB (f : Str) (q1 q2 q3 q4 : Pos) : List Stmt := [.Assign [.Attribute (.Name "self" q1) f q2] (.Name f q3) q4]
def initS (f : Str) : Scope := { kind := .function, names := [("self", .local), (f, .local)], isGenerator := false, isCoroutine := false, more := [] }
/-- a def of this text -/
structure IsInit (f : Str) (A : Arguments) (b : List Stmt) (sc : Scope) : Prop where
  ne : f ≠ "self"
  nd : (f == ("__debug__" : Str)) = false
  a : ∃ p1 p2, A = initA f p1 p2
  b : ∃ q1 q2 q3 q4, b = initB f q1 q2 q3 q4
  s : sc = initS f
/-- what the written part says of an own exception class over a built-in one, at C, and of its __init__, at fI, that keeps its one argument -/
structure XcT (K : Frag) (C fI : Addr) (f : Str) (bmB : List Value) (newId : String) : Prop where
  ei : excInitIn K C bmB newId = true
  ov : excOver K C bmB = true
  sa : findIn K (.ref C) "__setattr__" = some (some (.builtin "object.__setattr__"))
  no : findIn K (.ref C) f = some none
  hd : hasDictIn K C = true
  iC : findIn K (.ref C) "__init__" = some (some (.ref fI))
  iF : isFn K (.ref fI) = true
  fn : ∃ (nm qual : Str) (A : Arguments) (b : List Stmt) (sc : Scope) (oc : Value) (od : Option Addr) (dV kV doc pm : Value) (an : Option Addr) (cdv ct : Value) (osl : Array (Option Value)),
    K.lookup fI = some ⟨oc, od, .func (fnOf nm qual A b sc dV kV doc pm an cdv ct), osl⟩ ∧ codeIn K cdv qual = true ∧ IsInit f A b sc ∧
      ∀ x v, bindArgs (fnOf nm qual A b sc dV kV doc pm an cdv ct) ⟨[x, v], []⟩ = pure [(("self" : Str), x), (f, v)]
section
variable {prog : Program} {w : World} {A : Around} {E : Value → Shared → Prop} {R : Result → Shared → Prop} {K : Frag} {C fI : Addr} {f : Str} {B newId initId : String} {bmB : List Value}
/-- the first field of an exception without a dict -/
theorem osa_one {hp : Heap} {g : Array GenState} {d : Drawn} {t : Nat} {os : OsState} {tk : Tok} {v : Value} {x : Addr} {fv : Array Value} (SF : StoreFacts B bmB "object.__setattr__" "object") (X : K.In hp) (T : XcT K C fI f bmB newId) (hx : hp.get? x = some { cls := .ref C, data := .fields fv })
    (hq : ∀ h' tk' dx, (∀ b o, b ≠ x → hp.get? b = some o → h'.get? b = some o) → hp.objs.size ≤ dx → dx ≠ x → h'.get? x = some { cls := .ref C, dict := some dx, data := .fields fv } →
      h'.Ns1 dx (fun y => if y = f then some v else none) → R (.ok (.ret .none)) ⟨h', g, d, tk', os⟩) :
    codeAny (model prog w) A (.call (.builtin "object.__setattr__") ⟨[.ref x, .str f tk, v], []⟩) R ⟨hp, g, d, t, os⟩ := by
  have J : InstAt hp x { cls := .ref C, data := .fields fv } C none := ⟨hx, rfl, rfl, trivial⟩
  have ht : takerIn K C f = some none := by
    unfold takerIn
    rw [T.no]
    rfl
  refine osa_openX SF X J T.ov ht fun b => ?_
  obtain ⟨cd, hc, -⟩ := any_some T.ov
  have hh : cd.hasDict = true := by
    have q := T.hd
    unfold hasDictIn at q
    rw [hc] at q
    exact q
  have hcls : Looks (model prog w) hp (classData C) cd := looks_clsIn X hc
  have hxs : x ≠ hp.objs.size := Nat.ne_of_lt (Heap.lt_size hx)
  show wpAny _ _ (storeInOwnDict (.ref x) (.ref C) (.str f tk) f v b) _ _ _
  obtain ⟨nm, bs, mro, ns, qn, hd, sn, sb, ab, col, del⟩ := cd
  dsimp only at hh
  subst hh
  unfold storeInOwnDict ownDictForStores
  repeat (first | with_reducible refine store_in_new ?_ ?_ | with_reducible refine wpAny_loadPart_at hx ?_ | with_reducible refine hcls.at ?_ | wp_step)
  · exact ⟨_, #[], _, (Heap.get?_update_ne _ _ _ _ hxs.symm).trans (Heap.get?_push_at rfl rfl), rfl, fun e he => absurd he (by simp), fun _ => rfl⟩
  · intro h' tk' hn' hs
    refine hq h' tk' hp.objs.size (fun b o hb ho => ?_) (Nat.le_refl _) hxs.symm ?_ hn'
    · exact (hs.2 b (Nat.ne_of_lt (Heap.lt_size ho))).trans ((Heap.get?_update_ne _ _ _ _ hb).trans (Heap.get?_push_of_some _ ho))
    · exact (hs.2 x hxs).trans (Heap.get?_update_self _ (Heap.get?_push_of_some _ hx) rfl)
/-- what the making leaves: the exception at e, its dict at dd -/
structure XMade (h h' : Heap) (e C dd : Addr) (f : Str) (v : Value) : Prop where
  up : ∀ b o, h.get? b = some o → h'.get? b = some o
  ge : h.objs.size ≤ e
  ob : ∃ oe vs, h'.get? e = some oe ∧ oe.cls = .ref C ∧ oe.dict = some dd ∧ oe.data = .fields vs ∧ vs[1]? = some .none
  gd : h.objs.size ≤ dd
  ne : dd ≠ e
  ns : h'.Ns1 dd (fun y => if y = f then some v else none)
theorem init_run {s : Shared} (SF : StoreFacts B bmB "object.__setattr__" "object") (T : XcT K C fI f bmB newId) {x t0 : Addr} {v : Value} (X : K.In s.heap) (hlim : s.heap.NoLimit) (hx : s.heap.get? x = some (excO C t0)) (hroom : A.depth < recursionLimit)
    (hq : ∀ h' tk dx, (∀ b o, b ≠ x → s.heap.get? b = some o → h'.get? b = some o) → h'.get? x = some { cls := .ref C, dict := some dx, data := .fields #[.ref t0, .none, .none, .none, .bool false, .none] } → s.heap.objs.size ≤ dx → dx ≠ x → h'.Ns1 dx (fun y => if y = f then some v else none) →
      R (.ok (.ret .none)) { s with heap := h', toks := tk }) :
    codeAny (model prog w) A (.call (.ref fI) ⟨[.ref x, v], []⟩) R s := by
  obtain ⟨nm, qual, A', b', sc, oc, od, dV, kV, doc, pm, an, cdv, ct, osl, ho, hcd, ⟨hne, hnd, ⟨p1, p2, rfl⟩, ⟨q1, q2, q3, q4, rfl⟩, rfl⟩, hb⟩ := T.fn
  have lk1 : (initS f).names.lookup ("self" : Str) = some NameKind.local := rfl
  have lk2 : (initS f).names.lookup f = some NameKind.local := by
    have e : (f == ("self" : Str)) = false := by simpa using hne
    simp [initS, List.lookup, e]
  refine Att.call_fn (binds := [(("self" : Str), .ref x), (f, v)]) X hlim ho hcd hroom (BindsTo.of_eq (hb _ _)) (by simp [lk1, lk2]) (fun s₁ IC => ?_) rfl rfl rfl
  obtain ⟨h₁, tk₁, rfl⟩ := IC.toInCall.same
  have k := IC.toInCall.keep
  have hn := IC.toInCall.ns
  have hx₁ := k _ _ hx
  have m1 : bindL (envOfC qual (initS f) s.heap.objs.size fI cdv).kindOf [(("self" : Str), .ref x), (f, v)] (fun _ => none) "self" = some (.ref x) := by
    have z1 : (envOfC qual (initS f) s.heap.objs.size fI cdv).kindOf "self" = some .local := lk1
    have z2 : (envOfC qual (initS f) s.heap.objs.size fI cdv).kindOf f = some .local := lk2
    simp only [bindL, z1, z2, if_pos]
    rw [if_neg (Ne.symm hne)]
  have m2 : bindL (envOfC qual (initS f) s.heap.objs.size fI cdv).kindOf [(("self" : Str), .ref x), (f, v)] (fun _ => none) f = some v := by
    have z2 : (envOfC qual (initS f) s.heap.objs.size fI cdv).kindOf f = some .local := lk2
    simp only [bindL, z2, if_pos]
  show wpAny _ _ (execs _ _) _ _ _
  refine wpAny_execs_cons (plainObj_wpAny_Assign_Attribute ?_)
  refine wpAny_Name (wpAny_loadName_local rfl lk2 hn m2 ?_) hnd
  refine wpAny_Name (wpAny_loadName_local rfl lk1 hn m1 ?_) (by decide)
  refine set_plain (X.keeps k) (ox := excO C t0) (od := none) ⟨hx₁, rfl, rfl, trivial⟩ T.sa ?_
  refine osa_one SF (X.keeps k) T hx₁ fun h₃ tk₃ dx k₃ dn dne hx₃ hn₃ => ?_
  show wpAny _ _ (execs _ _) _ _ _
  exact wpAny_execs_nil (hq h₃ tk₃ dx (fun b o hb e => k₃ b o hb (k b o e)) hx₃ (Nat.le_of_lt (Nat.lt_of_lt_of_le hn.lt dn)) dne hn₃)
theorem made_run {s : Shared} (FB : ExcBaseFacts B newId initId bmB) (SF : StoreFacts B bmB "object.__setattr__" "object") (T : XcT K C fI f bmB newId) {v : Value} (X : K.In s.heap) (hlim : s.heap.NoLimit) (hroom : A.depth + 1 < recursionLimit)
    (hq : ∀ h' tk e d, XMade s.heap h' e C d f v → R (.ok (.ret (.ref e))) { s with heap := h', toks := tk }) : codeAny (model prog w) A (.call (.ref C) ⟨[v], []⟩) R s := by
  obtain ⟨nm, N, qn, bs, bm, hdct, sn, sub, ab, col, dd, k0, k1, k2, k3, k5, hC, hT⟩ := excInit_of X T.ei
  obtain ⟨oI, hoI, hcI⟩ : ∃ oI, s.heap.get? fI = some oI ∧ oI.cls = .type "function" := by
    obtain ⟨o, z1, z2⟩ := Option.map_eq_some_iff.mp (show (K.lookup fI).map (·.cls) = some (.type "function") from beq_iff_eq.mp T.iF)
    exact ⟨o, X _ _ z1, z2⟩
  have hfind : Looks (model prog w) s.heap (typeLookup (.ref C) "__init__") (some (.ref fI)) := looks_findIn X T.iC
  obtain ⟨hp, g, dr, tk, os⟩ := s
  have up : ∀ b o, hp.get? b = some o → ((hp.push (kdv_tup [v])).push (excO C hp.objs.size)).get? b = some o := fun b o e => Heap.get?_push_of_some _ (Heap.get?_push_of_some _ e)
  have new : ((hp.push (kdv_tup [v])).push (excO C hp.objs.size)).get? (hp.objs.size + 1) = some (excO C hp.objs.size) := by heap_get
  refine call_own FB hT hC hfind (fun self => exc_bind hoI hcI self) (by rw [sizeLine_eq]; exact (by decide : 1 ≤ 16777216)) ?_
  refine init_run (s := ⟨(hp.push (kdv_tup [v])).push (excO C hp.objs.size), g, dr, tk, os⟩) SF T (X.keeps up) (hlim.keeps up) new hroom fun h' tk' dx k' hx dn dne hns => ⟨rfl, hq h' tk' (hp.objs.size + 1) dx ⟨fun b o e => ?_, Nat.le_succ _, ⟨_, _, hx, rfl, rfl, rfl, rfl⟩, ?_, dne, hns⟩⟩
  · exact k' b o (Nat.ne_of_lt (Nat.lt_succ_of_lt (Heap.lt_size e))) (up b o e)
  · have q : ((hp.push (kdv_tup [v])).push (excO C hp.objs.size)).objs.size ≤ dx := dn
    rw [Heap.size_push, Heap.size_push] at q
    exact Nat.le_trans (Nat.le_add_right hp.objs.size 2) q
end
end XcM
end PySem
namespace FP
open PySem L2
variable [Tabl]
/-- an own exception class with one field, of the text -/
structure XcF (mg : Gm) (x : Str) (C : Addr) (f : Str) (bmB : List Value) (newId : String) : Prop where
  nm : mg.mg x = some (.ref C)
  t : ∃ fI, PySem.XcM.XcT mg.K C fI f bmB newId
  kp : PySem.W.keepIn mg.K (.ref C) = true
  sb : PySem.W.subIn mg.K (.ref C) (.type "BaseException") = some true
  ty : PySem.W.typeIn mg.K (.ref C) = some (.type "type")
  ga : PySem.W.findIn mg.K (.ref C) "__getattribute__" = some (some (.builtin "BaseException.__getattribute__"))
  gg : PySem.W.findIn mg.K (.ref C) "__getattr__" = some none
section
variable {X : Cx} {C fI : Addr} {f : Str} {B newId initId : String} {bmB : List Value}
theorem relO_one {v : V} {v' : Value} (r : RelV v v') (g : Str) : RelO (List.lookup g [(f, v)]) (if g = f then some v' else none) := by
  by_cases h : g = f
  · subst h
    have q : List.lookup g [(g, v)] = some v := by simp [List.lookup]
    rw [q, if_pos rfl]
    exact r
  · have e : (g == f) = false := by simpa using h
    have q : List.lookup g [(f, v)] = none := by simp [List.lookup, e]
    rw [q, if_neg h]
    exact True.intro
/-- X(e): the exception, its dict -/
theorem pmk_one {a : Expr} {x : Str} {ta : TE} {p pos : Pos} {k : Nat} (FB : ExcBaseFacts B newId initId bmB) (SF : StoreFacts B bmB "object.__setattr__" "object") (T : PySem.XcM.XcT X.K C fI f bmB newId) (gC : X.mg x = some (.ref C)) (kC : PySem.W.keepIn X.K (.ref C) = true) (r : Raises X (.ref C)) (hr : Room k X.A) (ha : PE X a ta) (hg : Gl X x)
    (hdb : (x == ("__debug__" : Str)) = false) (hs : starEach [a] X.env = (false, eval a X.env) :: starEach [] X.env) :
    PMk X (.Call (.Name x p) [a] [] pos) (fun σ H Q => ta σ H fun v H1 => ∀ d, H1 d = none → Q (.ref C) (some d) (upd H1 d (.xd [(f, v)]))) := by
  intro pins s σ H Q I h
  refine wpAny_Call_Name_kw (ld_glob I hg gC ?_ hdb)
  refine PySem.W.callWith_K (h₀ := X.base) I.ok.mod.kin kC ?_ hs (by rfl)
  rw [hs]
  show wpAny _ _ (spliced ((false, eval a X.env) :: backTo pos (starEach [] X.env))) _ _ s
  refine Calls.spliced_cons (thn (ha.run pins s σ H _ I h) fun u s1 ⟨v, H1, I1, rv, q1⟩ => ?_)
  refine Calls.spliced_nil ⟨I1.kIn, ?_⟩
  show wpAny _ _ (call (.ref C) [u]) _ _ _
  have hlim := I1.nolimit
  obtain ⟨hp, g, dr, tk, os⟩ := s1
  refine wpAny_call (PySem.XcM.made_run FB SF T I1.kIn hlim (by have := hr.dp; omega) fun h' tk' e d M => ?_)
  show MkP X pins σ Q (.ref e) ⟨h', g, dr, tk', os⟩
  obtain ⟨oe, fv, hoe, hc, hd, hdat, h1⟩ := M.ob
  obtain ⟨G, g1, g2⟩ := restrict h' fun b => decide (b ≠ e)
  have gk : ∀ b, b ≠ e → G.get? b = h'.get? b := fun b hb => g1 b (decide_eq_true hb)
  have ge : G.get? e = none := g2 e (by simp)
  have ob : ObjOk X.prog X.w (upd H1 d (.xd [(f, v)])) G d (.xd [(f, v)]) := ⟨_, M.ns.at (fun o q => (gk d M.ne).trans q), fun y => relO_one rv y⟩
  have J : Inv X pins σ (upd H1 d (.xd [(f, v)])) ⟨G, g, dr, tk', os⟩ :=
    I1.laid (t' := tk') (fun b o q => (gk b (Nat.ne_of_lt (Nat.lt_of_lt_of_le (Heap.lt_size q) M.ge))).trans (M.up b o q)) M.gd ob
  refine ⟨e, oe, fv, ⟨G, g, dr, tk', os⟩, _, .ref C, some d, rfl, J, fun b o q => ?_, ge, hoe, ⟨hc, hd⟩, hdat, h1, ?_, rfl, I1.bare, r, q1 d (I1.hok.fresh M.gd)⟩
  · by_cases hb : b = e
    · rw [hb] at q
      exact absurd (ge.symm.trans q) (by simp)
    · exact (gk b hb).symm.trans q
  · rw [upd_ne (Ne.symm M.ne)]
    exact I1.hok.fresh M.ge
end
section
variable {ι : Type} {Xs : ι → Cx} {mg : Gm} {Wx : WX} {pos : Pos}
abbrev dRaiseA (x f : Str) (g : DTE) : DTS := fun N ρ => g ρ (fun d => N.rs ⟨x, [(f, d)]⟩ ρ) (fun y => N.rs y ρ)
theorem ds_raiseA {x f : Str} {C : Addr} {bmB : List Value} {B newId initId : String} {e : Expr} {fe : DTE} {p q : Pos} {k : Nat} (FB : ExcBaseFacts B newId initId bmB) (SF : StoreFacts B bmB "object.__setattr__" "object") (X : XcF mg x C f bmB newId) (hr : ∀ i, RmG k (Xs i).A) (tk : ∀ i, Takes (Xs i) Wx) (he : DE Xs mg Wx e fe)
    (hK : ∀ j, (Xs j).K = mg.K := by intro _; rfl) (hM : ∀ j, (Xs j).mg = mg.mg := by intro _; rfl) (hc : ∀ j, (Xs j).calm = true := by intro _; rfl) (hg : ∀ j, Gl (Xs j) x := by intro _; rfl) (hdb : (x == ("__debug__" : Str)) = false := by decide)
    (hs : ∀ j, starEach [e] (Xs j).env = (false, eval e (Xs j).env) :: starEach [] (Xs j).env := by intro _; rfl) : DS Xs mg Wx (.Raise (some (.Call (.Name x p) [e] [] q)) none pos) (dRaiseA x f fe) := by
  obtain ⟨te, e1, e2⟩ := he
  obtain ⟨fI, T⟩ := X.t
  refine ⟨_, fun i => ps_raise (pos := pos) (hc i) (tk i) (pmk_one (p := p) (pos := q) FB SF (by rw [hK i]; exact T) (by rw [hM i]; exact X.nm) (by rw [hK i]; exact X.kp) (raises_own (by rw [hK i]; exact X.sb) (by rw [hK i]; exact X.ty)) (hr i).r (e1 i) (hg i) hdb (hs i)), fun W0 B N ρ hf W σ H Ds s e n => ?_⟩
  refine e2 B ρ _ _ hf W σ H _ s.holds e (n.ex s e) fun W1 H1 v d s1 r1 k1 p hp => ?_
  have st := Step.alloc (o := .xd [(f, v)]) s1.holds hp
  refine n.rs _ _ σ ρ _ _ ⟨x, [(f, d)]⟩ ((s.trans s1).trans st) ((e.step s1).step st) ⟨C, X.nm, rfl, .inr ⟨p, [(f, v)], rfl, upd_same, rfl, .cons (r1.mono st.le) .nil⟩⟩ k1
end
end FP

/-! FP43: try with several except clauses, with and without a name; the field of the error read. -/
namespace FP
open PySem PySem.Spec PyProof.Rows L2
/-- a clause: its class, its name's place, its suite's reading -/
structure Cl where
  c : Value
  i : Option Nat
  ts : Addr → Value → Option Addr → TS
def Cl.ends (k : Cl) (D : Ends) : Ends := match k.i with
  | none => D
  | some i => { nx := fun σ H => D.nx (σ.set i none) H, rt := D.rt, bk := fun σ H => D.bk (σ.set i none) H, ct := fun σ H => D.ct (σ.set i none) H }
def Cl.slots (k : Cl) (a : Addr) (σ : L2.St) : L2.St := match k.i with
  | none => σ
  | some i => σ.set i (some (.ref a))
/-- what the clauses ask of an error, one after the other -/
def wCls (K : PySem.W.Frag) (Wout : WX) (D : Ends) : List Cl → WX
  | [] => Wout
  | k :: r => fun cls d σ H => ∃ b, PySem.W.exmOne K cls k.c = some b ∧ (b = true → ∀ a, H a = none → k.ts a cls d (k.ends D) (k.slots a σ) H) ∧ (b = false → wCls K Wout D r cls d σ H)
/-- a suite's rule, for every error that it may hold -/
def SuOk (X : Cx) (su : List Stmt) (ts : Addr → Value → Option Addr → TS) : Prop :=
  ∀ (a : Addr) (oe : Obj) (cls : Value) (d : Option Addr) (pn : List (Addr × Obj)), Zc cls d oe → (∃ vs, oe.data = .fields vs) → PSs (X.suite a ((a, oe) :: pn)) su (ts a cls d)
inductive ClsOk (X : Cx) : List ExceptHandler → List Cl → Prop
  | nil : ClsOk X [] []
  | cons {x : Str} {c : Value} {ts : Addr → Value → Option Addr → TS} {b₀ : Stmt} {su : List Stmt} {np p : Pos} {hds : List ExceptHandler} {l : List Cl} (hc : Names X x c) (hsu : SuOk X (b₀ :: su) ts) (r : ClsOk X hds l) :
      ClsOk X (.ExceptHandler (some (.Name x np)) none (b₀ :: su) p :: hds) (⟨c, none, ts⟩ :: l)
  | conA {x n : Str} {i : Nat} {c : Value} {ts : Addr → Value → Option Addr → TS} {b₀ : Stmt} {su : List Stmt} {np p : Pos} {hds : List ExceptHandler} {l : List Cl} (hc : Names X x c) (hi : X.N[i]? = some n) (hl : X.env.kindOf n = some .local) (hsu : SuOk X (b₀ :: su) ts) (r : ClsOk X hds l) :
      ClsOk X (.ExceptHandler (some (.Name x np)) (some n) (b₀ :: su) p :: hds) (⟨c, some i, ts⟩ :: l)
section
variable {X : Cx} {body : List Stmt} {h₀ : ExceptHandler} {hds : List ExceptHandler} {l : List Cl} {pos : Pos} {tb : WX → TS} {Wout : WX}
theorem ps_try_cls (hs : X.stack = X.env :: X.outer) (hf : X.env.frame = some X.env.locals) (hN : X.N.Nodup) (tk : Takes X Wout)
    (hb : ∀ (W : WX) (pn : List (Addr × Obj)) (xe : Value → Shared → Prop), Takes (X.tr pn xe) W → PassesOwn (model X.prog X.w) X.A X.env xe → PSs (X.tr pn xe) body (tb W))
    (hh : ClsOk X (h₀ :: hds) l) : PS X (.Try body (h₀ :: hds) [] [] pos) (fun D σ H => tb (wCls X.K Wout D l) D σ H) := by
  constructor
  intro pins s σ H D I h
  have ok := I.ok
  have hfr : X.A.frames = some (X.env :: X.outer) := by rw [ok.frames, hs]
  apply wpAny_Try_except
  let catch_ : Value → Shared → Prop := fun e s₁ => wpAny (model X.prog X.w) X.A (noteFrame e X.env) (fun _ s₂ => wpAny (model X.prog X.w) X.A (setFlight e none) (fun _ s₃ =>
    wpAny (model X.prog X.w) X.A (handleBy e X.env (h₀ :: hds)) (SP X pins D) X.xe s₃) X.xe s₂) X.xe s₁
  have taken : Takes (X.tr (X.pn ++ pins) catch_) (wCls X.K Wout D l) := by
    intro u s' xx
    obtain ⟨a, B, sI, pins', σ', H', cls, d, rfl, J', nb, up, sky, na, os, ag, w⟩ := xx
    have J : Inv X pins σ' H' sI := J'.ofTry ok
    have sky' : Sky B (X.env :: X.outer) a (Zc cls d) X.env.locals s'.heap := by rw [← hs]; exact sky
    show wpAny (model X.prog X.w) X.A (noteFrame (.ref a) X.env) _ _ _
    refine Sky.land Zc.steady hfr hf sky' fun h3 fl3 up3 => ?_
    have J3 : Inv X pins σ' H' { s' with heap := h3 } := J.landed nb fl3.1 (up.trans up3) os ag
    obtain ⟨oe3, vs3, he3, hz3, hd3⟩ := fl3.there
    have off : a ∉ frs (X.env :: X.outer) := fun hm => by
      obtain ⟨_, o', e', hnf⟩ := (show h3.FunFrames B (X.env :: X.outer) from fl3.2.2.1).mem hm
      rw [he3] at e'
      cases e'
      exact hnf _ hd3
    have nL : a ≠ X.env.locals := fun z => off (List.mem_filterMap.mpr ⟨X.env, List.mem_cons_self, by rw [hf, z]⟩)
    have nF : a ∉ X.fs := fun hm => by
      obtain ⟨e, he, q⟩ := List.mem_filterMap.mp hm
      exact off (List.mem_filterMap.mpr ⟨e, List.mem_cons_of_mem _ he, q⟩)
    have S3 := J3.suite he3 hd3 na nL nF
    have LT : PySem.W.Looks (model X.prog X.w) h3 (typeOf (.ref a)) cls := fun A Q E s k q => wpAny_typeOf_ref (k _ _ he3) (by rw [hz3.1]; exact q)
    have named : ∀ {x : Str} {c : Value} {np : Pos} {Q E : Value → Shared → Prop}, Names X x c → Q c { s' with heap := h3 } → wpAny (model X.prog X.w) (X.A.mark (some (.ref a))) (eval (.Name x np) X.env) Q E { s' with heap := h3 } := fun {x c np Q E} hc q => by
      rcases hc with ⟨hg, hdbg, hm | ⟨hm, hv, hnn⟩⟩
      · exact ld_glob (X := X.suite a ((a, oe3) :: (X.pn ++ pins))) S3 hg hm q hdbg
      · exact ld_blt (X := X.suite a ((a, oe3) :: (X.pn ++ pins))) S3 hg hm hv q hnn hdbg
    -- one clause's suite, where it is taken
    have landS : ∀ {A : Around} {E : Value → Shared → Prop} {Q : Unit → Shared → Prop}, (∀ h4 oe4, Inv X pins σ' H' { s' with heap := h4 } → Inv (X.suite a ((a, oe4) :: (X.pn ++ pins))) [] σ' H' { s' with heap := h4 } → Zc cls d oe4 → (∃ vs, oe4.data = .fields vs) → Q () { s' with heap := h4 }) →
        wpAny (model X.prog X.w) A (setFlight (.ref a) none) Q E { s' with heap := h3 } := fun {A E Q} hq => by
      refine HandSPX.lands_againZ fl3 fun h4 fl4 up4 => ?_
      have J4 : Inv X pins σ' H' { s' with heap := h4 } := J.landed nb fl4.1 ((up.trans up3).trans up4) os ag
      obtain ⟨oe4, vs4, he4, hz4, hd4⟩ := fl4.there
      exact hq h4 oe4 J4 (J4.suite he4 hd4 na nL nF) hz4 ⟨_, hd4⟩
    have go : ∀ {hs' : List ExceptHandler} {l' : List Cl}, ClsOk X hs' l' → wCls X.K Wout D l' cls d σ' H' →
        wpAny (model X.prog X.w) X.A (handleBy (.ref a) X.env hs') (SP X pins D) X.xe { s' with heap := h3 } := by
      intro hs' l' hk
      induction hk with
      | nil =>
        intro w
        apply wpAny_handleBy_nil
        obtain ⟨k1, k2, k3, oe, vs, T, oT, ts', he, hz, hd, h1, hr⟩ := id fl3
        unfold PySem.passOn
        refine wpAny_bind (wpAny_field he hd h1 ?_)
        rw [if_neg (show ¬ ((Value.ref T == Value.none) = true) from by simp)]
        have out : wpAny (model X.prog X.w) X.A (setFlight (.ref a) X.env.frame) (fun _ s4 => wpAny (model X.prog X.w) X.A (throw (.ref a) : Sem Flow) (SP X pins D) X.xe s4) X.xe { s' with heap := h3 } := by
          rw [hf]
          refine HandSPX.setFlight_upZ fl3 fun h4 hh4 up4 => wpAny_throw (tk _ _ ?_)
          exact ⟨a, B, sI, pins, σ', H', cls, d, rfl, J, nb, (up.trans up3).trans up4, .inr (.inr (by rw [hs]; exact hh4)), na, os, ag, w⟩
        first
          | exact wpAny_bind (wpAny_pure (wpAny_bind out))
          | exact wpAny_bind out
      | @cons x c ts b₀ su np p hds2 l2 hc hsu r ih =>
        rintro ⟨b, hb1, hyes, hno⟩
        refine wpAny_handleBy_cons (codeAny_handlers_test ?_) (by intro q; cases q)
        refine named hc ((PySem.W.exm_one (M := model X.prog X.w) J3.kIn LT hb1).here ?_)
        cases b with
        | false =>
          show wpAny _ X.A (handleBy (.ref a) X.env hds2) _ _ _
          exact ih (hno rfl)
        | true =>
          refine codeAny_handlers_suite (landS fun h4 oe4 J4 S4 hz4 hd4 => ?_)
          refine wpAny_mono ((hsu a oe4 cls d (X.pn ++ pins) hz4 hd4).run [] _ _ H' _ S4 (hyes rfl a na)) (fun f s6 hsp => ?_) fun _ _ z => z.elim
          cases f with
          | next => exact hsp.elim fun σ6 ⟨H6, S6, q6⟩ => ⟨_, _, S6.unsuite ok, q6⟩
          | brk => exact hsp.elim fun σ6 ⟨H6, S6, q6⟩ => ⟨_, _, S6.unsuite ok, q6⟩
          | cont => exact hsp.elim fun σ6 ⟨H6, S6, q6⟩ => ⟨_, _, S6.unsuite ok, q6⟩
          | ret u => exact hsp.elim fun v6 ⟨σ6, H6, S6, r6, q6⟩ => ⟨_, _, _, S6.unsuite ok, r6, q6⟩
      | @conA x n i c ts b₀ su np p hds2 l2 hc hi hln hsu r ih =>
        rintro ⟨b, hb1, hyes, hno⟩
        refine wpAny_handleBy_cons (codeAny_handlers_test ?_) (by intro q; cases q)
        refine named hc ((PySem.W.exm_one (M := model X.prog X.w) J3.kIn LT hb1).here ?_)
        cases b with
        | false =>
          show wpAny _ X.A (handleBy (.ref a) X.env hds2) _ _ _
          exact ih (hno rfl)
        | true =>
          refine codeAny_handlers_suite_as (landS fun h4 oe4 J4 S4 hz4 hd4 => ?_)
          refine store_ok (X := X.suite a ((a, oe4) :: (X.pn ++ pins))) (v := .ref a) S4 hN hi (.inl hln) rfl (fun s5 S5 => ?_) (.inr hln)
          refine wpAny_mono ((hsu a oe4 cls d (X.pn ++ pins) hz4 hd4).run [] s5 _ H' _ S5 (hyes rfl a na)) (fun f s6 hsp => ?_) fun _ _ z => z.elim
          have gone : ∀ {σ6 : L2.St} {H6 : Hp} {Q : Shared → Prop}, Inv (X.suite a ((a, oe4) :: (X.pn ++ pins))) [] σ6 H6 s6 → (∀ s7, Inv X pins (σ6.set i none) H6 s7 → Q s7) →
              wpAny (model X.prog X.w) X.A (do bindName X.env n .none; unbindBehindTheSuite X.env n p) (fun _ s7 => Q s7) X.xe s6 := fun {σ6 H6 Q} S6 hq => gone_ok (S6.unsuite ok) hN hi hln hq
          cases f with
          | next => exact hsp.elim fun σ6 ⟨H6, S6, q6⟩ => gone S6 fun s7 J7 => ⟨_, _, J7, q6⟩
          | brk => exact hsp.elim fun σ6 ⟨H6, S6, q6⟩ => gone S6 fun s7 J7 => ⟨_, _, J7, q6⟩
          | cont => exact hsp.elim fun σ6 ⟨H6, S6, q6⟩ => gone S6 fun s7 J7 => ⟨_, _, J7, q6⟩
          | ret u => exact hsp.elim fun v6 ⟨σ6, H6, S6, r6, q6⟩ => gone S6 fun s7 J7 => ⟨_, _, _, J7, r6, q6⟩
    exact go hh w
  refine wpAny_mono ((hb (wCls X.K Wout D l) (X.pn ++ pins) catch_ taken PassesOwn.looking).run [] s σ H D (I.toTry _) h) (fun f s1 hsp => ?_) fun e s1 he => he
  cases f with
  | next => exact hsp.elim fun σ' ⟨H', J', q⟩ => wpAny_execs_nil ⟨σ', H', J'.ofTry ok, q⟩
  | brk => exact hsp.elim fun σ' ⟨H', J', q⟩ => ⟨σ', H', J'.ofTry ok, q⟩
  | cont => exact hsp.elim fun σ' ⟨H', J', q⟩ => ⟨σ', H', J'.ofTry ok, q⟩
  | ret u => exact hsp.elim fun v ⟨σ', H', J', r, q⟩ => ⟨v, σ', H', J'.ofTry ok, r, q⟩
end
variable [Tabl]
/-! ### by data -/
/-- a clause by data: which errors it takes; what its suite does with one -/
structure ClD where
  yes : Str → Bool
  run : XD → DTS
def dCls (N : Nd) : List ClD → XD → Env → Prop
  | [], x, ρ => N.rs x ρ
  | c :: r, x, ρ => bit (c.yes x.cls) (c.run x N ρ) (dCls N r x ρ)
abbrev dTryM (cs : List Str) (l : List ClD) (fb : DTS) : DTS := fun N ρ => fb { N with rs := fun x ρ' => x.cls ∈ cs ∧ dCls N l x ρ' } ρ
abbrev suA (cls : Value) (d : Option Addr) (ι : Type) : Type := { j : ι × Obj × List (Addr × Obj) // Zc cls d j.2.1 ∧ ∃ vs, j.2.1.data = .fields vs }
abbrev suB (Xs : ι → Cx) (a : Addr) (cls : Value) (d : Option Addr) : suA cls d ι → Cx := fun j => (Xs j.1.1).suite a ((a, j.1.2.1) :: j.1.2.2)
section
variable {ι : Type} {Xs : ι → Cx} {mg : Gm} {Wx : WX} {pos : Pos}
/-- a clause keeps its reading by data -/
structure CpCl (mg : Gm) (cs : List Str) (k : Cl) (g : ClD) : Prop where
  cl : ∀ x ∈ cs, ∃ C, mg.mg x = some (.ref C) ∧ PySem.W.exmOne mg.K (.ref C) k.c = some (g.yes x)
  su : ∀ (Wx : WX) W0 B N ρ x, g.run x N ρ → ∀ W σ H Ds a cls d, Step W0 B W H → EnvR mg B W H σ ρ → EndsR mg Wx W0 B N Ds → RepX mg W H cls d x → k.ts a cls d (k.ends Ds) (k.slots a σ) H
inductive CpCls (mg : Gm) (cs : List Str) : List Cl → List ClD → Prop
  | nil : CpCls mg cs [] []
  | cons {k : Cl} {g : ClD} {l : List Cl} {gs : List ClD} : CpCl mg cs k g → CpCls mg cs l gs → CpCls mg cs (k :: l) (g :: gs)
def DHs (Xs : ι → Cx) (mg : Gm) (cs : List Str) (hds : List ExceptHandler) (gs : List ClD) : Prop := ∃ l, (∀ i, ClsOk (Xs i) hds l) ∧ CpCls mg cs l gs
theorem dh_nil {cs : List Str} : DHs Xs mg cs [] [] := ⟨[], fun _ => .nil, .nil⟩
abbrev clD (yes : Str → Bool) (f : DTS) : ClD := ⟨yes, fun _ N ρ => f { N with rs := fun _ _ => False } ρ⟩
theorem dh_cons {x : Str} {c : Value} {cs : List Str} {yes : Str → Bool} {b₀ : Stmt} {su : List Stmt} {np p : Pos} {hds : List ExceptHandler} {f : DTS} {gs : List ClD} (hc : ∀ j, Names (Xs j) x c) (K : CatF mg c cs yes) (hsu : DSs (suF Xs) mg Wx0 (b₀ :: su) f) (r : DHs Xs mg cs hds gs) :
    DHs Xs mg cs (.ExceptHandler (some (.Name x np)) none (b₀ :: su) p :: hds) (clD yes f :: gs) := by
  obtain ⟨ts, s1, s2⟩ := hsu
  obtain ⟨l, l1, l2⟩ := r
  refine ⟨⟨c, none, fun _ _ _ => ts⟩ :: l, fun i => .cons (hc i) (fun a oe cls d pn _ hv => s1 ⟨(i, a, oe, pn), hv⟩) (l1 i), .cons ⟨K.cl, fun Wx W0 B N ρ x hr W σ H Ds a cls d s e n _ => ?_⟩ l2⟩
  exact s2 W0 B _ ρ hr W σ H Ds s e ⟨n.nx, n.rt, n.bk, n.ct, fun _ _ _ _ _ _ _ _ _ _ k => k.elim⟩
/-- .. as n: the error's place -/
abbrev clA (yes : Str → Bool) (i : Nat) (f : Addr → Value → Option Addr → DTS) : ClD :=
  ⟨yes, fun x N ρ => ∀ a cls d, f a cls d ⟨fun ρ' => N.nx (ρ'.set i .no), N.rt, fun ρ' => N.bk (ρ'.set i .no), fun ρ' => N.ct (ρ'.set i .no), fun _ _ => False⟩ (ρ.set i (.exc a cls d x.cls x.fs))⟩
theorem dh_as {x n : Str} {i : Nat} {c : Value} {cs : List Str} {yes : Str → Bool} {b₀ : Stmt} {su : List Stmt} {np p : Pos} {hds : List ExceptHandler} {f : Addr → Value → Option Addr → DTS} {gs : List ClD} (hc : ∀ j, Names (Xs j) x c) (K : CatF mg c cs yes)
    (hsu : ∀ a cls d, DSs (suB Xs a cls d) mg Wx0 (b₀ :: su) (f a cls d)) (r : DHs Xs mg cs hds gs) (hi : ∀ j, (Xs j).N[i]? = some n := by intro _; rfl) (hl : ∀ j, (Xs j).env.kindOf n = some .local := by intro _; rfl) :
    DHs Xs mg cs (.ExceptHandler (some (.Name x np)) (some n) (b₀ :: su) p :: hds) (clA yes i f :: gs) := by
  have hts : ∃ ts : Addr → Value → Option Addr → TS, (∀ a cls d j, PSs (suB Xs a cls d j) (b₀ :: su) (ts a cls d)) ∧ ∀ a cls d, CpS mg Wx0 (ts a cls d) (f a cls d) :=
    ⟨fun a cls d => (hsu a cls d).choose, fun a cls d => (hsu a cls d).choose_spec.1, fun a cls d => (hsu a cls d).choose_spec.2⟩
  obtain ⟨ts, s1, s2⟩ := hts
  obtain ⟨l, l1, l2⟩ := r
  refine ⟨⟨c, some i, ts⟩ :: l, fun j => .conA (hc j) (hi j) (hl j) (fun a oe cls d pn hz hv => s1 a cls d ⟨(j, oe, pn), hz, hv⟩) (l1 j), .cons ⟨K.cl, fun Wx W0 B N ρ x hr W σ H Ds a cls d s e n rx => ?_⟩ l2⟩
  exact s2 a cls d W0 B _ _ (hr a cls d) W _ H _ s (e.put rfl ⟨rfl, rx⟩) ⟨fun W' H' σ' ρ' s' e' k => n.nx W' H' _ _ s' e'.no k, n.rt, fun W' H' σ' ρ' s' e' k => n.bk W' H' _ _ s' e'.no k, fun W' H' σ' ρ' s' e' k => n.ct W' H' _ _ s' e'.no k, fun _ _ _ _ _ _ _ _ _ _ k => k.elim⟩
theorem cls_all {cs : List Str} {N : Nd} {Ds : Ends} {W0 : Wd} {B : Hp} (n : EndsR mg Wx W0 B N Ds) : ∀ {l : List Cl} {gs : List ClD}, CpCls mg cs l gs → ∀ {W' H' σ' ρ' cls dd x}, Step W0 B W' H' → EnvR mg B W' H' σ' ρ' → RepX mg W' H' cls dd x → x.cls ∈ cs → dCls N gs x ρ' → wCls mg.K Wx Ds l cls dd σ' H'
  | [], [], .nil, W', H', σ', ρ', cls, dd, x, s, e, r, _, k => n.rs W' H' σ' ρ' cls dd x s e r k
  | k :: l, g :: gs, .cons c cr, W', H', σ', ρ', cls, dd, x, s, e, r, hm, hk => by
    obtain ⟨C, hC, hy⟩ := c.cl _ hm
    obtain ⟨C', h1, h2, h3⟩ := id r
    rw [hC] at h1
    cases h1
    subst h2
    refine ⟨_, hy, fun hb a ha => ?_, fun hb => ?_⟩
    · have hk2 : bit (g.yes x.cls) (g.run x N ρ') (dCls N gs x ρ') := hk
      rw [hb] at hk2
      exact c.su Wx W0 B N ρ' x hk2 W' σ' H' Ds a _ dd s e n r
    · have hk2 : bit (g.yes x.cls) (g.run x N ρ') (dCls N gs x ρ') := hk
      rw [hb] at hk2
      exact cls_all n cr s e r hm hk2
theorem ds_tryM {cs : List Str} {body : List Stmt} {h₀ : ExceptHandler} {hds : List ExceptHandler} {fb : DTS} {gs : List ClD} (tk : ∀ i, Takes (Xs i) Wx) (hb : ∀ W : WX, DSs (trF Xs W) mg W body fb) (hh : DHs Xs mg cs (h₀ :: hds) gs) (hN : ∀ j, (Xs j).N.Nodup)
    (hK : ∀ j, (Xs j).K = mg.K := by intro _; rfl) (hs : ∀ j, (Xs j).stack = (Xs j).env :: (Xs j).outer := by intro _; rfl) (hf : ∀ j, (Xs j).env.frame = some (Xs j).env.locals := by intro _; rfl) : DS Xs mg Wx (.Try body (h₀ :: hds) [] [] pos) (dTryM cs gs fb) := by
  obtain ⟨l, l1, l2⟩ := hh
  have hbt : ∃ tb : WX → TS, (∀ W, ∀ i, PSs (trF Xs W i) body (tb W)) ∧ ∀ W, CpS mg W (tb W) fb := ⟨fun W => (hb W).choose, fun W => (hb W).choose_spec.1, fun W => (hb W).choose_spec.2⟩
  obtain ⟨tb, b1, b2⟩ := hbt
  refine ⟨fun D σ H => tb (wCls mg.K Wx D l) D σ H, fun i => ?_, fun W0 B N ρ hf W σ H Ds s e n => ?_⟩
  · have z := ps_try_cls (X := Xs i) (pos := pos) (tb := tb) (Wout := Wx) (hs i) (hf i) (hN i) (tk i) (fun W pn xe h1 h2 => b1 W ⟨(i, pn, xe), h1, h2⟩) (l1 i)
    rw [hK i] at z
    exact z
  · exact b2 _ W0 B _ ρ hf W σ H Ds s e ⟨n.nx, n.rt, n.bk, n.ct, fun W' H' σ' ρ' cls dd y s' e' r k => cls_all n l2 s' e' r k.1 k.2⟩
/-- n.f, n the error of the suite, of the class x -/
abbrev dXf (a : Addr) (cls : Value) (d : Option Addr) (i : Nat) (x f : Str) : DTE := fun ρ Q _ => match ρ[i]? with
  | some (.exc a' cls' d' c fs) => a' = a ∧ cls' = cls ∧ d' = d ∧ c = x ∧ ∃ v, fs.lookup f = some v ∧ Q v
  | _ => False
theorem keys_lookup {vs : List (Str × V)} {fs : List (Str × D)} {W : Wd} {f : Str} {v : D} (h : vs.map (·.1) = fs.map (·.1)) (r : Reps mg W (vs.map (·.2)) (fs.map (·.2))) (e : fs.lookup f = some v) : ∃ u, vs.lookup f = some u ∧ Rep mg W u v := by
  induction vs generalizing fs with
  | nil =>
    cases fs with
    | nil => cases e
    | cons => cases h
  | cons p vs ih =>
    cases fs with
    | nil => cases h
    | cons q fs =>
      obtain ⟨g, u⟩ := p
      obtain ⟨g', y⟩ := q
      obtain ⟨rfl, h2⟩ := List.cons.inj h
      cases r with
      | cons r1 rs =>
        by_cases z : (f == g) = true
        · simp only [List.lookup, z] at e ⊢
          cases e
          exact ⟨u, rfl, r1⟩
        · simp only [Bool.not_eq_true] at z
          simp only [List.lookup, z] at e ⊢
          exact ih h2 rs e
theorem de_xf {x nm f : Str} {C : Addr} {bmB : List Value} {newId : String} {i : Nat} {a : Addr} {cls : Value} {d : Option Addr} {p : Pos} (F : XcF mg x C f bmB newId) (hN : ∀ j, (Xs j).N[i]? = some nm := by intro _; rfl) (hv : ∀ j, Vis (Xs j).env.scope nm := by intro _; first | exact Or.inl rfl | exact Or.inr (Or.inl rfl) | exact Or.inr (Or.inr rfl))
    (hd : (nm == ("__debug__" : Str)) = false := by decide) (hcd : (nm == ("__classdict__" : Str)) = false := by decide) (hK : ∀ j, (Xs j).K = mg.K := by intro _; rfl) (hb : ∀ j, attributeBase (.Name nm p) f (Xs j).env (eval (.Name nm p) (Xs j).env) = eval (.Name nm p) (Xs j).env := by intro _; rfl) :
    DE (suB Xs a cls d) mg Wx0 (.Attribute (.Name nm p) f pos) (dXf a cls d i x f) := by
  obtain ⟨fI, T⟩ := F.t
  refine ⟨tXf a cls d C f (tVar i), fun j => ?_, fun B ρ Q E h W σ H Q' hh e _ q => ?_⟩
  · exact pe_xf (X := Xs j.1.1) (by rw [hK]; exact ⟨F.ga, F.gg, F.sb, T.hd⟩) (by rw [hK]; exact T.no) j.2.1 j.2.2 (pe_var (hN j.1.1) (hv j.1.1) hd hcd) (hb j.1.1)
  · unfold dXf at h
    split at h
    · rename_i a' cls' d' c fs hz
      obtain ⟨rfl, rfl, rfl, rfl, v, hl, hq⟩ := h
      obtain ⟨o, h1, h2, C', h3, h4, h5⟩ := e.sl i _ hz
      rw [F.nm] at h3
      cases h3
      rcases h5 with ⟨h5, _⟩ | ⟨dd, vs, h5, h6, h7, h8⟩
      · rw [h5] at hl
        cases hl
      · obtain ⟨u, hu, ru⟩ := keys_lookup h7 h8 hl
        refine ⟨.ref a', by rw [h1, h2], rfl, h4, dd, vs, u, h5, hh.same _ _ h6, hu, q W H u v (Step.refl hh) ru hq⟩
    · exact h.elim
end
end FP

/-! FP44: zip of lists and tuples, in any mixture. -/
namespace FP
open PySem PySem.Spec PyProof.Rows L2
/-- a list or a tuple -/
inductive Sd where
  | l | t
def Sd.sq (K : PySem.W.Frag) (H : Hp) (a : Addr) (xs : List V) : Sd → Prop
  | .l => SqL K H a xs
  | .t => SqT K H a xs
def Sd.is (h : Heap) (a : Addr) (its : Array Value) : Sd → Prop
  | .l => h.IsList a its
  | .t => h.IsTuple a its
def Sd.it (h : Heap) (i a : Addr) (n : Nat) : Sd → Prop
  | .l => h.IsListIter i a n
  | .t => h.IsTupleIter i a n
def Sd.ob (a : Addr) : Sd → Obj
  | .l => { cls := .type "list_iterator", data := .fields #[.ref a, .int 0 0] }
  | .t => { cls := .type "tuple_iterator", data := .fields #[.ref a, .int 0 0] }
theorem Sd.draws {prog : Program} {w : World} {A : Around} (s : Sd) (hh : A.handled = none) (i a : Addr) (ne : a ≠ i) (its : Array Value) : Draws prog w A i [i, a] its.size (fun k v => its[k]? = some v) (fun k h => s.it h i a k ∧ s.is h a its) := by
  cases s with
  | l => exact .list hh i a ne its
  | t => exact .tuple hh i a ne its
theorem Sd.begins (s : Sd) (a : Addr) (its : Array Value) : Begins (.ref a) (s.ob a) (fun h => s.is h a its) := by
  cases s with
  | l => exact begins_list a its
  | t => exact begins_tuple a its
theorem Sd.first {h : Heap} {i a : Addr} {s : Sd} (e : h.get? i = some (s.ob a)) : s.it h i a 0 := by
  cases s with
  | l => exact ⟨_, e, rfl, rfl⟩
  | t => exact ⟨_, e, rfl, rfl⟩
theorem Sd.it_at {h h' : Heap} {i a : Addr} {n : Nat} {s : Sd} (x : s.it h i a n) (k : ∀ o, h.get? i = some o → h'.get? i = some o) : s.it h' i a n := by
  cases s with
  | l => exact (show h.IsListIter i a n from x).at k
  | t => exact (show h.IsTupleIter i a n from x).at k
theorem Sd.it_ob {h : Heap} {i a : Addr} {n : Nat} {s : Sd} (x : s.it h i a n) : ∃ o, h.get? i = some o ∧ ∀ v, o.data ≠ .cell v := by
  cases s with
  | l =>
    obtain ⟨o, e, _, d⟩ := (show h.IsListIter i a n from x)
    exact ⟨o, e, fun v q => by rw [d] at q; cases q⟩
  | t =>
    obtain ⟨o, e, _, d⟩ := (show h.IsTupleIter i a n from x)
    exact ⟨o, e, fun v q => by rw [d] at q; cases q⟩
theorem Sd.is_lt {h : Heap} {a : Addr} {its : Array Value} {s : Sd} (x : s.is h a its) : a < h.objs.size := by
  cases s with
  | l =>
    obtain ⟨o, e, _⟩ := (show h.IsList a its from x)
    exact Heap.lt_size e
  | t =>
    obtain ⟨o, e, _⟩ := (show h.IsTuple a its from x)
    exact Heap.lt_size e
theorem Sd.look {X : Cx} {pins : List (Addr × Obj)} {σ : L2.St} {H : Hp} {z : Shared} {a : Addr} {xs : List V} {s : Sd} (I : Inv X pins σ H z) (q : s.sq X.K H a xs) : ∃ its : List Value, Vals xs its ∧ s.is z.heap a its.toArray := by
  cases s with
  | l =>
    obtain ⟨its, rv, p, _⟩ := I.list q
    exact ⟨its, rv, p.isList⟩
  | t =>
    obtain ⟨its, rv, p, _⟩ := I.tuple q
    exact ⟨its, rv, p⟩
theorem Sd.inj {X : Cx} {pins : List (Addr × Obj)} {σ : L2.St} {H : Hp} {z : Shared} {a : Addr} {xs ys : List V} {s : Sd} (I : Inv X pins σ H z) (p : s.sq X.K H a xs) (q : s.sq X.K H a ys) : xs = ys := by
  cases s with
  | l => exact I.list_inj p q
  | t => exact I.tuple_inj p q
/-- what stands at a and b at each turn, in new pairs -/
def ItzS (K : PySem.W.Frag) (s1 s2 : Sd) (a b : Addr) : It :=
  ⟨fun i H => ∃ (xs ys : List V) (x y : V), s1.sq K H a xs ∧ s2.sq K H b ys ∧ xs[i]? = some x ∧ ys[i]? = some y,
    fun i H v H' => ∃ T x y, v = .ref T ∧ H T = none ∧ H' = upd H T (.tup [x, y]) ∧ (∀ xs, s1.sq K H a xs → xs[i]? = some x) ∧ ∀ ys, s2.sq K H b ys → ys[i]? = some y,
    fun i H => ∃ xs ys : List V, s1.sq K H a xs ∧ s2.sq K H b ys ∧ i = min xs.length ys.length⟩
theorem sep_of {z TI TO i1 i2 a b : Addr} (D : ZipApart z TI TO i1 i2 a b) : ZipSep2 z TI TO i1 i2 [i1, a] [i2, b] where
  TIz := D.TIz
  TOz := D.TOz
  TITO := D.TITO
  TIi1 := D.TIi1
  mem1 := List.mem_cons_self
  zf1 := by simp [Ne.symm D.i1z, Ne.symm D.l1z]
  Tf1 := by simp [D.TOi1, Ne.symm D.l1TO]
  TIi2 := D.TIi2
  mem2 := List.mem_cons_self
  zf2 := by simp [Ne.symm D.i2z, Ne.symm D.l2z]
  Tf2 := by simp [D.TOi2, Ne.symm D.l2TO]
  sep1_2 := by simp [D.i12, Ne.symm D.l2i1]
  sep2_1 := by simp [Ne.symm D.i12, Ne.symm D.l1i2]
theorem five {c z TI TO i1 i2 : Addr} {P : Addr → Prop} (hz : P z) (h1 : P TI) (h2 : P TO) (h3 : P i1) (h4 : P i2) (h : c ∈ [z, TI, TO, i1, i2]) : P c := by
  rcases List.mem_cons.mp h with e | h
  · rw [e]; exact hz
  rcases List.mem_cons.mp h with e | h
  · rw [e]; exact h1
  rcases List.mem_cons.mp h with e | h
  · rw [e]; exact h2
  rcases List.mem_cons.mp h with e | h
  · rw [e]; exact h3
  · rw [List.mem_singleton.mp h]; exact h4
theorem turn_zipS {P : Program} {w : World} {K : PySem.W.Frag} {elts : List Expr} {kk : Nat} {tpos : Pos} {s1 s2 : Sd} {a b z TI TO i1 i2 : Addr} (D : ZipApart z TI TO i1 i2 a b) :
    Turn P w K (.Tuple elts kk tpos) (ItzS K s1 s2 a b) [z, TI, TO, i1, i2] z (fun i h => IsZip h z TI TO .none ∧ IsTupOf2 h TI (.ref i1) (.ref i2) ∧ (∃ x y, IsTupOf2 h TO x y) ∧ s1.it h i1 a i ∧ s2.it h i2 b i) where
  mem := List.mem_cons_self
  obj := fun i h ⟨hz, hTI, ⟨x, y, hTO⟩, h1, h2⟩ c hc => five (P := fun c => ∃ o, h.get? c = some o ∧ ∀ v, o.data ≠ .cell v) ⟨_, hz, fun v q => nomatch q⟩ ⟨_, hTI, fun v q => nomatch q⟩ ⟨_, hTO, fun v q => nomatch q⟩ (Sd.it_ob h1) (Sd.it_ob h2) hc
  keep := fun i h h' ⟨hz, hTI, ⟨x, y, hTO⟩, h1, h2⟩ k => ⟨k z (by simp) _ hz, k TI (by simp) _ hTI, ⟨x, y, k TO (by simp) _ hTO⟩, Sd.it_at h1 fun o q => k i1 (by simp) o q, Sd.it_at h2 fun o q => k i2 (by simp) o q⟩
  item := by
    intro X hP hw hK hc i pins s σ H E I hf st hg
    subst hP hw hK
    obtain ⟨hz, hTI, ⟨x0, y0, hTO⟩, h1, h2⟩ := st
    obtain ⟨xs, ys, x, y, hqx, hqy, hx, hy⟩ := hg
    obtain ⟨its, rv, p⟩ := Sd.look I hqx
    obtain ⟨its2, rv2, p2⟩ := Sd.look I hqy
    obtain ⟨u, hu, ru⟩ := rv.get hx
    obtain ⟨u2, hu2, ru2⟩ := rv2.get hy
    have hzl : z < s.heap.objs.size := Heap.lt_size hz
    have hh : X.A.in1.handled = none := I.ok.hd hc
    have lt1 : i < its.toArray.size := by simpa using (List.getElem?_eq_some_iff.mp hu).1
    have lt2 : i < its2.toArray.size := by simpa using (List.getElem?_eq_some_iff.mp hu2).1
    refine wpAny_pyNext_zipD2_item (sep_of D) (s1.draws hh i1 a D.l1i1 its.toArray) (s2.draws hh i2 b D.l2i2 its2.toArray) hz hTI hTO ⟨h1, p⟩ ⟨h2, p2⟩ lt1 lt2 fun v1 v2 h' tk e1 e2 z' TO' st1 st2 hT hsz hk => ?_
    obtain rfl : u = v1 := by simpa [hu] using e1
    obtain rfl : u2 = v2 := by simpa [hu2] using e2
    refine ⟨_, rfl, wpAny_letOwnedTupleGo_zip (s := { s with heap := h', toks := tk }) z' fun h'' z'' sb => ?_⟩
    have hT2 : h''.get? s.heap.objs.size = some { cls := .type "tuple", data := .seq #[u, u2] } := (sb.2 _ (Nat.ne_of_gt hzl)).trans hT
    have new : ObjOk X.prog X.w (upd H s.heap.objs.size (.tup [x, y])) h'' s.heap.objs.size (.tup [x, y]) :=
      ⟨by show 2 ≤ sizeLine; decide, [u, u2], .cons ru (.cons ru2 .nil), ⟨_, hT2, rfl, _, rfl⟩⟩
    have keep : ∀ c o, c ∉ [z, TI, TO, i1, i2] → s.heap.get? c = some o → h''.get? c = some o := fun c o hb q => (sb.2 c (fun q' => hb (by simp [q']))).trans (hk c o (fun q' => hb (by simp [q'])) (fun q' => hb (by simp [q'])) (fun q' => hb (by simp [q'])) (fun q' => hb (by simp [q'])) q)
    have I1 : Inv X pins σ (upd H s.heap.objs.size (.tup [x, y])) { s with heap := h'', toks := tk } := I.turnedNew (t' := tk) (ch := [z, TI, TO, i1, i2]) keep hf (Nat.le_refl _) new
    refine ⟨.ref s.heap.objs.size, _, I1, rfl, ⟨_, x, y, rfl, I.hok.fresh (Nat.le_refl _), rfl, fun l hl => by rw [Sd.inj I hl hqx]; exact hx, fun l hl => by rw [Sd.inj I hl hqy]; exact hy⟩, ⟨z'', ?_, ⟨u, u2, ?_⟩, ?_, ?_⟩, fun c hcm => ?_⟩
    · exact (sb.2 _ D.TIz).trans (hk _ _ D.TIz D.TITO D.TIi1 D.TIi2 hTI)
    · exact (sb.2 _ D.TOz).trans TO'
    · exact Sd.it_at st1.1 fun o q => (sb.2 _ D.i1z).trans q
    · exact Sd.it_at st2.1 fun o q => (sb.2 _ D.i2z).trans q
    · have lt3 : ∀ {c o}, s.heap.get? c = some o → c < s.heap.objs.size := fun e => Heap.lt_size e
      obtain ⟨o1, y1, _⟩ := Sd.it_ob h1
      obtain ⟨o2, y2, _⟩ := Sd.it_ob h2
      have hlt : c < s.heap.objs.size := five (P := fun c => c < s.heap.objs.size) hzl (lt3 hTI) (lt3 hTO) (lt3 y1) (lt3 y2) hcm
      rw [upd_ne (Nat.ne_of_lt hlt)]
      exact (hf c hcm).1
  done := by
    intro X hP hw hK hc i pins s σ H E I hf st hg
    subst hP hw hK
    obtain ⟨hz, hTI, ⟨x0, y0, hTO⟩, h1, h2⟩ := st
    obtain ⟨xs, ys, hqx, hqy, hend⟩ := hg
    obtain ⟨its, rv, p⟩ := Sd.look I hqx
    obtain ⟨its2, rv2, p2⟩ := Sd.look I hqy
    have hh : X.A.in1.handled = none := I.ok.hd hc
    have l1 := rv.length
    have l2 := rv2.length
    have n1 : its.toArray.size = xs.length := by simpa using l1.symm
    have n2 : its2.toArray.size = ys.length := by simpa using l2.symm
    refine wpAny_pyNext_zipD2_end (sep_of D) (s1.draws hh i1 a D.l1i1 its.toArray) (s2.draws hh i2 b D.l2i2 its2.toArray) hz hTI hTO ⟨h1, p⟩ ⟨h2, p2⟩ (by rw [n1]; omega) (by rw [n2]; omega) (by rw [n1, n2]; omega) fun h' tk hk => ⟨rfl, ?_⟩
    exact I.turnedL (t' := tk) (ch := [z, TI, TO, i1, i2]) (fun c o hb q => hk c o (fun q' => hb (by simp [q'])) (fun q' => hb (by simp [q'])) (fun q' => hb (by simp [q'])) (fun q' => hb (by simp [q'])) q) hf
  self := fun A i s Q E st h => wpAny_pyIter_zip st.1 h
/-- zip(a, b) is made -/
theorem zip_made {X : Cx} {pins : List (Addr × Obj)} {σ : L2.St} {H : Hp} {s : Shared} {s1 s2 : Sd} {a b : Addr} {xs ys : List V} {Q E : Value → Shared → Prop} (I : Inv X pins σ H s) (hqx : s1.sq X.K H a xs) (hqy : s2.sq X.K H b ys)
    (h : ∀ z TI TO i1 i2 s', ZipApart z TI TO i1 i2 a b → Inv X pins σ H s' → IsZip s'.heap z TI TO .none → IsTupOf2 s'.heap TI (.ref i1) (.ref i2) → IsTupOf2 s'.heap TO .none .none → s1.it s'.heap i1 a 0 → s2.it s'.heap i2 b 0 → (∀ c ∈ [z, TI, TO, i1, i2], FpOk X pins H c) → Q (.ref z) s') :
    wpAny (model X.prog X.w) X.A (call (.type "zip") [.ref a, .ref b]) Q E s := by
  obtain ⟨its, rv, p⟩ := Sd.look I hqx
  obtain ⟨its2, rv2, p2⟩ := Sd.look I hqy
  refine zip_begins2 (s1.begins a its.toArray) (s2.begins b its2.toArray) p p2 fun h' hz hTI hTO g1 g2 hsz hk => ?_
  have I2 : Inv X pins σ H { s with heap := h' } := I.kept (t' := s.toks) hk
  refine h _ _ _ _ _ _ (PySem.W.ktu_apart s.heap.objs.size a b (Sd.is_lt p) (Sd.is_lt p2)) I2 hz hTI hTO (Sd.first g1) (Sd.first g2) fun c hc => ?_
  have le : s.heap.objs.size ≤ c := five (P := fun c => s.heap.objs.size ≤ c) (Nat.le_add_right _ _) (Nat.le_add_right _ _) (Nat.le_add_right _ _) (Nat.le_refl _) (Nat.le_add_right _ _) hc
  exact I.fpOk le (I.hok.fresh le)
def iZipS (K : PySem.W.Frag) (ta : TA) : TI := fun σ H R => ta σ H fun vs H1 => ∃ s1 s2 a b xs ys, vs = [.ref a, .ref b] ∧ Sd.sq K H1 a xs s1 ∧ Sd.sq K H1 b ys s2 ∧ R (ItzS K s1 s2 a b) H1
theorem pi_zipS {X : Cx} {e e2 : Expr} {ta : TA} {p pos tpos : Pos} {elts : List Expr} {kk : Nat} (hg : Gl X "zip") (hm : X.mg "zip" = none) (ha : PA X [e, e2] ta)
    (hs : starEach [e, e2] X.env = (false, eval e X.env) :: starEach [e2] X.env) (hpl : (backTo pos (starEach [e2] X.env)).any (·.1) = false) :
    PI X (.Tuple elts kk tpos) (.Call (.Name "zip" p) [e, e2] [] pos) (iZipS X.K ta) := by
  constructor
  intro pins s σ H R I h
  refine Call_ ?_
  refine ld_blt I hg hm PyProof.Rows.boot_zip (PyProof.Rows.callWith_type1 (thn (ha.run pos pins s σ H _ I h) fun us s1 ⟨vs, H1, I1, r1, q1⟩ => ?_) hs hpl)
  obtain ⟨k1, k2, a, b, xs, ys, rfl, hqx, hqy, q⟩ := q1
  cases r1 with
  | cons r rr =>
    cases rr with
    | cons r' rr =>
      cases rr
      cases r
      cases r'
      refine zip_made I1 hqx hqy fun z TI TO i1 i2 s' D I2 hz hTI hTO g1 g2 fp => wpAny_pyIter_zip hz ?_
      exact ⟨z, [z, TI, TO, i1, i2], _, _, H1, rfl, I2, turn_zipS D, ⟨hz, hTI, ⟨_, _, hTO⟩, g1, g2⟩, fp, q⟩
variable [Tabl]
section
variable {ι : Type} {Xs : ι → Cx} {mg : Gm} {Wx : WX} {pos : Pos}
def seqD : D → Option (List D)
  | .lst xs => some xs
  | .fz xs => some xs
  | .tup xs => some xs
  | _ => none
def pairD (x y : D) : D := .tup [x, y]
def zipD (xs ys : List D) : List D := List.zipWith pairD xs ys
theorem zipD_get (xs ys : List D) (i : Nat) : (zipD xs ys)[i]? = match xs[i]?, ys[i]? with
    | some x, some y => some (pairD x y)
    | _, _ => none := by
  unfold zipD
  rw [List.getElem?_zipWith]
  cases xs[i]? <;> cases ys[i]? <;> rfl
theorem zipD_len (xs ys : List D) : (zipD xs ys).length = min xs.length ys.length := List.length_zipWith
theorem seq_side {W : Wd} {v : V} {d : D} {ds : List D} (r : Rep mg W v d) (h : seqD d = some ds) : ∃ a vs s, v = .ref a ∧ Reps mg W vs ds ∧ ∀ W1 H1, Le W W1 → Holds W1 H1 → Sd.sq mg.K H1 a vs s := by
  cases r with
  | lst ha rs =>
    cases h
    exact ⟨_, _, .l, rfl, rs, fun W1 H1 l hh => SqL.of (hh.same _ _ (l.h _ _ ha))⟩
  | fz ha rs =>
    cases h
    exact ⟨_, _, .l, rfl, rs, fun W1 H1 l hh => hh.same.seq (l.h.seq ha)⟩
  | tup ha rs =>
    cases h
    exact ⟨_, _, .t, rfl, rs, fun W1 H1 l hh => SqT.of (hh.same _ _ (l.h _ _ ha))⟩
  | _ => cases h
abbrev dIZip (g : DTA) : DTI := fun ρ Q E => g ρ (fun ds => match ds with
  | [x, y] => ∃ xs ys, seqD x = some xs ∧ seqD y = some ys ∧ Q (zipD xs ys)
  | _ => False) E
theorem di_zip {elts : List Expr} {kk : Nat} {tpos : Pos} {a b : Expr} {p : Pos} {g : DTA} (hm : mg.mg "zip" = none) (h : DA Xs mg Wx [a, b] g) (hM : ∀ j, (Xs j).mg = mg.mg := by intro _; rfl) (hK : ∀ j, (Xs j).K = mg.K := by intro _; rfl) (hg : ∀ j, Gl (Xs j) "zip" := by intro _; rfl)
    (hs : ∀ j, starEach [a, b] (Xs j).env = (false, eval a (Xs j).env) :: starEach [b] (Xs j).env := by intro _; rfl) (hpl : ∀ j, (backTo pos (starEach [b] (Xs j).env)).any (·.1) = false := by intro _; rfl) :
    DI Xs mg Wx (.Tuple elts kk tpos) (.Call (.Name "zip" p) [a, b] [] pos) (dIZip g) := by
  obtain ⟨t, h1, h2⟩ := h
  refine ⟨iZipS mg.K t, fun j => by
    have z := pi_zipS (elts := elts) (kk := kk) (tpos := tpos) (p := p) (pos := pos) (hg j) (by rw [hM j]; exact hm) (h1 j) (hs j) (hpl j)
    rw [hK j] at z
    exact z, fun B ρ Q E hf W σ H Q' hh e x q => ?_⟩
  refine h2 B ρ _ E hf W σ H _ hh e x fun W1 H1 vs ds s1 r1 k1 => ?_
  split at k1
  · rename_i dx dy
    obtain ⟨xs, ys, ex, ey, k1⟩ := k1
    cases r1 with
    | cons rx r1 =>
      cases r1 with
      | cons ry r1 =>
        cases r1
        obtain ⟨a, us, sa, rfl, ra, qa⟩ := seq_side rx ex
        obtain ⟨b, ws, sb, rfl, rb, qb⟩ := seq_side ry ey
        refine ⟨sa, sb, a, b, us, ws, rfl, qa _ _ (Le.refl _) s1.holds, qb _ _ (Le.refl _) s1.holds, q W1 H1 _ _ s1 (fun W2 H2 l hh2 => ?_) k1⟩
        have g1 := qa _ _ l hh2
        have g2 := qb _ _ l hh2
        refine ⟨fun i hi => ?_, ⟨us, ws, g1, g2, by rw [zipD_len, ra.length, rb.length]⟩, fun i x H3 hi y => ?_⟩
        · rw [zipD_len, ← ra.length, ← rb.length] at hi
          exact ⟨us, ws, _, _, g1, g2, List.getElem?_eq_getElem (by omega), List.getElem?_eq_getElem (by omega)⟩
        · obtain ⟨T, v1, v2, rfl, hT, rfl, f1, f2⟩ := y
          obtain ⟨d1, e1, r1⟩ := ra.getV (f1 us g1)
          obtain ⟨d2, e2, r2⟩ := rb.getV (f2 ws g2)
          exact ⟨_, .tup [d1, d2], Step.alloc hh2 hT, by rw [zipD_get, e1, e2] <;> rfl, Rep.newTup (.cons (r1.mono l) (.cons (r2.mono l) .nil)) (hh2.same.free hT)⟩
  · exact k1.elim
end
end FP

/-! FP45: list(zip(a, b)), a and b lists or tuples. -/
namespace PySem.ZipL
open PySem PySem.W PySem.Calls PyProof.Rows
theorem no_len : typeLookup (.type "zip") "__len__" = pure none := by rw [typeLookup_type, builtinLookup_eq_fast]; kernel_rfl
theorem no_hint : typeLookup (.type "zip") "__length_hint__" = pure none := by rw [typeLookup_type, builtinLookup_eq_fast]; kernel_rfl
section
variable {prog : Program} {w : World} {A : Around} {E : Value → Shared → Prop} {s : Shared} {z TI TO T i1 i2 : Addr} {fp1 fp2 : List Addr} {n1 n2 i : Nat} {P1 P2 : Nat → Value → Prop} {St1 St2 : Nat → Heap → Prop} {f : Bool} {oT : Obj}
/-- the next pair, the first one held -/
theorem held_item {Q : Value → Shared → Prop} (S : ZipSep2 z TI TO i1 i2 fp1 fp2) (D1 : Draws prog w A i1 fp1 n1 P1 St1) (D2 : Draws prog w A i2 fp2 n2 P2 St2) (hz : IsZipHeld s.heap z TI TO T f) (hT : s.heap.get? T = some oT) (hTI : IsTupOf2 s.heap TI (.ref i1) (.ref i2))
    (st1 : St1 i s.heap) (st2 : St2 i s.heap) (l1 : i < n1) (l2 : i < n2)
    (hQ : ∀ x1 x2 h' tk, P1 i x1 → P2 i x2 → IsZipHeld h' z TI TO T true → St1 (i + 1) h' → St2 (i + 1) h' → IsTupOf2 h' s.heap.objs.size x1 x2 → h'.objs.size = s.heap.objs.size + 1 → (∀ c o, c ≠ z → c ≠ i1 → c ≠ i2 → s.heap.get? c = some o → h'.get? c = some o) →
      Q (.ref s.heap.objs.size) { s with heap := h', toks := tk }) :
    wpAny (model prog w) A (Builtin.«zip.__next__» ⟨[.ref z], []⟩) (fun fin s' => ∃ v, fin = .done (.ret v) ∧ Q v s') E s := by
  obtain ⟨hp, g, d, tk, os⟩ := s
  show wpAny _ _ (field (.ref z) 2 >>= _) _ _ _
  refine wpAny_bind (wpAny_field hz rfl (x := .bool false) rfl ?_)
  show wpAny _ _ (field (.ref z) 3 >>= _) _ _ _
  refine wpAny_bind (wpAny_field hz rfl (x := .ref TI) rfl (wpAny_bind (wpAny_seqItems hTI rfl ?_)))
  show wpAny _ _ (Builtin.SmallTypes.ownedTupleIsFree (.ref z) >>= _) _ _ _
  refine wpAny_bind (wpAny_tupleHeld_zip hz hT fun q1 hz1 k1 => ?_)
  simp only [Bool.false_eq_true, if_false]
  refine wpAny_bind ?_
  rw [← Array.forIn_toList]
  simp only [List.forIn_cons, List.forIn_nil]
  have k1' : Heap.SameBut z hp q1 := k1
  refine wpAny_bind (wpAny_bind (wpAny_holding ?_))
  show wpAny _ _ (Builtin.SmallTypes.nextOf (.ref i1) >>= _) _ _ _
  refine wpAny_bind (D1.item i _ _ _ l1 (D1.over st1 k1' S.zf1) fun x1 q2 t2 p1 st1' k2 => wpAny_pure (wpAny_pure ?_))
  have k2' : Heap.SameBut i1 q1 q2 := k2
  refine wpAny_bind (wpAny_bind (wpAny_holding ?_))
  show wpAny _ _ (Builtin.SmallTypes.nextOf (.ref i2) >>= _) _ _ _
  refine wpAny_bind (D2.item i _ _ _ l2 (D2.over (D2.over st2 k1' S.zf2) k2' S.sep1_2) fun x2 q3 t3 p2 st2' k3 => wpAny_pure (wpAny_pure (wpAny_pure ?_)))
  have k3' : Heap.SameBut i2 q2 q3 := k3
  show wpAny _ _ (newTuple [x1, x2] >>= _) _ _ _
  refine wpAny_bind (wpAny_newTuple (wpAny_pure ⟨_, rfl, ?_⟩))
  have sz : q3.objs.size = hp.objs.size := by rw [k3'.1, k2'.1, k1'.1]
  have hz3 : IsZipHeld q3 z TI TO T true := k3'.extBut _ _ S.zi2 (k2'.extBut _ _ S.zi1 hz1)
  have up : ∀ c o, q3.get? c = some o → (q3.push { cls := .type "tuple", data := .seq #[x1, x2] }).get? c = some o := fun c o e => Heap.get?_push_of_some _ e
  have new : IsTupOf2 (q3.push { cls := .type "tuple", data := .seq #[x1, x2] }) q3.objs.size x1 x2 := Heap.get?_push_size _ rfl
  have szn : (q3.push { cls := .type "tuple", data := .seq #[x1, x2] }).objs.size = q3.objs.size + 1 := Heap.size_push ..
  show Q (.ref q3.objs.size) _
  rw [sz] at new szn ⊢
  exact hQ x1 x2 _ _ p1 p2 (up _ _ hz3) (D1.frame _ _ _ (D1.over st1' k3' S.sep2_1) fun b _ o e => up b o e) (D2.frame _ _ _ st2' fun b _ o e => up b o e) new szn fun c o c1 c2 c3 e => up c o (k3'.extBut _ _ c3 (k2'.extBut _ _ c2 (k1'.extBut _ _ c1 e)))
/-- the end, the first pair held -/
theorem held_end {Q : Fin → Shared → Prop} (S : ZipSep2 z TI TO i1 i2 fp1 fp2) (D1 : Draws prog w A i1 fp1 n1 P1 St1) (D2 : Draws prog w A i2 fp2 n2 P2 St2) (hz : IsZipHeld s.heap z TI TO T f) (hT : s.heap.get? T = some oT) (hTI : IsTupOf2 s.heap TI (.ref i1) (.ref i2))
    (st1 : St1 i s.heap) (st2 : St2 i s.heap) (l1 : i ≤ n1) (l2 : i ≤ n2) (hend : i = n1 ∨ i = n2)
    (hE : ∀ h' tk e, (∀ c o, c ≠ z → c ≠ i1 → c ≠ i2 → s.heap.get? c = some o → h'.get? c = some o) → (∃ o, h'.get? e = some o ∧ o.cls = .type "StopIteration") → E (.ref e) { s with heap := h', toks := tk }) :
    wpAny (model prog w) A (Builtin.«zip.__next__» ⟨[.ref z], []⟩) Q E s := by
  obtain ⟨hp, g, d, tk, os⟩ := s
  show wpAny _ _ (field (.ref z) 2 >>= _) _ _ _
  refine wpAny_bind (wpAny_field hz rfl (x := .bool false) rfl ?_)
  show wpAny _ _ (field (.ref z) 3 >>= _) _ _ _
  refine wpAny_bind (wpAny_field hz rfl (x := .ref TI) rfl (wpAny_bind (wpAny_seqItems hTI rfl ?_)))
  show wpAny _ _ (Builtin.SmallTypes.ownedTupleIsFree (.ref z) >>= _) _ _ _
  refine wpAny_bind (wpAny_tupleHeld_zip hz hT fun q1 hz1 k1 => ?_)
  simp only [Bool.false_eq_true, if_false]
  refine wpAny_bind ?_
  rw [← Array.forIn_toList]
  simp only [List.forIn_cons, List.forIn_nil]
  have k1' : Heap.SameBut z hp q1 := k1
  refine wpAny_bind (wpAny_bind (wpAny_holding ?_))
  show wpAny _ _ (Builtin.SmallTypes.nextOf (.ref i1) >>= _) _ _ _
  by_cases h1 : i = n1
  · subst h1
    refine wpAny_bind (D1.done _ _ _ (D1.over st1 k1' S.zf1) fun q2 e k2 he => ?_)
    have k2' : Heap.ExtBut i1 q1 q2 := k2
    exact hE q2 _ e (fun c o c1 c2 _ x => k2' _ _ c2 (k1'.extBut _ _ c1 x)) he
  · have h2 : i = n2 := hend.resolve_left h1
    subst h2
    refine wpAny_bind (D1.item i _ _ _ (by omega) (D1.over st1 k1' S.zf1) fun x1 q2 t2 p1 st1' k2 => wpAny_pure (wpAny_pure ?_))
    have k2' : Heap.SameBut i1 q1 q2 := k2
    refine wpAny_bind (wpAny_bind (wpAny_holding ?_))
    show wpAny _ _ (Builtin.SmallTypes.nextOf (.ref i2) >>= _) _ _ _
    refine wpAny_bind (D2.done _ _ _ (D2.over (D2.over st2 k1' S.zf2) k2' S.sep1_2) fun q3 e k3 he => ?_)
    have k3' : Heap.ExtBut i2 q2 q3 := k3
    exact hE q3 _ e (fun c o c1 c2 c3 x => k3' _ _ c3 (k2'.extBut _ _ c2 (k1'.extBut _ _ c1 x))) he
theorem next_held {Q : Option Value → Shared → Prop} (S : ZipSep2 z TI TO i1 i2 fp1 fp2) (D1 : Draws prog w A.in1 i1 fp1 n1 P1 St1) (D2 : Draws prog w A.in1 i2 fp2 n2 P2 St2) (hz : IsZipHeld s.heap z TI TO T f) (hT : s.heap.get? T = some oT) (hTI : IsTupOf2 s.heap TI (.ref i1) (.ref i2))
    (st1 : St1 i s.heap) (st2 : St2 i s.heap) (l1 : i < n1) (l2 : i < n2)
    (hQ : ∀ x1 x2 h' tk, P1 i x1 → P2 i x2 → IsZipHeld h' z TI TO T true → St1 (i + 1) h' → St2 (i + 1) h' → IsTupOf2 h' s.heap.objs.size x1 x2 → h'.objs.size = s.heap.objs.size + 1 → (∀ c o, c ≠ z → c ≠ i1 → c ≠ i2 → s.heap.get? c = some o → h'.get? c = some o) →
      Q (some (.ref s.heap.objs.size)) { s with heap := h', toks := tk }) : wpAny (model prog w) A (pyNext (.ref z)) Q E s := by
  have hTy : s.TypeIs (.ref z) "zip" := ⟨_, hz, rfl⟩
  unfold pyNext
  refine wpAny_bind (wpAny_attempt (wpAny_callSpecial?_slot (name := Str.ofString "__next__") hTy F.slot_zip_next (wpAny_call_entry F.slot_zip_next hTy F.entry_zip_next ?_ (F.args_zip_next_1 _))))
  exact held_item S D1 D2 hz hT hTI st1 st2 l1 l2 fun x1 x2 h' tk a1 a2 a3 a4 a5 a6 a7 a8 => wpAny_pure (hQ x1 x2 h' tk a1 a2 a3 a4 a5 a6 a7 a8)
theorem done_held {Q : Option Value → Shared → Prop} (S : ZipSep2 z TI TO i1 i2 fp1 fp2) (D1 : Draws prog w A.in1 i1 fp1 n1 P1 St1) (D2 : Draws prog w A.in1 i2 fp2 n2 P2 St2) (hz : IsZipHeld s.heap z TI TO T f) (hT : s.heap.get? T = some oT) (hTI : IsTupOf2 s.heap TI (.ref i1) (.ref i2))
    (st1 : St1 i s.heap) (st2 : St2 i s.heap) (l1 : i ≤ n1) (l2 : i ≤ n2) (hend : i = n1 ∨ i = n2) (hQ : ∀ h' tk, (∀ c o, c ≠ z → c ≠ i1 → c ≠ i2 → s.heap.get? c = some o → h'.get? c = some o) → Q none { s with heap := h', toks := tk }) : wpAny (model prog w) A (pyNext (.ref z)) Q E s := by
  have hTy : s.TypeIs (.ref z) "zip" := ⟨_, hz, rfl⟩
  unfold pyNext
  refine wpAny_bind (wpAny_attempt (wpAny_callSpecial?_slot (name := Str.ofString "__next__") hTy F.slot_zip_next (wpAny_call_entry F.slot_zip_next hTy F.entry_zip_next ?_ (F.args_zip_next_1 _))))
  refine held_end S D1 D2 hz hT hTI st1 st2 l1 l2 hend fun h' tk e k he => ?_
  obtain ⟨o, ho, hc⟩ := he
  exact wpAny_bind (wpAny_isInstance (T := "StopIteration") (b := true) ⟨o, ho, hc⟩ isSubtype_stop (wpAny_pure (hQ _ _ k)))
end
/-- the loop that draws from z into the list at S, whatever stands between -/
theorem loop {prog : Program} {w : World} {A : Around} {R : Result → Shared → Prop} {S z : Addr} {res : Value} {n : Nat} (J : Nat → Shared → Prop) (M : Nat → Value → Shared → Prop) (Z : Shared → Prop)
    (item : ∀ i s (Q : Option Value → Shared → Prop) (E : Value → Shared → Prop), i < n → J i s → (∀ v s1, M i v s1 → Q (some v) s1) → wpAny (model prog w) A.in1 (pyNext (.ref z)) Q E s)
    (done : ∀ s (Q : Option Value → Shared → Prop) (E : Value → Shared → Prop), J n s → (∀ s1, Z s1 → Q none s1) → wpAny (model prog w) A.in1 (pyNext (.ref z)) Q E s)
    (push : ∀ i v s, i < n → M i v s → ∃ acc c, s.heap.get? S = some { cls := .type "list", data := .seq acc c } ∧ acc.size < sizeLine ∧ J (i + 1) { s with heap := s.heap.update S (Obj.mapSeq (·.push v)) })
    (fin : ∀ s, Z s → R (.ok (.ret res)) s) : ∀ (k i : Nat) (s : Shared), n - i = k → i ≤ n → J i s → codeAny (model prog w) A (.builtin "list.extend.loop" ⟨[.ref S, .ref z, res], []⟩) R s := by
  intro k
  induction k with
  | zero =>
    intro i s hk hi hj
    obtain rfl : i = n := by omega
    refine codeAny_builtin F.entry_extend_loop ?_
    rw [Around.under_plainId F.plain_extend_loop _]
    show wpAny _ A.in1 (pyNext (.ref z) >>= _) _ _ s
    exact wpAny_bind (done s _ _ hj fun s1 h1 => wpAny_pure (fin s1 h1))
  | succ k ih =>
    intro i s hk hi hj
    have hlt : i < n := by omega
    refine codeAny_builtin F.entry_extend_loop ?_
    rw [Around.under_plainId F.plain_extend_loop _]
    show wpAny _ A.in1 (pyNext (.ref z) >>= _) _ _ s
    refine wpAny_bind (item i s _ _ hlt hj fun v s1 h1 => ?_)
    obtain ⟨acc, c, e, sz, hj1⟩ := push i v s1 hlt h1
    show wpAny _ A.in1 (updateSeq S (·.push v) >>= _) _ _ _
    refine wpAny_bind (wpAny_updateSeq e rfl (wpAny_pure ⟨plainId_quiet F.plain_extend_loop _, ih (i + 1) _ (by omega) hlt hj1⟩) (Nat.le_of_lt sz) ?_)
    show (acc.push v).size ≤ sizeLine + 1
    rw [Array.size_push]
    omega
end PySem.ZipL

/-! FP46: list(zip(a, b)) by data. -/
namespace FP
open PySem PySem.Spec PyProof.Rows L2
/-- what is asked behind each pair: the list's items so far, the heap -/
structure LzW (K : PySem.W.Frag) (S a b : Addr) (s1 s2 : Sd) (xs ys : List V) (H : Hp) (Q : Hp → Prop) where
  Wk : Nat → List V → Hp → Prop
  zero : Wk 0 [] (upd H S (.lst []))
  look : ∀ i us Hk, Wk i us Hk → Hk S = some (.lst us) ∧ us.length = i ∧ s1.sq K Hk a xs ∧ s2.sq K Hk b ys
  step : ∀ i us Hk x y T, i < min xs.length ys.length → Wk i us Hk → xs[i]? = some x → ys[i]? = some y → Hk T = none → Wk (i + 1) (us ++ [.ref T]) (upd (upd Hk T (.tup [x, y])) S (.lst (us ++ [.ref T])))
  fin : ∀ us Hk, Wk (min xs.length ys.length) us Hk → Q Hk
theorem FpOk.with {X : Cx} {pins : List (Addr × Obj)} {H H' : Hp} {c : Addr} (f : FpOk X pins H c) (n : H' c = none) : FpOk X pins H' c := ⟨n, f.2⟩
/-- where the zip stands: not yet drawn from; or its first pair held -/
def ZAt (h : Heap) (z TI TO i1 i2 S : Addr) (i : Nat) : Prop := (i = 0 ∧ IsZip h z TI TO .none ∧ ∃ x y, IsTupOf2 h TO x y) ∨ (0 < i ∧ ∃ T f oT, IsZipHeld h z TI TO T f ∧ h.get? T = some oT ∧ T ≠ z ∧ T ≠ i1 ∧ T ≠ i2 ∧ T ≠ S)
theorem list_zip {X : Cx} {pins : List (Addr × Obj)} {σ : L2.St} {H : Hp} {s : Shared} {s1 s2 : Sd} {a b z TI TO i1 i2 : Addr} {xs ys : List V} {Q : VK} {E : Value → Shared → Prop} (hc : X.calm = true) (D : ZipApart z TI TO i1 i2 a b) (I : Inv X pins σ H s) (hqx : s1.sq X.K H a xs) (hqy : s2.sq X.K H b ys)
    (hz : IsZip s.heap z TI TO .none) (hTI : IsTupOf2 s.heap TI (.ref i1) (.ref i2)) (hTO : IsTupOf2 s.heap TO .none .none) (h1 : s1.it s.heap i1 a 0) (h2 : s2.it s.heap i2 b 0) (fp : ∀ c ∈ [z, TI, TO, i1, i2], FpOk X pins H c) (hn : min xs.length ys.length ≤ sizeLine)
    (w : ∀ S, H S = none → Nonempty (LzW X.K S a b s1 s2 xs ys H (Q (.ref S)))) :
    wpAny (model X.prog X.w) X.A (call (.type "list") [.ref z]) (EP X pins σ Q) E s := by
  have hh : X.A.handled = none := I.ok.hd hc
  have hS0 := I.fresh
  obtain ⟨W⟩ := w _ hS0
  have zlt : z < s.heap.objs.size := Heap.lt_size hz
  refine callType_codes (Q₁ := fun obj z1 => obj = .ref s.heap.objs.size ∧ z1 = { s with heap := s.heap.push { cls := .type "list", data := .seq #[] } }) F.called_list (F.typeCall_list_1 _) F.entry_list_init (code_list_new _ ⟨rfl, rfl⟩) ?_
  rintro obj z1 ⟨rfl, rfl⟩
  generalize hS : s.heap.objs.size = S at *
  have J0 : Inv X pins σ (upd H S (.lst [])) { s with heap := s.heap.push { cls := .type "list", data := .seq #[] } } := by
    have q := I.lnew (its := []) (ys := []) (t' := s.toks) .nil (Nat.zero_le _)
    rw [hS] at q
    exact q
  have g0 : (s.heap.push { cls := .type "list", data := .seq #[] }).get? S = some { cls := .type "list", data := .seq #[] } := by rw [← hS]; exact Heap.get?_push_size _ rfl
  have nS : ∀ c o, s.heap.get? c = some o → c ≠ S := fun c o e => Nat.ne_of_lt (by rw [← hS]; exact Heap.lt_size e)
  refine ⟨⟨_, g0, rfl⟩, F.args_list_init_2 _ _, ?_⟩
  show wpAny _ X.A.in1.in1 (do let old ← Builtin.List.listItems (.ref S); Builtin.List.listUpdate (.ref S) (fun _ => #[]); letGo old.toList.reverse; Builtin.List.listExtendWith (.ref S) (.ref z) .none) _ _ _
  refine wpAny_bind ?_
  unfold Builtin.List.listItems
  refine wpAny_bind (wpAny_seqItems g0 rfl (wpAny_pure ?_))
  show wpAny _ X.A.in1.in1 (updateSeq S (fun _ => #[]) >>= fun _ => letGo (#[] : Array Value).toList.reverse >>= fun _ => Builtin.List.listExtendWith (.ref S) (.ref z) .none) _ _ _
  refine wpAny_bind (wpAny_updateSeq g0 rfl (wpAny_bind (wpAny_letGo ?_)))
  have g1 := Heap.get?_update_self (Obj.mapSeq (fun _ => (#[] : Array Value))) g0 rfl
  have J1 := J0.lset (its := []) (its' := []) (ys := []) (f := fun _ => #[]) (t' := s.toks) upd_same g0 rfl .nil (Nat.zero_le _)
  have old : ∀ (h : Heap) (f : Obj → Obj), (∀ c o, s.heap.get? c = some o → h.get? c = some o) → ∀ c o, s.heap.get? c = some o → (h.update S f).get? c = some o := fun h f q c o e => (Heap.get?_update_other _ _ (Ne.symm (nS c o e))).trans (q c o e)
  have k0 : ∀ c o, s.heap.get? c = some o → (s.heap.push { cls := .type "list", data := .seq #[] }).get? c = some o := fun c o e => Heap.get?_push_of_some _ e
  have k1 := old _ (Obj.mapSeq (fun _ => (#[] : Array Value))) k0
  unfold Builtin.List.listExtendWith
  refine wpAny_bind (wpAny_typeOf (T := "zip") ⟨_, k1 _ _ hz, rfl⟩ ?_)
  have e1 : Builtin.List.listSameRef (.ref S) (.ref z) = false := by simp [Builtin.List.listSameRef, Ne.symm (nS _ _ hz)]
  have e2 : (Value.type "zip" == Value.type "list") = false := by decide
  have e3 : (Value.type "zip" == Value.type "tuple") = false := by decide
  simp only [e1, e2, e3, Bool.or_false, Bool.false_eq_true, if_false]
  refine wpAny_bind (wpAny_pyIter_zip (s := { s with heap := _ }) (k1 _ _ hz) (wpAny_bind (wpAny_holding ?_)))
  unfold Builtin.List.listLengthHint
  refine wpAny_bind (wpAny_specialOf (T := "zip") ⟨_, k1 _ _ hz, rfl⟩ PySem.ZipL.no_len ?_)
  show wpAny _ X.A.in1.in1 (specialOf (Value.ref z) (Str.ofString "__length_hint__") >>= _) _ _ _
  refine wpAny_bind (wpAny_specialOf (T := "zip") ⟨_, k1 _ _ hz, rfl⟩ PySem.ZipL.no_hint ?_)
  refine wpAny_pure ?_
  show wpAny _ X.A.in1.in1 (rule "list.extend.makes-room" >>= fun _ => Builtin.List.listTouch (.ref S) >>= fun _ => again (.builtin "list.extend.loop" ⟨[.ref S, .ref z, .none], []⟩)) _ _ _
  refine wpAny_bind (wpAny_rule (wpAny_bind ?_))
  show wpAny _ X.A.in1.in1 (updateSeq S (·.push .none) >>= fun _ => updateSeq S (·.pop)) _ _ _
  refine wpAny_bind (wpAny_updateSeq g1 rfl ?_)
  have g2 := Heap.get?_update_self (Obj.mapSeq (·.push Value.none)) g1 rfl
  refine wpAny_updateSeq (hz := by seq_fits) g2 rfl ?_
  have g3 := Heap.get?_update_self (Obj.mapSeq (·.pop)) g2 rfl
  have k2 := old _ (Obj.mapSeq (·.push Value.none)) k1
  have k3 := old _ (Obj.mapSeq (·.pop)) k2
  generalize hh3 : ((((s.heap.push { cls := .type "list", data := .seq #[] }).update S (Obj.mapSeq (fun _ => (#[] : Array Value)))).update S (Obj.mapSeq (·.push Value.none))).update S (Obj.mapSeq (·.pop))) = h3 at k3 g3
  have eu : upd (upd H S (.lst [])) S (.lst []) = upd H S (.lst []) := by
    funext c
    by_cases hcS : c = S
    · rw [hcS, upd_same, upd_same]
    · rw [upd_ne hcS]
  have J3 : Inv X pins σ (upd H S (.lst [])) { s with heap := h3 } := by
    have q := J1.write (h' := h3) (x := S) (e := S) (o := .lst []) (t' := s.toks) (by rw [upd_same]; exact True.intro) (.inl rfl) (fun c u hcS hu => by
      rw [← hh3]
      exact (Heap.get?_update_other _ _ (Ne.symm hcS)).trans ((Heap.get?_update_other _ _ (Ne.symm hcS)).trans hu)) ⟨_, g3⟩ ⟨Nat.zero_le _, [], _, .nil, g3⟩
    rw [eu, eu] at q
    exact q
  refine wpAny_pure ⟨plainId_quiet F.plain_extend_loop _, ?_⟩
  have five0 : ∀ c ∈ [z, TI, TO, i1, i2], c ≠ S := fun c hcm => five (P := fun c => c ≠ S) (nS _ _ hz) (nS _ _ hTI) (nS _ _ hTO) (by obtain ⟨o, y, _⟩ := Sd.it_ob h1; exact nS _ _ y) (by obtain ⟨o, y, _⟩ := Sd.it_ob h2; exact nS _ _ y) hcm
  refine PySem.ZipL.loop (n := min xs.length ys.length) (S := S) (z := z) (A := X.A.in1)
    (R := wants (fun r s₂ => r = Value.none ∧ EP X pins σ Q (Value.ref S) s₂) E) (res := .none) (w := X.w) (prog := X.prog)
    (fun i t => ∃ us Hk, Inv X pins σ Hk t ∧ W.Wk i us Hk ∧ ZAt t.heap z TI TO i1 i2 S i ∧ IsTupOf2 t.heap TI (.ref i1) (.ref i2) ∧ s1.it t.heap i1 a i ∧ s2.it t.heap i2 b i ∧ (∀ c ∈ [z, TI, TO, i1, i2], FpOk X pins Hk c) ∧ TO < t.heap.objs.size)
    (fun i v t => ∃ us Hk x y T, v = .ref T ∧ Inv X pins σ (upd Hk T (.tup [x, y])) t ∧ W.Wk i us Hk ∧ xs[i]? = some x ∧ ys[i]? = some y ∧ Hk T = none ∧ (∃ T f oT, IsZipHeld t.heap z TI TO T f ∧ t.heap.get? T = some oT ∧ T ≠ z ∧ T ≠ i1 ∧ T ≠ i2 ∧ T ≠ S) ∧ IsTupOf2 t.heap TI (.ref i1) (.ref i2) ∧ s1.it t.heap i1 a (i + 1) ∧ s2.it t.heap i2 b (i + 1) ∧ (∀ c ∈ [z, TI, TO, i1, i2], FpOk X pins (upd Hk T (.tup [x, y])) c) ∧ TO < t.heap.objs.size)
    (fun t => ∃ us Hk, Inv X pins σ Hk t ∧ W.Wk (min xs.length ys.length) us Hk) ?item ?done ?push ?fin (min xs.length ys.length) 0 _ (Nat.sub_zero _) (Nat.zero_le _) ?start
  case start =>
    refine ⟨[], _, J3, W.zero, .inl ⟨rfl, k3 _ _ hz, _, _, k3 _ _ hTO⟩, k3 _ _ hTI, Sd.it_at h1 fun o e => k3 _ _ e, Sd.it_at h2 fun o e => k3 _ _ e, fun c hcm => FpOk.with (fp c hcm) (by rw [upd_ne (five0 c hcm)]; exact (fp c hcm).1), Heap.lt_size (k3 _ _ hTO)⟩
  case fin =>
    rintro t ⟨us, Hk, J, k⟩
    exact ⟨rfl, .ref S, Hk, J, rfl, W.fin us Hk k⟩
  case item =>
    rintro i t Q1 E1 hi ⟨us, Hk, J, k, za, t1, t2, t3, f5, tl⟩ hq
    obtain ⟨lS, lu, qx, qy⟩ := W.look i us Hk k
    obtain ⟨its, rv, p⟩ := Sd.look J qx
    obtain ⟨its2, rv2, p2⟩ := Sd.look J qy
    have hx : xs[i]? = some xs[i] := List.getElem?_eq_getElem (by omega)
    have hy : ys[i]? = some ys[i] := List.getElem?_eq_getElem (by omega)
    obtain ⟨u, hu, ru⟩ := rv.get hx
    obtain ⟨u2, hu2, ru2⟩ := rv2.get hy
    have lt1 : i < its.toArray.size := by simpa using (List.getElem?_eq_some_iff.mp hu).1
    have lt2 : i < its2.toArray.size := by simpa using (List.getElem?_eq_some_iff.mp hu2).1
    have SL := (J.lstM lS).2
    obtain ⟨lits, ln, _, _, lget⟩ := SL
    have Slt : S < t.heap.objs.size := Heap.lt_size lget
    have d1 := s1.draws (prog := X.prog) (w := X.w) (A := X.A.in1.in1.in1) hh i1 a D.l1i1 its.toArray
    have d2 := s2.draws (prog := X.prog) (w := X.w) (A := X.A.in1.in1.in1) hh i2 b D.l2i2 its2.toArray
    have it1lt : i1 < t.heap.objs.size := by obtain ⟨o, y, _⟩ := Sd.it_ob t2; exact Heap.lt_size y
    have it2lt : i2 < t.heap.objs.size := by obtain ⟨o, y, _⟩ := Sd.it_ob t3; exact Heap.lt_size y
    have newT : ∀ {h' : Heap} {tk : Nat} {v1 v2 : Value} {x y : V}, RelV x v1 → RelV y v2 → IsTupOf2 h' t.heap.objs.size v1 v2 → (∀ c o, c ∉ [z, TI, TO, i1, i2] → t.heap.get? c = some o → h'.get? c = some o) → Inv X pins σ (upd Hk t.heap.objs.size (.tup [x, y])) { t with heap := h', toks := tk } := fun {h' tk v1 v2 x y} r1 r2 g kp =>
      J.turnedNew (t' := tk) (ch := [z, TI, TO, i1, i2]) kp f5 (Nat.le_refl _) ⟨by show 2 ≤ sizeLine; decide, [v1, v2], .cons r1 (.cons r2 .nil), ⟨_, g, rfl, _, rfl⟩⟩
    have f6 : ∀ {x y : V} (c), c ∈ [z, TI, TO, i1, i2] → c < t.heap.objs.size → FpOk X pins (upd Hk t.heap.objs.size (.tup [x, y])) c := fun {x y} c hcm lt => FpOk.with (f5 c hcm) (by rw [upd_ne (Nat.ne_of_lt lt)]; exact (f5 c hcm).1)
    have TIlt : TI < t.heap.objs.size := Heap.lt_size t1
    rcases za with ⟨rfl, hz0, x0, y0, hT0⟩ | ⟨hpos, T, f, oT, hz0, hT⟩
    · have zl : z < t.heap.objs.size := Heap.lt_size hz0
      have Tl : TO < t.heap.objs.size := Heap.lt_size hT0
      refine wpAny_pyNext_zipD2_item (sep_of D) d1 d2 hz0 t1 hT0 ⟨t2, p⟩ ⟨t3, p2⟩ lt1 lt2 fun v1 v2 h' tk q1 q2 z' TO' st1 st2 hT hsz hk => ?_
      obtain rfl : u = v1 := by simpa [hu] using q1
      obtain rfl : u2 = v2 := by simpa [hu2] using q2
      refine hq _ _ ⟨us, Hk, _, _, t.heap.objs.size, rfl, newT ru ru2 hT (fun c o hb q => hk c o (fun q' => hb (by simp [q'])) (fun q' => hb (by simp [q'])) (fun q' => hb (by simp [q'])) (fun q' => hb (by simp [q'])) q), k, hx, hy, J.fresh, ⟨t.heap.objs.size, false, _, z', hT, Nat.ne_of_gt zl, Nat.ne_of_gt it1lt, Nat.ne_of_gt it2lt, Nat.ne_of_gt Slt⟩, hk _ _ D.TIz D.TITO D.TIi1 D.TIi2 t1, st1.1, st2.1, fun c hcm => f6 c hcm (five (P := fun c => c < t.heap.objs.size) zl TIlt Tl it1lt it2lt hcm), by rw [hsz]; exact Nat.lt_succ_of_lt Tl⟩
    · have zl : z < t.heap.objs.size := Heap.lt_size hz0
      refine PySem.ZipL.next_held (sep_of D) d1 d2 hz0 hT.1 t1 ⟨t2, p⟩ ⟨t3, p2⟩ lt1 lt2 fun v1 v2 h' tk q1 q2 z' st1 st2 hN hsz hk => ?_
      obtain rfl : u = v1 := by simpa [hu] using q1
      obtain rfl : u2 = v2 := by simpa [hu2] using q2
      have TOlt : TO < t.heap.objs.size := tl
      refine hq _ _ ⟨us, Hk, _, _, t.heap.objs.size, rfl, newT ru ru2 hN (fun c o hb q => hk c o (fun q' => hb (by simp [q'])) (fun q' => hb (by simp [q'])) (fun q' => hb (by simp [q'])) q), k, hx, hy, J.fresh, ⟨T, true, oT, z', hk _ _ hT.2.1 hT.2.2.1 hT.2.2.2.1 hT.1, hT.2⟩, hk _ _ D.TIz D.TIi1 D.TIi2 t1, st1.1, st2.1, fun c hcm => f6 c hcm (five (P := fun c => c < t.heap.objs.size) zl TIlt TOlt it1lt it2lt hcm), by rw [hsz]; exact Nat.lt_succ_of_lt TOlt⟩
  case done =>
    rintro t Q1 E1 ⟨us, Hk, J, k, za, t1, t2, t3, f5, tl⟩ hq
    obtain ⟨lS, lu, qx, qy⟩ := W.look _ us Hk k
    obtain ⟨its, rv, p⟩ := Sd.look J qx
    obtain ⟨its2, rv2, p2⟩ := Sd.look J qy
    have m1 : its.toArray.size = xs.length := by simpa using rv.length.symm
    have m2 : its2.toArray.size = ys.length := by simpa using rv2.length.symm
    have d1 := s1.draws (prog := X.prog) (w := X.w) (A := X.A.in1.in1.in1) hh i1 a D.l1i1 its.toArray
    have d2 := s2.draws (prog := X.prog) (w := X.w) (A := X.A.in1.in1.in1) hh i2 b D.l2i2 its2.toArray
    have le1 : min xs.length ys.length ≤ its.toArray.size := by rw [m1]; omega
    have le2 : min xs.length ys.length ≤ its2.toArray.size := by rw [m2]; omega
    have or1 : min xs.length ys.length = its.toArray.size ∨ min xs.length ys.length = its2.toArray.size := by rw [m1, m2]; omega
    rcases za with ⟨e0, hz0, x0, y0, hT0⟩ | ⟨hpos, T, f, oT, hz0, hT⟩
    · refine wpAny_pyNext_zipD2_end (sep_of D) d1 d2 hz0 t1 hT0 ⟨t2, p⟩ ⟨t3, p2⟩ le1 le2 or1 fun h' tk hk => hq _ ⟨us, Hk, ?_, k⟩
      exact J.turnedL (t' := tk) (ch := [z, TI, TO, i1, i2]) (fun c o hb q => hk c o (fun q' => hb (by simp [q'])) (fun q' => hb (by simp [q'])) (fun q' => hb (by simp [q'])) (fun q' => hb (by simp [q'])) q) f5
    · refine PySem.ZipL.done_held (sep_of D) d1 d2 hz0 hT.1 t1 ⟨t2, p⟩ ⟨t3, p2⟩ le1 le2 or1 fun h' tk hk => hq _ ⟨us, Hk, ?_, k⟩
      exact J.turnedL (t' := tk) (ch := [z, TI, TO, i1, i2]) (fun c o hb q => hk c o (fun q' => hb (by simp [q'])) (fun q' => hb (by simp [q'])) (fun q' => hb (by simp [q'])) q) f5
  case push =>
    rintro i v t hi ⟨us, Hk, x, y, T, rfl, J, k, hx, hy, hT, ⟨T0, f, oT, hz0, hT0⟩, t1, t2, t3, f5, tl⟩
    obtain ⟨lS, lu, qx, qy⟩ := W.look _ us Hk k
    have ST : S ≠ T := fun q => by
      rw [q, hT] at lS
      cases lS
    have lS2 : upd Hk T (.tup [x, y]) S = some (.lst us) := by rw [upd_ne ST]; exact lS
    obtain ⟨lz, its, ln, rv, le, lget⟩ := J.lstM lS2
    have zS : ∀ c ∈ [z, TI, TO, i1, i2], c ≠ S := five0
    have ln2 : its.length = i := by rw [← le, lu]
    refine ⟨its.toArray, ln, lget, by rw [List.size_toArray]; omega, us ++ [.ref T], _, J.lset (its' := its ++ [.ref T]) (f := fun a => a.push (.ref T)) (t' := t.toks) lS2 lget (by simp) (rv.append (.cons (show L2.RelV (.ref T) (.ref T) from rfl) .nil)) (by rw [List.length_append, List.length_singleton]; omega), W.step i us Hk x y T hi k hx hy hT, ?_⟩
    have up : ∀ c o, c ≠ S → t.heap.get? c = some o → (t.heap.update S (Obj.mapSeq fun a => a.push (.ref T))).get? c = some o := fun c o hb q => (Heap.get?_update_other _ _ (Ne.symm hb)).trans q
    refine ⟨.inr ⟨Nat.succ_pos _, T0, f, oT, up _ _ (zS z (by simp)) hz0, up _ _ hT0.2.2.2.2 hT0.1, hT0.2⟩, up _ _ (zS TI (by simp)) t1, Sd.it_at t2 fun o q => up _ _ (zS i1 (by simp)) q, Sd.it_at t3 fun o q => up _ _ (zS i2 (by simp)) q, fun c hcm => FpOk.with (f5 c hcm) ?_, ?_⟩
    · rw [upd_ne (zS c hcm)]
      exact (f5 c hcm).1
    · show TO < (t.heap.update S _).objs.size
      rw [Heap.size_update]
      exact tl
variable [Tabl]
/-- list(zip(e, e2)) -/
def tLz (K : PySem.W.Frag) (ta : TA) : TE := fun σ H Q => ta σ H fun vs H1 => ∃ s1 s2 a b xs ys, vs = [.ref a, .ref b] ∧ Sd.sq K H1 a xs s1 ∧ Sd.sq K H1 b ys s2 ∧ min xs.length ys.length ≤ sizeLine ∧ ∀ S, H1 S = none → Nonempty (LzW K S a b s1 s2 xs ys H1 (Q (.ref S)))
theorem pe_lz {X : Cx} {e e2 : Expr} {ta : TA} {p p2 q pos : Pos} (hc : X.calm = true) (hg : Gl X "list") (hm : X.mg "list" = none) (hg2 : Gl X "zip") (hm2 : X.mg "zip" = none) (ha : PA X [e, e2] ta)
    (hs : starEach [e, e2] X.env = (false, eval e X.env) :: starEach [e2] X.env) (hpl : (backTo q (starEach [e2] X.env)).any (·.1) = false) : PE X (.Call (.Name "list" p) [.Call (.Name "zip" p2) [e, e2] [] q] [] pos) (tLz X.K ta) := by
  constructor
  intro pins s σ H Q I h
  refine Call_ (ld_blt I hg hm FP.boot_list ?_)
  refine PyProof.Rows.callWith_type1 (PyProof.Rows.args_cons ?_ rfl) rfl rfl
  refine Call_ (ld_blt I hg2 hm2 PyProof.Rows.boot_zip ?_)
  refine PyProof.Rows.callWith_type1 (thn (ha.run q pins _ σ H _ (I.tok _) h) fun us z1 ⟨vs, H1, I1, r1, q1⟩ => ?_) hs hpl
  obtain ⟨k1, k2, a, b, xs, ys, rfl, hqx, hqy, hn, w⟩ := q1
  cases r1 with
  | cons r rr =>
    cases rr with
    | cons r' rr =>
      cases rr
      cases r
      cases r'
      refine zip_made I1 hqx hqy fun z TI TO i1 i2 s' D I2 hz hTI hTO g1 g2 fp => ?_
      refine PyProof.Rows.args_nil (list_zip hc D I2 hqx hqy hz hTI hTO g1 g2 fp hn w)
section
variable {ι : Type} {Xs : ι → Cx} {mg : Gm} {Wx : WX} {pos : Pos}
abbrev dLz (g : DTA) : DTE := fun ρ Q E => g ρ (fun ds => match ds with
  | [x, y] => ∃ xs ys, seqD x = some xs ∧ seqD y = some ys ∧ (zipD xs ys).length ≤ sizeLine ∧ Q (.lst (zipD xs ys))
  | _ => False) E
theorem zipD_take {xs ys : List D} {i : Nat} {x y : D} (hx : xs[i]? = some x) (hy : ys[i]? = some y) : (zipD xs ys).take (i + 1) = (zipD xs ys).take i ++ [pairD x y] := by
  rw [List.take_add_one, zipD_get, hx, hy] <;> rfl
theorem de_lz {a b : Expr} {p p2 q : Pos} {g : DTA} (hm : mg.mg "list" = none) (hm2 : mg.mg "zip" = none) (h : DA Xs mg Wx [a, b] g) (hM : ∀ j, (Xs j).mg = mg.mg := by intro _; rfl) (hK : ∀ j, (Xs j).K = mg.K := by intro _; rfl) (hc : ∀ j, (Xs j).calm = true := by intro _; rfl) (hg : ∀ j, Gl (Xs j) "list" := by intro _; rfl) (hg2 : ∀ j, Gl (Xs j) "zip" := by intro _; rfl)
    (hs : ∀ j, starEach [a, b] (Xs j).env = (false, eval a (Xs j).env) :: starEach [b] (Xs j).env := by intro _; rfl) (hpl : ∀ j, (backTo q (starEach [b] (Xs j).env)).any (·.1) = false := by intro _; rfl) :
    DE Xs mg Wx (.Call (.Name "list" p) [.Call (.Name "zip" p2) [a, b] [] q] [] pos) (dLz g) := by
  obtain ⟨t, h1, h2⟩ := h
  refine ⟨tLz mg.K t, fun j => by
    have z := pe_lz (p := p) (p2 := p2) (q := q) (pos := pos) (hc j) (hg j) (by rw [hM j]; exact hm) (hg2 j) (by rw [hM j]; exact hm2) (h1 j) (hs j) (hpl j)
    rw [hK j] at z
    exact z, fun B ρ Q E hf W σ H Q' hh e x q => ?_⟩
  refine h2 B ρ _ E hf W σ H _ hh e x fun W1 H1 vs ds s1 r1 k1 => ?_
  split at k1
  · rename_i dx dy
    obtain ⟨xs, ys, ex, ey, hsz, k1⟩ := k1
    cases r1 with
    | cons rx r1 =>
      cases r1 with
      | cons ry r1 =>
        cases r1
        obtain ⟨a, us, sa, rfl, ra, qa⟩ := seq_side rx ex
        obtain ⟨b, ws, sb, rfl, rb, qb⟩ := seq_side ry ey
        have la := ra.length
        have lb := rb.length
        refine ⟨sa, sb, a, b, us, ws, rfl, qa _ _ (Le.refl _) s1.holds, qb _ _ (Le.refl _) s1.holds, by rw [la, lb, ← zipD_len]; exact hsz, fun S hS => ⟨?_⟩⟩
        exact {
          Wk := fun i vs Hk => ∃ W', Step W1 H1 W' Hk ∧ Hk S = some (.lst vs) ∧ W'.H S = none ∧ ¬ W'.T S ∧ Reps mg W' vs ((zipD xs ys).take i) ∧ vs.length = i
          zero := ⟨W1, Step.lay s1.holds hS, upd_same, s1.holds.same.free hS, s1.holds.nT hS, .nil, rfl⟩
          look := fun i vs Hk ⟨W', st, e1, _, _, _, l⟩ => ⟨e1, l, qa _ _ st.le st.holds, qb _ _ st.le st.holds⟩
          step := fun i vs Hk v1 v2 T hi ⟨W', st, e1, nw, nt, rs, l⟩ hx hy hT => by
            obtain ⟨d1, y1, r1⟩ := ra.getV hx
            obtain ⟨d2, y2, r2⟩ := rb.getV hy
            have ST : S ≠ T := fun z => by
              rw [z, hT] at e1
              cases e1
            have sA := Step.alloc (o := .tup [v1, v2]) st.holds hT
            have rT : Rep mg (W'.put T (.tup [v1, v2])) (.ref T) (pairD d1 d2) := Rep.newTup (.cons (r1.mono st.le) (.cons (r2.mono st.le) .nil)) (st.holds.same.free hT)
            obtain ⟨g1, g2, g3⟩ := sA.mine e1 nw nt
            refine ⟨W'.put T (.tup [v1, v2]), (st.trans sA).own hS g1 g2 g3, upd_same, g2, g3, ?_, by rw [List.length_append, List.length_singleton, l]⟩
            rw [zipD_take y1 y2]
            exact (rs.mono sA.le).snoc rT
          fin := fun vs Hk ⟨W', st, e1, nw, nt, rs, l⟩ => by
            have sT := st.taken hS e1 nw nt
            refine q _ _ _ _ (s1.trans sT) (.lst (vs := vs) (show upd W'.H S (.lst vs) S = _ from upd_same) ?_) k1
            have er : (zipD xs ys).take (min us.length ws.length) = zipD xs ys := List.take_of_length_le (by rw [zipD_len, la, lb]; exact Nat.le_refl _)
            rw [er] at rs
            exact rs.mono (Wd.put_le nw) }
  · exact k1.elim
end
end FP

/-! FP47: facts of own exceptions, by their built-in bases. -/
namespace FP
open PySem L2
variable [Tabl]
abbrev rtBm : List Value := [.type "RuntimeError", .type "Exception", .type "BaseException", .type "object"]
abbrev lkBm : List Value := [.type "LookupError", .type "Exception", .type "BaseException", .type "object"]
abbrev ixBm : List Value := [.type "IndexError", .type "LookupError", .type "Exception", .type "BaseException", .type "object"]
abbrev arBm : List Value := [.type "ArithmeticError", .type "Exception", .type "BaseException", .type "object"]
abbrev ovBm : List Value := [.type "OverflowError", .type "ArithmeticError", .type "Exception", .type "BaseException", .type "object"]
theorem rtB : ExcBaseFacts "RuntimeError" "RuntimeError.__new__" "RuntimeError.__init__" rtBm := PySem.F.excBase_RuntimeError
theorem lkB : ExcBaseFacts "LookupError" "LookupError.__new__" "LookupError.__init__" lkBm := PySem.F.excBase_LookupError
theorem ixB : ExcBaseFacts "IndexError" "IndexError.__new__" "IndexError.__init__" ixBm := PySem.F.excBase_IndexError
theorem arB : ExcBaseFacts "ArithmeticError" "ArithmeticError.__new__" "ArithmeticError.__init__" arBm := PySem.F.excBase_ArithmeticError
theorem ovB : ExcBaseFacts "OverflowError" "OverflowError.__new__" "OverflowError.__init__" ovBm := PySem.F.excBase_OverflowError
theorem veS : StoreFacts "ValueError" veBm "object.__setattr__" "object" := PySem.F.store_ValueError
theorem rtS : StoreFacts "RuntimeError" rtBm "object.__setattr__" "object" := PySem.F.store_RuntimeError
theorem lkS : StoreFacts "LookupError" lkBm "object.__setattr__" "object" := PySem.F.store_LookupError
theorem ixS : StoreFacts "IndexError" ixBm "object.__setattr__" "object" := PySem.F.store_IndexError
theorem arS : StoreFacts "ArithmeticError" arBm "object.__setattr__" "object" := PySem.F.store_ArithmeticError
theorem ovS : StoreFacts "OverflowError" ovBm "object.__setattr__" "object" := PySem.F.store_OverflowError
/-! ### the end of a law: facts by the written part -/
theorem tab_mk {K : PySem.W.Frag} {x : Str} {f c P : Addr} {oc : Value} {od : Option Addr} {fd : FuncData} {sl : Array (Option Value)} {vs : List Value} (a : PySem.W.nsIn K mainGlobals x = some (some (.ref f))) (l : K.lookup f = some ⟨oc, od, .func fd, sl⟩) (hc : fd.code = .ref c) (r : PySem.W.recIn K c "code" = some vs) (hv : vs[11]? = some (.ref P)) : PySem.W.tabIn K x = some (c, P) := by
  unfold PySem.W.tabIn
  rw [a]
  dsimp only
  rw [l]
  dsimp only
  rw [hc]
  dsimp only
  unfold PySem.W.recIn at r
  split at r
  · rename_i n d us s2 hk
    split at r
    · cases r
      rw [hk]
      dsimp only
      rw [← Array.getElem?_toList, hv]
    · cases r
  · cases r
theorem cat_of {K : PySem.W.Frag} {mg : Str → Option Value} {x : Str} {C : Addr} (h1 : mg x = some (.ref C)) (h2 : PySem.W.isClsIn K C = true) (h3 : PySem.W.typeIn K (.ref C) = some (.type "type")) (h4 : PySem.W.subIn K (.ref C) (.type "BaseException") = some true) (h5 : PySem.W.subIn K (.ref C) (.ref C) = some true) : CatF ⟨mg, K⟩ (.ref C) [x] (fun _ => true) := ⟨fun y hy => by
  rw [List.mem_singleton] at hy
  subst hy
  refine ⟨C, h1, ?_⟩
  show PySem.W.exmOne K (.ref C) (.ref C) = some true
  unfold PySem.W.exmOne PySem.W.kitCls
  unfold PySem.W.isClsIn at h2
  simp [h2, h3, h4, h5]⟩
theorem CatF.none {mg : Gm} {c : Value} {yes : Str → Bool} : CatF mg c [] yes := ⟨fun _ h => absurd h List.not_mem_nil⟩
theorem CatF.cons {mg : Gm} {c : Value} {cs : List Str} {yes : Str → Bool} {x : Str} {C : Addr} {b : Bool} (h1 : mg.mg x = some (.ref C)) (h2 : PySem.W.exmOne mg.K (.ref C) c = some b) (h3 : yes x = b) (r : CatF mg c cs yes) : CatF mg c (x :: cs) yes := ⟨fun y hy => by
  rcases List.mem_cons.mp hy with e | hy
  · subst e
    exact ⟨C, h1, by rw [h2, h3]⟩
  · exact r.cl y hy⟩
theorem exm_sub {K : PySem.W.Frag} {C C' : Addr} {b : Bool} (h2 : PySem.W.isClsIn K C' = true) (h3 : PySem.W.typeIn K (.ref C') = some (.type "type")) (h4 : PySem.W.subIn K (.ref C') (.type "BaseException") = some true) (h5 : PySem.W.subIn K (.ref C) (.ref C') = some b) : PySem.W.exmOne K (.ref C) (.ref C') = some b := by
  unfold PySem.W.exmOne PySem.W.kitCls
  unfold PySem.W.isClsIn at h2
  simp [h2, h3, h4, h5]
theorem xcF_mk {K : PySem.W.Frag} {mg : Str → Option Value} {x f nm qual : Str} {C fI : Addr} {bmB : List Value} {newId : String} {st : Stmt} {oc : Value} {od : Option Addr} {kV doc pm : Value} {an : Option Addr} {cdv ct : Value} {osl : Array (Option Value)} (h1 : mg x = some (.ref C)) (h2 : PySem.W.excInitIn K C bmB newId = true)
    (h3 : PySem.W.excOver K C bmB = true) (h4 : PySem.W.findIn K (.ref C) "__setattr__" = some (some (.builtin "object.__setattr__"))) (h5 : PySem.W.findIn K (.ref C) f = some none) (h6 : PySem.W.hasDictIn K C = true) (h7 : PySem.W.findIn K (.ref C) "__init__" = some (some (.ref fI))) (h8 : PySem.W.isFn K (.ref fI) = true)
    (h9 : K.lookup fI = some ⟨oc, od, .func (PySem.W.fnOf nm qual (defArgs st) (defBody st) (defScope st) .none kV doc pm an cdv ct), osl⟩) (h10 : PySem.W.codeIn K cdv qual = true) (h11 : PySem.XcM.IsInit f (defArgs st) (defBody st) (defScope st))
    (h12 : ∀ y v, bindArgs (PySem.W.fnOf nm qual (defArgs st) (defBody st) (defScope st) .none kV doc pm an cdv ct) ⟨[y, v], []⟩ = pure [(("self" : Str), y), (f, v)]) (h13 : PySem.W.keepIn K (.ref C) = true) (h14 : PySem.W.subIn K (.ref C) (.type "BaseException") = some true) (h15 : PySem.W.typeIn K (.ref C) = some (.type "type"))
    (h16 : PySem.W.findIn K (.ref C) "__getattribute__" = some (some (.builtin "BaseException.__getattribute__"))) (h17 : PySem.W.findIn K (.ref C) "__getattr__" = some none) : XcF ⟨mg, K⟩ x C f bmB newId :=
  ⟨h1, ⟨fI, h2, h3, h4, h5, h6, h7, h8, ⟨_, _, _, _, _, _, _, _, _, _, _, _, _, _, _, h9, h10, h11, h12⟩⟩, h13, h14, h15, h16, h17⟩
end FP

/-! KP: kinds, with no program in sight: text, places, order, parts, signed atoms; their data. -/
namespace KP
open PySem L2 FP
variable [FP.Tabl]
inductive Kd where
  | mk (as : List Kd) (a : Str)
def Kd.as : Kd → List Kd
  | .mk as _ => as
def Kd.a : Kd → Str
  | .mk _ a => a
mutual
theorem Kd.ind {P : Kd → Prop} (h : ∀ as a, (∀ k ∈ as, P k) → P (.mk as a)) : ∀ k, P k
  | .mk as a => h as a (Kd.inds h as)
theorem Kd.inds {P : Kd → Prop} (h : ∀ as a, (∀ k ∈ as, P k) → P (.mk as a)) : ∀ (ks : List Kd), ∀ k ∈ ks, P k
  | [], _, hk => absurd hk List.not_mem_nil
  | j :: r, k, hk => by
    rcases List.mem_cons.mp hk with e | e
    · rw [e]
      exact Kd.ind h j
    · exact Kd.inds h r k e
end
mutual
def text : Kd → Str
  | .mk as a => Txt.join " -> " (texts as ++ [a])
def texts : List Kd → List Str
  | [] => []
  | k :: r => (if k.as.isEmpty then text k else "(" ++ text k ++ ")") :: texts r
end
def intext (k : Kd) : Str := if k.as.isEmpty then text k else "(" ++ text k ++ ")"
theorem texts_map : ∀ ks, texts ks = ks.map intext
  | [] => rfl
  | k :: r => by
    rw [texts, texts_map r]
    rfl
mutual
def places : Kd → List Str
  | .mk as a => placesL as ++ [a]
def placesL : List Kd → List Str
  | [] => []
  | k :: r => places k ++ placesL r
end
theorem placesL_map : ∀ ks, placesL ks = (ks.map places).flatten
  | [] => rfl
  | k :: r => by
    rw [placesL, placesL_map r]
    rfl
mutual
def ord : Kd → Nat
  | .mk as _ => ordL as
def ordL : List Kd → Nat
  | [] => 0
  | k :: r => max (ord k + 1) (ordL r)
end
theorem ord_lt {k : Kd} : ∀ {ks : List Kd}, k ∈ ks → ord k < ordL ks
  | [], h => absurd h List.not_mem_nil
  | j :: r, h => by
    rw [ordL]
    rcases List.mem_cons.mp h with e | e
    · rw [e]; omega
    · have := ord_lt e
      omega
theorem ordL_le {n : Nat} : ∀ {ks : List Kd}, (∀ k ∈ ks, ord k < n) → ordL ks ≤ n
  | [], _ => Nat.zero_le _
  | j :: r, h => by
    rw [ordL]
    have h1 := h j List.mem_cons_self
    have h2 := ordL_le fun k hk => h k (List.mem_cons_of_mem _ hk)
    omega
theorem ordL_max {ks : List Kd} {m : Int} (hm : m ∈ ks.map fun k => (ord k : Int)) (hy : ∀ y ∈ ks.map (fun k => (ord k : Int)), y ≤ m) : 1 + m = (ordL ks : Int) := by
  obtain ⟨k, hk, rfl⟩ := List.mem_map.mp hm
  have h1 := ord_lt hk
  have h2 : ordL ks ≤ ord k + 1 := ordL_le fun j hj => by
    have := hy _ (List.mem_map.mpr ⟨j, hj, rfl⟩)
    omega
  omega
mutual
def parts : Kd → List Kd
  | .mk as a => .mk as a :: partsL as
def partsL : List Kd → List Kd
  | [] => []
  | k :: r => parts k ++ partsL r
end
theorem partsL_map : ∀ ks, partsL ks = (ks.map parts).flatten
  | [] => rfl
  | k :: r => by
    rw [partsL, partsL_map r]
    rfl
mutual
def signed : Kd → Bool → List Str
  | .mk as a, b => (if b then [a] else []) ++ signedL as (!b)
def signedL : List Kd → Bool → List Str
  | [], _ => []
  | k :: r, b => signed k b ++ signedL r b
end
theorem signedL_map (b : Bool) : ∀ ks, signedL ks b = (ks.map fun k => signed k b).flatten
  | [] => rfl
  | k :: r => by
    rw [signedL, signedL_map b r]
    rfl
/-! ### sizes -/
theorem places_pos (k : Kd) : 1 ≤ (places k).length := by
  cases k with
  | mk as a =>
    rw [places, List.length_append]
    show 1 ≤ _ + 1
    omega
theorem placesL_len {k : Kd} : ∀ {ks : List Kd}, k ∈ ks → (places k).length ≤ (placesL ks).length
  | [], h => absurd h List.not_mem_nil
  | j :: r, h => by
    rw [placesL, List.length_append]
    rcases List.mem_cons.mp h with e | e
    · rw [e]; omega
    · have := placesL_len e
      omega
theorem length_placesL : ∀ ks : List Kd, ks.length ≤ (placesL ks).length
  | [] => Nat.zero_le _
  | j :: r => by
    rw [placesL, List.length_append, List.length_cons]
    have h1 := places_pos j
    have h2 := length_placesL r
    omega
theorem placesL_mem {k : Kd} {z : Str} (hz : z ∈ places k) : ∀ {ks : List Kd}, k ∈ ks → z ∈ placesL ks
  | [], h => absurd h List.not_mem_nil
  | j :: r, h => by
    rw [placesL]
    rcases List.mem_cons.mp h with e | e
    · rw [← e]
      exact List.mem_append_left _ hz
    · exact List.mem_append_right _ (placesL_mem hz e)
mutual
theorem parts_len : ∀ k, (parts k).length ≤ (places k).length
  | .mk as a => by
    rw [parts, places, List.length_cons, List.length_append]
    have := partsL_len as
    show _ ≤ _ + 1
    omega
theorem partsL_len : ∀ ks, (partsL ks).length ≤ (placesL ks).length
  | [] => Nat.le_refl _
  | k :: r => by
    rw [partsL, placesL, List.length_append, List.length_append]
    have := parts_len k
    have := partsL_len r
    omega
end
mutual
theorem signed_len : ∀ k b, (signed k b).length ≤ (places k).length
  | .mk as a, b => by
    rw [signed, places, List.length_append, List.length_append]
    have := signedL_len as (!b)
    show _ ≤ _ + 1
    cases b
    · show 0 + _ ≤ _; omega
    · show 1 + _ ≤ _; omega
theorem signedL_len : ∀ ks b, (signedL ks b).length ≤ (placesL ks).length
  | [], _ => Nat.le_refl _
  | k :: r, b => by
    rw [signedL, placesL, List.length_append, List.length_append]
    have := signed_len k b
    have := signedL_len r b
    omega
end
/-! ### words -/
def letters : List Nat := ("abcdefghijklmnopqrstuvwxyz" : Str).cps.toList
def isWordS (z : Str) : Bool := decide (1 ≤ z.length) && decide (z.length ≤ 8) && z.cps.toList.all fun c => decide (c ∈ letters)
theorem word_len {z : Str} (h : isWordS z = true) : 1 ≤ z.length ∧ z.length ≤ 8 := by
  unfold isWordS at h
  simp only [Bool.and_eq_true, decide_eq_true_eq] at h
  exact h.1
theorem word_letters {z : Str} (h : isWordS z = true) : ∀ c ∈ z.cps.toList, c ∈ letters := by
  unfold isWordS at h
  simp only [Bool.and_eq_true, decide_eq_true_eq, List.all_eq_true] at h
  exact h.2
theorem letters_small : ∀ c ∈ letters, 97 ≤ c ∧ c < 123 := by decide +kernel
theorem word_ok {z : Str} (h : isWordS z = true) : okStr z := ⟨Nat.le_trans (word_len h).2 (by decide), fun c hc => by
  have := letters_small c (word_letters h c hc)
  omega⟩
/-- a whole kind -/
structure Good (k : Kd) : Prop where
  w : ∀ z ∈ places k, isWordS z = true
  p : (places k).length ≤ 15
  o : ord k ≤ 4
theorem Good.kid {as : List Kd} {a : Str} (g : Good (.mk as a)) {k : Kd} (h : k ∈ as) : Good k := by
  refine ⟨fun z hz => g.w z ?_, ?_, ?_⟩
  · rw [places]
    exact List.mem_append_left _ (placesL_mem hz h)
  · have h1 := g.p
    rw [places, List.length_append] at h1
    have := placesL_len h
    have h1 : (placesL as).length + 1 ≤ 15 := h1
    omega
  · have h1 := g.o
    rw [ord] at h1
    have := ord_lt h
    omega
theorem Good.atom {as : List Kd} {a : Str} (g : Good (.mk as a)) : isWordS a = true := g.w a (by rw [places]; simp)
theorem Good.few {as : List Kd} {a : Str} (g : Good (.mk as a)) : (placesL as).length ≤ 14 ∧ as.length ≤ 14 := by
  have h1 := g.p
  rw [places, List.length_append] at h1
  have h1 : (placesL as).length + 1 ≤ 15 := h1
  have := length_placesL as
  omega
/-! ### the size of a text -/
theorem len_app (a b : Str) : (a ++ b).length = a.length + b.length := by
  show (a.cps ++ b.cps).size = _
  rw [Array.size_append]
  rfl
theorem join_len (ys : List Str) : (Txt.join " -> " ys).length ≤ (ys.map (·.length)).sum + ys.length * 4 := by
  rw [TL.join_eq]
  exact StrLaws.join_length_le " -> " ys
mutual
theorem text_len : ∀ k, (∀ z ∈ places k, z.length ≤ 8) → (text k).length + 6 ≤ 18 * (places k).length
  | .mk as a, h => by
    rw [text, places, List.length_append]
    have h1 := join_len (texts as ++ [a])
    have h2 := texts_len as fun z hz => h z (by rw [places]; exact List.mem_append_left _ hz)
    have h3 := h a (by rw [places]; simp)
    rw [List.map_append, List.sum_append, List.length_append] at h1
    have e1 : ([a].map (·.length)).sum = a.length := by simp
    have e2 : [a].length = 1 := rfl
    rw [e1, e2] at h1
    rw [e2]
    omega
theorem texts_len : ∀ ks, (∀ z ∈ placesL ks, z.length ≤ 8) → ((texts ks).map (·.length)).sum + (texts ks).length * 4 + 0 ≤ 18 * (placesL ks).length
  | [], _ => Nat.le_refl _
  | k :: r, h => by
    rw [texts, placesL, List.map_cons, List.sum_cons, List.length_cons, List.length_append]
    have h1 := text_len k fun z hz => h z (by rw [placesL]; exact List.mem_append_left _ hz)
    have h2 := texts_len r fun z hz => h z (by rw [placesL]; exact List.mem_append_right _ hz)
    have h3 := places_pos k
    have h4 : (if k.as.isEmpty then text k else "(" ++ text k ++ ")").length ≤ (text k).length + 2 := by
      split
      · omega
      · rw [len_app, len_app]
        have e1 : ("(" : Str).length = 1 := rfl
        have e2 : (")" : Str).length = 1 := rfl
        rw [e1, e2]
        omega
    omega
end
end KP

/-! KP2: kinds as data; data beside themselves. -/
namespace KP
open PySem L2 FP
variable [FP.Tabl]
mutual
def plain : Kd → D
  | .mk as a => .tup [.tup (plains as), .str a]
def plains : List Kd → List D
  | [] => []
  | k :: r => plain k :: plains r
end
theorem plains_map : ∀ ks, plains ks = ks.map plain
  | [] => rfl
  | k :: r => by
    rw [plains, plains_map r]
    rfl
theorem plain_mk (as : List Kd) (a : Str) : plain (.mk as a) = .tup [.tup (as.map plain), .str a] := by
  rw [plain, plains_map]
theorem plain_eq (k : Kd) : plain k = .tup [.tup (k.as.map plain), .str k.a] := by
  cases k with
  | mk as a => exact plain_mk as a
mutual
def typeD : Kd → D
  | .mk as a => .ins "Type" [("own_args", .tup (typeDs as)), ("own_atom", .str a), ("own_places", .tup ((places (.mk as a)).map .str)), ("own_order", .int (ord (.mk as a))), ("own_text", .str (text (.mk as a)))]
def typeDs : List Kd → List D
  | [] => []
  | k :: r => typeD k :: typeDs r
end
theorem typeDs_map : ∀ ks, typeDs ks = ks.map typeD
  | [] => rfl
  | k :: r => by
    rw [typeDs, typeDs_map r]
    rfl
def flds (k : Kd) : List (Str × D) := [("own_args", .tup (k.as.map typeD)), ("own_atom", .str k.a), ("own_places", .tup ((places k).map .str)), ("own_order", .int (ord k)), ("own_text", .str (text k))]
theorem typeD_eq (k : Kd) : typeD k = .ins "Type" (flds k) := by
  cases k with
  | mk as a =>
    rw [typeD, typeDs_map]
    rfl
theorem lk_args (k : Kd) : (flds k).lookup ("own_args" : Str) = some (.tup (k.as.map typeD)) := rfl
theorem lk_atom (k : Kd) : (flds k).lookup ("own_atom" : Str) = some (.str k.a) := rfl
theorem lk_places (k : Kd) : (flds k).lookup ("own_places" : Str) = some (.tup ((places k).map .str)) := rfl
theorem lk_order (k : Kd) : (flds k).lookup ("own_order" : Str) = some (.int (ord k)) := rfl
theorem lk_text (k : Kd) : (flds k).lookup ("own_text" : Str) = some (.str (text k)) := rfl
/-! ### readings of fields, of the class -/
section
variable {k : Kd} {Q : D → Prop}
/-- a field is read -/
theorem fld {f : Str} {d : D} {c : Str} (h : (flds k).lookup f = some d) (q : Q d) (hc : c = "Type" := by rfl) : (match typeD k with
  | .ins c' fs => c' = c ∧ ∃ d, fs.lookup f = some d ∧ Q d
  | _ => False) := by
  rw [typeD_eq]
  exact ⟨hc.symm, d, h, q⟩
theorem isT (q : Q (.bl true)) : (match isiD ["Type"] (fun _ => true) (typeD k) with
  | some b => Q (.bl b)
  | none => False) := by
  rw [typeD_eq]
  exact q
end
/-! ### data beside themselves -/
def chOk (z : Str) : Bool := PyData.strOk z
mutual
def shD : Nat → D → Bool
  | _, .non => true
  | _, .bl _ => true
  | _, .int _ => true
  | _, .str x => PyData.strOk x
  | n + 1, .tup xs => shDs n xs
  | n + 1, .lst xs => shDs n xs
  | _, _ => false
def shDs : Nat → List D → Bool
  | _, [] => true
  | n, x :: r => shD n x && shDs n r
end
mutual
theorem shD_py : ∀ (n : Nat) (d : D), shD n d = true → ∃ p, toPy d = some p ∧ p.canLay0 = true ∧ p.depth ≤ n
  | n, .non, _ => ⟨.none, rfl, rfl, Nat.zero_le _⟩
  | n, .bl b, _ => ⟨.bool b, rfl, rfl, Nat.zero_le _⟩
  | n, .int i, _ => ⟨.int i, rfl, rfl, Nat.zero_le _⟩
  | n, .str x, h => ⟨.str x, rfl, by rw [PyData.canLay0]; simpa [shD] using h, Nat.zero_le _⟩
  | n + 1, .tup xs, h => by
    rw [shD] at h
    obtain ⟨ps, h1, h2, h3⟩ := shDs_py n xs h
    exact ⟨.tuple ps, by rw [toPy, h1], h2, Nat.succ_le_succ h3⟩
  | n + 1, .lst xs, h => by
    rw [shD] at h
    obtain ⟨ps, h1, h2, h3⟩ := shDs_py n xs h
    exact ⟨.list ps, by rw [toPy, h1], h2, Nat.succ_le_succ h3⟩
  | 0, .tup xs, h => by simp [shD] at h
  | 0, .lst xs, h => by simp [shD] at h
  | n, .fz _, h => by simp [shD] at h
  | n, .dct _, h => by simp [shD] at h
  | n, .ins _ _, h => by simp [shD] at h
  | n, .tok, h => by simp [shD] at h
  | n, .cl _, h => by simp [shD] at h
  | n, .fn _ _, h => by simp [shD] at h
theorem shDs_py : ∀ (n : Nat) (ds : List D), shDs n ds = true → ∃ ps, toPys ds = some ps ∧ PyData.canLayAll0 ps = true ∧ PyData.depthAll ps ≤ n
  | n, [], _ => ⟨[], rfl, rfl, Nat.zero_le _⟩
  | n, x :: r, h => by
    rw [shDs, Bool.and_eq_true] at h
    obtain ⟨p, h1, h2, h3⟩ := shD_py n x h.1
    obtain ⟨ps, g1, g2, g3⟩ := shDs_py n r h.2
    refine ⟨p :: ps, by rw [toPys, h1, g1], ?_, ?_⟩
    · rw [PyData.canLayAll0, h2, g2]
      rfl
    · rw [PyData.depthAll]
      omega
end
mutual
theorem eqv_refl : ∀ p : PyData, p.canLay0 = true → PyData.eqv p p = true
  | .none, _ => by simp [PyData.eqv]
  | .bool _, _ => by simp [PyData.eqv]
  | .int _, _ => by simp [PyData.eqv]
  | .str _, _ => by simp [PyData.eqv]
  | .list xs, h => by
    rw [PyData.eqv]
    exact eqvAll_refl xs (by simpa [PyData.canLay0] using h)
  | .tuple xs, h => by
    rw [PyData.eqv]
    exact eqvAll_refl xs (by simpa [PyData.canLay0] using h)
  | .dict _, h => by simp [PyData.canLay0] at h
theorem eqvAll_refl : ∀ ps : List PyData, PyData.canLayAll0 ps = true → PyData.eqvAll ps ps = true
  | [], _ => by simp [PyData.eqvAll]
  | p :: r, h => by
    rw [PyData.canLayAll0, Bool.and_eq_true] at h
    rw [PyData.eqvAll, eqv_refl p h.1, eqvAll_refl r h.2]
    rfl
end
theorem sh_shaped {p : PyData} (h1 : p.canLay0 = true) (h2 : p.depth ≤ 64) : SeqAt.shaped p = true := by
  unfold SeqAt.shaped
  rw [h1, decide_eq_true h2]
  rfl
theorem ne_refl {x : D} {Q : D → Prop} (h : shD 64 x = true) (hn : eqS x x = none) (q : Q (.bl false)) : rdNe x x Q := by
  obtain ⟨p, h1, h2, h3⟩ := shD_py 64 x h
  exact ne_deep h1 h1 hn (sh_shaped h2 h3) (sh_shaped h2 h3) (eqv_refl p h2) q
theorem eq_refl {x : D} {Q : D → Prop} (h : shD 64 x = true) (hn : eqS x x = none) (q : Q (.bl true)) : rdEq x x Q := by
  obtain ⟨p, h1, h2, h3⟩ := shD_py 64 x h
  exact eq_deep h1 h1 hn (sh_shaped h2 h3) (sh_shaped h2 h3) (eqv_refl p h2) q
theorem shDs_strs {n : Nat} : ∀ {zs : List Str}, (∀ z ∈ zs, PyData.strOk z = true) → shDs n (zs.map D.str) = true
  | [], _ => by simp [shDs]
  | z :: r, h => by
    rw [List.map_cons, shDs, shDs_strs fun y hy => h y (List.mem_cons_of_mem _ hy)]
    rw [shD, h z List.mem_cons_self]
    rfl
/-! ### signs of texts -/
theorem strOk_iff (z : Str) : PyData.strOk z = true ↔ ∀ c ∈ z.cps.toList, c < 1114112 := by
  unfold PyData.strOk
  rw [Array.all_eq_true']
  simp
theorem strOk_app {a b : Str} (h1 : PyData.strOk a = true) (h2 : PyData.strOk b = true) : PyData.strOk (a ++ b) = true := by
  rw [strOk_iff] at *
  intro c hc
  rw [str_app] at hc
  rcases List.mem_append.mp hc with q | q
  · exact h1 c q
  · exact h2 c q
theorem strOk_join {y : Str} (hy : PyData.strOk y = true) : ∀ {ts : List Str}, (∀ t ∈ ts, PyData.strOk t = true) → PyData.strOk (Str.join y ts) = true
  | [], _ => by show PyData.strOk Str.empty = true; decide +kernel
  | [t], h => h t List.mem_cons_self
  | t :: u :: r, h => by
    show PyData.strOk (t ++ y ++ Str.join y (u :: r)) = true
    exact strOk_app (strOk_app (h t List.mem_cons_self) hy) (strOk_join hy fun s hs => h s (List.mem_cons_of_mem _ hs))
mutual
theorem text_ok : ∀ k, (∀ z ∈ places k, PyData.strOk z = true) → PyData.strOk (text k) = true
  | .mk as a, h => by
    rw [text, TL.join_eq]
    refine strOk_join (by decide +kernel) fun t ht => ?_
    rcases List.mem_append.mp ht with q | q
    · exact texts_ok as (fun z hz => h z (by rw [places]; exact List.mem_append_left _ hz)) t q
    · rw [List.mem_singleton.mp q]
      exact h a (by rw [places]; simp)
theorem texts_ok : ∀ ks, (∀ z ∈ placesL ks, PyData.strOk z = true) → ∀ t ∈ texts ks, PyData.strOk t = true
  | [], _, t, ht => by
    rw [texts] at ht
    cases ht
  | k :: r, h, t, ht => by
    rw [texts] at ht
    have h1 := text_ok k fun z hz => h z (by rw [placesL]; exact List.mem_append_left _ hz)
    rcases List.mem_cons.mp ht with q | q
    · rw [q]
      split
      · exact h1
      · exact strOk_app (strOk_app (by decide +kernel) h1) (by decide +kernel)
    · exact texts_ok r (fun z hz => h z (by rw [placesL]; exact List.mem_append_right _ hz)) t q
end
theorem Good.chars {k : Kd} (g : Good k) : ∀ z ∈ places k, PyData.strOk z = true := fun z hz => (strOk_iff z).mpr (word_ok (g.w z hz)).2
theorem Good.text_ok {k : Kd} (g : Good k) : PyData.strOk (text k) = true := KP.text_ok k g.chars
theorem Good.text_len {k : Kd} (g : Good k) : (text k).length ≤ 300 := by
  have h1 := KP.text_len k fun z hz => (word_len (g.w z hz)).2
  have h2 := g.p
  omega
theorem Good.okStr {k : Kd} (g : Good k) : okStr (text k) := ⟨Nat.le_trans g.text_len (by decide), (strOk_iff _).mp g.text_ok⟩
theorem app_empty (z : Str) : (Str.empty : Str) ++ z = z := by
  show (⟨#[] ++ z.cps⟩ : Str) = z
  simp
end KP

/-! KP3: what the defs about kinds promise, by data; lists walked. -/
namespace KP
open PySem L2 FP
variable [FP.Tabl]
/-- a comprehension over data told by things -/
theorem lc_of {α : Type} {body : D → (Option D → Prop) → Prop} (e g : α → D) : ∀ (xs : List α) (Q : List D → Prop), (∀ x ∈ xs, ∀ k : Option D → Prop, k (some (g x)) → body (e x) k) → Q (xs.map g) → lcD body (xs.map e) Q
  | [], Q, _, h => h
  | x :: xs, Q, hb, h => by
    refine hb x List.mem_cons_self _ ?_
    exact lc_of e g xs _ (fun y hy => hb y (List.mem_cons_of_mem _ hy)) h
/-- the same with a test -/
theorem lc_if {α : Type} {body : D → (Option D → Prop) → Prop} (e : α → D) (g : α → Option D) : ∀ (xs : List α) (Q : List D → Prop), (∀ x ∈ xs, ∀ k : Option D → Prop, k (g x) → body (e x) k) → Q (xs.filterMap g) → lcD body (xs.map e) Q
  | [], Q, _, h => h
  | x :: xs, Q, hb, h => by
    refine hb x List.mem_cons_self _ ?_
    refine lc_if e g xs _ (fun y hy => hb y (List.mem_cons_of_mem _ hy)) ?_
    rw [List.filterMap_cons] at h
    cases q : g x with
    | none => rw [q] at h; exact h
    | some r => rw [q] at h; exact h
/-- two clauses -/
theorem lcS_of {α : Type} {body : D → (List D → Prop) → Prop} (e : α → D) (g : α → List D) : ∀ (xs : List α) (Q : List D → Prop), (∀ x ∈ xs, ∀ k : List D → Prop, k (g x) → body (e x) k) → Q ((xs.map g).flatten) → lcS body (xs.map e) Q
  | [], Q, _, h => h
  | x :: xs, Q, hb, h => by
    refine hb x List.mem_cons_self _ ?_
    exact lcS_of e g xs _ (fun y hy => hb y (List.mem_cons_of_mem _ hy)) h
/-- a for loop over data told by things: what holds behind each -/
theorem for_of {α : Type} {T : Tg} {f : DTS} {N : Nd} (e : α → D) (I : List α → FP.Env → Prop) : ∀ (xs done : List α) (ρ : FP.Env), I done ρ →
    (∀ (x : α) (pre post : List α), done ++ xs = pre ++ x :: post → ∀ (ρ : FP.Env) (K : FP.Env → Prop), I pre ρ → (∀ ρ', I (pre ++ [x]) ρ' → K ρ') → ∃ ρ1, T.put (e x) ρ = some ρ1 ∧ f { N with nx := K, ct := K, bk := N.nx } ρ1) →
    (∀ ρ, I (done ++ xs) ρ → N.nx ρ) → forD T f N (xs.map e) ρ
  | [], done, ρ, h, _, he => he ρ (by rw [List.append_nil]; exact h)
  | x :: xs, done, ρ, h, hs, he => by
    refine hs x done xs rfl ρ _ h fun ρ' h' => ?_
    refine for_of e I xs (done ++ [x]) ρ' h' (fun y pre post eq ρ K => hs y pre post (by rw [← eq, List.append_assoc]; rfl) ρ K) fun ρ h2 => he ρ ?_
    rw [List.append_assoc] at h2
    exact h2
def isWordD : D → Bool
  | .str z => isWordS z
  | _ => false
def isIntD : D → Bool
  | .int i => decide (-(10 ^ 60) < i) && decide (i < 10 ^ 60)
  | _ => false
def f_is_word : List D → M D := fun ds Q _ => match ds with
  | [d] => okV d ∧ Q (.bl (isWordD d))
  | _ => False
def f_is_int : List D → M D := fun ds Q _ => match ds with
  | [d] => okV d ∧ Q (.bl (isIntD d))
  | _ => False
def inRow (d : D) (a b : Int) : Bool := match d with
  | .int i => isIntD (.int i) && (decide (a ≤ i) && decide (i ≤ b))
  | _ => false
def f_within : List D → M D := fun ds Q _ => match ds with
  | [d, .int a, .int b] => okV d ∧ Q (.bl (inRow d a b))
  | _ => False
def f_order : List D → M D := fun ds Q _ => match ds with
  | [.tup xs] => ∃ ks : List Kd, xs = ks.map typeD ∧ ks.length ≤ 100 ∧ Q (.int (ordL ks))
  | _ => False
def f_intext : List D → M D := fun ds Q _ => match ds with
  | [d] => ∃ k, d = typeD k ∧ (text k).length ≤ 1000 ∧ Q (.str (intext k))
  | _ => False
def f_init : List D → ((List (Str × D)) → Prop) → (XD → Prop) → Prop := fun ds Q _ => match ds with
  | [.tup xs, .str a] => ∃ ks : List Kd, xs = ks.map typeD ∧ Good (.mk ks a) ∧ Q (flds (.mk ks a))
  | _ => False
def f_parts (d : Nat) : List D → M D := fun ds Q _ => match ds with
  | [x] => ∃ k, x = typeD k ∧ Good k ∧ ord k < d ∧ Q (.lst ((parts k).map typeD))
  | _ => False
def f_signed (d : Nat) : List D → M D := fun ds Q _ => match ds with
  | [x, .bl b] => ∃ k, x = typeD k ∧ Good k ∧ ord k < d ∧ Q (.lst ((signed k b).map .str))
  | _ => False
/-- what is told of a kind -/
def f_tell (g : Kd → D) : List D → M D := fun ds Q _ => match ds with
  | [x] => ∃ k, x = typeD k ∧ Good k ∧ Q (g k)
  | _ => False
def d_args (k : Kd) : D := .tup (k.as.map typeD)
def d_atom (k : Kd) : D := .str k.a
def d_text (k : Kd) : D := .str (text k)
def d_order (k : Kd) : D := .int (ord k)
def d_len (k : Kd) : D := .int (places k).length
def d_atoms (k : Kd) : D := .tup ((sortU (signed k true ++ signed k false)).map .str)
def d_pos (k : Kd) : D := .tup ((sortU (signed k true)).map .str)
def d_neg (k : Kd) : D := .tup ((sortU (signed k false)).map .str)
def f_pparts : List D → M D := fun ds Q _ => match ds with
  | [x] => ∃ k, x = typeD k ∧ Good k ∧ ∀ qs : List Kd, qs.map text = sortU ((parts k).map text) → (∀ j ∈ qs, j ∈ parts k) → Q (.tup (qs.map typeD))
  | _ => False
def noT (d : D) : Prop := isiD ["Type"] (fun _ => true) d = some false
def f_eq : List D → M D := fun ds Q _ => match ds with
  | [x, y] => ∃ k, x = typeD k ∧ ((∃ j, y = typeD j ∧ Q (.bl (decide (text k = text j)))) ∨ (noT y ∧ Q (.bl false)))
  | _ => False
def f_has : List D → M D := fun ds Q _ => match ds with
  | [x, y] => ∃ k, x = typeD k ∧ Good k ∧ ((∃ j, y = typeD j ∧ Good j ∧ Q (.bl (decide (text j ∈ (parts k).map text)))) ∨ (noT y ∧ Q (.bl false)))
  | _ => False
def f_item : List D → M D := fun ds Q _ => match ds with
  | [x, .int i] => ∃ k j, x = typeD k ∧ Good k ∧ (0 ≤ i ∧ k.as[i.toNat]? = some j) ∧ Q (typeD j)
  | _ => False
def f_plain : List D → M D := fun ds Q _ => match ds with
  | [.cl c, .str a] => c = "Type" ∧ isWordS a = true ∧ Q (typeD (.mk [] a))
  | _ => False
theorem Good.leaf {a : Str} (h : isWordS a = true) : Good (.mk [] a) := by
  refine ⟨fun z hz => ?_, ?_, ?_⟩
  · rw [places, placesL] at hz
    rw [List.mem_singleton.mp hz]
    exact h
  · rw [places, placesL]
    show 1 ≤ 15
    decide
  · rw [ord, ordL]
    decide
theorem kit_tt : kitB "tuple" "tuple" = some true := by decide +kernel
theorem size_small {n : Nat} (h : n ≤ 1000) : n ≤ sizeLine := Nat.le_trans h (by decide)
theorem partsL_app (xs ys : List Kd) : partsL (xs ++ ys) = partsL xs ++ partsL ys := by
  rw [partsL_map, partsL_map, partsL_map, List.map_append, List.flatten_append]
theorem partsL_one (k : Kd) : partsL [k] = parts k := by
  rw [partsL, partsL, List.append_nil]
theorem signedL_app (b : Bool) (xs ys : List Kd) : signedL (xs ++ ys) b = signedL xs b ++ signedL ys b := by
  rw [signedL_map, signedL_map, signedL_map, List.map_append, List.flatten_append]
theorem signedL_one (b : Bool) (k : Kd) : signedL [k] b = signed k b := by
  rw [signedL, signedL, List.append_nil]
theorem placesL_app (xs ys : List Kd) : placesL (xs ++ ys) = placesL xs ++ placesL ys := by
  rw [placesL_map, placesL_map, placesL_map, List.map_append, List.flatten_append]
theorem placesL_one (k : Kd) : placesL [k] = places k := by
  rw [placesL, placesL, List.append_nil]
theorem mem_mid {α : Type} {x : α} {xs pre post : List α} (h : [] ++ xs = pre ++ x :: post) : x ∈ xs := by
  rw [List.nil_append] at h
  rw [h]
  simp
theorem nope_parts (ds : List D) (Q : D → Prop) (E : XD → Prop) (h : f_parts 0 ds Q E) : False := by
  unfold f_parts at h
  split at h
  · obtain ⟨_, _, _, h, _⟩ := h
    omega
  · exact h
theorem nope_signed (ds : List D) (Q : D → Prop) (E : XD → Prop) (h : f_signed 0 ds Q E) : False := by
  unfold f_signed at h
  split at h
  · obtain ⟨_, _, _, h, _⟩ := h
    omega
  · exact h
end KP

/-! KP4: a dict from texts to kinds; its keys in order. -/
namespace KP
open PySem L2 FP
variable [FP.Tabl]
theorem dc_of {α : Type} {body : D → (Option (Key × D) → Prop) → Prop} (e : α → D) (g : α → Key × D) : ∀ (xs : List α) (acc : List (Key × D)) (Q : List (Key × D) → Prop), (∀ x ∈ xs, ∀ k : Option (Key × D) → Prop, k (some (g x)) → body (e x) k) → Q (xs.foldl (fun a x => putKD a (g x).1 (g x).2) acc) → dcD body (xs.map e) acc Q
  | [], acc, Q, _, h => h
  | x :: xs, acc, Q, hb, h => by
    refine hb x List.mem_cons_self _ ?_
    exact dc_of e g xs _ Q (fun y hy => hb y (List.mem_cons_of_mem _ hy)) h
def keyT (kv : Key × D) : Str := match kv.1 with
  | .inr x => x
  | .inl _ => Str.empty
abbrev foldPut (ps : List Kd) (acc : List (Key × D)) : List (Key × D) := ps.foldl (fun a j => putKD a (.inr (text j)) (typeD j)) acc
structure DInv (done : List Kd) (acc : List (Key × D)) : Prop where
  el : ∀ kv ∈ acc, ∃ j ∈ done, kv = (.inr (text j), typeD j)
  nd : (acc.map (·.1)).Nodup
  all : ∀ j ∈ done, Sum.inr (text j) ∈ acc.map (·.1)
theorem DInv.put {done : List Kd} {acc : List (Key × D)} (h : DInv done acc) (j : Kd) : DInv (done ++ [j]) (putKD acc (.inr (text j)) (typeD j)) := by
  unfold putKD
  by_cases q : (acc.any fun kv => decide (kv.1 = .inr (text j))) = true
  · rw [if_pos q]
    have ek : (acc.map fun kv => if kv.1 = .inr (text j) then (kv.1, typeD j) else kv).map (·.1) = acc.map (·.1) := by
      rw [List.map_map]
      apply List.map_congr_left
      intro kv _
      show (if kv.1 = .inr (text j) then (kv.1, typeD j) else kv).1 = kv.1
      split <;> rfl
    refine ⟨fun kv hkv => ?_, by rw [ek]; exact h.nd, fun i hi => ?_⟩
    · obtain ⟨kv0, h0, e⟩ := List.mem_map.mp hkv
      by_cases z : kv0.1 = .inr (text j)
      · rw [if_pos z] at e
        exact ⟨j, by simp, by rw [← e, z]⟩
      · rw [if_neg z] at e
        obtain ⟨i, hi, ei⟩ := h.el kv0 h0
        exact ⟨i, List.mem_append_left _ hi, by rw [← e, ei]⟩
    · rw [ek]
      rcases List.mem_append.mp hi with z | z
      · exact h.all i z
      · rw [List.mem_singleton.mp z]
        obtain ⟨kv, h1, h2⟩ := List.any_eq_true.mp q
        exact List.mem_map.mpr ⟨kv, h1, of_decide_eq_true h2⟩
  · rw [if_neg q]
    have nk : Sum.inr (text j) ∉ acc.map (·.1) := fun z => by
      obtain ⟨kv, h1, h2⟩ := List.mem_map.mp z
      exact q (List.any_eq_true.mpr ⟨kv, h1, decide_eq_true h2⟩)
    refine ⟨fun kv hkv => ?_, ?_, fun i hi => ?_⟩
    · rcases List.mem_append.mp hkv with z | z
      · obtain ⟨i, hi, ei⟩ := h.el kv z
        exact ⟨i, List.mem_append_left _ hi, ei⟩
      · exact ⟨j, by simp, List.mem_singleton.mp z⟩
    · rw [List.map_append]
      refine List.nodup_append.mpr ⟨h.nd, by simp, fun a ha b hb e => ?_⟩
      have eb : b = Sum.inr (text j) := by simpa using hb
      rw [e, eb] at ha
      exact nk ha
    · rw [List.map_append]
      rcases List.mem_append.mp hi with z | z
      · exact List.mem_append_left _ (h.all i z)
      · rw [List.mem_singleton.mp z]
        exact List.mem_append_right _ (by simp)
theorem DInv.fold : ∀ (ps done : List Kd) (acc : List (Key × D)), DInv done acc → DInv (done ++ ps) (foldPut ps acc)
  | [], done, acc, h => by rw [List.append_nil]; exact h
  | j :: r, done, acc, h => by
    have z := DInv.fold r (done ++ [j]) _ (h.put j)
    rw [List.append_assoc] at z
    exact z
theorem foldPut_len : ∀ (ps : List Kd) (acc : List (Key × D)), (foldPut ps acc).length ≤ ps.length + acc.length
  | [], acc => by simp [foldPut]
  | j :: r, acc => by
    have h1 := foldPut_len r (putKD acc (.inr (text j)) (typeD j))
    have h2 := putKD_len acc (.inr (text j)) (typeD j)
    rw [List.length_cons]
    show (foldPut r (putKD acc (.inr (text j)) (typeD j))).length ≤ _
    omega
theorem sortS_mem {z : Str} {l : List Str} : z ∈ sortS l ↔ z ∈ l := (sortS_perm l).mem_iff
theorem sortS_len (l : List Str) : (sortS l).length = l.length := (sortS_perm l).length_eq
theorem valD_find {kvs : List (Key × D)} {k : Key} {kv : Key × D} (h : kvs.find? (fun kv => decide (kv.1 = k)) = some kv) : valD kvs k = some kv.2 := by
  unfold valD
  rw [h]
  rfl
theorem dict_texts (ps : List Kd) : sortS ((foldPut ps []).map keyT) = sortU (ps.map text) ∧ ∀ z ∈ (foldPut ps []).map keyT, ∃ j ∈ ps, text j = z ∧ valD (foldPut ps []) (.inr z) = some (typeD j) := by
  have h : DInv ps (foldPut ps []) := by
    have z := DInv.fold ps [] [] ⟨fun _ h => absurd h List.not_mem_nil, by simp, fun _ h => absurd h List.not_mem_nil⟩
    exact z
  have ek : ∀ kv ∈ foldPut ps [], kv.1 = .inr (keyT kv) := fun kv hkv => by
    obtain ⟨j, _, e⟩ := h.el kv hkv
    rw [e]
    rfl
  have mem : ∀ z, z ∈ (foldPut ps []).map keyT ↔ z ∈ ps.map text := fun z => by
    constructor
    · intro hz
      obtain ⟨kv, h1, h2⟩ := List.mem_map.mp hz
      obtain ⟨j, hj, e⟩ := h.el kv h1
      rw [e] at h2
      exact List.mem_map.mpr ⟨j, hj, h2⟩
    · intro hz
      obtain ⟨j, hj, e⟩ := List.mem_map.mp hz
      obtain ⟨kv, h1, h2⟩ := List.mem_map.mp (h.all j hj)
      refine List.mem_map.mpr ⟨kv, h1, ?_⟩
      have := ek kv h1
      rw [h2] at this
      rw [← e]
      exact (Sum.inr.inj this).symm
  have nd : ((foldPut ps []).map keyT).Nodup := by
    have e : (foldPut ps []).map (·.1) = ((foldPut ps []).map keyT).map Sum.inr := by
      rw [List.map_map]
      apply List.map_congr_left
      intro kv hkv
      exact ek kv hkv
    have h2 := h.nd
    rw [e] at h2
    exact (List.pairwise_map.mp h2).imp fun hab e => hab (by rw [e])
  refine ⟨?_, fun z hz => ?_⟩
  · unfold sortU
    refine upS_eq (sortS_up _) (sortS_up _) ((sortS_perm _).trans (List.Perm.trans (nodup_perm nd (nubS_nodup _) fun k => ?_) (sortS_perm _).symm))
    rw [mem, nubS_mem]
  · obtain ⟨kv, h1, h2⟩ := List.mem_map.mp hz
    have hk := ek kv h1
    rw [h2] at hk
    have hs : ((foldPut ps []).find? fun kv => decide (kv.1 = .inr z)).isSome = true := by
      rw [List.find?_isSome]
      exact ⟨kv, h1, decide_eq_true hk⟩
    obtain ⟨kv', hf⟩ := Option.isSome_iff_exists.mp hs
    have h3 := List.mem_of_find?_eq_some hf
    have h4 : kv'.1 = .inr z := by simpa using List.find?_some hf
    obtain ⟨j, hj, e⟩ := h.el kv' h3
    rw [e] at h4
    refine ⟨j, hj, Sum.inr.inj h4, ?_⟩
    rw [valD_find hf, e]
theorem keys_strs {ps : List Kd} : strsD ((foldPut ps []).map fun kv => match kv.1 with | .inl i => .int i | .inr x => .str x) = some ((foldPut ps []).map keyT) := by
  have h : DInv ps (foldPut ps []) := by
    have z := DInv.fold ps [] [] ⟨fun _ h => absurd h List.not_mem_nil, by simp, fun _ h => absurd h List.not_mem_nil⟩
    exact z
  have e : ((foldPut ps []).map fun kv => match kv.1 with | .inl i => D.int i | .inr x => .str x) = ((foldPut ps []).map keyT).map D.str := by
    rw [List.map_map]
    apply List.map_congr_left
    intro kv hkv
    obtain ⟨j, _, e⟩ := h.el kv hkv
    rw [e]
    rfl
  rw [e]
  exact strsD_map _
theorem choose_list {ps : List Kd} {kvs : List (Key × D)} : ∀ {zs : List Str}, (∀ z ∈ zs, ∃ j ∈ ps, text j = z ∧ valD kvs (.inr z) = some (typeD j)) → ∃ qs : List Kd, qs.map text = zs ∧ (∀ j ∈ qs, j ∈ ps) ∧ zs.map (fun z => (valD kvs (.inr z)).getD .non) = qs.map typeD
  | [], _ => ⟨[], rfl, fun _ h => absurd h List.not_mem_nil, rfl⟩
  | z :: r, h => by
    obtain ⟨j, h1, h2, h3⟩ := h z List.mem_cons_self
    obtain ⟨qs, g1, g2, g3⟩ := choose_list fun y hy => h y (List.mem_cons_of_mem _ hy)
    refine ⟨j :: qs, by rw [List.map_cons, h2, g1], fun i hi => ?_, by rw [List.map_cons, List.map_cons, g3, h3]; rfl⟩
    rcases List.mem_cons.mp hi with e | e
    · rw [e]; exact h1
    · exact g2 i e
theorem isi_T (k : Kd) : isiD ["Type"] (fun _ => true) (typeD k) = some true := by
  rw [typeD_eq]
  rfl
theorem vT {i : Nat} {ρ : FP.Env} {k : Kd} {Q : D → Prop} {E : XD → Prop} (h : ρ[i]? = some (.d (typeD k))) (q : Q (.bl true)) : dIsiO ["Type"] (fun _ => true) (dVar i) ρ Q E := by
  show (match ρ[i]? with | some (.d x) => (match isiD ["Type"] (fun _ => true) x with | some b => Q (.bl b) | none => False) | _ => False)
  rw [h]
  show (match isiD ["Type"] (fun _ => true) (typeD k) with | some b => Q (.bl b) | none => False)
  rw [isi_T]
  exact q
theorem vF {i : Nat} {ρ : FP.Env} {y : D} {Q : D → Prop} {E : XD → Prop} (h : ρ[i]? = some (.d y)) (n : noT y) (q : Q (.bl false)) : dIsiO ["Type"] (fun _ => true) (dVar i) ρ Q E := by
  show (match ρ[i]? with | some (.d x) => (match isiD ["Type"] (fun _ => true) x with | some b => Q (.bl b) | none => False) | _ => False)
  rw [h]
  show (match isiD ["Type"] (fun _ => true) y with | some b => Q (.bl b) | none => False)
  rw [show isiD ["Type"] (fun _ => true) y = some false from n]
  exact q
theorem flatsD_strs : ∀ zs : List Str, flatsD (zs.map D.str) = some (zs.map V.str)
  | [] => rfl
  | z :: r => by
    rw [List.map_cons, flatsD, flatsD_strs r]
    rfl
theorem flat_strs : ∀ zs : List Str, (zs.map V.str).all flatV = true
  | [] => rfl
  | z :: r => by
    rw [List.map_cons, List.all_cons, flat_strs r]
    rfl
theorem inV_strs (z : Str) : ∀ zs : List Str, inV (.str z) (zs.map V.str) = decide (z ∈ zs)
  | [] => rfl
  | y :: r => by
    have ih := inV_strs z r
    unfold inV at ih ⊢
    rw [List.map_cons, List.any_cons, ih]
    have e : eqV (.str y) (.str z) = decide (y = z) := by
      show (y == z) = _
      rfl
    rw [e, Bool.eq_iff_iff]
    simp only [Bool.or_eq_true, decide_eq_true_eq, List.mem_cons]
    constructor
    · rintro (h | h)
      · exact .inl h.symm
      · exact .inr h
    · rintro (h | h)
      · exact .inl h.symm
      · exact .inr h
theorem inD_strs (z : Str) (zs : List Str) : inD (.str z) (.lst (zs.map D.str)) = some (decide (z ∈ zs)) := by
  show (match flatD (.str z), flatsD (zs.map D.str) with
    | some v, some vs => if flatV v = true ∧ vs.all flatV = true then some (inV v vs) else none
    | _, _ => none) = _
  rw [flatsD_strs]
  show (if flatV (.str z) = true ∧ (zs.map V.str).all flatV = true then some (inV (.str z) (zs.map V.str)) else none) = _
  rw [if_pos ⟨rfl, flat_strs zs⟩, inV_strs]
theorem atI_nat {α : Type} {xs : List α} {i : Int} (h0 : 0 ≤ i) (h1 : i < xs.length) : atI xs i = xs[i.toNat]? := by
  unfold atI ixN
  rw [if_pos h0, if_pos h1]
  rfl
/-- a text among texts -/
theorem in_strs {z : Str} {zs : List Str} {Q : D → Prop} (q : Q (.bl (decide (z ∈ zs)))) (hn : zs.length ≤ 1000) : rdIn (.str z) (.lst (zs.map .str)) Q := by
  have e : inD (.str z) (.lst (zs.map .str)) = some (decide (z ∈ zs)) := inD_strs z zs
  unfold rdIn
  rw [e]
  exact q
end KP

/-! KP5: how a kind is read from signs, with no program in sight. -/
namespace KP
open PySem L2 FP
variable [FP.Tabl]
abbrev Rows := List (List Kd)
def rowD (r : List Kd) : List D := r.map plain
def roF (rows : Rows) (w : Bool) : FO := [("of_rows", .ll (rows.map rowD)), ("of_wants", .d (.bl w))]
theorem rf_rows (rows : Rows) (w : Bool) : (roF rows w).lookup ("of_rows" : Str) = some (.ll (rows.map rowD)) := rfl
theorem rf_put (rows rows' : Rows) (w : Bool) : putO "of_rows" (.ll (rows'.map rowD)) (roF rows w) = roF rows' w := rfl
theorem rf_set (rows : Rows) (w w' : Bool) : setO "of_wants" (.d (.bl w')) (roF rows w) = roF rows w' := rfl
theorem rf_dat (rows : Rows) (w : Bool) : datF "of_wants" (roF rows w) = true := rfl
theorem rf_take (rows : Rows) (w : Bool) : (roF rows w).lookup ("take" : Str) = none := rfl
theorem rf_end (rows : Rows) (w : Bool) : (roF rows w).lookup ("take_end" : Str) = none := rfl
def roD (rows : Rows) (w : Bool) : List (Str × D) := [("of_rows", .lst (rows.map fun r => .lst (rowD r))), ("of_wants", .bl w)]
theorem rf_toDs (rows : Rows) (w : Bool) : toDs (roF rows w) = roD rows w := by
  unfold toDs roF roD
  simp only [List.map_cons, List.map_nil, OF.toD, List.map_map]
  rfl
theorem rd_rows (rows : Rows) (w : Bool) : (roD rows w).lookup ("of_rows" : Str) = some (.lst (rows.map fun r => .lst (rowD r))) := rfl
theorem rd_wants (rows : Rows) (w : Bool) : (roD rows w).lookup ("of_wants" : Str) = some (.bl w) := rfl
theorem rd_result (rows : Rows) (w : Bool) : (roD rows w).lookup ("result" : Str) = none := rfl
def takeEnd (pre : Rows) (row : List Kd) (w : Bool) (s : Str) : Bool × Rows × Bool :=
  if w then (false, pre ++ [row], w) else if s = " -> " then (true, pre ++ [row], true) else
    match pre.getLast?, row.getLast? with
    | some r0, some k => if 2 ≤ row.length ∧ k.as = [] then (true, pre.dropLast ++ [r0 ++ [.mk row.dropLast k.a]], false) else (false, pre, false)
    | _, _ => (false, pre, false)
def take1 (pre : Rows) (row : List Kd) (w : Bool) (s : Str) : Bool × Rows × Bool :=
  if s = "(" then (w && decide (pre.length + 2 ≤ 5), pre ++ [row] ++ [[]], w)
  else if s = " -> " ∨ s = ")" then takeEnd pre row w s
  else (w && isWordS s, pre ++ [row ++ [.mk [] s]], false)
structure OkR (rows : Rows) : Prop where
  n : rows.length ≤ 6
  r : ∀ row ∈ rows, row.length ≤ 2000
  k : ∀ row ∈ rows, ∀ k ∈ row, ord k ≤ 6 ∧ ∀ z ∈ places k, PyData.strOk z = true
def f_kr_init : List D → (FO → Prop) → Prop := fun ds Q => match ds with
  | [] => Q (roF [[]] true)
  | _ => False
def f_take_end : FO → List D → MO := fun fs ds Q _ => match ds with
  | [.str s] => ∃ pre row w, fs = roF (pre ++ [row]) w ∧ OkR (pre ++ [row]) ∧ okStr s ∧ (s = " -> " ∨ s = ")") ∧ Q (.bl (takeEnd pre row w s).1) (roF (takeEnd pre row w s).2.1 (takeEnd pre row w s).2.2)
  | _ => False
def f_take : FO → List D → MO := fun fs ds Q _ => match ds with
  | [.str s] => ∃ pre row w, fs = roF (pre ++ [row]) w ∧ OkR (pre ++ [row]) ∧ okStr s ∧ Q (.bl (take1 pre row w s).1) (roF (take1 pre row w s).2.1 (take1 pre row w s).2.2)
  | _ => False
def kdD : Option Kd → D
  | none => .non
  | some k => plain k
def resultS (rows : Rows) (w : Bool) : Option Kd := if w then none else match rows with
  | [row] => match row.getLast? with
    | some k => if k.as = [] then some (.mk row.dropLast k.a) else none
    | none => none
  | _ => none
def f_result : List D → M D := fun ds Q _ => match ds with
  | [.ins c fs] => ∃ rows w, c = "KindReader" ∧ fs = roD rows w ∧ (w = false → ∀ row, rows = [row] → row ≠ []) ∧ Q (kdD (resultS rows w))
  | _ => False
/-! ### shapes are shaped -/
mutual
theorem shP : ∀ (k : Kd) (m j : Nat), ord k ≤ m → (∀ z ∈ places k, PyData.strOk z = true) → shD (2 * m + 2 + j) (plain k) = true
  | .mk as a, m, j, ho, hz => by
    rw [plain_mk, show 2 * m + 2 + j = (2 * m + 1 + j) + 1 by omega, shD]
    have ha : PyData.strOk a = true := hz a (by rw [places]; simp)
    rw [shDs, shDs, shDs, shD, ha, Bool.and_true, Bool.and_true, show 2 * m + 1 + j = (2 * m + j) + 1 by omega, shD]
    refine shPs as m j (by rw [ord] at ho; exact ho) fun z h => hz z (by rw [places]; exact List.mem_append_left _ h)
theorem shPs : ∀ (ks : List Kd) (m j : Nat), ordL ks ≤ m → (∀ z ∈ placesL ks, PyData.strOk z = true) → shDs (2 * m + j) (ks.map plain) = true
  | [], _, _, _, _ => by rw [List.map_nil, shDs]
  | k :: r, m, j, ho, hz => by
    rw [ordL] at ho
    rw [List.map_cons, shDs, shPs r m j (by omega) fun z h => hz z (by rw [placesL]; exact List.mem_append_right _ h), Bool.and_true]
    cases m with
    | zero => omega
    | succ m =>
      have := shP k m j (by omega) fun z h => hz z (by rw [placesL]; exact List.mem_append_left _ h)
      rw [show 2 * (m + 1) + j = 2 * m + 2 + j by omega]
      exact this
end
theorem shDs_of {n : Nat} : ∀ {ds : List D}, (∀ d ∈ ds, shD n d = true) → shDs n ds = true
  | [], _ => by rw [shDs]
  | d :: r, h => by
    rw [shDs, h d List.mem_cons_self, shDs_of fun e he => h e (List.mem_cons_of_mem _ he)]
    rfl
theorem sh_rows {rows : Rows} (h : OkR rows) : shD 64 (.lst (rows.map fun r => .lst (rowD r))) = true := by
  rw [show (64 : Nat) = 63 + 1 from rfl, shD]
  refine shDs_of fun d hd => ?_
  obtain ⟨r, hr, e⟩ := List.mem_map.mp hd
  rw [← e, show (63 : Nat) = 62 + 1 from rfl, shD]
  refine shDs_of fun d hd => ?_
  obtain ⟨k, hk, e⟩ := List.mem_map.mp hd
  obtain ⟨h1, h2⟩ := h.k r hr k hk
  have z := shP k 6 48 h1 h2
  rw [← e]
  exact z
theorem eq_nil {xs : List D} {Q : D → Prop} (h : shD 64 (.lst xs) = true) (q : Q (.bl xs.isEmpty)) : rdEq (.lst xs) (.lst []) Q := by
  obtain ⟨p, h1, h2, h3⟩ := shD_py 64 _ h
  have e : eqS (.lst xs) (.lst []) = none := rfl
  unfold rdEq
  rw [e]
  have h1' := h1
  rw [toPy] at h1
  cases q1 : toPys xs with
  | none =>
    rw [q1] at h1
    cases h1
  | some ps =>
    rw [q1] at h1
    cases h1
    refine ⟨_, .list [], h1', rfl, sh_shaped h2 h3, by decide +kernel, ?_⟩
    rw [eqv_nil]
    have em : ps.isEmpty = xs.isEmpty := by
      cases xs with
      | nil =>
        rw [toPys] at q1
        cases q1
        rfl
      | cons x r =>
        rw [toPys] at q1
        split at q1
        · cases q1
          rfl
        · cases q1
    rw [em]
    exact q
theorem OkR.dl {pre : Rows} {row : List Kd} (h : OkR (pre ++ [row])) : OkR pre := ⟨by have := h.n; rw [List.length_append] at this; have e : [row].length = 1 := rfl; omega, fun r hr => h.r r (List.mem_append_left _ hr), fun r hr => h.k r (List.mem_append_left _ hr)⟩
theorem eq_str {a b : Str} {Q : D → Prop} (q : Q (.bl (decide (a = b)))) : rdEq (.str a) (.str b) Q := q
theorem td_rows (rows : Rows) (w : Bool) : (toDs (roF rows w)).lookup ("of_rows" : Str) = some (.lst (rows.map fun r => .lst (rowD r))) := by
  rw [rf_toDs]
  rfl
theorem td_wants (rows : Rows) (w : Bool) : (toDs (roF rows w)).lookup ("of_wants" : Str) = some (.bl w) := by
  rw [rf_toDs]
  rfl
theorem rf_snoc (pre : Rows) (row : List Kd) (w : Bool) : (roF (pre ++ [row]) w).lookup ("of_rows" : Str) = some (.ll (pre.map rowD ++ [rowD row])) := by
  rw [rf_rows, List.map_append]
  rfl
theorem atI_snoc {α : Type} (xs : List α) (x : α) : atI (xs ++ [x]) (-1) = some x := atI_last (n := xs.length) (by simp) (by simp)
theorem rowD_snoc (row : List Kd) (k : Kd) : rowD (row ++ [k]) = rowD row ++ [plain k] := by
  unfold rowD
  rw [List.map_append]
  rfl
theorem ix_last {row : List Kd} {k : Kd} {Q : D → Prop} (q : Q (plain k)) : rdIx (.lst (rowD (row ++ [k]))) (.int (-1)) Q := by
  rw [rowD_snoc]
  exact ⟨_, atI_snoc _ _, q⟩
theorem ix_p0 {k : Kd} {Q : D → Prop} (q : Q (.tup (k.as.map plain))) : rdIx (plain k) (.int 0) Q := by
  rw [plain_eq]
  exact ⟨_, rfl, q⟩
theorem ix_p1 {k : Kd} {Q : D → Prop} (q : Q (.str k.a)) : rdIx (plain k) (.int 1) Q := by
  rw [plain_eq]
  exact ⟨_, rfl, q⟩
theorem cut_last (xs : List D) (x : D) : cutD (xs ++ [x]) none (some (-1)) = xs := by
  unfold cutD
  have e1 : HT.sIx (xs ++ [x]).length 0 none = 0 := rfl
  have e2 : HT.sIx (xs ++ [x]).length (xs ++ [x]).length (some (-1)) = xs.length := by
    have h := List.length_append (as := xs) (bs := [x])
    have h1 : [x].length = 1 := rfl
    unfold HT.sIx
    simp only [h, h1]
    first | omega | (split <;> omega) | (simp; omega)
  rw [e1, e2, List.drop_zero, Nat.sub_zero, List.take_left']
  rfl
end KP

/-! KP6: the signs of a text, and the shape that they tell, with no program in sight. -/
namespace KP
open PySem L2 FP
variable [FP.Tabl]
def isL (c : Nat) : Bool := decide (c ∈ letters)
def arrowL : List Nat := (" -> " : Str).cps.toList
def parL : List Nat := ("()" : Str).cps.toList
def lexO : Nat → List Nat → Option (List Str)
  | _, [] => some []
  | 0, _ :: _ => none
  | n + 1, c :: r =>
    if isL c = true then (lexO n (r.dropWhile isL)).map (List.cons (⟨(c :: r.takeWhile isL).toArray⟩ : Str))
    else if (c :: r).take 4 = arrowL then (lexO n (r.drop 3)).map (List.cons (" -> " : Str))
    else if c ∈ parL then (lexO n r).map (List.cons (⟨#[c]⟩ : Str))
    else none
def lexS (z : Str) : Option (List Str) := lexO z.cps.toList.length z.cps.toList
theorem lexO_nil (n : Nat) : lexO n [] = some [] := by cases n <;> rfl
theorem lexO_fuel : ∀ (n m : Nat) (xs : List Nat), xs.length ≤ n → xs.length ≤ m → lexO n xs = lexO m xs
  | n, m, [], _, _ => by rw [lexO_nil, lexO_nil]
  | 0, _, _ :: _, h, _ => by simp at h
  | _, 0, _ :: _, _, h => by simp at h
  | n + 1, m + 1, c :: r, h, h' => by
    have h1 : r.length ≤ n := by simpa using h
    have h2 : r.length ≤ m := by simpa using h'
    have hd : (r.dropWhile isL).length ≤ r.length := (List.dropWhile_sublist isL).length_le
    have hp : (r.drop 3).length ≤ r.length := by simp
    rw [lexO, lexO, lexO_fuel n m _ (Nat.le_trans hd h1) (Nat.le_trans hd h2), lexO_fuel n m _ (Nat.le_trans hp h1) (Nat.le_trans hp h2), lexO_fuel n m r h1 h2]
theorem lexO_cons (c : Nat) (r : List Nat) : lexO (c :: r).length (c :: r) =
    if isL c = true then (lexO (r.dropWhile isL).length (r.dropWhile isL)).map (List.cons (⟨(c :: r.takeWhile isL).toArray⟩ : Str))
    else if (c :: r).take 4 = arrowL then (lexO (r.drop 3).length (r.drop 3)).map (List.cons (" -> " : Str))
    else if c ∈ parL then (lexO r.length r).map (List.cons (⟨#[c]⟩ : Str))
    else none := by
  have hd : (r.dropWhile isL).length ≤ r.length := (List.dropWhile_sublist isL).length_le
  have hp : (r.drop 3).length ≤ r.length := by simp
  rw [List.length_cons, lexO, lexO_fuel r.length _ _ hd (Nat.le_refl _), lexO_fuel r.length _ _ hp (Nat.le_refl _)]
/-- what is found so far, and the rest -/
def Lex (z : Str) (found : List Str) (rest : List Nat) : Prop := lexS z = (lexO rest.length rest).map (found ++ ·)
theorem Lex.start (z : Str) : Lex z [] z.cps.toList := by
  unfold Lex lexS
  cases lexO z.cps.toList.length z.cps.toList <;> rfl
theorem Lex.stop {z : Str} {found : List Str} (h : Lex z found []) : lexS z = some found := by
  unfold Lex at h
  rw [h, lexO_nil]
  simp
theorem Lex.step {z : Str} {found : List Str} {rest rest' : List Nat} {s : Str} (h : Lex z found rest) (e : lexO rest.length rest = (lexO rest'.length rest').map (List.cons s)) : Lex z (found ++ [s]) rest' := by
  unfold Lex at h ⊢
  rw [h, e]
  cases lexO rest'.length rest' with
  | none => rfl
  | some ss => simp
theorem Lex.word {z : Str} {found : List Str} {c : Nat} {r : List Nat} (h : Lex z found (c :: r)) (hc : isL c = true) : Lex z (found ++ [⟨(c :: r.takeWhile isL).toArray⟩]) (r.dropWhile isL) :=
  h.step (by rw [lexO_cons, if_pos hc])
theorem Lex.arrow {z : Str} {found : List Str} {c : Nat} {r : List Nat} (h : Lex z found (c :: r)) (hc : isL c = false) (ha : (c :: r).take 4 = arrowL) : Lex z (found ++ [(" -> " : Str)]) (r.drop 3) :=
  h.step (by rw [lexO_cons, if_neg (by rw [hc]; exact Bool.false_ne_true), if_pos ha])
theorem Lex.par {z : Str} {found : List Str} {c : Nat} {r : List Nat} (h : Lex z found (c :: r)) (hc : isL c = false) (ha : ¬ (c :: r).take 4 = arrowL) (hp : c ∈ parL) : Lex z (found ++ [⟨#[c]⟩]) r :=
  h.step (by rw [lexO_cons, if_neg (by rw [hc]; exact Bool.false_ne_true), if_neg ha, if_pos hp])
theorem Lex.bad {z : Str} {found : List Str} {c : Nat} {r : List Nat} (h : Lex z found (c :: r)) (hc : isL c = false) (ha : ¬ (c :: r).take 4 = arrowL) (hp : ¬ c ∈ parL) : lexS z = none := by
  unfold Lex at h
  rw [h, lexO_cons, if_neg (by rw [hc]; exact Bool.false_ne_true), if_neg ha, if_neg hp]
  rfl
/-! ### places of a text -/
theorem at_mid {z : Str} {pre rest : List Nat} {c : Nat} {i : Int} (h : z.cps.toList = pre ++ c :: rest) (hi : i = (pre.length : Int)) : atI z.cps.toList i = some c := by
  refine at_of (j := pre.length) hi ?_
  rw [h, List.getElem?_append_right (Nat.le_refl _), Nat.sub_self]
  rfl
theorem cut_mid {z : Str} {pre rest : List Nat} {lo hi : Int} {k : Nat} (h : z.cps.toList = pre ++ rest) (hl : lo = (pre.length : Int)) (hh : hi = (pre.length : Int) + (k : Int)) : cutS z (some lo) (some hi) = ⟨(rest.take k).toArray⟩ := by
  have hz : z.length = pre.length + rest.length := by rw [str_len, h, List.length_append]
  have e1 : hi = ((pre.length + k : Nat) : Int) := by omega
  subst hl
  subst e1
  unfold cutS
  rw [HT.sIx_nat, HT.sIx_nat, hz, h]
  have m1 : min pre.length (pre.length + rest.length) = pre.length := by omega
  have m2 : min (pre.length + k) (pre.length + rest.length) - pre.length = min k rest.length := by omega
  rw [m1, m2, List.drop_left']
  · congr 2
    rw [List.take_eq_take_iff]
    omega
  · rfl
theorem str_eq {xs : List Nat} {y : Str} : (⟨xs.toArray⟩ : Str) = y ↔ xs = y.cps.toList := by
  constructor
  · intro h
    rw [← h]
  · intro h
    rw [h]
theorem dropWhile_head {p : Nat → Bool} : ∀ {r r' : List Nat} {c : Nat}, r.dropWhile p = c :: r' → p c = false
  | [], _, _, h => by simp at h
  | x :: r, r', c, h => by
    rw [List.dropWhile_cons] at h
    cases q : p x with
    | true =>
      rw [q, if_pos rfl] at h
      exact dropWhile_head h
    | false =>
      rw [q, if_neg Bool.false_ne_true] at h
      cases h
      exact q
theorem takeWhile_all {p : Nat → Bool} : ∀ {r : List Nat} {c : Nat}, c ∈ r.takeWhile p → p c = true
  | [], _, h => by simp at h
  | x :: r, c, h => by
    rw [List.takeWhile_cons] at h
    cases q : p x with
    | true =>
      rw [q, if_pos rfl] at h
      rcases List.mem_cons.mp h with e | e
      · rw [e]
        exact q
      · exact takeWhile_all e
    | false =>
      rw [q, if_neg Bool.false_ne_true] at h
      cases h
theorem word_go {r : List Nat} {k : Nat} (h : k < (r.takeWhile isL).length) : ∃ c r', r.drop k = c :: r' ∧ isL c = true := by
  have hs := List.takeWhile_append_dropWhile (p := isL) (l := r)
  have hl : k < r.length := by
    rw [← hs, List.length_append]
    omega
  refine ⟨(r.takeWhile isL)[k], r.drop (k + 1), ?_, ?_⟩
  · rw [List.drop_eq_getElem_cons hl]
    congr 1
    have e : r[k]? = (r.takeWhile isL)[k]? := by
      rw (config := { occs := .pos [1] }) [← hs]
      rw [List.getElem?_append_left h]
    rw [List.getElem?_eq_getElem hl, List.getElem?_eq_getElem h] at e
    exact Option.some.inj e
  · exact takeWhile_all (List.getElem_mem h)
theorem word_end : ∀ {r : List Nat}, r.drop (r.takeWhile isL).length = r.dropWhile isL
  | [] => rfl
  | x :: r => by
    rw [List.takeWhile_cons, List.dropWhile_cons]
    cases isL x with
    | true =>
      rw [if_pos rfl, if_pos rfl, List.length_cons, List.drop_succ_cons]
      exact word_end
    | false =>
      rw [if_neg Bool.false_ne_true, if_neg Bool.false_ne_true]
      rfl
/-! ### signs are parts of the text -/
theorem lex_ok : ∀ (n : Nat) (xs : List Nat) (ss : List Str), lexO n xs = some ss → (∀ s ∈ ss, s.cps.toList.length ≤ xs.length + 4 ∧ ∀ c ∈ s.cps.toList, c ∈ xs ∨ c ∈ arrowL) ∧ ss.length ≤ xs.length
  | n, [], ss, h => by
    rw [lexO_nil] at h
    cases h
    exact ⟨fun _ h => absurd h List.not_mem_nil, Nat.le_refl _⟩
  | 0, _ :: _, _, h => by cases h
  | n + 1, c :: r, ss, h => by
    have key : ∀ (s : Str) (r' : List Nat), (lexO n r').map (List.cons s) = some ss → (s.cps.toList.length ≤ r.length + 5 ∧ ∀ c' ∈ s.cps.toList, c' ∈ c :: r ∨ c' ∈ arrowL) → r'.length ≤ r.length → (∀ x ∈ r', x ∈ r) → (∀ s ∈ ss, s.cps.toList.length ≤ (c :: r).length + 4 ∧ ∀ c' ∈ s.cps.toList, c' ∈ c :: r ∨ c' ∈ arrowL) ∧ ss.length ≤ (c :: r).length := by
      intro s r' h hs hl hm
      cases q : lexO n r' with
      | none =>
        rw [q] at h
        cases h
      | some ss' =>
        rw [q] at h
        cases h
        obtain ⟨h1, h2⟩ := lex_ok n r' ss' q
        refine ⟨fun s' hs' => ?_, ?_⟩
        · rcases List.mem_cons.mp hs' with e | e
          · rw [e, List.length_cons]
            exact ⟨by omega, hs.2⟩
          · obtain ⟨g1, g2⟩ := h1 s' e
            rw [List.length_cons]
            refine ⟨by omega, fun c' hc' => ?_⟩
            rcases g2 c' hc' with z | z
            · exact .inl (List.mem_cons_of_mem _ (hm c' z))
            · exact .inr z
        · rw [List.length_cons, List.length_cons]
          omega
    rw [lexO] at h
    have hd : (r.dropWhile isL).Sublist r := List.dropWhile_sublist isL
    have ht : (r.takeWhile isL).Sublist r := List.takeWhile_sublist isL
    split at h
    · refine key _ _ h ⟨?_, fun c' hc' => .inl ?_⟩ hd.length_le fun x hx => hd.subset hx
      · show (c :: r.takeWhile isL).length ≤ _
        rw [List.length_cons]
        have := ht.length_le
        omega
      · have hc2 : c' ∈ c :: r.takeWhile isL := hc'
        rcases List.mem_cons.mp hc2 with e | e
        · rw [e]
          exact List.mem_cons_self
        · exact List.mem_cons_of_mem _ (ht.subset e)
    · split at h
      · refine key _ _ h ⟨?_, fun c' hc' => .inr hc'⟩ (by simp) fun x hx => List.mem_of_mem_drop hx
        have e : (" -> " : Str).cps.toList.length = 4 := by decide
        rw [e]
        omega
      · split at h
        · refine key _ _ h ⟨?_, fun c' hc' => .inl ?_⟩ (Nat.le_refl _) fun x hx => hx
          · show ([c] : List Nat).length ≤ _
            simp
          · have hc2 : c' ∈ [c] := hc'
            rw [List.mem_singleton.mp hc2]
            exact List.mem_cons_self
        · cases h
theorem lexS_ok {z : Str} {ss : List Str} (hz : ∀ c ∈ z.cps.toList, c < 1114112) (h : lexS z = some ss) : (∀ s ∈ ss, s.length ≤ z.length + 4 ∧ ∀ c ∈ s.cps.toList, c < 1114112) ∧ ss.length ≤ z.length := by
  obtain ⟨h1, h2⟩ := lex_ok _ _ _ h
  rw [str_len z]
  refine ⟨fun s hs => ?_, h2⟩
  obtain ⟨g1, g2⟩ := h1 s hs
  rw [str_len]
  refine ⟨g1, fun c hc => ?_⟩
  rcases g2 c hc with q | q
  · exact hz c q
  · have : ∀ c ∈ arrowL, c < 1114112 := by decide +kernel
    exact this c q
def lexD : Option (List Str) → D
  | none => .non
  | some ss => .lst (ss.map .str)
def f_signs : List D → M D := fun ds Q _ => match ds with
  | [.str z] => okStr z ∧ Q (lexD (lexS z))
  | _ => False
/-! ### the shape -/
def wordish (s : Str) : Bool := decide (s ∉ (["(", ")", " -> "] : List Str))
def takeR (rows : Rows) (w : Bool) (s : Str) : Bool × Rows × Bool := take1 rows.dropLast (rows.getLastD []) w s
def readS : List Str → Rows → Bool → Option Kd
  | [], rows, w => resultS rows w
  | s :: r, rows, w => if (takeR rows w s).1 = true then readS r (takeR rows w s).2.1 (takeR rows w s).2.2 else none
def shapeS (z : Str) : Option Kd := match lexS z with
  | none => none
  | some ss => if 15 < (ss.filter wordish).length then none else readS ss [[]] true
def shapeV : D → Option Kd
  | .str z => shapeS z
  | _ => none
def f_shape : List D → M D := fun ds Q _ => match ds with
  | [d] => okV d ∧ (∀ z, d = .str z → z.length ≤ 990) ∧ Q (kdD (shapeV d))
  | _ => False
/-- what holds between signs -/
structure RInv (rows : Rows) (w : Bool) (left : Nat) : Prop where
  ne : rows ≠ []
  n : rows.length ≤ 5
  len : ∀ row ∈ rows, row.length + left ≤ 1000
  k : ∀ (j : Nat) (row : List Kd), rows[j]? = some row → ∀ k ∈ row, ord k + j ≤ 4 ∧ ∀ z ∈ places k, PyData.strOk z = true
  last : w = false → ∀ row, rows.getLast? = some row → row ≠ []
theorem RInv.start (n : Nat) (h : n ≤ 1000) : RInv [[]] true n := by
  refine ⟨by simp, by simp, fun row hr => ?_, fun j row hr k hk => ?_, fun h => by cases h⟩
  · rw [List.mem_singleton.mp hr]
    simpa using h
  · have := List.mem_of_getElem? hr
    rw [List.mem_singleton.mp this] at hk
    cases hk
theorem RInv.okR {rows : Rows} {w : Bool} {n : Nat} (h : RInv rows w n) : OkR rows := by
  refine ⟨by have := h.n; omega, fun row hr => by have := h.len row hr; omega, fun row hr k hk => ?_⟩
  obtain ⟨j, hj⟩ := List.getElem?_of_mem hr
  obtain ⟨h1, h2⟩ := h.k j row hj k hk
  exact ⟨by omega, h2⟩
theorem snoc_get {α : Type} {pre : List α} {x y : α} {j : Nat} (h : (pre ++ [x])[j]? = some y) : pre[j]? = some y ∨ (j = pre.length ∧ y = x) := by
  by_cases hj : j < pre.length
  · rw [List.getElem?_append_left hj] at h
    exact .inl h
  · rw [List.getElem?_append_right (by omega)] at h
    cases q : j - pre.length with
    | zero =>
      rw [q] at h
      exact .inr ⟨by omega, (Option.some.inj h).symm⟩
    | succ m =>
      rw [q] at h
      simp at h
theorem RInv.put {pre : Rows} {row : List Kd} {w w' : Bool} {n : Nat} {k : Kd} (h : RInv (pre ++ [row]) w (n + 1)) (h1 : ord k + pre.length ≤ 4) (h2 : ∀ z ∈ places k, PyData.strOk z = true) : RInv (pre ++ [row ++ [k]]) w' n := by
  refine ⟨by simp, ?_, fun r hr => ?_, fun j r hr i hi => ?_, fun _ r hr => ?_⟩
  · have := h.n
    simpa using this
  · rcases List.mem_append.mp hr with q | q
    · have := h.len r (List.mem_append_left _ q)
      omega
    · rw [List.mem_singleton.mp q, List.length_append]
      have := h.len row (by simp)
      have e : [k].length = 1 := rfl
      omega
  · rcases snoc_get hr with q | ⟨ej, er⟩
    · refine h.k j r ?_ i hi
      rw [List.getElem?_append_left (List.getElem?_eq_some_iff.mp q).1]
      exact q
    · rw [er] at hi
      rcases List.mem_append.mp hi with z | z
      · refine h.k j row ?_ i z
        rw [ej, List.getElem?_append_right (Nat.le_refl _), Nat.sub_self]
        rfl
      · rw [List.mem_singleton.mp z, ej]
        exact ⟨h1, h2⟩
  · simp at hr
    rw [← hr]
    simp
theorem RInv.take {pre : Rows} {row : List Kd} {w : Bool} {n : Nat} {s : Str} (h : RInv (pre ++ [row]) w (n + 1)) (hs : PyData.strOk s = true) (ht : (take1 pre row w s).1 = true) : RInv (take1 pre row w s).2.1 (take1 pre row w s).2.2 n := by
  unfold take1 at ht ⊢
  by_cases h1 : s = "("
  · rw [if_pos h1] at ht ⊢
    rw [Bool.and_eq_true, decide_eq_true_eq] at ht
    obtain ⟨hw, hn⟩ := ht
    show RInv (pre ++ [row] ++ [[]]) w n
    refine ⟨by simp, ?_, fun r hr => ?_, fun j r hr i hi => ?_, fun hf => by rw [hw] at hf; cases hf⟩
    · rw [List.length_append, List.length_append]
      exact hn
    · rcases List.mem_append.mp hr with q | q
      · have := h.len r q
        omega
      · rw [List.mem_singleton.mp q]
        have := h.len row (by simp)
        show 0 + n ≤ _
        omega
    · rcases snoc_get hr with q | ⟨_, er⟩
      · exact h.k j r q i hi
      · rw [er] at hi
        cases hi
  · rw [if_neg h1] at ht ⊢
    by_cases h2 : s = " -> " ∨ s = ")"
    · rw [if_pos h2] at ht ⊢
      unfold takeEnd at ht ⊢
      cases w with
      | true =>
        rw [if_pos rfl] at ht
        cases ht
      | false =>
      rw [if_neg Bool.false_ne_true] at ht ⊢
      by_cases h3 : s = " -> "
      · rw [if_pos h3]
        refine ⟨h.ne, h.n, fun r hr => ?_, h.k, fun hf => by cases hf⟩
        have := h.len r hr
        omega
      · rw [if_neg h3] at ht ⊢
        rcases List.eq_nil_or_concat pre with rfl | ⟨pre', r0, rfl⟩
        · simp at ht
        · rw [List.concat_eq_append] at *
          rcases List.eq_nil_or_concat row with rfl | ⟨row', k, rfl⟩
          · simp at ht
          · rw [List.concat_eq_append] at *
            simp only [List.getLast?_append, List.getLast?_singleton, Option.some_or, List.dropLast_concat] at ht ⊢
            by_cases h4 : 2 ≤ (row' ++ [k]).length ∧ k.as = []
            · rw [if_pos h4]
              have hr : (pre' ++ [r0] ++ [row' ++ [k]])[pre'.length + 1]? = some (row' ++ [k]) := by
                rw [List.getElem?_append_right (by simp)]
                simp
              have hk := h.k _ _ hr
              have h5 : RInv (pre' ++ [r0]) true (n + 1) := by
                refine ⟨by simp, ?_, fun r hr => h.len r (List.mem_append_left _ hr), fun j r hr i hi => ?_, fun hf => by cases hf⟩
                · have := h.n
                  rw [List.length_append] at this
                  omega
                · refine h.k j r ?_ i hi
                  rw [List.getElem?_append_left (List.getElem?_eq_some_iff.mp hr).1]
                  exact hr
              refine h5.put ?_ ?_
              · have : ordL row' ≤ 4 - pre'.length := ordL_le fun i hi => by
                  have := (hk i (List.mem_append_left _ hi)).1
                  omega
                have h6 := (hk k (by simp)).1
                show ordL row' + pre'.length ≤ 4
                omega
              · intro z hz
                rw [places] at hz
                rcases List.mem_append.mp hz with q | q
                · rw [placesL_map] at q
                  obtain ⟨l, hl, hzl⟩ := List.mem_flatten.mp q
                  obtain ⟨i, hi, rfl⟩ := List.mem_map.mp hl
                  exact (hk i (List.mem_append_left _ hi)).2 z hzl
                · have e := List.mem_singleton.mp q
                  refine (hk k (by simp)).2 z ?_
                  rw [e]
                  cases k with
                  | mk as a =>
                    rw [places]
                    simp [Kd.a]
            · rw [if_neg h4] at ht
              cases ht
    · rw [if_neg h2]
      refine h.put ?_ ?_
      · show ordL [] + _ ≤ 4
        have := h.n
        rw [List.length_append] at this
        have e : [row].length = 1 := rfl
        rw [ordL]
        omega
      · intro z hz
        rw [places, placesL] at hz
        rw [List.mem_singleton.mp hz]
        exact hs
theorem RInv.split {rows : Rows} {w : Bool} {n : Nat} (h : RInv rows w n) : ∃ pre row, rows = pre ++ [row] ∧ rows.dropLast = pre ∧ rows.getLastD [] = row := by
  obtain ⟨pre, row, e⟩ := (List.eq_nil_or_concat rows).resolve_left h.ne
  rw [List.concat_eq_append] at e
  refine ⟨pre, row, e, ?_, ?_⟩
  · rw [e, List.dropLast_concat]
  · rw [e, List.getLastD_eq_getLast?]
    simp
end KP

/-! KP7: the loops over the signs of a text, by data. -/
namespace KP
open PySem L2 FP
variable [FP.Tabl]
theorem ne_str {a b : Str} {Q : D → Prop} (q : Q (.bl (!decide (a = b)))) : rdNe (.str a) (.str b) Q := q
theorem in_letters {c : Nat} {Q : D → Prop} (q : Q (.bl (isL c))) : rdIn (.str ⟨#[c]⟩) (.str "abcdefghijklmnopqrstuvwxyz") Q := q
theorem notin_par {c : Nat} {Q : D → Prop} (q : Q (.bl (!decide (c ∈ parL)))) : rdNotIn (.str ⟨#[c]⟩) (.str "()") Q := q
abbrev dWord : DTT := dAnd (dB (dOp rdNe (dSl (dVar 0) (dOSome (dOp rdAdd (dVar 2) (dVar 3))) (dOSome (dOp rdAdd (dOp rdAdd (dVar 2) (dVar 3)) (dC (.int 1))))) (dC (.str "")))) (dB (dOp rdIn (dOp rdIx (dVar 0) (dOp rdAdd (dVar 2) (dVar 3))) (dC (.str "abcdefghijklmnopqrstuvwxyz"))))
theorem word_loop {N : Nd} {z : Str} {pre r : List Nat} {c : Nat} {o : Sl} (hz : okStr z) (h : z.cps.toList = pre ++ c :: r) (hn : N.nx [Sl.d (.str z), o, Sl.d (.int (pre.length : Int)), Sl.d (.int (1 + ((r.takeWhile isL).length : Int)))]) :
    dWhile dWord (dSet 3 (dOp rdAdd (dVar 3) (dC (.int 1)))) N [Sl.d (.str z), o, Sl.d (.int (pre.length : Int)), Sl.d (.int 1)] := by
  refine ⟨fun m ρ => ∃ k : Nat, k ≤ (r.takeWhile isL).length ∧ m = (r.takeWhile isL).length - k ∧ ρ = [Sl.d (.str z), o, Sl.d (.int (pre.length : Int)), Sl.d (.int (1 + (k : Int)))], ⟨_, 0, Nat.zero_le _, rfl, rfl⟩, ?_⟩
  rintro m ρ ⟨k, hk, rfl, rfl⟩
  have hp : z.cps.toList = (pre ++ c :: r.take k) ++ r.drop k := by
    rw [h, List.append_assoc, List.cons_append, List.take_append_drop]
  have hkr : k ≤ r.length := Nat.le_trans hk (List.takeWhile_sublist isL).length_le
  have hl : ((pre ++ c :: r.take k).length : Int) = (pre.length : Int) + (1 + (k : Int)) := by
    rw [List.length_append, List.length_cons, List.length_take]
    omega
  have e : cutS z (some ((pre.length : Int) + (1 + (k : Int)))) (some ((pre.length : Int) + (1 + (k : Int)) + 1)) = ⟨((r.drop k).take 1).toArray⟩ := cut_mid (k := 1) hp hl.symm (by rw [hl]; rfl)
  refine ⟨len_ok hz, ne_str ?_⟩
  rw [e]
  by_cases hlt : k < (r.takeWhile isL).length
  · obtain ⟨c', r', hd, hc⟩ := word_go hlt
    rw [hd, decide_eq_false (by intro q; have := str_eq.mp q; cases this)]
    refine ⟨c', len_ok hz, at_mid (pre := pre ++ c :: r.take k) (rest := r') (by rw [hp, hd]) hl.symm, in_letters ?_⟩
    rw [hc]
    refine ⟨_, ?_, k + 1, hlt, rfl, ?_⟩
    · omega
    · show [Sl.d (.str z), o, Sl.d (.int (pre.length : Int)), Sl.d (.int (1 + (k : Int) + 1))] = _
      rw [show (1 : Int) + (k : Int) + 1 = 1 + ((k + 1 : Nat) : Int) by omega]
  · have ek : k = (r.takeWhile isL).length := by omega
    have hd : r.drop k = r.dropWhile isL := by rw [ek]; exact word_end
    rw [← ek] at hn
    cases q : r.dropWhile isL with
    | nil =>
      rw [hd, q, decide_eq_true (show (⟨(([] : List Nat).take 1).toArray⟩ : Str) = "" from rfl)]
      exact hn
    | cons c' r' =>
      rw [hd, q, decide_eq_false (by intro q; have := str_eq.mp q; cases this)]
      refine ⟨c', len_ok hz, at_mid (pre := pre ++ c :: r.take k) (rest := r') (by rw [hp, hd, q]) hl.symm, in_letters ?_⟩
      rw [dropWhile_head q]
      exact hn
/-- between the signs -/
def LI (z : Str) (m : Nat) (ρ : FP.Env) : Prop := ∃ (pre rest : List Nat) (found : List Str) (o : Sl), z.cps.toList = pre ++ rest ∧ m = rest.length ∧ ρ = [Sl.d (.str z), Sl.own (found.map .str), Sl.d (.int (pre.length : Int)), o] ∧ Lex z found rest ∧ found.length ≤ pre.length
theorem LI.start (z : Str) (o : Sl) : LI z z.cps.toList.length [Sl.d (.str z), Sl.own [], Sl.d (.int 0), o] := ⟨[], _, [], o, rfl, rfl, rfl, Lex.start z, Nat.le_refl _⟩
theorem lex_tail {z : Str} {pre rest : List Nat} {found : List Str} {k : Nat} {size : Int} (hz : okStr z) (h : z.cps.toList = pre ++ rest) (hx : Lex z (found ++ [⟨(rest.take k).toArray⟩]) (rest.drop k)) (hk : 0 < k) (hk2 : k ≤ rest.length) (hn : found.length ≤ pre.length) (hs : size = (k : Int)) :
    z.length ≤ sizeLine ∧ (found.map D.str).length < sizeLine ∧ ∃ m', m' < rest.length ∧ LI z m' [Sl.d (.str z), Sl.own (found.map .str ++ [.str (cutS z (some (pre.length : Int)) (some ((pre.length : Int) + size)))]), Sl.d (.int ((pre.length : Int) + size)), Sl.d (.int size)] := by
  have hzl : z.length = pre.length + rest.length := by rw [str_len, h, List.length_append]
  have hz1 := hz.1
  refine ⟨len_ok hz, ?_, (rest.drop k).length, ?_, pre ++ rest.take k, rest.drop k, _, Sl.d (.int size), ?_, rfl, ?_, hx, ?_⟩
  · rw [List.length_map]
    exact Nat.lt_of_le_of_lt (show found.length ≤ 1000 by omega) (by decide)
  · rw [List.length_drop]
    omega
  · rw [List.append_assoc, List.take_append_drop]
    exact h
  · rw [cut_mid h rfl (by rw [hs]), List.map_append, hs, List.length_append, List.length_take]
    have e : ((pre.length + min k rest.length : Nat) : Int) = (pre.length : Int) + (k : Int) := by omega
    rw [e]
    rfl
  · rw [List.length_append, List.length_append, List.length_take]
    have e : [(⟨(rest.take k).toArray⟩ : Str)].length = 1 := rfl
    omega
theorem take_tw : ∀ {r : List Nat}, r.take (r.takeWhile isL).length = r.takeWhile isL
  | [] => rfl
  | x :: r => by
    rw [List.takeWhile_cons]
    cases isL x with
    | true =>
      rw [if_pos rfl, List.length_cons, List.take_succ_cons, take_tw]
    | false =>
      rw [if_neg Bool.false_ne_true]
      rfl
theorem take_word {c : Nat} {r : List Nat} : (c :: r).take (1 + (r.takeWhile isL).length) = c :: r.takeWhile isL ∧ (c :: r).drop (1 + (r.takeWhile isL).length) = r.dropWhile isL := by
  rw [Nat.add_comm, List.take_succ_cons, List.drop_succ_cons]
  refine ⟨?_, word_end⟩
  congr 1
  exact take_tw
/-- the loop over the signs for a reader -/
abbrev dTake : DTS := dIfX (dNotX (dBX (dxMeth 2 "KindReader" "take" 1 f_take (dCons (dVar 3) dNil)))) (dRet (dC .non)) dNext
theorem read_loop {N : Nd} {t l : Sl} {Q : D → Prop} (hrt : ∀ ρ, Q .non → N.rt .non ρ) (hnx : ∀ (as : List Addr) (rows : Rows) (w : Bool) (o : Sl), (w = false → ∀ row, rows = [row] → row ≠ []) → Q (kdD (resultS rows w)) → N.nx [t, l, Sl.ow "KindReader" as (roF rows w), o]) :
    ∀ (ss : List Str) (rows : Rows) (w : Bool) (as : List Addr) (o : Sl), (∀ s ∈ ss, okStr s) → RInv rows w ss.length → Q (kdD (readS ss rows w)) → forD (.one 3) dTake N (ss.map .str) [t, l, Sl.ow "KindReader" as (roF rows w), o]
  | [], rows, w, as, o, _, hi, hq => hnx as rows w o (fun hw row hr => hi.last hw row (by rw [hr]; rfl)) hq
  | s :: r, rows, w, as, o, hs, hi, hq => by
    obtain ⟨pre, row, e, e1, e2⟩ := hi.split
    subst e
    have hos := hs s List.mem_cons_self
    have et : takeR (pre ++ [row]) w s = take1 pre row w s := by
      unfold takeR
      rw [e1, e2]
    rw [readS, et] at hq
    refine ⟨[t, l, Sl.ow "KindReader" as (roF (pre ++ [row]) w), Sl.d (.str s)], rfl, ?_⟩
    refine ⟨rfl, rf_take _ _, rfl, pre, row, w, rfl, hi.okR, hos, fun as' ha => ?_⟩
    show bit (!(take1 pre row w s).1) _ _
    cases ht : (take1 pre row w s).1 with
    | false =>
      rw [ht, if_neg Bool.false_ne_true] at hq
      exact hrt _ hq
    | true =>
      rw [ht, if_pos rfl] at hq
      exact read_loop hrt hnx r _ _ as' _ (fun x hx => hs x (List.mem_cons_of_mem _ hx)) (hi.take ((strOk_iff s).mpr hos.2) ht) hq
theorem wordish_in (s : Str) {Q : D → Prop} (q : Q (.bl (wordish s))) : rdNotIn (.str s) (.tup [.str "(", .str ")", .str " -> "]) Q := by
  have e : inD (.str s) (.tup [.str "(", .str ")", .str " -> "]) = some (decide (s ∈ (["(", ")", " -> "] : List Str))) := by
    show (if flatV (.str s) = true ∧ ((["(", ")", " -> "] : List Str).map V.str).all flatV = true then some (inV (.str s) ((["(", ")", " -> "] : List Str).map V.str)) else none) = _
    rw [if_pos ⟨rfl, flat_strs _⟩, inV_strs]
  unfold rdNotIn
  rw [e]
  unfold wordish at q
  rw [decide_not] at q
  exact q
theorem filter_len (ss : List Str) : (ss.filterMap fun s => if wordish s = true then some (D.str s) else none).length = (ss.filter wordish).length := by
  induction ss with
  | nil => rfl
  | cons s r ih =>
    rw [List.filterMap_cons, List.filter_cons]
    cases wordish s with
    | true => simp [ih]
    | false => simp [ih]
end KP

/-! KP8: what is told of plain kinds; what is read. -/
namespace KP
open PySem L2 FP
variable [FP.Tabl]
theorem tupL {xs : List D} {Q : D → Prop} (q : Q (.tup xs)) : rdTuple [.lst xs] Q := q
theorem lenL {xs : List D} {Q : D → Prop} (q : Q (.int xs.length)) : rdLen [.lst xs] Q := q
theorem lenT {xs : List D} {Q : D → Prop} (q : Q (.int xs.length)) : rdLen [.tup xs] Q := q
/-- what is told of a plain kind, by depth -/
def f_plainK (g : Kd → D) (d : Nat) : List D → M D := fun ds Q _ => match ds with
  | [x] => ∃ k, x = plain k ∧ Good k ∧ ord k < d ∧ Q (g k)
  | _ => False
theorem nope_plainK (g : Kd → D) (ds : List D) (Q : D → Prop) (E : XD → Prop) (h : f_plainK g 0 ds Q E) : False := by
  unfold f_plainK at h
  split at h
  · obtain ⟨_, _, _, h, _⟩ := h
    omega
  · exact h
def f_lsigned (d : Nat) : List D → M D := fun ds Q _ => match ds with
  | [x, .bl b] => ∃ k, x = plain k ∧ Good k ∧ ord k < d ∧ Q (.lst ((signed k b).map .str))
  | _ => False
theorem nope_lsigned (ds : List D) (Q : D → Prop) (E : XD → Prop) (h : f_lsigned 0 ds Q E) : False := by
  unfold f_lsigned at h
  split at h
  · obtain ⟨_, _, _, h, _⟩ := h
    omega
  · exact h
def d_places (k : Kd) : D := .lst ((places k).map .str)
def d_lparts (k : Kd) : D := .lst ((sortU ((parts k).map text)).map .str)
def totD : Option Kd → D
  | none => .non
  | some k => typeD k
def f_tot : List D → M D := fun ds Q _ => match ds with
  | [d] => okV d ∧ (∀ z, d = .str z → z.length ≤ 990) ∧ (∀ k, shapeV d = some k → Good k) ∧ Q (totD (shapeV d))
  | _ => False
def f_read : List D → M D := fun ds Q _ => match ds with
  | [.cl c, d] => ∃ k, c = "Type" ∧ okV d ∧ (∀ z, d = .str z → z.length ≤ 990) ∧ shapeV d = some k ∧ Good k ∧ Q (typeD k)
  | _ => False
/-- a drawn plain kind -/
def f_kind (d : Nat) : List D → M D := fun ds Q _ => match ds with
  | [.tok, .lst xs, .int o, .int m] => ∃ zs : List Str, xs = zs.map .str ∧ (0 < zs.length ∧ zs.length < 1000) ∧ (∀ z ∈ zs, isWordS z = true) ∧ (0 ≤ o ∧ o ≤ 4 ∧ o < d) ∧ (1 ≤ m ∧ m ≤ 15) ∧ ∀ k, (ord k : Int) ≤ o → ((places k).length : Int) ≤ m → (∀ z ∈ places k, z ∈ zs) → Q (plain k)
  | _ => False
theorem nope_kind (ds : List D) (Q : D → Prop) (E : XD → Prop) (h : f_kind 0 ds Q E) : False := by
  unfold f_kind at h
  split at h
  · obtain ⟨_, _, _, _, h, _⟩ := h
    omega
  · exact h
end KP

/-! KP9: readings of kinds; facts of parts and signed atoms. -/
namespace KP
open PySem L2 FP
variable [FP.Tabl]
section
variable {k j : Kd} {Q : D → Prop}
theorem prp {f : List D → M D} (h : f [typeD k] Q F0) : (match typeD k with
  | .ins c' fs => c' = "Type" ∧ f [.ins c' fs] Q F0
  | _ => False) := by
  rw [typeD_eq] at h ⊢
  exact ⟨rfl, h⟩
theorem prT {g : Kd → D} (hg : Good k) (q : Q (g k)) : (match typeD k with
  | .ins c' fs => c' = "Type" ∧ f_tell g [.ins c' fs] Q F0
  | _ => False) := prp ⟨k, rfl, hg, q⟩
theorem stT (hg : Good k) (q : Q (.str (text k))) : rdStrM "Type" (f_tell d_text) [typeD k] Q := by
  unfold rdStrM
  rw [typeD_eq]
  exact ⟨rfl, k, (typeD_eq k).symm, hg, q⟩
theorem lnT (hg : Good k) (q : Q (.int (places k).length)) : rdLenM "Type" (f_tell d_len) [typeD k] Q := by
  unfold rdLenM
  rw [typeD_eq]
  refine ⟨rfl, k, (typeD_eq k).symm, hg, ?_, q⟩
  have := hg.p
  omega
theorem itT {Q : List D → Prop} (q : Q (k.as.map typeD)) : (match typeD k with
  | .ins c' fs => c' = "Type" ∧ ∃ ds, fs.lookup ("own_args" : Str) = some (.tup ds) ∧ Q ds
  | _ => False) := by
  rw [typeD_eq]
  exact ⟨rfl, _, lk_args k, q⟩
theorem ixT {i : Int} (hg : Good k) (h0 : 0 ≤ i) (hi : k.as[i.toNat]? = some j) (q : Q (typeD j)) : rdIxM "Type" f_item (typeD k) (.int i) Q := by
  unfold rdIxM
  rw [typeD_eq]
  exact ⟨rfl, k, j, (typeD_eq k).symm, hg, ⟨h0, hi⟩, q⟩
theorem inT {neg : Bool} (hg : Good k) (hj : Good j) (q : Q (.bl (if neg then !decide (text j ∈ (parts k).map text) else decide (text j ∈ (parts k).map text)))) : rdInM neg "Type" f_has (typeD j) (typeD k) Q := by
  unfold rdInM
  rw [typeD_eq k]
  exact ⟨rfl, k, (typeD_eq k).symm, hg, .inl ⟨j, rfl, hj, q⟩⟩
theorem inN {neg : Bool} {y : D} (hg : Good k) (hn : noT y) (q : Q (.bl (if neg then !false else false))) : rdInM neg "Type" f_has y (typeD k) Q := by
  unfold rdInM
  rw [typeD_eq k]
  exact ⟨rfl, k, (typeD_eq k).symm, hg, .inr ⟨hn, q⟩⟩
theorem eqK (c : Str) (fs : List (Str × D)) (h : c = "Type") : eqKind ["Type"] (.ins c fs) := by
  show c ∈ (["Type"] : List Str)
  rw [h]
  exact List.mem_singleton.mpr rfl
theorem eqT (q : Q (.bl (decide (text k = text j)))) : rdEqM ["Type"] "Type" f_eq (typeD k) (typeD j) Q := by
  unfold rdEqM
  rw [typeD_eq k]
  refine ⟨rfl, by rw [typeD_eq]; exact eqK _ _ rfl, k, (typeD_eq k).symm, .inl ⟨j, rfl, q⟩⟩
theorem neT (q : Q (.bl (!decide (text k = text j)))) : rdNeM ["Type"] "Type" f_eq (typeD k) (typeD j) Q := by
  unfold rdNeM
  rw [typeD_eq k]
  refine ⟨rfl, by rw [typeD_eq]; exact eqK _ _ rfl, k, (typeD_eq k).symm, .inl ⟨j, rfl, q⟩⟩
theorem eqN {y : D} (hy : eqKind ["Type"] y) (hn : noT y) (q : Q (.bl false)) : rdEqM ["Type"] "Type" f_eq (typeD k) y Q := by
  unfold rdEqM
  rw [typeD_eq k]
  exact ⟨rfl, hy, k, (typeD_eq k).symm, .inr ⟨hn, q⟩⟩
theorem ne_eq {x y : D} (h : x = y) (sh : shD 64 x = true) (hn : eqS x x = none) (q : Q (.bl false)) : rdNe x y Q := by
  subst h
  exact ne_refl sh hn q
theorem eq_eq {x y : D} (h : x = y) (sh : shD 64 x = true) (hn : eqS x x = none) (q : Q (.bl true)) : rdEq x y Q := by
  subst h
  exact eq_refl sh hn q
theorem neT' (q : Q (.bl (!decide (text k = text j)))) : rdNeM ["Type"] "Type" f_eq (typeD k) (.ins "Type" (flds j)) Q := by
  rw [← typeD_eq]
  exact neT q
theorem eqT' (q : Q (.bl (decide (text k = text j)))) : rdEqM ["Type"] "Type" f_eq (typeD k) (.ins "Type" (flds j)) Q := by
  rw [← typeD_eq]
  exact eqT q
end
/-! ### shaped data -/
theorem sh_str {n : Nat} {z : Str} (h : PyData.strOk z = true) : shD n (.str z) = true := by rw [shD]; exact h
theorem sh_int {n : Nat} {i : Int} : shD n (.int i) = true := by rw [shD]
theorem sh_bl {n : Nat} {i : Bool} : shD n (.bl i) = true := by rw [shD]
theorem sh_lst {n : Nat} {xs : List D} (h : shDs n xs = true) : shD (n + 1) (.lst xs) = true := by rw [shD]; exact h
theorem sh_tup {n : Nat} {xs : List D} (h : shDs n xs = true) : shD (n + 1) (.tup xs) = true := by rw [shD]; exact h
theorem sh_nil {n : Nat} : shDs n [] = true := by rw [shDs]
theorem sh_cons {n : Nat} {x : D} {xs : List D} (h : shD n x = true) (h' : shDs n xs = true) : shDs n (x :: xs) = true := by
  rw [shDs, h, h']
  rfl
theorem sh_texts {n : Nat} {ks : List Kd} (h : ∀ k ∈ ks, Good k) : shDs n (ks.map fun k => D.str (text k)) = true := shDs_of fun d hd => by
  obtain ⟨k, hk, e⟩ := List.mem_map.mp hd
  rw [← e]
  exact sh_str (h k hk).text_ok
/-! ### parts, signed atoms -/
mutual
theorem part_good : ∀ (k : Kd), Good k → ∀ j ∈ parts k, Good j
  | .mk as a, g, j, hj => by
    rw [parts] at hj
    rcases List.mem_cons.mp hj with e | e
    · rw [e]
      exact g
    · exact partL_good as (fun i hi => g.kid hi) j e
theorem partL_good : ∀ (ks : List Kd), (∀ i ∈ ks, Good i) → ∀ j ∈ partsL ks, Good j
  | [], _, j, hj => by
    rw [partsL] at hj
    cases hj
  | k :: r, h, j, hj => by
    rw [partsL] at hj
    rcases List.mem_append.mp hj with e | e
    · exact part_good k (h k List.mem_cons_self) j e
    · exact partL_good r (fun i hi => h i (List.mem_cons_of_mem _ hi)) j e
end
mutual
theorem part_places : ∀ (k : Kd), ∀ j ∈ parts k, ∀ z ∈ places j, z ∈ places k
  | .mk as a, j, hj, z, hz => by
    rw [parts] at hj
    rcases List.mem_cons.mp hj with e | e
    · rw [← e]
      exact hz
    · rw [places]
      exact List.mem_append_left _ (partL_places as j e z hz)
theorem partL_places : ∀ (ks : List Kd), ∀ j ∈ partsL ks, ∀ z ∈ places j, z ∈ placesL ks
  | [], j, hj, _, _ => by
    rw [partsL] at hj
    cases hj
  | k :: r, j, hj, z, hz => by
    rw [partsL] at hj
    rw [placesL]
    rcases List.mem_append.mp hj with e | e
    · exact List.mem_append_left _ (part_places k j e z hz)
    · exact List.mem_append_right _ (partL_places r j e z hz)
end
mutual
theorem signed_mem : ∀ (k : Kd) (b : Bool) (z : Str), z ∈ signed k b ∨ z ∈ signed k (!b) ↔ z ∈ places k
  | .mk as a, b, z => by
    have h := signedL_mem as (!b) z
    rw [signed, signed, places, Bool.not_not]
    rw [Bool.not_not] at h
    simp only [List.mem_append, List.mem_singleton]
    rw [← h]
    cases b with
    | true =>
      simp only [Bool.not_true, if_true, Bool.false_eq_true, if_false, List.mem_singleton, List.not_mem_nil]
      constructor
      · rintro ((h | h) | (h | h))
        · exact .inr h
        · exact .inl (.inl h)
        · exact h.elim
        · exact .inl (.inr h)
      · rintro ((h | h) | h)
        · exact .inl (.inr h)
        · exact .inr (.inr h)
        · exact .inl (.inl h)
    | false =>
      simp only [Bool.not_false, if_true, Bool.false_eq_true, if_false, List.mem_singleton, List.not_mem_nil]
      constructor
      · rintro ((h | h) | (h | h))
        · exact h.elim
        · exact .inl (.inl h)
        · exact .inr h
        · exact .inl (.inr h)
      · rintro ((h | h) | h)
        · exact .inl (.inr h)
        · exact .inr (.inr h)
        · exact .inr (.inl h)
theorem signedL_mem : ∀ (ks : List Kd) (b : Bool) (z : Str), z ∈ signedL ks b ∨ z ∈ signedL ks (!b) ↔ z ∈ placesL ks
  | [], b, z => by simp [signedL, placesL]
  | k :: r, b, z => by
    have h1 := signed_mem k b z
    have h2 := signedL_mem r b z
    rw [signedL, signedL, placesL]
    simp only [List.mem_append]
    rw [← h1, ← h2]
    constructor
    · rintro ((h | h) | (h | h))
      · exact .inl (.inl h)
      · exact .inr (.inl h)
      · exact .inl (.inr h)
      · exact .inr (.inr h)
    · rintro ((h | h) | (h | h))
      · exact .inl (.inl h)
      · exact .inr (.inl h)
      · exact .inl (.inr h)
      · exact .inr (.inr h)
end
theorem atoms_places (k : Kd) : sortU (signed k true ++ signed k false) = sortU (places k) := sortU_congr fun z => by
  rw [List.mem_append]
  exact signed_mem k true z
/-- a text with arguments has a blank -/
theorem text_blank {as : List Kd} {a : Str} (h : as ≠ []) : 32 ∈ (text (.mk as a)).cps.toList := by
  cases as with
  | nil => exact absurd rfl h
  | cons k r =>
    rw [text, TL.join_eq, texts, List.cons_append]
    have hj : ∀ (t : Str) (us : List Str) (x : Str), 32 ∈ (Str.join " -> " (t :: (us ++ [x]))).cps.toList := by
      intro t us x
      have e : ∃ u us', us ++ [x] = u :: us' := by
        cases us with
        | nil => exact ⟨x, [], rfl⟩
        | cons u us => exact ⟨u, us ++ [x], rfl⟩
      obtain ⟨u, us', e⟩ := e
      rw [e]
      show 32 ∈ (t ++ " -> " ++ Str.join " -> " (u :: us')).cps.toList
      rw [str_app, str_app]
      exact List.mem_append_left _ (List.mem_append_right _ (by decide +kernel))
    exact hj _ _ _
theorem text_leaf (a : Str) : text (.mk [] a) = a := by
  rw [text, TL.join_eq, texts]
  rfl
theorem text_word {k : Kd} {z : Str} (h : text k = z) (hz : 32 ∉ z.cps.toList) : k = .mk [] z := by
  cases k with
  | mk as a =>
  cases as with
  | nil =>
    rw [text_leaf] at h
    rw [h]
  | cons j r =>
    have := text_blank (as := j :: r) (a := a) (by simp)
    rw [h] at this
    exact absurd this hz
theorem parts_word {k : Kd} {z : Str} (hz : 32 ∉ z.cps.toList) (h : z ∉ places k) : decide (text (.mk [] z) ∈ (parts k).map text) = false := by
  rw [decide_eq_false]
  intro q
  obtain ⟨j, hj, e⟩ := List.mem_map.mp q
  rw [text_leaf] at e
  have ej := text_word e hz
  refine h (part_places k j hj z ?_)
  rw [ej, places, placesL]
  simp
/-- a comprehension over the numbers of places -/
theorem range_lc {α : Type} {body : D → (Option D → Prop) → Prop} (g : α → D) : ∀ (as : List α) (lo : Nat) (Q : List D → Prop), (∀ (i : Nat) (j : α), as[i]? = some j → ∀ K : Option D → Prop, K (some (g j)) → body (.int (0 + ((lo + i : Nat) : Int))) K) → Q (as.map g) → lcD body ((List.range' lo as.length).map fun (i : Nat) => D.int (0 + (i : Int))) Q
  | [], lo, Q, _, h => h
  | a :: as, lo, Q, hb, h => by
    rw [List.length_cons, List.range'_succ]
    refine hb 0 a rfl _ ?_
    refine range_lc g as (lo + 1) _ (fun i j hi K hK => ?_) h
    have := hb (i + 1) j hi K hK
    rw [show lo + 1 + i = lo + (i + 1) by omega]
    exact this
theorem rangeD_range' (n : Nat) : rangeD 0 n = (List.range' 0 n).map fun (i : Nat) => D.int (0 + (i : Int)) := by
  unfold rangeD
  rw [List.range_eq_range']
def f_told_right : List D → M D := fun ds Q _ => match ds with
  | [x, y] => ∃ k, x = typeD k ∧ y = plain k ∧ Good k ∧ ("zz" : Str) ∉ places k ∧ Q (.bl true)
  | _ => False
def f_right : List D → M D := fun ds Q _ => match ds with
  | [.tok] => Q (.bl true)
  | _ => False
def f_law : List D → M D := fun ds Q _ => match ds with
  | [.fz xs] => (∃ ns : List Int, xs = ns.map D.int ∧ ns.length ≤ 63) ∧ Q (.bl true)
  | _ => False
end KP

/-! KP10: parts of parts; readings of rows of texts. -/
namespace KP
open PySem L2 FP
variable [FP.Tabl]
theorem mem_parts_self (k : Kd) : k ∈ parts k := by
  cases k with
  | mk as a =>
    rw [parts]
    exact List.mem_cons_self
theorem mem_partsL {i k : Kd} (h : i ∈ parts k) : ∀ {ks : List Kd}, k ∈ ks → i ∈ partsL ks
  | [], hk => absurd hk List.not_mem_nil
  | j :: r, hk => by
    rw [partsL]
    rcases List.mem_cons.mp hk with e | e
    · rw [← e]
      exact List.mem_append_left _ h
    · exact List.mem_append_right _ (mem_partsL h e)
theorem partsL_mem {i : Kd} : ∀ {ks : List Kd}, i ∈ partsL ks → ∃ k ∈ ks, i ∈ parts k
  | [], h => by
    rw [partsL] at h
    cases h
  | j :: r, h => by
    rw [partsL] at h
    rcases List.mem_append.mp h with e | e
    · exact ⟨j, List.mem_cons_self, e⟩
    · obtain ⟨k, h1, h2⟩ := partsL_mem e
      exact ⟨k, List.mem_cons_of_mem _ h1, h2⟩
theorem parts_trans : ∀ (k : Kd), ∀ j ∈ parts k, ∀ i ∈ parts j, i ∈ parts k := by
  intro k
  refine Kd.ind (P := fun k => ∀ j ∈ parts k, ∀ i ∈ parts j, i ∈ parts k) ?_ k
  intro as a ih j hj i hi
  rw [parts] at hj
  rcases List.mem_cons.mp hj with e | e
  · rw [← e]
    exact hi
  · obtain ⟨k', h1, h2⟩ := partsL_mem e
    rw [parts]
    exact List.mem_cons_of_mem _ (mem_partsL (ih k' h1 j h2 i hi) h1)
theorem part_proper : ∀ (k : Kd), ∀ j ∈ parts k, j = k ∨ ((places j).length < (places k).length ∧ ord j < ord k) := by
  intro k
  refine Kd.ind (P := fun k => ∀ j ∈ parts k, j = k ∨ ((places j).length < (places k).length ∧ ord j < ord k)) ?_ k
  intro as a ih j hj
  rw [parts] at hj
  rcases List.mem_cons.mp hj with e | e
  · exact .inl e
  · obtain ⟨k', h1, h2⟩ := partsL_mem e
    have hl := placesL_len h1
    have ho := ord_lt h1
    have hp : (places (Kd.mk as a)).length = (placesL as).length + 1 := by
      rw [places, List.length_append]
      rfl
    have hoo : ord (Kd.mk as a) = ordL as := by rw [ord]
    rcases ih k' h1 j h2 with rfl | ⟨g1, g2⟩
    · exact .inr ⟨by omega, by omega⟩
    · exact .inr ⟨by omega, by omega⟩
theorem notin_strs {z : Str} {zs : List Str} {Q : D → Prop} (q : Q (.bl (!decide (z ∈ zs)))) : rdNotIn (.str z) (.lst (zs.map .str)) Q := by
  have e : inD (.str z) (.lst (zs.map .str)) = some (decide (z ∈ zs)) := inD_strs z zs
  unfold rdNotIn
  rw [e]
  exact q
theorem ne_bl {a b : Bool} {Q : D → Prop} (q : Q (.bl (!decide (a = b)))) : rdNe (.bl a) (.bl b) Q := q
theorem eq_bl {a b : Bool} {Q : D → Prop} (q : Q (.bl (decide (a = b)))) : rdEq (.bl a) (.bl b) Q := q
theorem eq_int {a b : Int} {Q : D → Prop} (q : Q (.bl (decide (a = b)))) : rdEq (.int a) (.int b) Q := q
theorem ge_int {a b : Int} {Q : D → Prop} (q : Q (.bl (decide (a ≥ b)))) : rdGe (.int a) (.int b) Q := q
theorem sortU_sortU (l : List Str) : sortU (sortU l) = sortU l := sortU_congr fun _ => sortU_mem
theorem texts_D (qs : List Kd) : (qs.map fun i => D.str (text i)) = (qs.map text).map D.str := by
  rw [List.map_map]
  rfl
theorem signedL_iff {z : Str} {b : Bool} {as : List Kd} : z ∈ signedL as b ↔ ∃ j ∈ as, z ∈ signed j b := by
  rw [signedL_map, List.mem_flatten]
  constructor
  · rintro ⟨l, h1, h2⟩
    obtain ⟨j, hj, rfl⟩ := List.mem_map.mp h1
    exact ⟨j, hj, h2⟩
  · rintro ⟨j, hj, h⟩
    exact ⟨_, List.mem_map.mpr ⟨j, hj, rfl⟩, h⟩
/-- the negative, or positive, atoms of a row of kinds, each row ascending -/
def negs (b : Bool) (ks : List Kd) : List Str := (ks.map fun k => sortU (signed k b)).flatten
theorem negs_mem {z : Str} {b : Bool} {as : List Kd} : z ∈ negs b as ↔ z ∈ signedL as b := by
  rw [signedL_iff]
  unfold negs
  rw [List.mem_flatten]
  constructor
  · rintro ⟨l, h1, h2⟩
    obtain ⟨j, hj, rfl⟩ := List.mem_map.mp h1
    exact ⟨j, hj, sortU_mem.mp h2⟩
  · rintro ⟨j, hj, h⟩
    exact ⟨_, List.mem_map.mpr ⟨j, hj, rfl⟩, sortU_mem.mpr h⟩
theorem negs_snoc (b : Bool) (ks : List Kd) (k : Kd) : negs b (ks ++ [k]) = negs b ks ++ sortU (signed k b) := by
  unfold negs
  rw [List.map_append, List.flatten_append]
  simp
theorem negs_len (b : Bool) : ∀ ks : List Kd, (negs b ks).length ≤ (placesL ks).length
  | [] => Nat.zero_le _
  | k :: r => by
    have e : negs b (k :: r) = sortU (signed k b) ++ negs b r := rfl
    rw [e, List.length_append, placesL, List.length_append]
    have h1 := sortU_len (signed k b)
    have h2 := signed_len k b
    have h3 := negs_len b r
    omega
end KP

/-! KP11: kinds changed: one kind in the place of an atom, other atoms; what is too large. -/
namespace KP
open PySem L2 FP
variable [FP.Tabl]
/-! ### a kind in the place of an atom -/
mutual
def put (z : Str) (j : Kd) : Kd → Kd
  | .mk as a => if a = z then .mk (putL z j as ++ j.as) j.a else .mk (putL z j as) a
def putL (z : Str) (j : Kd) : List Kd → List Kd
  | [] => []
  | k :: r => put z j k :: putL z j r
end
theorem putL_map (z : Str) (j : Kd) : ∀ ks, putL z j ks = ks.map (put z j)
  | [] => rfl
  | k :: r => by
    rw [putL, putL_map z j r]
    rfl
/-! ### other atoms -/
mutual
def ren (m : Str → Str) : Kd → Kd
  | .mk as a => .mk (renL m as) (m a)
def renL (m : Str → Str) : List Kd → List Kd
  | [] => []
  | k :: r => ren m k :: renL m r
end
theorem renL_map (m : Str → Str) : ∀ ks, renL m ks = ks.map (ren m)
  | [] => rfl
  | k :: r => by
    rw [renL, renL_map m r]
    rfl
mutual
theorem places_ren (m : Str → Str) : ∀ k, places (ren m k) = (places k).map m
  | .mk as a => by
    rw [ren, places, places, placesL_ren m as, List.map_append]
    rfl
theorem placesL_ren (m : Str → Str) : ∀ ks, placesL (renL m ks) = (placesL ks).map m
  | [] => rfl
  | k :: r => by
    rw [renL, placesL, placesL, places_ren m k, placesL_ren m r, List.map_append]
end
mutual
theorem ord_ren (m : Str → Str) : ∀ k, ord (ren m k) = ord k
  | .mk as a => by
    rw [ren, ord, ord]
    exact ordL_ren m as
theorem ordL_ren (m : Str → Str) : ∀ ks, ordL (renL m ks) = ordL ks
  | [] => rfl
  | k :: r => by
    rw [renL, ordL, ordL, ord_ren m k, ordL_ren m r]
end
theorem Good.ren {k : Kd} (g : Good k) {m : Str → Str} (hm : ∀ z ∈ places k, isWordS (m z) = true) : Good (ren m k) := by
  refine ⟨fun z hz => ?_, ?_, ?_⟩
  · rw [places_ren] at hz
    obtain ⟨y, hy, rfl⟩ := List.mem_map.mp hz
    exact hm y hy
  · rw [places_ren, List.length_map]
    exact g.p
  · rw [ord_ren]
    exact g.o
/-! ### sizes -/
theorem ordL_app : ∀ xs ys : List Kd, ordL (xs ++ ys) = max (ordL xs) (ordL ys)
  | [], ys => by rw [List.nil_append, ordL]; omega
  | x :: xs, ys => by
    rw [List.cons_append, ordL, ordL, ordL_app xs ys]
    omega
mutual
theorem put_len (z : Str) (j : Kd) : ∀ k, (places (put z j k)).length ≤ (places k).length * (places j).length
  | .mk as a => by
    have ih := putL_len z j as
    have hj := places_pos j
    rw [put]
    have e2 : (placesL as ++ [a]).length = (placesL as).length + 1 := by rw [List.length_append]; rfl
    split
    · rw [places, places, placesL_app, e2, List.length_append, List.length_append]
      have e : (places j).length = (placesL j.as).length + 1 := by
        cases j with
        | mk bs b =>
          rw [places, List.length_append]
          rfl
      have e3 : [j.a].length = 1 := rfl
      rw [e3, Nat.add_mul, Nat.one_mul]
      omega
    · rw [places, places, e2, List.length_append]
      have e3 : [a].length = 1 := rfl
      rw [e3, Nat.add_mul, Nat.one_mul]
      omega
theorem putL_len (z : Str) (j : Kd) : ∀ ks, (placesL (putL z j ks)).length ≤ (placesL ks).length * (places j).length
  | [] => by rw [putL, placesL]; exact Nat.zero_le _
  | k :: r => by
    have h1 := put_len z j k
    have h2 := putL_len z j r
    rw [putL, placesL, placesL, List.length_append, List.length_append, Nat.add_mul]
    omega
end
mutual
theorem put_ord (z : Str) (j : Kd) : ∀ k, ord (put z j k) ≤ ord k + ord j
  | .mk as a => by
    have ih := putL_ord z j as
    rw [put]
    split
    · rw [ord, ord, ordL_app]
      have e : ordL j.as = ord j := by cases j with | mk bs b => rw [ord]; rfl
      rw [e]
      omega
    · rw [ord, ord]
      exact ih
theorem putL_ord (z : Str) (j : Kd) : ∀ ks, ordL (putL z j ks) ≤ ordL ks + ord j
  | [] => by rw [putL, ordL]; exact Nat.zero_le _
  | k :: r => by
    have h1 := put_ord z j k
    have h2 := putL_ord z j r
    rw [putL, ordL, ordL]
    omega
end
mutual
theorem put_words (z : Str) (j : Kd) (hj : ∀ y ∈ places j, isWordS y = true) : ∀ k, (∀ y ∈ places k, isWordS y = true) → ∀ y ∈ places (put z j k), isWordS y = true
  | .mk as a, h, y, hy => by
    have ih := putL_words z j hj as fun x hx => h x (by rw [places]; exact List.mem_append_left _ hx)
    have ha := h a (by rw [places]; simp)
    rw [put] at hy
    have ej : ∀ x ∈ placesL j.as ++ [j.a], isWordS x = true := fun x hx => hj x (by
      cases j with
      | mk bs b => rw [places]; exact hx)
    split at hy
    · rw [places, placesL_app, List.append_assoc] at hy
      rcases List.mem_append.mp hy with q | q
      · exact ih y q
      · exact ej y q
    · rw [places] at hy
      rcases List.mem_append.mp hy with q | q
      · exact ih y q
      · rw [List.mem_singleton.mp q]
        exact ha
theorem putL_words (z : Str) (j : Kd) (hj : ∀ y ∈ places j, isWordS y = true) : ∀ ks, (∀ y ∈ placesL ks, isWordS y = true) → ∀ y ∈ placesL (putL z j ks), isWordS y = true
  | [], _, y, hy => by
    rw [putL, placesL] at hy
    cases hy
  | k :: r, h, y, hy => by
    rw [putL, placesL] at hy
    rcases List.mem_append.mp hy with q | q
    · exact put_words z j hj k (fun x hx => h x (by rw [placesL]; exact List.mem_append_left _ hx)) y q
    · exact putL_words z j hj r (fun x hx => h x (by rw [placesL]; exact List.mem_append_right _ hx)) y q
end
/-- an argument of a whole kind that stands ahead of more is whole -/
theorem good_of_kids {ks more : List Kd} {a : Str} (g : Good (.mk (ks ++ more) a)) : ∀ k ∈ ks, Good k := fun k hk => g.kid (List.mem_append_left _ hk)
/-! ### what is made, or is too large -/
abbrev tooX : XD := ⟨"InvalidType", []⟩
def bigX (k : Kd) (Q : D → Prop) (Ex : XD → Prop) : Prop := (Good k → Q (typeD k)) ∧ (¬ Good k → Ex tooX)
def f_initX : List D → ((List (Str × D)) → Prop) → (XD → Prop) → Prop := fun ds Q Ex => match ds with
  | [.tup xs, .str a] => ∃ ks : List Kd, xs = ks.map typeD ∧ (∀ k ∈ ks, Good k) ∧ ks.length ≤ 60 ∧ isWordS a = true ∧ (Good (.mk ks a) → Q (flds (.mk ks a))) ∧ (¬ Good (.mk ks a) → Ex tooX)
  | _ => False
def f_rsh : List D → M D := fun ds Q Ex => match ds with
  | [x, y] => ∃ k j, x = typeD k ∧ y = typeD j ∧ Good k ∧ Good j ∧ bigX (.mk (k :: j.as) j.a) Q Ex
  | _ => False
def f_mod : List D → M D := fun ds Q _ => match ds with
  | [x, .int n] => ∃ k, x = typeD k ∧ Good k ∧ 0 ≤ n ∧ n ≤ k.as.length ∧ Q (typeD (.mk (k.as.drop n.toNat) k.a))
  | _ => False
def f_wtf (d : Nat) : List D → M D := fun ds Q Ex => match ds with
  | [x, .str z, y] => ∃ k j, x = typeD k ∧ y = typeD j ∧ Good k ∧ Good j ∧ ord k < d ∧ isWordS z = true ∧ bigX (put z j k) Q Ex
  | _ => False
def f_put : List D → M D := fun ds Q Ex => match ds with
  | [x, .str z, y] => ∃ k j, x = typeD k ∧ y = typeD j ∧ Good k ∧ Good j ∧ isWordS z = true ∧ bigX (put z j k) Q Ex
  | _ => False
/-- a dict from words to words -/
def dctS (kvs : List (Str × Str)) : List (Key × D) := kvs.map fun p => (.inr p.1, .str p.2)
def mapS (kvs : List (Str × Str)) (z : Str) : Str := ((kvs.find? fun p => decide (p.1 = z)).map (·.2)).getD z
def f_wao (d : Nat) : List D → M D := fun ds Q _ => match ds with
  | [x, .dct ds] => ∃ k kvs, x = typeD k ∧ ds = dctS kvs ∧ Good k ∧ (∀ p ∈ kvs, isWordS p.2 = true) ∧ ord k < d ∧ Q (typeD (ren (mapS kvs) k))
  | _ => False
def f_isren : List D → M D := fun ds Q _ => match ds with
  | [.dct ds, .tup xs] => ∃ (kvs : List (Str × Str)) (zs : List Str), ds = dctS kvs ∧ xs = zs.map .str ∧ kvs.length = zs.length ∧ zs.length ≤ 100 ∧ (∀ z ∈ zs, z ∈ kvs.map (·.1)) ∧ (∀ p ∈ kvs, isWordS p.2 = true) ∧ Q (.bl true)
  | _ => False
def f_renamed : List D → M D := fun ds Q _ => match ds with
  | [x, .dct ds] => ∃ k kvs, x = typeD k ∧ ds = dctS kvs ∧ Good k ∧ kvs.map (·.1) = sortU (signed k true ++ signed k false) ∧ (∀ p ∈ kvs, isWordS p.2 = true) ∧ Q (typeD (ren (mapS kvs) k))
  | _ => False
theorem val_dctS (z : Str) : ∀ kvs : List (Str × Str), valD (dctS kvs) (.inr z) = (kvs.find? fun p => decide (p.1 = z)).map fun p => .str p.2
  | [] => rfl
  | p :: r => by
    have ih := val_dctS z r
    unfold valD dctS at ih ⊢
    rw [List.map_cons, List.find?_cons, List.find?_cons]
    by_cases h : p.1 = z
    · subst h
      simp
    · have h1 : decide (((.inr p.1 : Key)) = .inr z) = false := decide_eq_false fun q => h (Sum.inr.inj q)
      have h2 : decide (p.1 = z) = false := decide_eq_false h
      simp only [h1, h2]
      exact ih
theorem mapS_word {kvs : List (Str × Str)} (h : ∀ p ∈ kvs, isWordS p.2 = true) {z : Str} (hz : isWordS z = true) : isWordS (mapS kvs z) = true := by
  unfold mapS
  cases q : kvs.find? fun p => decide (p.1 = z) with
  | none => exact hz
  | some p => exact h p (List.mem_of_find?_eq_some q)
/-! ### the law's own helpers -/
/-- a kind that may be too large -/
structure Mid (k : Kd) : Prop where
  w : ∀ z ∈ places k, isWordS z = true
  p : (places k).length ≤ 300
theorem Good.mid {k : Kd} (g : Good k) : Mid k := ⟨g.w, Nat.le_trans g.p (by decide)⟩
theorem Mid.kid {as : List Kd} {a : Str} (g : Mid (.mk as a)) {k : Kd} (h : k ∈ as) : Mid k := by
  refine ⟨fun z hz => g.w z ?_, ?_⟩
  · rw [places]
    exact List.mem_append_left _ (placesL_mem hz h)
  · have h1 := g.p
    rw [places, List.length_append] at h1
    have := placesL_len h
    omega
theorem Mid.few {as : List Kd} {a : Str} (g : Mid (.mk as a)) : (placesL as).length ≤ 299 ∧ as.length ≤ 299 := by
  have h1 := g.p
  rw [places, List.length_append] at h1
  have h1 : (placesL as).length + 1 ≤ 300 := h1
  have := length_placesL as
  omega
def f_plainM (g : Kd → D) (d : Nat) : List D → M D := fun ds Q _ => match ds with
  | [x] => ∃ k, x = plain k ∧ Mid k ∧ ord k < d ∧ Q (g k)
  | _ => False
theorem nope_plainM (g : Kd → D) (ds : List D) (Q : D → Prop) (E : XD → Prop) (h : f_plainM g 0 ds Q E) : False := by
  unfold f_plainM at h
  split at h
  · obtain ⟨k, _, _, h, _⟩ := h
    exact absurd h (Nat.not_lt_zero _)
  · exact h
def f_aput (d : Nat) : List D → M D := fun ds Q _ => match ds with
  | [x, .dct ds] => ∃ k kvs, x = plain k ∧ ds = dctS kvs ∧ Good k ∧ ord k < d ∧ Q (plain (ren (mapS kvs) k))
  | _ => False
def f_pput (d : Nat) : List D → M D := fun ds Q _ => match ds with
  | [x, .str z, y] => ∃ k j, x = plain k ∧ y = plain j ∧ Good k ∧ Good j ∧ ord k < d ∧ PyData.strOk z = true ∧ Q (plain (put z j k))
  | _ => False
theorem nope_aput (ds : List D) (Q : D → Prop) (E : XD → Prop) (h : f_aput 0 ds Q E) : False := by
  unfold f_aput at h
  split at h
  · obtain ⟨k, _, _, _, _, h, _⟩ := h
    exact absurd h (Nat.not_lt_zero _)
  · exact h
theorem nope_pput (ds : List D) (Q : D → Prop) (E : XD → Prop) (h : f_pput 0 ds Q E) : False := by
  unfold f_pput at h
  split at h
  · obtain ⟨k, j, _, _, _, _, h, _⟩ := h
    exact absurd h (Nat.not_lt_zero _)
  · exact h
theorem nope_wtf (ds : List D) (Q : D → Prop) (E : XD → Prop) (h : f_wtf 0 ds Q E) : False := by
  unfold f_wtf at h
  split at h
  · obtain ⟨k, j, _, _, _, _, h, _⟩ := h
    exact absurd h (Nat.not_lt_zero _)
  · exact h
theorem nope_wao (ds : List D) (Q : D → Prop) (E : XD → Prop) (h : f_wao 0 ds Q E) : False := by
  unfold f_wao at h
  split at h
  · obtain ⟨k, kvs, _, _, _, _, h, _⟩ := h
    exact absurd h (Nat.not_lt_zero _)
  · exact h
def f_sure : List D → M D := fun ds Q _ => match ds with
  | [x] => ∃ k, x = plain k ∧ Mid k ∧ ord k < 11 ∧ (Good k → Q (typeD k)) ∧ (¬ Good k → Q (.str "large"))
  | _ => False
abbrev sp_got : M D → M D := fun F Q _ => F Q fun x => x.cls ∈ (["InvalidType"] : List Str) ∧ Q (.str "large")
/-- a comprehension that may raise: each is made, or what is wanted is there already -/
theorem lc_all {α : Type} {body : D → (Option D → Prop) → Prop} (e g : α → D) (P : α → Prop) : ∀ (xs : List α) (Q : List D → Prop), (∀ x ∈ xs, ∀ k : Option D → Prop, (P x → k (some (g x))) → body (e x) k) → ((∀ x ∈ xs, P x) → Q (xs.map g)) → lcD body (xs.map e) Q
  | [], Q, _, h => h fun _ hx => absurd hx List.not_mem_nil
  | x :: xs, Q, hb, h => by
    refine hb x List.mem_cons_self _ fun px => ?_
    refine lc_all e g P xs _ (fun y hy => hb y (List.mem_cons_of_mem _ hy)) fun all => h fun y hy => ?_
    rcases List.mem_cons.mp hy with q | q
    · rw [q]
      exact px
    · exact all y q
theorem not_good {ks : List Kd} {a : Str} (hw : ∀ k ∈ ks, Good k) (ha : isWordS a = true) (h : ¬ Good (.mk ks a)) : 15 < (places (.mk ks a)).length ∨ 4 < ord (.mk ks a) := by
  by_cases h1 : (places (.mk ks a)).length ≤ 15
  · by_cases h2 : ord (.mk ks a) ≤ 4
    · refine absurd ⟨fun z hz => ?_, h1, h2⟩ h
      rw [places, placesL_map] at hz
      rcases List.mem_append.mp hz with q | q
      · obtain ⟨zs, hzs, q⟩ := List.mem_flatten.mp q
        obtain ⟨k, hk, rfl⟩ := List.mem_map.mp hzs
        exact (hw k hk).w z q
      · rw [List.mem_singleton.mp q]
        exact ha
    · exact .inr (by omega)
  · exact .inl (by omega)
theorem placesL_cap : ∀ {ks : List Kd}, (∀ k ∈ ks, Good k) → (placesL ks).length ≤ 15 * ks.length
  | [], _ => Nat.zero_le _
  | k :: r, h => by
    have h1 := (h k List.mem_cons_self).p
    have h2 := placesL_cap fun j hj => h j (List.mem_cons_of_mem _ hj)
    rw [placesL, List.length_append, List.length_cons]
    omega
theorem cut_from (xs : List D) {n : Int} (h0 : 0 ≤ n) (h1 : n ≤ xs.length) : cutD xs (some n) none = xs.drop n.toNat := by
  unfold cutD
  have e1 : HT.sIx xs.length 0 (some n) = n.toNat := by
    show (if n < 0 then (n + (xs.length : Int)).toNat else min n.toNat xs.length) = _
    rw [if_neg (by omega)]
    omega
  have e2 : HT.sIx xs.length xs.length none = xs.length := rfl
  rw [e1, e2]
  exact List.take_of_length_le (by rw [List.length_drop]; exact Nat.le_refl _)
theorem Good.drop {as : List Kd} {a : Str} (g : Good (.mk as a)) (n : Nat) : Good (.mk (as.drop n) a) := by
  have e := List.take_append_drop n as
  have h1 : placesL as = placesL (as.take n) ++ placesL (as.drop n) := by rw [← placesL_app, e]
  have h2 : ordL as = max (ordL (as.take n)) (ordL (as.drop n)) := by rw [← ordL_app, e]
  refine ⟨fun z hz => g.w z ?_, ?_, ?_⟩
  · rw [places] at hz ⊢
    rcases List.mem_append.mp hz with q | q
    · exact List.mem_append_left _ (by rw [h1]; exact List.mem_append_right _ q)
    · exact List.mem_append_right _ q
  · have := g.p
    rw [places, List.length_append, h1, List.length_append] at this
    rw [places, List.length_append]
    omega
  · have := g.o
    rw [ord, h2] at this
    rw [ord]
    omega
theorem kit_dd : kitB "dict" "dict" = some true := by decide +kernel
theorem dctS_len (kvs : List (Str × Str)) : (dctS kvs).length = kvs.length := List.length_map _
theorem in_dctS {kvs : List (Str × Str)} {z : Str} (h : z ∈ kvs.map (·.1)) : (valD (dctS kvs) (.inr z)).isSome = true := by
  rw [val_dctS, Option.isSome_map]
  obtain ⟨p, hp, e⟩ := List.mem_map.mp h
  rw [List.find?_isSome]
  exact ⟨p, hp, decide_eq_true e⟩
theorem get_dctS (kvs : List (Str × Str)) (z : Str) : (valD (dctS kvs) (.inr z)).getD (.str z) = .str (mapS kvs z) := by
  rw [val_dctS]
  unfold mapS
  cases kvs.find? fun p => decide (p.1 = z) <;> rfl
theorem put_bad {z : Str} {j i : Kd} {as : List Kd} {a : Str} (hi : i ∈ as) (h : ¬ Good (put z j i)) : ¬ Good (put z j (.mk as a)) := fun g => by
  have hm : put z j i ∈ putL z j as := by
    rw [putL_map]
    exact List.mem_map.mpr ⟨i, hi, rfl⟩
  rw [put] at g
  split at g
  · exact h (g.kid (List.mem_append_left _ hm))
  · exact h (g.kid hm)
theorem slT {xs : List D} {lo hi : Option Int} {Q : D → Prop} (q : Q (.tup (cutD xs lo hi))) : rdSl (.tup xs) lo hi Q := q
theorem lenD {kvs : List (Key × D)} {Q : D → Prop} (q : Q (.int kvs.length)) : rdLen [.dct kvs] Q := q
theorem inDct {kvs : List (Key × D)} {z : Str} {Q : D → Prop} (h : (valD kvs (.inr z)).isSome = true) (q : Q (.bl true)) : rdDIn false (.str z) (.dct kvs) Q := by
  refine ⟨.inr z, rfl, ?_⟩
  rw [h]
  exact q
theorem plainK_M {g : Kd → D} {d : Nat} (ds : List D) (Q : D → Prop) (E : XD → Prop) (h : f_plainK g d ds Q E) : f_plainM g d ds Q E := by
  unfold f_plainK at h
  split at h
  · obtain ⟨k, h1, h2, h3, h4⟩ := h
    exact ⟨k, h1, h2.mid, h3, h4⟩
  · exact h.elim
theorem ne_int0 {a b : Int} {Q : D → Prop} (h : a = b) (q : Q (.bl false)) : rdNe (.int a) (.int b) Q := by
  show Q (.bl (!decide (a = b)))
  rw [decide_eq_true h]
  exact q
end KP

/-! KP12: readings of operators and methods of kinds; drawn dicts. -/
namespace KP
open PySem L2 FP
variable [FP.Tabl]
section
variable {k j : Kd} {Q : D → Prop} {E : XD → Prop}
theorem opT {f : List D → M D} {ts : List String} {y : D} (hy : opKind "Type" ts y) (h : f [typeD k, y] Q E) : (match typeD k with
  | .ins c' fs => c' = "Type" ∧ opKind "Type" ts y ∧ f [.ins c' fs, y] Q E
  | _ => False) := by
  rw [typeD_eq] at h ⊢
  exact ⟨rfl, hy, h⟩
theorem opK_T {ts : List String} (k : Kd) : opKind "Type" ts (typeD k) := .inl ⟨_, typeD_eq k⟩
theorem opK_int {i : Int} : opKind "Type" ["int"] (.int i) := .inr ⟨"int", rfl, List.mem_singleton.mpr rfl⟩
theorem meT {f : List D → M D} {n : Nat} {m : Str} {g : DTA} {ρ : FP.Env} (hn : (flds k).lookup m = none) (h : g ρ (fun ds => ds.length + 1 = n ∧ f (typeD k :: ds) Q E) E) : (match typeD k with
  | .ins c' fs => c' = "Type" ∧ fs.lookup m = none ∧ g ρ (fun ds => ds.length + 1 = n ∧ f (.ins c' fs :: ds) Q E) E
  | _ => False) := by
  have e := typeD_eq k
  rw [e] at h ⊢
  exact ⟨rfl, hn, h⟩
theorem no_put (k : Kd) : (flds k).lookup ("put" : Str) = none := by unfold flds; rfl
theorem no_renamed (k : Kd) : (flds k).lookup ("renamed" : Str) = none := by unfold flds; rfl
end
/-- a comprehension that draws: each element by what was drawn -/
theorem lc_rel {α β : Type} {body : D → (Option D → Prop) → Prop} (e : α → D) (g : α → β → D) (R : β → Prop) : ∀ (xs : List α) (Q : List D → Prop), (∀ x ∈ xs, ∀ k : Option D → Prop, (∀ b, R b → k (some (g x b))) → body (e x) k) → (∀ bs : List β, bs.length = xs.length → (∀ b ∈ bs, R b) → Q (List.zipWith g xs bs)) → lcD body (xs.map e) Q
  | [], Q, _, h => h [] rfl fun _ hb => absurd hb List.not_mem_nil
  | x :: xs, Q, hb, h => by
    refine hb x List.mem_cons_self _ fun b rb => ?_
    refine lc_rel e g R xs _ (fun y hy => hb y (List.mem_cons_of_mem _ hy)) fun bs hl hr => h (b :: bs) (by rw [List.length_cons, List.length_cons, hl]) fun c hc => ?_
    rcases List.mem_cons.mp hc with q | q
    · rw [q]
      exact rb
    · exact hr c q
theorem pairs_zip : ∀ (zs bs : List Str), pairsD (List.zipWith (fun z b => D.tup [.str z, .str b]) zs bs) = some (dctS (zs.zip bs))
  | [], _ => rfl
  | _ :: _, [] => rfl
  | z :: zs, b :: bs => by
    rw [List.zipWith_cons_cons, pairsD, pairs_zip zs bs]
    rfl
theorem zip_keys : ∀ {zs bs : List Str}, bs.length = zs.length → (zs.zip bs).map (·.1) = zs
  | [], _, _ => rfl
  | z :: zs, b :: bs, h => by
    rw [List.zip_cons_cons, List.map_cons, zip_keys (by simpa using h)]
  | _ :: _, [], h => by cases h
theorem putKD_new (acc : List (Key × D)) {kk : Key} {v : D} (h : ∀ p ∈ acc, p.1 ≠ kk) : putKD acc kk v = acc ++ [(kk, v)] := by
  unfold putKD
  rw [if_neg]
  intro q
  obtain ⟨p, hp, e⟩ := List.any_eq_true.mp q
  exact h p hp (of_decide_eq_true e)
theorem merge_new : ∀ (more acc : List (Key × D)), ((acc ++ more).map (·.1)).Nodup → mergeD acc more = acc ++ more
  | [], acc, _ => by
    rw [List.append_nil]
    rfl
  | (kk, v) :: more, acc, h => by
    have e : mergeD acc ((kk, v) :: more) = mergeD (putKD acc kk v) more := rfl
    rw [e, putKD_new acc, merge_new more (acc ++ [(kk, v)])]
    · rw [List.append_assoc]
      rfl
    · rw [List.append_assoc]
      exact h
    · intro p hp q
      rw [List.map_append, List.nodup_append] at h
      exact h.2.2 p.1 (List.mem_map.mpr ⟨p, hp, rfl⟩) kk (by rw [List.map_cons]; exact List.mem_cons_self) q
theorem merge_dctS {kvs : List (Str × Str)} (h : (kvs.map (·.1)).Nodup) : mergeD [] (dctS kvs) = dctS kvs := by
  rw [merge_new, List.nil_append]
  rw [List.nil_append]
  unfold dctS
  rw [List.map_map]
  have e : kvs.map ((fun x : Key × D => x.1) ∘ fun p : Str × Str => ((.inr p.1 : Key), D.str p.2)) = (kvs.map (·.1)).map (Sum.inr : Str → Key) := by
    rw [List.map_map]
    rfl
  rw [e]
  exact List.Pairwise.map _ (fun a b hab q => hab (Sum.inr.inj q)) h
end KP

/-! KP13: the text of a kind is read as this kind. -/
namespace KP
open PySem L2 FP
variable [FP.Tabl]
/-! ### the signs of a kind -/
mutual
def sigs : Kd → List Str
  | .mk as a => sigsL as ++ [a]
def sigsL : List Kd → List Str
  | [] => []
  | k :: r => (if k.as.isEmpty then sigs k else ("(" : Str) :: (sigs k ++ [(")" : Str)])) ++ ((" -> " : Str) :: sigsL r)
end
theorem word_ne {s : Str} (h : isWordS s = true) : s ≠ "(" ∧ s ≠ ")" ∧ s ≠ " -> " := by
  refine ⟨?_, ?_, ?_⟩ <;> (intro e; subst e; revert h; decide +kernel)
theorem read_word {s : Str} (h : isWordS s = true) (rest : List Str) (pre : Rows) (row : List Kd) : readS (s :: rest) (pre ++ [row]) true = readS rest (pre ++ [row ++ [.mk [] s]]) false := by
  obtain ⟨h1, h2, h3⟩ := word_ne h
  have e : takeR (pre ++ [row]) true s = (true, pre ++ [row ++ [.mk [] s]], false) := by
    unfold takeR take1
    rw [if_neg h1, if_neg (by rintro (q | q); exact h3 q; exact h2 q), List.dropLast_concat, List.getLastD_concat, h]
    rfl
  rw [readS, e]
  rfl
theorem read_arrow (rest : List Str) (pre : Rows) (row : List Kd) : readS ((" -> " : Str) :: rest) (pre ++ [row]) false = readS rest (pre ++ [row]) true := by
  have e : takeR (pre ++ [row]) false " -> " = (true, pre ++ [row], true) := by
    unfold takeR take1
    rw [if_neg (by decide +kernel), if_pos (.inl rfl), List.dropLast_concat, List.getLastD_concat]
    unfold takeEnd
    rw [if_neg (by decide), if_pos rfl]
  rw [readS, e]
  rfl
theorem read_open {pre : Rows} (hp : pre.length + 2 ≤ 5) (rest : List Str) (row : List Kd) : readS (("(" : Str) :: rest) (pre ++ [row]) true = readS rest (pre ++ [row] ++ [[]]) true := by
  have e : takeR (pre ++ [row]) true "(" = (true, pre ++ [row] ++ [[]], true) := by
    unfold takeR take1
    rw [if_pos rfl, List.dropLast_concat, List.getLastD_concat, decide_eq_true hp]
    rfl
  rw [readS, e]
  rfl
theorem read_close (rest : List Str) (pre : Rows) (row as : List Kd) (a : Str) (h : as ≠ []) : readS ((")" : Str) :: rest) (pre ++ [row] ++ [as ++ [.mk [] a]]) false = readS rest (pre ++ [row ++ [.mk as a]]) false := by
  have hl : 2 ≤ (as ++ [Kd.mk [] a]).length := by
    cases as with
    | nil => exact absurd rfl h
    | cons x r =>
      rw [List.length_append]
      show 2 ≤ r.length + 1 + 1
      omega
  have e : takeR (pre ++ [row] ++ [as ++ [.mk [] a]]) false ")" = (true, pre ++ [row ++ [.mk as a]], false) := by
    unfold takeR take1
    rw [if_neg (by decide +kernel), if_pos (.inr rfl), List.dropLast_concat, List.getLastD_concat]
    unfold takeEnd
    rw [if_neg (by decide), if_neg (by decide +kernel), List.getLast?_concat, List.getLast?_concat]
    dsimp only
    rw [if_pos ⟨hl, rfl⟩, List.dropLast_concat, List.dropLast_concat]
    rfl
  rw [readS, e]
  rfl
mutual
theorem read_sigs : ∀ (k : Kd) (rest : List Str) (pre : Rows) (row : List Kd), (∀ z ∈ places k, isWordS z = true) → pre.length + ord k ≤ 4 → readS (sigs k ++ rest) (pre ++ [row]) true = readS rest (pre ++ [row ++ (k.as ++ [.mk [] k.a])]) false
  | .mk as a, rest, pre, row, hw, ho => by
    have h1 := read_sigsL as (a :: rest) pre row (fun z hz => hw z (by rw [places]; exact List.mem_append_left _ hz)) (by rw [ord] at ho; exact ho)
    rw [sigs, List.append_assoc]
    show readS (sigsL as ++ (a :: rest)) _ _ = _
    rw [h1, read_word (hw a (by rw [places]; simp))]
    rw [List.append_assoc]
    rfl
theorem read_sigsL : ∀ (ks : List Kd) (rest : List Str) (pre : Rows) (row : List Kd), (∀ z ∈ placesL ks, isWordS z = true) → pre.length + ordL ks ≤ 4 → readS (sigsL ks ++ rest) (pre ++ [row]) true = readS rest (pre ++ [row ++ ks]) true
  | [], rest, pre, row, _, _ => by
    rw [sigsL, List.append_nil]
    rfl
  | k :: r, rest, pre, row, hw, ho => by
    have hwk : ∀ z ∈ places k, isWordS z = true := fun z hz => hw z (by rw [placesL]; exact List.mem_append_left _ hz)
    have hwr : ∀ z ∈ placesL r, isWordS z = true := fun z hz => hw z (by rw [placesL]; exact List.mem_append_right _ hz)
    rw [ordL] at ho
    have ih := read_sigsL r rest pre (row ++ [k]) hwr (by omega)
    have e2 : row ++ [k] ++ r = row ++ k :: r := by rw [List.append_assoc]; rfl
    rw [e2] at ih
    rw [sigsL]
    split
    · rename_i hk
      rw [List.append_assoc, read_sigs k _ pre row hwk (by omega)]
      have ek : k.as = [] := List.isEmpty_iff.mp hk
      show readS ((" -> " : Str) :: (sigsL r ++ rest)) _ _ = _
      rw [read_arrow, ek, List.nil_append]
      have e3 : (Kd.mk [] k.a) = k := by
        cases k with
        | mk as a =>
          have ea : as = [] := ek
          rw [ea]
          rfl
      rw [e3]
      exact ih
    · rename_i hk
      have ek : k.as ≠ [] := fun q => hk (List.isEmpty_iff.mpr q)
      have hd : 1 ≤ ord k := by
        cases k with
        | mk as a =>
          cases as with
          | nil => exact absurd rfl ek
          | cons x xs =>
            rw [ord, ordL]
            omega
      show readS (("(" : Str) :: ((sigs k ++ [(")" : Str)]) ++ ((" -> " : Str) :: sigsL r) ++ rest)) _ _ = _
      rw [read_open (by omega)]
      have e4 : (sigs k ++ [(")" : Str)]) ++ ((" -> " : Str) :: sigsL r) ++ rest = sigs k ++ ((")" : Str) :: (" -> " : Str) :: (sigsL r ++ rest)) := by simp [List.append_assoc]
      rw [e4, read_sigs k _ (pre ++ [row]) [] hwk (by rw [List.length_append]; show pre.length + 1 + ord k ≤ 4; omega), List.nil_append, read_close _ _ _ _ _ ek, read_arrow]
      have e3 : (Kd.mk k.as k.a) = k := by cases k; rfl
      rw [e3]
      exact ih
end
theorem read_kind {k : Kd} (g : Good k) : readS (sigs k) [[]] true = some k := by
  have h := read_sigs k [] [] [] g.w (by show 0 + ord k ≤ 4; have := g.o; omega)
  rw [List.append_nil] at h
  refine (show readS (sigs k) ([] ++ [[]]) true = _ from h).trans ?_
  show resultS [[] ++ (k.as ++ [Kd.mk [] k.a])] false = some k
  rw [List.nil_append]
  unfold resultS
  rw [if_neg Bool.false_ne_true]
  dsimp only
  rw [List.getLast?_concat]
  dsimp only
  rw [if_pos (show (Kd.mk [] k.a).as = [] from rfl), List.dropLast_concat]
  cases k
  rfl
end KP

/-! KP14: the text of a kind is its signs. -/
namespace KP
open PySem L2 FP
variable [FP.Tabl]
def flat (ss : List Str) : List Nat := (ss.map fun s => s.cps.toList).flatten
theorem flat_app (xs ys : List Str) : flat (xs ++ ys) = flat xs ++ flat ys := by
  unfold flat
  rw [List.map_append, List.flatten_append]
theorem flat_one (s : Str) : flat [s] = s.cps.toList := by
  unfold flat
  simp
theorem flat_cons (s : Str) (ss : List Str) : flat (s :: ss) = s.cps.toList ++ flat ss := by
  unfold flat
  simp
theorem cps_app (a b : Str) : (a ++ b).cps.toList = a.cps.toList ++ b.cps.toList := by
  show (a.cps ++ b.cps).toList = _
  rw [Array.toList_append]
/-- a sign that is no word -/
def isSg (s : Str) : Prop := s = "(" ∨ s = ")" ∨ s = " -> "
/-- words and signs, no two words as neighbours -/
def Sep : List Str → Prop
  | [] => True
  | [s] => isWordS s = true ∨ isSg s
  | s :: t :: r => ((isWordS s = true ∧ isSg t) ∨ isSg s) ∧ Sep (t :: r)
theorem sg_head {s : Str} (h : isSg s) : ∃ c r, s.cps.toList = c :: r ∧ isL c = false := by
  rcases h with rfl | rfl | rfl
  · exact ⟨40, [], by decide +kernel, by decide +kernel⟩
  · exact ⟨41, [], by decide +kernel, by decide +kernel⟩
  · exact ⟨32, [45, 62, 32], by decide +kernel, by decide +kernel⟩
theorem take_letters : ∀ (cs rest : List Nat), (∀ c ∈ cs, isL c = true) → (∀ c r, rest = c :: r → isL c = false) → (cs ++ rest).takeWhile isL = cs ∧ (cs ++ rest).dropWhile isL = rest
  | [], rest, _, h => by
    cases rest with
    | nil => exact ⟨rfl, rfl⟩
    | cons c r =>
      have hc := h c r rfl
      simp [List.takeWhile_cons, List.dropWhile_cons, hc]
  | c :: cs, rest, hl, h => by
    obtain ⟨h1, h2⟩ := take_letters cs rest (fun x hx => hl x (List.mem_cons_of_mem _ hx)) h
    have hc := hl c List.mem_cons_self
    simp [List.takeWhile_cons, List.dropWhile_cons, hc, h1, h2]
theorem lex_flat : ∀ (ss : List Str), Sep ss → ∀ n, (flat ss).length ≤ n → lexO n (flat ss) = some ss
  | [], _, n, _ => lexO_nil n
  | s :: r, hs, n, hn => by
    have hr : Sep r := by
      cases r with
      | nil => trivial
      | cons t r => exact hs.2
    have hsw : isWordS s = true ∨ isSg s := by
      cases r with
      | nil => exact hs
      | cons t r =>
        rcases hs.1 with q | q
        · exact .inl q.1
        · exact .inr q
    rw [flat_cons] at hn ⊢
    rcases hsw with hw | hg
    · have hw1 := (word_len hw).1
      have hwl := word_letters hw
      have hlen : s.length = s.cps.toList.length := by
        show s.cps.size = _
        rw [Array.length_toList]
      cases hc : s.cps.toList with
      | nil =>
        rw [hlen, hc] at hw1
        cases hw1
      | cons c cs =>
        rw [hc] at hn hwl
        cases n with
        | zero => simp at hn
        | succ n =>
          have hrest : ∀ x y, flat r = x :: y → isL x = false := fun x y e => by
            cases r with
            | nil => cases e
            | cons t r =>
              have ht : isSg t := by
                rcases hs.1 with q | q
                · exact q.2
                · exfalso
                  obtain ⟨h1, h2, h3⟩ := word_ne hw
                  rcases q with q | q | q
                  · exact h1 q
                  · exact h2 q
                  · exact h3 q
              obtain ⟨d, ds, e1, e2⟩ := sg_head ht
              rw [flat_cons, e1] at e
              cases e
              exact e2
          obtain ⟨t1, t2⟩ := take_letters cs (flat r) (fun x hx => decide_eq_true (hwl x (List.mem_cons_of_mem _ hx))) hrest
          have hcl : isL c = true := decide_eq_true (hwl c List.mem_cons_self)
          rw [List.cons_append, lexO, if_pos hcl, t1, t2, lex_flat r hr n (by simp at hn; omega)]
          show some ((⟨(c :: cs).toArray⟩ : Str) :: r) = some (s :: r)
          rw [← hc]
    · have fin : ∀ m, (flat r).length ≤ m → lexO m (flat r) = some r := fun m hm => lex_flat r hr m hm
      cases n with
      | zero =>
        obtain ⟨d, ds, e1, _⟩ := sg_head hg
        rw [e1] at hn
        simp at hn
      | succ n =>
        rcases hg with rfl | rfl | rfl
        · have e : ("(" : Str).cps.toList = [40] := by decide +kernel
          rw [e] at hn ⊢
          rw [List.cons_append, List.nil_append, lexO, if_neg (by decide +kernel), if_neg (fun q => by have q2 := congrArg List.head? q; revert q2; simp [arrowL]; decide +kernel), if_pos (by decide +kernel), fin n (by simp at hn; omega)]
          rfl
        · have e : (")" : Str).cps.toList = [41] := by decide +kernel
          rw [e] at hn ⊢
          rw [List.cons_append, List.nil_append, lexO, if_neg (by decide +kernel), if_neg (fun q => by have q2 := congrArg List.head? q; revert q2; simp [arrowL]; decide +kernel), if_pos (by decide +kernel), fin n (by simp at hn; omega)]
          rfl
        · have e : (" -> " : Str).cps.toList = [32, 45, 62, 32] := by decide +kernel
          rw [e] at hn ⊢
          rw [List.cons_append, lexO, if_neg (by decide +kernel), if_pos (by unfold arrowL; rw [e]; rfl)]
          show (lexO n (flat r)).map _ = _
          rw [fin n (by simp at hn; omega)]
          rfl
theorem join_cons (x y : Str) (r : List Str) : Txt.join " -> " (x :: y :: r) = x ++ " -> " ++ Txt.join " -> " (y :: r) := by
  rw [TL.join_eq, TL.join_eq]
  rfl
theorem join_one (x : Str) : Txt.join " -> " [x] = x := by
  rw [TL.join_eq]
  rfl
theorem join_flat (a : Str) : ∀ ts : List Str, (Txt.join " -> " (ts ++ [a])).cps.toList = (ts.map fun t => t.cps.toList ++ (" -> " : Str).cps.toList).flatten ++ a.cps.toList
  | [] => by
    rw [List.nil_append, join_one]
    rfl
  | [t] => by
    show (Txt.join " -> " (t :: [a])).cps.toList = _
    rw [join_cons, join_one, cps_app, cps_app]
    simp
  | t :: u :: r => by
    have ih := join_flat a (u :: r)
    show (Txt.join " -> " (t :: u :: (r ++ [a]))).cps.toList = _
    rw [join_cons, cps_app, cps_app]
    have e : u :: (r ++ [a]) = (u :: r) ++ [a] := rfl
    rw [e, ih]
    simp [List.append_assoc]
mutual
theorem text_flat : ∀ k : Kd, (text k).cps.toList = flat (sigs k)
  | .mk as a => by
    rw [text, join_flat, sigs, flat_app, flat_one, texts_flat as]
theorem texts_flat : ∀ ks : List Kd, ((texts ks).map fun t => t.cps.toList ++ (" -> " : Str).cps.toList).flatten = flat (sigsL ks)
  | [] => rfl
  | k :: r => by
    rw [texts, sigsL, List.map_cons, List.flatten_cons, texts_flat r, flat_app, flat_cons]
    split
    · rw [text_flat k, List.append_assoc]
    · rw [cps_app, cps_app, flat_cons, flat_app, flat_one, text_flat k]
      simp [List.append_assoc]
end
/-! ### the signs of a kind stand apart -/
def firstS : List Str → Str
  | [] => ""
  | s :: _ => s
theorem sep_sg {s : Str} (h : isSg s) : ∀ {r : List Str}, Sep r → Sep (s :: r)
  | [], _ => .inr h
  | _ :: _, hr => ⟨.inr h, hr⟩
theorem sep_word {s t : Str} {r : List Str} (h : isWordS s = true) (ht : isSg t) (hr : Sep (t :: r)) : Sep (s :: t :: r) := ⟨.inl ⟨h, ht⟩, hr⟩
mutual
theorem sep_sigs : ∀ (k : Kd) (rest : List Str), (∀ z ∈ places k, isWordS z = true) → (rest = [] ∨ ∃ t r, rest = t :: r ∧ isSg t) → Sep rest → Sep (sigs k ++ rest)
  | .mk as a, rest, hw, h1, h2 => by
    have ha := hw a (by rw [places]; simp)
    rw [sigs, List.append_assoc]
    refine sep_sigsL as _ (fun z hz => hw z (by rw [places]; exact List.mem_append_left _ hz)) ?_
    rcases h1 with rfl | ⟨t, r, rfl, ht⟩
    · exact .inl ha
    · exact sep_word ha ht h2
theorem sep_sigsL : ∀ (ks : List Kd) (rest : List Str), (∀ z ∈ placesL ks, isWordS z = true) → Sep rest → Sep (sigsL ks ++ rest)
  | [], rest, _, h => by
    rw [sigsL]
    exact h
  | k :: r, rest, hw, h => by
    have hwk : ∀ z ∈ places k, isWordS z = true := fun z hz => hw z (by rw [placesL]; exact List.mem_append_left _ hz)
    have hwr : ∀ z ∈ placesL r, isWordS z = true := fun z hz => hw z (by rw [placesL]; exact List.mem_append_right _ hz)
    have ih : Sep ((" -> " : Str) :: (sigsL r ++ rest)) := sep_sg (.inr (.inr rfl)) (sep_sigsL r rest hwr h)
    rw [sigsL]
    split
    · rw [List.append_assoc]
      exact sep_sigs k _ hwk (.inr ⟨_, _, rfl, .inr (.inr rfl)⟩) ih
    · have e4 : ((("(" : Str) :: (sigs k ++ [(")" : Str)])) ++ ((" -> " : Str) :: sigsL r)) ++ rest = ("(" : Str) :: (sigs k ++ ((")" : Str) :: (" -> " : Str) :: (sigsL r ++ rest))) := by simp [List.append_assoc]
      rw [e4]
      exact sep_sg (.inl rfl) (sep_sigs k _ hwk (.inr ⟨_, _, rfl, .inr (.inl rfl)⟩) (sep_sg (.inr (.inl rfl)) ih))
end
theorem lex_kind {k : Kd} (hw : ∀ z ∈ places k, isWordS z = true) : lexS (text k) = some (sigs k) := by
  unfold lexS
  rw [text_flat]
  have h := sep_sigs k [] hw (.inl rfl) trivial
  rw [List.append_nil] at h
  exact lex_flat _ h _ (Nat.le_refl _)
theorem wordish_word {s : Str} (h : isWordS s = true) : wordish s = true := by
  obtain ⟨h1, h2, h3⟩ := word_ne h
  unfold wordish
  refine decide_eq_true ?_
  intro q
  simp only [List.mem_cons, List.not_mem_nil, or_false] at q
  rcases q with q | q | q
  · exact h1 q
  · exact h2 q
  · exact h3 q
theorem wordish_sg {s : Str} (h : isSg s) : wordish s = false := by
  rcases h with rfl | rfl | rfl <;> decide +kernel
mutual
theorem filter_sigs : ∀ (k : Kd), (∀ z ∈ places k, isWordS z = true) → (sigs k).filter wordish = places k
  | .mk as a, hw => by
    rw [sigs, places, List.filter_append, filter_sigsL as fun z hz => hw z (by rw [places]; exact List.mem_append_left _ hz)]
    have ha := wordish_word (hw a (by rw [places]; simp))
    simp [ha]
theorem filter_sigsL : ∀ (ks : List Kd), (∀ z ∈ placesL ks, isWordS z = true) → (sigsL ks).filter wordish = placesL ks
  | [], _ => rfl
  | k :: r, hw => by
    have hwk : ∀ z ∈ places k, isWordS z = true := fun z hz => hw z (by rw [placesL]; exact List.mem_append_left _ hz)
    have hwr : ∀ z ∈ placesL r, isWordS z = true := fun z hz => hw z (by rw [placesL]; exact List.mem_append_right _ hz)
    have w1 : wordish ("(" : Str) = false := wordish_sg (.inl rfl)
    have w2 : wordish (")" : Str) = false := wordish_sg (.inr (.inl rfl))
    have w3 : wordish (" -> " : Str) = false := wordish_sg (.inr (.inr rfl))
    rw [sigsL, placesL, ← filter_sigs k hwk, ← filter_sigsL r hwr]
    split <;> simp [List.filter_append, List.filter_cons, w1, w2, w3]
end
theorem shape_text {k : Kd} (g : Good k) : shapeS (text k) = some k := by
  unfold shapeS
  rw [lex_kind g.w]
  dsimp only
  rw [filter_sigs k g.w, if_neg (by have := g.p; omega)]
  exact read_kind g
end KP

/-! KP15: kinds grown step by step (k09). -/
namespace KP
open PySem L2 FP
variable [FP.Tabl]
abbrev sp_gotN : M D → M D := fun F Q _ => F Q fun x => x.cls ∈ (["InvalidType"] : List Str) ∧ Q .non
/-- what is made of a plain kind, or None -/
def madeN (k : Kd) (t : D) : Prop := (Good k ∧ t = typeD k) ∨ (¬ Good k ∧ t = .non)
def f_step : List D → M D := fun ds Q _ => match ds with
  | [.tok, x, y] => ∃ k, x = typeD k ∧ y = plain k ∧ Good k ∧ ∀ due t, Mid due → ord due < 11 → madeN due t → Q (.lst [t, plain due])
  | _ => False
theorem Kd.places_eq (i : Kd) : places i = placesL i.as ++ [i.a] := by cases i with | mk bs b => rw [places]; rfl
theorem Kd.len_eq (i : Kd) : (places i).length = (placesL i.as).length + 1 := by rw [i.places_eq, List.length_append]; rfl
theorem Kd.ord_eq (i : Kd) : ord i = ordL i.as := by cases i with | mk bs b => rw [ord]; rfl
theorem Good.few' {k : Kd} (g : Good k) : (placesL k.as).length ≤ 14 ∧ k.as.length ≤ 14 := by
  cases k with
  | mk as a => exact g.few
theorem mid_front {k j : Kd} (hk : Good k) (hj : Good j) : Mid (.mk (j :: k.as) k.a) := by
  refine ⟨fun z hz => ?_, ?_⟩
  · rw [places, placesL, List.append_assoc] at hz
    rcases List.mem_append.mp hz with q | q
    · exact hj.w z q
    · exact hk.w z (by rw [k.places_eq]; exact q)
  · have h1 := hj.p
    have h2 := hk.p
    have h3 := k.len_eq
    rw [places, placesL, List.length_append, List.length_append]
    show _ + _ + 1 ≤ _
    omega
theorem ord_front {k j : Kd} : ord (.mk (j :: k.as) k.a) = max (ord j + 1) (ord k) := by
  have := k.ord_eq
  rw [ord, ordL]
  omega
theorem mid_nest {k : Kd} (hk : Good k) {z : Str} (hz : isWordS z = true) : Mid (.mk [k] z) := by
  refine ⟨fun y hy => ?_, ?_⟩
  · rw [places, placesL_one] at hy
    rcases List.mem_append.mp hy with q | q
    · exact hk.w y q
    · rw [List.mem_singleton.mp q]
      exact hz
  · have h1 := hk.p
    rw [places, placesL_one, List.length_append]
    show _ + 1 ≤ _
    omega
theorem ord_nest {k : Kd} {z : Str} : ord (.mk [k] z) = ord k + 1 := by
  rw [ord, ordL, ordL]
  omega
theorem isnot_T {k : Kd} {Q : D → Prop} (q : Q (.bl true)) : rdIsNot (typeD k) .non Q := by
  rw [typeD_eq]
  exact q
theorem shapeV_text {k : Kd} (g : Good k) : shapeV (.str (text k)) = some k := shape_text g
theorem readT {k : Kd} (g : Good k) {Q : D → Prop} {E : XD → Prop} (q : Q (typeD k)) : f_read [.cl "Type", .str (text k)] Q E :=
  ⟨k, rfl, g.okStr, fun z hz => by cases hz; exact Nat.le_trans g.text_len (by decide), shapeV_text g, g, q⟩
theorem spots6 (n : Nat) : 1 ≤ (if (if (n : Int) < 6 then (n : Int) else 6) > 1 then (if (n : Int) < 6 then (n : Int) else 6) else 1) ∧ (if (if (n : Int) < 6 then (n : Int) else 6) > 1 then (if (n : Int) < 6 then (n : Int) else 6) else 1) ≤ 6 := by
  split <;> split <;> omega
end KP

/-! KP16: kinds in the place of atoms, one behind the other; names there and back. -/
namespace KP
open PySem L2 FP
variable [FP.Tabl]
theorem putL_app (z : Str) (j : Kd) : ∀ xs ys, putL z j (xs ++ ys) = putL z j xs ++ putL z j ys
  | [], _ => by rw [putL]; rfl
  | x :: xs, ys => by
    rw [List.cons_append, putL, putL, putL_app z j xs ys, List.cons_append]
mutual
theorem put_absent (z : Str) (j : Kd) : ∀ k, z ∉ places k → put z j k = k
  | .mk as a, h => by
    rw [places, List.mem_append, not_or, List.mem_singleton] at h
    rw [put, if_neg fun q => h.2 q.symm, putL_absent z j as h.1]
theorem putL_absent (z : Str) (j : Kd) : ∀ ks, z ∉ placesL ks → putL z j ks = ks
  | [], _ => by rw [putL]
  | k :: r, h => by
    rw [placesL, List.mem_append, not_or] at h
    rw [putL, put_absent z j k h.1, putL_absent z j r h.2]
end
mutual
theorem put_leaf (z b : Str) : ∀ k, put z (.mk [] b) k = ren (fun x => if x = z then b else x) k
  | .mk as a => by
    rw [put, ren, putL_leaf z b as]
    by_cases h : a = z
    · rw [if_pos h, if_pos h]
      show Kd.mk (_ ++ []) b = _
      rw [List.append_nil]
    · rw [if_neg h, if_neg h]
theorem putL_leaf (z b : Str) : ∀ ks, putL z (.mk [] b) ks = renL (fun x => if x = z then b else x) ks
  | [] => by rw [putL, renL]
  | k :: r => by rw [putL, renL, put_leaf z b k, putL_leaf z b r]
end
mutual
theorem ren_congr {m n : Str → Str} : ∀ k, (∀ z ∈ places k, m z = n z) → ren m k = ren n k
  | .mk as a, h => by
    rw [ren, ren, renL_congr as fun z hz => h z (by rw [places]; exact List.mem_append_left _ hz), h a (by rw [places]; simp)]
theorem renL_congr {m n : Str → Str} : ∀ ks, (∀ z ∈ placesL ks, m z = n z) → renL m ks = renL n ks
  | [], _ => by rw [renL, renL]
  | k :: r, h => by
    rw [renL, renL, ren_congr k fun z hz => h z (by rw [placesL]; exact List.mem_append_left _ hz), renL_congr r fun z hz => h z (by rw [placesL]; exact List.mem_append_right _ hz)]
end
mutual
theorem ren_id : ∀ k, ren (fun z => z) k = k
  | .mk as a => by rw [ren, renL_id as]
theorem renL_id : ∀ ks, renL (fun z => z) ks = ks
  | [] => by rw [renL]
  | k :: r => by rw [renL, ren_id k, renL_id r]
end
mutual
theorem ren_ren (m n : Str → Str) : ∀ k, ren n (ren m k) = ren (fun z => n (m z)) k
  | .mk as a => by rw [ren, ren, ren, renL_ren m n as]
theorem renL_ren (m n : Str → Str) : ∀ ks, renL n (renL m ks) = renL (fun z => n (m z)) ks
  | [] => by rw [renL, renL, renL]
  | k :: r => by rw [renL, renL, renL, ren_ren m n k, renL_ren m n r]
end
theorem put_self (z : Str) (k : Kd) : put z (.mk [] z) k = k := by
  rw [put_leaf, ren_congr (n := fun x => x) k fun x _ => by
    show (if x = z then z else x) = x
    split
    · rename_i h; rw [h]
    · rfl, ren_id]
theorem kd_eta (k : Kd) : Kd.mk k.as k.a = k := by cases k; rfl
theorem put_mk (z : Str) (j : Kd) (as : List Kd) (a : Str) : put z j (.mk as a) = if a = z then .mk (putL z j as ++ j.as) j.a else .mk (putL z j as) a := by rw [put]
theorem put_as (z : Str) (j k : Kd) : (put z j k).as = if k.a = z then putL z j k.as ++ j.as else putL z j k.as := by
  cases k with
  | mk as a =>
    rw [put_mk]
    show _ = if a = z then _ else _
    split <;> rfl
theorem put_a (z : Str) (j k : Kd) : (put z j k).a = if k.a = z then j.a else k.a := by
  cases k with
  | mk as a =>
    rw [put_mk]
    show _ = if a = z then _ else a
    split <;> rfl
theorem absent_as {z : Str} {t : Kd} (h : z ∉ places t) : z ∉ placesL t.as ∧ t.a ≠ z := by
  cases t with
  | mk as a =>
    rw [places, List.mem_append, not_or, List.mem_singleton] at h
    exact ⟨h.1, fun q => h.2 q.symm⟩
mutual
theorem put_put {y z : Str} (hyz : y ≠ z) {t j : Kd} (ht : z ∉ places t) : ∀ k, put y t (put z j k) = put z (put y t j) (put y t k)
  | .mk as a => by
    have ih := putL_put hyz (j := j) ht as
    obtain ⟨h1, h2⟩ := absent_as ht
    have e : putL z (put y t j) t.as = t.as := putL_absent _ _ _ h1
    by_cases hz : a = z
    · subst hz
      rw [put_mk a, if_pos rfl, put_mk y t as, if_neg (Ne.symm hyz), put_mk a, if_pos rfl, put_mk, putL_app, ih, put_as, put_a]
      by_cases hj : j.a = y
      · rw [if_pos hj, if_pos hj, if_pos hj, List.append_assoc]
      · rw [if_neg hj, if_neg hj, if_neg hj]
    · by_cases hy : a = y
      · subst hy
        rw [put_mk z, if_neg hz, put_mk, if_pos rfl, put_mk a t as, if_pos rfl, put_mk, if_neg h2, putL_app, e, ih]
      · rw [put_mk z, if_neg hz, put_mk, if_neg hy, put_mk y t as, if_neg hy, put_mk, if_neg hz, ih]
theorem putL_put {y z : Str} (hyz : y ≠ z) {t j : Kd} (ht : z ∉ places t) : ∀ ks, putL y t (putL z j ks) = putL z (put y t j) (putL y t ks)
  | [] => by simp only [putL]
  | k :: r => by rw [putL, putL, putL, putL, put_put hyz ht k, putL_put hyz ht r]
end
mutual
theorem put_fresh {y z : Str} {t j : Kd} : ∀ k, y ∉ places k → put y t (put z j k) = put z (put y t j) k
  | .mk as a, h => by
    rw [places, List.mem_append, not_or, List.mem_singleton] at h
    have ih := putL_fresh (y := y) (z := z) (t := t) (j := j) as h.1
    by_cases hz : a = z
    · subst hz
      rw [put_mk a, if_pos rfl, put_mk a, if_pos rfl, put_mk, putL_app, ih, put_as, put_a]
      by_cases hj : j.a = y
      · rw [if_pos hj, if_pos hj, if_pos hj, List.append_assoc]
      · rw [if_neg hj, if_neg hj, if_neg hj]
    · rw [put_mk z, if_neg hz, put_mk z, if_neg hz, put_mk, if_neg fun q => h.2 q.symm, ih]
theorem putL_fresh {y z : Str} {t j : Kd} : ∀ ks, y ∉ placesL ks → putL y t (putL z j ks) = putL z (put y t j) ks
  | [], _ => by simp only [putL]
  | k :: r, h => by
    rw [placesL, List.mem_append, not_or] at h
    rw [putL, putL, putL, put_fresh k h.1, putL_fresh r h.2]
end
theorem put_back {y z : Str} {k : Kd} (h : y ∉ places k) : put y (.mk [] z) (put z (.mk [] y) k) = k := by
  rw [put_fresh k h]
  have e : put y (.mk [] z) (.mk [] y) = .mk [] z := by
    rw [put_mk, if_pos rfl, putL]
    rfl
  rw [e, put_self]
/-! ### names there and back -/
def swapP (kvs : List (Str × Str)) : List (Str × Str) := kvs.map fun p => (p.2, p.1)
theorem mapS_mem {kvs : List (Str × Str)} (hn : (kvs.map (·.1)).Nodup) {p : Str × Str} (hp : p ∈ kvs) : mapS kvs p.1 = p.2 := by
  unfold mapS
  have h1 : (kvs.find? fun q => decide (q.1 = p.1)).isSome = true := List.find?_isSome.mpr ⟨p, hp, decide_eq_true rfl⟩
  obtain ⟨q, hq⟩ := Option.isSome_iff_exists.mp h1
  rw [hq]
  have h2 := List.mem_of_find?_eq_some hq
  have h3 : q.1 = p.1 := by simpa using List.find?_some hq
  have h4 : q = p := by
    have inj : ∀ (l : List (Str × Str)), (l.map (·.1)).Nodup → q ∈ l → p ∈ l → q = p := by
      intro l
      induction l with
      | nil => intro _ h; cases h
      | cons x l ih =>
        intro hn hq hp
        rw [List.map_cons, List.nodup_cons] at hn
        rcases List.mem_cons.mp hq with e | hq
        · rcases List.mem_cons.mp hp with e' | hp
          · rw [e, e']
          · exact absurd (List.mem_map.mpr ⟨p, hp, by rw [← h3, e]⟩) hn.1
        · rcases List.mem_cons.mp hp with e' | hp
          · exact absurd (List.mem_map.mpr ⟨q, hq, by rw [h3, e']⟩) hn.1
          · exact ih hn.2 hq hp
    exact inj kvs hn h2 hp
  show q.2 = p.2
  rw [h4]
theorem mapS_out {kvs : List (Str × Str)} {z : Str} (h : z ∉ kvs.map (·.1)) : mapS kvs z = z := by
  unfold mapS
  have e : (kvs.find? fun q => decide (q.1 = z)) = none := List.find?_eq_none.mpr fun q hq => by
    simp only [decide_eq_true_eq]
    exact fun e => h (List.mem_map.mpr ⟨q, hq, e⟩)
  rw [e]
  rfl
theorem back_names {kvs : List (Str × Str)} (h1 : (kvs.map (·.1)).Nodup) (h2 : (kvs.map (·.2)).Nodup) {z : Str} (hz : z ∈ kvs.map (·.1)) : mapS (swapP kvs) (mapS kvs z) = z := by
  obtain ⟨p, hp, rfl⟩ := List.mem_map.mp hz
  rw [mapS_mem h1 hp]
  have e : (swapP kvs).map (·.1) = kvs.map (·.2) := by unfold swapP; rw [List.map_map]; rfl
  exact mapS_mem (kvs := swapP kvs) (p := (p.2, p.1)) (by rw [e]; exact h2) (List.mem_map.mpr ⟨p, hp, rfl⟩)
theorem ren_back {kvs : List (Str × Str)} {k : Kd} (h1 : (kvs.map (·.1)).Nodup) (h2 : (kvs.map (·.2)).Nodup) (h : ∀ z ∈ places k, z ∈ kvs.map (·.1)) : ren (mapS (swapP kvs)) (ren (mapS kvs) k) = k := by
  rw [ren_ren, ren_congr (n := fun z => z) k fun z hz => back_names h1 h2 (h z hz), ren_id]
/-- other words one by one -/
def putAll1 (k : Kd) : List (Str × Str) → Kd
  | [] => k
  | p :: r => putAll1 (put p.1 (.mk [] p.2) k) r
theorem putAll1_ren : ∀ (kvs : List (Str × Str)) (k : Kd), (kvs.map (·.1)).Nodup → (∀ z ∈ kvs.map (·.2), z ∉ kvs.map (·.1)) → putAll1 k kvs = ren (mapS kvs) k
  | [], k, _, _ => by
    rw [putAll1, ren_congr (n := fun z => z) k fun z _ => mapS_out (by simp), ren_id]
  | (x, b) :: r, k, hn, hd => by
    rw [List.map_cons, List.nodup_cons] at hn
    rw [putAll1, putAll1_ren r _ hn.2 fun z hz q => hd z (by rw [List.map_cons]; exact List.mem_cons_of_mem _ hz) (by rw [List.map_cons]; exact List.mem_cons_of_mem _ q), put_leaf, ren_ren]
    refine ren_congr k fun z _ => ?_
    have hb : b ∉ r.map (·.1) := fun q => hd b (by rw [List.map_cons]; exact List.mem_cons_self) (by rw [List.map_cons]; exact List.mem_cons_of_mem _ q)
    by_cases h : z = x
    · subst h
      show mapS r (if z = z then b else z) = mapS ((z, b) :: r) z
      rw [if_pos rfl, mapS_out hb]
      unfold mapS
      rw [List.find?_cons_of_pos (by simp)]
      rfl
    · show mapS r (if z = x then b else z) = mapS ((x, b) :: r) z
      rw [if_neg h]
      unfold mapS
      rw [List.find?_cons_of_neg (by simpa using Ne.symm h)]
theorem putAll1_app (k : Kd) : ∀ (xs ys : List (Str × Str)), putAll1 k (xs ++ ys) = putAll1 (putAll1 k xs) ys
  | [], _ => rfl
  | x :: xs, ys => by rw [List.cons_append, putAll1, putAll1, putAll1_app _ xs ys]
end KP

/-! KP17: promises of the law k06. -/
namespace KP
open PySem L2 FP
variable [FP.Tabl]
def f_drawn : List D → M D := fun ds Q _ => match ds with
  | [.tok, .int m] => (1 ≤ m ∧ m ≤ 15) ∧ ∀ k : Kd, Good k → ((places k).length : Int) ≤ m → ord k ≤ 2 → (∀ z ∈ places k, z ∈ (["a", "b", "c"] : List Str)) → Q (typeD k)
  | _ => False
def f_renamed6 : List D → M D := fun ds Q _ => match ds with
  | [x, .dct ds] => ∃ k kvs, x = typeD k ∧ ds = dctS kvs ∧ Good k ∧ kvs.length = (sortU (signed k true ++ signed k false)).length ∧ (∀ z ∈ sortU (signed k true ++ signed k false), z ∈ kvs.map (·.1)) ∧ (∀ p ∈ kvs, isWordS p.2 = true) ∧ Q (typeD (ren (mapS kvs) k))
  | _ => False
def f_right6 : List D → M D := fun ds Q _ => match ds with
  | [.tok] => Q (.bl true)
  | _ => False
theorem addI {i j : Int} {Q : D → Prop} (q : Q (.int (i + j))) : rdAdd (.int i) (.int j) Q := q
theorem in_strsT {z : Str} {zs : List Str} {Q : D → Prop} (q : Q (.bl (decide (z ∈ zs)))) : rdIn (.str z) (.tup (zs.map .str)) Q := by
  have e : inD (.str z) (.tup (zs.map .str)) = some (decide (z ∈ zs)) := inD_strs z zs
  unfold rdIn
  rw [e]
  exact q
theorem zipD_strs : ∀ (zs bs : List Str), zipD (zs.map .str) (bs.map .str) = List.zipWith (fun z b => D.tup [.str z, .str b]) zs bs
  | [], _ => rfl
  | _ :: _, [] => rfl
  | z :: zs, b :: bs => by
    have ih := zipD_strs zs bs
    unfold zipD at ih ⊢
    rw [List.map_cons, List.map_cons, List.zipWith_cons_cons, List.zipWith_cons_cons, ih]
    rfl
theorem strs_of_perm {ys zs : List D} {xs : List Str} (h : (ys ++ zs).Perm (xs.map .str)) : ∃ bs cs : List Str, ys = bs.map .str ∧ zs = cs.map .str ∧ (bs ++ cs).Perm xs := by
  have key : ∀ (l : List D), (∀ d ∈ l, ∃ b : Str, d = .str b) → ∃ bs : List Str, l = bs.map .str := by
    intro l
    induction l with
    | nil => exact fun _ => ⟨[], rfl⟩
    | cons d l ih =>
      intro hd
      obtain ⟨b, rfl⟩ := hd d List.mem_cons_self
      obtain ⟨bs, rfl⟩ := ih fun x hx => hd x (List.mem_cons_of_mem _ hx)
      exact ⟨b :: bs, rfl⟩
  have all : ∀ d ∈ ys ++ zs, ∃ b : Str, d = .str b := fun d hd => by
    obtain ⟨b, _, e⟩ := List.mem_map.mp (h.mem_iff.mp hd)
    exact ⟨b, e.symm⟩
  obtain ⟨bs, rfl⟩ := key ys fun d hd => all d (List.mem_append_left _ hd)
  obtain ⟨cs, rfl⟩ := key zs fun d hd => all d (List.mem_append_right _ hd)
  refine ⟨bs, cs, rfl, rfl, ?_⟩
  rw [← List.map_append] at h
  have inj : Function.Injective (D.str : Str → D) := fun a b e => by cases e; rfl
  have un : ∀ l : List Str, (l.map D.str).filterMap (fun d => match d with | .str b => some b | _ => none) = l := by
    intro l
    induction l with
    | nil => rfl
    | cons a l ih => rw [List.map_cons, List.filterMap_cons, ih]
  have q := h.filterMap (fun d : D => match d with | .str b => some b | _ => none)
  rw [un, un] at q
  exact q
/-- a dict from a kind's atoms to other words -/
structure Names (k : Kd) (kvs : List (Str × Str)) : Prop where
  keys : kvs.map (·.1) = sortU (signed k true ++ signed k false)
  nd : (kvs.map (·.2)).Nodup
  w : ∀ p ∈ kvs, isWordS p.2 = true
theorem Names.ndk {k : Kd} {kvs : List (Str × Str)} (h : Names k kvs) : (kvs.map (·.1)).Nodup := by rw [h.keys]; exact sortU_nodup _
theorem Names.mem {k : Kd} {kvs : List (Str × Str)} (h : Names k kvs) {z : Str} : z ∈ kvs.map (·.1) ↔ z ∈ places k := by rw [h.keys, atoms_places, sortU_mem]
theorem Names.good {k : Kd} {kvs : List (Str × Str)} (h : Names k kvs) (g : Good k) : Good (ren (mapS kvs) k) := g.ren fun y hy => mapS_word h.w (g.w y hy)
theorem swap_keys (kvs : List (Str × Str)) : (swapP kvs).map (·.1) = kvs.map (·.2) := by unfold swapP; rw [List.map_map]; rfl
theorem swap_vals (kvs : List (Str × Str)) : (swapP kvs).map (·.2) = kvs.map (·.1) := by unfold swapP; rw [List.map_map]; rfl
theorem map_keys {kvs : List (Str × Str)} (h : (kvs.map (·.1)).Nodup) : (kvs.map (·.1)).map (mapS kvs) = kvs.map (·.2) := by
  rw [List.map_map]
  exact List.map_congr_left fun p hp => mapS_mem h hp
theorem nodup_len_le {α : Type} [DecidableEq α] : ∀ {xs ys : List α}, xs.Nodup → (∀ x ∈ xs, x ∈ ys) → xs.length ≤ ys.length
  | [], _, _, _ => Nat.zero_le _
  | x :: xs, ys, hn, h => by
    rw [List.nodup_cons] at hn
    have hx := h x List.mem_cons_self
    have h2 : ∀ y ∈ xs, y ∈ ys.erase x := fun y hy => by
      have ne : y ≠ x := fun q => hn.1 (by rw [← q]; exact hy)
      exact (List.mem_erase_of_ne ne).mpr (h y (List.mem_cons_of_mem _ hy))
    have ih := nodup_len_le hn.2 h2
    have e := List.length_erase_of_mem hx
    have pos : 0 < ys.length := List.length_pos_of_mem hx
    rw [List.length_cons]
    omega
/-- the atoms behind the change are the new words -/
theorem Names.new {k : Kd} {kvs : List (Str × Str)} (h : Names k kvs) : (∀ z ∈ sortU (signed (ren (mapS kvs) k) true ++ signed (ren (mapS kvs) k) false), z ∈ kvs.map (·.2)) ∧ kvs.length = (sortU (signed (ren (mapS kvs) k) true ++ signed (ren (mapS kvs) k) false)).length := by
  have hm : ∀ z, z ∈ sortU (signed (ren (mapS kvs) k) true ++ signed (ren (mapS kvs) k) false) ↔ z ∈ kvs.map (·.2) := fun z => by
    rw [atoms_places, sortU_mem, places_ren, ← map_keys h.ndk, List.mem_map, List.mem_map]
    constructor
    · rintro ⟨x, hx, rfl⟩
      exact ⟨x, h.mem.mpr hx, rfl⟩
    · rintro ⟨x, hx, rfl⟩
      exact ⟨x, h.mem.mp hx, rfl⟩
  refine ⟨fun z hz => (hm z).mp hz, ?_⟩
  have h1 := nodup_len_le (sortU_nodup (signed (ren (mapS kvs) k) true ++ signed (ren (mapS kvs) k) false)) fun z hz => (hm z).mp hz
  have h2 := nodup_len_le h.nd fun z hz => (hm z).mpr hz
  rw [List.length_map] at h1 h2
  omega
theorem dict_back (kvs : List (Str × Str)) (h : (kvs.map (·.1)).Nodup) : pairsD ((kvs.map (·.1)).map fun z => D.tup [.str (mapS kvs z), .str z]) = some (dctS (swapP kvs)) := by
  have e : ((kvs.map (·.1)).map fun z => D.tup [.str (mapS kvs z), .str z]) = List.zipWith (fun z b => D.tup [.str z, .str b]) (kvs.map (·.2)) (kvs.map (·.1)) := by
    have key : ∀ l : List (Str × Str), (∀ p ∈ l, mapS kvs p.1 = p.2) → ((l.map (·.1)).map fun z => D.tup [.str (mapS kvs z), .str z]) = List.zipWith (fun z b => D.tup [.str z, .str b]) (l.map (·.2)) (l.map (·.1)) := by
      intro l
      induction l with
      | nil => exact fun _ => rfl
      | cons p l ih =>
        intro hl
        rw [List.map_cons, List.map_cons, List.map_cons, List.zipWith_cons_cons, ih fun q hq => hl q (List.mem_cons_of_mem _ hq), hl p List.mem_cons_self]
    exact key kvs fun p hp => mapS_mem h hp
  rw [e, pairs_zip]
  congr 1
  congr 1
  unfold swapP
  induction kvs with
  | nil => rfl
  | cons p l ih =>
    rw [List.map_cons, List.map_cons, List.zip_cons_cons, List.map_cons]
    rw [List.map_cons, List.nodup_cons] at h
    congr 1
    refine ih h.2 ?_
    clear ih e
    have key : ∀ l' : List (Str × Str), (∀ p ∈ l', mapS l p.1 = p.2) → ((l'.map (·.1)).map fun z => D.tup [.str (mapS l z), .str z]) = List.zipWith (fun z b => D.tup [.str z, .str b]) (l'.map (·.2)) (l'.map (·.1)) := by
      intro l'
      induction l' with
      | nil => exact fun _ => rfl
      | cons p l' ih =>
        intro hl
        rw [List.map_cons, List.map_cons, List.map_cons, List.zipWith_cons_cons, ih fun q hq => hl q (List.mem_cons_of_mem _ hq), hl p List.mem_cons_self]
    exact key l fun p hp => mapS_mem h.2 hp
/-! ### sizes -/
theorem flat1 {k : Kd} (h : (places k).length ≤ 1) : k.as = [] ∧ ord k = 0 := by
  cases k with
  | mk as a =>
    rw [places, List.length_append] at h
    have e : [a].length = 1 := rfl
    have e2 : (placesL as).length = 0 := by omega
    have e3 := length_placesL as
    have e4 : as = [] := List.length_eq_zero_iff.mp (by omega)
    subst e4
    exact ⟨rfl, by rw [ord, ordL]⟩
theorem good_put {z : Str} {j k : Kd} (hj : Good j) (hk : Good k) (h1 : (places k).length * (places j).length ≤ 15) (h2 : ord k + ord j ≤ 4) : Good (put z j k) :=
  ⟨put_words z j hj.w k hk.w, Nat.le_trans (put_len z j k) h1, Nat.le_trans (put_ord z j k) h2⟩
theorem put_len_le {z : Str} {j k : Kd} {m n : Nat} (h1 : (places k).length ≤ m) (h2 : (places j).length ≤ n) : (places (put z j k)).length ≤ m * n := Nat.le_trans (put_len z j k) (Nat.mul_le_mul h1 h2)
end KP
namespace KP
open PySem L2 FP
variable [FP.Tabl]
theorem good_putAll1 : ∀ (kvs : List (Str × Str)) (k : Kd), Good k → (∀ p ∈ kvs, isWordS p.2 = true) → Good (putAll1 k kvs)
  | [], _, g, _ => g
  | p :: r, k, g, h => by
    rw [putAll1]
    refine good_putAll1 r _ ?_ fun q hq => h q (List.mem_cons_of_mem _ hq)
    rw [put_leaf]
    refine g.ren fun z hz => ?_
    split
    · exact h p List.mem_cons_self
    · exact g.w z hz
theorem zip_leaves {kvs : List (Str × Str)} (h : (kvs.map (·.1)).Nodup) : zipD ((kvs.map (·.1)).map .str) ((kvs.map (·.1)).map fun z => typeD (.mk [] (mapS kvs z))) = kvs.map fun p => D.tup [.str p.1, typeD (.mk [] p.2)] := by
  have key : ∀ l : List (Str × Str), (∀ p ∈ l, mapS kvs p.1 = p.2) → zipD ((l.map (·.1)).map .str) ((l.map (·.1)).map fun z => typeD (.mk [] (mapS kvs z))) = l.map fun p => D.tup [.str p.1, typeD (.mk [] p.2)] := by
    intro l
    induction l with
    | nil => exact fun _ => rfl
    | cons p l ih =>
      intro hl
      have e := ih fun q hq => hl q (List.mem_cons_of_mem _ hq)
      unfold zipD at e ⊢
      rw [List.map_cons, List.map_cons, List.map_cons, List.map_cons, List.zipWith_cons_cons, e, hl p List.mem_cons_self]
      rfl
  exact key kvs fun p hp => mapS_mem h hp
theorem filter_strs (zs : List Str) (p : Str → Bool) : zs.filterMap (fun z => if p z = true then some (D.str z) else none) = (zs.filter p).map .str := by
  induction zs with
  | nil => rfl
  | cons z zs ih =>
    rw [List.filterMap_cons, List.filter_cons]
    cases h : p z with
    | true => simp [ih]
    | false => simp [ih]
end KP

namespace K06
open PySem L2 FP
variable [FP.Tabl]

def topS (i : Nat) : Stmt := PySem.Challenge.pw_fromparts_k06_whole_atoms_exchanged.main.body.getD i (.Pass ⟨0, 0, 0, 0⟩)
abbrev s_is_integer : Stmt := topS 4
abbrev s_is_within : Stmt := topS 5
abbrev s_is_word : Stmt := topS 6
abbrev s_is_renaming : Stmt := topS 7
abbrev s_signs_of : Stmt := topS 19
abbrev s_KindReader___init__ : Stmt := inClass (topS 20) 0
abbrev s_KindReader_take : Stmt := inClass (topS 20) 1
abbrev s_KindReader_take_end : Stmt := inClass (topS 20) 2
abbrev s_KindReader_result : Stmt := inClass (topS 20) 3
abbrev s_shape_of : Stmt := topS 21
abbrev s_kind_in : Stmt := topS 22
abbrev s_order_of : Stmt := topS 23
abbrev s_input_text : Stmt := topS 24
abbrev s_Type___init__ : Stmt := inClass (topS 25) 0
abbrev s_Type_read : Stmt := inClass (topS 25) 1
abbrev s_Type_plain : Stmt := inClass (topS 25) 2
abbrev s_Type_inputs : Stmt := inClass (topS 25) 3
abbrev s_Type_atom : Stmt := inClass (topS 25) 4
abbrev s_Type_text : Stmt := inClass (topS 25) 5
abbrev s_Type_order : Stmt := inClass (topS 25) 6
abbrev s_Type_atoms : Stmt := inClass (topS 25) 7
abbrev s_Type_parts : Stmt := inClass (topS 25) 8
abbrev s_Type_positive : Stmt := inClass (topS 25) 9
abbrev s_Type_negative : Stmt := inClass (topS 25) 10
abbrev s_Type_renamed : Stmt := inClass (topS 25) 11
abbrev s_Type_put : Stmt := inClass (topS 25) 12
abbrev s_Type___rshift__ : Stmt := inClass (topS 25) 13
abbrev s_Type___mod__ : Stmt := inClass (topS 25) 14
abbrev s_Type___getitem__ : Stmt := inClass (topS 25) 15
abbrev s_Type___len__ : Stmt := inClass (topS 25) 16
abbrev s_Type___iter__ : Stmt := inClass (topS 25) 17
abbrev s_Type___contains__ : Stmt := inClass (topS 25) 18
abbrev s_Type___eq__ : Stmt := inClass (topS 25) 19
abbrev s_Type___str__ : Stmt := inClass (topS 25) 20
abbrev s_type_of_text : Stmt := topS 26
abbrev s_parts_list : Stmt := topS 27
abbrev s_signed_atoms : Stmt := topS 28
abbrev s_with_atoms_of : Stmt := topS 29
abbrev s_with_type_for : Stmt := topS 30
abbrev s__law_dice : Stmt := topS 32
abbrev s__law_roll : Stmt := topS 33
abbrev s__law_pick : Stmt := topS 34
abbrev s__law_some : Stmt := topS 35
abbrev s__law_atoms_of : Stmt := topS 36
abbrev s__law_kind : Stmt := topS 37
abbrev s__law_made_kind : Stmt := topS 38
abbrev s__law_drawn : Stmt := topS 39
abbrev s__law_right : Stmt := topS 40
abbrev s_law : Stmt := topS 41
theorem sc_is_integer : FnScope ["value"] ["value"] (defScope s_is_integer) := ⟨rfl, rfl, rfl, by decide +kernel, rfl, by decide +kernel, by decide +kernel⟩
theorem sc_is_within : FnScope ["value", "least", "most"] ["value", "least", "most"] (defScope s_is_within) := ⟨rfl, rfl, rfl, by decide +kernel, rfl, by decide +kernel, by decide +kernel⟩
theorem sc_is_word : FnScope ["value", "sign"] ["value"] (defScope s_is_word) := ⟨rfl, rfl, rfl, by decide +kernel, rfl, by decide +kernel, by decide +kernel⟩
theorem sc_is_renaming : FnScope ["value", "words", "word"] ["value", "words"] (defScope s_is_renaming) := ⟨rfl, rfl, rfl, by decide +kernel, rfl, by decide +kernel, by decide +kernel⟩
theorem sc_signs_of : FnScope ["text", "found", "at", "size"] ["text"] (defScope s_signs_of) := ⟨rfl, rfl, rfl, by decide +kernel, rfl, by decide +kernel, by decide +kernel⟩
theorem sc_KindReader___init__ : FnScope ["self"] ["self"] (defScope s_KindReader___init__) := ⟨rfl, rfl, rfl, by decide +kernel, rfl, by decide +kernel, by decide +kernel⟩
theorem sc_KindReader_take : FnScope ["self", "sign", "can_stand"] ["self", "sign"] (defScope s_KindReader_take) := ⟨rfl, rfl, rfl, by decide +kernel, rfl, by decide +kernel, by decide +kernel⟩
theorem sc_KindReader_take_end : FnScope ["self", "sign", "row"] ["self", "sign"] (defScope s_KindReader_take_end) := ⟨rfl, rfl, rfl, by decide +kernel, rfl, by decide +kernel, by decide +kernel⟩
theorem sc_KindReader_result : FnScope ["self"] ["self"] (defScope s_KindReader_result) := ⟨rfl, rfl, rfl, by decide +kernel, rfl, by decide +kernel, by decide +kernel⟩
theorem sc_shape_of : FnScope ["text", "signs", "reader", "sign"] ["text"] (defScope s_shape_of) := ⟨rfl, rfl, rfl, by decide +kernel, rfl, by decide +kernel, by decide +kernel⟩
theorem sc_kind_in : FnScope ["shape", "one"] ["shape"] (defScope s_kind_in) := ⟨rfl, rfl, rfl, by decide +kernel, rfl, by decide +kernel, by decide +kernel⟩
theorem sc_order_of : FnScope ["inputs", "one"] ["inputs"] (defScope s_order_of) := ⟨rfl, rfl, rfl, by decide +kernel, rfl, by decide +kernel, by decide +kernel⟩
theorem sc_input_text : FnScope ["wanted"] ["wanted"] (defScope s_input_text) := ⟨rfl, rfl, rfl, by decide +kernel, rfl, by decide +kernel, by decide +kernel⟩
theorem sc_Type___init__ : FnScope ["self", "inputs", "atom", "one", "place"] ["self", "inputs", "atom"] (defScope s_Type___init__) := ⟨rfl, rfl, rfl, by decide +kernel, rfl, by decide +kernel, by decide +kernel⟩
theorem sc_Type_read : FnScope ["cls", "text", "found"] ["cls", "text"] (defScope s_Type_read) := ⟨rfl, rfl, rfl, by decide +kernel, rfl, by decide +kernel, by decide +kernel⟩
theorem sc_Type_plain : FnScope ["cls", "atom"] ["cls", "atom"] (defScope s_Type_plain) := ⟨rfl, rfl, rfl, by decide +kernel, rfl, by decide +kernel, by decide +kernel⟩
theorem sc_Type_inputs : FnScope ["self"] ["self"] (defScope s_Type_inputs) := ⟨rfl, rfl, rfl, by decide +kernel, rfl, by decide +kernel, by decide +kernel⟩
theorem sc_Type_atom : FnScope ["self"] ["self"] (defScope s_Type_atom) := ⟨rfl, rfl, rfl, by decide +kernel, rfl, by decide +kernel, by decide +kernel⟩
theorem sc_Type_text : FnScope ["self"] ["self"] (defScope s_Type_text) := ⟨rfl, rfl, rfl, by decide +kernel, rfl, by decide +kernel, by decide +kernel⟩
theorem sc_Type_order : FnScope ["self"] ["self"] (defScope s_Type_order) := ⟨rfl, rfl, rfl, by decide +kernel, rfl, by decide +kernel, by decide +kernel⟩
theorem sc_Type_atoms : FnScope ["self"] ["self"] (defScope s_Type_atoms) := ⟨rfl, rfl, rfl, by decide +kernel, rfl, by decide +kernel, by decide +kernel⟩
theorem sc_Type_parts : FnScope ["self", "found", "one", "text"] ["self"] (defScope s_Type_parts) := ⟨rfl, rfl, rfl, by decide +kernel, rfl, by decide +kernel, by decide +kernel⟩
theorem sc_Type_positive : FnScope ["self"] ["self"] (defScope s_Type_positive) := ⟨rfl, rfl, rfl, by decide +kernel, rfl, by decide +kernel, by decide +kernel⟩
theorem sc_Type_negative : FnScope ["self"] ["self"] (defScope s_Type_negative) := ⟨rfl, rfl, rfl, by decide +kernel, rfl, by decide +kernel, by decide +kernel⟩
theorem sc_Type_renamed : FnScope ["self", "names"] ["self", "names"] (defScope s_Type_renamed) := ⟨rfl, rfl, rfl, by decide +kernel, rfl, by decide +kernel, by decide +kernel⟩
theorem sc_Type_put : FnScope ["self", "atom", "other"] ["self", "atom", "other"] (defScope s_Type_put) := ⟨rfl, rfl, rfl, by decide +kernel, rfl, by decide +kernel, by decide +kernel⟩
theorem sc_Type___rshift__ : FnScope ["self", "other"] ["self", "other"] (defScope s_Type___rshift__) := ⟨rfl, rfl, rfl, by decide +kernel, rfl, by decide +kernel, by decide +kernel⟩
theorem sc_Type___mod__ : FnScope ["self", "count"] ["self", "count"] (defScope s_Type___mod__) := ⟨rfl, rfl, rfl, by decide +kernel, rfl, by decide +kernel, by decide +kernel⟩
theorem sc_Type___getitem__ : FnScope ["self", "index"] ["self", "index"] (defScope s_Type___getitem__) := ⟨rfl, rfl, rfl, by decide +kernel, rfl, by decide +kernel, by decide +kernel⟩
theorem sc_Type___len__ : FnScope ["self"] ["self"] (defScope s_Type___len__) := ⟨rfl, rfl, rfl, by decide +kernel, rfl, by decide +kernel, by decide +kernel⟩
theorem sc_Type___iter__ : FnScope ["self"] ["self"] (defScope s_Type___iter__) := ⟨rfl, rfl, rfl, by decide +kernel, rfl, by decide +kernel, by decide +kernel⟩
theorem sc_Type___contains__ : FnScope ["self", "value", "one"] ["self", "value"] (defScope s_Type___contains__) := ⟨rfl, rfl, rfl, by decide +kernel, rfl, by decide +kernel, by decide +kernel⟩
theorem sc_Type___eq__ : FnScope ["self", "other"] ["self", "other"] (defScope s_Type___eq__) := ⟨rfl, rfl, rfl, by decide +kernel, rfl, by decide +kernel, by decide +kernel⟩
theorem sc_Type___str__ : FnScope ["self"] ["self"] (defScope s_Type___str__) := ⟨rfl, rfl, rfl, by decide +kernel, rfl, by decide +kernel, by decide +kernel⟩
theorem sc_type_of_text : FnScope ["text", "shape"] ["text"] (defScope s_type_of_text) := ⟨rfl, rfl, rfl, by decide +kernel, rfl, by decide +kernel, by decide +kernel⟩
theorem sc_parts_list : FnScope ["wanted", "found", "one"] ["wanted"] (defScope s_parts_list) := ⟨rfl, rfl, rfl, by decide +kernel, rfl, by decide +kernel, by decide +kernel⟩
theorem sc_signed_atoms : FnScope ["wanted", "is_positive", "found", "one"] ["wanted", "is_positive"] (defScope s_signed_atoms) := ⟨rfl, rfl, rfl, by decide +kernel, rfl, by decide +kernel, by decide +kernel⟩
theorem sc_with_atoms_of : FnScope ["wanted", "names", "args", "one"] ["wanted", "names"] (defScope s_with_atoms_of) := ⟨rfl, rfl, rfl, by decide +kernel, rfl, by decide +kernel, by decide +kernel⟩
theorem sc_with_type_for : FnScope ["wanted", "atom", "other", "args", "one"] ["wanted", "atom", "other"] (defScope s_with_type_for) := ⟨rfl, rfl, rfl, by decide +kernel, rfl, by decide +kernel, by decide +kernel⟩
theorem sc__law_dice : FnScope ["_law_script", "_law_spot", "_law_cell", "_law_great", "_law_blend"] ["_law_script", "_law_spot"] (defScope s__law_dice) := ⟨rfl, rfl, rfl, by decide +kernel, rfl, by decide +kernel, by decide +kernel⟩
theorem sc__law_roll : FnScope ["_law_dice_here", "_law_total", "_law_one", "_law_two", "_law_found"] ["_law_dice_here", "_law_total"] (defScope s__law_roll) := ⟨rfl, rfl, rfl, by decide +kernel, rfl, by decide +kernel, by decide +kernel⟩
theorem sc__law_pick : FnScope ["_law_dice_here", "_law_items"] ["_law_dice_here", "_law_items"] (defScope s__law_pick) := ⟨rfl, rfl, rfl, by decide +kernel, rfl, by decide +kernel, by decide +kernel⟩
theorem sc__law_some : FnScope ["_law_dice_here", "_law_items", "_law_size", "_law_left", "_law_turn"] ["_law_dice_here", "_law_items", "_law_size"] (defScope s__law_some) := ⟨rfl, rfl, rfl, by decide +kernel, rfl, by decide +kernel, by decide +kernel⟩
theorem sc__law_atoms_of : FnScope ["_law_kind_here", "_law_found", "_law_one"] ["_law_kind_here"] (defScope s__law_atoms_of) := ⟨rfl, rfl, rfl, by decide +kernel, rfl, by decide +kernel, by decide +kernel⟩
theorem sc__law_kind : FnScope ["_law_dice_here", "_law_atoms", "_law_order", "_law_most", "_law_inputs", "_law_left", "_law_turn", "_law_size", "_law_one"] ["_law_dice_here", "_law_atoms", "_law_order", "_law_most"] (defScope s__law_kind) := ⟨rfl, rfl, rfl, by decide +kernel, rfl, by decide +kernel, by decide +kernel⟩
theorem sc__law_made_kind : FnScope ["_law_kind_here", "_law_one"] ["_law_kind_here"] (defScope s__law_made_kind) := ⟨rfl, rfl, rfl, by decide +kernel, rfl, by decide +kernel, by decide +kernel⟩
theorem sc__law_drawn : FnScope ["_law_dice_here", "_law_most"] ["_law_dice_here", "_law_most"] (defScope s__law_drawn) := ⟨rfl, rfl, rfl, by decide +kernel, rfl, by decide +kernel, by decide +kernel⟩
theorem sc__law_right : FnScope ["_law_dice_here", "_law_one", "_law_other", "_law_third", "_law_fresh", "_law_names", "_law_back", "_law_plain", "_law_turned", "_law_word", "_law_wanted"] ["_law_dice_here"] (defScope s__law_right) := ⟨rfl, rfl, rfl, by decide +kernel, rfl, by decide +kernel, by decide +kernel⟩
theorem sc_law : FnScope ["_law_script", "_law_spot", "_law_dice_here", "_law_turn"] ["_law_script"] (defScope s_law) := ⟨rfl, rfl, rfl, by decide +kernel, rfl, by decide +kernel, by decide +kernel⟩
structure Ads where
  a_KindReader : Addr
  a_Type : Addr
  ax_InvalidType : Addr
  ax_InvalidWord : Addr
structure All (mg : Gm) (Z : Ads) : Prop where
  n_abs : mg.mg "abs" = none
  n_all : mg.mg "all" = none
  n_bool : mg.mg "bool" = none
  n_dict : mg.mg "dict" = none
  n_int : mg.mg "int" = none
  n_isinstance : mg.mg "isinstance" = none
  n_iter : mg.mg "iter" = none
  n_len : mg.mg "len" = none
  n_list : mg.mg "list" = none
  n_max : mg.mg "max" = none
  n_min : mg.mg "min" = none
  n_range : mg.mg "range" = none
  n_set : mg.mg "set" = none
  n_sorted : mg.mg "sorted" = none
  n_str : mg.mg "str" = none
  n_tuple : mg.mg "tuple" = none
  n_zip : mg.mg "zip" = none
  c_ARROW : ∃ tk, mg.mg "ARROW" = some (.str " -> " tk)
  c_LETTERS : ∃ tk, mg.mg "LETTERS" = some (.str "abcdefghijklmnopqrstuvwxyz" tk)
  c_LONGEST : ∃ tk, mg.mg "LONGEST" = some (.int 1000000000000000000000000000000000000000000000000000000000000 tk)
  c_MAX_LETTERS : ∃ tk, mg.mg "MAX_LETTERS" = some (.int 8 tk)
  c_MAX_ORDER : ∃ tk, mg.mg "MAX_ORDER" = some (.int 4 tk)
  c_MAX_PLACES : ∃ tk, mg.mg "MAX_PLACES" = some (.int 15 tk)
  kc_KindReader : ClsF mg "KindReader" Z.a_KindReader
  na_KindReader_of_rows : NoAttr mg.K Z.a_KindReader "of_rows"
  na_KindReader_of_wants : NoAttr mg.K Z.a_KindReader "of_wants"
  kc_Type : ClsF mg "Type" Z.a_Type
  na_Type_own_args : NoAttr mg.K Z.a_Type "own_args"
  na_Type_own_atom : NoAttr mg.K Z.a_Type "own_atom"
  na_Type_own_places : NoAttr mg.K Z.a_Type "own_places"
  na_Type_own_order : NoAttr mg.K Z.a_Type "own_order"
  na_Type_own_text : NoAttr mg.K Z.a_Type "own_text"
  isi_Type : IsiF mg Z.a_Type ["Type"] (fun _ => true)
  eq_Type : EqF mg Z.a_Type ["Type"]
  ne_Type : PySem.W.findIn mg.K (.ref Z.a_Type) "__ne__" = some (some (.builtin "object.__ne__"))
  d_is_integer : ∃ fa fd, mg.mg "is_integer" = some (.ref fa) ∧ Fun mg.K "is_integer" "is_integer" s_is_integer fa fd
  d_is_within : ∃ fa fd, mg.mg "is_within" = some (.ref fa) ∧ Fun mg.K "is_within" "is_within" s_is_within fa fd
  d_is_word : ∃ fa fd, mg.mg "is_word" = some (.ref fa) ∧ Fun mg.K "is_word" "is_word" s_is_word fa fd
  d_is_renaming : ∃ fa fd, mg.mg "is_renaming" = some (.ref fa) ∧ Fun mg.K "is_renaming" "is_renaming" s_is_renaming fa fd
  d_signs_of : ∃ fa fd, mg.mg "signs_of" = some (.ref fa) ∧ Fun mg.K "signs_of" "signs_of" s_signs_of fa fd
  d_KindReader___init__ : ∃ fa fd, Mk mg.K Z.a_KindReader fa ∧ Fun mg.K "__init__" "KindReader.__init__" s_KindReader___init__ fa fd
  d_KindReader_take : ∃ fa fd, Meth mg.K Z.a_KindReader "take" fa ∧ Fun mg.K "take" "KindReader.take" s_KindReader_take fa fd
  d_KindReader_take_end : ∃ fa fd, Meth mg.K Z.a_KindReader "take_end" fa ∧ Fun mg.K "take_end" "KindReader.take_end" s_KindReader_take_end fa fd
  d_KindReader_result : ∃ fa fd, Meth mg.K Z.a_KindReader "result" fa ∧ Fun mg.K "result" "KindReader.result" s_KindReader_result fa fd
  d_shape_of : ∃ fa fd, mg.mg "shape_of" = some (.ref fa) ∧ Fun mg.K "shape_of" "shape_of" s_shape_of fa fd
  d_kind_in : ∃ fa fd, mg.mg "kind_in" = some (.ref fa) ∧ Fun mg.K "kind_in" "kind_in" s_kind_in fa fd
  d_order_of : ∃ fa fd, mg.mg "order_of" = some (.ref fa) ∧ Fun mg.K "order_of" "order_of" s_order_of fa fd
  d_input_text : ∃ fa fd, mg.mg "input_text" = some (.ref fa) ∧ Fun mg.K "input_text" "input_text" s_input_text fa fd
  d_Type___init__ : ∃ fa fd, Mk mg.K Z.a_Type fa ∧ Fun mg.K "__init__" "Type.__init__" s_Type___init__ fa fd
  d_Type_read : ∃ mc p fa fd, ClX.CRead mg.K Z.a_Type mc ∧ ClX.CMet mg.K Z.a_Type mc "read" p fa ∧ Fun mg.K "read" "Type.read" s_Type_read fa fd
  d_Type_plain : ∃ mc p fa fd, ClX.CRead mg.K Z.a_Type mc ∧ ClX.CMet mg.K Z.a_Type mc "plain" p fa ∧ Fun mg.K "plain" "Type.plain" s_Type_plain fa fd
  d_Type_inputs : ∃ p fa fd, PropOf mg.K Z.a_Type "inputs" p fa ∧ Fun mg.K "inputs" "Type.inputs" s_Type_inputs fa fd
  d_Type_atom : ∃ p fa fd, PropOf mg.K Z.a_Type "atom" p fa ∧ Fun mg.K "atom" "Type.atom" s_Type_atom fa fd
  d_Type_text : ∃ p fa fd, PropOf mg.K Z.a_Type "text" p fa ∧ Fun mg.K "text" "Type.text" s_Type_text fa fd
  d_Type_order : ∃ p fa fd, PropOf mg.K Z.a_Type "order" p fa ∧ Fun mg.K "order" "Type.order" s_Type_order fa fd
  d_Type_atoms : ∃ p fa fd, PropOf mg.K Z.a_Type "atoms" p fa ∧ Fun mg.K "atoms" "Type.atoms" s_Type_atoms fa fd
  d_Type_parts : ∃ p fa fd, PropOf mg.K Z.a_Type "parts" p fa ∧ Fun mg.K "parts" "Type.parts" s_Type_parts fa fd
  d_Type_positive : ∃ p fa fd, PropOf mg.K Z.a_Type "positive" p fa ∧ Fun mg.K "positive" "Type.positive" s_Type_positive fa fd
  d_Type_negative : ∃ p fa fd, PropOf mg.K Z.a_Type "negative" p fa ∧ Fun mg.K "negative" "Type.negative" s_Type_negative fa fd
  d_Type_renamed : ∃ fa fd, Meth mg.K Z.a_Type "renamed" fa ∧ Fun mg.K "renamed" "Type.renamed" s_Type_renamed fa fd
  d_Type_put : ∃ fa fd, Meth mg.K Z.a_Type "put" fa ∧ Fun mg.K "put" "Type.put" s_Type_put fa fd
  d_Type___rshift__ : ∃ fa fd, (Meth mg.K Z.a_Type "__rshift__" fa ∧ PySem.W.fnIn mg.K fa = true) ∧ Fun mg.K "__rshift__" "Type.__rshift__" s_Type___rshift__ fa fd
  d_Type___mod__ : ∃ fa fd, (Meth mg.K Z.a_Type "__mod__" fa ∧ PySem.W.fnIn mg.K fa = true) ∧ Fun mg.K "__mod__" "Type.__mod__" s_Type___mod__ fa fd
  d_Type___getitem__ : ∃ fa fd, (Meth mg.K Z.a_Type "__getitem__" fa ∧ PySem.W.fnIn mg.K fa = true) ∧ Fun mg.K "__getitem__" "Type.__getitem__" s_Type___getitem__ fa fd
  d_Type___len__ : ∃ fa fd, (Meth mg.K Z.a_Type "__len__" fa ∧ PySem.W.fnIn mg.K fa = true) ∧ Fun mg.K "__len__" "Type.__len__" s_Type___len__ fa fd
  d_Type___iter__ : ∃ fa fd, PySem.W.findIn mg.K (.ref Z.a_Type) "__iter__" = some (some (.ref fa)) ∧ PySem.W.isFn mg.K (.ref fa) = true ∧ Fun mg.K "__iter__" "Type.__iter__" s_Type___iter__ fa fd
  d_Type___contains__ : ∃ fa fd, (Meth mg.K Z.a_Type "__contains__" fa ∧ PySem.W.fnIn mg.K fa = true) ∧ Fun mg.K "__contains__" "Type.__contains__" s_Type___contains__ fa fd
  d_Type___eq__ : ∃ fa fd, (Meth mg.K Z.a_Type "__eq__" fa ∧ PySem.W.fnIn mg.K fa = true) ∧ Fun mg.K "__eq__" "Type.__eq__" s_Type___eq__ fa fd
  d_Type___str__ : ∃ fa fd, (Meth mg.K Z.a_Type "__str__" fa ∧ PySem.W.fnIn mg.K fa = true) ∧ Fun mg.K "__str__" "Type.__str__" s_Type___str__ fa fd
  d_type_of_text : ∃ fa fd, mg.mg "type_of_text" = some (.ref fa) ∧ Fun mg.K "type_of_text" "type_of_text" s_type_of_text fa fd
  d_parts_list : ∃ fa fd, mg.mg "parts_list" = some (.ref fa) ∧ Fun mg.K "parts_list" "parts_list" s_parts_list fa fd
  d_signed_atoms : ∃ fa fd, mg.mg "signed_atoms" = some (.ref fa) ∧ Fun mg.K "signed_atoms" "signed_atoms" s_signed_atoms fa fd
  d_with_atoms_of : ∃ fa fd, mg.mg "with_atoms_of" = some (.ref fa) ∧ Fun mg.K "with_atoms_of" "with_atoms_of" s_with_atoms_of fa fd
  d_with_type_for : ∃ fa fd, mg.mg "with_type_for" = some (.ref fa) ∧ Fun mg.K "with_type_for" "with_type_for" s_with_type_for fa fd
  d__law_dice : ∃ fa fd, mg.mg "_law_dice" = some (.ref fa) ∧ Fun mg.K "_law_dice" "_law_dice" s__law_dice fa fd
  d__law_roll : ∃ fa fd, mg.mg "_law_roll" = some (.ref fa) ∧ Fun mg.K "_law_roll" "_law_roll" s__law_roll fa fd
  d__law_pick : ∃ fa fd, mg.mg "_law_pick" = some (.ref fa) ∧ Fun mg.K "_law_pick" "_law_pick" s__law_pick fa fd
  d__law_some : ∃ fa fd, mg.mg "_law_some" = some (.ref fa) ∧ Fun mg.K "_law_some" "_law_some" s__law_some fa fd
  d__law_atoms_of : ∃ fa fd, mg.mg "_law_atoms_of" = some (.ref fa) ∧ Fun mg.K "_law_atoms_of" "_law_atoms_of" s__law_atoms_of fa fd
  d__law_kind : ∃ fa fd, mg.mg "_law_kind" = some (.ref fa) ∧ Fun mg.K "_law_kind" "_law_kind" s__law_kind fa fd
  d__law_made_kind : ∃ fa fd, mg.mg "_law_made_kind" = some (.ref fa) ∧ Fun mg.K "_law_made_kind" "_law_made_kind" s__law_made_kind fa fd
  d__law_drawn : ∃ fa fd, mg.mg "_law_drawn" = some (.ref fa) ∧ Fun mg.K "_law_drawn" "_law_drawn" s__law_drawn fa fd
  d__law_right : ∃ fa fd, mg.mg "_law_right" = some (.ref fa) ∧ Fun mg.K "_law_right" "_law_right" s__law_right fa fd
  d_law : ∃ fa fd, mg.mg "law" = some (.ref fa) ∧ Fun mg.K "law" "law" s_law fa fd
  ex_InvalidType : ExcF mg "InvalidType" Z.ax_InvalidType veBm "ValueError.__new__"
  cat_InvalidType : CatF mg (.ref Z.ax_InvalidType) ["InvalidType"] (fun _ => true)
  ex_InvalidWord : ExcF mg "InvalidWord" Z.ax_InvalidWord veBm "ValueError.__new__"
  cat_InvalidWord : CatF mg (.ref Z.ax_InvalidWord) ["InvalidWord"] (fun _ => true)
  op_Type_rshift : OpF mg Z.a_Type "rshift" []
  op_Type_mod : OpF mg Z.a_Type "mod" ["int"]
end K06

namespace K06
open PySem L2 FP
variable [FP.Tabl]
open KP

theorem lc_letters (z : Str) {Q : List D → Prop} (h : Q (z.cps.toList.map fun c => .bl (decide (c ∈ letters)))) :
    lcD (fun d k => match inD d (.str "abcdefghijklmnopqrstuvwxyz") with | some b => k (some (.bl b)) | none => False) (signsD z) Q := by
  refine lcD_map (fun d => match inD d (.str "abcdefghijklmnopqrstuvwxyz") with | some b => .bl b | none => .non) _ _ (fun d hd k hk => ?_) ?_
  · obtain ⟨c, _, rfl⟩ := List.mem_map.mp hd
    exact hk
  · unfold signsD
    rw [List.map_map]
    exact h

theorem ok_is_word {P : Program} {w : World} {mg : Gm} {base : Heap} {Z : Ads} (A : All mg Z) : DefOk P w mg base 1 "is_word" 1 f_is_word := by
  refine mkDef (N := ["value", "sign"]) (ps := ["value"]) A.d_is_word sc_is_word (fun _ _ _ _ _ _ us hl => match us, hl with | [_], _ => rfl) fun fa cdv Ar outer s H E hr => ⟨_,
    (dss_one (ds_ret (de_and (de_isi (de_var 0) A.n_isinstance A.n_str FP.boot_str FP.boot_isinstance) (de_and (de_chain ok_le ok_le de_int (de_callB ok_len A.n_len FP.boot_len (da_cons (de_var 0) da_nil)) (de_gint A.c_MAX_LETTERS)) (de_one (de_callB ok_all A.n_all FP.boot_all (da_cons (de_lc (own := [("sign", 1)]) (fun _ => sc_is_word.nd) (di_str (de_var 0)) (fun _ => blkOk_by (by kernel_rfl)) (dg_name (i := 1) (fun _ => sc_is_word.nd)) dts_nil (de_cmp ok_in (de_var 1) (de_gstr A.c_LETTERS))) da_nil))))))),  fun ds Q Ex hl hf => ?_⟩
  match ds, hl, hf with
  | [d], _, ⟨ho, hq⟩ =>
    change (_ : DTS) _ [Sl.d d, Sl.no]
    obtain ⟨n, hn, hk⟩ := isi_str ho
    cases d with
    | str z =>
      simp only [dSeq, dNext, dIfS, dB, dOp, dVar, dC, dCB, dCons, dNil, dSet, dTok, dRet, dRetN, dCall, rdAdd, rdSub, rdMul, rdMod, rdFdiv, rdPow, rdGt, rdLt, rdLe, rdGe, rdIx, rdInt, rdAbs, rdMax, rdMin, rdLen, dRetTok, dSetO, dListO, dLenO, dIRng1, dRetPop, List.getElem?_cons_zero, List.getElem?_cons_succ, List.set_cons_zero, List.set_cons_succ, bit_dec, bit_t, bit_f, bit_not, blc_bl, Option.some.injEq, exists_eq_left', dAndV, dOrV, dNotV, dChain, dIsi, dLc, dIStr, dIList, dITup, dYes, Tg.put, wipeD, rdIn, rdNotIn, rdEq, rdNe, rdAll, dLst, dTup, dAnd, dOr, dNot, dFor, forD, dAsg, dIf, dJoin, rdList, dNewD, rdStr, List.map_cons, List.map_nil, tyName]
      refine ⟨true, kit_ss, Nat.le_trans ho.1 (by decide), fun h1 => ⟨fun h2 => ⟨signs_ok ho, lc_letters z ?_⟩, fun h2 => ?_⟩, fun h1 => ?_⟩
      · refine ⟨_, blsD_fn _ _, ?_⟩
        have e : isWordD (.str z) = (z.cps.toList.map fun c => decide (c ∈ letters)).all id := by
          show (decide (1 ≤ z.length) && decide (z.length ≤ 8) && z.cps.toList.all fun c => decide (c ∈ letters)) = _
          rw [decide_eq_true (show 1 ≤ z.length by omega), decide_eq_true (show z.length ≤ 8 by omega), List.all_map]
          rfl
        rw [← e]
        exact hq
      · have e : isWordD (.str z) = false := by
          show (decide (1 ≤ z.length) && decide (z.length ≤ 8) && z.cps.toList.all fun c => decide (c ∈ letters)) = _
          rw [decide_eq_false (show ¬ z.length ≤ 8 by omega), Bool.and_false, Bool.false_and]
        rw [← e]
        exact hq
      · have e : isWordD (.str z) = false := by
          show (decide (1 ≤ z.length) && decide (z.length ≤ 8) && z.cps.toList.all fun c => decide (c ∈ letters)) = _
          rw [decide_eq_false (show ¬ 1 ≤ z.length by omega), Bool.false_and, Bool.false_and]
        rw [← e]
        exact hq
    | fz _ => exact ho.elim
    | ins _ _ => exact ho.elim
    | cl _ => exact ho.elim
    | fn _ _ => exact ho.elim
    | _ =>
      cases hn
      exact ⟨_, hk, hq⟩

theorem ok_is_integer {P : Program} {w : World} {mg : Gm} {base : Heap} {Z : Ads} (A : All mg Z) : DefOk P w mg base 1 "is_integer" 1 f_is_int := by
  refine mkDef (N := ["value"]) (ps := ["value"]) A.d_is_integer sc_is_integer (fun _ _ _ _ _ _ us hl => match us, hl with | [_], _ => rfl) fun fa cdv Ar outer s H E hr => ⟨_,
    (dss_one (ds_ret (de_and (de_isi (de_var 0) A.n_isinstance A.n_int FP.boot_int FP.boot_isinstance) (de_and (de_not (de_isi (de_var 0) A.n_isinstance A.n_bool FP.boot_bool FP.boot_isinstance)) (de_one (de_chain ok_lt ok_lt (de_neg (de_gint A.c_LONGEST)) (de_var 0) (de_gint A.c_LONGEST))))))),  fun ds Q Ex hl hf => ?_⟩
  match ds, hl, hf with
  | [d], _, ⟨ho, hq⟩ =>
    change (_ : DTS) _ [Sl.d d]
    obtain ⟨n, hn, hi, hb⟩ := isi_ty ho
    cases d with
    | int i =>
      cases hn
      refine ⟨_, hi, _, hb, ?_⟩
      simp only [dSeq, dNext, dIfS, dB, dOp, dVar, dC, dCB, dCons, dNil, dSet, dTok, dRet, dRetN, dCall, rdAdd, rdSub, rdMul, rdMod, rdFdiv, rdPow, rdGt, rdLt, rdLe, rdGe, rdIx, rdInt, rdAbs, rdMax, rdMin, rdLen, dRetTok, dSetO, dListO, dLenO, dIRng1, dRetPop, List.getElem?_cons_zero, List.getElem?_cons_succ, List.set_cons_zero, List.set_cons_succ, bit_dec, bit_t, bit_f, bit_not, blc_bl, Option.some.injEq, exists_eq_left', dAndV, dOrV, dNotV, dChain, dIsi, dLc, dIStr, dIList, dITup, dYes, Tg.put, wipeD, rdIn, rdNotIn, rdEq, rdNe, rdAll, dLst, dTup, dAnd, dOr, dNot, dFor, forD, dAsg, dIf, dJoin, rdList, dNewD, rdStr, List.map_cons, List.map_nil, dNeg, isBlT, isIntT, Bool.not_false]
      have e : isIntD (.int i) = (decide (-(10 ^ 60) < i) && decide (i < 10 ^ 60)) := rfl
      rw [e] at hq
      refine ⟨fun h1 => ?_, fun h1 => ?_⟩
      · rw [decide_eq_true (show -(10 ^ 60) < i from h1), Bool.true_and] at hq
        exact hq
      · rw [decide_eq_false (show ¬ -(10 ^ 60) < i from h1), Bool.false_and] at hq
        exact hq
    | bl b =>
      cases hn
      exact ⟨_, hi, _, hb, hq⟩
    | fz _ => exact ho.elim
    | ins _ _ => exact ho.elim
    | cl _ => exact ho.elim
    | fn _ _ => exact ho.elim
    | _ =>
      cases hn
      exact ⟨_, hi, hq⟩

theorem ok_is_within {P : Program} {w : World} {mg : Gm} {base : Heap} {Z : Ads} (A : All mg Z) (G_is_integer : DefOk P w mg base 1 "is_integer" 1 f_is_int) : DefOk P w mg base 2 "is_within" 3 f_within := by
  refine mkDef (N := ["value", "least", "most"]) (ps := ["value", "least", "most"]) A.d_is_within sc_is_within (fun _ _ _ _ _ _ us hl => match us, hl with | [_, _, _], _ => rfl) fun fa cdv Ar outer s H E hr => ⟨_,
    (dss_one (ds_ret (de_and (de_call G_is_integer (fun _ => hr.mono (by omega)) (fun _ => pas (takes_of rfl rfl rfl rfl)) (da_cons (de_var 0) da_nil)) (de_one (de_chain ok_le ok_le (de_var 1) (de_var 0) (de_var 2)))))),  fun ds Q Ex hl hf => ?_⟩
  match ds, hl, hf with
  | [d, .int a, .int b], _, ⟨ho, hq⟩ =>
    change (_ : DTS) _ [Sl.d d, Sl.d (.int a), Sl.d (.int b)]
    refine ⟨rfl, ho, ?_⟩
    cases d with
    | int i =>
      have e : inRow (.int i) a b = (isIntD (.int i) && (decide (a ≤ i) && decide (i ≤ b))) := rfl
      rw [e] at hq
      cases hi : isIntD (.int i) with
      | false => rw [hi] at hq; exact hq
      | true =>
        rw [hi, Bool.true_and] at hq
        show bit (decide (a ≤ i)) (Q (.bl (decide (i ≤ b)))) (Q (.bl false))
        cases ha : decide (a ≤ i) with
        | false => rw [ha] at hq; exact hq
        | true => rw [ha, Bool.true_and] at hq; exact hq
    | _ => exact hq

theorem ok_order_of {P : Program} {w : World} {mg : Gm} {base : Heap} {Z : Ads} (A : All mg Z) : DefOk P w mg base 1 "order_of" 1 f_order := by
  refine mkDef (N := ["inputs", "one"]) (ps := ["inputs"]) A.d_order_of sc_order_of (fun _ _ _ _ _ _ us hl => match us, hl with | [_], _ => rfl) fun fa cdv Ar outer s H E hr => ⟨_,
    (dss_one (ds_ret (de_if (dt_cmp (ok_neT0 (fun _ => hr.r.units)) (de_var 0) (de_tup da_nil)) (de_op ok_add de_int (de_callB ok_maxL A.n_max FP.boot_max (da_cons (de_lc (own := [("one", 1)]) (fun _ => sc_order_of.nd) (di_tup (de_var 0)) (fun _ => blkOk_by (by kernel_rfl)) (dg_name (i := 1) (fun _ => sc_order_of.nd)) dts_nil (de_fld A.kc_Type A.na_Type_own_order (de_var 1))) da_nil))) de_int))),  fun ds Q Ex hl hf => ?_⟩
  match ds, hl, hf with
  | [.tup _], _, ⟨ks, rfl, hl, hq⟩ =>
    change (_ : DTS) _ [Sl.d (.tup (ks.map typeD)), Sl.no]
    refine ⟨line rfl, ?_⟩
    show bit (!(ks.map typeD).isEmpty) _ _
    cases ks with
    | nil => exact hq
    | cons k0 r =>
      have hs : ((k0 :: r).map typeD).length ≤ sizeLine := by rw [List.length_map]; exact size_small (by omega)
      refine ⟨hs, lc_of typeD (fun k => .int (ord k)) (k0 :: r) _ (fun k _ K hK => ⟨_, rfl, fld (lk_order k) hK⟩) ⟨(k0 :: r).map fun k => (ord k : Int), ?_, ?_, fun m hm hy => ?_⟩⟩
      · have e := intsD_map ((k0 :: r).map fun k => (ord k : Int))
        rw [List.map_map] at e
        exact e
      · simp
      · have e := ordL_max hm hy
        show Q (.int (1 + m))
        rw [e]
        exact hq

theorem ok_input_text {P : Program} {w : World} {mg : Gm} {base : Heap} {Z : Ads} (A : All mg Z) : DefOk P w mg base 1 "input_text" 1 f_intext := by
  refine mkDef (N := ["wanted"]) (ps := ["wanted"]) A.d_input_text sc_input_text (fun _ _ _ _ _ _ us hl => match us, hl with | [_], _ => rfl) fun fa cdv Ar outer s H E hr => ⟨_,
    (dss_one (ds_ret (de_if (dt_cmp (ok_eqT0 (fun _ => hr.r.units)) (de_fld A.kc_Type A.na_Type_own_args (de_var 0)) (de_tup da_nil)) (de_fld A.kc_Type A.na_Type_own_text (de_var 0)) (de_joined (dj_cons de_str (dj_cons (de_fmt (de_fld A.kc_Type A.na_Type_own_text (de_var 0))) (dj_cons de_str dj_nil))))))),  fun ds Q Ex hl hf => ?_⟩
  match ds, hl, hf with
  | [_], _, ⟨k, rfl, hl, hq⟩ =>
    change (_ : DTS) _ [Sl.d (typeD k)]
    refine fld (lk_args k) ?_
    refine ⟨line rfl, ?_⟩
    show bit (k.as.map typeD).isEmpty _ _
    unfold intext at hq
    have em : (k.as.map typeD).isEmpty = k.as.isEmpty := by cases k.as <;> rfl
    rw [em]
    cases he : k.as.isEmpty with
    | true =>
      rw [he] at hq
      exact fld (lk_text k) hq
    | false =>
      rw [he] at hq
      have e1 : ("(" : Str).length = 1 := rfl
      have e2 : (")" : Str).length = 1 := rfl
      refine ⟨?_, fld (lk_text k) ⟨size_small hl, ?_, ?_, ?_⟩⟩
      · rw [app_empty]; decide
      · rw [app_empty, len_app]; exact Nat.le_trans (show _ ≤ 1002 by omega) (by decide)
      · rw [app_empty, len_app, len_app]; exact Nat.le_trans (show _ ≤ 1002 by omega) (by decide)
      · rw [app_empty]; exact hq

theorem ok_Type___init__ {P : Program} {w : World} {mg : Gm} {base : Heap} {Z : Ads} (A : All mg Z) (G_input_text : DefOk P w mg base 1 "input_text" 1 f_intext) (G_is_word : DefOk P w mg base 1 "is_word" 1 f_is_word) (G_order_of : DefOk P w mg base 1 "order_of" 1 f_order) : InitOk P w mg base 2 "Type" Z.a_Type 2 f_initX := by
  refine mkInit (N := ["self", "inputs", "atom", "one", "place"]) (ps := ["self", "inputs", "atom"]) A.kc_Type A.d_Type___init__ sc_Type___init__ rfl (fun _ _ _ _ _ _ us hl => match us, hl with | [_, _, _], _ => rfl) fun fa cdv Ar outer s H E hr => ⟨_,
    (dss_cons (ds_if (dt_w (dw_or (dt_not (dt_val (de_isi (de_var 1) A.n_isinstance A.n_tuple FP.boot_tuple FP.boot_isinstance))) (dw_or1 (dt_not (dt_val (de_callB ok_all A.n_all FP.boot_all (da_cons (de_lc (own := [("one", 3)]) (fun _ => sc_Type___init__.nd) (di_tup (de_var 1)) (fun _ => blkOk_by (by kernel_rfl)) (dg_name (i := 3) (fun _ => sc_Type___init__.nd)) dts_nil (de_isiO (de_var 3) A.n_isinstance A.kc_Type.nm A.isi_Type FP.boot_isinstance)) da_nil)))))))
    (dss_one (ds_raise veB A.ex_InvalidType (fun _ => takes_of rfl rfl rfl rfl)))
    dss_nil)
    (dss_cons (ds_if (dt_not (dt_val (de_call G_is_word (fun _ => hr.mono (by omega)) (fun _ => pas (takes_of rfl rfl rfl rfl)) (da_cons (de_var 2) da_nil))))
    (dss_one (ds_raise veB A.ex_InvalidWord (fun _ => takes_of rfl rfl rfl rfl)))
    dss_nil)
    (dss_cons (ds_setF 0 A.kc_Type A.na_Type_own_args (de_var 1))
    (dss_cons (ds_setF 0 A.kc_Type A.na_Type_own_atom (de_var 2))
    (dss_cons (ds_setF 0 A.kc_Type A.na_Type_own_places (de_tup (da_star (de_lc2 (own := [("one", 3), ("place", 4)]) (vs1 := [4]) (fun _ => sc_Type___init__.nd) (di_tup (de_var 1)) (fun _ => blkOk_by (by kernel_rfl)) (dg_name (i := 3) (fun _ => sc_Type___init__.nd)) dts_nil (di_tup (de_fld A.kc_Type A.na_Type_own_places (de_var 3))) (dg_name (i := 4) (fun _ => sc_Type___init__.nd)) dts_nil (de_var 4)) (da_cons (de_var 2) da_nil))))
    (dss_cons (ds_setF 0 A.kc_Type A.na_Type_own_order (de_call G_order_of (fun _ => hr.mono (by omega)) (fun _ => pas (takes_of rfl rfl rfl rfl)) (da_cons (de_var 1) da_nil)))
    (dss_cons (ds_if (dt_w (dw_or (dt_cmp ok_gt (de_callB ok_len A.n_len FP.boot_len (da_cons (de_fldO 0 A.kc_Type A.na_Type_own_places) da_nil)) (de_gint A.c_MAX_PLACES)) (dw_or1 (dt_cmp ok_gt (de_fldO 0 A.kc_Type A.na_Type_own_order) (de_gint A.c_MAX_ORDER)))))
    (dss_one (ds_raise veB A.ex_InvalidType (fun _ => takes_of rfl rfl rfl rfl)))
    dss_nil)
    (dss_one (ds_setF 0 A.kc_Type A.na_Type_own_text (de_join (de_gstr A.c_ARROW) (de_lst (da_star (de_lc (own := [("one", 3)]) (fun _ => sc_Type___init__.nd) (di_tup (de_var 1)) (fun _ => blkOk_by (by kernel_rfl)) (dg_name (i := 3) (fun _ => sc_Type___init__.nd)) dts_nil (de_call G_input_text (fun _ => hr.mono (by omega)) (fun _ => pas takes0) (da_cons (de_var 3) da_nil))) (da_cons (de_var 2) da_nil))))))))))))),  fun x ds Q Ex hl hf => ?_⟩
  match ds, hl, hf with
  | [.tup _, .str a], _, ⟨ks, rfl, hgk, hlen, hwa, hq, hx⟩ =>
    change (_ : DTS) _ [Sl.ob "Type" x [], Sl.d (.tup (ks.map typeD)), Sl.d (.str a), Sl.no, Sl.no]
    have hcap := placesL_cap hgk
    have hks : (ks.map typeD).length ≤ sizeLine := by rw [List.length_map]; exact size_small (by omega)
    refine ⟨true, kit_tt, hks, lc_of typeD (fun _ => .bl true) ks _ (fun k _ K hK => ⟨_, rfl, isT (Q := fun d => K (some d)) hK⟩) ⟨_, blsD_fn (fun _ => true) ks, ?_⟩⟩
    have ea : (ks.map fun _ => true).all id = true := by simp
    rw [ea]
    refine ⟨rfl, word_ok hwa, ?_⟩
    have ew : isWordD (.str a) = true := hwa
    rw [ew]
    refine ⟨rfl, by decide, rfl, by show 1 < 1000; decide, ?_⟩
    have ep : (ks.map fun k => (places k).map D.str).flatten ++ [D.str a] = (places (.mk ks a)).map .str := by
      rw [places, List.map_append, placesL_map, List.map_flatten, List.map_map]
      rfl
    have lp : ((ks.map fun k => (places k).map D.str).flatten ++ [D.str a]).length = (places (.mk ks a)).length := by rw [ep, List.length_map]
    have lpc : (places (.mk ks a)).length ≤ 901 := by
      rw [places, List.length_append]
      show _ + 1 ≤ _
      omega
    refine ⟨by show _ ≤ 4000; rw [List.length_map]; omega, lcS_of typeD (fun k => (places k).map .str) ks _ (fun k hk K hK => ⟨_, rfl, fld (lk_places k) ⟨by show _ ≤ 4000; rw [List.length_map]; have := (hgk k hk).p; omega, ?_⟩⟩) ?_⟩
    · exact lc_of D.str D.str (places k) _ (fun z _ K hK => ⟨_, rfl, hK⟩) hK
    refine ⟨by rw [lp]; exact size_small (by omega), rfl, by show 2 < 1000; decide, rfl, ks, rfl, by omega, rfl, by show 3 < 1000; decide, ?_⟩
    refine ⟨rfl, _, rfl, ?_⟩
    show bit (decide ((((ks.map fun k => (places k).map D.str).flatten ++ [D.str a]).length : Int) > 15)) _ _
    by_cases h15 : (places (.mk ks a)).length ≤ 15
    case neg =>
      rw [decide_eq_true (by omega)]
      exact hx fun g => h15 g.p
    rw [decide_eq_false (by omega)]
    refine ⟨rfl, _, rfl, ?_⟩
    show bit (decide (((ordL ks : Nat) : Int) > 4)) _ _
    by_cases h4 : ordL ks ≤ 4
    case neg =>
      rw [decide_eq_true (by omega)]
      exact hx fun g => h4 g.o
    rw [decide_eq_false (by omega)]
    have hg : Good (.mk ks a) := by
      by_cases hn : Good (.mk ks a)
      · exact hn
      · rcases not_good hgk hwa hn with q | q
        · omega
        · exact absurd q (Nat.not_lt.mpr h4)
    replace hq := hq hg
    have hf := hg.few
    refine ⟨hks, lc_of typeD (fun k => .str (intext k)) ks _ (fun k hk K hK => ⟨_, rfl, rfl, k, rfl, Nat.le_trans (hg.kid hk).text_len (by decide), hK⟩) ?_⟩
    have hz : (ks.map fun k => D.str (intext k)) ++ [.str a] = (texts ks ++ [a]).map .str := by
      rw [texts_map, List.map_append, List.map_map]
      rfl
    have ht : ((texts ks ++ [a]).map (·.length)).sum + (texts ks ++ [a]).length * 4 ≤ 1000 := by
      have h1 := texts_len ks fun z hz => (word_len (hg.w z (by rw [places]; exact List.mem_append_left _ hz))).2
      have h2 := (word_len hg.atom).2
      rw [List.map_append, List.sum_append, List.length_append]
      have e1 : ([a].map (·.length)).sum = a.length := by simp
      have e2 : [a].length = 1 := rfl
      rw [e1, e2]
      omega
    refine ⟨?_, _, by rw [hz]; exact strsD_map _, Nat.le_trans ht (by decide), rfl, by show 4 < 1000; decide, _, _, rfl, ?_⟩
    · rw [List.length_append, List.length_map]
      exact size_small (by show ks.length + 1 ≤ _; omega)
    · have e : ([("own_args", .tup (ks.map typeD)), ("own_atom", .str a), ("own_places", .tup ((ks.map fun k => (places k).map D.str).flatten ++ [D.str a])), ("own_order", .int (ordL ks)), ("own_text", .str (Txt.join " -> " (texts ks ++ [a])))] : List (Str × D)) = flds (.mk ks a) := by
        rw [ep]
        unfold flds
        rw [text, ord]
        rfl
      have hq2 := hq
      rw [← e] at hq2
      exact hq2

theorem initK {P : Program} {w : World} {mg : Gm} {base : Heap} {C : Addr} (G : InitOk P w mg base 2 "Type" C 2 f_initX) : InitOk P w mg base 2 "Type" C 2 f_init := by
  refine G.imp fun ds Q E h => ?_
  match ds, h with
  | [.tup _, .str a], ⟨ks, rfl, hg, hq⟩ => exact ⟨ks, rfl, fun k hk => hg.kid hk, by have := hg.few; omega, hg.atom, fun _ => hq, fun n => absurd hg n⟩

end K06

namespace K06
open PySem L2 FP
variable [FP.Tabl]
open KP

theorem ok_Type___rshift__ {P : Program} {w : World} {mg : Gm} {base : Heap} {Z : Ads} (A : All mg Z) (G_Type___init__ : InitOk P w mg base 2 "Type" Z.a_Type 2 f_initX) : SpecOk P w mg base 4 Z.a_Type "__rshift__" 2 f_rsh := by
  refine mkSpec (N := ["self", "other"]) (ps := ["self", "other"]) A.d_Type___rshift__ sc_Type___rshift__ (fun _ _ _ _ _ _ us hl => match us, hl with | [_, _], _ => rfl) fun fa cdv Ar outer s H E hr => ⟨_,
    (dss_cons (ds_if (dt_not (dt_val (de_isiO (de_var 1) A.n_isinstance A.kc_Type.nm A.isi_Type FP.boot_isinstance)))
    (dss_one ds_never)
    dss_nil)
    (dss_one (ds_ret (de_make A.kc_Type G_Type___init__ (fun _ => hr.mono (by omega)) (fun _ => pas (takes_of rfl rfl rfl rfl)) (da_cons (de_tup (da_cons (de_var 0) (da_star (de_fld A.kc_Type A.na_Type_own_args (de_var 1)) da_nil))) (da_cons (de_fld A.kc_Type A.na_Type_own_atom (de_var 1)) da_nil)))))),  fun ds Q Ex hl hf => ?_⟩
  match ds, hl, hf with
  | [_, _], _, ⟨k, j, rfl, rfl, hk, hj, hb⟩ =>
    change (_ : DTS) _ [Sl.d (typeD k), Sl.d (typeD j)]
    unfold dSeq dIfS dNot dB
    refine vT (i := 1) (k := j) rfl ?_
    refine fld (lk_args j) ?_
    have hj2 : (j.as).length ≤ 14 := by cases j with | mk as a => exact hj.few.2
    refine ⟨?_, fld (lk_atom j) ⟨rfl, k :: j.as, by rw [List.append_nil]; rfl, ?_, ?_, ?_, fun g => ?_, fun n => hb.2 n⟩⟩
    · show ((j.as.map typeD ++ []).length + 1) ≤ _
      rw [List.append_nil, List.length_map]
      exact size_small (by omega)
    · intro i hi
      rcases List.mem_cons.mp hi with e | e
      · rw [e]
        exact hk
      · cases j with
        | mk as a => exact hj.kid e
    · rw [List.length_cons]
      omega
    · cases j with
      | mk as a => exact hj.atom
    · have q := hb.1 g
      rw [typeD_eq] at q
      exact q

theorem ok_Type___mod__ {P : Program} {w : World} {mg : Gm} {base : Heap} {Z : Ads} (A : All mg Z) (G_Type___init__ : InitOk P w mg base 2 "Type" Z.a_Type 2 f_initX) (G_is_within : DefOk P w mg base 2 "is_within" 3 f_within) : SpecOk P w mg base 4 Z.a_Type "__mod__" 2 f_mod := by
  refine mkSpec (N := ["self", "count"]) (ps := ["self", "count"]) A.d_Type___mod__ sc_Type___mod__ (fun _ _ _ _ _ _ us hl => match us, hl with | [_, _], _ => rfl) fun fa cdv Ar outer s H E hr => ⟨_,
    (dss_cons (ds_if (dt_not (dt_val (de_call G_is_within (fun _ => hr.mono (by omega)) (fun _ => pas (takes_of rfl rfl rfl rfl)) (da_cons (de_var 1) (da_cons de_int (da_cons (de_callB ok_len A.n_len FP.boot_len (da_cons (de_fld A.kc_Type A.na_Type_own_args (de_var 0)) da_nil)) da_nil))))))
    (dss_one ds_never)
    dss_nil)
    (dss_one (ds_ret (de_make A.kc_Type G_Type___init__ (fun _ => hr.mono (by omega)) (fun _ => pas (takes_of rfl rfl rfl rfl)) (da_cons (de_slice (de_fld A.kc_Type A.na_Type_own_args (de_var 0)) (do_some (de_var 1)) do_none) (da_cons (de_fld A.kc_Type A.na_Type_own_atom (de_var 0)) da_nil)))))),  fun ds Q Ex hl hf => ?_⟩
  match ds, hl, hf with
  | [_, .int n], _, ⟨k, rfl, hk, h0, h1, hq⟩ =>
    change (_ : DTS) _ [Sl.d (typeD k), Sl.d (.int n)]
    cases k with
    | mk as a =>
    have hfew := hk.few
    have h1 : n ≤ as.length := h1
    refine fld (lk_args (.mk as a)) ?_
    refine ⟨rfl, trivial, ?_⟩
    have e : inRow (.int n) 0 (((Kd.mk as a).as.map typeD).length : Int) = true := by
      unfold inRow isIntD
      rw [List.length_map]
      simp only [Bool.and_eq_true, decide_eq_true_eq]
      exact ⟨⟨by omega, by omega⟩, h0, h1⟩
    rw [e]
    refine fld (lk_args (.mk as a)) ?_
    refine slT (xs := (Kd.mk as a).as.map typeD) (lo := some n) (hi := none) ?_
    rw [cut_from _ h0 (by rw [List.length_map]; exact h1), ← List.map_drop]
    have hgd := hk.drop n.toNat
    refine fld (lk_atom (.mk as a)) ⟨rfl, as.drop n.toNat, rfl, fun i hi => hgd.kid hi, by have := hgd.few; omega, hk.atom, fun g => ?_, fun x => absurd hgd x⟩
    rw [typeD_eq] at hq
    exact hq

theorem nv_with_atoms_of {P : Program} {w : World} {mg : Gm} {base : Heap} {Z : Ads} {k : Nat} (A : All mg Z) : DefOk P w mg base k "with_atoms_of" 2 (f_wao 0) :=
  (DefOk.never (ps := ["wanted", "names"]) A.d_with_atoms_of (fun _ _ _ _ _ _ us hl => match us, hl with | [_, _], _ => rfl)).mono (Nat.le_refl _) nope_wao

theorem ok_with_atoms_of {P : Program} {w : World} {mg : Gm} {base : Heap} {Z : Ads} {d : Nat} (A : All mg Z) (G_Type___init__ : InitOk P w mg base 2 "Type" Z.a_Type 2 f_initX) (G_with_atoms_of : DefOk P w mg base (d + 4) "with_atoms_of" 2 (f_wao d)) : DefOk P w mg base (d + 5) "with_atoms_of" 2 (f_wao (d + 1)) := by
  refine mkDef (N := ["wanted", "names", "args", "one"]) (ps := ["wanted", "names"]) A.d_with_atoms_of sc_with_atoms_of (fun _ _ _ _ _ _ us hl => match us, hl with | [_, _], _ => rfl) fun fa cdv Ar outer s H E hr => ⟨_,
    (dss_cons (ds_set (i := 2) (de_callTy ok_tuple A.n_tuple FP.boot_tuple (da_cons (de_lc (own := [("one", 3)]) (fun _ => sc_with_atoms_of.nd) (di_tup (de_fld A.kc_Type A.na_Type_own_args (de_var 0))) (fun _ => blkOk_by (by kernel_rfl)) (dg_name (i := 3) (fun _ => sc_with_atoms_of.nd)) dts_nil (de_call G_with_atoms_of (fun _ => hr.mono (by omega)) (fun _ => pas takes0) (da_cons (de_var 3) (da_cons (de_var 1) da_nil)))) da_nil)) (fun _ => sc_with_atoms_of.nd))
    (dss_one (ds_ret (de_make A.kc_Type G_Type___init__ (fun _ => hr.mono (by omega)) (fun _ => pas (takes_of rfl rfl rfl rfl)) (da_cons (de_var 2) (da_cons (de_dget2 (k := 0) (fun _ => hr.mono (by omega)) (de_var 1) (de_fld A.kc_Type A.na_Type_own_atom (de_var 0)) (de_fld A.kc_Type A.na_Type_own_atom (de_var 0))) da_nil)))))),  fun ds Q Ex hl hf => ?_⟩
  match ds, hl, hf with
  | [_, .dct _], _, ⟨k, kvs, rfl, rfl, hg, hw, ho, hq⟩ =>
    change (_ : DTS) _ [Sl.d (typeD k), Sl.d (.dct (dctS kvs)), Sl.no, Sl.no]
    cases k with
    | mk as a =>
    have hfew := hg.few
    have hoo : ordL as < d + 1 := ho
    refine fld (lk_args (.mk as a)) ?_
    refine ⟨by show (as.map typeD).length ≤ _; rw [List.length_map]; exact size_small (by omega), lc_of typeD (fun j => typeD (ren (mapS kvs) j)) as _ (fun j hj K hK => ⟨_, rfl, rfl, j, kvs, rfl, rfl, hg.kid hj, hw, by have := ord_lt hj; omega, hK⟩) ?_⟩
    refine tupL ?_
    refine fld (lk_atom (.mk as a)) (fld (lk_atom (.mk as a)) ⟨.inr a, rfl, ?_⟩)
    have eg : (valD (dctS kvs) (.inr a)).getD (.str (Kd.mk as a).a) = .str (mapS kvs a) := get_dctS kvs a
    rw [eg]
    have hgr : Good (.mk (renL (mapS kvs) as) (mapS kvs a)) := by
      have q := hg.ren (m := mapS kvs) fun z hz => mapS_word hw (hg.w z hz)
      rw [ren] at q
      exact q
    refine ⟨rfl, renL (mapS kvs) as, by rw [renL_map, List.map_map]; rfl, fun i hi => hgr.kid hi, by have := hgr.few; omega, hgr.atom, fun _ => ?_, fun x => absurd hgr x⟩
    rw [ren, typeD_eq] at hq
    exact hq

theorem rs_with_atoms_of {P : Program} {w : World} {mg : Gm} {base : Heap} {Z : Ads} (A : All mg Z) (G_Type___init__ : InitOk P w mg base 2 "Type" Z.a_Type 2 f_initX) : ∀ d : Nat, DefOk P w mg base (d + 4) "with_atoms_of" 2 (f_wao d)
  | 0 => nv_with_atoms_of A
  | d + 1 => ok_with_atoms_of A G_Type___init__ (rs_with_atoms_of A G_Type___init__ d)

theorem nv_with_type_for {P : Program} {w : World} {mg : Gm} {base : Heap} {Z : Ads} {k : Nat} (A : All mg Z) : DefOk P w mg base k "with_type_for" 3 (f_wtf 0) :=
  (DefOk.never (ps := ["wanted", "atom", "other"]) A.d_with_type_for (fun _ _ _ _ _ _ us hl => match us, hl with | [_, _, _], _ => rfl)).mono (Nat.le_refl _) nope_wtf

theorem ok_with_type_for {P : Program} {w : World} {mg : Gm} {base : Heap} {Z : Ads} {d : Nat} (A : All mg Z) (G_Type___init__ : InitOk P w mg base 2 "Type" Z.a_Type 2 f_initX) (G_with_type_for : DefOk P w mg base (d + 4) "with_type_for" 3 (f_wtf d)) : DefOk P w mg base (d + 5) "with_type_for" 3 (f_wtf (d + 1)) := by
  refine mkDef (N := ["wanted", "atom", "other", "args", "one"]) (ps := ["wanted", "atom", "other"]) A.d_with_type_for sc_with_type_for (fun _ _ _ _ _ _ us hl => match us, hl with | [_, _, _], _ => rfl) fun fa cdv Ar outer s H E hr => ⟨_,
    (dss_cons (ds_set (i := 3) (de_callTy ok_tuple A.n_tuple FP.boot_tuple (da_cons (de_lcX (own := [("one", 4)]) (fun _ => sc_with_type_for.nd) (fun _ => takes_of rfl rfl rfl rfl) (di_tup (de_fld A.kc_Type A.na_Type_own_args (de_var 0))) (fun _ => blkOk_by (by kernel_rfl)) (fun _ => (dg_name (i := 4) (fun _ => sc_with_type_for.nd))) (fun _ => dts_nil) (fun _ => (de_call G_with_type_for (fun _ => hr.mono (by omega)) (fun j => j.2) (da_cons (de_var 4) (da_cons (de_var 1) (da_cons (de_var 2) da_nil)))))) da_nil)) (fun _ => sc_with_type_for.nd))
    (dss_cons (ds_if (dt_cmp (ok_ne (fun _ => hr.r.units)) (de_fld A.kc_Type A.na_Type_own_atom (de_var 0)) (de_var 1))
    (dss_one (ds_ret (de_make A.kc_Type G_Type___init__ (fun _ => hr.mono (by omega)) (fun _ => pas (takes_of rfl rfl rfl rfl)) (da_cons (de_var 3) (da_cons (de_fld A.kc_Type A.na_Type_own_atom (de_var 0)) da_nil)))))
    dss_nil)
    (dss_one (ds_ret (de_make A.kc_Type G_Type___init__ (fun _ => hr.mono (by omega)) (fun _ => pas (takes_of rfl rfl rfl rfl)) (da_cons (de_tup (da_star (de_var 3) (da_star (de_fld A.kc_Type A.na_Type_own_args (de_var 2)) da_nil))) (da_cons (de_fld A.kc_Type A.na_Type_own_atom (de_var 2)) da_nil))))))),  fun ds Q Ex hl hf => ?_⟩
  match ds, hl, hf with
  | [_, .str z, _], _, ⟨k, j, rfl, rfl, hg, hj, ho, hz, hb⟩ =>
    change (_ : DTS) _ [Sl.d (typeD k), Sl.d (.str z), Sl.d (typeD j), Sl.no, Sl.no]
    cases k with
    | mk as a =>
    have hfew := hg.few
    have hoo : ordL as < d + 1 := ho
    have hj2 : (j.as).length ≤ 14 := by cases j with | mk bs b => exact hj.few.2
    have hjw : isWordS j.a = true := by cases j with | mk bs b => exact hj.atom
    have hjk : ∀ i ∈ j.as, Good i := by cases j with | mk bs b => exact fun i hi => hj.kid hi
    have eL : (as.map fun i => typeD (put z j i)) = (putL z j as).map typeD := by rw [putL_map, List.map_map]; rfl
    have lL : (putL z j as).length = as.length := by rw [putL_map, List.length_map]
    refine fld (lk_args (.mk as a)) ?_
    refine ⟨by show (as.map typeD).length ≤ _; rw [List.length_map]; exact size_small (by omega), lc_all typeD (fun i => typeD (put z j i)) (fun i => Good (put z j i)) as _ (fun i hi K hK => ⟨_, rfl, rfl, i, j, rfl, rfl, hg.kid hi, hj, by have := ord_lt hi; omega, hz, hK, fun n => hb.2 (put_bad hi n)⟩) fun all => ?_⟩
    have hL : ∀ i ∈ putL z j as, Good i := by
      rw [putL_map]
      intro i hi
      obtain ⟨i0, h0, rfl⟩ := List.mem_map.mp hi
      exact all i0 h0
    refine tupL ?_
    rw [eL]
    refine fld (lk_atom (.mk as a)) ?_
    refine ne_str ?_
    by_cases e : a = z
    · have e2 : (Kd.mk as a).a = z := e
      rw [decide_eq_true e2]
      have ep : put z j (.mk as a) = .mk (putL z j as ++ j.as) j.a := by rw [put, if_pos e]
      rw [ep] at hb
      refine fld (lk_args j) ?_
      refine ⟨?_, ?_⟩
      · rw [List.append_nil, List.length_append, List.length_map, List.length_map]
        exact size_small (by omega)
      refine fld (lk_atom j) ⟨rfl, putL z j as ++ j.as, ?_, ?_, ?_, hjw, fun g => ?_, hb.2⟩
      · rw [List.append_nil, List.map_append]
      · intro i hi
        rcases List.mem_append.mp hi with q | q
        · exact hL i q
        · exact hjk i q
      · rw [List.length_append]
        omega
      · have q := hb.1 g
        rw [typeD_eq] at q
        exact q
    · have e2 : ¬ (Kd.mk as a).a = z := e
      rw [decide_eq_false e2]
      have ep : put z j (.mk as a) = .mk (putL z j as) a := by rw [put, if_neg e]
      rw [ep] at hb
      refine fld (lk_atom (.mk as a)) ⟨rfl, putL z j as, rfl, hL, by omega, hg.atom, fun g => ?_, hb.2⟩
      have q := hb.1 g
      rw [typeD_eq] at q
      exact q

theorem rs_with_type_for {P : Program} {w : World} {mg : Gm} {base : Heap} {Z : Ads} (A : All mg Z) (G_Type___init__ : InitOk P w mg base 2 "Type" Z.a_Type 2 f_initX) : ∀ d : Nat, DefOk P w mg base (d + 4) "with_type_for" 3 (f_wtf d)
  | 0 => nv_with_type_for A
  | d + 1 => ok_with_type_for A G_Type___init__ (rs_with_type_for A G_Type___init__ d)




theorem nv_signed_atoms {P : Program} {w : World} {mg : Gm} {base : Heap} {Z : Ads} {k : Nat} (A : All mg Z) : DefOk P w mg base k "signed_atoms" 2 (f_signed 0) :=
  (DefOk.never (ps := ["wanted", "is_positive"]) A.d_signed_atoms (fun _ _ _ _ _ _ us hl => match us, hl with | [_, _], _ => rfl)).mono (Nat.le_refl _) nope_signed

theorem ok_signed_atoms {P : Program} {w : World} {mg : Gm} {base : Heap} {Z : Ads} {d : Nat} (A : All mg Z) (G_signed_atoms : DefOk P w mg base (d + 1) "signed_atoms" 2 (f_signed d)) : DefOk P w mg base (d + 2) "signed_atoms" 2 (f_signed (d + 1)) := by
  refine mkDef (N := ["wanted", "is_positive", "found", "one"]) (ps := ["wanted", "is_positive"]) A.d_signed_atoms sc_signed_atoms (fun _ _ _ _ _ _ us hl => match us, hl with | [_, _], _ => rfl) fun fa cdv Ar outer s H E hr => ⟨_,
    (dss_cons (ds_set (i := 2) (de_if (dt_val (de_var 1)) (de_lst (da_cons (de_fld A.kc_Type A.na_Type_own_atom (de_var 0)) da_nil)) (de_lst da_nil)) (fun _ => sc_signed_atoms.nd))
    (dss_cons (ds_for (di_tup (de_fld A.kc_Type A.na_Type_own_args (de_var 0))) (dg_name (i := 3) (fun _ => sc_signed_atoms.nd))
    (dss_one (ds_set (i := 2) (de_op ok_add (de_var 2) (de_call G_signed_atoms (fun _ => hr.mono (by omega)) (fun _ => pas (takes_of rfl rfl rfl rfl)) (da_cons (de_var 3) (da_cons (de_not (de_var 1)) da_nil)))) (fun _ => sc_signed_atoms.nd))) (fun _ => passes_of rfl))
    (dss_one (ds_ret (de_var 2))))),  fun ds Q Ex hl hf => ?_⟩
  match ds, hl, hf with
  | [_, .bl b], _, ⟨k, rfl, hg, ho, hq⟩ =>
    change (_ : DTS) _ [Sl.d (typeD k), Sl.d (.bl b), Sl.no, Sl.no]
    cases k with
    | mk as a =>
    refine seq_by (fun ρ => ∃ zs : List Str, ρ = [Sl.d (typeD (.mk as a)), Sl.d (.bl b), Sl.d (.lst (zs.map .str)), Sl.no] ∧ zs.length ≤ 1 ∧ zs ++ signedL as (!b) = signed (.mk as a) b) (fun nx hnx => ?_) ?_
    · cases b with
      | true => exact fld (lk_atom (.mk as a)) ⟨line rfl, hnx _ ⟨[a], rfl, Nat.le_refl _, by rw [signed]; rfl⟩⟩
      | false => exact ⟨line rfl, hnx _ ⟨[], rfl, Nat.zero_le _, by rw [signed]; rfl⟩⟩
    rintro ρ ⟨zs, rfl, hz, ez⟩
    refine fld (lk_args (.mk as a)) ?_
    refine for_of typeD (fun pre ρ => ∃ o, ρ = [Sl.d (typeD (.mk as a)), Sl.d (.bl b), Sl.d (.lst ((zs ++ signedL pre (!b)).map .str)), o] ∧ (placesL pre).length ≤ 14) as [] _ ⟨_, by rw [signedL, List.append_nil], by rw [placesL]; exact Nat.zero_le _⟩ ?_ ?_
    · rintro j pre post eq ρ K ⟨o, rfl, h2⟩ hK
      have hj := mem_mid eq
      have hlt := ord_lt hj
      have hoo : ordL as < d + 1 := ho
      have hl1 := signed_len j (!b)
      have hl2 := signedL_len pre (!b)
      have hpl : (placesL pre).length + (places j).length ≤ 14 := by
        have h3 := hg.few.1
        rw [List.nil_append] at eq
        rw [eq, placesL_app, List.length_append, placesL, List.length_append] at h3
        omega
      refine ⟨_, rfl, rfl, j, rfl, hg.kid hj, by omega, ?_, hK _ ⟨Sl.d (typeD j), ?_, ?_⟩⟩
      · rw [List.length_map, List.length_map, List.length_append]
        exact size_small (by omega)
      · rw [signedL_app, signedL_one]
        simp [List.map_append, List.append_assoc]
      · rw [placesL_app, placesL_one, List.length_append]; omega
    · rintro ρ ⟨o, rfl, h2⟩
      rw [← ez] at hq
      exact hq

theorem rs_signed_atoms {P : Program} {w : World} {mg : Gm} {base : Heap} {Z : Ads} (A : All mg Z) : ∀ d : Nat, DefOk P w mg base (d + 1) "signed_atoms" 2 (f_signed d)
  | 0 => nv_signed_atoms A
  | d + 1 => ok_signed_atoms A (rs_signed_atoms A d)

end K06

namespace K06
open PySem L2 FP
variable [FP.Tabl]
open KP





theorem ok_Type___len__ {P : Program} {w : World} {mg : Gm} {base : Heap} {Z : Ads} (A : All mg Z) : SpecOk P w mg base 1 Z.a_Type "__len__" 1 (f_tell d_len) := by
  refine mkSpec (N := ["self"]) (ps := ["self"]) A.d_Type___len__ sc_Type___len__ (fun _ _ _ _ _ _ us hl => match us, hl with | [_], _ => rfl) fun fa cdv Ar outer s H E hr => ⟨_,
    (dss_one (ds_ret (de_callB ok_len A.n_len FP.boot_len (da_cons (de_fld A.kc_Type A.na_Type_own_places (de_var 0)) da_nil)))),  fun ds Q Ex hl hf => ?_⟩
  match ds, hl, hf with
  | [_], _, ⟨k, rfl, hg, hq⟩ =>
    change (_ : DTS) _ [Sl.d (typeD k)]
    exact fld (lk_places k) (by show Q (.int ((places k).map D.str).length); rw [List.length_map]; exact hq)




theorem ok_Type_atoms {P : Program} {w : World} {mg : Gm} {base : Heap} {Z : Ads} (A : All mg Z) (G_signed_atoms : DefOk P w mg base 6 "signed_atoms" 2 (f_signed 5)) : PropOk P w mg base 7 Z.a_Type "atoms" (f_tell d_atoms) := by
  refine mkProp (N := ["self"]) (ps := ["self"]) A.d_Type_atoms sc_Type_atoms rfl (fun _ _ _ _ _ _ us hl => match us, hl with | [_], _ => rfl) fun fa cdv Ar outer s H E hr => ⟨_,
    (dss_one (ds_ret (de_callTy ok_tuple A.n_tuple FP.boot_tuple (da_cons (de_sortSet (de_op ok_add (de_call G_signed_atoms (fun _ => hr.mono (by omega)) (fun _ => pas (takes_of rfl rfl rfl rfl)) (da_cons (de_var 0) (da_cons de_bl da_nil))) (de_call G_signed_atoms (fun _ => hr.mono (by omega)) (fun _ => pas (takes_of rfl rfl rfl rfl)) (da_cons (de_var 0) (da_cons de_bl da_nil)))) A.n_sorted A.n_set FP.boot_sorted FP.boot_set) da_nil)))),  fun ds Q Ex hl hf => ?_⟩
  match ds, hl, hf with
  | [_], _, ⟨k, rfl, hg, hq⟩ =>
    change (_ : DTS) _ [Sl.d (typeD k)]
    have hl := signed_len k true
    have hl2 := signed_len k false
    have hp := hg.p
    refine ⟨rfl, k, rfl, hg, Nat.lt_succ_of_le hg.o, ⟨rfl, k, rfl, hg, Nat.lt_succ_of_le hg.o, ?_, _, ?_, ?_, hq⟩⟩
    · rw [List.length_map, List.length_map]; exact size_small (by omega)
    · rw [← List.map_append]; exact strsD_map _
    · rw [List.length_append]; omega


theorem ok_is_renaming {P : Program} {w : World} {mg : Gm} {base : Heap} {Z : Ads} (A : All mg Z) (G_is_word : DefOk P w mg base 1 "is_word" 1 f_is_word) : DefOk P w mg base 3 "is_renaming" 2 f_isren := by
  refine mkDef (N := ["value", "words", "word"]) (ps := ["value", "words"]) A.d_is_renaming sc_is_renaming (fun _ _ _ _ _ _ us hl => match us, hl with | [_, _], _ => rfl) fun fa cdv Ar outer s H E hr => ⟨_,
    (dss_cons (ds_if (dt_w (dw_or (dt_not (dt_val (de_isi (de_var 0) A.n_isinstance A.n_dict FP.boot_dict FP.boot_isinstance))) (dw_or (dt_cmp (ok_ne (fun _ => hr.r.units)) (de_callB ok_len A.n_len FP.boot_len (da_cons (de_var 0) da_nil)) (de_callB ok_len A.n_len FP.boot_len (da_cons (de_var 1) da_nil))) (dw_or1 (dt_not (dt_val (de_callB ok_all A.n_all FP.boot_all (da_cons (de_lc (own := [("word", 2)]) (fun _ => sc_is_renaming.nd) (di_tup (de_var 1)) (fun _ => blkOk_by (by kernel_rfl)) (dg_name (i := 2) (fun _ => sc_is_renaming.nd)) dts_nil (de_cmp (ok_inD (k := 0) (fun _ => hr.mono (by omega))) (de_var 2) (de_var 0))) da_nil))))))))
    (dss_one (ds_ret de_bl))
    dss_nil)
    (dss_one (ds_ret (de_callB ok_all A.n_all FP.boot_all (da_cons (de_lc (own := [("word", 2)]) (fun _ => sc_is_renaming.nd) (di_vals (de_var 0)) (fun _ => blkOk_by (by kernel_rfl)) (dg_name (i := 2) (fun _ => sc_is_renaming.nd)) dts_nil (de_call G_is_word (fun _ => hr.mono (by omega)) (fun _ => pas takes0) (da_cons (de_var 2) da_nil))) da_nil))))),  fun ds Q Ex hl hf => ?_⟩
  match ds, hl, hf with
  | [.dct _, .tup _], _, ⟨kvs, zs, rfl, rfl, hl2, hz, hk, hw, hq⟩ =>
    change (_ : DTS) _ [Sl.d (.dct (dctS kvs)), Sl.d (.tup (zs.map .str)), Sl.no]
    refine ⟨true, kit_dd, ?_⟩
    simp only [Bool.not_true, Bool.not_false, blc_bl, bit_t, bit_f, dNext, dSeq, dIfS, dB, dOp, dVar, dAnd, dOr, List.getElem?_cons_zero, List.getElem?_cons_succ, List.set_cons_zero, List.set_cons_succ]
    refine lenD ?_
    refine lenT ?_
    refine ne_int0 (by rw [dctS_len, List.length_map, hl2]) ?_
    simp only [Bool.not_true, Bool.not_false, blc_bl, bit_t, bit_f, dNext, dSeq, dIfS, dB, dOp, dVar, dAnd, dOr, List.getElem?_cons_zero, List.getElem?_cons_succ, List.set_cons_zero, List.set_cons_succ]
    refine ⟨by rw [List.length_map]; exact size_small (by omega), lc_of D.str (fun _ => .bl true) zs _ (fun z hzz K hK => ⟨_, rfl, ?_⟩) ?_⟩
    · show rdDIn false (.str z) (.dct (dctS kvs)) (fun r => K (some r))
      exact inDct (in_dctS (hk z hzz)) hK
    refine ⟨_, blsD_fn (fun _ => true) zs, ?_⟩
    have ea : (zs.map fun _ => true).all id = true := by simp
    rw [ea]
    have ev : (dctS kvs).map (·.2) = kvs.map fun p => D.str p.2 := by
      unfold dctS
      rw [List.map_map]
      rfl
    show (fun ds : List D => ds.length ≤ sizeLine ∧ _) ((dctS kvs).map (·.2))
    rw [ev]
    refine ⟨by rw [List.length_map]; exact size_small (by omega), lc_of (fun p : Str × Str => D.str p.2) (fun _ => .bl true) kvs _ (fun p hp K hK => ⟨_, rfl, rfl, word_ok (hw p hp), ?_⟩) ?_⟩
    · have ew : isWordD (.str p.2) = true := hw p hp
      rw [ew]
      exact hK
    refine ⟨_, blsD_fn (fun _ => true) kvs, ?_⟩
    have ea : (kvs.map fun _ => true).all id = true := by simp
    rw [ea]
    exact hq

theorem ok_Type_renamed {P : Program} {w : World} {mg : Gm} {base : Heap} {Z : Ads} (A : All mg Z) (G_Type_atoms : PropOk P w mg base 7 Z.a_Type "atoms" (f_tell d_atoms)) (G_is_renaming : DefOk P w mg base 3 "is_renaming" 2 f_isren) (G_with_atoms_of : DefOk P w mg base 9 "with_atoms_of" 2 (f_wao 5)) : MethOk P w mg base 11 Z.a_Type "renamed" 2 f_renamed6 := by
  refine mkMeth (N := ["self", "names"]) (ps := ["self", "names"]) A.d_Type_renamed sc_Type_renamed (fun _ _ _ _ _ _ us hl => match us, hl with | [_, _], _ => rfl) fun fa cdv Ar outer s H E hr => ⟨_,
    (dss_cons (ds_if (dt_not (dt_val (de_call G_is_renaming (fun _ => hr.mono (by omega)) (fun _ => pas (takes_of rfl rfl rfl rfl)) (da_cons (de_var 1) (da_cons (de_prop A.kc_Type G_Type_atoms (fun _ => hr.mono (by omega)) (de_var 0)) da_nil)))))
    (dss_one ds_never)
    dss_nil)
    (dss_one (ds_ret (de_call G_with_atoms_of (fun _ => hr.mono (by omega)) (fun _ => pas (takes_of rfl rfl rfl rfl)) (da_cons (de_var 0) (da_cons (de_var 1) da_nil)))))),  fun ds Q Ex hl hf => ?_⟩
  match ds, hl, hf with
  | [_, .dct _], _, ⟨k, kvs, rfl, rfl, hg, hn, hk, hw, hq⟩ =>
    change (_ : DTS) _ [Sl.d (typeD k), Sl.d (.dct (dctS kvs))]
    have hl1 := signed_len k true
    have hl2 := signed_len k false
    have hp := hg.p
    have hu := sortU_len (signed k true ++ signed k false)
    rw [List.length_append] at hu
    refine prT hg ?_
    refine ⟨rfl, kvs, _, rfl, rfl, hn, ?_, hk, hw, ?_⟩
    · omega
    exact ⟨rfl, k, kvs, rfl, rfl, hg, hw, by have := hg.o; omega, hq⟩

theorem ok_Type_put {P : Program} {w : World} {mg : Gm} {base : Heap} {Z : Ads} (A : All mg Z) (G_is_word : DefOk P w mg base 1 "is_word" 1 f_is_word) (G_with_type_for : DefOk P w mg base 9 "with_type_for" 3 (f_wtf 5)) : MethOk P w mg base 11 Z.a_Type "put" 3 f_put := by
  refine mkMeth (N := ["self", "atom", "other"]) (ps := ["self", "atom", "other"]) A.d_Type_put sc_Type_put (fun _ _ _ _ _ _ us hl => match us, hl with | [_, _, _], _ => rfl) fun fa cdv Ar outer s H E hr => ⟨_,
    (dss_cons (ds_if (dt_not (dt_val (de_call G_is_word (fun _ => hr.mono (by omega)) (fun _ => pas (takes_of rfl rfl rfl rfl)) (da_cons (de_var 1) da_nil))))
    (dss_one ds_never)
    dss_nil)
    (dss_cons (ds_if (dt_not (dt_val (de_isiO (de_var 2) A.n_isinstance A.kc_Type.nm A.isi_Type FP.boot_isinstance)))
    (dss_one ds_never)
    dss_nil)
    (dss_one (ds_ret (de_call G_with_type_for (fun _ => hr.mono (by omega)) (fun _ => pas (takes_of rfl rfl rfl rfl)) (da_cons (de_var 0) (da_cons (de_var 1) (da_cons (de_var 2) da_nil)))))))),  fun ds Q Ex hl hf => ?_⟩
  match ds, hl, hf with
  | [_, .str z, _], _, ⟨k, j, rfl, rfl, hg, hj, hz, hb⟩ =>
    change (_ : DTS) _ [Sl.d (typeD k), Sl.d (.str z), Sl.d (typeD j)]
    refine ⟨rfl, word_ok hz, ?_⟩
    have ew : isWordD (.str z) = true := hz
    rw [ew]
    simp only [blc_bl, Bool.not_true, bit_f, dNext, dSeq, dIfS, dNot, dB]
    refine vT (i := 2) (k := j) rfl ?_
    exact ⟨rfl, k, j, rfl, rfl, hg, hj, by have := hg.o; omega, hz, hb⟩

end K06

namespace K06
open PySem L2 FP
variable [FP.Tabl]
open KP

theorem ok_Type___eq__ {P : Program} {w : World} {mg : Gm} {base : Heap} {Z : Ads} (A : All mg Z) : SpecOk P w mg base 1 Z.a_Type "__eq__" 2 f_eq := by
  refine mkSpec (N := ["self", "other"]) (ps := ["self", "other"]) A.d_Type___eq__ sc_Type___eq__ (fun _ _ _ _ _ _ us hl => match us, hl with | [_, _], _ => rfl) fun fa cdv Ar outer s H E hr => ⟨_,
    (dss_one (ds_ret (de_and (de_isiO (de_var 1) A.n_isinstance A.kc_Type.nm A.isi_Type FP.boot_isinstance) (de_one (de_cmp (ok_eq (fun _ => hr.r.units)) (de_fld A.kc_Type A.na_Type_own_text (de_var 0)) (de_fld A.kc_Type A.na_Type_own_text (de_var 1))))))),  fun ds Q Ex hl hf => ?_⟩
  match ds, hl, hf with
  | [_, y], _, ⟨k, rfl, h⟩ =>
    change (_ : DTS) _ [Sl.d (typeD k), Sl.d y]
    rcases h with ⟨j, rfl, hq⟩ | ⟨hn, hq⟩
    · unfold dRet dAndV
      refine vT (k := j) rfl ?_
      exact fld (lk_text k) (fld (lk_text j) hq)
    · unfold dRet dAndV
      exact vF rfl hn hq



theorem ok_Type___getitem__ {P : Program} {w : World} {mg : Gm} {base : Heap} {Z : Ads} (A : All mg Z) (G_is_within : DefOk P w mg base 2 "is_within" 3 f_within) : SpecOk P w mg base 3 Z.a_Type "__getitem__" 2 f_item := by
  refine mkSpec (N := ["self", "index"]) (ps := ["self", "index"]) A.d_Type___getitem__ sc_Type___getitem__ (fun _ _ _ _ _ _ us hl => match us, hl with | [_, _], _ => rfl) fun fa cdv Ar outer s H E hr => ⟨_,
    (dss_cons (ds_if (dt_not (dt_val (de_call G_is_within (fun _ => hr.mono (by omega)) (fun _ => pas (takes_of rfl rfl rfl rfl)) (da_cons (de_var 1) (da_cons de_int (da_cons (de_op ok_sub (de_callB ok_len A.n_len FP.boot_len (da_cons (de_fld A.kc_Type A.na_Type_own_args (de_var 0)) da_nil)) de_int) da_nil))))))
    (dss_one ds_never)
    dss_nil)
    (dss_one (ds_ret (de_ix (de_fld A.kc_Type A.na_Type_own_args (de_var 0)) (de_var 1))))),  fun ds Q Ex hl hf => ?_⟩
  match ds, hl, hf with
  | [_, .int i], _, ⟨k, j, rfl, hg, ⟨h0, hi⟩, hq⟩ =>
    change (_ : DTS) _ [Sl.d (typeD k), Sl.d (.int i)]
    have hlt : i.toNat < k.as.length := (List.getElem?_eq_some_iff.mp hi).1
    have hfew : k.as.length ≤ 14 := by
      cases k with
      | mk as a => exact hg.few.2
    refine fld (lk_args k) ⟨rfl, True.intro, ?_⟩
    have e : inRow (.int i) 0 (((k.as.map typeD).length : Int) - 1) = true := by
      unfold inRow isIntD
      simp only [Bool.and_eq_true, decide_eq_true_eq, List.length_map]
      omega
    rw [e]
    refine fld (lk_args k) ?_
    obtain ⟨d, hd, _⟩ := atI_mem (xs := k.as.map typeD) h0 (by rw [List.length_map]; omega)
    have hd2 : atI (k.as.map typeD) i = some (typeD j) := by
      rw [atI_nat h0 (by rw [List.length_map]; omega), List.getElem?_map, hi]
      rfl
    exact ⟨_, hd2, hq⟩

theorem ok_Type_plain {P : Program} {w : World} {mg : Gm} {base : Heap} {Z : Ads} (A : All mg Z) (G_Type___init__ : InitOk P w mg base 2 "Type" Z.a_Type 2 f_init) : CMethOk P w mg base 4 Z.a_Type "plain" 2 f_plain := by
  refine mkCMeth (N := ["cls", "atom"]) (ps := ["cls", "atom"]) A.d_Type_plain sc_Type_plain (fun _ _ _ _ _ _ us hl => match us, hl with | [_, _], _ => rfl) fun fa cdv Ar outer s H E hr => ⟨_,
    (dss_one (ds_ret (de_makeV 0 A.kc_Type G_Type___init__ (fun _ => hr.mono (by omega)) (fun _ => pas (takes_of rfl rfl rfl rfl)) (da_cons (de_tup da_nil) (da_cons (de_var 1) da_nil))))),  fun ds Q Ex hl hf => ?_⟩
  match ds, hl, hf with
  | [.cl _, .str a], _, ⟨rfl, hw, hq⟩ =>
    change (_ : DTS) _ [Sl.d (.cl "Type"), Sl.d (.str a)]
    rw [typeD_eq] at hq
    exact ⟨rfl, line rfl, rfl, [], rfl, Good.leaf hw, hq⟩

end K06

namespace K06
open PySem L2 FP
variable [FP.Tabl]
open KP

theorem ok__law_dice {P : Program} {w : World} {mg : Gm} {base : Heap} {Z : Ads} (A : All mg Z) : DefOk P w mg base 1 "_law_dice" 2 f_dice := by
  refine mkDef (N := ["_law_script", "_law_spot", "_law_cell", "_law_great", "_law_blend"]) (ps := ["_law_script", "_law_spot"]) A.d__law_dice sc__law_dice (fun _ _ _ _ _ _ us hl => match us, hl with | [_, _], _ => rfl) fun fa cdv Ar outer s H E hr => ⟨_,
    (dss_cons (ds_set (i := 2) (de_op ok_add (de_op ok_mul de_int (de_var 1)) de_int) (fun _ => sc__law_dice.nd))
    (dss_cons (ds_if (dt_cmp ok_lt (de_var 1) (de_callB ok_len A.n_len FP.boot_len (da_cons (de_var 0) da_nil)))
    (dss_one (ds_set (i := 2) (de_ix (de_var 0) (de_var 1)) (fun _ => sc__law_dice.nd)))
    dss_nil)
    (dss_cons (ds_set (i := 3) (de_op ok_mod (de_callTy ok_int A.n_int FP.boot_int (da_cons (de_callB ok_abs A.n_abs FP.boot_abs (da_cons (de_var 2) da_nil)) da_nil)) (de_op ok_pow (de_op ok_pow de_int de_int) de_int)) (fun _ => sc__law_dice.nd))
    (dss_cons (ds_set (i := 4) (de_op ok_add (de_op ok_add (de_op ok_add (de_op ok_mul (de_op ok_mod (de_callTy ok_int A.n_int FP.boot_int (da_cons (de_var 3) da_nil)) de_int) de_int) (de_op ok_mul de_int (de_var 1))) (de_op ok_mul de_int (de_callTy ok_int A.n_int FP.boot_int (da_cons (de_cmp ok_lt (de_var 2) de_int) da_nil)))) de_int) (fun _ => sc__law_dice.nd))
    (dss_one (ds_retTok (da_cons (de_callB ok_max A.n_max FP.boot_max (da_cons de_int (da_cons (de_op ok_sub (de_var 3) (de_op ok_pow de_int de_int)) da_nil))) (da_cons (de_op ok_mod (de_callTy ok_int A.n_int FP.boot_int (da_cons (de_var 4) da_nil)) de_int) (da_cons de_int da_nil))))))))),  fun ds Q Ex hl hf => ?_⟩
  match ds, hl, hf with
  | [.fz xs, .int k], _, ⟨⟨ns, hx⟩, ⟨h0, h1⟩, hq⟩ =>
    subst hx
    change (_ : DTS) _ [Sl.d (.fz (ns.map D.int)), Sl.d (.int k), Sl.no, Sl.no, Sl.no]
    simp only [dSeq, dNext, dIfS, dB, dOp, dVar, dC, dCB, dCons, dNil, dSet, dTok, dRet, dRetN, dCall, rdAdd, rdSub, rdMul, rdMod, rdFdiv, rdPow, rdGt, rdLt, rdLe, rdGe, rdIx, rdInt, rdAbs, rdMax, rdMin, rdLen, dRetTok, dSetO, dListO, dLenO, dIRng1, dRetPop, List.getElem?_cons_zero, List.getElem?_cons_succ, List.set_cons_zero, List.set_cons_succ, bit_dec, bit_t, bit_f, bit_not, blc_bl, Option.some.injEq, exists_eq_left']
    refine ⟨cmulL (by decide), fun hb => ?_, fun _ => ?_⟩
    · obtain ⟨i, hi⟩ := atI_ints h0 hb
      refine ⟨_, hi, ?_⟩
      exact ⟨by decide +kernel, by decide +kernel, by decide +kernel, by decide, cmulR (by decide), cmulL (by decide), cmulL (by decide), by decide +kernel, by decide, hq⟩
    · exact ⟨by decide +kernel, by decide +kernel, by decide +kernel, by decide, cmulR (by decide), cmulL (by decide), cmulL (by decide), by decide +kernel, by decide, hq⟩

theorem ok__law_roll {P : Program} {w : World} {mg : Gm} {base : Heap} {Z : Ads} (A : All mg Z) : DefOk P w mg base 1 "_law_roll" 2 f_roll := by
  refine mkDef (N := ["_law_dice_here", "_law_total", "_law_one", "_law_two", "_law_found"]) (ps := ["_law_dice_here", "_law_total"]) A.d__law_roll sc__law_roll (fun _ _ _ _ _ _ us hl => match us, hl with | [_, _], _ => rfl) fun fa cdv Ar outer s H E hr => ⟨_,
    (dss_cons (ds_if (dt_cmp ok_gt (de_ix (de_var 0) de_int) de_int)
    (dss_cons (ds_set (i := 4) (de_op ok_mod (de_callTy ok_int A.n_int FP.boot_int (da_cons (de_ix (de_var 0) de_int) da_nil)) (de_var 1)) (fun _ => sc__law_roll.nd))
    (dss_cons (ds_tok 0 (de_op ok_fdiv (de_ix (de_var 0) de_int) (de_var 1)) (pg := fun _ _ h => ps_asg h (pg_sub (pv 0) pe_int set_list)))
    (dss_one (ds_ret (de_var 4)))))
    dss_nil)
    (dss_cons (ds_tok 0 (de_op ok_add (de_ix (de_var 0) de_int) de_int) (pg := fun _ _ h => ps_asg h (pg_sub (pv 0) pe_int set_list)))
    (dss_cons (ds_set (i := 2) (de_op ok_mod (de_callTy ok_int A.n_int FP.boot_int (da_cons (de_op ok_add (de_ix (de_var 0) de_int) (de_op ok_mul de_int (de_ix (de_var 0) de_int))) da_nil)) de_int) (fun _ => sc__law_roll.nd))
    (dss_cons (ds_set (i := 3) (de_op ok_add (de_op ok_mul (de_op ok_mod (de_callTy ok_int A.n_int FP.boot_int (da_cons (de_op ok_mul (de_var 2) (de_var 2)) da_nil)) de_int) (de_var 2)) (de_op ok_mul de_int (de_ix (de_var 0) de_int))) (fun _ => sc__law_roll.nd))
    (dss_cons (ds_set (i := 3) (de_op ok_mod (de_callTy ok_int A.n_int FP.boot_int (da_cons (de_var 3) da_nil)) de_int) (fun _ => sc__law_roll.nd))
    (dss_one (ds_ret (de_op ok_mod (de_callTy ok_int A.n_int FP.boot_int (da_cons (de_op ok_fdiv (de_var 3) de_int) da_nil)) (de_var 1))))))))),  fun ds Q Ex hl hf => ?_⟩
  match ds, hl, hf with
  | [.tok, .int n], _, ⟨⟨h0, h1⟩, hq⟩ =>
    change (_ : DTS) _ [Sl.d .tok, Sl.d (.int n), Sl.no, Sl.no, Sl.no]
    simp only [dSeq, dNext, dIfS, dB, dOp, dVar, dC, dCB, dCons, dNil, dSet, dTok, dRet, dRetN, dCall, rdAdd, rdSub, rdMul, rdMod, rdFdiv, rdPow, rdGt, rdLt, rdLe, rdGe, rdIx, rdInt, rdAbs, rdMax, rdMin, rdLen, dRetTok, dSetO, dListO, dLenO, dIRng1, dRetPop, List.getElem?_cons_zero, List.getElem?_cons_succ, List.set_cons_zero, List.set_cons_succ, bit_dec, bit_t, bit_f, bit_not, blc_bl, Option.some.injEq, exists_eq_left']
    have dn : ∀ j : Int, CDivN j n := fun j => ⟨by omega, by omega⟩
    have md : ∀ j : Int, Q (D.int (j % n)) := fun j => hq _ (Int.emod_nonneg _ (by omega)) (Int.emod_lt_of_pos _ h0)
    refine ⟨by decide, fun j => ⟨fun _ => ?_, fun _ => ?_⟩⟩
    · exact ⟨by decide, fun a => ⟨h0, by decide, fun b => ⟨dn _, by decide, md _⟩⟩⟩
    · exact ⟨by decide, fun a => ⟨by decide, by decide, fun b => ⟨by decide, fun c => ⟨cmulL (by decide), by decide, cmulL (by omega), by decide, cmulR (by omega), by decide, fun e => ⟨cmulL (by decide), by decide, ⟨by decide, by decide⟩, h0, md _⟩⟩⟩⟩⟩

theorem ok__law_pick {P : Program} {w : World} {mg : Gm} {base : Heap} {Z : Ads} (A : All mg Z) (G__law_roll : DefOk P w mg base 1 "_law_roll" 2 f_roll) : DefOk P w mg base 2 "_law_pick" 2 f_pick := by
  refine mkDef (N := ["_law_dice_here", "_law_items"]) (ps := ["_law_dice_here", "_law_items"]) A.d__law_pick sc__law_pick (fun _ _ _ _ _ _ us hl => match us, hl with | [_, _], _ => rfl) fun fa cdv Ar outer s H E hr => ⟨_,
    (dss_one (ds_ret (de_ix (de_var 1) (de_call G__law_roll (fun _ => hr.mono (by omega)) (fun _ => pas (takes_of rfl rfl rfl rfl)) (da_cons (de_var 0) (da_cons (de_callB ok_len A.n_len FP.boot_len (da_cons (de_var 1) da_nil)) da_nil)))))),  fun ds Q Ex hl hf => ?_⟩
  match ds, hl, hf with
  | [.tok, .lst xs], _, ⟨⟨h0, h1⟩, hq⟩ =>
    change (_ : DTS) _ [Sl.d .tok, Sl.d (.lst xs)]
    simp only [dSeq, dNext, dIfS, dB, dOp, dVar, dC, dCB, dCons, dNil, dSet, dTok, dRet, dRetN, dCall, rdAdd, rdSub, rdMul, rdMod, rdFdiv, rdPow, rdGt, rdLt, rdLe, rdGe, rdIx, rdInt, rdAbs, rdMax, rdMin, rdLen, dRetTok, dSetO, dListO, dLenO, dIRng1, dRetPop, List.getElem?_cons_zero, List.getElem?_cons_succ, List.set_cons_zero, List.set_cons_succ, bit_dec, bit_t, bit_f, bit_not, blc_bl, Option.some.injEq, exists_eq_left', f_roll]
    refine ⟨rfl, ⟨by omega, by omega⟩, fun r h2 h3 => ?_⟩
    obtain ⟨d, hd, hm⟩ := atI_mem h2 h3
    exact ⟨d, hd, hq d hm⟩
  | [.tok, .tup xs], _, ⟨⟨h0, h1⟩, hq⟩ =>
    change (_ : DTS) _ [Sl.d .tok, Sl.d (.tup xs)]
    simp only [dSeq, dNext, dIfS, dB, dOp, dVar, dC, dCB, dCons, dNil, dSet, dTok, dRet, dRetN, dCall, rdAdd, rdSub, rdMul, rdMod, rdFdiv, rdPow, rdGt, rdLt, rdLe, rdGe, rdIx, rdInt, rdAbs, rdMax, rdMin, rdLen, dRetTok, dSetO, dListO, dLenO, dIRng1, dRetPop, List.getElem?_cons_zero, List.getElem?_cons_succ, List.set_cons_zero, List.set_cons_succ, bit_dec, bit_t, bit_f, bit_not, blc_bl, Option.some.injEq, exists_eq_left', f_roll]
    refine ⟨rfl, ⟨by omega, by omega⟩, fun r h2 h3 => ?_⟩
    obtain ⟨d, hd, hm⟩ := atI_mem h2 h3
    exact ⟨d, hd, hq d hm⟩

theorem ok__law_some {P : Program} {w : World} {mg : Gm} {base : Heap} {Z : Ads} (A : All mg Z) (G__law_roll : DefOk P w mg base 1 "_law_roll" 2 f_roll) : DefOk P w mg base 2 "_law_some" 3 f_some := by
  refine mkDef (N := ["_law_dice_here", "_law_items", "_law_size", "_law_left", "_law_turn"]) (ps := ["_law_dice_here", "_law_items", "_law_size"]) A.d__law_some sc__law_some (fun _ _ _ _ _ _ us hl => match us, hl with | [_, _, _], _ => rfl) fun fa cdv Ar outer s H E hr => ⟨_,
    (dss_cons (ds_setO (i := 3) (do_list (da_cons (de_var 1) da_nil) A.n_list FP.boot_list) (fun _ => sc__law_some.nd))
    (dss_one (ds_retPop (i := 3) (own := [("_law_turn", 4)]) (fun _ => sc__law_some.nd) (di_range1 A.n_range (da_cons (de_callB ok_min A.n_min FP.boot_min (da_cons (de_var 2) (da_cons (de_lenO 3 A.n_len) da_nil))) da_nil)) (fun _ => blkOk_by (by kernel_rfl)) (dg_name (i := 4) (fun _ => sc__law_some.nd)) (de_call G__law_roll (fun _ => hr.mono (by omega)) (fun _ => pas takes0) (da_cons (de_var 0) (da_cons (de_lenO 3 A.n_len) da_nil))) (fun _ _ h => pe_bm PySem.F.plainAttrs_list PySem.F.slot_list_pop PySem.F.type_list_pop mt_popAt (pv 3) (pa_cons h pa_nil))))),  fun ds Q Ex hl hf => ?_⟩
  match ds, hl, hf with
  | [.tok, .lst xs, .int k], _, ⟨h0, ⟨h1, h2⟩, hq⟩ =>
    change (_ : DTS) _ [Sl.d .tok, Sl.d (.lst xs), Sl.d (.int k), Sl.no, Sl.no]
    simp only [dSeq, dNext, dIfS, dB, dOp, dVar, dC, dCB, dCons, dNil, dSet, dTok, dRet, dRetN, dCall, rdAdd, rdSub, rdMul, rdMod, rdFdiv, rdPow, rdGt, rdLt, rdLe, rdGe, rdIx, rdInt, rdAbs, rdMax, rdMin, rdLen, dRetTok, dSetO, dListO, dLenO, dIRng1, dRetPop, List.getElem?_cons_zero, List.getElem?_cons_succ, List.set_cons_zero, List.set_cons_succ, bit_dec, bit_t, bit_f, bit_not, blc_bl, Option.some.injEq, exists_eq_left']
    have em : (if (xs.length : Int) < k then (xs.length : Int) else k).toNat = min k.toNat xs.length := by split <;> omega
    refine ⟨by split <;> omega, by split <;> omega, ?_, ?_⟩
    · rw [rangeD_len, em]
      exact Nat.le_trans (Nat.min_le_right _ _) (Nat.le_trans (Nat.le_of_lt h0) (by decide))
    · refine pop_some _ _ _ ?_ h0 fun ys zs hp hn => hq ys zs hp ?_
      · rw [rangeD_len, em]
        exact Nat.min_le_right _ _
      · rw [hn, rangeD_len, em]
  | [.tok, .tup xs, .int k], _, ⟨h0, ⟨h1, h2⟩, hq⟩ =>
    change (_ : DTS) _ [Sl.d .tok, Sl.d (.tup xs), Sl.d (.int k), Sl.no, Sl.no]
    simp only [dSeq, dNext, dIfS, dB, dOp, dVar, dC, dCB, dCons, dNil, dSet, dTok, dRet, dRetN, dCall, rdAdd, rdSub, rdMul, rdMod, rdFdiv, rdPow, rdGt, rdLt, rdLe, rdGe, rdIx, rdInt, rdAbs, rdMax, rdMin, rdLen, dRetTok, dSetO, dListO, dLenO, dIRng1, dRetPop, List.getElem?_cons_zero, List.getElem?_cons_succ, List.set_cons_zero, List.set_cons_succ, bit_dec, bit_t, bit_f, bit_not, blc_bl, Option.some.injEq, exists_eq_left']
    have em : (if (xs.length : Int) < k then (xs.length : Int) else k).toNat = min k.toNat xs.length := by split <;> omega
    refine ⟨by split <;> omega, by split <;> omega, ?_, ?_⟩
    · rw [rangeD_len, em]
      exact Nat.le_trans (Nat.min_le_right _ _) (Nat.le_trans (Nat.le_of_lt h0) (by decide))
    · refine pop_some _ _ _ ?_ h0 fun ys zs hp hn => hq ys zs hp ?_
      · rw [rangeD_len, em]
        exact Nat.min_le_right _ _
      · rw [hn, rangeD_len, em]

theorem nv__law_made_kind {P : Program} {w : World} {mg : Gm} {base : Heap} {Z : Ads} {k : Nat} (A : All mg Z) : DefOk P w mg base k "_law_made_kind" 1 (f_plainK typeD 0) :=
  (DefOk.never (ps := ["_law_kind_here"]) A.d__law_made_kind (fun _ _ _ _ _ _ us hl => match us, hl with | [_], _ => rfl)).mono (Nat.le_refl _) (nope_plainK _)

theorem ok__law_made_kind {P : Program} {w : World} {mg : Gm} {base : Heap} {Z : Ads} {d : Nat} (A : All mg Z) (G_Type___init__ : InitOk P w mg base 2 "Type" Z.a_Type 2 f_init) (G__law_made_kind : DefOk P w mg base (d + 4) "_law_made_kind" 1 (f_plainK typeD d)) : DefOk P w mg base (d + 5) "_law_made_kind" 1 (f_plainK typeD (d + 1)) := by
  refine mkDef (N := ["_law_kind_here", "_law_one"]) (ps := ["_law_kind_here"]) A.d__law_made_kind sc__law_made_kind (fun _ _ _ _ _ _ us hl => match us, hl with | [_], _ => rfl) fun fa cdv Ar outer s H E hr => ⟨_,
    (dss_one (ds_ret (de_make A.kc_Type G_Type___init__ (fun _ => hr.mono (by omega)) (fun _ => pas (takes_of rfl rfl rfl rfl)) (da_cons (de_callTy ok_tuple A.n_tuple FP.boot_tuple (da_cons (de_lc (own := [("_law_one", 1)]) (fun _ => sc__law_made_kind.nd) (di_tup (de_ix (de_var 0) de_int)) (fun _ => blkOk_by (by kernel_rfl)) (dg_name (i := 1) (fun _ => sc__law_made_kind.nd)) dts_nil (de_call G__law_made_kind (fun _ => hr.mono (by omega)) (fun _ => pas takes0) (da_cons (de_var 1) da_nil))) da_nil)) (da_cons (de_ix (de_var 0) de_int) da_nil))))),  fun ds Q Ex hl hf => ?_⟩
  match ds, hl, hf with
  | [_], _, ⟨k, rfl, hg, ho, hq⟩ =>
    change (_ : DTS) _ [Sl.d (plain k), Sl.no]
    cases k with
    | mk as a =>
    have hfew := hg.few
    have hoo : ordL as < d + 1 := ho
    refine ix_p0 ?_
    refine ⟨by show (as.map plain).length ≤ _; rw [List.length_map]; exact size_small (by omega), lc_of plain typeD as _ (fun j hj K hK => ⟨_, rfl, rfl, j, rfl, hg.kid hj, by have := ord_lt hj; omega, hK⟩) ?_⟩
    refine tupL ?_
    refine ix_p1 ?_
    refine ⟨rfl, as, rfl, hg, ?_⟩
    rw [typeD_eq] at hq
    exact hq

theorem rs__law_made_kind {P : Program} {w : World} {mg : Gm} {base : Heap} {Z : Ads} (A : All mg Z) (G_Type___init__ : InitOk P w mg base 2 "Type" Z.a_Type 2 f_init) : ∀ d : Nat, DefOk P w mg base (d + 4) "_law_made_kind" 1 (f_plainK typeD d)
  | 0 => nv__law_made_kind A
  | d + 1 => ok__law_made_kind A G_Type___init__ (rs__law_made_kind A G_Type___init__ d)

theorem nv__law_atoms_of {P : Program} {w : World} {mg : Gm} {base : Heap} {Z : Ads} {k : Nat} (A : All mg Z) : DefOk P w mg base k "_law_atoms_of" 1 (f_plainK d_places 0) :=
  (DefOk.never (ps := ["_law_kind_here"]) A.d__law_atoms_of (fun _ _ _ _ _ _ us hl => match us, hl with | [_], _ => rfl)).mono (Nat.le_refl _) (nope_plainK _)

theorem ok__law_atoms_of {P : Program} {w : World} {mg : Gm} {base : Heap} {Z : Ads} {d : Nat} (A : All mg Z) (G__law_atoms_of : DefOk P w mg base (d + 1) "_law_atoms_of" 1 (f_plainK d_places d)) : DefOk P w mg base (d + 2) "_law_atoms_of" 1 (f_plainK d_places (d + 1)) := by
  refine mkDef (N := ["_law_kind_here", "_law_found", "_law_one"]) (ps := ["_law_kind_here"]) A.d__law_atoms_of sc__law_atoms_of (fun _ _ _ _ _ _ us hl => match us, hl with | [_], _ => rfl) fun fa cdv Ar outer s H E hr => ⟨_,
    (dss_cons (ds_set (i := 1) (de_lst da_nil) (fun _ => sc__law_atoms_of.nd))
    (dss_cons (ds_for (di_tup (de_ix (de_var 0) de_int)) (dg_name (i := 2) (fun _ => sc__law_atoms_of.nd))
    (dss_one (ds_set (i := 1) (de_op ok_add (de_var 1) (de_call G__law_atoms_of (fun _ => hr.mono (by omega)) (fun _ => pas (takes_of rfl rfl rfl rfl)) (da_cons (de_var 2) da_nil))) (fun _ => sc__law_atoms_of.nd))) (fun _ => passes_of rfl))
    (dss_one (ds_ret (de_op ok_add (de_var 1) (de_lst (da_cons (de_ix (de_var 0) de_int) da_nil))))))),  fun ds Q Ex hl hf => ?_⟩
  match ds, hl, hf with
  | [_], _, ⟨k, rfl, hg, ho, hq⟩ =>
    change (_ : DTS) _ [Sl.d (plain k), Sl.no, Sl.no]
    cases k with
    | mk as a =>
    have hfew := hg.few
    have hoo : ordL as < d + 1 := ho
    refine ⟨line rfl, ?_⟩
    refine ix_p0 (k := .mk as a) ?_
    refine for_of plain (fun pre ρ => ∃ o, ρ = [Sl.d (plain (.mk as a)), Sl.d (.lst ((placesL pre).map .str)), o]) as [] _ ⟨_, by rw [placesL]; rfl⟩ ?_ ?_
    · rintro j pre post eq ρ K ⟨o, rfl⟩ hK
      have hj := mem_mid eq
      have hlt := ord_lt hj
      have hgj := hg.kid hj
      have hpl : (placesL pre).length + (places j).length ≤ 14 ∧ pre.length ≤ 14 := by
        have h3 := hg.few.1
        rw [List.nil_append] at eq
        rw [eq, placesL_app, List.length_append, placesL, List.length_append] at h3
        have h4 := length_placesL pre
        omega
      refine ⟨_, rfl, rfl, j, rfl, hgj, by omega, ?_, hK _ ⟨Sl.d (plain j), ?_⟩⟩
      · rw [List.length_map, List.length_map]
        exact size_small (by omega)
      · rw [placesL_app, placesL_one, List.map_append]
        rfl
    · rintro ρ ⟨o, rfl⟩
      refine ix_p1 (k := .mk as a) ?_
      refine ⟨line rfl, ?_, ?_⟩
      · rw [List.length_map]
        exact size_small (by show (placesL as).length + 1 ≤ _; omega)
      · have hq2 : Q (.lst ((places (.mk as a)).map .str)) := hq
        rw [places, List.map_append] at hq2
        exact hq2

theorem rs__law_atoms_of {P : Program} {w : World} {mg : Gm} {base : Heap} {Z : Ads} (A : All mg Z) : ∀ d : Nat, DefOk P w mg base (d + 1) "_law_atoms_of" 1 (f_plainK d_places d)
  | 0 => nv__law_atoms_of A
  | d + 1 => ok__law_atoms_of A (rs__law_atoms_of A d)

theorem nv__law_kind {P : Program} {w : World} {mg : Gm} {base : Heap} {Z : Ads} {k : Nat} (A : All mg Z) : DefOk P w mg base k "_law_kind" 4 (f_kind 0) :=
  (DefOk.never (ps := ["_law_dice_here", "_law_atoms", "_law_order", "_law_most"]) A.d__law_kind (fun _ _ _ _ _ _ us hl => match us, hl with | [_, _, _, _], _ => rfl)).mono (Nat.le_refl _) nope_kind

theorem ok__law_kind {P : Program} {w : World} {mg : Gm} {base : Heap} {Z : Ads} {d : Nat} (A : All mg Z) (G__law_atoms_of : DefOk P w mg base 6 "_law_atoms_of" 1 (f_plainK d_places 5)) (G__law_kind : DefOk P w mg base (d + 6) "_law_kind" 4 (f_kind d)) (G__law_pick : DefOk P w mg base 2 "_law_pick" 2 f_pick) (G__law_roll : DefOk P w mg base 1 "_law_roll" 2 f_roll) : DefOk P w mg base (d + 7) "_law_kind" 4 (f_kind (d + 1)) := by
  refine mkDef (N := ["_law_dice_here", "_law_atoms", "_law_order", "_law_most", "_law_inputs", "_law_left", "_law_turn", "_law_size", "_law_one"]) (ps := ["_law_dice_here", "_law_atoms", "_law_order", "_law_most"]) A.d__law_kind sc__law_kind (fun _ _ _ _ _ _ us hl => match us, hl with | [_, _, _, _], _ => rfl) fun fa cdv Ar outer s H E hr => ⟨_,
    (dss_cons (ds_parO (i := 4) (j := 5) (do_lst da_nil) (de_op ok_sub (de_var 3) de_int) (fun _ => sc__law_kind.nd))
    (dss_cons (ds_for (di_range1 A.n_range (da_cons (de_if (dt_cmp ok_gt (de_var 2) de_int) (de_call G__law_roll (fun _ => hr.mono (by omega)) (fun _ => pas (takes_of rfl rfl rfl rfl)) (da_cons (de_var 0) (da_cons de_int da_nil))) de_int) da_nil)) (dg_name (i := 6) (fun _ => sc__law_kind.nd))
    (dss_one (ds_if (dt_cmp ok_gt (de_var 5) de_int)
    (dss_cons (ds_set (i := 7) (de_call G__law_pick (fun _ => hr.mono (by omega)) (fun _ => pas (takes_of rfl rfl rfl rfl)) (da_cons (de_var 0) (da_cons (de_lst (da_cons de_int (da_cons (de_callB ok_min A.n_min FP.boot_min (da_cons de_int (da_cons (de_var 5) da_nil))) (da_cons (de_var 5) da_nil)))) da_nil))) (fun _ => sc__law_kind.nd))
    (dss_cons (ds_set (i := 8) (de_call G__law_kind (fun _ => hr.mono (by omega)) (fun _ => pas (takes_of rfl rfl rfl rfl)) (da_cons (de_var 0) (da_cons (de_var 1) (da_cons (de_call G__law_pick (fun _ => hr.mono (by omega)) (fun _ => pas (takes_of rfl rfl rfl rfl)) (da_cons (de_var 0) (da_cons (de_lst (da_cons de_int (da_cons de_int (da_cons (de_op ok_sub (de_var 2) de_int) da_nil)))) da_nil))) (da_cons (de_var 7) da_nil))))) (fun _ => sc__law_kind.nd))
    (dss_cons (ds_append 4 (de_var 8) (pe := fun _ _ h => ps_expr (pe_bm PySem.F.plainAttrs_list PySem.F.slot_list_append PySem.F.type_list_append mt_append (pv 4) (pa_cons h pa_nil))))
    (dss_one (ds_set (i := 5) (de_op ok_sub (de_var 5) (de_callB ok_len A.n_len FP.boot_len (da_cons (de_call G__law_atoms_of (fun _ => hr.mono (by omega)) (fun _ => pas (takes_of rfl rfl rfl rfl)) (da_cons (de_var 8) da_nil)) da_nil))) (fun _ => sc__law_kind.nd))))))
    dss_nil)) (fun _ => passes_of rfl))
    (dss_one (ds_frz 4 (ds_ret (de_tup (da_cons (de_callTy ok_tuple A.n_tuple FP.boot_tuple (da_cons (de_var 4) da_nil)) (da_cons (de_call G__law_pick (fun _ => hr.mono (by omega)) (fun _ => pas (takes_of rfl rfl rfl rfl)) (da_cons (de_var 0) (da_cons (de_var 1) da_nil))) da_nil)))))))),  fun ds Q Ex hl hf => ?_⟩
  match ds, hl, hf with
  | [.tok, .lst _, .int o, .int m], _, ⟨zs, rfl, ⟨hz0, hz1⟩, hw, ⟨ho0, ho4, hod⟩, ⟨hm1, hm15⟩, hq⟩ =>
    change (_ : DTS) _ [Sl.d .tok, Sl.d (.lst (zs.map .str)), Sl.d (.int o), Sl.d (.int m), Sl.no, Sl.no, Sl.no, Sl.no, Sl.no]
    refine ⟨line rfl, ?_⟩
    show bit (decide (o > 0)) _ _
    by_cases hop : o > 0
    · rw [decide_eq_true hop]
      refine ⟨rfl, ⟨by decide, by decide⟩, fun r hr0 hr1 => ⟨by omega, by omega, ?_⟩⟩
      refine forD_inv (fun ρ => ∃ (ks : List Kd) (l : Int) (a b c : Sl), ρ = [Sl.d .tok, Sl.d (.lst (zs.map .str)), Sl.d (.int o), Sl.d (.int m), Sl.own (ks.map plain), Sl.d (.int l), a, b, c] ∧ (∀ k ∈ ks, (ord k : Int) < o ∧ ∀ z ∈ places k, z ∈ zs) ∧ l = m - 1 - ((placesL ks).length : Int) ∧ 0 ≤ l) _ _ ⟨[], m - 1, _, _, _, rfl, fun _ h => absurd h List.not_mem_nil, by rw [placesL]; simp, by omega⟩ ?_ ?_
      · rintro x hx ρ K ⟨ks, l, a, b, c, rfl, hk, hl, h0⟩ hK
        refine ⟨_, rfl, ?_⟩
        show bit (decide (l > 0)) _ _
        by_cases hlp : l > 0
        · rw [decide_eq_true hlp]
          refine ⟨line rfl, rfl, ⟨show 0 < 3 by decide, show 3 < 1073741824 by decide⟩, fun sz hsz => ?_⟩
          have hsz2 : ∃ s : Int, sz = .int s ∧ 1 ≤ s ∧ s ≤ l := by
            simp only [List.mem_cons, List.not_mem_nil, or_false] at hsz
            rcases hsz with rfl | rfl | rfl
            · exact ⟨1, rfl, by omega, by omega⟩
            · exact ⟨_, rfl, by split <;> omega, by split <;> omega⟩
            · exact ⟨l, rfl, by omega, by omega⟩
          obtain ⟨s, rfl, hs1, hs2⟩ := hsz2
          refine ⟨line rfl, rfl, ⟨show 0 < 3 by decide, show 3 < 1073741824 by decide⟩, fun oo hoo => ?_⟩
          have hoo2 : ∃ o2 : Int, oo = .int o2 ∧ 0 ≤ o2 ∧ o2 < o := by
            simp only [List.mem_cons, List.not_mem_nil, or_false] at hoo
            rcases hoo with rfl | rfl | rfl
            · exact ⟨0, rfl, by omega, by omega⟩
            · exact ⟨0, rfl, by omega, by omega⟩
            · exact ⟨o - 1, rfl, by omega, by omega⟩
          obtain ⟨o2, rfl, ho1, ho2⟩ := hoo2
          refine ⟨rfl, zs, rfl, ⟨hz0, hz1⟩, hw, ⟨ho1, by omega, by omega⟩, ⟨hs1, by omega⟩, fun k h1 h2 h3 => ?_⟩
          have hgk : Good k := ⟨fun z hz => hw z (h3 z hz), by omega, by omega⟩
          have hkl := length_placesL ks
          refine ⟨by rw [List.length_map]; exact Nat.lt_of_le_of_lt (show ks.length ≤ 15 by omega) (by decide), rfl, k, rfl, hgk, by have := hgk.o; omega, hK _ ⟨ks ++ [k], l - (((places k).map D.str).length : Int), Sl.d x, Sl.d (.int s), Sl.d (plain k), ?_, fun j hj => ?_, ?_, ?_⟩⟩
          · rw [List.map_append]
            rfl
          · rcases List.mem_append.mp hj with q | q
            · exact hk j q
            · rw [List.mem_singleton.mp q]
              exact ⟨by omega, h3⟩
          · rw [placesL_app, placesL_one, List.length_append, List.length_map]
            omega
          · rw [List.length_map]
            omega
        · rw [decide_eq_false hlp]
          exact hK _ ⟨ks, l, _, b, c, rfl, hk, hl, h0⟩
      · intro ρ hI
        obtain ⟨ks, l, a, b, c, rfl, hk, hl, h0⟩ := hI
        refine ⟨rfl, ⟨by rw [List.length_map]; omega, by rw [List.length_map]; omega⟩, fun y hy => ⟨line rfl, ?_⟩⟩
        obtain ⟨z, hz, rfl⟩ := List.mem_map.mp hy
        have hqk := hq (.mk ks z) (by
          have h1 : ordL ks ≤ o.toNat := ordL_le fun k hkk => by have := (hk k hkk).1; omega
          show ((ordL ks : Nat) : Int) ≤ o
          omega) (by
          rw [places, List.length_append]
          have e : [z].length = 1 := rfl
          omega) (fun y hy => by
          rw [places] at hy
          rcases List.mem_append.mp hy with q | q
          · rw [placesL_map] at q
            obtain ⟨w, hw1, hw2⟩ := List.mem_flatten.mp q
            obtain ⟨k, hk1, rfl⟩ := List.mem_map.mp hw1
            exact (hk k hk1).2 y hw2
          · rw [List.mem_singleton.mp q]
            exact hz)
        rw [plain_mk] at hqk
        exact hqk
    · rw [decide_eq_false hop]
      refine ⟨by decide, by decide, ?_⟩
      have hI : ∃ (ks : List Kd) (l : Int) (a b c : Sl), [Sl.d .tok, Sl.d (.lst (zs.map .str)), Sl.d (.int o), Sl.d (.int m), Sl.own [], Sl.d (.int (m - 1)), Sl.no, Sl.no, Sl.no] = [Sl.d .tok, Sl.d (.lst (zs.map .str)), Sl.d (.int o), Sl.d (.int m), Sl.own (ks.map plain), Sl.d (.int l), a, b, c] ∧ (∀ k ∈ ks, (ord k : Int) < o ∧ ∀ z ∈ places k, z ∈ zs) ∧ l = m - 1 - ((placesL ks).length : Int) ∧ 0 ≤ l := ⟨[], m - 1, _, _, _, rfl, fun _ h => absurd h List.not_mem_nil, by rw [placesL]; simp, by omega⟩
      refine ⟨rfl, ⟨by rw [List.length_map]; omega, by rw [List.length_map]; omega⟩, fun y hy => ⟨line rfl, ?_⟩⟩
      obtain ⟨z, hz, rfl⟩ := List.mem_map.mp hy
      have hqk := hq (.mk [] z) (by show ((ordL [] : Nat) : Int) ≤ o; rw [ordL]; omega) (by rw [places, placesL]; show ((1 : Nat) : Int) ≤ m; omega) (fun y hy => by
        rw [places, placesL] at hy
        rw [List.mem_singleton.mp hy]
        exact hz)
      rw [plain_mk] at hqk
      exact hqk

theorem rs__law_kind {P : Program} {w : World} {mg : Gm} {base : Heap} {Z : Ads} (A : All mg Z) (G__law_atoms_of : DefOk P w mg base 6 "_law_atoms_of" 1 (f_plainK d_places 5)) (G__law_pick : DefOk P w mg base 2 "_law_pick" 2 f_pick) (G__law_roll : DefOk P w mg base 1 "_law_roll" 2 f_roll) : ∀ d : Nat, DefOk P w mg base (d + 6) "_law_kind" 4 (f_kind d)
  | 0 => nv__law_kind A
  | d + 1 => ok__law_kind A G__law_atoms_of (rs__law_kind A G__law_atoms_of G__law_pick G__law_roll d) G__law_pick G__law_roll

theorem ok__law_drawn {P : Program} {w : World} {mg : Gm} {base : Heap} {Z : Ads} (A : All mg Z) (G__law_kind : DefOk P w mg base 11 "_law_kind" 4 (f_kind 5)) (G__law_made_kind : DefOk P w mg base 9 "_law_made_kind" 1 (f_plainK typeD 5)) (G__law_roll : DefOk P w mg base 1 "_law_roll" 2 f_roll) : DefOk P w mg base 14 "_law_drawn" 2 f_drawn := by
  refine mkDef (N := ["_law_dice_here", "_law_most"]) (ps := ["_law_dice_here", "_law_most"]) A.d__law_drawn sc__law_drawn (fun _ _ _ _ _ _ us hl => match us, hl with | [_, _], _ => rfl) fun fa cdv Ar outer s H E hr => ⟨_,
    (dss_one (ds_ret (de_call G__law_made_kind (fun _ => hr.mono (by omega)) (fun _ => pas (takes_of rfl rfl rfl rfl)) (da_cons (de_call G__law_kind (fun _ => hr.mono (by omega)) (fun _ => pas (takes_of rfl rfl rfl rfl)) (da_cons (de_var 0) (da_cons (de_lst (da_cons de_str (da_cons de_str (da_cons de_str da_nil)))) (da_cons (de_call G__law_roll (fun _ => hr.mono (by omega)) (fun _ => pas (takes_of rfl rfl rfl rfl)) (da_cons (de_var 0) (da_cons de_int da_nil))) (da_cons (de_var 1) da_nil))))) da_nil)))),  fun ds Q Ex hl hf => ?_⟩
  match ds, hl, hf with
  | [.tok, .int m], _, ⟨⟨hm0, hm1⟩, hq⟩ =>
    change (_ : DTS) _ [Sl.d .tok, Sl.d (.int m)]
    have hw3 : ∀ z ∈ (["a", "b", "c"] : List Str), isWordS z = true := by decide +kernel
    refine ⟨line rfl, ?_⟩
    refine ⟨rfl, ⟨by decide, by decide⟩, fun r hr0 hr1 => ?_⟩
    refine ⟨rfl, ["a", "b", "c"], rfl, ⟨by decide, by decide⟩, hw3, ⟨hr0, by omega, by omega⟩, ⟨hm0, hm1⟩, fun k h1 h2 h3 => ?_⟩
    have hg : Good k := ⟨fun z hz => hw3 z (h3 z hz), by omega, by omega⟩
    exact ⟨rfl, k, rfl, hg, Nat.lt_succ_of_le hg.o, hq k hg h2 (by omega) h3⟩

end K06

namespace K06
open PySem L2 FP
variable [FP.Tabl]
open KP

theorem ok__law_right {P : Program} {w : World} {mg : Gm} {base : Heap} {Z : Ads} (A : All mg Z) (G_Type___eq__ : SpecOk P w mg base 1 Z.a_Type "__eq__" 2 f_eq) (G_Type___getitem__ : SpecOk P w mg base 3 Z.a_Type "__getitem__" 2 f_item) (G_Type___len__ : SpecOk P w mg base 1 Z.a_Type "__len__" 1 (f_tell d_len)) (G_Type___mod__ : SpecOk P w mg base 4 Z.a_Type "__mod__" 2 f_mod) (G_Type___rshift__ : SpecOk P w mg base 4 Z.a_Type "__rshift__" 2 f_rsh) (G_Type_atoms : PropOk P w mg base 7 Z.a_Type "atoms" (f_tell d_atoms)) (G_Type_plain : CMethOk P w mg base 4 Z.a_Type "plain" 2 f_plain) (G_Type_put : MethOk P w mg base 11 Z.a_Type "put" 3 f_put) (G_Type_renamed : MethOk P w mg base 11 Z.a_Type "renamed" 2 f_renamed6) (G__law_drawn : DefOk P w mg base 14 "_law_drawn" 2 f_drawn) (G__law_some : DefOk P w mg base 2 "_law_some" 3 f_some) : DefOk P w mg base 18 "_law_right" 1 f_right6 := by
  refine mkDef (N := ["_law_dice_here", "_law_one", "_law_other", "_law_third", "_law_fresh", "_law_names", "_law_back", "_law_plain", "_law_turned", "_law_word", "_law_wanted"]) (ps := ["_law_dice_here"]) A.d__law_right sc__law_right (fun _ _ _ _ _ _ us hl => match us, hl with | [_], _ => rfl) fun fa cdv Ar outer s H E hr => ⟨_,
    (dss_cons (ds_asg (de_tup (da_cons (de_call G__law_drawn (fun _ => hr.mono (by omega)) (fun _ => pas (takes_of rfl rfl rfl rfl)) (da_cons (de_var 0) (da_cons de_int da_nil))) (da_cons (de_call G__law_drawn (fun _ => hr.mono (by omega)) (fun _ => pas (takes_of rfl rfl rfl rfl)) (da_cons (de_var 0) (da_cons de_int da_nil))) (da_cons (de_call G__law_drawn (fun _ => hr.mono (by omega)) (fun _ => pas (takes_of rfl rfl rfl rfl)) (da_cons (de_var 0) (da_cons de_int da_nil))) da_nil)))) (dg_tup (dgs_cons (dg_name (i := 1) (fun _ => sc__law_right.nd)) (dgs_cons (dg_name (i := 2) (fun _ => sc__law_right.nd)) (dgs_cons (dg_name (i := 3) (fun _ => sc__law_right.nd)) dgs_nil)))))
    (dss_cons (ds_if (dt_w (dw_or (dt_cmp (ok_neM A.kc_Type G_Type___eq__ A.eq_Type A.ne_Type (fun _ => hr.mono (by omega))) (de_meth A.kc_Type G_Type_put (fun _ => hr.mono (by omega)) (fun _ => pas (takes_of rfl rfl rfl rfl)) (de_var 1) (da_cons de_str (da_cons (de_cmeth A.kc_Type G_Type_plain (fun _ => hr.mono (by omega)) (fun _ => pas (takes_of rfl rfl rfl rfl)) (da_cons de_str da_nil)) da_nil))) (de_var 1)) (dw_or1 (dt_cmp (ok_neM A.kc_Type G_Type___eq__ A.eq_Type A.ne_Type (fun _ => hr.mono (by omega))) (de_meth A.kc_Type G_Type_put (fun _ => hr.mono (by omega)) (fun _ => pas (takes_of rfl rfl rfl rfl)) (de_var 1) (da_cons de_str (da_cons (de_var 2) da_nil))) (de_var 1)))))
    (dss_one (ds_ret de_bl))
    dss_nil)
    (dss_cons (ds_if (dt_cmp (ok_neM A.kc_Type G_Type___eq__ A.eq_Type A.ne_Type (fun _ => hr.mono (by omega))) (de_meth A.kc_Type G_Type_put (fun _ => hr.mono (by omega)) (fun _ => pas (takes_of rfl rfl rfl rfl)) (de_meth A.kc_Type G_Type_put (fun _ => hr.mono (by omega)) (fun _ => pas (takes_of rfl rfl rfl rfl)) (de_var 1) (da_cons de_str (da_cons (de_cmeth A.kc_Type G_Type_plain (fun _ => hr.mono (by omega)) (fun _ => pas (takes_of rfl rfl rfl rfl)) (da_cons de_str da_nil)) da_nil))) (da_cons de_str (da_cons (de_cmeth A.kc_Type G_Type_plain (fun _ => hr.mono (by omega)) (fun _ => pas (takes_of rfl rfl rfl rfl)) (da_cons de_str da_nil)) da_nil))) (de_var 1))
    (dss_one (ds_ret de_bl))
    dss_nil)
    (dss_cons (ds_if (dt_cmp (ok_neM A.kc_Type G_Type___eq__ A.eq_Type A.ne_Type (fun _ => hr.mono (by omega))) (de_meth A.kc_Type G_Type_put (fun _ => hr.mono (by omega)) (fun _ => pas (takes_of rfl rfl rfl rfl)) (de_meth A.kc_Type G_Type_put (fun _ => hr.mono (by omega)) (fun _ => pas (takes_of rfl rfl rfl rfl)) (de_var 1) (da_cons de_str (da_cons (de_var 2) da_nil))) (da_cons de_str (da_cons (de_var 3) da_nil))) (de_meth A.kc_Type G_Type_put (fun _ => hr.mono (by omega)) (fun _ => pas (takes_of rfl rfl rfl rfl)) (de_var 1) (da_cons de_str (da_cons (de_meth A.kc_Type G_Type_put (fun _ => hr.mono (by omega)) (fun _ => pas (takes_of rfl rfl rfl rfl)) (de_var 2) (da_cons de_str (da_cons (de_var 3) da_nil))) da_nil))))
    (dss_one (ds_ret de_bl))
    dss_nil)
    (dss_cons (ds_set (i := 4) (de_meth A.kc_Type G_Type_put (fun _ => hr.mono (by omega)) (fun _ => pas (takes_of rfl rfl rfl rfl)) (de_var 1) (da_cons de_str (da_cons (de_cmeth A.kc_Type G_Type_plain (fun _ => hr.mono (by omega)) (fun _ => pas (takes_of rfl rfl rfl rfl)) (da_cons de_str da_nil)) da_nil))) (fun _ => sc__law_right.nd))
    (dss_cons (ds_if (dt_cmp (ok_neM A.kc_Type G_Type___eq__ A.eq_Type A.ne_Type (fun _ => hr.mono (by omega))) (de_meth A.kc_Type G_Type_put (fun _ => hr.mono (by omega)) (fun _ => pas (takes_of rfl rfl rfl rfl)) (de_meth A.kc_Type G_Type_put (fun _ => hr.mono (by omega)) (fun _ => pas (takes_of rfl rfl rfl rfl)) (de_var 4) (da_cons de_str (da_cons (de_var 3) da_nil))) (da_cons de_str (da_cons (de_meth A.kc_Type G_Type_put (fun _ => hr.mono (by omega)) (fun _ => pas (takes_of rfl rfl rfl rfl)) (de_var 2) (da_cons de_str (da_cons (de_var 3) da_nil))) da_nil))) (de_meth A.kc_Type G_Type_put (fun _ => hr.mono (by omega)) (fun _ => pas (takes_of rfl rfl rfl rfl)) (de_meth A.kc_Type G_Type_put (fun _ => hr.mono (by omega)) (fun _ => pas (takes_of rfl rfl rfl rfl)) (de_var 4) (da_cons de_str (da_cons (de_var 2) da_nil))) (da_cons de_str (da_cons (de_var 3) da_nil))))
    (dss_one (ds_ret de_bl))
    dss_nil)
    (dss_cons (ds_if (dt_w (dw_or (dt_cmp (ok_neM A.kc_Type G_Type___eq__ A.eq_Type A.ne_Type (fun _ => hr.mono (by omega))) (de_opM A.kc_Type G_Type___mod__ A.op_Type_mod (fun _ => hr.mono (by omega)) (fun _ => pas (takes_of rfl rfl rfl rfl)) (de_opM A.kc_Type G_Type___rshift__ A.op_Type_rshift (fun _ => hr.mono (by omega)) (fun _ => pas (takes_of rfl rfl rfl rfl)) (de_var 2) (de_var 1)) de_int) (de_var 1)) (dw_or (dt_cmp (ok_neM A.kc_Type G_Type___eq__ A.eq_Type A.ne_Type (fun _ => hr.mono (by omega))) (de_ixM A.kc_Type G_Type___getitem__ (fun _ => hr.mono (by omega)) (de_opM A.kc_Type G_Type___rshift__ A.op_Type_rshift (fun _ => hr.mono (by omega)) (fun _ => pas (takes_of rfl rfl rfl rfl)) (de_var 2) (de_var 1)) de_int) (de_var 2)) (dw_or1 (dt_cmp (ok_ne (fun _ => hr.r.units)) (de_callB (ok_lenM A.kc_Type G_Type___len__ (fun _ => hr.mono (by omega))) A.n_len FP.boot_len (da_cons (de_opM A.kc_Type G_Type___rshift__ A.op_Type_rshift (fun _ => hr.mono (by omega)) (fun _ => pas (takes_of rfl rfl rfl rfl)) (de_var 2) (de_var 1)) da_nil)) (de_op ok_add (de_callB (ok_lenM A.kc_Type G_Type___len__ (fun _ => hr.mono (by omega))) A.n_len FP.boot_len (da_cons (de_var 1) da_nil)) (de_callB (ok_lenM A.kc_Type G_Type___len__ (fun _ => hr.mono (by omega))) A.n_len FP.boot_len (da_cons (de_var 2) da_nil))))))))
    (dss_one (ds_ret de_bl))
    dss_nil)
    (dss_cons (ds_set (i := 5) (de_dictP (de_lz A.n_list A.n_zip (da_cons (de_prop A.kc_Type G_Type_atoms (fun _ => hr.mono (by omega)) (de_var 1)) (da_cons (de_call G__law_some (fun _ => hr.mono (by omega)) (fun _ => pas (takes_of rfl rfl rfl rfl)) (da_cons (de_var 0) (da_cons (de_lst (da_cons de_str (da_cons de_str (da_cons de_str (da_cons de_str (da_cons de_str da_nil)))))) (da_cons (de_callB ok_len A.n_len FP.boot_len (da_cons (de_prop A.kc_Type G_Type_atoms (fun _ => hr.mono (by omega)) (de_var 1)) da_nil)) da_nil)))) da_nil))) A.n_dict FP.boot_dict) (fun _ => sc__law_right.nd))
    (dss_cons (ds_set (i := 6) (de_dictP (de_lc (own := [("_law_word", 9)]) (fun _ => sc__law_right.nd) (di_keys (de_var 5)) (fun _ => blkOk_by (by kernel_rfl)) (dg_name (i := 9) (fun _ => sc__law_right.nd)) dts_nil (de_tup (da_cons (de_dget (k := 0) (fun _ => hr.mono (by omega)) (de_var 5) (de_var 9)) (da_cons (de_var 9) da_nil)))) A.n_dict FP.boot_dict) (fun _ => sc__law_right.nd))
    (dss_cons (ds_if (dt_w (dw_or (dt_cmp (ok_neM A.kc_Type G_Type___eq__ A.eq_Type A.ne_Type (fun _ => hr.mono (by omega))) (de_meth A.kc_Type G_Type_renamed (fun _ => hr.mono (by omega)) (fun _ => pas (takes_of rfl rfl rfl rfl)) (de_meth A.kc_Type G_Type_renamed (fun _ => hr.mono (by omega)) (fun _ => pas (takes_of rfl rfl rfl rfl)) (de_var 1) (da_cons (de_var 5) da_nil)) (da_cons (de_var 6) da_nil)) (de_var 1)) (dw_or1 (dt_cmp (ok_ne (fun _ => hr.r.units)) (de_callB (ok_lenM A.kc_Type G_Type___len__ (fun _ => hr.mono (by omega))) A.n_len FP.boot_len (da_cons (de_meth A.kc_Type G_Type_renamed (fun _ => hr.mono (by omega)) (fun _ => pas (takes_of rfl rfl rfl rfl)) (de_var 1) (da_cons (de_var 5) da_nil)) da_nil)) (de_callB (ok_lenM A.kc_Type G_Type___len__ (fun _ => hr.mono (by omega))) A.n_len FP.boot_len (da_cons (de_var 1) da_nil))))))
    (dss_one (ds_ret de_bl))
    dss_nil)
    (dss_cons (ds_setLc (i := 7) (own := [("_law_word", 9)]) (fun _ => sc__law_right.nd) (di_tup (de_prop A.kc_Type G_Type_atoms (fun _ => hr.mono (by omega)) (de_var 1))) (fun _ => blkOk_by (by kernel_rfl)) (dg_name (i := 9) (fun _ => sc__law_right.nd)) dts_nil (de_cmeth A.kc_Type G_Type_plain (fun _ => hr.mono (by omega)) (fun _ => pas takes0) (da_cons (de_dget (k := 0) (fun _ => hr.mono (by omega)) (de_var 5) (de_var 9)) da_nil)) (fun _ => sw_true rfl rfl rfl (by decide +kernel)))
    (dss_cons (ds_if (dt_cmp (ok_eq (fun _ => hr.r.units)) (de_lc (own := [("_law_word", 9)]) (fun _ => sc__law_right.nd) (di_vals (de_var 5)) (fun _ => blkOk_by (by kernel_rfl)) (dg_name (i := 9) (fun _ => sc__law_right.nd)) (dts_one (dt_cmp ok_in (de_var 9) (de_prop A.kc_Type G_Type_atoms (fun _ => hr.mono (by omega)) (de_var 1)))) (de_var 9)) (de_lst da_nil))
    (dss_cons (ds_set (i := 8) (de_var 1) (fun _ => sc__law_right.nd))
    (dss_cons (ds_for (di_zip A.n_zip (da_cons (de_prop A.kc_Type G_Type_atoms (fun _ => hr.mono (by omega)) (de_var 1)) (da_cons (de_var 7) da_nil))) (dg_tup (dgs_cons (dg_name (i := 9) (fun _ => sc__law_right.nd)) (dgs_cons (dg_name (i := 10) (fun _ => sc__law_right.nd)) dgs_nil)))
    (dss_one (ds_set (i := 8) (de_meth A.kc_Type G_Type_put (fun _ => hr.mono (by omega)) (fun _ => pas (takes_of rfl rfl rfl rfl)) (de_var 8) (da_cons (de_var 9) (da_cons (de_var 10) da_nil))) (fun _ => sc__law_right.nd))) (fun _ => passes_of rfl))
    (dss_one (ds_ret (de_cmp (ok_eqM A.kc_Type G_Type___eq__ A.eq_Type (fun _ => hr.mono (by omega))) (de_var 8) (de_meth A.kc_Type G_Type_renamed (fun _ => hr.mono (by omega)) (fun _ => pas (takes_of rfl rfl rfl rfl)) (de_var 1) (da_cons (de_var 5) da_nil)))))))
    dss_nil)
    (dss_one (ds_ret de_bl)))))))))))))),  fun ds Q Ex hl hf => ?_⟩
  match ds, hl, hf with
  | [.tok], _, hq =>
    change (_ : DTS) _ [Sl.d .tok, Sl.no, Sl.no, Sl.no, Sl.no, Sl.no, Sl.no, Sl.no, Sl.no, Sl.no, Sl.no]
    have wa : isWordS "a" = true := by decide +kernel
    have wb : isWordS "b" = true := by decide +kernel
    have wz : isWordS "zz" = true := by decide +kernel
    have gA : Good (.mk [] "a") := Good.leaf wa
    have gZ : Good (.mk [] "zz") := Good.leaf wz
    have lenLf : ∀ z : Str, (places (.mk [] z)).length = 1 := fun z => by rw [places]; rfl
    have ordLf : ∀ z : Str, ord (.mk [] z) = 0 := fun z => by rw [ord, ordL]
    refine ⟨rfl, ⟨by decide, by decide⟩, fun k gk pk ok mk => ?_⟩
    refine ⟨rfl, ⟨by decide, by decide⟩, fun j gj pj oj mj => ?_⟩
    refine ⟨rfl, ⟨by decide, by decide⟩, fun t gt pt ot mt => ⟨line rfl, _, rfl, ?_⟩⟩
    have pk : (places k).length ≤ 4 := by omega
    have pj : (places j).length ≤ 2 := by omega
    have pt : (places t).length ≤ 1 := by omega
    have ot : ord t = 0 := (flat1 pt).2
    have nz : ∀ i : Kd, (∀ z ∈ places i, z ∈ (["a", "b", "c"] : List Str)) → ("zz" : Str) ∉ places i := fun i hi h => absurd (hi _ h) (by decide +kernel)
    have zk := nz k mk
    have zt := nz t mt
    -- a method put, the result whole
    have P : ∀ {z : Str} {i h : Kd} {Q : D → Prop} {E : XD → Prop}, Good i → Good h → isWordS z = true → Good (put z h i) → Q (typeD (put z h i)) → f_put [typeD i, .str z, typeD h] Q E := fun g1 g2 wz g3 q => ⟨_, _, rfl, rfl, g1, g2, wz, fun _ => q, fun n => absurd g3 n⟩
    have PL : ∀ {z : Str} {Q : D → Prop} {E : XD → Prop}, isWordS z = true → Q (typeD (.mk [] z)) → f_plain [.cl "Type", .str z] Q E := fun w q => ⟨rfl, w, q⟩
    have gka : Good (put "a" j k) := good_put gj gk (Nat.le_trans (Nat.mul_le_mul pk pj) (by decide)) (by omega)
    have gkz : Good (put "a" (.mk [] "zz") k) := good_put gZ gk (by rw [lenLf]; omega) (by rw [ordLf]; omega)
    have gjt : ∀ z, Good (put z t j) := fun z => good_put gt gj (Nat.le_trans (Nat.mul_le_mul pj pt) (by decide)) (by omega)
    -- in its own place; absent
    refine meT (k := k) (no_put k) ?_
    refine ⟨rfl, ?_⟩
    refine PL wa ?_
    refine ⟨rfl, P gk gA wa (by rw [put_self]; exact gk) ?_⟩
    rw [put_self]
    refine neT ?_
    rw [decide_eq_true rfl]
    refine meT (k := k) (no_put k) ?_
    refine ⟨rfl, P gk gj wz (by rw [put_absent _ _ _ zk]; exact gk) ?_⟩
    rw [put_absent _ _ _ zk]
    refine neT ?_
    rw [decide_eq_true rfl]
    -- there and back
    refine meT (k := k) (no_put k) ?_
    refine ⟨rfl, ?_⟩
    refine PL wz ?_
    refine ⟨rfl, P gk gZ wa gkz ?_⟩
    refine meT (k := put "a" (.mk [] "zz") k) (no_put _) ?_
    refine ⟨rfl, ?_⟩
    refine PL wa ?_
    refine ⟨rfl, P gkz gA wz (by rw [put_back zk]; exact gk) ?_⟩
    rw [put_back zk]
    refine neT ?_
    rw [decide_eq_true rfl]
    -- one behind the other
    have gkat : Good (put "zz" t (put "a" j k)) := good_put gt gka (Nat.le_trans (Nat.mul_le_mul (put_len_le pk pj) pt) (by decide)) (by have := put_ord "a" j k; omega)
    refine meT (k := k) (no_put k) ?_
    refine ⟨rfl, P gk gj wa gka ?_⟩
    refine meT (k := put "a" j k) (no_put _) ?_
    refine ⟨rfl, P gka gt wz gkat ?_⟩
    refine meT (k := k) (no_put k) ?_
    refine meT (k := j) (no_put j) ?_
    refine ⟨rfl, P gj gt wz (gjt _) ⟨rfl, ?_⟩⟩
    refine P gk (gjt _) wa (by rw [← put_fresh k zk]; exact gkat) ?_
    rw [← put_fresh k zk]
    refine neT ?_
    rw [decide_eq_true rfl]
    -- a fresh word in between
    refine meT (k := k) (no_put k) ?_
    refine ⟨rfl, ?_⟩
    refine PL wz ?_
    refine ⟨rfl, P gk gZ wa gkz ?_⟩
    generalize hf : put "a" (.mk [] "zz") k = f at gkz ⊢
    have pf : (places f).length ≤ 4 := by rw [← hf]; exact Nat.le_trans (put_len_le pk (Nat.le_of_eq (lenLf _))) (by decide)
    have of : ord f ≤ 2 := by
      rw [← hf]
      have := put_ord "a" (.mk [] "zz") k
      rw [ordLf] at this
      omega
    have gft : Good (put "b" t f) := good_put gt gkz (Nat.le_trans (Nat.mul_le_mul pf pt) (by decide)) (by omega)
    have gfj : Good (put "zz" j f) := good_put gj gkz (Nat.le_trans (Nat.mul_le_mul pf pj) (by decide)) (by omega)
    have gfjt : Good (put "b" t (put "zz" j f)) := good_put gt gfj (Nat.le_trans (Nat.mul_le_mul (put_len_le pf pj) pt) (by decide)) (by have := put_ord "zz" j f; omega)
    have e5 : put "b" t (put "zz" j f) = put "zz" (put "b" t j) (put "b" t f) := put_put (by decide +kernel) zt f
    refine meT (k := f) (no_put f) ?_
    refine ⟨rfl, P gkz gt wb gft ?_⟩
    refine meT (k := put "b" t f) (no_put _) ?_
    refine meT (k := j) (no_put j) ?_
    refine ⟨rfl, P gj gt wb (gjt _) ⟨rfl, ?_⟩⟩
    refine P gft (gjt _) wz (by rw [← e5]; exact gfjt) ?_
    rw [← e5]
    refine meT (k := f) (no_put f) ?_
    refine ⟨rfl, P gkz gj wz gfj ?_⟩
    refine meT (k := put "zz" j f) (no_put _) ?_
    refine ⟨rfl, P gfj gt wb gfjt ?_⟩
    refine neT ?_
    rw [decide_eq_true rfl]
    -- put in front, taken away
    have gF : Good (.mk (j :: k.as) k.a) := by
      refine ⟨(mid_front gk gj).w, ?_, ?_⟩
      · rw [places, placesL, List.length_append, List.length_append]
        have := Kd.len_eq k
        show _ + _ + 1 ≤ _
        omega
      · rw [ord_front]
        omega
    have FR : ∀ {Q : D → Prop} {E : XD → Prop}, Q (typeD (.mk (j :: k.as) k.a)) → f_rsh [typeD j, typeD k] Q E := fun q => ⟨j, k, rfl, rfl, gj, gk, fun _ => q, fun n => absurd gF n⟩
    refine opT (k := j) (opK_T k) (FR ?_)
    refine opT (k := .mk (j :: k.as) k.a) opK_int ?_
    refine ⟨_, rfl, gF, by decide, by show (1 : Int) ≤ ((j :: k.as).length : Nat); rw [List.length_cons]; omega, ?_⟩
    have e6 : Kd.mk (((Kd.mk (j :: k.as) k.a).as).drop (1 : Int).toNat) (Kd.mk (j :: k.as) k.a).a = k := by cases k; rfl
    rw [e6]
    refine neT ?_
    rw [decide_eq_true rfl]
    refine opT (k := j) (opK_T k) (FR ?_)
    refine ixT (k := .mk (j :: k.as) k.a) (j := j) gF (by decide) rfl ?_
    refine neT ?_
    rw [decide_eq_true rfl]
    refine opT (k := j) (opK_T k) (FR ?_)
    refine lnT gF ?_
    refine lnT gk ?_
    refine lnT gj ?_
    have e7 : ((places (Kd.mk (j :: k.as) k.a)).length : Int) = ((places k).length : Int) + ((places j).length : Int) := by
      have := Kd.len_eq k
      rw [places, placesL, List.length_append, List.length_append]
      show (((places j).length + (placesL k.as).length + 1 : Nat) : Int) = _
      omega
    refine addI ?_
    refine ne_int0 e7 ?_
    -- names
    have hl1 := signed_len k true
    have hl2 := signed_len k false
    have hu := sortU_len (signed k true ++ signed k false)
    rw [List.length_append] at hu
    have h3 : (sortU (signed k true ++ signed k false)).length ≤ 3 := by
      have := nodup_len_le (ys := (["a", "b", "c"] : List Str)) (sortU_nodup (signed k true ++ signed k false)) fun z hz => mk z (by rw [atoms_places, sortU_mem] at hz; exact hz)
      exact this
    refine prT gk ?_
    refine ⟨line rfl, ?_⟩
    refine prT gk ?_
    refine lenT ?_
    rw [List.length_map]
    refine ⟨rfl, by decide, ⟨by omega, by omega⟩, fun ys zs hp hlen => ?_⟩
    obtain ⟨bs, cs, rfl, rfl, hp2⟩ := strs_of_perm (xs := ["a", "p", "qq", "c", "x"]) hp
    rw [List.length_map] at hlen
    have hbl : bs.length = (sortU (signed k true ++ signed k false)).length := by
      rw [hlen]
      show min _ 5 = _
      omega
    have hbn : bs.Nodup := (List.nodup_append.mp (hp2.nodup_iff.mpr (by decide +kernel))).1
    have hbw : ∀ b ∈ bs, isWordS b = true := fun b hb => by
      have h := hp2.mem_iff.mp (List.mem_append_left cs hb)
      have all : ∀ z ∈ (["a", "p", "qq", "c", "x"] : List Str), isWordS z = true := by decide +kernel
      exact all b h
    refine ⟨_, _, rfl, rfl, ?_, ?_⟩
    · rw [zipD_len, List.length_map, List.length_map]
      exact size_small (by omega)
    rw [zipD_strs]
    refine ⟨_, pairs_zip _ _, ?_⟩
    have hkeys := zip_keys hbl
    rw [merge_dctS (by rw [hkeys]; exact sortU_nodup _)]
    have hvals : ((sortU (signed k true ++ signed k false)).zip bs).map (·.2) = bs := List.map_snd_zip (Nat.le_of_eq hbl)
    generalize hkv : (sortU (signed k true ++ signed k false)).zip bs = kvs at hkeys hvals ⊢
    have N : Names k kvs := ⟨hkeys, by rw [hvals]; exact hbn, fun p hp => hbw p.2 (by rw [← hvals]; exact List.mem_map.mpr ⟨p, hp, rfl⟩)⟩
    have hkl : kvs.length = (sortU (signed k true ++ signed k false)).length := by rw [← hkeys, List.length_map]
    -- back
    have eK : (dctS kvs).map (fun kv => kD kv.1) = (kvs.map (·.1)).map D.str := by unfold dctS; rw [List.map_map, List.map_map]; rfl
    have GET : ∀ {p : Str × Str} {Q : D → Prop}, p ∈ kvs → Q (.str (mapS kvs p.1)) → rdDGet (.dct (dctS kvs)) (.str p.1) Q := fun {p Q} hp q => by
      refine ⟨.inr p.1, _, rfl, ?_, q⟩
      rw [val_dctS]
      unfold mapS
      have h1 : (kvs.find? fun q => decide (q.1 = p.1)).isSome = true := List.find?_isSome.mpr ⟨p, hp, decide_eq_true rfl⟩
      obtain ⟨q, hq⟩ := Option.isSome_iff_exists.mp h1
      rw [hq]
      rfl
    have GETz : ∀ {z : Str} {Q : D → Prop}, z ∈ kvs.map (·.1) → Q (.str (mapS kvs z)) → rdDGet (.dct (dctS kvs)) (.str z) Q := fun {z Q} hz q => by
      obtain ⟨p, hp, rfl⟩ := List.mem_map.mp hz
      exact GET hp q
    show ((dctS kvs).map (fun kv => kD kv.1)).length ≤ sizeLine ∧ lcD _ ((dctS kvs).map (fun kv => kD kv.1)) _
    rw [eK]
    refine ⟨by rw [List.length_map, List.length_map]; exact size_small (by omega), lc_of D.str (fun z => D.tup [.str (mapS kvs z), .str z]) (kvs.map (·.1)) _ (fun z hz K hK => ⟨_, rfl, GETz hz ⟨line rfl, hK⟩⟩) ?_⟩
    refine ⟨_, dict_back kvs N.ndk, ?_⟩
    rw [merge_dctS (by rw [swap_keys]; exact N.nd)]
    have gR := N.good gk
    have eB : ren (mapS (swapP kvs)) (ren (mapS kvs) k) = k := ren_back N.ndk N.nd fun z hz => N.mem.mpr hz
    have REN : ∀ {Q : D → Prop} {E : XD → Prop}, Q (typeD (ren (mapS kvs) k)) → f_renamed6 [typeD k, .dct (dctS kvs)] Q E := fun q => ⟨k, kvs, rfl, rfl, gk, hkl, fun z hz => by rw [hkeys]; exact hz, N.w, q⟩
    have swl : (swapP kvs).length = kvs.length := by unfold swapP; rw [List.length_map]
    refine meT (k := k) (no_renamed k) ?_
    refine ⟨rfl, REN ?_⟩
    refine meT (k := ren (mapS kvs) k) (no_renamed _) ?_
    refine ⟨rfl, ren (mapS kvs) k, swapP kvs, rfl, rfl, gR, by rw [swl]; exact N.new.2, fun z hz => by rw [swap_keys]; exact N.new.1 z hz, fun p hp => ?_, ?_⟩
    · unfold swapP at hp
      obtain ⟨q, hq, rfl⟩ := List.mem_map.mp hp
      exact gk.w _ (N.mem.mp (List.mem_map.mpr ⟨q, hq, rfl⟩))
    rw [eB]
    refine neT ?_
    rw [decide_eq_true rfl]
    refine meT (k := k) (no_renamed k) ?_
    refine ⟨rfl, REN ?_⟩
    refine lnT gR ?_
    refine lnT gk ?_
    refine ne_int0 (by rw [places_ren, List.length_map]) ?_
    -- one by one
    refine prT gk ?_
    refine ⟨by rw [List.length_map]; exact size_small (by omega), lc_of D.str (fun z => typeD (.mk [] (mapS kvs z))) (sortU (signed k true ++ signed k false)) _ (fun z hz K hK => ⟨_, rfl, ?_⟩) ?_⟩
    · refine GETz (by rw [hkeys]; exact hz) ?_
      refine ⟨rfl, ?_⟩
      refine PL ?_ hK
      have h := N.mem.mp (show z ∈ kvs.map (·.1) by rw [hkeys]; exact hz)
      exact mapS_word N.w (gk.w z h)
    have eV : (dctS kvs).map (·.2) = (kvs.map (·.2)).map D.str := by unfold dctS; rw [List.map_map, List.map_map]; rfl
    show ((dctS kvs).map (·.2)).length ≤ sizeLine ∧ lcD _ ((dctS kvs).map (·.2)) _
    rw [eV]
    refine ⟨by rw [List.length_map, List.length_map]; exact size_small (by omega), ?_⟩
    refine lc_if D.str (fun z => if decide (z ∈ sortU (signed k true ++ signed k false)) = true then some (D.str z) else none) (kvs.map (·.2)) _ ?_ ?_
    · intro z _ K hK
      refine ⟨_, rfl, ?_⟩
      refine prT gk ?_
      refine in_strsT ?_
      cases hz : decide (z ∈ sortU (signed k true ++ signed k false)) with
      | true =>
        rw [hz, if_pos rfl] at hK
        exact hK
      | false =>
        rw [hz, if_neg Bool.false_ne_true] at hK
        exact hK
    rw [filter_strs]
    refine ⟨line rfl, eq_nil (sh_lst (n := 63) (shDs_of fun d hd => ?_)) ?_⟩
    · obtain ⟨z, hz, rfl⟩ := List.mem_map.mp hd
      have hz2 := (List.mem_filter.mp hz).1
      have hzw : isWordS z = true := by
        obtain ⟨p, hp, e⟩ := List.mem_map.mp hz2
        rw [← e]
        exact N.w p hp
      exact sh_str ((Good.leaf hzw).chars z (by rw [places]; simp))
    cases hF : (kvs.map (·.2)).filter (fun z => decide (z ∈ sortU (signed k true ++ signed k false))) with
    | cons _ _ => exact hq
    | nil =>
      have hd : ∀ z ∈ kvs.map (·.2), z ∉ kvs.map (·.1) := fun z hz q => by
        rw [hkeys] at q
        have h : z ∈ (kvs.map (·.2)).filter (fun z => decide (z ∈ sortU (signed k true ++ signed k false))) := by
          rw [List.mem_filter]
          exact ⟨hz, decide_eq_true q⟩
        rw [hF] at h
        cases h
      refine prT gk ?_
      refine ⟨_, _, rfl, rfl, ?_⟩
      have eZ := zip_leaves N.ndk
      rw [hkeys] at eZ
      rw [eZ]
      refine for_of (fun p : Str × Str => D.tup [.str p.1, typeD (.mk [] p.2)]) (fun pre ρ => ∃ n b x y w, ρ = [Sl.d .tok, Sl.d (typeD k), Sl.d (typeD j), Sl.d (typeD t), Sl.d (typeD f), Sl.d n, Sl.d b, x, Sl.d (typeD (putAll1 k pre)), y, w] ∧ n = .dct (dctS kvs)) kvs [] _ ⟨_, _, _, _, _, rfl, rfl⟩ ?_ ?_
      · rintro p pre post eq ρ K ⟨n, b, x, y, w, rfl, rfl⟩ hK
        rw [List.nil_append] at eq
        have hp : p ∈ kvs := by rw [eq]; simp
        have hpre : ∀ q ∈ pre, isWordS q.2 = true := fun q hq => N.w q (by rw [eq]; exact List.mem_append_left _ hq)
        have g1 := good_putAll1 pre k gk hpre
        have e1 : putAll1 k (pre ++ [p]) = put p.1 (.mk [] p.2) (putAll1 k pre) := by rw [putAll1_app]; rfl
        have g2 : Good (putAll1 k (pre ++ [p])) := good_putAll1 _ k gk fun q hq => by
          rcases List.mem_append.mp hq with h | h
          · exact hpre q h
          · rw [List.mem_singleton.mp h]; exact N.w p hp
        have wp : isWordS p.1 = true := gk.w _ (N.mem.mp (List.mem_map.mpr ⟨p, hp, rfl⟩))
        refine ⟨_, rfl, ?_⟩
        refine meT (k := putAll1 k pre) (no_put _) ?_
        refine ⟨rfl, P g1 (Good.leaf (N.w p hp)) wp (by rw [← e1]; exact g2) ?_⟩
        rw [← e1]
        exact hK _ ⟨_, _, _, _, _, rfl, rfl⟩
      · rintro ρ ⟨n, b, x, y, w, rfl, rfl⟩
        rw [List.nil_append, putAll1_ren kvs k N.ndk hd]
        refine meT (k := k) (no_renamed k) ?_
        refine ⟨rfl, REN ?_⟩
        refine eqT ?_
        rw [decide_eq_true rfl]
        exact hq

theorem ok_law {P : Program} {w : World} {mg : Gm} {base : Heap} {Z : Ads} (A : All mg Z) (G__law_dice : DefOk P w mg base 1 "_law_dice" 2 f_dice) (G__law_right : DefOk P w mg base 18 "_law_right" 1 f_right6) : DefOk P w mg base 19 "law" 1 f_law := by
  refine mkDef (N := ["_law_script", "_law_spot", "_law_dice_here", "_law_turn"]) (ps := ["_law_script"]) A.d_law sc_law (fun _ _ _ _ _ _ us hl => match us, hl with | [_], _ => rfl) fun fa cdv Ar outer s H E hr => ⟨_,
    (dss_cons (ds_for (di_range1 A.n_range (da_cons (de_callB ok_max A.n_max FP.boot_max (da_cons de_int (da_cons (de_callB ok_min A.n_min FP.boot_min (da_cons de_int (da_cons (de_callB ok_len A.n_len FP.boot_len (da_cons (de_var 0) da_nil)) da_nil))) da_nil))) da_nil)) (dg_name (i := 1) (fun _ => sc_law.nd))
    (dss_cons (ds_set (i := 2) (de_call G__law_dice (fun _ => hr.mono (by omega)) (fun _ => pas (takes_of rfl rfl rfl rfl)) (da_cons (de_var 0) (da_cons (de_var 1) da_nil))) (fun _ => sc_law.nd))
    (dss_one (ds_for (di_range1 A.n_range (da_cons de_int da_nil)) (dg_name (i := 3) (fun _ => sc_law.nd))
    (dss_one (ds_if (dt_not (dt_val (de_call G__law_right (fun _ => hr.mono (by omega)) (fun _ => pas (takes_of rfl rfl rfl rfl)) (da_cons (de_var 2) da_nil))))
    (dss_one (ds_ret de_bl))
    dss_nil)) (fun _ => passes_of rfl)))) (fun _ => passes_of rfl))
    (dss_one (ds_ret de_bl))),  fun ds Q Ex hl hf => ?_⟩
  match ds, hl, hf with
  | [.fz xs], _, ⟨⟨ns, hx, hn⟩, hq⟩ =>
    subst hx
    change (_ : DTS) _ [Sl.d (.fz (ns.map D.int)), Sl.no, Sl.no, Sl.no]
    have hm := spots (ns.map D.int).length
    refine ⟨by omega, by omega, ?_⟩
    refine forD_inv (fun ρ => ∃ a c d, ρ = [Sl.d (.fz (ns.map D.int)), a, c, d]) _ _ ⟨_, _, _, rfl⟩ ?_ ?_
    · rintro x hx ρ K ⟨a, c, d, rfl⟩ hK
      obtain ⟨j, rfl, hj⟩ := mem_range hx
      refine ⟨_, rfl, rfl, ⟨ns, rfl⟩, ⟨by omega, by omega⟩, ?_⟩
      refine ⟨by decide, by decide, ?_⟩
      refine forD_inv (fun ρ => ∃ a d, ρ = [Sl.d (.fz (ns.map D.int)), a, Sl.d .tok, d]) _ _ ⟨_, _, rfl⟩ ?_ ?_
      · rintro y hy ρ' K' ⟨a, d, rfl⟩ hK'
        exact ⟨_, rfl, rfl, hK' _ ⟨_, _, rfl⟩⟩
      · rintro ρ' ⟨a, d, rfl⟩
        exact hK _ ⟨_, _, _, rfl⟩
    · rintro ρ ⟨a, c, d, rfl⟩
      exact hq

end K06

namespace K06
open PySem L2 FP
variable [FP.Tabl]

theorem all_mk {K : PySem.W.Frag} {h : Heap} {mg : Str → Option Value} (X : K.In h) (G : h.Ns mainGlobals mg)
    {t_ARROW : Tok}
    {t_LETTERS : Tok}
    {t_LONGEST : Tok}
    {t_MAX_LETTERS : Tok}
    {t_MAX_ORDER : Tok}
    {t_MAX_PLACES : Tok}
    {C_KindReader : Addr}
    {C_Type : Addr}
    {f_is_integer : Addr} {od_is_integer an_is_integer : Option Addr} {sl_is_integer : Array (Option Value)} {oc_is_integer kV_is_integer dc_is_integer pm_is_integer cd_is_integer ct_is_integer : Value}
    {f_is_within : Addr} {od_is_within an_is_within : Option Addr} {sl_is_within : Array (Option Value)} {oc_is_within kV_is_within dc_is_within pm_is_within cd_is_within ct_is_within : Value}
    {f_is_word : Addr} {od_is_word an_is_word : Option Addr} {sl_is_word : Array (Option Value)} {oc_is_word kV_is_word dc_is_word pm_is_word cd_is_word ct_is_word : Value}
    {f_is_renaming : Addr} {od_is_renaming an_is_renaming : Option Addr} {sl_is_renaming : Array (Option Value)} {oc_is_renaming kV_is_renaming dc_is_renaming pm_is_renaming cd_is_renaming ct_is_renaming : Value}
    {f_signs_of : Addr} {od_signs_of an_signs_of : Option Addr} {sl_signs_of : Array (Option Value)} {oc_signs_of kV_signs_of dc_signs_of pm_signs_of cd_signs_of ct_signs_of : Value}
    {f_KindReader___init__ : Addr} {od_KindReader___init__ an_KindReader___init__ : Option Addr} {sl_KindReader___init__ : Array (Option Value)} {oc_KindReader___init__ kV_KindReader___init__ dc_KindReader___init__ pm_KindReader___init__ cd_KindReader___init__ ct_KindReader___init__ : Value}
    {f_KindReader_take : Addr} {od_KindReader_take an_KindReader_take : Option Addr} {sl_KindReader_take : Array (Option Value)} {oc_KindReader_take kV_KindReader_take dc_KindReader_take pm_KindReader_take cd_KindReader_take ct_KindReader_take : Value}
    {f_KindReader_take_end : Addr} {od_KindReader_take_end an_KindReader_take_end : Option Addr} {sl_KindReader_take_end : Array (Option Value)} {oc_KindReader_take_end kV_KindReader_take_end dc_KindReader_take_end pm_KindReader_take_end cd_KindReader_take_end ct_KindReader_take_end : Value}
    {f_KindReader_result : Addr} {od_KindReader_result an_KindReader_result : Option Addr} {sl_KindReader_result : Array (Option Value)} {oc_KindReader_result kV_KindReader_result dc_KindReader_result pm_KindReader_result cd_KindReader_result ct_KindReader_result : Value}
    {f_shape_of : Addr} {od_shape_of an_shape_of : Option Addr} {sl_shape_of : Array (Option Value)} {oc_shape_of kV_shape_of dc_shape_of pm_shape_of cd_shape_of ct_shape_of : Value}
    {f_kind_in : Addr} {od_kind_in an_kind_in : Option Addr} {sl_kind_in : Array (Option Value)} {oc_kind_in kV_kind_in dc_kind_in pm_kind_in cd_kind_in ct_kind_in : Value}
    {f_order_of : Addr} {od_order_of an_order_of : Option Addr} {sl_order_of : Array (Option Value)} {oc_order_of kV_order_of dc_order_of pm_order_of cd_order_of ct_order_of : Value}
    {f_input_text : Addr} {od_input_text an_input_text : Option Addr} {sl_input_text : Array (Option Value)} {oc_input_text kV_input_text dc_input_text pm_input_text cd_input_text ct_input_text : Value}
    {f_Type___init__ : Addr} {od_Type___init__ an_Type___init__ : Option Addr} {sl_Type___init__ : Array (Option Value)} {oc_Type___init__ kV_Type___init__ dc_Type___init__ pm_Type___init__ cd_Type___init__ ct_Type___init__ : Value}
    {f_Type_read : Addr} {od_Type_read an_Type_read : Option Addr} {sl_Type_read : Array (Option Value)} {oc_Type_read kV_Type_read dc_Type_read pm_Type_read cd_Type_read ct_Type_read : Value}
    {p_Type_read : Addr} {rs_Type_read : List Value}
    {f_Type_plain : Addr} {od_Type_plain an_Type_plain : Option Addr} {sl_Type_plain : Array (Option Value)} {oc_Type_plain kV_Type_plain dc_Type_plain pm_Type_plain cd_Type_plain ct_Type_plain : Value}
    {p_Type_plain : Addr} {rs_Type_plain : List Value}
    {f_Type_inputs : Addr} {od_Type_inputs an_Type_inputs : Option Addr} {sl_Type_inputs : Array (Option Value)} {oc_Type_inputs kV_Type_inputs dc_Type_inputs pm_Type_inputs cd_Type_inputs ct_Type_inputs : Value}
    {p_Type_inputs : Addr} {rs_Type_inputs : List Value}
    {f_Type_atom : Addr} {od_Type_atom an_Type_atom : Option Addr} {sl_Type_atom : Array (Option Value)} {oc_Type_atom kV_Type_atom dc_Type_atom pm_Type_atom cd_Type_atom ct_Type_atom : Value}
    {p_Type_atom : Addr} {rs_Type_atom : List Value}
    {f_Type_text : Addr} {od_Type_text an_Type_text : Option Addr} {sl_Type_text : Array (Option Value)} {oc_Type_text kV_Type_text dc_Type_text pm_Type_text cd_Type_text ct_Type_text : Value}
    {p_Type_text : Addr} {rs_Type_text : List Value}
    {f_Type_order : Addr} {od_Type_order an_Type_order : Option Addr} {sl_Type_order : Array (Option Value)} {oc_Type_order kV_Type_order dc_Type_order pm_Type_order cd_Type_order ct_Type_order : Value}
    {p_Type_order : Addr} {rs_Type_order : List Value}
    {f_Type_atoms : Addr} {od_Type_atoms an_Type_atoms : Option Addr} {sl_Type_atoms : Array (Option Value)} {oc_Type_atoms kV_Type_atoms dc_Type_atoms pm_Type_atoms cd_Type_atoms ct_Type_atoms : Value}
    {p_Type_atoms : Addr} {rs_Type_atoms : List Value}
    {f_Type_parts : Addr} {od_Type_parts an_Type_parts : Option Addr} {sl_Type_parts : Array (Option Value)} {oc_Type_parts kV_Type_parts dc_Type_parts pm_Type_parts cd_Type_parts ct_Type_parts : Value}
    {p_Type_parts : Addr} {rs_Type_parts : List Value}
    {f_Type_positive : Addr} {od_Type_positive an_Type_positive : Option Addr} {sl_Type_positive : Array (Option Value)} {oc_Type_positive kV_Type_positive dc_Type_positive pm_Type_positive cd_Type_positive ct_Type_positive : Value}
    {p_Type_positive : Addr} {rs_Type_positive : List Value}
    {f_Type_negative : Addr} {od_Type_negative an_Type_negative : Option Addr} {sl_Type_negative : Array (Option Value)} {oc_Type_negative kV_Type_negative dc_Type_negative pm_Type_negative cd_Type_negative ct_Type_negative : Value}
    {p_Type_negative : Addr} {rs_Type_negative : List Value}
    {f_Type_renamed : Addr} {od_Type_renamed an_Type_renamed : Option Addr} {sl_Type_renamed : Array (Option Value)} {oc_Type_renamed kV_Type_renamed dc_Type_renamed pm_Type_renamed cd_Type_renamed ct_Type_renamed : Value}
    {f_Type_put : Addr} {od_Type_put an_Type_put : Option Addr} {sl_Type_put : Array (Option Value)} {oc_Type_put kV_Type_put dc_Type_put pm_Type_put cd_Type_put ct_Type_put : Value}
    {f_Type___rshift__ : Addr} {od_Type___rshift__ an_Type___rshift__ : Option Addr} {sl_Type___rshift__ : Array (Option Value)} {oc_Type___rshift__ kV_Type___rshift__ dc_Type___rshift__ pm_Type___rshift__ cd_Type___rshift__ ct_Type___rshift__ : Value}
    {f_Type___mod__ : Addr} {od_Type___mod__ an_Type___mod__ : Option Addr} {sl_Type___mod__ : Array (Option Value)} {oc_Type___mod__ kV_Type___mod__ dc_Type___mod__ pm_Type___mod__ cd_Type___mod__ ct_Type___mod__ : Value}
    {f_Type___getitem__ : Addr} {od_Type___getitem__ an_Type___getitem__ : Option Addr} {sl_Type___getitem__ : Array (Option Value)} {oc_Type___getitem__ kV_Type___getitem__ dc_Type___getitem__ pm_Type___getitem__ cd_Type___getitem__ ct_Type___getitem__ : Value}
    {f_Type___len__ : Addr} {od_Type___len__ an_Type___len__ : Option Addr} {sl_Type___len__ : Array (Option Value)} {oc_Type___len__ kV_Type___len__ dc_Type___len__ pm_Type___len__ cd_Type___len__ ct_Type___len__ : Value}
    {f_Type___iter__ : Addr} {od_Type___iter__ an_Type___iter__ : Option Addr} {sl_Type___iter__ : Array (Option Value)} {oc_Type___iter__ kV_Type___iter__ dc_Type___iter__ pm_Type___iter__ cd_Type___iter__ ct_Type___iter__ : Value}
    {f_Type___contains__ : Addr} {od_Type___contains__ an_Type___contains__ : Option Addr} {sl_Type___contains__ : Array (Option Value)} {oc_Type___contains__ kV_Type___contains__ dc_Type___contains__ pm_Type___contains__ cd_Type___contains__ ct_Type___contains__ : Value}
    {f_Type___eq__ : Addr} {od_Type___eq__ an_Type___eq__ : Option Addr} {sl_Type___eq__ : Array (Option Value)} {oc_Type___eq__ kV_Type___eq__ dc_Type___eq__ pm_Type___eq__ cd_Type___eq__ ct_Type___eq__ : Value}
    {f_Type___str__ : Addr} {od_Type___str__ an_Type___str__ : Option Addr} {sl_Type___str__ : Array (Option Value)} {oc_Type___str__ kV_Type___str__ dc_Type___str__ pm_Type___str__ cd_Type___str__ ct_Type___str__ : Value}
    {f_type_of_text : Addr} {od_type_of_text an_type_of_text : Option Addr} {sl_type_of_text : Array (Option Value)} {oc_type_of_text kV_type_of_text dc_type_of_text pm_type_of_text cd_type_of_text ct_type_of_text : Value}
    {f_parts_list : Addr} {od_parts_list an_parts_list : Option Addr} {sl_parts_list : Array (Option Value)} {oc_parts_list kV_parts_list dc_parts_list pm_parts_list cd_parts_list ct_parts_list : Value}
    {f_signed_atoms : Addr} {od_signed_atoms an_signed_atoms : Option Addr} {sl_signed_atoms : Array (Option Value)} {oc_signed_atoms kV_signed_atoms dc_signed_atoms pm_signed_atoms cd_signed_atoms ct_signed_atoms : Value}
    {f_with_atoms_of : Addr} {od_with_atoms_of an_with_atoms_of : Option Addr} {sl_with_atoms_of : Array (Option Value)} {oc_with_atoms_of kV_with_atoms_of dc_with_atoms_of pm_with_atoms_of cd_with_atoms_of ct_with_atoms_of : Value}
    {f_with_type_for : Addr} {od_with_type_for an_with_type_for : Option Addr} {sl_with_type_for : Array (Option Value)} {oc_with_type_for kV_with_type_for dc_with_type_for pm_with_type_for cd_with_type_for ct_with_type_for : Value}
    {f__law_dice : Addr} {od__law_dice an__law_dice : Option Addr} {sl__law_dice : Array (Option Value)} {oc__law_dice kV__law_dice dc__law_dice pm__law_dice cd__law_dice ct__law_dice : Value}
    {f__law_roll : Addr} {od__law_roll an__law_roll : Option Addr} {sl__law_roll : Array (Option Value)} {oc__law_roll kV__law_roll dc__law_roll pm__law_roll cd__law_roll ct__law_roll : Value}
    {f__law_pick : Addr} {od__law_pick an__law_pick : Option Addr} {sl__law_pick : Array (Option Value)} {oc__law_pick kV__law_pick dc__law_pick pm__law_pick cd__law_pick ct__law_pick : Value}
    {f__law_some : Addr} {od__law_some an__law_some : Option Addr} {sl__law_some : Array (Option Value)} {oc__law_some kV__law_some dc__law_some pm__law_some cd__law_some ct__law_some : Value}
    {f__law_atoms_of : Addr} {od__law_atoms_of an__law_atoms_of : Option Addr} {sl__law_atoms_of : Array (Option Value)} {oc__law_atoms_of kV__law_atoms_of dc__law_atoms_of pm__law_atoms_of cd__law_atoms_of ct__law_atoms_of : Value}
    {f__law_kind : Addr} {od__law_kind an__law_kind : Option Addr} {sl__law_kind : Array (Option Value)} {oc__law_kind kV__law_kind dc__law_kind pm__law_kind cd__law_kind ct__law_kind : Value}
    {f__law_made_kind : Addr} {od__law_made_kind an__law_made_kind : Option Addr} {sl__law_made_kind : Array (Option Value)} {oc__law_made_kind kV__law_made_kind dc__law_made_kind pm__law_made_kind cd__law_made_kind ct__law_made_kind : Value}
    {f__law_drawn : Addr} {od__law_drawn an__law_drawn : Option Addr} {sl__law_drawn : Array (Option Value)} {oc__law_drawn kV__law_drawn dc__law_drawn pm__law_drawn cd__law_drawn ct__law_drawn : Value}
    {f__law_right : Addr} {od__law_right an__law_right : Option Addr} {sl__law_right : Array (Option Value)} {oc__law_right kV__law_right dc__law_right pm__law_right cd__law_right ct__law_right : Value}
    {f_law : Addr} {od_law an_law : Option Addr} {sl_law : Array (Option Value)} {oc_law kV_law dc_law pm_law cd_law ct_law : Value}
    {Cx_InvalidType : Addr}
    {Cx_InvalidWord : Addr}
    (z_abs : PySem.W.nsIn K mainGlobals "abs" = some none)
    (z_all : PySem.W.nsIn K mainGlobals "all" = some none)
    (z_bool : PySem.W.nsIn K mainGlobals "bool" = some none)
    (z_dict : PySem.W.nsIn K mainGlobals "dict" = some none)
    (z_int : PySem.W.nsIn K mainGlobals "int" = some none)
    (z_isinstance : PySem.W.nsIn K mainGlobals "isinstance" = some none)
    (z_iter : PySem.W.nsIn K mainGlobals "iter" = some none)
    (z_len : PySem.W.nsIn K mainGlobals "len" = some none)
    (z_list : PySem.W.nsIn K mainGlobals "list" = some none)
    (z_max : PySem.W.nsIn K mainGlobals "max" = some none)
    (z_min : PySem.W.nsIn K mainGlobals "min" = some none)
    (z_range : PySem.W.nsIn K mainGlobals "range" = some none)
    (z_set : PySem.W.nsIn K mainGlobals "set" = some none)
    (z_sorted : PySem.W.nsIn K mainGlobals "sorted" = some none)
    (z_str : PySem.W.nsIn K mainGlobals "str" = some none)
    (z_tuple : PySem.W.nsIn K mainGlobals "tuple" = some none)
    (z_zip : PySem.W.nsIn K mainGlobals "zip" = some none)
    (y_ARROW : PySem.W.nsIn K mainGlobals "ARROW" = some (some (.str " -> " t_ARROW)))
    (y_LETTERS : PySem.W.nsIn K mainGlobals "LETTERS" = some (some (.str "abcdefghijklmnopqrstuvwxyz" t_LETTERS)))
    (y_LONGEST : PySem.W.nsIn K mainGlobals "LONGEST" = some (some (.int 1000000000000000000000000000000000000000000000000000000000000 t_LONGEST)))
    (y_MAX_LETTERS : PySem.W.nsIn K mainGlobals "MAX_LETTERS" = some (some (.int 8 t_MAX_LETTERS)))
    (y_MAX_ORDER : PySem.W.nsIn K mainGlobals "MAX_ORDER" = some (some (.int 4 t_MAX_ORDER)))
    (y_MAX_PLACES : PySem.W.nsIn K mainGlobals "MAX_PLACES" = some (some (.int 15 t_MAX_PLACES)))
    (aC_KindReader : PySem.W.nsIn K mainGlobals "KindReader" = some (some (.ref C_KindReader)))
    (pg_KindReader : PySem.W.plainGet K C_KindReader Str.empty = true)
    (hd_KindReader : PySem.W.hasDictIn K C_KindReader = true)
    (po_KindReader : PySem.W.plainOver K C_KindReader = true)
    (sa_KindReader : PySem.W.findIn K (.ref C_KindReader) "__setattr__" = some (some (.builtin "object.__setattr__")))
    (ha_KindReader : PySem.W.findIn K (.ref C_KindReader) "__class__" = some (some (.builtin "object.__class__")))
    (hn_KindReader : PySem.W.specialIn K (.builtin "object.__class__") "__get__" = some (some (.builtin "getset_descriptor.__get__")))
    (ht_KindReader : PySem.W.takesIn K (.builtin "object.__class__") = some true)
    (hm_KindReader : PySem.W.mroIn K C_KindReader (.type "object") = some true)
    (fa_KindReader_of_rows : PySem.W.findIn K (.ref C_KindReader) "of_rows" = some none)
    (fa_KindReader_of_wants : PySem.W.findIn K (.ref C_KindReader) "of_wants" = some none)
    (aC_Type : PySem.W.nsIn K mainGlobals "Type" = some (some (.ref C_Type)))
    (pg_Type : PySem.W.plainGet K C_Type Str.empty = true)
    (hd_Type : PySem.W.hasDictIn K C_Type = true)
    (po_Type : PySem.W.plainOver K C_Type = true)
    (sa_Type : PySem.W.findIn K (.ref C_Type) "__setattr__" = some (some (.builtin "object.__setattr__")))
    (ha_Type : PySem.W.findIn K (.ref C_Type) "__class__" = some (some (.builtin "object.__class__")))
    (hn_Type : PySem.W.specialIn K (.builtin "object.__class__") "__get__" = some (some (.builtin "getset_descriptor.__get__")))
    (ht_Type : PySem.W.takesIn K (.builtin "object.__class__") = some true)
    (hm_Type : PySem.W.mroIn K C_Type (.type "object") = some true)
    (fa_Type_own_args : PySem.W.findIn K (.ref C_Type) "own_args" = some none)
    (fa_Type_own_atom : PySem.W.findIn K (.ref C_Type) "own_atom" = some none)
    (fa_Type_own_places : PySem.W.findIn K (.ref C_Type) "own_places" = some none)
    (fa_Type_own_order : PySem.W.findIn K (.ref C_Type) "own_order" = some none)
    (fa_Type_own_text : PySem.W.findIn K (.ref C_Type) "own_text" = some none)
    (ic_Type : PySem.W.isClsIn K C_Type = true)
    (ty_Type : PySem.W.typeIn K (.ref C_Type) = some (.type "type"))
    (ki0_Type : PySem.W.subIn K (.type "NoneType") (.ref C_Type) = some false)
    (ki1_Type : PySem.W.subIn K (.type "bool") (.ref C_Type) = some false)
    (ki2_Type : PySem.W.subIn K (.type "int") (.ref C_Type) = some false)
    (ki3_Type : PySem.W.subIn K (.type "str") (.ref C_Type) = some false)
    (ki4_Type : PySem.W.subIn K (.type "tuple") (.ref C_Type) = some false)
    (ki5_Type : PySem.W.subIn K (.type "list") (.ref C_Type) = some false)
    (ki6_Type : PySem.W.subIn K (.type "dict") (.ref C_Type) = some false)
    (nf0_Type : PySem.W.notFirst K C_Type (.type "NoneType") = true)
    (nf1_Type : PySem.W.notFirst K C_Type (.type "bool") = true)
    (nf2_Type : PySem.W.notFirst K C_Type (.type "int") = true)
    (nf3_Type : PySem.W.notFirst K C_Type (.type "str") = true)
    (nf4_Type : PySem.W.notFirst K C_Type (.type "tuple") = true)
    (nf5_Type : PySem.W.notFirst K C_Type (.type "list") = true)
    (nf6_Type : PySem.W.notFirst K C_Type (.type "dict") = true)
    (nf7_Type : PySem.W.notFirst K C_Type (.ref C_Type) = true)
    (nn_Type : PySem.W.findIn K (.ref C_Type) "__ne__" = some (some (.builtin "object.__ne__")))
    (a_is_integer : PySem.W.nsIn K mainGlobals "is_integer" = some (some (.ref f_is_integer)))
    (l_is_integer : K.lookup f_is_integer = some ⟨oc_is_integer, od_is_integer, .func (PySem.W.fnOf "is_integer" "is_integer" (defArgs s_is_integer) (defBody s_is_integer) (defScope s_is_integer) .none kV_is_integer dc_is_integer pm_is_integer an_is_integer cd_is_integer ct_is_integer), sl_is_integer⟩)
    (c_is_integer : PySem.W.codeIn K cd_is_integer "is_integer" = true)
    (k_is_integer : PySem.W.keepIn K (.ref f_is_integer) = true)
    (a_is_within : PySem.W.nsIn K mainGlobals "is_within" = some (some (.ref f_is_within)))
    (l_is_within : K.lookup f_is_within = some ⟨oc_is_within, od_is_within, .func (PySem.W.fnOf "is_within" "is_within" (defArgs s_is_within) (defBody s_is_within) (defScope s_is_within) .none kV_is_within dc_is_within pm_is_within an_is_within cd_is_within ct_is_within), sl_is_within⟩)
    (c_is_within : PySem.W.codeIn K cd_is_within "is_within" = true)
    (k_is_within : PySem.W.keepIn K (.ref f_is_within) = true)
    (a_is_word : PySem.W.nsIn K mainGlobals "is_word" = some (some (.ref f_is_word)))
    (l_is_word : K.lookup f_is_word = some ⟨oc_is_word, od_is_word, .func (PySem.W.fnOf "is_word" "is_word" (defArgs s_is_word) (defBody s_is_word) (defScope s_is_word) .none kV_is_word dc_is_word pm_is_word an_is_word cd_is_word ct_is_word), sl_is_word⟩)
    (c_is_word : PySem.W.codeIn K cd_is_word "is_word" = true)
    (k_is_word : PySem.W.keepIn K (.ref f_is_word) = true)
    (a_is_renaming : PySem.W.nsIn K mainGlobals "is_renaming" = some (some (.ref f_is_renaming)))
    (l_is_renaming : K.lookup f_is_renaming = some ⟨oc_is_renaming, od_is_renaming, .func (PySem.W.fnOf "is_renaming" "is_renaming" (defArgs s_is_renaming) (defBody s_is_renaming) (defScope s_is_renaming) .none kV_is_renaming dc_is_renaming pm_is_renaming an_is_renaming cd_is_renaming ct_is_renaming), sl_is_renaming⟩)
    (c_is_renaming : PySem.W.codeIn K cd_is_renaming "is_renaming" = true)
    (k_is_renaming : PySem.W.keepIn K (.ref f_is_renaming) = true)
    (a_signs_of : PySem.W.nsIn K mainGlobals "signs_of" = some (some (.ref f_signs_of)))
    (l_signs_of : K.lookup f_signs_of = some ⟨oc_signs_of, od_signs_of, .func (PySem.W.fnOf "signs_of" "signs_of" (defArgs s_signs_of) (defBody s_signs_of) (defScope s_signs_of) .none kV_signs_of dc_signs_of pm_signs_of an_signs_of cd_signs_of ct_signs_of), sl_signs_of⟩)
    (c_signs_of : PySem.W.codeIn K cd_signs_of "signs_of" = true)
    (k_signs_of : PySem.W.keepIn K (.ref f_signs_of) = true)
    (a_KindReader___init__ : PySem.W.findIn K (.ref C_KindReader) "__init__" = some (some (.ref f_KindReader___init__)))
    (i_KindReader___init__ : PySem.W.isFn K (.ref f_KindReader___init__) = true)
    (l_KindReader___init__ : K.lookup f_KindReader___init__ = some ⟨oc_KindReader___init__, od_KindReader___init__, .func (PySem.W.fnOf "__init__" "KindReader.__init__" (defArgs s_KindReader___init__) (defBody s_KindReader___init__) (defScope s_KindReader___init__) .none kV_KindReader___init__ dc_KindReader___init__ pm_KindReader___init__ an_KindReader___init__ cd_KindReader___init__ ct_KindReader___init__), sl_KindReader___init__⟩)
    (c_KindReader___init__ : PySem.W.codeIn K cd_KindReader___init__ "KindReader.__init__" = true)
    (k_KindReader___init__ : PySem.W.keepIn K (.ref f_KindReader___init__) = true)
    (mk_KindReader : PySem.W.makesIn K C_KindReader = true)
    (kk_KindReader : PySem.W.keepIn K (.ref C_KindReader) = true)
    (a_KindReader_take : PySem.W.findIn K (.ref C_KindReader) "take" = some (some (.ref f_KindReader_take)))
    (i_KindReader_take : PySem.W.isFn K (.ref f_KindReader_take) = true)
    (l_KindReader_take : K.lookup f_KindReader_take = some ⟨oc_KindReader_take, od_KindReader_take, .func (PySem.W.fnOf "take" "KindReader.take" (defArgs s_KindReader_take) (defBody s_KindReader_take) (defScope s_KindReader_take) .none kV_KindReader_take dc_KindReader_take pm_KindReader_take an_KindReader_take cd_KindReader_take ct_KindReader_take), sl_KindReader_take⟩)
    (c_KindReader_take : PySem.W.codeIn K cd_KindReader_take "KindReader.take" = true)
    (k_KindReader_take : PySem.W.keepIn K (.ref f_KindReader_take) = true)
    (a_KindReader_take_end : PySem.W.findIn K (.ref C_KindReader) "take_end" = some (some (.ref f_KindReader_take_end)))
    (i_KindReader_take_end : PySem.W.isFn K (.ref f_KindReader_take_end) = true)
    (l_KindReader_take_end : K.lookup f_KindReader_take_end = some ⟨oc_KindReader_take_end, od_KindReader_take_end, .func (PySem.W.fnOf "take_end" "KindReader.take_end" (defArgs s_KindReader_take_end) (defBody s_KindReader_take_end) (defScope s_KindReader_take_end) .none kV_KindReader_take_end dc_KindReader_take_end pm_KindReader_take_end an_KindReader_take_end cd_KindReader_take_end ct_KindReader_take_end), sl_KindReader_take_end⟩)
    (c_KindReader_take_end : PySem.W.codeIn K cd_KindReader_take_end "KindReader.take_end" = true)
    (k_KindReader_take_end : PySem.W.keepIn K (.ref f_KindReader_take_end) = true)
    (a_KindReader_result : PySem.W.findIn K (.ref C_KindReader) "result" = some (some (.ref f_KindReader_result)))
    (i_KindReader_result : PySem.W.isFn K (.ref f_KindReader_result) = true)
    (l_KindReader_result : K.lookup f_KindReader_result = some ⟨oc_KindReader_result, od_KindReader_result, .func (PySem.W.fnOf "result" "KindReader.result" (defArgs s_KindReader_result) (defBody s_KindReader_result) (defScope s_KindReader_result) .none kV_KindReader_result dc_KindReader_result pm_KindReader_result an_KindReader_result cd_KindReader_result ct_KindReader_result), sl_KindReader_result⟩)
    (c_KindReader_result : PySem.W.codeIn K cd_KindReader_result "KindReader.result" = true)
    (k_KindReader_result : PySem.W.keepIn K (.ref f_KindReader_result) = true)
    (a_shape_of : PySem.W.nsIn K mainGlobals "shape_of" = some (some (.ref f_shape_of)))
    (l_shape_of : K.lookup f_shape_of = some ⟨oc_shape_of, od_shape_of, .func (PySem.W.fnOf "shape_of" "shape_of" (defArgs s_shape_of) (defBody s_shape_of) (defScope s_shape_of) .none kV_shape_of dc_shape_of pm_shape_of an_shape_of cd_shape_of ct_shape_of), sl_shape_of⟩)
    (c_shape_of : PySem.W.codeIn K cd_shape_of "shape_of" = true)
    (k_shape_of : PySem.W.keepIn K (.ref f_shape_of) = true)
    (a_kind_in : PySem.W.nsIn K mainGlobals "kind_in" = some (some (.ref f_kind_in)))
    (l_kind_in : K.lookup f_kind_in = some ⟨oc_kind_in, od_kind_in, .func (PySem.W.fnOf "kind_in" "kind_in" (defArgs s_kind_in) (defBody s_kind_in) (defScope s_kind_in) .none kV_kind_in dc_kind_in pm_kind_in an_kind_in cd_kind_in ct_kind_in), sl_kind_in⟩)
    (c_kind_in : PySem.W.codeIn K cd_kind_in "kind_in" = true)
    (k_kind_in : PySem.W.keepIn K (.ref f_kind_in) = true)
    (a_order_of : PySem.W.nsIn K mainGlobals "order_of" = some (some (.ref f_order_of)))
    (l_order_of : K.lookup f_order_of = some ⟨oc_order_of, od_order_of, .func (PySem.W.fnOf "order_of" "order_of" (defArgs s_order_of) (defBody s_order_of) (defScope s_order_of) .none kV_order_of dc_order_of pm_order_of an_order_of cd_order_of ct_order_of), sl_order_of⟩)
    (c_order_of : PySem.W.codeIn K cd_order_of "order_of" = true)
    (k_order_of : PySem.W.keepIn K (.ref f_order_of) = true)
    (a_input_text : PySem.W.nsIn K mainGlobals "input_text" = some (some (.ref f_input_text)))
    (l_input_text : K.lookup f_input_text = some ⟨oc_input_text, od_input_text, .func (PySem.W.fnOf "input_text" "input_text" (defArgs s_input_text) (defBody s_input_text) (defScope s_input_text) .none kV_input_text dc_input_text pm_input_text an_input_text cd_input_text ct_input_text), sl_input_text⟩)
    (c_input_text : PySem.W.codeIn K cd_input_text "input_text" = true)
    (k_input_text : PySem.W.keepIn K (.ref f_input_text) = true)
    (a_Type___init__ : PySem.W.findIn K (.ref C_Type) "__init__" = some (some (.ref f_Type___init__)))
    (i_Type___init__ : PySem.W.isFn K (.ref f_Type___init__) = true)
    (l_Type___init__ : K.lookup f_Type___init__ = some ⟨oc_Type___init__, od_Type___init__, .func (PySem.W.fnOf "__init__" "Type.__init__" (defArgs s_Type___init__) (defBody s_Type___init__) (defScope s_Type___init__) .none kV_Type___init__ dc_Type___init__ pm_Type___init__ an_Type___init__ cd_Type___init__ ct_Type___init__), sl_Type___init__⟩)
    (c_Type___init__ : PySem.W.codeIn K cd_Type___init__ "Type.__init__" = true)
    (k_Type___init__ : PySem.W.keepIn K (.ref f_Type___init__) = true)
    (mk_Type : PySem.W.makesIn K C_Type = true)
    (kk_Type : PySem.W.keepIn K (.ref C_Type) = true)
    (rd_Type_read : PySem.W.readsIn K C_Type (.type "type") = true)
    (ga_Type_read : PySem.W.specialIn K (.ref C_Type) "__getattribute__" = some (some (.builtin "type.__getattribute__")))
    (a_Type_read : PySem.W.findCls K (.ref C_Type) (.type "type") "read" = some (.get (.builtin "classmethod.__get__") (.ref p_Type_read) .none (.ref C_Type)))
    (r_Type_read : PySem.W.recIn K p_Type_read "classmethod" = some (.ref f_Type_read :: rs_Type_read))
    (fi_Type_read : PySem.W.fnIn K f_Type_read = true)
    (l_Type_read : K.lookup f_Type_read = some ⟨oc_Type_read, od_Type_read, .func (PySem.W.fnOf "read" "Type.read" (defArgs s_Type_read) (defBody s_Type_read) (defScope s_Type_read) .none kV_Type_read dc_Type_read pm_Type_read an_Type_read cd_Type_read ct_Type_read), sl_Type_read⟩)
    (c_Type_read : PySem.W.codeIn K cd_Type_read "Type.read" = true)
    (k_Type_read : PySem.W.keepIn K (.ref f_Type_read) = true)
    (rd_Type_plain : PySem.W.readsIn K C_Type (.type "type") = true)
    (ga_Type_plain : PySem.W.specialIn K (.ref C_Type) "__getattribute__" = some (some (.builtin "type.__getattribute__")))
    (a_Type_plain : PySem.W.findCls K (.ref C_Type) (.type "type") "plain" = some (.get (.builtin "classmethod.__get__") (.ref p_Type_plain) .none (.ref C_Type)))
    (r_Type_plain : PySem.W.recIn K p_Type_plain "classmethod" = some (.ref f_Type_plain :: rs_Type_plain))
    (fi_Type_plain : PySem.W.fnIn K f_Type_plain = true)
    (l_Type_plain : K.lookup f_Type_plain = some ⟨oc_Type_plain, od_Type_plain, .func (PySem.W.fnOf "plain" "Type.plain" (defArgs s_Type_plain) (defBody s_Type_plain) (defScope s_Type_plain) .none kV_Type_plain dc_Type_plain pm_Type_plain an_Type_plain cd_Type_plain ct_Type_plain), sl_Type_plain⟩)
    (c_Type_plain : PySem.W.codeIn K cd_Type_plain "Type.plain" = true)
    (k_Type_plain : PySem.W.keepIn K (.ref f_Type_plain) = true)
    (a_Type_inputs : PySem.W.findIn K (.ref C_Type) "inputs" = some (some (.ref p_Type_inputs)))
    (g_Type_inputs : PySem.W.specialIn K (.ref p_Type_inputs) "__get__" = some (some (.builtin "property.__get__")))
    (t_Type_inputs : PySem.W.takesIn K (.ref p_Type_inputs) = some true)
    (r_Type_inputs : PySem.W.recIn K p_Type_inputs "property" = some (.ref f_Type_inputs :: rs_Type_inputs))
    (l_Type_inputs : K.lookup f_Type_inputs = some ⟨oc_Type_inputs, od_Type_inputs, .func (PySem.W.fnOf "inputs" "Type.inputs" (defArgs s_Type_inputs) (defBody s_Type_inputs) (defScope s_Type_inputs) .none kV_Type_inputs dc_Type_inputs pm_Type_inputs an_Type_inputs cd_Type_inputs ct_Type_inputs), sl_Type_inputs⟩)
    (c_Type_inputs : PySem.W.codeIn K cd_Type_inputs "Type.inputs" = true)
    (k_Type_inputs : PySem.W.keepIn K (.ref f_Type_inputs) = true)
    (a_Type_atom : PySem.W.findIn K (.ref C_Type) "atom" = some (some (.ref p_Type_atom)))
    (g_Type_atom : PySem.W.specialIn K (.ref p_Type_atom) "__get__" = some (some (.builtin "property.__get__")))
    (t_Type_atom : PySem.W.takesIn K (.ref p_Type_atom) = some true)
    (r_Type_atom : PySem.W.recIn K p_Type_atom "property" = some (.ref f_Type_atom :: rs_Type_atom))
    (l_Type_atom : K.lookup f_Type_atom = some ⟨oc_Type_atom, od_Type_atom, .func (PySem.W.fnOf "atom" "Type.atom" (defArgs s_Type_atom) (defBody s_Type_atom) (defScope s_Type_atom) .none kV_Type_atom dc_Type_atom pm_Type_atom an_Type_atom cd_Type_atom ct_Type_atom), sl_Type_atom⟩)
    (c_Type_atom : PySem.W.codeIn K cd_Type_atom "Type.atom" = true)
    (k_Type_atom : PySem.W.keepIn K (.ref f_Type_atom) = true)
    (a_Type_text : PySem.W.findIn K (.ref C_Type) "text" = some (some (.ref p_Type_text)))
    (g_Type_text : PySem.W.specialIn K (.ref p_Type_text) "__get__" = some (some (.builtin "property.__get__")))
    (t_Type_text : PySem.W.takesIn K (.ref p_Type_text) = some true)
    (r_Type_text : PySem.W.recIn K p_Type_text "property" = some (.ref f_Type_text :: rs_Type_text))
    (l_Type_text : K.lookup f_Type_text = some ⟨oc_Type_text, od_Type_text, .func (PySem.W.fnOf "text" "Type.text" (defArgs s_Type_text) (defBody s_Type_text) (defScope s_Type_text) .none kV_Type_text dc_Type_text pm_Type_text an_Type_text cd_Type_text ct_Type_text), sl_Type_text⟩)
    (c_Type_text : PySem.W.codeIn K cd_Type_text "Type.text" = true)
    (k_Type_text : PySem.W.keepIn K (.ref f_Type_text) = true)
    (a_Type_order : PySem.W.findIn K (.ref C_Type) "order" = some (some (.ref p_Type_order)))
    (g_Type_order : PySem.W.specialIn K (.ref p_Type_order) "__get__" = some (some (.builtin "property.__get__")))
    (t_Type_order : PySem.W.takesIn K (.ref p_Type_order) = some true)
    (r_Type_order : PySem.W.recIn K p_Type_order "property" = some (.ref f_Type_order :: rs_Type_order))
    (l_Type_order : K.lookup f_Type_order = some ⟨oc_Type_order, od_Type_order, .func (PySem.W.fnOf "order" "Type.order" (defArgs s_Type_order) (defBody s_Type_order) (defScope s_Type_order) .none kV_Type_order dc_Type_order pm_Type_order an_Type_order cd_Type_order ct_Type_order), sl_Type_order⟩)
    (c_Type_order : PySem.W.codeIn K cd_Type_order "Type.order" = true)
    (k_Type_order : PySem.W.keepIn K (.ref f_Type_order) = true)
    (a_Type_atoms : PySem.W.findIn K (.ref C_Type) "atoms" = some (some (.ref p_Type_atoms)))
    (g_Type_atoms : PySem.W.specialIn K (.ref p_Type_atoms) "__get__" = some (some (.builtin "property.__get__")))
    (t_Type_atoms : PySem.W.takesIn K (.ref p_Type_atoms) = some true)
    (r_Type_atoms : PySem.W.recIn K p_Type_atoms "property" = some (.ref f_Type_atoms :: rs_Type_atoms))
    (l_Type_atoms : K.lookup f_Type_atoms = some ⟨oc_Type_atoms, od_Type_atoms, .func (PySem.W.fnOf "atoms" "Type.atoms" (defArgs s_Type_atoms) (defBody s_Type_atoms) (defScope s_Type_atoms) .none kV_Type_atoms dc_Type_atoms pm_Type_atoms an_Type_atoms cd_Type_atoms ct_Type_atoms), sl_Type_atoms⟩)
    (c_Type_atoms : PySem.W.codeIn K cd_Type_atoms "Type.atoms" = true)
    (k_Type_atoms : PySem.W.keepIn K (.ref f_Type_atoms) = true)
    (a_Type_parts : PySem.W.findIn K (.ref C_Type) "parts" = some (some (.ref p_Type_parts)))
    (g_Type_parts : PySem.W.specialIn K (.ref p_Type_parts) "__get__" = some (some (.builtin "property.__get__")))
    (t_Type_parts : PySem.W.takesIn K (.ref p_Type_parts) = some true)
    (r_Type_parts : PySem.W.recIn K p_Type_parts "property" = some (.ref f_Type_parts :: rs_Type_parts))
    (l_Type_parts : K.lookup f_Type_parts = some ⟨oc_Type_parts, od_Type_parts, .func (PySem.W.fnOf "parts" "Type.parts" (defArgs s_Type_parts) (defBody s_Type_parts) (defScope s_Type_parts) .none kV_Type_parts dc_Type_parts pm_Type_parts an_Type_parts cd_Type_parts ct_Type_parts), sl_Type_parts⟩)
    (c_Type_parts : PySem.W.codeIn K cd_Type_parts "Type.parts" = true)
    (k_Type_parts : PySem.W.keepIn K (.ref f_Type_parts) = true)
    (a_Type_positive : PySem.W.findIn K (.ref C_Type) "positive" = some (some (.ref p_Type_positive)))
    (g_Type_positive : PySem.W.specialIn K (.ref p_Type_positive) "__get__" = some (some (.builtin "property.__get__")))
    (t_Type_positive : PySem.W.takesIn K (.ref p_Type_positive) = some true)
    (r_Type_positive : PySem.W.recIn K p_Type_positive "property" = some (.ref f_Type_positive :: rs_Type_positive))
    (l_Type_positive : K.lookup f_Type_positive = some ⟨oc_Type_positive, od_Type_positive, .func (PySem.W.fnOf "positive" "Type.positive" (defArgs s_Type_positive) (defBody s_Type_positive) (defScope s_Type_positive) .none kV_Type_positive dc_Type_positive pm_Type_positive an_Type_positive cd_Type_positive ct_Type_positive), sl_Type_positive⟩)
    (c_Type_positive : PySem.W.codeIn K cd_Type_positive "Type.positive" = true)
    (k_Type_positive : PySem.W.keepIn K (.ref f_Type_positive) = true)
    (a_Type_negative : PySem.W.findIn K (.ref C_Type) "negative" = some (some (.ref p_Type_negative)))
    (g_Type_negative : PySem.W.specialIn K (.ref p_Type_negative) "__get__" = some (some (.builtin "property.__get__")))
    (t_Type_negative : PySem.W.takesIn K (.ref p_Type_negative) = some true)
    (r_Type_negative : PySem.W.recIn K p_Type_negative "property" = some (.ref f_Type_negative :: rs_Type_negative))
    (l_Type_negative : K.lookup f_Type_negative = some ⟨oc_Type_negative, od_Type_negative, .func (PySem.W.fnOf "negative" "Type.negative" (defArgs s_Type_negative) (defBody s_Type_negative) (defScope s_Type_negative) .none kV_Type_negative dc_Type_negative pm_Type_negative an_Type_negative cd_Type_negative ct_Type_negative), sl_Type_negative⟩)
    (c_Type_negative : PySem.W.codeIn K cd_Type_negative "Type.negative" = true)
    (k_Type_negative : PySem.W.keepIn K (.ref f_Type_negative) = true)
    (a_Type_renamed : PySem.W.findIn K (.ref C_Type) "renamed" = some (some (.ref f_Type_renamed)))
    (i_Type_renamed : PySem.W.isFn K (.ref f_Type_renamed) = true)
    (l_Type_renamed : K.lookup f_Type_renamed = some ⟨oc_Type_renamed, od_Type_renamed, .func (PySem.W.fnOf "renamed" "Type.renamed" (defArgs s_Type_renamed) (defBody s_Type_renamed) (defScope s_Type_renamed) .none kV_Type_renamed dc_Type_renamed pm_Type_renamed an_Type_renamed cd_Type_renamed ct_Type_renamed), sl_Type_renamed⟩)
    (c_Type_renamed : PySem.W.codeIn K cd_Type_renamed "Type.renamed" = true)
    (k_Type_renamed : PySem.W.keepIn K (.ref f_Type_renamed) = true)
    (a_Type_put : PySem.W.findIn K (.ref C_Type) "put" = some (some (.ref f_Type_put)))
    (i_Type_put : PySem.W.isFn K (.ref f_Type_put) = true)
    (l_Type_put : K.lookup f_Type_put = some ⟨oc_Type_put, od_Type_put, .func (PySem.W.fnOf "put" "Type.put" (defArgs s_Type_put) (defBody s_Type_put) (defScope s_Type_put) .none kV_Type_put dc_Type_put pm_Type_put an_Type_put cd_Type_put ct_Type_put), sl_Type_put⟩)
    (c_Type_put : PySem.W.codeIn K cd_Type_put "Type.put" = true)
    (k_Type_put : PySem.W.keepIn K (.ref f_Type_put) = true)
    (a_Type___rshift__ : PySem.W.findIn K (.ref C_Type) "__rshift__" = some (some (.ref f_Type___rshift__)))
    (i_Type___rshift__ : PySem.W.isFn K (.ref f_Type___rshift__) = true)
    (fi_Type___rshift__ : PySem.W.fnIn K f_Type___rshift__ = true)
    (l_Type___rshift__ : K.lookup f_Type___rshift__ = some ⟨oc_Type___rshift__, od_Type___rshift__, .func (PySem.W.fnOf "__rshift__" "Type.__rshift__" (defArgs s_Type___rshift__) (defBody s_Type___rshift__) (defScope s_Type___rshift__) .none kV_Type___rshift__ dc_Type___rshift__ pm_Type___rshift__ an_Type___rshift__ cd_Type___rshift__ ct_Type___rshift__), sl_Type___rshift__⟩)
    (c_Type___rshift__ : PySem.W.codeIn K cd_Type___rshift__ "Type.__rshift__" = true)
    (k_Type___rshift__ : PySem.W.keepIn K (.ref f_Type___rshift__) = true)
    (a_Type___mod__ : PySem.W.findIn K (.ref C_Type) "__mod__" = some (some (.ref f_Type___mod__)))
    (i_Type___mod__ : PySem.W.isFn K (.ref f_Type___mod__) = true)
    (fi_Type___mod__ : PySem.W.fnIn K f_Type___mod__ = true)
    (l_Type___mod__ : K.lookup f_Type___mod__ = some ⟨oc_Type___mod__, od_Type___mod__, .func (PySem.W.fnOf "__mod__" "Type.__mod__" (defArgs s_Type___mod__) (defBody s_Type___mod__) (defScope s_Type___mod__) .none kV_Type___mod__ dc_Type___mod__ pm_Type___mod__ an_Type___mod__ cd_Type___mod__ ct_Type___mod__), sl_Type___mod__⟩)
    (c_Type___mod__ : PySem.W.codeIn K cd_Type___mod__ "Type.__mod__" = true)
    (k_Type___mod__ : PySem.W.keepIn K (.ref f_Type___mod__) = true)
    (a_Type___getitem__ : PySem.W.findIn K (.ref C_Type) "__getitem__" = some (some (.ref f_Type___getitem__)))
    (i_Type___getitem__ : PySem.W.isFn K (.ref f_Type___getitem__) = true)
    (fi_Type___getitem__ : PySem.W.fnIn K f_Type___getitem__ = true)
    (l_Type___getitem__ : K.lookup f_Type___getitem__ = some ⟨oc_Type___getitem__, od_Type___getitem__, .func (PySem.W.fnOf "__getitem__" "Type.__getitem__" (defArgs s_Type___getitem__) (defBody s_Type___getitem__) (defScope s_Type___getitem__) .none kV_Type___getitem__ dc_Type___getitem__ pm_Type___getitem__ an_Type___getitem__ cd_Type___getitem__ ct_Type___getitem__), sl_Type___getitem__⟩)
    (c_Type___getitem__ : PySem.W.codeIn K cd_Type___getitem__ "Type.__getitem__" = true)
    (k_Type___getitem__ : PySem.W.keepIn K (.ref f_Type___getitem__) = true)
    (a_Type___len__ : PySem.W.findIn K (.ref C_Type) "__len__" = some (some (.ref f_Type___len__)))
    (i_Type___len__ : PySem.W.isFn K (.ref f_Type___len__) = true)
    (fi_Type___len__ : PySem.W.fnIn K f_Type___len__ = true)
    (l_Type___len__ : K.lookup f_Type___len__ = some ⟨oc_Type___len__, od_Type___len__, .func (PySem.W.fnOf "__len__" "Type.__len__" (defArgs s_Type___len__) (defBody s_Type___len__) (defScope s_Type___len__) .none kV_Type___len__ dc_Type___len__ pm_Type___len__ an_Type___len__ cd_Type___len__ ct_Type___len__), sl_Type___len__⟩)
    (c_Type___len__ : PySem.W.codeIn K cd_Type___len__ "Type.__len__" = true)
    (k_Type___len__ : PySem.W.keepIn K (.ref f_Type___len__) = true)
    (a_Type___iter__ : PySem.W.findIn K (.ref C_Type) "__iter__" = some (some (.ref f_Type___iter__)))
    (i_Type___iter__ : PySem.W.isFn K (.ref f_Type___iter__) = true)
    (l_Type___iter__ : K.lookup f_Type___iter__ = some ⟨oc_Type___iter__, od_Type___iter__, .func (PySem.W.fnOf "__iter__" "Type.__iter__" (defArgs s_Type___iter__) (defBody s_Type___iter__) (defScope s_Type___iter__) .none kV_Type___iter__ dc_Type___iter__ pm_Type___iter__ an_Type___iter__ cd_Type___iter__ ct_Type___iter__), sl_Type___iter__⟩)
    (c_Type___iter__ : PySem.W.codeIn K cd_Type___iter__ "Type.__iter__" = true)
    (k_Type___iter__ : PySem.W.keepIn K (.ref f_Type___iter__) = true)
    (a_Type___contains__ : PySem.W.findIn K (.ref C_Type) "__contains__" = some (some (.ref f_Type___contains__)))
    (i_Type___contains__ : PySem.W.isFn K (.ref f_Type___contains__) = true)
    (fi_Type___contains__ : PySem.W.fnIn K f_Type___contains__ = true)
    (l_Type___contains__ : K.lookup f_Type___contains__ = some ⟨oc_Type___contains__, od_Type___contains__, .func (PySem.W.fnOf "__contains__" "Type.__contains__" (defArgs s_Type___contains__) (defBody s_Type___contains__) (defScope s_Type___contains__) .none kV_Type___contains__ dc_Type___contains__ pm_Type___contains__ an_Type___contains__ cd_Type___contains__ ct_Type___contains__), sl_Type___contains__⟩)
    (c_Type___contains__ : PySem.W.codeIn K cd_Type___contains__ "Type.__contains__" = true)
    (k_Type___contains__ : PySem.W.keepIn K (.ref f_Type___contains__) = true)
    (a_Type___eq__ : PySem.W.findIn K (.ref C_Type) "__eq__" = some (some (.ref f_Type___eq__)))
    (i_Type___eq__ : PySem.W.isFn K (.ref f_Type___eq__) = true)
    (fi_Type___eq__ : PySem.W.fnIn K f_Type___eq__ = true)
    (l_Type___eq__ : K.lookup f_Type___eq__ = some ⟨oc_Type___eq__, od_Type___eq__, .func (PySem.W.fnOf "__eq__" "Type.__eq__" (defArgs s_Type___eq__) (defBody s_Type___eq__) (defScope s_Type___eq__) .none kV_Type___eq__ dc_Type___eq__ pm_Type___eq__ an_Type___eq__ cd_Type___eq__ ct_Type___eq__), sl_Type___eq__⟩)
    (c_Type___eq__ : PySem.W.codeIn K cd_Type___eq__ "Type.__eq__" = true)
    (k_Type___eq__ : PySem.W.keepIn K (.ref f_Type___eq__) = true)
    (a_Type___str__ : PySem.W.findIn K (.ref C_Type) "__str__" = some (some (.ref f_Type___str__)))
    (i_Type___str__ : PySem.W.isFn K (.ref f_Type___str__) = true)
    (fi_Type___str__ : PySem.W.fnIn K f_Type___str__ = true)
    (l_Type___str__ : K.lookup f_Type___str__ = some ⟨oc_Type___str__, od_Type___str__, .func (PySem.W.fnOf "__str__" "Type.__str__" (defArgs s_Type___str__) (defBody s_Type___str__) (defScope s_Type___str__) .none kV_Type___str__ dc_Type___str__ pm_Type___str__ an_Type___str__ cd_Type___str__ ct_Type___str__), sl_Type___str__⟩)
    (c_Type___str__ : PySem.W.codeIn K cd_Type___str__ "Type.__str__" = true)
    (k_Type___str__ : PySem.W.keepIn K (.ref f_Type___str__) = true)
    (a_type_of_text : PySem.W.nsIn K mainGlobals "type_of_text" = some (some (.ref f_type_of_text)))
    (l_type_of_text : K.lookup f_type_of_text = some ⟨oc_type_of_text, od_type_of_text, .func (PySem.W.fnOf "type_of_text" "type_of_text" (defArgs s_type_of_text) (defBody s_type_of_text) (defScope s_type_of_text) .none kV_type_of_text dc_type_of_text pm_type_of_text an_type_of_text cd_type_of_text ct_type_of_text), sl_type_of_text⟩)
    (c_type_of_text : PySem.W.codeIn K cd_type_of_text "type_of_text" = true)
    (k_type_of_text : PySem.W.keepIn K (.ref f_type_of_text) = true)
    (a_parts_list : PySem.W.nsIn K mainGlobals "parts_list" = some (some (.ref f_parts_list)))
    (l_parts_list : K.lookup f_parts_list = some ⟨oc_parts_list, od_parts_list, .func (PySem.W.fnOf "parts_list" "parts_list" (defArgs s_parts_list) (defBody s_parts_list) (defScope s_parts_list) .none kV_parts_list dc_parts_list pm_parts_list an_parts_list cd_parts_list ct_parts_list), sl_parts_list⟩)
    (c_parts_list : PySem.W.codeIn K cd_parts_list "parts_list" = true)
    (k_parts_list : PySem.W.keepIn K (.ref f_parts_list) = true)
    (a_signed_atoms : PySem.W.nsIn K mainGlobals "signed_atoms" = some (some (.ref f_signed_atoms)))
    (l_signed_atoms : K.lookup f_signed_atoms = some ⟨oc_signed_atoms, od_signed_atoms, .func (PySem.W.fnOf "signed_atoms" "signed_atoms" (defArgs s_signed_atoms) (defBody s_signed_atoms) (defScope s_signed_atoms) .none kV_signed_atoms dc_signed_atoms pm_signed_atoms an_signed_atoms cd_signed_atoms ct_signed_atoms), sl_signed_atoms⟩)
    (c_signed_atoms : PySem.W.codeIn K cd_signed_atoms "signed_atoms" = true)
    (k_signed_atoms : PySem.W.keepIn K (.ref f_signed_atoms) = true)
    (a_with_atoms_of : PySem.W.nsIn K mainGlobals "with_atoms_of" = some (some (.ref f_with_atoms_of)))
    (l_with_atoms_of : K.lookup f_with_atoms_of = some ⟨oc_with_atoms_of, od_with_atoms_of, .func (PySem.W.fnOf "with_atoms_of" "with_atoms_of" (defArgs s_with_atoms_of) (defBody s_with_atoms_of) (defScope s_with_atoms_of) .none kV_with_atoms_of dc_with_atoms_of pm_with_atoms_of an_with_atoms_of cd_with_atoms_of ct_with_atoms_of), sl_with_atoms_of⟩)
    (c_with_atoms_of : PySem.W.codeIn K cd_with_atoms_of "with_atoms_of" = true)
    (k_with_atoms_of : PySem.W.keepIn K (.ref f_with_atoms_of) = true)
    (a_with_type_for : PySem.W.nsIn K mainGlobals "with_type_for" = some (some (.ref f_with_type_for)))
    (l_with_type_for : K.lookup f_with_type_for = some ⟨oc_with_type_for, od_with_type_for, .func (PySem.W.fnOf "with_type_for" "with_type_for" (defArgs s_with_type_for) (defBody s_with_type_for) (defScope s_with_type_for) .none kV_with_type_for dc_with_type_for pm_with_type_for an_with_type_for cd_with_type_for ct_with_type_for), sl_with_type_for⟩)
    (c_with_type_for : PySem.W.codeIn K cd_with_type_for "with_type_for" = true)
    (k_with_type_for : PySem.W.keepIn K (.ref f_with_type_for) = true)
    (a__law_dice : PySem.W.nsIn K mainGlobals "_law_dice" = some (some (.ref f__law_dice)))
    (l__law_dice : K.lookup f__law_dice = some ⟨oc__law_dice, od__law_dice, .func (PySem.W.fnOf "_law_dice" "_law_dice" (defArgs s__law_dice) (defBody s__law_dice) (defScope s__law_dice) .none kV__law_dice dc__law_dice pm__law_dice an__law_dice cd__law_dice ct__law_dice), sl__law_dice⟩)
    (c__law_dice : PySem.W.codeIn K cd__law_dice "_law_dice" = true)
    (k__law_dice : PySem.W.keepIn K (.ref f__law_dice) = true)
    (a__law_roll : PySem.W.nsIn K mainGlobals "_law_roll" = some (some (.ref f__law_roll)))
    (l__law_roll : K.lookup f__law_roll = some ⟨oc__law_roll, od__law_roll, .func (PySem.W.fnOf "_law_roll" "_law_roll" (defArgs s__law_roll) (defBody s__law_roll) (defScope s__law_roll) .none kV__law_roll dc__law_roll pm__law_roll an__law_roll cd__law_roll ct__law_roll), sl__law_roll⟩)
    (c__law_roll : PySem.W.codeIn K cd__law_roll "_law_roll" = true)
    (k__law_roll : PySem.W.keepIn K (.ref f__law_roll) = true)
    (a__law_pick : PySem.W.nsIn K mainGlobals "_law_pick" = some (some (.ref f__law_pick)))
    (l__law_pick : K.lookup f__law_pick = some ⟨oc__law_pick, od__law_pick, .func (PySem.W.fnOf "_law_pick" "_law_pick" (defArgs s__law_pick) (defBody s__law_pick) (defScope s__law_pick) .none kV__law_pick dc__law_pick pm__law_pick an__law_pick cd__law_pick ct__law_pick), sl__law_pick⟩)
    (c__law_pick : PySem.W.codeIn K cd__law_pick "_law_pick" = true)
    (k__law_pick : PySem.W.keepIn K (.ref f__law_pick) = true)
    (a__law_some : PySem.W.nsIn K mainGlobals "_law_some" = some (some (.ref f__law_some)))
    (l__law_some : K.lookup f__law_some = some ⟨oc__law_some, od__law_some, .func (PySem.W.fnOf "_law_some" "_law_some" (defArgs s__law_some) (defBody s__law_some) (defScope s__law_some) .none kV__law_some dc__law_some pm__law_some an__law_some cd__law_some ct__law_some), sl__law_some⟩)
    (c__law_some : PySem.W.codeIn K cd__law_some "_law_some" = true)
    (k__law_some : PySem.W.keepIn K (.ref f__law_some) = true)
    (a__law_atoms_of : PySem.W.nsIn K mainGlobals "_law_atoms_of" = some (some (.ref f__law_atoms_of)))
    (l__law_atoms_of : K.lookup f__law_atoms_of = some ⟨oc__law_atoms_of, od__law_atoms_of, .func (PySem.W.fnOf "_law_atoms_of" "_law_atoms_of" (defArgs s__law_atoms_of) (defBody s__law_atoms_of) (defScope s__law_atoms_of) .none kV__law_atoms_of dc__law_atoms_of pm__law_atoms_of an__law_atoms_of cd__law_atoms_of ct__law_atoms_of), sl__law_atoms_of⟩)
    (c__law_atoms_of : PySem.W.codeIn K cd__law_atoms_of "_law_atoms_of" = true)
    (k__law_atoms_of : PySem.W.keepIn K (.ref f__law_atoms_of) = true)
    (a__law_kind : PySem.W.nsIn K mainGlobals "_law_kind" = some (some (.ref f__law_kind)))
    (l__law_kind : K.lookup f__law_kind = some ⟨oc__law_kind, od__law_kind, .func (PySem.W.fnOf "_law_kind" "_law_kind" (defArgs s__law_kind) (defBody s__law_kind) (defScope s__law_kind) .none kV__law_kind dc__law_kind pm__law_kind an__law_kind cd__law_kind ct__law_kind), sl__law_kind⟩)
    (c__law_kind : PySem.W.codeIn K cd__law_kind "_law_kind" = true)
    (k__law_kind : PySem.W.keepIn K (.ref f__law_kind) = true)
    (a__law_made_kind : PySem.W.nsIn K mainGlobals "_law_made_kind" = some (some (.ref f__law_made_kind)))
    (l__law_made_kind : K.lookup f__law_made_kind = some ⟨oc__law_made_kind, od__law_made_kind, .func (PySem.W.fnOf "_law_made_kind" "_law_made_kind" (defArgs s__law_made_kind) (defBody s__law_made_kind) (defScope s__law_made_kind) .none kV__law_made_kind dc__law_made_kind pm__law_made_kind an__law_made_kind cd__law_made_kind ct__law_made_kind), sl__law_made_kind⟩)
    (c__law_made_kind : PySem.W.codeIn K cd__law_made_kind "_law_made_kind" = true)
    (k__law_made_kind : PySem.W.keepIn K (.ref f__law_made_kind) = true)
    (a__law_drawn : PySem.W.nsIn K mainGlobals "_law_drawn" = some (some (.ref f__law_drawn)))
    (l__law_drawn : K.lookup f__law_drawn = some ⟨oc__law_drawn, od__law_drawn, .func (PySem.W.fnOf "_law_drawn" "_law_drawn" (defArgs s__law_drawn) (defBody s__law_drawn) (defScope s__law_drawn) .none kV__law_drawn dc__law_drawn pm__law_drawn an__law_drawn cd__law_drawn ct__law_drawn), sl__law_drawn⟩)
    (c__law_drawn : PySem.W.codeIn K cd__law_drawn "_law_drawn" = true)
    (k__law_drawn : PySem.W.keepIn K (.ref f__law_drawn) = true)
    (a__law_right : PySem.W.nsIn K mainGlobals "_law_right" = some (some (.ref f__law_right)))
    (l__law_right : K.lookup f__law_right = some ⟨oc__law_right, od__law_right, .func (PySem.W.fnOf "_law_right" "_law_right" (defArgs s__law_right) (defBody s__law_right) (defScope s__law_right) .none kV__law_right dc__law_right pm__law_right an__law_right cd__law_right ct__law_right), sl__law_right⟩)
    (c__law_right : PySem.W.codeIn K cd__law_right "_law_right" = true)
    (k__law_right : PySem.W.keepIn K (.ref f__law_right) = true)
    (a_law : PySem.W.nsIn K mainGlobals "law" = some (some (.ref f_law)))
    (l_law : K.lookup f_law = some ⟨oc_law, od_law, .func (PySem.W.fnOf "law" "law" (defArgs s_law) (defBody s_law) (defScope s_law) .none kV_law dc_law pm_law an_law cd_law ct_law), sl_law⟩)
    (c_law : PySem.W.codeIn K cd_law "law" = true)
    (k_law : PySem.W.keepIn K (.ref f_law) = true)
    (xa_InvalidType : PySem.W.nsIn K mainGlobals "InvalidType" = some (some (.ref Cx_InvalidType)))
    (xe_InvalidType : PySem.W.excIn K Cx_InvalidType veBm "ValueError.__new__" = true)
    (xk_InvalidType : PySem.W.keepIn K (.ref Cx_InvalidType) = true)
    (xs_InvalidType : PySem.W.subIn K (.ref Cx_InvalidType) (.type "BaseException") = some true)
    (xt_InvalidType : PySem.W.typeIn K (.ref Cx_InvalidType) = some (.type "type"))
    (xi_InvalidType : PySem.W.isClsIn K Cx_InvalidType = true)
    (xo_InvalidType : PySem.W.subIn K (.ref Cx_InvalidType) (.ref Cx_InvalidType) = some true)
    (xa_InvalidWord : PySem.W.nsIn K mainGlobals "InvalidWord" = some (some (.ref Cx_InvalidWord)))
    (xe_InvalidWord : PySem.W.excIn K Cx_InvalidWord veBm "ValueError.__new__" = true)
    (xk_InvalidWord : PySem.W.keepIn K (.ref Cx_InvalidWord) = true)
    (xs_InvalidWord : PySem.W.subIn K (.ref Cx_InvalidWord) (.type "BaseException") = some true)
    (xt_InvalidWord : PySem.W.typeIn K (.ref Cx_InvalidWord) = some (.type "type"))
    (xi_InvalidWord : PySem.W.isClsIn K Cx_InvalidWord = true)
    (xo_InvalidWord : PySem.W.subIn K (.ref Cx_InvalidWord) (.ref Cx_InvalidWord) = some true)
    (sf_Type_rshift : PySem.W.selfFirst K C_Type = true)
    (nr_Type_rshift : PySem.W.findIn K (.ref C_Type) "__rrshift__" = some none)
    (sf_Type_mod : PySem.W.selfFirst K C_Type = true)
    (nr_Type_mod : PySem.W.findIn K (.ref C_Type) "__rmod__" = some none)
    (ki_Type_mod : PySem.W.subIn K (.type "int") (.ref C_Type) = some false) : ∃ Z, All ⟨mg, K⟩ Z := by
  have kcF_KindReader : ClsF ⟨mg, K⟩ "KindReader" C_KindReader := ⟨PySem.W.mg_of X G aC_KindReader, ⟨pg_KindReader, hd_KindReader, po_KindReader, sa_KindReader⟩, ha_KindReader, hn_KindReader, ht_KindReader, hm_KindReader⟩
  have kcF_Type : ClsF ⟨mg, K⟩ "Type" C_Type := ⟨PySem.W.mg_of X G aC_Type, ⟨pg_Type, hd_Type, po_Type, sa_Type⟩, ha_Type, hn_Type, ht_Type, hm_Type⟩
  exact ⟨⟨C_KindReader, C_Type, Cx_InvalidType, Cx_InvalidWord⟩, ⟨PySem.W.mg_none_of X G z_abs,
    PySem.W.mg_none_of X G z_all,
    PySem.W.mg_none_of X G z_bool,
    PySem.W.mg_none_of X G z_dict,
    PySem.W.mg_none_of X G z_int,
    PySem.W.mg_none_of X G z_isinstance,
    PySem.W.mg_none_of X G z_iter,
    PySem.W.mg_none_of X G z_len,
    PySem.W.mg_none_of X G z_list,
    PySem.W.mg_none_of X G z_max,
    PySem.W.mg_none_of X G z_min,
    PySem.W.mg_none_of X G z_range,
    PySem.W.mg_none_of X G z_set,
    PySem.W.mg_none_of X G z_sorted,
    PySem.W.mg_none_of X G z_str,
    PySem.W.mg_none_of X G z_tuple,
    PySem.W.mg_none_of X G z_zip,
    ⟨_, PySem.W.mg_of X G y_ARROW⟩,
    ⟨_, PySem.W.mg_of X G y_LETTERS⟩,
    ⟨_, PySem.W.mg_of X G y_LONGEST⟩,
    ⟨_, PySem.W.mg_of X G y_MAX_LETTERS⟩,
    ⟨_, PySem.W.mg_of X G y_MAX_ORDER⟩,
    ⟨_, PySem.W.mg_of X G y_MAX_PLACES⟩,
    kcF_KindReader,
    fa_KindReader_of_rows,
    fa_KindReader_of_wants,
    kcF_Type,
    fa_Type_own_args,
    fa_Type_own_atom,
    fa_Type_own_places,
    fa_Type_own_order,
    fa_Type_own_text,
    isi_mk kcF_Type ic_Type ty_Type ki0_Type ki1_Type ki2_Type ki3_Type ki4_Type ki5_Type ki6_Type,
    eqF_mk kcF_Type nf0_Type nf1_Type nf2_Type nf3_Type nf4_Type nf5_Type nf6_Type nf7_Type,
    nn_Type,
    ⟨_, _, PySem.W.mg_of X G a_is_integer, fun_mk (st := s_is_integer) l_is_integer c_is_integer k_is_integer⟩,
    ⟨_, _, PySem.W.mg_of X G a_is_within, fun_mk (st := s_is_within) l_is_within c_is_within k_is_within⟩,
    ⟨_, _, PySem.W.mg_of X G a_is_word, fun_mk (st := s_is_word) l_is_word c_is_word k_is_word⟩,
    ⟨_, _, PySem.W.mg_of X G a_is_renaming, fun_mk (st := s_is_renaming) l_is_renaming c_is_renaming k_is_renaming⟩,
    ⟨_, _, PySem.W.mg_of X G a_signs_of, fun_mk (st := s_signs_of) l_signs_of c_signs_of k_signs_of⟩,
    ⟨_, _, ⟨mk_KindReader, a_KindReader___init__, i_KindReader___init__, kk_KindReader⟩, fun_mk (st := s_KindReader___init__) l_KindReader___init__ c_KindReader___init__ k_KindReader___init__⟩,
    ⟨_, _, ⟨a_KindReader_take, i_KindReader_take, k_KindReader_take⟩, fun_mk (st := s_KindReader_take) l_KindReader_take c_KindReader_take k_KindReader_take⟩,
    ⟨_, _, ⟨a_KindReader_take_end, i_KindReader_take_end, k_KindReader_take_end⟩, fun_mk (st := s_KindReader_take_end) l_KindReader_take_end c_KindReader_take_end k_KindReader_take_end⟩,
    ⟨_, _, ⟨a_KindReader_result, i_KindReader_result, k_KindReader_result⟩, fun_mk (st := s_KindReader_result) l_KindReader_result c_KindReader_result k_KindReader_result⟩,
    ⟨_, _, PySem.W.mg_of X G a_shape_of, fun_mk (st := s_shape_of) l_shape_of c_shape_of k_shape_of⟩,
    ⟨_, _, PySem.W.mg_of X G a_kind_in, fun_mk (st := s_kind_in) l_kind_in c_kind_in k_kind_in⟩,
    ⟨_, _, PySem.W.mg_of X G a_order_of, fun_mk (st := s_order_of) l_order_of c_order_of k_order_of⟩,
    ⟨_, _, PySem.W.mg_of X G a_input_text, fun_mk (st := s_input_text) l_input_text c_input_text k_input_text⟩,
    ⟨_, _, ⟨mk_Type, a_Type___init__, i_Type___init__, kk_Type⟩, fun_mk (st := s_Type___init__) l_Type___init__ c_Type___init__ k_Type___init__⟩,
    ⟨_, _, _, _, ⟨rd_Type_read, ga_Type_read⟩, ⟨a_Type_read, ⟨_, r_Type_read⟩, fi_Type_read⟩, fun_mk (st := s_Type_read) l_Type_read c_Type_read k_Type_read⟩,
    ⟨_, _, _, _, ⟨rd_Type_plain, ga_Type_plain⟩, ⟨a_Type_plain, ⟨_, r_Type_plain⟩, fi_Type_plain⟩, fun_mk (st := s_Type_plain) l_Type_plain c_Type_plain k_Type_plain⟩,
    ⟨_, _, _, ⟨a_Type_inputs, g_Type_inputs, t_Type_inputs, _, r_Type_inputs⟩, fun_mk (st := s_Type_inputs) l_Type_inputs c_Type_inputs k_Type_inputs⟩,
    ⟨_, _, _, ⟨a_Type_atom, g_Type_atom, t_Type_atom, _, r_Type_atom⟩, fun_mk (st := s_Type_atom) l_Type_atom c_Type_atom k_Type_atom⟩,
    ⟨_, _, _, ⟨a_Type_text, g_Type_text, t_Type_text, _, r_Type_text⟩, fun_mk (st := s_Type_text) l_Type_text c_Type_text k_Type_text⟩,
    ⟨_, _, _, ⟨a_Type_order, g_Type_order, t_Type_order, _, r_Type_order⟩, fun_mk (st := s_Type_order) l_Type_order c_Type_order k_Type_order⟩,
    ⟨_, _, _, ⟨a_Type_atoms, g_Type_atoms, t_Type_atoms, _, r_Type_atoms⟩, fun_mk (st := s_Type_atoms) l_Type_atoms c_Type_atoms k_Type_atoms⟩,
    ⟨_, _, _, ⟨a_Type_parts, g_Type_parts, t_Type_parts, _, r_Type_parts⟩, fun_mk (st := s_Type_parts) l_Type_parts c_Type_parts k_Type_parts⟩,
    ⟨_, _, _, ⟨a_Type_positive, g_Type_positive, t_Type_positive, _, r_Type_positive⟩, fun_mk (st := s_Type_positive) l_Type_positive c_Type_positive k_Type_positive⟩,
    ⟨_, _, _, ⟨a_Type_negative, g_Type_negative, t_Type_negative, _, r_Type_negative⟩, fun_mk (st := s_Type_negative) l_Type_negative c_Type_negative k_Type_negative⟩,
    ⟨_, _, ⟨a_Type_renamed, i_Type_renamed, k_Type_renamed⟩, fun_mk (st := s_Type_renamed) l_Type_renamed c_Type_renamed k_Type_renamed⟩,
    ⟨_, _, ⟨a_Type_put, i_Type_put, k_Type_put⟩, fun_mk (st := s_Type_put) l_Type_put c_Type_put k_Type_put⟩,
    ⟨_, _, ⟨⟨a_Type___rshift__, i_Type___rshift__, k_Type___rshift__⟩, fi_Type___rshift__⟩, fun_mk (st := s_Type___rshift__) l_Type___rshift__ c_Type___rshift__ k_Type___rshift__⟩,
    ⟨_, _, ⟨⟨a_Type___mod__, i_Type___mod__, k_Type___mod__⟩, fi_Type___mod__⟩, fun_mk (st := s_Type___mod__) l_Type___mod__ c_Type___mod__ k_Type___mod__⟩,
    ⟨_, _, ⟨⟨a_Type___getitem__, i_Type___getitem__, k_Type___getitem__⟩, fi_Type___getitem__⟩, fun_mk (st := s_Type___getitem__) l_Type___getitem__ c_Type___getitem__ k_Type___getitem__⟩,
    ⟨_, _, ⟨⟨a_Type___len__, i_Type___len__, k_Type___len__⟩, fi_Type___len__⟩, fun_mk (st := s_Type___len__) l_Type___len__ c_Type___len__ k_Type___len__⟩,
    ⟨_, _, a_Type___iter__, i_Type___iter__, fun_mk (st := s_Type___iter__) l_Type___iter__ c_Type___iter__ k_Type___iter__⟩,
    ⟨_, _, ⟨⟨a_Type___contains__, i_Type___contains__, k_Type___contains__⟩, fi_Type___contains__⟩, fun_mk (st := s_Type___contains__) l_Type___contains__ c_Type___contains__ k_Type___contains__⟩,
    ⟨_, _, ⟨⟨a_Type___eq__, i_Type___eq__, k_Type___eq__⟩, fi_Type___eq__⟩, fun_mk (st := s_Type___eq__) l_Type___eq__ c_Type___eq__ k_Type___eq__⟩,
    ⟨_, _, ⟨⟨a_Type___str__, i_Type___str__, k_Type___str__⟩, fi_Type___str__⟩, fun_mk (st := s_Type___str__) l_Type___str__ c_Type___str__ k_Type___str__⟩,
    ⟨_, _, PySem.W.mg_of X G a_type_of_text, fun_mk (st := s_type_of_text) l_type_of_text c_type_of_text k_type_of_text⟩,
    ⟨_, _, PySem.W.mg_of X G a_parts_list, fun_mk (st := s_parts_list) l_parts_list c_parts_list k_parts_list⟩,
    ⟨_, _, PySem.W.mg_of X G a_signed_atoms, fun_mk (st := s_signed_atoms) l_signed_atoms c_signed_atoms k_signed_atoms⟩,
    ⟨_, _, PySem.W.mg_of X G a_with_atoms_of, fun_mk (st := s_with_atoms_of) l_with_atoms_of c_with_atoms_of k_with_atoms_of⟩,
    ⟨_, _, PySem.W.mg_of X G a_with_type_for, fun_mk (st := s_with_type_for) l_with_type_for c_with_type_for k_with_type_for⟩,
    ⟨_, _, PySem.W.mg_of X G a__law_dice, fun_mk (st := s__law_dice) l__law_dice c__law_dice k__law_dice⟩,
    ⟨_, _, PySem.W.mg_of X G a__law_roll, fun_mk (st := s__law_roll) l__law_roll c__law_roll k__law_roll⟩,
    ⟨_, _, PySem.W.mg_of X G a__law_pick, fun_mk (st := s__law_pick) l__law_pick c__law_pick k__law_pick⟩,
    ⟨_, _, PySem.W.mg_of X G a__law_some, fun_mk (st := s__law_some) l__law_some c__law_some k__law_some⟩,
    ⟨_, _, PySem.W.mg_of X G a__law_atoms_of, fun_mk (st := s__law_atoms_of) l__law_atoms_of c__law_atoms_of k__law_atoms_of⟩,
    ⟨_, _, PySem.W.mg_of X G a__law_kind, fun_mk (st := s__law_kind) l__law_kind c__law_kind k__law_kind⟩,
    ⟨_, _, PySem.W.mg_of X G a__law_made_kind, fun_mk (st := s__law_made_kind) l__law_made_kind c__law_made_kind k__law_made_kind⟩,
    ⟨_, _, PySem.W.mg_of X G a__law_drawn, fun_mk (st := s__law_drawn) l__law_drawn c__law_drawn k__law_drawn⟩,
    ⟨_, _, PySem.W.mg_of X G a__law_right, fun_mk (st := s__law_right) l__law_right c__law_right k__law_right⟩,
    ⟨_, _, PySem.W.mg_of X G a_law, fun_mk (st := s_law) l_law c_law k_law⟩,
    ⟨PySem.W.mg_of X G xa_InvalidType, xe_InvalidType, xk_InvalidType, xs_InvalidType, xt_InvalidType⟩,
    cat_of (PySem.W.mg_of X G xa_InvalidType) xi_InvalidType xt_InvalidType xs_InvalidType xo_InvalidType,
    ⟨PySem.W.mg_of X G xa_InvalidWord, xe_InvalidWord, xk_InvalidWord, xs_InvalidWord, xt_InvalidWord⟩,
    cat_of (PySem.W.mg_of X G xa_InvalidWord) xi_InvalidWord xt_InvalidWord xs_InvalidWord xo_InvalidWord,
    opF_own (nm := "rshift") sf_Type_rshift nr_Type_rshift,
    opF_int (nm := "mod") sf_Type_mod nr_Type_mod ki_Type_mod int_mod1 int_mod2⟩⟩
open KP
theorem ok_all {P : Program} {w : World} {mg : Gm} {base : Heap} (A : ∃ Z, All mg Z) : DefOk P w mg base 19 "law" 1 f_law := by
  obtain ⟨Z, A⟩ := A
  have g__law_dice := ok__law_dice (P := P) (w := w) (base := base) A 
  have g_Type___eq__ := ok_Type___eq__ (P := P) (w := w) (base := base) A 
  have g_is_integer := ok_is_integer (P := P) (w := w) (base := base) A 
  have g_is_within := ok_is_within (P := P) (w := w) (base := base) A g_is_integer
  have g_Type___getitem__ := ok_Type___getitem__ (P := P) (w := w) (base := base) A g_is_within
  have g_Type___len__ := ok_Type___len__ (P := P) (w := w) (base := base) A 
  have g_input_text := ok_input_text (P := P) (w := w) (base := base) A 
  have g_is_word := ok_is_word (P := P) (w := w) (base := base) A 
  have g_order_of := ok_order_of (P := P) (w := w) (base := base) A 
  have g_Type___init__ := ok_Type___init__ (P := P) (w := w) (base := base) A g_input_text g_is_word g_order_of
  have gK_Type___init__ := initK g_Type___init__
  have g_Type___mod__ := ok_Type___mod__ (P := P) (w := w) (base := base) A g_Type___init__ g_is_within
  have g_Type___rshift__ := ok_Type___rshift__ (P := P) (w := w) (base := base) A g_Type___init__
  have g_signed_atoms := rs_signed_atoms (P := P) (w := w) (base := base) A  5
  have g_Type_atoms := ok_Type_atoms (P := P) (w := w) (base := base) A g_signed_atoms
  have g_Type_plain := ok_Type_plain (P := P) (w := w) (base := base) A gK_Type___init__
  have g_with_type_for := rs_with_type_for (P := P) (w := w) (base := base) A g_Type___init__ 5
  have g_Type_put := ok_Type_put (P := P) (w := w) (base := base) A g_is_word g_with_type_for
  have g_is_renaming := ok_is_renaming (P := P) (w := w) (base := base) A g_is_word
  have g_with_atoms_of := rs_with_atoms_of (P := P) (w := w) (base := base) A g_Type___init__ 5
  have g_Type_renamed := ok_Type_renamed (P := P) (w := w) (base := base) A g_Type_atoms g_is_renaming g_with_atoms_of
  have g__law_atoms_of := rs__law_atoms_of (P := P) (w := w) (base := base) A  5
  have g__law_roll := ok__law_roll (P := P) (w := w) (base := base) A 
  have g__law_pick := ok__law_pick (P := P) (w := w) (base := base) A g__law_roll
  have g__law_kind := rs__law_kind (P := P) (w := w) (base := base) A g__law_atoms_of g__law_pick g__law_roll 5
  have g__law_made_kind := rs__law_made_kind (P := P) (w := w) (base := base) A gK_Type___init__ 5
  have g__law_drawn := ok__law_drawn (P := P) (w := w) (base := base) A g__law_kind g__law_made_kind g__law_roll
  have g__law_some := ok__law_some (P := P) (w := w) (base := base) A g__law_roll
  have g__law_right := ok__law_right (P := P) (w := w) (base := base) A g_Type___eq__ g_Type___getitem__ g_Type___len__ g_Type___mod__ g_Type___rshift__ g_Type_atoms g_Type_plain g_Type_put g_Type_renamed g__law_drawn g__law_some
  have g_law := ok_law (P := P) (w := w) (base := base) A g__law_dice g__law_right
  exact g_law

end K06

open PySem PySem.W PyProof.Rows in
set_option maxRecDepth 100000 in
set_option maxHeartbeats 0 in
theorem PySem.Challenge.cw_fromparts_k06_whole_atoms_exchanged_holds : PySem.Challenge.rw_fromparts_k06_whole_atoms_exchanged.Holds := by
  w_on; o_law; k_head; (case hw => w_witness2)
  k_fill
  letI : FP.Tabl := ⟨[]⟩
  refine FP.walkG (l := PySem.Challenge.rw_fromparts_k06_whole_atoms_exchanged) (f := KP.f_law) (k := 19) rfl rfl rfl ⟨⟨rfl, by decide, by decide⟩, rfl⟩ (fun w h Y => PySem.W.kIn_of Y) ?F (fun ns h => ⟨⟨ns, rfl, h⟩, rfl⟩)
  case F =>
    intro w mg h KX G base
    refine K06.ok_all ?A
    refine' K06.all_mk KX G ?z_abs ?z_all ?z_bool ?z_dict ?z_int ?z_isinstance ?z_iter ?z_len ?z_list ?z_max ?z_min ?z_range ?z_set ?z_sorted ?z_str ?z_tuple ?z_zip ?y_ARROW ?y_LETTERS ?y_LONGEST ?y_MAX_LETTERS ?y_MAX_ORDER ?y_MAX_PLACES ?aC_KindReader ?pg_KindReader ?hd_KindReader ?po_KindReader ?sa_KindReader ?ha_KindReader ?hn_KindReader ?ht_KindReader ?hm_KindReader ?fa_KindReader_of_rows ?fa_KindReader_of_wants ?aC_Type ?pg_Type ?hd_Type ?po_Type ?sa_Type ?ha_Type ?hn_Type ?ht_Type ?hm_Type ?fa_Type_own_args ?fa_Type_own_atom ?fa_Type_own_places ?fa_Type_own_order ?fa_Type_own_text ?ic_Type ?ty_Type ?ki0_Type ?ki1_Type ?ki2_Type ?ki3_Type ?ki4_Type ?ki5_Type ?ki6_Type ?nf0_Type ?nf1_Type ?nf2_Type ?nf3_Type ?nf4_Type ?nf5_Type ?nf6_Type ?nf7_Type ?nn_Type ?a_is_integer ?l_is_integer ?c_is_integer ?k_is_integer ?a_is_within ?l_is_within ?c_is_within ?k_is_within ?a_is_word ?l_is_word ?c_is_word ?k_is_word ?a_is_renaming ?l_is_renaming ?c_is_renaming ?k_is_renaming ?a_signs_of ?l_signs_of ?c_signs_of ?k_signs_of ?a_KindReader___init__ ?i_KindReader___init__ ?l_KindReader___init__ ?c_KindReader___init__ ?k_KindReader___init__ ?mk_KindReader ?kk_KindReader ?a_KindReader_take ?i_KindReader_take ?l_KindReader_take ?c_KindReader_take ?k_KindReader_take ?a_KindReader_take_end ?i_KindReader_take_end ?l_KindReader_take_end ?c_KindReader_take_end ?k_KindReader_take_end ?a_KindReader_result ?i_KindReader_result ?l_KindReader_result ?c_KindReader_result ?k_KindReader_result ?a_shape_of ?l_shape_of ?c_shape_of ?k_shape_of ?a_kind_in ?l_kind_in ?c_kind_in ?k_kind_in ?a_order_of ?l_order_of ?c_order_of ?k_order_of ?a_input_text ?l_input_text ?c_input_text ?k_input_text ?a_Type___init__ ?i_Type___init__ ?l_Type___init__ ?c_Type___init__ ?k_Type___init__ ?mk_Type ?kk_Type ?rd_Type_read ?ga_Type_read ?a_Type_read ?r_Type_read ?fi_Type_read ?l_Type_read ?c_Type_read ?k_Type_read ?rd_Type_plain ?ga_Type_plain ?a_Type_plain ?r_Type_plain ?fi_Type_plain ?l_Type_plain ?c_Type_plain ?k_Type_plain ?a_Type_inputs ?g_Type_inputs ?t_Type_inputs ?r_Type_inputs ?l_Type_inputs ?c_Type_inputs ?k_Type_inputs ?a_Type_atom ?g_Type_atom ?t_Type_atom ?r_Type_atom ?l_Type_atom ?c_Type_atom ?k_Type_atom ?a_Type_text ?g_Type_text ?t_Type_text ?r_Type_text ?l_Type_text ?c_Type_text ?k_Type_text ?a_Type_order ?g_Type_order ?t_Type_order ?r_Type_order ?l_Type_order ?c_Type_order ?k_Type_order ?a_Type_atoms ?g_Type_atoms ?t_Type_atoms ?r_Type_atoms ?l_Type_atoms ?c_Type_atoms ?k_Type_atoms ?a_Type_parts ?g_Type_parts ?t_Type_parts ?r_Type_parts ?l_Type_parts ?c_Type_parts ?k_Type_parts ?a_Type_positive ?g_Type_positive ?t_Type_positive ?r_Type_positive ?l_Type_positive ?c_Type_positive ?k_Type_positive ?a_Type_negative ?g_Type_negative ?t_Type_negative ?r_Type_negative ?l_Type_negative ?c_Type_negative ?k_Type_negative ?a_Type_renamed ?i_Type_renamed ?l_Type_renamed ?c_Type_renamed ?k_Type_renamed ?a_Type_put ?i_Type_put ?l_Type_put ?c_Type_put ?k_Type_put ?a_Type___rshift__ ?i_Type___rshift__ ?fi_Type___rshift__ ?l_Type___rshift__ ?c_Type___rshift__ ?k_Type___rshift__ ?a_Type___mod__ ?i_Type___mod__ ?fi_Type___mod__ ?l_Type___mod__ ?c_Type___mod__ ?k_Type___mod__ ?a_Type___getitem__ ?i_Type___getitem__ ?fi_Type___getitem__ ?l_Type___getitem__ ?c_Type___getitem__ ?k_Type___getitem__ ?a_Type___len__ ?i_Type___len__ ?fi_Type___len__ ?l_Type___len__ ?c_Type___len__ ?k_Type___len__ ?a_Type___iter__ ?i_Type___iter__ ?l_Type___iter__ ?c_Type___iter__ ?k_Type___iter__ ?a_Type___contains__ ?i_Type___contains__ ?fi_Type___contains__ ?l_Type___contains__ ?c_Type___contains__ ?k_Type___contains__ ?a_Type___eq__ ?i_Type___eq__ ?fi_Type___eq__ ?l_Type___eq__ ?c_Type___eq__ ?k_Type___eq__ ?a_Type___str__ ?i_Type___str__ ?fi_Type___str__ ?l_Type___str__ ?c_Type___str__ ?k_Type___str__ ?a_type_of_text ?l_type_of_text ?c_type_of_text ?k_type_of_text ?a_parts_list ?l_parts_list ?c_parts_list ?k_parts_list ?a_signed_atoms ?l_signed_atoms ?c_signed_atoms ?k_signed_atoms ?a_with_atoms_of ?l_with_atoms_of ?c_with_atoms_of ?k_with_atoms_of ?a_with_type_for ?l_with_type_for ?c_with_type_for ?k_with_type_for ?a__law_dice ?l__law_dice ?c__law_dice ?k__law_dice ?a__law_roll ?l__law_roll ?c__law_roll ?k__law_roll ?a__law_pick ?l__law_pick ?c__law_pick ?k__law_pick ?a__law_some ?l__law_some ?c__law_some ?k__law_some ?a__law_atoms_of ?l__law_atoms_of ?c__law_atoms_of ?k__law_atoms_of ?a__law_kind ?l__law_kind ?c__law_kind ?k__law_kind ?a__law_made_kind ?l__law_made_kind ?c__law_made_kind ?k__law_made_kind ?a__law_drawn ?l__law_drawn ?c__law_drawn ?k__law_drawn ?a__law_right ?l__law_right ?c__law_right ?k__law_right ?a_law ?l_law ?c_law ?k_law ?xa_InvalidType ?xe_InvalidType ?xk_InvalidType ?xs_InvalidType ?xt_InvalidType ?xi_InvalidType ?xo_InvalidType ?xa_InvalidWord ?xe_InvalidWord ?xk_InvalidWord ?xs_InvalidWord ?xt_InvalidWord ?xi_InvalidWord ?xo_InvalidWord ?sf_Type_rshift ?nr_Type_rshift ?sf_Type_mod ?nr_Type_mod ?ki_Type_mod
    (case z_abs => k_is)
    (case z_all => k_is)
    (case z_bool => k_is)
    (case z_dict => k_is)
    (case z_int => k_is)
    (case z_isinstance => k_is)
    (case z_iter => k_is)
    (case z_len => k_is)
    (case z_list => k_is)
    (case z_max => k_is)
    (case z_min => k_is)
    (case z_range => k_is)
    (case z_set => k_is)
    (case z_sorted => k_is)
    (case z_str => k_is)
    (case z_tuple => k_is)
    (case z_zip => k_is)
    (case y_ARROW => k_is)
    (case y_LETTERS => k_is)
    (case y_LONGEST => k_is)
    (case y_MAX_LETTERS => k_is)
    (case y_MAX_ORDER => k_is)
    (case y_MAX_PLACES => k_is)
    (case aC_KindReader => k_is)
    (case pg_KindReader => k_is)
    (case hd_KindReader => k_is)
    (case po_KindReader => k_is)
    (case sa_KindReader => k_is)
    (case ha_KindReader => k_is)
    (case hn_KindReader => k_is)
    (case ht_KindReader => k_is)
    (case hm_KindReader => k_is)
    (case fa_KindReader_of_rows => k_is)
    (case fa_KindReader_of_wants => k_is)
    (case aC_Type => k_is)
    (case pg_Type => k_is)
    (case hd_Type => k_is)
    (case po_Type => k_is)
    (case sa_Type => k_is)
    (case ha_Type => k_is)
    (case hn_Type => k_is)
    (case ht_Type => k_is)
    (case hm_Type => k_is)
    (case fa_Type_own_args => k_is)
    (case fa_Type_own_atom => k_is)
    (case fa_Type_own_places => k_is)
    (case fa_Type_own_order => k_is)
    (case fa_Type_own_text => k_is)
    (case ic_Type => k_is)
    (case ty_Type => k_is)
    (case ki0_Type => k_is)
    (case ki1_Type => k_is)
    (case ki2_Type => k_is)
    (case ki3_Type => k_is)
    (case ki4_Type => k_is)
    (case ki5_Type => k_is)
    (case ki6_Type => k_is)
    (case nf0_Type => k_is)
    (case nf1_Type => k_is)
    (case nf2_Type => k_is)
    (case nf3_Type => k_is)
    (case nf4_Type => k_is)
    (case nf5_Type => k_is)
    (case nf6_Type => k_is)
    (case nf7_Type => k_is)
    (case nn_Type => k_is)
    (case a_is_integer => k_is)
    (case l_is_integer => k_is)
    (case c_is_integer => k_is)
    (case k_is_integer => k_is)
    (case a_is_within => k_is)
    (case l_is_within => k_is)
    (case c_is_within => k_is)
    (case k_is_within => k_is)
    (case a_is_word => k_is)
    (case l_is_word => k_is)
    (case c_is_word => k_is)
    (case k_is_word => k_is)
    (case a_is_renaming => k_is)
    (case l_is_renaming => k_is)
    (case c_is_renaming => k_is)
    (case k_is_renaming => k_is)
    (case a_signs_of => k_is)
    (case l_signs_of => k_is)
    (case c_signs_of => k_is)
    (case k_signs_of => k_is)
    (case a_KindReader___init__ => k_is)
    (case i_KindReader___init__ => k_is)
    (case l_KindReader___init__ => k_is)
    (case c_KindReader___init__ => k_is)
    (case k_KindReader___init__ => k_is)
    (case mk_KindReader => k_is)
    (case kk_KindReader => k_is)
    (case a_KindReader_take => k_is)
    (case i_KindReader_take => k_is)
    (case l_KindReader_take => k_is)
    (case c_KindReader_take => k_is)
    (case k_KindReader_take => k_is)
    (case a_KindReader_take_end => k_is)
    (case i_KindReader_take_end => k_is)
    (case l_KindReader_take_end => k_is)
    (case c_KindReader_take_end => k_is)
    (case k_KindReader_take_end => k_is)
    (case a_KindReader_result => k_is)
    (case i_KindReader_result => k_is)
    (case l_KindReader_result => k_is)
    (case c_KindReader_result => k_is)
    (case k_KindReader_result => k_is)
    (case a_shape_of => k_is)
    (case l_shape_of => k_is)
    (case c_shape_of => k_is)
    (case k_shape_of => k_is)
    (case a_kind_in => k_is)
    (case l_kind_in => k_is)
    (case c_kind_in => k_is)
    (case k_kind_in => k_is)
    (case a_order_of => k_is)
    (case l_order_of => k_is)
    (case c_order_of => k_is)
    (case k_order_of => k_is)
    (case a_input_text => k_is)
    (case l_input_text => k_is)
    (case c_input_text => k_is)
    (case k_input_text => k_is)
    (case a_Type___init__ => k_is)
    (case i_Type___init__ => k_is)
    (case l_Type___init__ => k_is)
    (case c_Type___init__ => k_is)
    (case k_Type___init__ => k_is)
    (case mk_Type => k_is)
    (case kk_Type => k_is)
    (case rd_Type_read => k_is)
    (case ga_Type_read => k_is)
    (case a_Type_read => k_is)
    (case r_Type_read => k_is)
    (case fi_Type_read => k_is)
    (case l_Type_read => k_is)
    (case c_Type_read => k_is)
    (case k_Type_read => k_is)
    (case rd_Type_plain => k_is)
    (case ga_Type_plain => k_is)
    (case a_Type_plain => k_is)
    (case r_Type_plain => k_is)
    (case fi_Type_plain => k_is)
    (case l_Type_plain => k_is)
    (case c_Type_plain => k_is)
    (case k_Type_plain => k_is)
    (case a_Type_inputs => k_is)
    (case g_Type_inputs => k_is)
    (case t_Type_inputs => k_is)
    (case r_Type_inputs => k_is)
    (case l_Type_inputs => k_is)
    (case c_Type_inputs => k_is)
    (case k_Type_inputs => k_is)
    (case a_Type_atom => k_is)
    (case g_Type_atom => k_is)
    (case t_Type_atom => k_is)
    (case r_Type_atom => k_is)
    (case l_Type_atom => k_is)
    (case c_Type_atom => k_is)
    (case k_Type_atom => k_is)
    (case a_Type_text => k_is)
    (case g_Type_text => k_is)
    (case t_Type_text => k_is)
    (case r_Type_text => k_is)
    (case l_Type_text => k_is)
    (case c_Type_text => k_is)
    (case k_Type_text => k_is)
    (case a_Type_order => k_is)
    (case g_Type_order => k_is)
    (case t_Type_order => k_is)
    (case r_Type_order => k_is)
    (case l_Type_order => k_is)
    (case c_Type_order => k_is)
    (case k_Type_order => k_is)
    (case a_Type_atoms => k_is)
    (case g_Type_atoms => k_is)
    (case t_Type_atoms => k_is)
    (case r_Type_atoms => k_is)
    (case l_Type_atoms => k_is)
    (case c_Type_atoms => k_is)
    (case k_Type_atoms => k_is)
    (case a_Type_parts => k_is)
    (case g_Type_parts => k_is)
    (case t_Type_parts => k_is)
    (case r_Type_parts => k_is)
    (case l_Type_parts => k_is)
    (case c_Type_parts => k_is)
    (case k_Type_parts => k_is)
    (case a_Type_positive => k_is)
    (case g_Type_positive => k_is)
    (case t_Type_positive => k_is)
    (case r_Type_positive => k_is)
    (case l_Type_positive => k_is)
    (case c_Type_positive => k_is)
    (case k_Type_positive => k_is)
    (case a_Type_negative => k_is)
    (case g_Type_negative => k_is)
    (case t_Type_negative => k_is)
    (case r_Type_negative => k_is)
    (case l_Type_negative => k_is)
    (case c_Type_negative => k_is)
    (case k_Type_negative => k_is)
    (case a_Type_renamed => k_is)
    (case i_Type_renamed => k_is)
    (case l_Type_renamed => k_is)
    (case c_Type_renamed => k_is)
    (case k_Type_renamed => k_is)
    (case a_Type_put => k_is)
    (case i_Type_put => k_is)
    (case l_Type_put => k_is)
    (case c_Type_put => k_is)
    (case k_Type_put => k_is)
    (case a_Type___rshift__ => k_is)
    (case i_Type___rshift__ => k_is)
    (case fi_Type___rshift__ => k_is)
    (case l_Type___rshift__ => k_is)
    (case c_Type___rshift__ => k_is)
    (case k_Type___rshift__ => k_is)
    (case a_Type___mod__ => k_is)
    (case i_Type___mod__ => k_is)
    (case fi_Type___mod__ => k_is)
    (case l_Type___mod__ => k_is)
    (case c_Type___mod__ => k_is)
    (case k_Type___mod__ => k_is)
    (case a_Type___getitem__ => k_is)
    (case i_Type___getitem__ => k_is)
    (case fi_Type___getitem__ => k_is)
    (case l_Type___getitem__ => k_is)
    (case c_Type___getitem__ => k_is)
    (case k_Type___getitem__ => k_is)
    (case a_Type___len__ => k_is)
    (case i_Type___len__ => k_is)
    (case fi_Type___len__ => k_is)
    (case l_Type___len__ => k_is)
    (case c_Type___len__ => k_is)
    (case k_Type___len__ => k_is)
    (case a_Type___iter__ => k_is)
    (case i_Type___iter__ => k_is)
    (case l_Type___iter__ => k_is)
    (case c_Type___iter__ => k_is)
    (case k_Type___iter__ => k_is)
    (case a_Type___contains__ => k_is)
    (case i_Type___contains__ => k_is)
    (case fi_Type___contains__ => k_is)
    (case l_Type___contains__ => k_is)
    (case c_Type___contains__ => k_is)
    (case k_Type___contains__ => k_is)
    (case a_Type___eq__ => k_is)
    (case i_Type___eq__ => k_is)
    (case fi_Type___eq__ => k_is)
    (case l_Type___eq__ => k_is)
    (case c_Type___eq__ => k_is)
    (case k_Type___eq__ => k_is)
    (case a_Type___str__ => k_is)
    (case i_Type___str__ => k_is)
    (case fi_Type___str__ => k_is)
    (case l_Type___str__ => k_is)
    (case c_Type___str__ => k_is)
    (case k_Type___str__ => k_is)
    (case a_type_of_text => k_is)
    (case l_type_of_text => k_is)
    (case c_type_of_text => k_is)
    (case k_type_of_text => k_is)
    (case a_parts_list => k_is)
    (case l_parts_list => k_is)
    (case c_parts_list => k_is)
    (case k_parts_list => k_is)
    (case a_signed_atoms => k_is)
    (case l_signed_atoms => k_is)
    (case c_signed_atoms => k_is)
    (case k_signed_atoms => k_is)
    (case a_with_atoms_of => k_is)
    (case l_with_atoms_of => k_is)
    (case c_with_atoms_of => k_is)
    (case k_with_atoms_of => k_is)
    (case a_with_type_for => k_is)
    (case l_with_type_for => k_is)
    (case c_with_type_for => k_is)
    (case k_with_type_for => k_is)
    (case a__law_dice => k_is)
    (case l__law_dice => k_is)
    (case c__law_dice => k_is)
    (case k__law_dice => k_is)
    (case a__law_roll => k_is)
    (case l__law_roll => k_is)
    (case c__law_roll => k_is)
    (case k__law_roll => k_is)
    (case a__law_pick => k_is)
    (case l__law_pick => k_is)
    (case c__law_pick => k_is)
    (case k__law_pick => k_is)
    (case a__law_some => k_is)
    (case l__law_some => k_is)
    (case c__law_some => k_is)
    (case k__law_some => k_is)
    (case a__law_atoms_of => k_is)
    (case l__law_atoms_of => k_is)
    (case c__law_atoms_of => k_is)
    (case k__law_atoms_of => k_is)
    (case a__law_kind => k_is)
    (case l__law_kind => k_is)
    (case c__law_kind => k_is)
    (case k__law_kind => k_is)
    (case a__law_made_kind => k_is)
    (case l__law_made_kind => k_is)
    (case c__law_made_kind => k_is)
    (case k__law_made_kind => k_is)
    (case a__law_drawn => k_is)
    (case l__law_drawn => k_is)
    (case c__law_drawn => k_is)
    (case k__law_drawn => k_is)
    (case a__law_right => k_is)
    (case l__law_right => k_is)
    (case c__law_right => k_is)
    (case k__law_right => k_is)
    (case a_law => k_is)
    (case l_law => k_is)
    (case c_law => k_is)
    (case k_law => k_is)
    (case xa_InvalidType => k_is)
    (case xe_InvalidType => k_exc)
    (case xk_InvalidType => k_is)
    (case xs_InvalidType => k_is)
    (case xt_InvalidType => k_is)
    (case xi_InvalidType => k_is)
    (case xo_InvalidType => k_is)
    (case xa_InvalidWord => k_is)
    (case xe_InvalidWord => k_exc)
    (case xk_InvalidWord => k_is)
    (case xs_InvalidWord => k_is)
    (case xt_InvalidWord => k_is)
    (case xi_InvalidWord => k_is)
    (case xo_InvalidWord => k_is)
    (case sf_Type_rshift => k_is)
    (case nr_Type_rshift => k_is)
    (case sf_Type_mod => k_is)
    (case nr_Type_mod => k_is)
    (case ki_Type_mod => k_is)
#print axioms PySem.Challenge.cw_fromparts_k06_whole_atoms_exchanged_holds
