import PyProof.Rows.All
import Wide.All
import OpenK.AllK
import Wide.FinOn
import HandS.ForMost
import HandS.Flow
import HandS.IsInst
import HandS.More
import HandS.TupAny
import HandS.EndBits
import KE.KeyNested
import KE.KDictKeyed
import HandS.Style
import KE.KDictPairs
import KE.DataCmp
import KE.SortData
import KE.DatumOrd
import KE.DataMinMax
import HandS.Conv
import HandS.ListItems
import HandS.Small
import PySem.Challenge.RW_stepswatched_k42_runs_side_by_side
set_option Elab.async false
set_option linter.all false
set_option maxRecDepth 100000
set_option maxHeartbeats 4000000
/-! A layer of plain data over the hand layer: values as trees (D), a state of slots (En), judgements Snd.. that say
which function of the slots an expression, a statement, a def is. -/
namespace Dl
open PySem PySem.Spec PyProof.Rows L2
/-- a length that lines can have; not to be reckoned with -/
@[irreducible] def lim : Nat := 1000000
theorem lim_eq : lim = 1000000 := by unfold lim; rfl
theorem lt_lim {n : Nat} (h : n ≤ 900000) : n < lim := by rw [lim_eq]; omega
theorem le_lim {n : Nat} (h : n ≤ 900000) : n ≤ lim := by rw [lim_eq]; omega

/-- what the readings lean on: the standing objects, the world -/
structure KW where
  k : PySem.W.Frag
  w : World
instance : CoeOut KW PySem.W.Frag := ⟨KW.k⟩
abbrev kwOf (X : Cx) : KW := ⟨X.K, X.w⟩

/-- data -/
inductive D where
  | non | bl (b : Bool) | int (i : Int) | str (x : Str)
  | tup (ds : List D) | lst (ds : List D)
  | dk (ks : List Key) (ds : List D)
  | dt (ks : List D) (ds : List D)
  | scr (ns : List Int)
  | ty (n : String)
  | w
mutual
/-- a datum as a key -/
def nkD : D → Option NestedKey
  | .non => some .none
  | .bl b => some (.num (if b = true then 1 else 0))
  | .int i => some (.num i)
  | .str x => some (.text x)
  | .tup ds => (nkDs ds).map .tup
  | _ => none
def nkDs : List D → Option (List NestedKey)
  | [] => some []
  | d :: ds => (nkD d).bind fun k => (nkDs ds).map fun r => k :: r
end
/-- a dict whose keys are tuples: its entries -/
abbrev DEs := List (NestedKey × Addr × Value)
def DtRaw (w : World) (a : Addr) (xs : DEs) (h : Heap) : Prop :=
  ∃ o es ep, h.get? a = some o ∧ o.ExactDict ∧ o.data = .dict es ep ∧ es.toList = xs.map (fun x => (⟨x.1.hash w, .ref x.2.1, x.2.2⟩ : DictEntry)) ∧ (xs.map (·.1)).Nodup ∧ (a == sysModules) = false ∧ xs.length ≤ sizeLine
def DTO (w : World) (a : Addr) (xs : DEs) : HO := .ext (DtRaw w a xs)
def DtOk (ks : List D) (xs : DEs) : Prop := Paired (fun (k : D) (x : NestedKey × Addr × Value) => nkD k = some x.1 ∧ x.1.depth ≤ 8) ks xs
def dtV (xs : DEs) : List V := xs.map fun x => .ref x.2.1
def dtU (xs : DEs) : List Value := xs.map fun x => x.2.2
/-- frozen (never changes again), one's own and new, one's own and held by a slot -/
inductive O3 where
  | fz | ow | bo
  deriving DecidableEq
abbrev DS := D × O3
/-- the law's draws -/
structure Wd where
  draws : List Int
  ix : Int
abbrev En := List (Option (D × Bool))
abbrev EF := En → Option Wd → Option (DS × Option Wd)
abbrev EA := En → Option Wd → Option (List DS × Option Wd)
abbrev ET := En → Option Wd → Option (Bool × Option Wd)
abbrev EI := En → Option Wd → Option (List D × Option Wd)
abbrev Fn := List D → Option Wd → Option (DS × Option Wd)

def KL (K : KW) (a : Addr) (xs : List V) : Prop :=
  ∃ (o : Obj) (its : Array Value) (n : Nat), K.k.lookup a = some o ∧ o.cls = .type "list" ∧ o.dict = none ∧ o.data = .seq its n ∧ its.size ≤ sizeLine ∧ Vals xs its.toList
theorem sqL_iff {K : KW} {H : Hp} {a : Addr} {xs : List V} : SqL K H a xs ↔ (Rd H a (.lst xs) ∨ KL K a xs) := Iff.rfl

/-- how a tuple stands -/
def TupO (u : HO) (vs : List V) : Prop := ∃ o : Obj, o.cls = .type "tuple" ∧ o.dict = none ∧ u = .frz o (.tup vs)
theorem TupO.sq {K : KW} {H : Hp} {a : Addr} {u : HO} {vs : List V} (t : TupO u vs) (h : H a = some u) : SqT K H a vs := by
  obtain ⟨o, _, _, e⟩ := t
  subst e
  exact .inl (.inr ⟨o, h⟩)
mutual
/-- the value v is the data d, all of it frozen -/
def Rep (K : KW) (F : Addr → Prop) (wa : Option Addr) (H : Hp) : D → V → Prop
  | .non, v => v = .non
  | .bl b, v => v = .bl b
  | .int i, v => v = .int i
  | .str x, v => v = .str x
  | .tup ds, v => ∃ a u vs, v = .ref a ∧ F a ∧ H a = some u ∧ TupO u vs ∧ Reps K F wa H ds vs
  | .lst ds, v => ∃ a vs, v = .ref a ∧ F a ∧ H a = some (.lst vs) ∧ Reps K F wa H ds vs
  | .scr ns, v => ∃ a, v = .ref a ∧ ((F a ∧ Rd H a (.lst (ns.map V.int))) ∨ KL K a (ns.map V.int))
  | .ty n, v => v = .ty n
  | .dk ks ds, v => ∃ a vs, v = .ref a ∧ F a ∧ H a = some (.dK (ks.zip vs)) ∧ ks.length = vs.length ∧ Reps K F wa H ds vs
  | .dt ks ds, v => ∃ a xs vs, v = .ref a ∧ F a ∧ H a = some (DTO K.w a xs) ∧ DtOk ks xs ∧ Vals vs (dtU xs) ∧ Reps K F wa H ks (dtV xs) ∧ Reps K F wa H ds vs
  | .w, v => ∃ a, wa = some a ∧ v = .ref a
def Reps (K : KW) (F : Addr → Prop) (wa : Option Addr) (H : Hp) : List D → List V → Prop
  | [], vs => vs = []
  | d :: ds, vs => ∃ v r, vs = v :: r ∧ Rep K F wa H d v ∧ Reps K F wa H ds r
end
section
variable {K : KW} {F F' : Addr → Prop} {wa : Option Addr} {H H' : Hp}
mutual
theorem Rep.mono (hF : ∀ a, F a → F' a) (hH : ∀ a o, F a → H a = some o → H' a = some o) : ∀ (d : D) (v : V), Rep K F wa H d v → Rep K F' wa H' d v
  | .non, v, h => h
  | .bl b, v, h => h
  | .int b, v, h => h
  | .str b, v, h => h
  | .tup ds, v, h => by
    obtain ⟨a, u, vs, h1, h2, h3, ht, h4⟩ := h
    exact ⟨a, u, vs, h1, hF a h2, hH a _ h2 h3, ht, Reps.mono hF hH ds vs h4⟩
  | .lst ds, v, h => by
    obtain ⟨a, vs, h1, h2, h3, h4⟩ := h
    exact ⟨a, vs, h1, hF a h2, hH a _ h2 h3, Reps.mono hF hH ds vs h4⟩
  | .ty n, v, h => h
  | .scr ns, v, h => by
    obtain ⟨a, h1, h2⟩ := h
    refine ⟨a, h1, ?_⟩
    rcases h2 with ⟨h2, h3⟩ | h2
    · refine .inl ⟨hF a h2, ?_⟩
      rcases h3 with h3 | ⟨o, h3⟩
      · exact .inl (hH a _ h2 h3)
      · exact .inr ⟨o, hH a _ h2 h3⟩
    · exact .inr h2
  | .dk ks ds, v, h => by
    obtain ⟨a, vs, h1, h2, h3, h5, h4⟩ := h
    exact ⟨a, vs, h1, hF a h2, hH a _ h2 h3, h5, Reps.mono hF hH ds vs h4⟩
  | .dt ks ds, v, h => by
    obtain ⟨a, xs, vs, h1, h2, h3, h5, h6, h7, h4⟩ := h
    exact ⟨a, xs, vs, h1, hF a h2, hH a _ h2 h3, h5, h6, Reps.mono hF hH ks _ h7, Reps.mono hF hH ds vs h4⟩
  | .w, v, h => h
theorem Reps.mono (hF : ∀ a, F a → F' a) (hH : ∀ a o, F a → H a = some o → H' a = some o) : ∀ (ds : List D) (vs : List V), Reps K F wa H ds vs → Reps K F' wa H' ds vs
  | [], vs, h => h
  | d :: ds, vs, h => by
    obtain ⟨v, r, h1, h2, h3⟩ := h
    exact ⟨v, r, h1, Rep.mono hF hH d v h2, Reps.mono hF hH ds r h3⟩
end
theorem Reps.len : ∀ {ds : List D} {vs : List V}, Reps K F wa H ds vs → ds.length = vs.length
  | [], vs, h => by
    have e : vs = [] := h
    rw [e]; rfl
  | d :: ds, vs, h => by
    obtain ⟨v, r, h1, _, h3⟩ := h
    rw [h1, List.length_cons, List.length_cons, Reps.len h3]
theorem Reps.at : ∀ {ds : List D} {vs : List V} {i : Nat} {d : D}, Reps K F wa H ds vs → ds[i]? = some d → ∃ v, vs[i]? = some v ∧ Rep K F wa H d v
  | [], _, _, _, _, e => by simp at e
  | d' :: ds, vs, 0, d, h, e => by
    obtain ⟨v, r, h1, h2, _⟩ := h
    simp at e; subst e; subst h1
    exact ⟨v, rfl, h2⟩
  | d' :: ds, vs, i + 1, d, h, e => by
    obtain ⟨v, r, h1, _, h3⟩ := h
    subst h1
    obtain ⟨v', e1, e2⟩ := Reps.at (i := i) h3 (by simpa using e)
    exact ⟨v', by simpa using e1, e2⟩
theorem Reps.at' : ∀ {ds : List D} {vs : List V} {i : Nat} {v : V}, Reps K F wa H ds vs → vs[i]? = some v → ∃ d, ds[i]? = some d ∧ Rep K F wa H d v := fun {ds vs i v} h e => by
  have hl := h.len
  have hi : i < vs.length := (List.getElem?_eq_some_iff.mp e).1
  obtain ⟨v', e1, r⟩ := h.at (i := i) (d := ds[i]'(by omega)) (by simp [show i < ds.length by omega])
  rw [e] at e1; cases e1
  exact ⟨_, by simp [show i < ds.length by omega], r⟩
theorem Reps.app : ∀ {ds es : List D} {vs us : List V}, Reps K F wa H ds vs → Reps K F wa H es us → Reps K F wa H (ds ++ es) (vs ++ us)
  | [], _, vs, _, h, g => by
    have e : vs = [] := h
    rw [e]; exact g
  | d :: ds, es, vs, us, h, g => by
    obtain ⟨v, r, h1, h2, h3⟩ := h
    subst h1
    exact ⟨v, r ++ us, rfl, h2, Reps.app h3 g⟩
theorem Reps.one {d : D} {v : V} (h : Rep K F wa H d v) : Reps K F wa H [d] [v] := ⟨v, [], rfl, h, rfl⟩
theorem Reps.take : ∀ {ds : List D} {vs : List V} (n : Nat), Reps K F wa H ds vs → Reps K F wa H (ds.take n) (vs.take n)
  | _, _, 0, _ => rfl
  | [], vs, n + 1, h => by
    have e : vs = [] := h
    rw [e]; rfl
  | d :: ds, vs, n + 1, h => by
    obtain ⟨v, r, h1, h2, h3⟩ := h
    subst h1
    exact ⟨v, r.take n, rfl, h2, Reps.take n h3⟩
theorem Reps.drop : ∀ {ds : List D} {vs : List V} (n : Nat), Reps K F wa H ds vs → Reps K F wa H (ds.drop n) (vs.drop n)
  | _, _, 0, h => h
  | [], vs, n + 1, h => by
    have e : vs = [] := h
    rw [e]; rfl
  | d :: ds, vs, n + 1, h => by
    obtain ⟨v, r, h1, h2, h3⟩ := h
    subst h1
    exact Reps.drop n h3
theorem Reps.ints : ∀ {ns : List Int}, Reps K F wa H (ns.map D.int) (ns.map V.int)
  | [] => rfl
  | n :: ns => ⟨.int n, ns.map V.int, rfl, rfl, Reps.ints⟩
theorem Reps.cons {d : D} {ds : List D} {v : V} {vs : List V} (h : Rep K F wa H d v) (t : Reps K F wa H ds vs) : Reps K F wa H (d :: ds) (v :: vs) := ⟨v, vs, rfl, h, t⟩
end

/-- as it stands now -/
def Cur (K : KW) (F : Addr → Prop) (wa : Option Addr) (H : Hp) : D → V → Prop
  | .lst ds, v => ∃ a vs, v = .ref a ∧ H a = some (.lst vs) ∧ Reps K F wa H ds vs
  | .scr ns, v => ∃ a, v = .ref a ∧ SqL K H a (ns.map V.int)
  | .dk ks ds, v => ∃ a vs, v = .ref a ∧ H a = some (.dK (ks.zip vs)) ∧ ks.length = vs.length ∧ Reps K F wa H ds vs
  | .dt ks ds, v => ∃ a xs vs, v = .ref a ∧ H a = some (DTO K.w a xs) ∧ DtOk ks xs ∧ Vals vs (dtU xs) ∧ Reps K F wa H ks (dtV xs) ∧ Reps K F wa H ds vs
  | d, v => Rep K F wa H d v
/-- the object o at a is the changeable datum d -/
def OwnO (K : KW) (F : Addr → Prop) (wa : Option Addr) (H : Hp) (a : Addr) : D → HO → Prop
  | .lst ds, o => ∃ vs, o = .lst vs ∧ Reps K F wa H ds vs
  | .dk ks ds, o => ∃ vs, o = .dK (ks.zip vs) ∧ ks.length = vs.length ∧ Reps K F wa H ds vs
  | .dt ks ds, o => ∃ xs vs, o = DTO K.w a xs ∧ DtOk ks xs ∧ Vals vs (dtU xs) ∧ Reps K F wa H ks (dtV xs) ∧ Reps K F wa H ds vs
  | _, _ => False
theorem OwnO.mono {K : KW} {F F' : Addr → Prop} {wa : Option Addr} {H H' : Hp} {a : Addr} {d : D} {o : HO} (h : OwnO K F wa H a d o) (hF : ∀ a, F a → F' a) (hH : ∀ a o, F a → H a = some o → H' a = some o) : OwnO K F' wa H' a d o := by
  cases d with
  | lst ds => obtain ⟨vs, e, r⟩ := h; exact ⟨vs, e, Reps.mono hF hH _ _ r⟩
  | dk ks ds => obtain ⟨vs, e, l, r⟩ := h; exact ⟨vs, e, l, Reps.mono hF hH _ _ r⟩
  | dt ks ds => obtain ⟨xs, vs, e, l, l2, r, r2⟩ := h; exact ⟨xs, vs, e, l, l2, Reps.mono hF hH _ _ r, Reps.mono hF hH _ _ r2⟩
  | _ => exact h.elim
theorem OwnO.cur {K : KW} {F : Addr → Prop} {wa : Option Addr} {H : Hp} {a : Addr} {d : D} {o : HO} (h : OwnO K F wa H a d o) (e : H a = some o) : Cur K F wa H d (.ref a) := by
  cases d with
  | lst ds => obtain ⟨vs, q, r⟩ := h; subst q; exact ⟨a, vs, rfl, e, r⟩
  | dk ks ds => obtain ⟨vs, q, l, r⟩ := h; subst q; exact ⟨a, vs, rfl, e, l, r⟩
  | dt ks ds => obtain ⟨xs, vs, q, l, l2, r, r2⟩ := h; subst q; exact ⟨a, xs, vs, rfl, e, l, l2, r, r2⟩
  | _ => exact h.elim
theorem OwnO.rep {K : KW} {F F' : Addr → Prop} {wa : Option Addr} {H : Hp} {a : Addr} {d : D} {o : HO} (h : OwnO K F wa H a d o) (e : H a = some o) (hF : ∀ a, F a → F' a) (ha : F' a) : Rep K F' wa H d (.ref a) := by
  have h := h.mono (H' := H) hF fun _ _ _ z => z
  cases d with
  | lst ds => obtain ⟨vs, q, r⟩ := h; subst q; exact ⟨a, vs, rfl, ha, e, r⟩
  | dk ks ds => obtain ⟨vs, q, l, r⟩ := h; subst q; exact ⟨a, vs, rfl, ha, e, l, r⟩
  | dt ks ds => obtain ⟨xs, vs, q, l, l2, r, r2⟩ := h; subst q; exact ⟨a, xs, vs, rfl, ha, e, l, l2, r, r2⟩
  | _ => exact h.elim
/-- one's own object at a -/
def OwnAt (K : KW) (F : Addr → Prop) (wa : Option Addr) (H : Hp) (d : D) (a : Addr) : Prop := ¬ F a ∧ wa ≠ some a ∧ ∃ o, H a = some o ∧ OwnO K F wa H a d o
theorem OwnAt.mkL {K : KW} {F : Addr → Prop} {wa : Option Addr} {H : Hp} {a : Addr} {ds : List D} {vs : List V} (h1 : ¬ F a) (h2 : wa ≠ some a) (h : H a = some (.lst vs)) (r : Reps K F wa H ds vs) : OwnAt K F wa H (.lst ds) a := ⟨h1, h2, _, h, vs, rfl, r⟩
theorem OwnAt.lst {K : KW} {F : Addr → Prop} {wa : Option Addr} {H : Hp} {a : Addr} {ds : List D} (h : OwnAt K F wa H (.lst ds) a) : ∃ vs, H a = some (.lst vs) ∧ Reps K F wa H ds vs := by
  obtain ⟨_, _, o, e, vs, q, r⟩ := h
  subst q; exact ⟨vs, e, r⟩
def RS (K : KW) (B F : Addr → Prop) (wa : Option Addr) (H0 H : Hp) (d : D) (st : O3) (v : V) : Prop := match st with
  | .fz => Rep K F wa H d v
  | .ow => ∃ a, v = .ref a ∧ OwnAt K F wa H d a ∧ H0 a = none
  | .bo => ∃ a, v = .ref a ∧ OwnAt K F wa H d a ∧ ¬ B a
def kDraws : Key := .inr "draws"
def kAt : Key := .inr "at"
def WOk (F : Addr → Prop) (wa : Option Addr) (H : Hp) (w : Option Wd) : Prop := match wa, w with
  | none, none => True
  | some a, some W => ¬ F a ∧ ∃ da, F da ∧ H a = some (.dK [(kDraws, .ref da), (kAt, .int W.ix)]) ∧ H da = some (.lst (W.draws.map V.int))
  | _, _ => False
structure Aft (K : KW) (wa : Option Addr) (F : Addr → Prop) (H : Hp) (w' : Option Wd) (F' : Addr → Prop) (H' : Hp) : Prop where
  sub : ∀ a, F a → F' a
  new : ∀ a, F' a → F a ∨ H a = none
  keep : ∀ a o, H a = some o → wa ≠ some a → H' a = some o
  kf : ∀ a o, F a → H a = some o → H' a = some o
  dom : ∀ a, H' a = none → H a = none
  wk : WOk F' wa H' w'
  fd : ∀ a, F' a → H' a ≠ none
structure AftS (K : KW) (B : Addr → Prop) (wa : Option Addr) (F : Addr → Prop) (H : Hp) (w' : Option Wd) (F' : Addr → Prop) (H' : Hp) : Prop where
  sub : ∀ a, F a → F' a
  new : ∀ a, F' a → F a ∨ ¬ B a
  keep : ∀ a o, H a = some o → B a → wa ≠ some a → H' a = some o
  kf : ∀ a o, F a → H a = some o → H' a = some o
  dom : ∀ a, H' a = none → H a = none
  wk : WOk F' wa H' w'
  fd : ∀ a, F' a → H' a ≠ none
structure SI (K : KW) (B F : Addr → Prop) (wa : Option Addr) (H : Hp) (w : Option Wd) (σ : L2.St) (env : En) : Prop where
  len : env.length = σ.length
  fz : ∀ (i : Nat) d, env[i]? = some (some (d, false)) → ∃ v, σ[i]? = some (some v) ∧ Rep K F wa H d v
  ow : ∀ (i : Nat) d, env[i]? = some (some (d, true)) → ∃ a, σ[i]? = some (some (.ref a)) ∧ OwnAt K F wa H d a ∧ ¬ B a
  ne : ∀ (i j : Nat) d e a, i ≠ j → env[i]? = some (some (d, true)) → env[j]? = some (some (e, true)) → σ[i]? = some (some (.ref a)) → σ[j]? ≠ some (some (.ref a))
  wk : WOk F wa H w
  fd : ∀ a, F a → H a ≠ none
  bd : ∀ a, B a → H a ≠ none
section
variable {K : KW} {B F F' F1 F2 : Addr → Prop} {wa : Option Addr} {H0 H H' H1 H2 : Hp} {w w' w1 w2 : Option Wd} {σ : L2.St} {env : En} {d : D} {st : O3} {v : V} {a : Addr}
theorem WOk.nf (h : WOk F wa H w) (e : wa = some a) : ¬ F a ∧ H a ≠ none := by
  subst e
  cases w with
  | none => exact h.elim
  | some W =>
    obtain ⟨h1, da, _, h2, _⟩ := h
    exact ⟨h1, by rw [h2]; simp⟩
theorem WOk.ne (h : WOk F wa H w) (e : H a = none) : wa ≠ some a := fun z => (h.nf z).2 e
theorem Aft.refl (wk : WOk F wa H w) (fd : ∀ a, F a → H a ≠ none) : Aft K wa F H w F H := ⟨fun _ h => h, fun _ h => .inl h, fun _ _ h _ => h, fun _ _ _ h => h, fun _ h => h, wk, fd⟩
theorem Aft.trans (a : Aft K wa F H w1 F1 H1) (b : Aft K wa F1 H1 w2 F2 H2) : Aft K wa F H w2 F2 H2 where
  sub := fun x h => b.sub x (a.sub x h)
  new := fun x h => by
    rcases b.new x h with h | h
    · exact a.new x h
    · exact .inr (a.dom x h)
  keep := fun x o h e => b.keep x o (a.keep x o h e) e
  kf := fun x o f h => b.kf x o (a.sub x f) (a.kf x o f h)
  dom := fun x h => a.dom x (b.dom x h)
  wk := b.wk
  fd := b.fd
theorem Aft.rep (a : Aft K wa F H w1 F1 H1) (h : Rep K F wa H d v) : Rep K F1 wa H1 d v := Rep.mono a.sub a.kf d v h
theorem Aft.reps {ds : List D} {vs : List V} (a : Aft K wa F H w1 F1 H1) (h : Reps K F wa H ds vs) : Reps K F1 wa H1 ds vs := Reps.mono a.sub a.kf ds vs h
theorem OwnAt.some (h : OwnAt K F wa H d a) : ∃ o, H a = some o := by
  obtain ⟨_, _, o, e, _⟩ := h
  exact ⟨o, e⟩
theorem OwnAt.aft (A : Aft K wa F H w1 F1 H1) (h : OwnAt K F wa H d a) : OwnAt K F1 wa H1 d a := by
  obtain ⟨h1, h2, o, ho, h3⟩ := h
  refine ⟨fun z => ?_, h2, o, A.keep a _ ho h2, h3.mono A.sub A.kf⟩
  rcases A.new a z with z | z
  · exact h1 z
  · rw [ho] at z; cases z
theorem RS.aft (A : Aft K wa F H w1 F1 H1) (h : RS K B F wa H0 H d st v) : RS K B F1 wa H0 H1 d st v := by
  cases st with
  | fz => exact A.rep h
  | ow => obtain ⟨a, e, o, z⟩ := h; exact ⟨a, e, o.aft A, z⟩
  | bo => obtain ⟨a, e, o, z⟩ := h; exact ⟨a, e, o.aft A, z⟩
/-- the earlier start -/
theorem RS.back (A : Aft K wa F' H' w1 F1 H1) (h : RS K B F2 wa H1 H2 d st v) : RS K B F2 wa H' H2 d st v := by
  cases st with
  | fz => exact h
  | ow => obtain ⟨a, e, o, z⟩ := h; exact ⟨a, e, o, A.dom a z⟩
  | bo => exact h
theorem Rep.cur (h : Rep K F wa H d v) : Cur K F wa H d v := by
  cases d with
  | lst ds => obtain ⟨a, vs, e, _, h, r⟩ := h; exact ⟨a, vs, e, h, r⟩
  | scr ns =>
    obtain ⟨a, e, h⟩ := h
    refine ⟨a, e, ?_⟩
    rcases h with ⟨_, h⟩ | h
    · exact .inl h
    · exact .inr h
  | dk ks ds => obtain ⟨a, vs, e, _, h, l, r⟩ := h; exact ⟨a, vs, e, h, l, r⟩
  | dt ks ds => obtain ⟨a, xs, vs, e, _, h⟩ := h; exact ⟨a, xs, vs, e, h⟩
  | _ => exact h
theorem OwnAt.cur (h : OwnAt K F wa H d a) : Cur K F wa H d (.ref a) := by
  obtain ⟨_, _, o, e, h⟩ := h
  exact h.cur e
theorem RS.cur (h : RS K B F wa H0 H d st v) : Cur K F wa H d v := by
  cases st with
  | fz => exact Rep.cur h
  | ow => obtain ⟨a, e, o, z⟩ := h; subst e; exact o.cur
  | bo => obtain ⟨a, e, o, z⟩ := h; subst e; exact o.cur
/-- a new object at p; F' with p or without -/
theorem Aft.new1 {p : Addr} {o : HO} (wk : WOk F wa H w) (fd : ∀ a, F a → H a ≠ none) (hp : H p = none) : Aft K wa F H w (fun a => F a ∨ a = p) (upd H p o) where
  sub := fun _ h => .inl h
  new := fun a h => by
    rcases h with h | h
    · exact .inl h
    · subst h; exact .inr hp
  keep := fun a u h _ => by rw [upd_ne (ne_of_none h hp)]; exact h
  kf := fun a u _ h => by rw [upd_ne (ne_of_none h hp)]; exact h
  dom := fun a h => by
    by_cases e : a = p
    · subst e; exact hp
    · rw [upd_ne e] at h; exact h
  wk := by
    cases wa with
    | none => cases w with
      | none => trivial
      | some W => exact wk
    | some x => cases w with
      | none => exact wk
      | some W =>
        obtain ⟨h1, da, h2, h3, h4⟩ := wk
        refine ⟨fun z => ?_, da, .inl h2, ?_, ?_⟩
        · rcases z with z | z
          · exact h1 z
          · subst z; rw [hp] at h3; cases h3
        · rw [upd_ne (ne_of_none h3 hp)]; exact h3
        · rw [upd_ne (ne_of_none h4 hp)]; exact h4
  fd := fun a h => by
    by_cases e : a = p
    · subst e; rw [upd_same]; simp
    · rw [upd_ne e]
      rcases h with h | h
      · exact fd a h
      · exact absurd h e
theorem Aft.new0 {p : Addr} {o : HO} (wk : WOk F wa H w) (fd : ∀ a, F a → H a ≠ none) (hp : H p = none) : Aft K wa F H w F (upd H p o) := by
  have A := Aft.new1 (K := K) (o := o) wk fd hp
  refine ⟨fun _ h => h, fun _ h => .inl h, A.keep, A.kf, A.dom, ?_, fun a h => A.fd a (.inl h)⟩
  cases wa with
  | none => cases w with
    | none => trivial
    | some W => exact wk
  | some x => cases w with
    | none => exact wk
    | some W =>
      obtain ⟨h1, da, h2, h3, h4⟩ := wk
      refine ⟨h1, da, h2, ?_, ?_⟩
      · rw [upd_ne (ne_of_none h3 hp)]; exact h3
      · rw [upd_ne (ne_of_none h4 hp)]; exact h4
theorem SI.aft (S : SI K B F wa H w σ env) (A : Aft K wa F H w1 F1 H1) : SI K B F1 wa H1 w1 σ env where
  len := S.len
  fz := fun i d e => by
    obtain ⟨v, h, r⟩ := S.fz i d e
    exact ⟨v, h, A.rep r⟩
  ow := fun i d e => by
    obtain ⟨a, h, o, b⟩ := S.ow i d e
    exact ⟨a, h, o.aft A, b⟩
  ne := S.ne
  wk := A.wk
  fd := A.fd
  bd := fun a b e => S.bd a b (A.dom a e)
theorem Aft.toS (A : Aft K wa F H w1 F1 H1) (bd : ∀ a, B a → H a ≠ none) : AftS K B wa F H w1 F1 H1 :=
  ⟨A.sub, fun a h => (A.new a h).elim .inl fun z => .inr fun b => bd a b z, fun a o h _ e => A.keep a o h e, A.kf, A.dom, A.wk, A.fd⟩
theorem AftS.refl (wk : WOk F wa H w) (fd : ∀ a, F a → H a ≠ none) : AftS K B wa F H w F H := ⟨fun _ h => h, fun _ h => .inl h, fun _ _ h _ _ => h, fun _ _ _ h => h, fun _ h => h, wk, fd⟩
theorem AftS.trans (a : AftS K B wa F H w1 F1 H1) (b : AftS K B wa F1 H1 w2 F2 H2) : AftS K B wa F H w2 F2 H2 where
  sub := fun x h => b.sub x (a.sub x h)
  new := fun x h => (b.new x h).elim (a.new x) .inr
  keep := fun x o h e z => b.keep x o (a.keep x o h e z) e z
  kf := fun x o f h => b.kf x o (a.sub x f) (a.kf x o f h)
  dom := fun x h => a.dom x (b.dom x h)
  wk := b.wk
  fd := b.fd
/-- one's own new object is frozen -/
theorem OwnAt.freeze (wk : WOk F wa H w) (fd : ∀ a, F a → H a ≠ none) (h : OwnAt K F wa H d a) : WOk (fun b => F b ∨ b = a) wa H w ∧ (∀ b, F b ∨ b = a → H b ≠ none) ∧ Rep K (fun b => F b ∨ b = a) wa H d (.ref a) := by
  obtain ⟨h1, h2, o, ho, h3⟩ := h
  refine ⟨?_, fun b z => ?_, ?_⟩
  · cases wa with
    | none => cases w with
      | none => trivial
      | some W => exact wk
    | some x => cases w with
      | none => exact wk
      | some W =>
        obtain ⟨g1, da, g2, g3, g4⟩ := wk
        exact ⟨fun z => z.elim g1 fun e => h2 (by rw [e]), da, .inl g2, g3, g4⟩
  · rcases z with z | z
    · exact fd b z
    · subst z; rw [ho]; simp
  · exact h3.rep ho (fun _ z => .inl z) (.inr rfl)
theorem RS.freeze (A : Aft K wa F H w1 F1 H1) (h : RS K B F1 wa H H1 d .ow v) : ∃ F2, Aft K wa F H w1 F2 H1 ∧ Rep K F2 wa H1 d v := by
  obtain ⟨a, e, o, z⟩ := h
  subst e
  obtain ⟨k, f, r⟩ := o.freeze A.wk A.fd
  exact ⟨_, ⟨fun x h => .inl (A.sub x h), fun x h => h.elim (A.new x) fun e => .inr (by rw [e]; exact z), A.keep, A.kf, A.dom, k, f⟩, r⟩
end

/-! ### expressions -/
def rd (K : KW) (f : EF) : TE := fun σ H Q => ∃ B F wa w env, SI K B F wa H w σ env ∧ ∃ d st w', f env w = some ((d, st), w') ∧ ∀ v F' H', Aft K wa F H w' F' H' → RS K B F' wa H H' d st v → Q v H'
def Snd (X : Cx) (e : Expr) (f : EF) : Prop := PE X e (rd (kwOf X) f)
def RSp (K : KW) (B F : Addr → Prop) (wa : Option Addr) (H0 H : Hp) (ds : List DS) (vs : List V) : Prop := Paired (fun (p : DS) v => RS K B F wa H0 H p.1 p.2 v) ds vs
/-- new objects are not one and the same -/
def Apart : List DS → List V → Prop
  | (_, st) :: ds, v :: vs => (st = .ow → ∀ p ∈ ds.zip vs, p.1.2 = .ow → p.2 ≠ v) ∧ Apart ds vs
  | _, _ => True
def RSs (K : KW) (B F : Addr → Prop) (wa : Option Addr) (H0 H : Hp) (ds : List DS) (vs : List V) : Prop := RSp K B F wa H0 H ds vs ∧ Apart ds vs
def rdA (K : KW) (f : EA) : TA := fun σ H Q => ∃ B F wa w env, SI K B F wa H w σ env ∧ ∃ ds w', f env w = some (ds, w') ∧ ∀ vs F' H', Aft K wa F H w' F' H' → RSs K B F' wa H H' ds vs → Q vs H'
def SndA (X : Cx) (es : List Expr) (f : EA) : Prop := PA X es (rdA (kwOf X) f)
def rdT (K : KW) (f : ET) : TT := fun σ H Q => ∃ B F wa w env, SI K B F wa H w σ env ∧ ∃ b w', f env w = some (b, w') ∧ ∀ F' H', Aft K wa F H w' F' H' → Q b H'
def SndT (X : Cx) (e : Expr) (f : ET) : Prop := PT X e (rdT (kwOf X) f)
def SndW (X : Cx) (e : Expr) (f : ET) : Prop := PW X e (rdT (kwOf X) f)
theorem pe_imp {X : Cx} {e : Expr} {t t' : TE} (h : PE X e t) (k : ∀ σ H Q, t' σ H Q → t σ H Q) : PE X e t' := ⟨fun pins s σ H Q I q => h.run pins s σ H Q I (k _ _ _ q)⟩
theorem pa_imp {X : Cx} {es : List Expr} {t t' : TA} (h : PA X es t) (k : ∀ σ H Q, t' σ H Q → t σ H Q) : PA X es t' := ⟨fun pos pins s σ H Q I q => h.run pos pins s σ H Q I (k _ _ _ q)⟩
theorem pt_imp {X : Cx} {e : Expr} {t t' : TT} (h : PT X e t) (k : ∀ σ H Q, t' σ H Q → t σ H Q) : PT X e t' := ⟨fun pins s σ H Q I q => h.run pins s σ H Q I (k _ _ _ q)⟩
theorem pw_imp {X : Cx} {e : Expr} {t t' : TT} (h : PW X e t) (k : ∀ σ H Q, t' σ H Q → t σ H Q) : PW X e t' := ⟨fun wh pins s σ H Q I q => h.run wh pins s σ H Q I (k _ _ _ q)⟩
theorem ps_imp {X : Cx} {st : Stmt} {t t' : TS} (h : PS X st t) (k : ∀ D σ H, t' D σ H → t D σ H) : PS X st t' := ⟨fun pins s σ H D I q => h.run pins s σ H D I (k _ _ _ q)⟩
theorem pss_imp {X : Cx} {st : List Stmt} {t t' : TS} (h : PSs X st t) (k : ∀ D σ H, t' D σ H → t D σ H) : PSs X st t' := ⟨fun pins s σ H D I q => h.run pins s σ H D I (k _ _ _ q)⟩
theorem pi_imp {X : Cx} {tg e : Expr} {t t' : TI} (h : PI X tg e t) (k : ∀ σ H R, t' σ H R → t σ H R) : PI X tg e t' := ⟨fun pins s σ H R I q => h.run pins s σ H R I (k _ _ _ q)⟩
end Dl

set_option Elab.async false
set_option linter.all false
set_option maxRecDepth 100000
set_option maxHeartbeats 4000000
namespace Dl
open PySem PySem.Spec PyProof.Rows L2
/-! ### the forms of expressions -/
def eVar (i : Nat) : EF := fun env w => match env[i]? with
  | some (some (d, false)) => some ((d, .fz), w)
  | some (some (d, true)) => some ((d, .bo), w)
  | _ => none
def eC (d : D) : EF := fun _ w => some ((d, .fz), w)
def eFz (f : EF) : EF := fun env w => (f env w).bind fun p => match p.1.2 with
  | .bo => none
  | _ => some ((p.1.1, .fz), p.2)
def eOp (g : D → D → Option DS) (f1 f2 : EF) : EF := fun env w => (f1 env w).bind fun p => (f2 env p.2).bind fun q => (g p.1.1 q.1.1).map fun r => (r, q.2)
def eUn (g : D → Option DS) (f1 : EF) : EF := fun env w => (f1 env w).bind fun p => (g p.1.1).map fun r => (r, p.2)
def aNil : EA := fun _ w => some ([], w)
def aCons (f : EF) (g : EA) : EA := fun env w => (f env w).bind fun p => (g env p.2).bind fun q => some (p.1 :: q.1, q.2)
def eA (g : List D → Option DS) (f : EA) : EF := fun env w => (f env w).bind fun p => (g (p.1.map (·.1))).map fun r => (r, p.2)
def allFz (ds : List DS) : Bool := ds.all fun p => p.2 == .fz
def eTup (f : EA) : EF := fun env w => (f env w).bind fun p => if allFz p.1 = true ∧ p.1.length ≤ 1000 then some ((.tup (p.1.map (·.1)), .fz), p.2) else none
def eLst (f : EA) : EF := fun env w => (f env w).bind fun p => if allFz p.1 = true ∧ p.1.length ≤ 1000 then some ((.lst (p.1.map (·.1)), .ow), p.2) else none
def eCall (F : Fn) (f : EA) : EF := fun env w => (f env w).bind fun p => if allFz p.1 = true then F (p.1.map (·.1)) p.2 else none
def eIf (t : ET) (f g : EF) : EF := fun env w => (t env w).bind fun p => if p.1 = true then f env p.2 else g env p.2
def truD : D → Option Bool
  | .non => some false
  | .bl b => some b
  | .int i => some (i != 0)
  | .str x => if x.length ≤ 100000 then some ((x.length : Int) != 0) else none
  | .tup ds => some (!ds.isEmpty)
  | .lst ds => some (!ds.isEmpty)
  | .dk _ ds => some (!ds.isEmpty)
  | _ => none
def eNot (f : EF) : EF := fun env w => (f env w).bind fun p => (truD p.1.1).map fun b => ((.bl (!b), .fz), p.2)
def eAnd (f g : EF) : EF := fun env w => (f env w).bind fun p => (truD p.1.1).bind fun b => if b = true then g env p.2 else some p
def eOr (f g : EF) : EF := fun env w => (f env w).bind fun p => (truD p.1.1).bind fun b => if b = true then some p else g env p.2
def tVal (f : EF) : ET := fun env w => (f env w).bind fun p => match p.1.1 with
  | .bl b => some (b, p.2)
  | _ => none
def tTru (f : EF) : ET := fun env w => (f env w).bind fun p => (truD p.1.1).map fun b => (b, p.2)
def tAn (f g : ET) : ET := fun env w => (f env w).bind fun p => if p.1 = true then g env p.2 else some (false, p.2)
def tOrr (f g : ET) : ET := fun env w => (f env w).bind fun p => if p.1 = true then some (true, p.2) else g env p.2
def tNo (f : ET) : ET := fun env w => (f env w).bind fun p => some (!p.1, p.2)
def oNone : En → Option Wd → Option (Option Int × Option Wd) := fun _ w => some (none, w)
def oSome (f : EF) : En → Option Wd → Option (Option Int × Option Wd) := fun env w => (f env w).bind fun p => match p.1.1 with
  | .int i => some (some i, p.2)
  | _ => none
def eSl (g : D → Option Int → Option Int → Option DS) (f : EF) (l h : En → Option Wd → Option (Option Int × Option Wd)) : EF := fun env w =>
  (f env w).bind fun p => (l env p.2).bind fun q => (h env q.2).bind fun r => (g p.1.1 q.1 r.1).map fun d => (d, r.2)

/-! ### what an operation's reading must do over data -/
def Res (K : KW) (wa : Option Addr) (w : Option Wd) (F : Addr → Prop) (H : Hp) (d : D) (st : O3) (Q : VK) : Prop := ∀ v F' H', Aft K wa F H w F' H' → RS K (fun _ => True) F' wa H H' d st v → Q v H'
def OpS (K : KW) (r : R2) (g : D → D → Option DS) : Prop := ∀ wa w F H x y d st v1 v2, WOk F wa H w → (∀ a, F a → H a ≠ none) → Cur K F wa H x v1 → Cur K F wa H y v2 → g x y = some (d, st) → ∀ Q : VK, Res K wa w F H d st Q → r v1 v2 H Q
def UnS (K : KW) (r : V → Hp → VK → Prop) (g : D → Option DS) : Prop := ∀ wa w F H x d st v1, WOk F wa H w → (∀ a, F a → H a ≠ none) → Cur K F wa H x v1 → g x = some (d, st) → ∀ Q : VK, Res K wa w F H d st Q → r v1 H Q
def CurS (K : KW) (F : Addr → Prop) (wa : Option Addr) (H : Hp) (ds : List D) (vs : List V) : Prop := Paired (Cur K F wa H) ds vs
def CallS (K : KW) (r : List V → Hp → VK → Prop) (g : List D → Option DS) : Prop := ∀ wa w F H ds d st vs, WOk F wa H w → (∀ a, F a → H a ≠ none) → CurS K F wa H ds vs → g ds = some (d, st) → ∀ Q : VK, Res K wa w F H d st Q → r vs H Q
def SlS (K : KW) (r : V → Option Int → Option Int → Hp → VK → Prop) (g : D → Option Int → Option Int → Option DS) : Prop := ∀ wa w F H x lo hi d st v1, WOk F wa H w → (∀ a, F a → H a ≠ none) → Cur K F wa H x v1 → g x lo hi = some (d, st) → ∀ Q : VK, Res K wa w F H d st Q → r v1 lo hi H Q

section
variable {K : KW} {B F F' F1 F2 : Addr → Prop} {wa : Option Addr} {H0 H H' H1 H2 : Hp} {w w' w1 w2 : Option Wd} {σ : L2.St} {env : En} {d : D} {st : O3} {v : V} {a : Addr} {Q : VK}
theorem RS.anyB (h : RS K (fun _ => True) F wa H0 H d st v) : RS K B F wa H0 H d st v := by
  cases st with
  | fz => exact h
  | ow => exact h
  | bo => obtain ⟨_, _, _, z⟩ := h; exact (z trivial).elim
theorem Res.fz (wk : WOk F wa H w) (fd : ∀ a, F a → H a ≠ none) (h : Res K wa w F H d .fz Q) (r : Rep K F wa H d v) : Q v H := h v F H (Aft.refl wk fd) r
theorem Res.tup (wk : WOk F wa H w) (fd : ∀ a, F a → H a ≠ none) {ds : List D} {vs : List V} (h : Res K wa w F H (.tup ds) .fz Q) (r : Reps K F wa H ds vs) {p : Addr} {u : HO} (hp : H p = none) (ht : TupO u vs) : Q (.ref p) (upd H p u) := by
  have A := Aft.new1 (K := K) (o := u) wk fd hp
  exact h _ _ _ A ⟨p, u, vs, rfl, .inr rfl, upd_same, ht, A.reps r⟩
theorem Res.lst (wk : WOk F wa H w) (fd : ∀ a, F a → H a ≠ none) {ds : List D} {vs : List V} (h : Res K wa w F H (.lst ds) .ow Q) (r : Reps K F wa H ds vs) {p : Addr} (hp : H p = none) : Q (.ref p) (upd H p (.lst vs)) := by
  have A := Aft.new0 (K := K) (o := .lst vs) wk fd hp
  exact h _ _ _ A ⟨p, rfl, .mkL (fun z => fd p z hp) (wk.ne hp) upd_same (A.reps r), hp⟩
theorem Res.dk (wk : WOk F wa H w) (fd : ∀ a, F a → H a ≠ none) {ks : List Key} {ds : List D} {vs : List V} (h : Res K wa w F H (.dk ks ds) .ow Q) (r : Reps K F wa H ds vs) (hl : ks.length = vs.length) {p : Addr} (hp : H p = none) : Q (.ref p) (upd H p (.dK (ks.zip vs))) := by
  have A := Aft.new0 (K := K) (o := .dK (ks.zip vs)) wk fd hp
  exact h _ _ _ A ⟨p, rfl, ⟨fun z => fd p z hp, wk.ne hp, _, upd_same, vs, rfl, hl, A.reps r⟩, hp⟩
/-- what comes behind what came -/
theorem Res.behind (S : SI K B F wa H w σ env) (A : Aft K wa F H w1 F1 H1) (k : ∀ v F' H', Aft K wa F H w1 F' H' → RS K B F' wa H H' d st v → Q v H') : Res K wa w1 F1 H1 d st Q := fun v F' H' A' r => k v F' H' (A.trans A') (r.anyB.back A)
end

section
variable {X : Cx} {e e1 e2 a b c : Expr} {es : List Expr} {f f1 f2 fa fb fc : EF} {g : D → D → Option DS} {pos : Pos}
theorem e_var (i : Nat) {x : Str} {pos : Pos} (hN : X.N[i]? = some x := by rfl) (hv : Vis X.env.scope x := by first | exact Or.inl rfl | exact Or.inr (Or.inl rfl) | exact Or.inr (Or.inr rfl)) (hd : (x == ("__debug__" : Str)) = false := by decide)
    (hcd : (x == ("__classdict__" : Str)) = false := by decide) : Snd X (.Name x pos) (eVar i) := by
  refine pe_imp (pe_var hN hv hd hcd) fun σ H Q q => ?_
  obtain ⟨B, F, wa, w, env, S, d, st, w', hf, k⟩ := q
  unfold eVar at hf
  split at hf
  · rename_i d' e
    cases hf
    obtain ⟨v, h1, r⟩ := S.fz i _ e
    exact ⟨v, h1, k v F H (Aft.refl S.wk S.fd) r⟩
  · rename_i d' e
    cases hf
    obtain ⟨a, h1, o, nb⟩ := S.ow i _ e
    exact ⟨.ref a, h1, k _ F H (Aft.refl S.wk S.fd) ⟨a, rfl, o, nb⟩⟩
  · cases hf
theorem e_c {e : Expr} {v : V} {d : D} (h : PE X e (tC v)) (r : ∀ F wa H, Rep (kwOf X) F wa H d v) : Snd X e (eC d) := by
  refine pe_imp h fun σ H Q q => ?_
  obtain ⟨B, F, wa, w, env, S, d, st, w', hf, k⟩ := q
  cases hf
  exact k v F H (Aft.refl S.wk S.fd) (r _ _ _)
theorem e_int {i j pos} : Snd X (.Constant (.int i) j pos) (eC (.int i)) := e_c pe_int fun _ _ _ => rfl
theorem e_bl {i j pos} : Snd X (.Constant (.bool i) j pos) (eC (.bl i)) := e_c pe_bl fun _ _ _ => rfl
theorem e_non {j pos} : Snd X (.Constant .none j pos) (eC .non) := e_c pe_non fun _ _ _ => rfl
theorem e_str {i j pos} : Snd X (.Constant (.str i) j pos) (eC (.str i)) := e_c pe_str fun _ _ _ => rfl
theorem e_fz (h : Snd X e f) : Snd X e (eFz f) := by
  refine pe_imp h fun σ H Q q => ?_
  obtain ⟨B, F, wa, w, env, S, d, st, w', hf, k⟩ := q
  unfold eFz at hf
  obtain ⟨⟨⟨d1, st1⟩, w1⟩, h1, h2⟩ := Option.bind_eq_some_iff.mp hf
  refine ⟨B, F, wa, w, env, S, d1, st1, w1, h1, fun v F' H' A r => ?_⟩
  cases st1 with
  | fz => cases h2; exact k v F' H' A r
  | ow =>
    cases h2
    obtain ⟨F2, A2, r2⟩ := RS.freeze A r
    exact k v F2 H' A2 r2
  | bo => cases h2
theorem tOp_of {K : KW} {r : R2} (hg : OpS K r g) {σ : L2.St} {H : Hp} {Q : VK} (q : rd K (eOp g f1 f2) σ H Q) : tOp r (rd K f1) (rd K f2) σ H Q := by
  obtain ⟨B, F, wa, w, env, S, d, st, w', hf, k⟩ := q
  unfold eOp at hf
  obtain ⟨⟨⟨d1, st1⟩, w1⟩, h1, h2⟩ := Option.bind_eq_some_iff.mp hf
  obtain ⟨⟨⟨d2, st2⟩, w2⟩, h3, h4⟩ := Option.bind_eq_some_iff.mp h2
  obtain ⟨⟨d3, st3⟩, h5, h6⟩ := Option.map_eq_some_iff.mp h4
  cases h6
  refine ⟨B, F, wa, w, env, S, d1, st1, w1, h1, fun v1 F1 H1 A1 r1 => ?_⟩
  refine ⟨B, F1, wa, w1, env, S.aft A1, d2, st2, _, h3, fun v2 F2 H2 A2 r2 => ?_⟩
  exact hg wa _ F2 H2 d1 d2 d st v1 v2 A2.wk A2.fd (r1.aft A2).cur r2.cur h5 Q (Res.behind S (A1.trans A2) k)
theorem e_op {op : Operator} {r : R2} (ho : OpR X (binaryOp op) r) (hg : OpS (kwOf X) r g) (ha : Snd X a fa) (hb : Snd X b fb) : Snd X (.BinOp a op b pos) (eOp g fa fb) := pe_imp (pe_op ho ha hb) fun _ _ _ q => tOp_of hg q
theorem e_cmp {op : CmpOp} {r : R2} (ho : OpR X (compareOp op) r) (hg : OpS (kwOf X) r g) (hm : behindInMarks op b = false) (ha : Snd X a fa) (hb : Snd X b fb) : Snd X (.Compare a [op] [b] pos) (eOp g fa fb) := pe_imp (pe_cmpR ho ha hb hm) fun _ _ _ q => tOp_of hg q
theorem e_ix {r : R2} (hr : IxR X r) (hg : OpS (kwOf X) r g) (ha : Snd X a fa) (hb : Snd X b fb) (hs : PlainIx b := by exact fun _ _ => rfl) : Snd X (.Subscript a b pos) (eOp g fa fb) := pe_imp (pe_ix hr ha hb hs) fun _ _ _ q => tOp_of hg q
theorem e_un {op : UnaryOp} {r : V → Hp → VK → Prop} {g : D → Option DS} (ho : UnR X (unaryOp op) r) (hg : UnS (kwOf X) r g) (ha : Snd X a fa) : Snd X (.UnaryOp op a pos) (eUn g fa) := by
  refine pe_imp (pe_un ho ha) fun σ H Q q => ?_
  obtain ⟨B, F, wa, w, env, S, d, st, w', hf, k⟩ := q
  unfold eUn at hf
  obtain ⟨⟨⟨d1, st1⟩, w1⟩, h1, h2⟩ := Option.bind_eq_some_iff.mp hf
  obtain ⟨⟨d3, st3⟩, h5, h6⟩ := Option.map_eq_some_iff.mp h2
  cases h6
  refine ⟨B, F, wa, w, env, S, d1, st1, _, h1, fun v1 F1 H1 A1 r1 => ?_⟩
  exact hg wa _ F1 H1 d1 d st v1 A1.wk A1.fd r1.cur h5 Q (Res.behind S A1 k)
theorem a_nil : SndA X [] aNil := by
  refine pa_imp pa_nil fun σ H Q q => ?_
  obtain ⟨B, F, wa, w, env, S, ds, w', hf, k⟩ := q
  cases hf
  exact k [] F H (Aft.refl S.wk S.fd) ⟨.nil, trivial⟩
theorem Apart.nil : Apart [] [] := trivial
theorem RSs.aft0 {K : KW} {B F F1 : Addr → Prop} {wa : Option Addr} {H0 H H1 : Hp} {w1 : Option Wd} (A : Aft K wa F H w1 F1 H1) : ∀ {ds : List DS} {vs : List V}, RSp K B F wa H0 H ds vs → RSp K B F1 wa H0 H1 ds vs
  | _, _, .nil => .nil
  | _, _, .cons r t => .cons (r.aft A) (RSs.aft0 A t)
theorem RSs.back0 {K : KW} {B F1 F' F2 : Addr → Prop} {wa : Option Addr} {H' H1 H2 : Hp} {w1 : Option Wd} (A : Aft K wa F' H' w1 F1 H1) : ∀ {ds : List DS} {vs : List V}, RSp K B F2 wa H1 H2 ds vs → RSp K B F2 wa H' H2 ds vs
  | _, _, .nil => .nil
  | _, _, .cons r t => .cons (r.back A) (RSs.back0 A t)
theorem RSp.cur {K : KW} {B F : Addr → Prop} {wa : Option Addr} {H0 H : Hp} : ∀ {ds : List DS} {vs : List V}, RSp K B F wa H0 H ds vs → CurS K F wa H (ds.map (·.1)) vs
  | _, _, .nil => .nil
  | _, _, .cons r t => .cons r.cur (RSp.cur t)
theorem RSp.reps {K : KW} {B F : Addr → Prop} {wa : Option Addr} {H0 H : Hp} : ∀ {ds : List DS} {vs : List V}, RSp K B F wa H0 H ds vs → allFz ds = true → Reps K F wa H (ds.map (·.1)) vs
  | _, _, .nil, _ => rfl
  | ⟨d, st⟩ :: ds, v :: vs, .cons r t, h => by
    have h' : (st == O3.fz) = true ∧ allFz ds = true := by simpa [allFz] using h
    have e : st = .fz := by simpa using h'.1
    subst e
    exact ⟨v, vs, rfl, r, RSp.reps t h'.2⟩
theorem RSs.len {K : KW} {B F : Addr → Prop} {wa : Option Addr} {H0 H : Hp} {ds : List DS} {vs : List V} (h : RSs K B F wa H0 H ds vs) : ds.length = vs.length := Paired.length h.1
theorem RSs.cur {K : KW} {B F : Addr → Prop} {wa : Option Addr} {H0 H : Hp} {ds : List DS} {vs : List V} (h : RSs K B F wa H0 H ds vs) : CurS K F wa H (ds.map (·.1)) vs := h.1.cur
theorem RSs.reps {K : KW} {B F : Addr → Prop} {wa : Option Addr} {H0 H : Hp} {ds : List DS} {vs : List V} (h : RSs K B F wa H0 H ds vs) (ha : allFz ds = true) : Reps K F wa H (ds.map (·.1)) vs := h.1.reps ha
theorem RSp.new {K : KW} {B F : Addr → Prop} {wa : Option Addr} {H0 H : Hp} : ∀ {ds : List DS} {vs : List V}, RSp K B F wa H0 H ds vs → ∀ p ∈ ds.zip vs, p.1.2 = .ow → ∃ b, p.2 = .ref b ∧ H0 b = none
  | _, _, .nil, p, hp, _ => by cases hp
  | ⟨d, st⟩ :: ds, v :: vs, .cons r t, p, hp, e => by
    rcases List.mem_cons.mp hp with rfl | hp
    · cases (show st = .ow from e)
      obtain ⟨a, e, _, z⟩ := r
      exact ⟨a, e, z⟩
    · exact RSp.new t p hp e
theorem a_cons {ga : EA} (ha : Snd X e f) (hr : SndA X es ga) (hs : starEach (e :: es) X.env = (false, eval e X.env) :: starEach es X.env := by rfl) : SndA X (e :: es) (aCons f ga) := by
  refine pa_imp (pa_cons ha hr hs) fun σ H Q q => ?_
  obtain ⟨B, F, wa, w, env, S, ds, w', hf, k⟩ := q
  unfold aCons at hf
  obtain ⟨⟨⟨d1, st1⟩, w1⟩, h1, h2⟩ := Option.bind_eq_some_iff.mp hf
  obtain ⟨⟨ds2, w2⟩, h3, h4⟩ := Option.bind_eq_some_iff.mp h2
  cases h4
  refine ⟨B, F, wa, w, env, S, d1, st1, w1, h1, fun v1 F1 H1 A1 r1 => ?_⟩
  refine ⟨B, F1, wa, w1, env, S.aft A1, ds2, _, h3, fun vs F2 H2 A2 r2 => ?_⟩
  refine k _ F2 H2 (A1.trans A2) ⟨.cons (r1.aft A2) (RSs.back0 A1 r2.1), ?_, r2.2⟩
  intro e p hp ep
  subst e
  obtain ⟨b, eb, zb⟩ := r2.1.new p hp ep
  obtain ⟨a, ea, oa, _⟩ := r1
  obtain ⟨u, hu⟩ := oa.some
  subst ea
  rw [eb]
  intro z
  cases z
  rw [hu] at zb; cases zb
/-- a new tuple, as it stands -/
def tTupF (t : TA) : TE := fun σ H Q => t σ H fun xs H1 => xs.length ≤ sizeLine ∧ ∀ p u, H1 p = none → TupO u xs → Q (.ref p) (upd H1 p u)
theorem tup_laid {pins : List (Addr × Obj)} {σ : L2.St} {H : Hp} {s : Shared} {t' : Nat} {xs : List V} {us : List Value} (I : Inv X pins σ H s) (r : Vals xs us) (z : xs.length ≤ sizeLine) :
    Inv X pins σ (upd H s.heap.objs.size (.frz { cls := .type "tuple", data := .seq us.toArray } (.tup xs))) { s with heap := s.heap.push { cls := .type "tuple", data := .seq us.toArray }, toks := t' } :=
  I.laid (t' := t') (fun b u e => Heap.get?_push_of_some _ e) (Nat.le_refl _) ⟨Heap.get?_push_size _ rfl, z, us, r, ⟨_, Heap.get?_push_size _ rfl, rfl, _, rfl⟩⟩
theorem pe_tupF {x1} {t : TA} (h : PA X es t) : PE X (.Tuple es x1 pos) (tTupF t) := by
  refine ⟨fun pins s σ H Q I hq => ?_⟩
  refine wpAny_Tuple_spliced (thn (h.run pos pins s σ H _ I hq) fun us s1 ⟨xs, H1, I1, r, z, q⟩ => ⟨by rw [← r.length]; exact z, ?_⟩)
  have hf : H1 s1.heap.objs.size = none := I1.hok.fresh (Nat.le_refl _)
  exact ⟨.ref s1.heap.objs.size, _, tup_laid (t' := s1.toks) I1 r z, rfl, q _ _ hf ⟨_, rfl, rfl, rfl⟩⟩
theorem small1 {n : Nat} (h : n ≤ 1000) : n ≤ sizeLine := Nat.le_trans h (by decide)
theorem e_tup {x1} {ga : EA} (h : SndA X es ga) : Snd X (.Tuple es x1 pos) (eTup ga) := by
  refine pe_imp (pe_tupF h) fun σ H Q q => ?_
  obtain ⟨B, F, wa, w, env, S, d, st, w', hf, k⟩ := q
  unfold eTup at hf
  obtain ⟨⟨ds, w1⟩, h1, h2⟩ := Option.bind_eq_some_iff.mp hf
  dsimp only at h2
  split at h2
  · rename_i hc
    cases h2
    refine ⟨B, F, wa, w, env, S, ds, _, h1, fun vs F1 H1 A1 r1 => ⟨?_, fun p u hp ht => ?_⟩⟩
    · rw [← r1.len]; exact small1 hc.2
    · exact Res.tup A1.wk A1.fd (Res.behind S A1 k) (r1.reps hc.1) hp ht
  · cases h2
theorem e_lst {ga : EA} (h : SndA X es ga) : Snd X (.List es pos) (eLst ga) := by
  refine pe_imp (pe_lst h) fun σ H Q q => ?_
  obtain ⟨B, F, wa, w, env, S, d, st, w', hf, k⟩ := q
  unfold eLst at hf
  obtain ⟨⟨ds, w1⟩, h1, h2⟩ := Option.bind_eq_some_iff.mp hf
  dsimp only at h2
  split at h2
  · rename_i hc
    cases h2
    refine ⟨B, F, wa, w, env, S, ds, _, h1, fun vs F1 H1 A1 r1 => ⟨?_, fun p hp => ?_⟩⟩
    · rw [← r1.len]; exact small1 hc.2
    · exact Res.lst A1.wk A1.fd (Res.behind S A1 k) (r1.reps hc.1) hp
  · cases h2
theorem tCB_of {K : KW} {r : List V → Hp → VK → Prop} {g : List D → Option DS} {ga : EA} (hg : CallS K r g) {σ : L2.St} {H : Hp} {Q : VK} (q : rd K (eA g ga) σ H Q) : tCB r (rdA K ga) σ H Q := by
  obtain ⟨B, F, wa, w, env, S, d, st, w', hf, k⟩ := q
  unfold eA at hf
  obtain ⟨⟨ds, w1⟩, h1, h2⟩ := Option.bind_eq_some_iff.mp hf
  obtain ⟨⟨d3, st3⟩, h5, h6⟩ := Option.map_eq_some_iff.mp h2
  cases h6
  refine ⟨B, F, wa, w, env, S, ds, _, h1, fun vs F1 H1 A1 r1 => ?_⟩
  exact hg wa _ F1 H1 _ d st vs A1.wk A1.fd r1.cur h5 Q (Res.behind S A1 k)
theorem e_callB {r : List V → Hp → VK → Prop} {g : List D → Option DS} {ga : EA} {x : Str} {id : String} {p : Pos} (hc : CallR X (.builtin id) r) (hg : CallS (kwOf X) r g) (hgl : Gl X x) (hm : X.mg x = none) (hv : bootBuiltins x = some (.builtin id)) (ha : SndA X (e :: es) ga) (hn : x ≠ "__name__" := by decide) (hdb : (x == ("__debug__" : Str)) = false := by decide) (hse : starEach (e :: es) X.env = (false, eval e X.env) :: starEach es X.env := by rfl) (hpl : (backTo pos (starEach es X.env)).any (·.1) = false := by rfl) :
    Snd X (.Call (.Name x p) (e :: es) [] pos) (eA g ga) := pe_imp (pe_callB hc hgl hm hv ha hn hdb hse hpl) fun _ _ _ q => tCB_of hg q
theorem e_callTy {r : List V → Hp → VK → Prop} {g : List D → Option DS} {ga : EA} {x : Str} {T : String} {p : Pos} (hc : CallR X (.type T) r) (hg : CallS (kwOf X) r g) (hgl : Gl X x) (hm : X.mg x = none) (hv : bootBuiltins x = some (.type T)) (ha : SndA X (e :: es) ga) (hn : x ≠ "__name__" := by decide) (hdb : (x == ("__debug__" : Str)) = false := by decide) (hse : starEach (e :: es) X.env = (false, eval e X.env) :: starEach es X.env := by rfl) (hpl : (backTo pos (starEach es X.env)).any (·.1) = false := by rfl) :
    Snd X (.Call (.Name x p) (e :: es) [] pos) (eA g ga) := pe_imp (pe_callTy hc hgl hm hv ha hn hdb hse hpl) fun _ _ _ q => tCB_of hg q

/-! ### defs -/
def spD (K : KW) (G : Fn) : Sp := fun vs H Q _ => ∃ F wa w ds, WOk F wa H w ∧ (∀ a, F a → H a ≠ none) ∧ Reps K F wa H ds vs ∧ ∃ d st w', G ds w = some ((d, st), w') ∧ ∀ v F' H', Aft K wa F H w' F' H' → RS K (fun _ => True) F' wa H H' d st v → Q v H'
theorem e_call {k : Nat} {ff : Addr} {fd : FuncData} {ps : List Str} {G : Fn} {ga : EA} {x : Str} {p : Pos} (hG : FnOk X.prog X.w (kwOf X) X.mg X.base CX0 k ff fd ps (spD (kwOf X) G)) (hr : Room k X.A) (hg : Gl X x) (hm : X.mg x = some (.ref ff)) (hk : PySem.W.keepIn (kwOf X) (.ref ff) = true) (hb : Binds (kwOf X) fd ps [])
    (ha : SndA X (e :: es) ga) (hdb : (x == ("__debug__" : Str)) = false := by decide) (hse : starEach (e :: es) X.env = (false, eval e X.env) :: starEach es X.env := by rfl) (hpl : (backTo pos (starEach es X.env)).any (·.1) = false := by rfl) : Snd X (.Call (.Name x p) (e :: es) [] pos) (eCall G ga) := by
  refine pe_imp (pe_call hG hr hg hm hk hb .nil pass0 ha hdb hse hpl) fun σ H Q q => ?_
  obtain ⟨B, F, wa, w, env, S, d, st, w', hf, k⟩ := q
  unfold eCall at hf
  obtain ⟨⟨ds, w1⟩, h1, h2⟩ := Option.bind_eq_some_iff.mp hf
  dsimp only at h2
  split at h2
  · rename_i hc
    refine ⟨B, F, wa, w, env, S, ds, _, h1, fun vs F1 H1 A1 r1 => ?_⟩
    show spD (kwOf X) G (vs ++ []) H1 Q E0
    rw [List.append_nil]
    exact ⟨F1, wa, w1, ds.map (·.1), A1.wk, A1.fd, r1.reps hc, d, st, w', h2, fun v F' H' A' r => k v F' H' (A1.trans A') (r.anyB.back A1)⟩
  · cases h2

/-! ### tests and choices -/
theorem t_val (h : Snd X e f) (he : ∀ whole, isTrue e X.env whole = (do let v ← whole; standAt e.pos; holding [v] (truthy v)) := by intro _; rfl) : SndT X e (tVal f) := by
  refine pt_imp (pt_val h he) fun σ H Q q => ?_
  obtain ⟨B, F, wa, w, env, S, b, w', hf, k⟩ := q
  unfold tVal at hf
  obtain ⟨⟨⟨d1, st1⟩, w1⟩, h1, h2⟩ := Option.bind_eq_some_iff.mp hf
  refine ⟨B, F, wa, w, env, S, d1, st1, w1, h1, fun v F' H' A r => ?_⟩
  cases d1 with
  | bl c => cases h2; exact ⟨b, RS.cur r, k F' H' A⟩
  | _ => cases h2
theorem t_cmp {op : CmpOp} {r : R2} (ho : OpR X (compareOp op) r) (hg : OpS (kwOf X) r g) (hm : behindInMarks op b = false) (ha : Snd X a fa) (hb : Snd X b fb) : SndT X (.Compare a [op] [b] pos) (tVal (eOp g fa fb)) := by
  refine pt_imp (pt_cmpR ho ha hb hm) fun σ H Q q => ?_
  refine tOp_of hg ?_
  obtain ⟨B, F, wa, w, env, S, b, w', hf, k⟩ := q
  unfold tVal at hf
  obtain ⟨⟨⟨d1, st1⟩, w1⟩, h1, h2⟩ := Option.bind_eq_some_iff.mp hf
  refine ⟨B, F, wa, w, env, S, d1, st1, w1, h1, fun v F' H' A r => ?_⟩
  cases d1 with
  | bl c => cases h2; exact ⟨b, RS.cur r, k F' H' A⟩
  | _ => cases h2
theorem zip_emp {ks : List Key} {ds : List D} {vs : List V} (hl : ks.length = vs.length) (h2 : ds.length = vs.length) : (!(ks.zip vs).isEmpty) = !ds.isEmpty := by
  cases ks with
  | nil => cases vs with
    | nil => cases ds with
      | nil => rfl
      | cons d r => cases h2
    | cons v r => cases hl
  | cons k r => cases vs with
    | nil => cases hl
    | cons v q => cases ds with
      | nil => cases h2
      | cons d s => rfl
theorem emp_len {ds : List D} {vs : List V} (h2 : ds.length = vs.length) : ds.isEmpty = vs.isEmpty := by
  cases ds <;> cases vs <;> first | rfl | cases h2
theorem truV_of {K : KW} {F : Addr → Prop} {wa : Option Addr} {H : Hp} {d : D} {v : V} {b : Bool} (r : Cur K F wa H d v) (h : truD d = some b) : TruV K v H b := by
  cases d with
  | non => cases h; cases (show v = .non from r); rfl
  | bl c => cases h; cases (show v = .bl b from r); rfl
  | int i => cases h; cases (show v = .int i from r); rfl
  | str x =>
    cases (show v = .str x from r)
    have h' : (if x.length ≤ 100000 then some ((x.length : Int) != 0) else none) = some b := h
    split at h'
    · cases h'; exact ⟨Nat.le_trans (by assumption) (by decide), rfl⟩
    · cases h'
  | tup ds =>
    obtain ⟨a, u, vs, e, _, h1, ht, r1⟩ := r
    cases h; subst e
    exact .inr (.inl ⟨vs, ht.sq h1, by rw [emp_len r1.len]⟩)
  | lst ds =>
    obtain ⟨a, vs, e, h1, r1⟩ := r
    cases h; subst e
    exact .inl ⟨vs, .inl (.inl h1), by rw [emp_len r1.len]⟩
  | scr ns => cases h
  | ty n => cases h
  | dk ks ds =>
    obtain ⟨a, vs, e, h1, hl, r1⟩ := r
    cases h; subst e
    exact .inr (.inr ⟨_, h1, by rw [zip_emp hl r1.len]⟩)
  | dt ks ds => cases h
  | w => cases h
theorem t_tru (h : Snd X e f) (he : ∀ whole, isTrue e X.env whole = (do let v ← whole; standAt e.pos; holding [v] (truthy v)) := by intro _; rfl) : SndT X e (tTru f) := by
  refine pt_imp (pt_truth h he) fun σ H Q q => ?_
  obtain ⟨B, F, wa, w, env, S, b, w', hf, k⟩ := q
  unfold tTru at hf
  obtain ⟨⟨⟨d1, st1⟩, w1⟩, h1, h2⟩ := Option.bind_eq_some_iff.mp hf
  obtain ⟨c, h3, h4⟩ := Option.map_eq_some_iff.mp h2
  cases h4
  exact ⟨B, F, wa, w, env, S, d1, st1, _, h1, fun v F' H' A r => ⟨b, truV_of r.cur h3, k F' H' A⟩⟩
theorem w_and1 {t : ET} (h : SndT X a t) : SndW X (.BoolOp .And [a] pos) t := pw_and1 h
theorem w_or1 {t : ET} (h : SndT X a t) : SndW X (.BoolOp .Or [a] pos) t := pw_or1 h
theorem w_and {t u : ET} {rest : List Expr} (h : SndT X a t) (hb : SndW X (.BoolOp .And (b :: rest) pos) u) : SndW X (.BoolOp .And (a :: b :: rest) pos) (tAn t u) := by
  refine pw_imp (pw_and h hb) fun σ H Q q => ?_
  obtain ⟨B, F, wa, w, env, S, b, w', hf, k⟩ := q
  unfold tAn at hf
  obtain ⟨⟨c, w1⟩, h1, h2⟩ := Option.bind_eq_some_iff.mp hf
  refine ⟨B, F, wa, w, env, S, c, w1, h1, fun F1 H1 A => ?_⟩
  cases c with
  | true => exact ⟨B, F1, wa, w1, env, S.aft A, b, w', h2, fun F2 H2 A2 => k F2 H2 (A.trans A2)⟩
  | false => cases h2; exact k F1 H1 A
theorem w_or {t u : ET} {rest : List Expr} (h : SndT X a t) (hb : SndW X (.BoolOp .Or (b :: rest) pos) u) : SndW X (.BoolOp .Or (a :: b :: rest) pos) (tOrr t u) := by
  refine pw_imp (pw_or h hb) fun σ H Q q => ?_
  obtain ⟨B, F, wa, w, env, S, b, w', hf, k⟩ := q
  unfold tOrr at hf
  obtain ⟨⟨c, w1⟩, h1, h2⟩ := Option.bind_eq_some_iff.mp hf
  refine ⟨B, F, wa, w, env, S, c, w1, h1, fun F1 H1 A => ?_⟩
  cases c with
  | false => exact ⟨B, F1, wa, w1, env, S.aft A, b, w', h2, fun F2 H2 A2 => k F2 H2 (A.trans A2)⟩
  | true => cases h2; exact k F1 H1 A
theorem t_w {t : ET} (h : SndW X e t) : SndT X e t := PW.pt h
theorem t_not {t : ET} (h : SndT X a t) : SndT X (.UnaryOp .Not a pos) (tNo t) := by
  refine pt_imp (pt_not h) fun σ H Q q => ?_
  obtain ⟨B, F, wa, w, env, S, b, w', hf, k⟩ := q
  unfold tNo at hf
  obtain ⟨⟨c, w1⟩, h1, h2⟩ := Option.bind_eq_some_iff.mp hf
  cases h2
  exact ⟨B, F, wa, w, env, S, c, _, h1, fun F1 H1 A => k F1 H1 A⟩
theorem e_if {t : ET} (hc : SndT X c t) (ha : Snd X a fa) (hb : Snd X b fb) : Snd X (.IfExp c a b pos) (eIf t fa fb) := by
  refine pe_imp (pe_ifExp hc ha hb) fun σ H Q q => ?_
  obtain ⟨B, F, wa, w, env, S, d, st, w', hf, k⟩ := q
  unfold eIf at hf
  obtain ⟨⟨c, w1⟩, h1, h2⟩ := Option.bind_eq_some_iff.mp hf
  refine ⟨B, F, wa, w, env, S, c, w1, h1, fun F1 H1 A => ?_⟩
  cases c with
  | true => exact ⟨B, F1, wa, w1, env, S.aft A, d, st, w', h2, fun v F2 H2 A2 r => k v F2 H2 (A.trans A2) (r.back A)⟩
  | false => exact ⟨B, F1, wa, w1, env, S.aft A, d, st, w', h2, fun v F2 H2 A2 r => k v F2 H2 (A.trans A2) (r.back A)⟩
theorem e_not (ha : Snd X a fa) : Snd X (.UnaryOp .Not a pos) (eNot fa) := by
  refine pe_imp (pe_notT ha) fun σ H Q q => ?_
  obtain ⟨B, F, wa, w, env, S, d, st, w', hf, k⟩ := q
  unfold eNot at hf
  obtain ⟨⟨⟨d1, st1⟩, w1⟩, h1, h2⟩ := Option.bind_eq_some_iff.mp hf
  obtain ⟨c, h3, h4⟩ := Option.map_eq_some_iff.mp h2
  cases h4
  exact ⟨B, F, wa, w, env, S, d1, st1, _, h1, fun v F1 H1 A r => ⟨c, truV_of r.cur h3, k _ F1 H1 A rfl⟩⟩
theorem e_one {op} (h : Snd X a f) : Snd X (.BoolOp op [a] pos) f := pe_one h
theorem e_and {rest : List Expr} (ha : Snd X a fa) (hb : Snd X (.BoolOp .And (b :: rest) pos) fb) : Snd X (.BoolOp .And (a :: b :: rest) pos) (eAnd fa fb) := by
  refine pe_imp (pe_andT ha hb) fun σ H Q q => ?_
  obtain ⟨B, F, wa, w, env, S, d, st, w', hf, k⟩ := q
  unfold eAnd at hf
  obtain ⟨⟨⟨d1, st1⟩, w1⟩, h1, h2⟩ := Option.bind_eq_some_iff.mp hf
  obtain ⟨c, h3, h4⟩ := Option.bind_eq_some_iff.mp h2
  refine ⟨B, F, wa, w, env, S, d1, st1, w1, h1, fun v F1 H1 A r => ⟨c, truV_of r.cur h3, ?_⟩⟩
  cases c with
  | true => exact ⟨B, F1, wa, w1, env, S.aft A, d, st, w', h4, fun v F2 H2 A2 r => k v F2 H2 (A.trans A2) (r.back A)⟩
  | false => cases h4; exact k v F1 H1 A r
theorem e_or {rest : List Expr} (ha : Snd X a fa) (hb : Snd X (.BoolOp .Or (b :: rest) pos) fb) : Snd X (.BoolOp .Or (a :: b :: rest) pos) (eOr fa fb) := by
  refine pe_imp (pe_orT ha hb) fun σ H Q q => ?_
  obtain ⟨B, F, wa, w, env, S, d, st, w', hf, k⟩ := q
  unfold eOr at hf
  obtain ⟨⟨⟨d1, st1⟩, w1⟩, h1, h2⟩ := Option.bind_eq_some_iff.mp hf
  obtain ⟨c, h3, h4⟩ := Option.bind_eq_some_iff.mp h2
  refine ⟨B, F, wa, w, env, S, d1, st1, w1, h1, fun v F1 H1 A r => ⟨c, truV_of r.cur h3, ?_⟩⟩
  cases c with
  | false => exact ⟨B, F1, wa, w1, env, S.aft A, d, st, w', h4, fun v F2 H2 A2 r => k v F2 H2 (A.trans A2) (r.back A)⟩
  | true => cases h4; exact k v F1 H1 A r
/-! ### slices -/
abbrev EO := En → Option Wd → Option (Option Int × Option Wd)
def rdO (K : KW) (f : EO) : TO := fun σ H Q => ∃ B F wa w env, SI K B F wa H w σ env ∧ ∃ o w', f env w = some (o, w') ∧ ∀ F' H', Aft K wa F H w' F' H' → Q o H'
def SndO (X : Cx) (e : Option Expr) (f : EO) : Prop := PO X e (rdO (kwOf X) f)
theorem po_imp {e : Option Expr} {t t' : TO} (h : PO X e t) (k : ∀ σ H Q, t' σ H Q → t σ H Q) : PO X e t' := by
  obtain ⟨h⟩ := h
  exact ⟨fun pins s σ H Q I q => h pins s σ H Q I (k _ _ _ q)⟩
theorem o_none : SndO X none oNone := by
  refine po_imp po_none fun σ H Q q => ?_
  obtain ⟨B, F, wa, w, env, S, o, w', hf, k⟩ := q
  cases hf
  exact k F H (Aft.refl S.wk S.fd)
theorem o_some (h : Snd X e f) : SndO X (some e) (oSome f) := by
  refine po_imp (po_some h) fun σ H Q q => ?_
  obtain ⟨B, F, wa, w, env, S, o, w', hf, k⟩ := q
  unfold oSome at hf
  obtain ⟨⟨⟨d1, st1⟩, w1⟩, h1, h2⟩ := Option.bind_eq_some_iff.mp hf
  refine ⟨B, F, wa, w, env, S, d1, st1, w1, h1, fun v F' H' A r => ?_⟩
  cases d1 with
  | int c => cases h2; exact ⟨c, RS.cur r, k F' H' A⟩
  | _ => cases h2
theorem e_sl {r : V → Option Int → Option Int → Hp → VK → Prop} {g : D → Option Int → Option Int → Option DS} {lo hi : Option Expr} {tl th : EO} {p2 : Pos} (hr : SlR X r) (hg : SlS (kwOf X) r g) (he : Snd X e f) (hl : SndO X lo tl) (hu : SndO X hi th) : Snd X (.Subscript e (.Slice lo hi none p2) pos) (eSl g f tl th) := by
  refine pe_imp (pe_slice hr he hl hu) fun σ H Q q => ?_
  obtain ⟨B, F, wa, w, env, S, d, st, w', hf, k⟩ := q
  unfold eSl at hf
  obtain ⟨⟨⟨d1, st1⟩, w1⟩, h1, h2⟩ := Option.bind_eq_some_iff.mp hf
  obtain ⟨⟨o2, w2⟩, h3, h4⟩ := Option.bind_eq_some_iff.mp h2
  obtain ⟨⟨o3, w3⟩, h5, h6⟩ := Option.bind_eq_some_iff.mp h4
  obtain ⟨⟨d4, st4⟩, h7, h8⟩ := Option.map_eq_some_iff.mp h6
  cases h8
  refine ⟨B, F, wa, w, env, S, d1, st1, w1, h1, fun v1 F1 H1 A1 r1 => ?_⟩
  refine ⟨B, F1, wa, w1, env, S.aft A1, o2, w2, h3, fun F2 H2 A2 => ?_⟩
  refine ⟨B, F2, wa, w2, env, (S.aft A1).aft A2, o3, _, h5, fun F3 H3 A3 => ?_⟩
  exact hg wa _ F3 H3 d1 o2 o3 d st v1 A3.wk A3.fd ((r1.aft A2).aft A3).cur h7 Q (Res.behind S ((A1.trans A2).trans A3) k)
end
end Dl

set_option Elab.async false
set_option linter.all false
set_option maxRecDepth 100000
set_option maxHeartbeats 4000000
namespace Dl
open PySem PySem.Spec PyProof.Rows L2
/-! ### statements -/
inductive Out where
  | nx (e : En) (w : Option Wd) | rt (p : DS) (w : Option Wd) | bk (e : En) (w : Option Wd) | ct (e : En) (w : Option Wd)
abbrev SB := En → Option Wd → Option Out
def RSr (K : KW) (B F : Addr → Prop) (wa : Option Addr) (H : Hp) (d : D) (st : O3) (v : V) : Prop := match st with
  | .fz => Rep K F wa H d v
  | _ => ∃ a, v = .ref a ∧ OwnAt K F wa H d a ∧ ¬ B a
def Fin (K : KW) (B F : Addr → Prop) (wa : Option Addr) (H : Hp) (Dn : Ends) : Out → Prop
  | .nx env' w' => ∀ σ' F' H', AftS K B wa F H w' F' H' → SI K B F' wa H' w' σ' env' → Dn.nx σ' H'
  | .bk env' w' => ∀ σ' F' H', AftS K B wa F H w' F' H' → SI K B F' wa H' w' σ' env' → Dn.bk σ' H'
  | .ct env' w' => ∀ σ' F' H', AftS K B wa F H w' F' H' → SI K B F' wa H' w' σ' env' → Dn.ct σ' H'
  | .rt p w' => ∀ v F' H', AftS K B wa F H w' F' H' → RSr K B F' wa H' p.1 p.2 v → Dn.rt v H'
def rdS (K : KW) (g : SB) : TS := fun Dn σ H => ∃ B F wa w env, SI K B F wa H w σ env ∧ ∃ out, g env w = some out ∧ Fin K B F wa H Dn out
def SndS (X : Cx) (st : Stmt) (g : SB) : Prop := PS X st (rdS (kwOf X) g)
def SndSs (X : Cx) (sts : List Stmt) (g : SB) : Prop := PSs X sts (rdS (kwOf X) g)
section
variable {K : KW} {B F F' F1 F2 : Addr → Prop} {wa : Option Addr} {H0 H H' H1 H2 : Hp} {w w' w1 w2 : Option Wd} {σ σ' : L2.St} {env env' : En} {d : D} {st : O3} {v : V} {a : Addr} {Dn : Ends} {out : Out}
theorem Fin.behind (A : AftS K B wa F H w1 F1 H1) (h : Fin K B F wa H Dn out) : Fin K B F1 wa H1 Dn out := by
  cases out with
  | nx e w => exact fun σ' F' H' A' S => h σ' F' H' (A.trans A') S
  | bk e w => exact fun σ' F' H' A' S => h σ' F' H' (A.trans A') S
  | ct e w => exact fun σ' F' H' A' S => h σ' F' H' (A.trans A') S
  | rt p w => exact fun v F' H' A' r => h v F' H' (A.trans A') r
theorem RS.ret (bd : ∀ a, B a → H0 a ≠ none) (h : RS K B F wa H0 H d st v) : RSr K B F wa H d st v := by
  cases st with
  | fz => exact h
  | ow => obtain ⟨a, e, o, z⟩ := h; exact ⟨a, e, o, fun b => bd a b z⟩
  | bo => exact h
/-- a slot takes a frozen value -/
theorem SI.set (S : SI K B F wa H w σ env) (i : Nat) (r : Rep K F wa H d v) : SI K B F wa H w (σ.set i (some v)) (env.set i (some (d, false))) where
  len := by rw [List.length_set, List.length_set]; exact S.len
  fz := fun j e h => by
    by_cases hj : i = j
    · subst hj
      by_cases hl : i < env.length
      · rw [List.getElem?_set_self hl] at h
        cases h
        exact ⟨v, by rw [List.getElem?_set_self (by rw [← S.len]; exact hl)], r⟩
      · rw [List.getElem?_eq_none (by rw [List.length_set]; omega)] at h; cases h
    · rw [List.getElem?_set_ne hj] at h ⊢
      exact S.fz j e h
  ow := fun j e h => by
    by_cases hj : i = j
    · subst hj
      by_cases hl : i < env.length
      · rw [List.getElem?_set_self hl] at h; cases h
      · rw [List.getElem?_eq_none (by rw [List.length_set]; omega)] at h; cases h
    · rw [List.getElem?_set_ne hj] at h ⊢
      exact S.ow j e h
  ne := fun j k d1 d2 a hjk h1 h2 g => by
    have hj : i ≠ j := fun z => by
      subst z
      by_cases hl : i < env.length
      · rw [List.getElem?_set_self hl] at h1; cases h1
      · rw [List.getElem?_eq_none (by rw [List.length_set]; omega)] at h1; cases h1
    have hk : i ≠ k := fun z => by
      subst z
      by_cases hl : i < env.length
      · rw [List.getElem?_set_self hl] at h2; cases h2
      · rw [List.getElem?_eq_none (by rw [List.length_set]; omega)] at h2; cases h2
    rw [List.getElem?_set_ne hj] at h1 g
    rw [List.getElem?_set_ne hk] at h2 ⊢
    exact S.ne j k d1 d2 a hjk h1 h2 g
  wk := S.wk
  fd := S.fd
  bd := S.bd
/-- a slot takes one's own object that no other slot has -/
theorem SI.setOw (S : SI K B F wa H w σ env) (i : Nat) (o : OwnAt K F wa H d a) (nb : ¬ B a) (hn : ∀ j e, j ≠ i → env[j]? = some (some (e, true)) → σ[j]? ≠ some (some (.ref a))) : SI K B F wa H w (σ.set i (some (.ref a))) (env.set i (some (d, true))) where
  len := by rw [List.length_set, List.length_set]; exact S.len
  fz := fun j e h => by
    by_cases hj : i = j
    · subst hj
      by_cases hl : i < env.length
      · rw [List.getElem?_set_self hl] at h; cases h
      · rw [List.getElem?_eq_none (by rw [List.length_set]; omega)] at h; cases h
    · rw [List.getElem?_set_ne hj] at h ⊢
      exact S.fz j e h
  ow := fun j e h => by
    by_cases hj : i = j
    · subst hj
      by_cases hl : i < env.length
      · rw [List.getElem?_set_self hl] at h
        cases h
        exact ⟨a, by rw [List.getElem?_set_self (by rw [← S.len]; exact hl)], o, nb⟩
      · rw [List.getElem?_eq_none (by rw [List.length_set]; omega)] at h; cases h
    · rw [List.getElem?_set_ne hj] at h ⊢
      exact S.ow j e h
  ne := fun j k d1 d2 b hjk h1 h2 g => by
    by_cases hj : i = j
    · subst hj
      have hk : i ≠ k := hjk
      rw [List.getElem?_set_ne hk] at h2 ⊢
      by_cases hl : i < σ.length
      · rw [List.getElem?_set_self hl] at g
        cases g
        exact hn k d2 (Ne.symm hk) h2
      · rw [List.getElem?_eq_none (by rw [List.length_set]; omega)] at g; cases g
    · rw [List.getElem?_set_ne hj] at h1 g
      by_cases hk : i = k
      · subst hk
        by_cases hl : i < σ.length
        · rw [List.getElem?_set_self hl]
          intro z
          cases z
          exact hn j d1 (Ne.symm hj) h1 g
        · rw [List.getElem?_eq_none (by rw [List.length_set]; omega)]; simp
      · rw [List.getElem?_set_ne hk] at h2 ⊢
        exact S.ne j k d1 d2 b hjk h1 h2 g
  wk := S.wk
  fd := S.fd
  bd := S.bd
/-- the slot's object is none of the others', being new -/
theorem SI.newer (S : SI K B F wa H w σ env) (h : H a = none) : ∀ (j : Nat) (e : D), env[j]? = some (some (e, true)) → σ[j]? ≠ some (some (V.ref a)) := fun j e g z => by
  obtain ⟨b, h1, o, _⟩ := S.ow j e g
  rw [h1] at z
  cases z
  obtain ⟨u, hu⟩ := o.some
  rw [h] at hu; cases hu
end
def sNil : SB := fun env w => some (.nx env w)
def sSeq (g h : SB) : SB := fun env w => (g env w).bind fun o => match o with
  | .nx e w' => h e w'
  | o => some o
def sSet (i : Nat) (f : EF) : SB := fun env w => (f env w).bind fun p => match p.1.2 with
  | .fz => some (.nx (env.set i (some (p.1.1, false))) p.2)
  | .ow => some (.nx (env.set i (some (p.1.1, true))) p.2)
  | .bo => none
def sRet (f : EF) : SB := fun env w => (f env w).bind fun p => some (.rt p.1 p.2)
def sDrop (f : EF) : SB := fun env w => (f env w).bind fun p => some (.nx env p.2)
def sIf (t : ET) (g h : SB) : SB := fun env w => (t env w).bind fun p => if p.1 = true then g env p.2 else h env p.2
def sBrk : SB := fun env w => some (.bk env w)
def sCnt : SB := fun env w => some (.ct env w)
def clr (is : List Nat) (env : En) : En := is.foldl (fun e i => match e[i]? with
  | some (some (d, _)) => e.set i (some (d, false))
  | _ => e) env
/-- some slots' own objects are given away -/
def sFrz (is : List Nat) (g : SB) : SB := fun env w => g (clr is env) w
def sAug (i : Nat) (g : D → D → Option DS) (f : EF) : SB := fun env w => match env[i]? with
  | some (some (d, false)) => (f env w).bind fun p => (g d p.1.1).bind fun r => match r.2 with
    | .fz => some (.nx (env.set i (some (r.1, false))) p.2)
    | _ => none
  | _ => none
def sApp (i : Nat) (f : EF) : SB := fun env w => (eFz f env w).bind fun p => match env[i]? with
  | some (some (.lst ds, true)) => if ds.length < lim then some (.nx (env.set i (some (.lst (ds ++ [p.1.1]), true))) p.2) else none
  | _ => none
def sExt (i : Nat) (f : EF) : SB := fun env w => (f env w).bind fun p => match env[i]?, p.1 with
  | some (some (.lst ds, true)), (.lst es, .ow) => if ds.length + es.length < lim then some (.nx (env.set i (some (.lst (ds ++ es), true))) p.2) else none
  | _, _ => none
def sIns0 (i : Nat) (f : EF) : SB := fun env w => (eFz f env w).bind fun p => match env[i]? with
  | some (some (.lst ds, true)) => if ds.length < lim then some (.nx (env.set i (some (.lst (p.1.1 :: ds), true))) p.2) else none
  | _ => none
/-- w['at'] += 1 -/
def sTick (i : Nat) : SB := fun env w => match env[i]?, w with
  | some (some (.w, false)), some W => some (.nx env (some ⟨W.draws, W.ix + 1⟩))
  | _, _ => none
def sWhile (t : ET) (g : SB) : Nat → SB
  | 0 => fun _ _ => none
  | n + 1 => fun env w => (t env w).bind fun p => if p.1 = true then (g env p.2).bind fun o => match o with
      | .nx e w' => sWhile t g n e w'
      | .ct e w' => sWhile t g n e w'
      | .bk e w' => some (.nx e w')
      | .rt r w' => some (.rt r w')
    else some (.nx env p.2)
abbrev ESet := D → En → Option En
def setN (i : Nat) : ESet := fun d env => some (env.set i (some (d, false)))
def setL : List Nat → List D → En → Option En
  | [], [], env => some env
  | i :: is, d :: ds, env => setL is ds (env.set i (some (d, false)))
  | _, _, _ => none
def setT (is : List Nat) : ESet := fun d env => match d with
  | .tup ds => setL is ds env
  | _ => none
def forL (set : ESet) (g : SB) : List D → SB
  | [] => fun env w => some (.nx env w)
  | d :: ds => fun env w => (set d env).bind fun env1 => (g env1 w).bind fun o => match o with
      | .nx e w' => forL set g ds e w'
      | .ct e w' => forL set g ds e w'
      | .bk e w' => some (.nx e w')
      | .rt r w' => some (.rt r w')
def sFor (set : ESet) (f : EI) (g : SB) : SB := fun env w => (f env w).bind fun p => forL set g p.1 env p.2
def sUnp (set : ESet) (f : EF) : SB := fun env w => (eFz f env w).bind fun p => (set p.1.1 env).map fun e => .nx e p.2
def sPar (i j : Nat) (f : EA) : SB := fun env w => (f env w).bind fun p => match p.1 with
  | [(d, s), (e, t)] => if s ≠ .bo ∧ t ≠ .bo then some (.nx ((env.set i (some (d, s == .ow))).set j (some (e, t == .ow))) p.2) else none
  | _ => none

section
variable {X : Cx} {st : Stmt} {sts : List Stmt} {e e1 a b c : Expr} {es : List Expr} {f fa : EF} {g h : SB} {t : ET} {pos pos' : Pos}
theorem ss_nil : SndSs X [] sNil := by
  refine pss_imp pss_nil fun Dn σ H q => ?_
  obtain ⟨B, F, wa, w, env, S, out, hf, k⟩ := q
  cases hf
  exact k σ F H (AftS.refl S.wk S.fd) S
theorem s_pass : SndS X (.Pass pos) sNil := by
  refine ps_imp ps_pass fun Dn σ H q => ?_
  obtain ⟨B, F, wa, w, env, S, out, hf, k⟩ := q
  cases hf
  exact k σ F H (AftS.refl S.wk S.fd) S
theorem s_brk : SndS X (.Break pos) sBrk := by
  refine ps_imp ps_break fun Dn σ H q => ?_
  obtain ⟨B, F, wa, w, env, S, out, hf, k⟩ := q
  cases hf
  exact k σ F H (AftS.refl S.wk S.fd) S
theorem s_cnt : SndS X (.Continue pos) sCnt := by
  refine ps_imp ps_continue fun Dn σ H q => ?_
  obtain ⟨B, F, wa, w, env, S, out, hf, k⟩ := q
  cases hf
  exact k σ F H (AftS.refl S.wk S.fd) S
theorem seq_of {K : KW} {Dn : Ends} {σ : L2.St} {H : Hp} (q : rdS K (sSeq g h) Dn σ H) : rdS K g { Dn with nx := rdS K h Dn } σ H := by
  obtain ⟨B, F, wa, w, env, S, out, hf, k⟩ := q
  unfold sSeq at hf
  obtain ⟨o, h1, h2⟩ := Option.bind_eq_some_iff.mp hf
  refine ⟨B, F, wa, w, env, S, o, h1, ?_⟩
  cases o with
  | nx e w1 => exact fun σ' F' H' A S' => ⟨B, F', wa, w1, e, S', out, h2, k.behind A⟩
  | bk e w1 => cases h2; exact k
  | ct e w1 => cases h2; exact k
  | rt p w1 => cases h2; exact k
theorem ss_cons (h1 : SndS X st g) (h2 : SndSs X sts h) : SndSs X (st :: sts) (sSeq g h) := pss_imp (pss_cons h1 h2) fun _ _ _ q => seq_of q
theorem ss_one (h1 : SndS X st g) : SndSs X [st] g := pss_one h1
theorem set_of {K : KW} {i : Nat} {Dn : Ends} {σ : L2.St} {H : Hp} (q : rdS K (sSet i f) Dn σ H) : rd K f σ H fun x H1 => Dn.nx (σ.set i (some x)) H1 := by
  obtain ⟨B, F, wa, w, env, S, out, hf, k⟩ := q
  unfold sSet at hf
  obtain ⟨⟨⟨d1, st1⟩, w1⟩, h1, h2⟩ := Option.bind_eq_some_iff.mp hf
  refine ⟨B, F, wa, w, env, S, d1, st1, w1, h1, fun v F1 H1 A r => ?_⟩
  have S1 := S.aft A
  cases st1 with
  | fz => cases h2; exact k _ F1 H1 (A.toS S.bd) (S1.set i r)
  | ow =>
    cases h2
    obtain ⟨a, e, o, z⟩ := r
    subst e
    exact k _ F1 H1 (A.toS S.bd) (S1.setOw i o (fun b => S.bd a b z) fun j e _ g => S.newer z j e g)
  | bo => cases h2
theorem s_set (i : Nat) {x : Str} (hN : X.N.Nodup) (hi : X.N[i]? = some x) (hx : Loc X.env.scope x) (he : Snd X e f) (hs : swapsWith e (some (.Name x pos')) pos.line X.env = pure false := by rfl) (hf : X.fn x = true ∨ X.env.scope.names.lookup x = some .local := by first | exact .inl rfl | exact .inr rfl | assumption) :
    SndS X (.Assign [.Name x pos'] e pos) (sSet i f) := ps_imp (ps_set hN hi hx he hs hf) fun _ _ _ q => set_of q
theorem s_ret (he : Snd X e f) : SndS X (.Return (some e) pos) (sRet f) := by
  refine ps_imp (ps_ret he) fun Dn σ H q => ?_
  obtain ⟨B, F, wa, w, env, S, out, hf, k⟩ := q
  unfold sRet at hf
  obtain ⟨⟨⟨d1, st1⟩, w1⟩, h1, h2⟩ := Option.bind_eq_some_iff.mp hf
  cases h2
  exact ⟨B, F, wa, w, env, S, d1, st1, _, h1, fun v F1 H1 A r => k v F1 H1 (A.toS S.bd) (r.ret S.bd)⟩
theorem s_drop (he : Snd X e f) (hs : swapsWith e none pos.line X.env = pure false := by rfl) : SndS X (.Expr e pos) (sDrop f) := by
  refine ps_imp (ps_expr he hs) fun Dn σ H q => ?_
  obtain ⟨B, F, wa, w, env, S, out, hf, k⟩ := q
  unfold sDrop at hf
  obtain ⟨⟨⟨d1, st1⟩, w1⟩, h1, h2⟩ := Option.bind_eq_some_iff.mp hf
  cases h2
  exact ⟨B, F, wa, w, env, S, d1, st1, _, h1, fun v F1 H1 A r => k σ F1 H1 (A.toS S.bd) (S.aft A)⟩
theorem s_if {p q : List Stmt} (hc : SndT X c t) (ha : SndSs X p g) (hb : SndSs X q h) : SndS X (.If c p q pos) (sIf t g h) := by
  refine ps_imp (ps_if hc ha hb) fun Dn σ H q => ?_
  obtain ⟨B, F, wa, w, env, S, out, hf, k⟩ := q
  unfold sIf at hf
  obtain ⟨⟨b1, w1⟩, h1, h2⟩ := Option.bind_eq_some_iff.mp hf
  refine ⟨B, F, wa, w, env, S, b1, w1, h1, fun F1 H1 A => ?_⟩
  cases b1 with
  | true => exact ⟨B, F1, wa, w1, env, S.aft A, out, h2, k.behind (A.toS S.bd)⟩
  | false => exact ⟨B, F1, wa, w1, env, S.aft A, out, h2, k.behind (A.toS S.bd)⟩
/-- a slot's own object is given away -/
theorem SI.clr1 {K : KW} {B F : Addr → Prop} {wa : Option Addr} {H : Hp} {w : Option Wd} {σ : L2.St} {env : En} (S : SI K B F wa H w σ env) (i : Nat) :
    ∃ F', AftS K B wa F H w F' H ∧ SI K B F' wa H w σ (clr [i] env) := by
  show ∃ F', AftS K B wa F H w F' H ∧ SI K B F' wa H w σ (match env[i]? with
    | some (some (d, _)) => env.set i (some (d, false))
    | _ => env)
  split
  · rename_i d fl e
    cases fl with
    | false =>
      obtain ⟨v, h1, r⟩ := S.fz i d e
      have S1 := S.set i r
      have e1 : σ.set i (some v) = σ := by
        obtain ⟨hl, e2⟩ := List.getElem?_eq_some_iff.mp h1
        rw [← e2, List.set_getElem_self]
      rw [e1] at S1
      exact ⟨F, AftS.refl S.wk S.fd, S1⟩
    | true =>
      obtain ⟨a, h1, o, nb⟩ := S.ow i d e
      obtain ⟨k, fd, r⟩ := o.freeze S.wk S.fd
      refine ⟨fun b => F b ∨ b = a, ⟨fun x h => .inl h, fun x h => h.elim .inl fun e => .inr (by rw [e]; exact nb), fun _ _ h _ _ => h, fun _ _ _ h => h, fun _ h => h, k, fd⟩, ?_⟩
      have m : ∀ d v, Rep K F wa H d v → Rep K (fun b => F b ∨ b = a) wa H d v := fun d v r => Rep.mono (fun _ z => .inl z) (fun _ _ _ z => z) d v r
      have ms : ∀ d v, Reps K F wa H d v → Reps K (fun b => F b ∨ b = a) wa H d v := fun d v r => Reps.mono (fun _ z => .inl z) (fun _ _ _ z => z) d v r
      have hil : i < env.length := (List.getElem?_eq_some_iff.mp e).1
      refine ⟨by rw [List.length_set]; exact S.len, fun j d' h => ?_, fun j d' h => ?_, fun j l d1 d2 b hjl g1 g2 g3 => ?_, k, fd, S.bd⟩
      · by_cases hj : i = j
        · subst hj
          rw [List.getElem?_set_self hil] at h
          cases h
          exact ⟨.ref a, h1, r⟩
        · rw [List.getElem?_set_ne hj] at h
          obtain ⟨v', h2, r2⟩ := S.fz j d' h
          exact ⟨v', h2, m _ _ r2⟩
      · by_cases hj : i = j
        · subst hj
          rw [List.getElem?_set_self hil] at h
          cases h
        · rw [List.getElem?_set_ne hj] at h
          obtain ⟨a', h2, ⟨q1, q2, q3⟩, nb2⟩ := S.ow j d' h
          obtain ⟨o3, h3, r3⟩ := q3
          refine ⟨a', h2, ⟨fun z => z.elim q1 fun ea => ?_, q2, o3, h3, r3.mono (fun _ z => .inl z) (fun _ _ _ z => z)⟩, nb2⟩
          subst ea
          exact S.ne i j _ _ a' hj e h h1 h2
      · have hj : i ≠ j := fun z => by subst z; rw [List.getElem?_set_self hil] at g1; cases g1
        have hl : i ≠ l := fun z => by subst z; rw [List.getElem?_set_self hil] at g2; cases g2
        rw [List.getElem?_set_ne hj] at g1
        rw [List.getElem?_set_ne hl] at g2
        exact S.ne j l d1 d2 b hjl g1 g2 g3
  · exact ⟨F, AftS.refl S.wk S.fd, S⟩
theorem SI.clr {K : KW} {B : Addr → Prop} {wa : Option Addr} {H : Hp} {w : Option Wd} {σ : L2.St} : ∀ (is : List Nat) {F : Addr → Prop} {env : En}, SI K B F wa H w σ env →
    ∃ F', AftS K B wa F H w F' H ∧ SI K B F' wa H w σ (clr is env)
  | [], F, env, S => ⟨F, AftS.refl S.wk S.fd, S⟩
  | i :: is, F, env, S => by
    obtain ⟨F1, A1, S1⟩ := S.clr1 i
    obtain ⟨F2, A2, S2⟩ := SI.clr is S1
    exact ⟨F2, A1.trans A2, S2⟩
theorem s_frz (is : List Nat) (hs : SndS X st g) : SndS X st (sFrz is g) := by
  refine ps_imp hs fun Dn σ H q => ?_
  obtain ⟨B, F, wa, w, env, S, out, hf, k⟩ := q
  obtain ⟨F1, A1, S1⟩ := SI.clr is S
  exact ⟨B, F1, wa, w, _, S1, out, hf, k.behind A1⟩
theorem s_aug (i : Nat) {x : Str} {op : Operator} {r : R2} {gg : D → D → Option DS} (hN : X.N.Nodup) (hi : X.N[i]? = some x) (hx : Loc X.env.scope x) (he : Snd X e f) (ho : PIp X op r) (hg : OpS (kwOf X) r gg) (hf : X.fn x = true ∨ X.env.scope.names.lookup x = some .local := by first | exact .inl rfl | exact .inr rfl | assumption) :
    SndS X (.AugAssign (.Name x pos') op e pos) (sAug i gg f) := by
  refine ps_imp (ps_aug hN hi hx he ho hf) fun Dn σ H q => ?_
  obtain ⟨B, F, wa, w, env, S, out, hf, k⟩ := q
  unfold sAug at hf
  split at hf
  · rename_i d hd
    obtain ⟨v0, h0, r0⟩ := S.fz i d hd
    obtain ⟨⟨⟨d1, st1⟩, w1⟩, h1, h2⟩ := Option.bind_eq_some_iff.mp hf
    obtain ⟨⟨d2, st2⟩, h3, h4⟩ := Option.bind_eq_some_iff.mp h2
    refine ⟨v0, h0, B, F, wa, w, env, S, d1, st1, w1, h1, fun v F1 H1 A r => ?_⟩
    refine hg wa w1 F1 H1 d d1 d2 st2 v0 v A.wk A.fd (A.rep r0).cur r.cur h3 _ fun v2 F2 H2 A2 r2 => ?_
    cases st2 with
    | fz => cases h4; exact k _ F2 H2 ((A.trans A2).toS S.bd) ((S.aft (A.trans A2)).set i r2)
    | _ => cases h4
  · cases hf
/-- one's own object is changed -/
theorem SI.write {K : KW} {B F : Addr → Prop} {wa : Option Addr} {H : Hp} {w : Option Wd} {σ : L2.St} {env : En} (S : SI K B F wa H w σ env) {i : Nat} {d d' : D} {a : Addr} {o : HO} (hd : env[i]? = some (some (d, true))) (ha : σ[i]? = some (some (.ref a)))
    (hn : OwnO K F wa H a d' o) :
    AftS K B wa F H w F (upd H a o) ∧ SI K B F wa (upd H a o) w σ (env.set i (some (d', true))) := by
  obtain ⟨a', h1, ⟨o1, o2, o3⟩, nb⟩ := S.ow i d hd
  rw [ha] at h1; cases h1
  have ex : ∃ u, H a = some u := OwnAt.some ⟨o1, o2, o3⟩
  have kf : ∀ b u, F b → H b = some u → upd H a o b = some u := fun b u fb h => by rw [upd_ne fun z => o1 (by rw [← z]; exact fb)]; exact h
  have mr : ∀ {d v}, Rep K F wa H d v → Rep K F wa (upd H a o) d v := fun {d v} r => Rep.mono (fun _ z => z) kf d v r
  have mrs : ∀ {ds vs}, Reps K F wa H ds vs → Reps K F wa (upd H a o) ds vs := fun {ds vs} r => Reps.mono (fun _ z => z) kf ds vs r
  have hdom : ∀ b, upd H a o b = none → H b = none := fun b h => by
    by_cases e : b = a
    · subst e; rw [upd_same] at h; cases h
    · rw [upd_ne e] at h; exact h
  have fd : ∀ b, F b → upd H a o b ≠ none := fun b fb h => S.fd b fb (hdom b h)
  have wk : WOk F wa (upd H a o) w := by
    have k := S.wk
    cases wa with
    | none => cases w with
      | none => trivial
      | some W => exact k
    | some x => cases w with
      | none => exact k
      | some W =>
        obtain ⟨g1, da, g2, g3, g4⟩ := k
        exact ⟨g1, da, g2, by rw [upd_ne fun z => o2 (by rw [z])]; exact g3, kf _ _ g2 g4⟩
  have hil : i < env.length := (List.getElem?_eq_some_iff.mp hd).1
  refine ⟨⟨fun _ h => h, fun _ h => .inl h, fun b u h hb _ => by rw [upd_ne fun z => nb (by rw [← z]; exact hb)]; exact h, kf, hdom, wk, fd⟩, ⟨by rw [List.length_set]; exact S.len, fun j d1 h => ?_, fun j d1 h => ?_, fun j l d1 d2 b hjl g1 g2 g3 => ?_, wk, fd, fun b hb h => S.bd b hb (hdom b h)⟩⟩
  · have hj : i ≠ j := fun z => by subst z; rw [List.getElem?_set_self hil] at h; cases h
    rw [List.getElem?_set_ne hj] at h
    obtain ⟨v, h2, r⟩ := S.fz j d1 h
    exact ⟨v, h2, mr r⟩
  · by_cases hj : i = j
    · subst hj
      rw [List.getElem?_set_self hil] at h
      cases h
      refine ⟨a, ha, ⟨o1, o2, ?_⟩, nb⟩
      exact ⟨o, upd_same, hn.mono (fun _ z => z) kf⟩
    · rw [List.getElem?_set_ne hj] at h
      obtain ⟨a2, h2, ⟨p1, p2, p3⟩, nb2⟩ := S.ow j d1 h
      have na : a2 ≠ a := fun z => by subst z; exact S.ne i j _ _ a2 hj hd h ha h2
      refine ⟨a2, h2, ⟨p1, p2, ?_⟩, nb2⟩
      obtain ⟨o4, e4, p4⟩ := p3
      exact ⟨o4, by rw [upd_ne na]; exact e4, p4.mono (fun _ z => z) kf⟩
  · have g1' : ∃ e, env[j]? = some (some (e, true)) := by
      by_cases hj : i = j
      · subst hj; exact ⟨d, hd⟩
      · rw [List.getElem?_set_ne hj] at g1; exact ⟨d1, g1⟩
    have g2' : ∃ e, env[l]? = some (some (e, true)) := by
      by_cases hj : i = l
      · subst hj; exact ⟨d, hd⟩
      · rw [List.getElem?_set_ne hj] at g2; exact ⟨d2, g2⟩
    obtain ⟨q1, g1'⟩ := g1'
    obtain ⟨q2, g2'⟩ := g2'
    exact S.ne j l q1 q2 b hjl g1' g2' g3
theorem lineN {n : Nat} (h : n < lim) : n < sizeLine := Nat.lt_of_lt_of_le h (by rw [sizeLine_eq, lim_eq]; decide)
/-- the slot's own list, to be changed -/
theorem own_lst {K : KW} {B F : Addr → Prop} {wa : Option Addr} {H : Hp} {w : Option Wd} {σ : L2.St} {env : En} (S : SI K B F wa H w σ env) {i : Nat} {ds : List D} (hd : env[i]? = some (some (.lst ds, true))) :
    ∃ a vs, σ[i]? = some (some (.ref a)) ∧ H a = some (.lst vs) ∧ Reps K F wa H ds vs ∧ wa ≠ some a := by
  obtain ⟨a, h1, o, _⟩ := S.ow i _ hd
  obtain ⟨vs, h, r⟩ := o.lst
  exact ⟨a, vs, h1, h, r, o.2.1⟩
theorem s_app (i : Nat) {x apos cpos : Pos} {nm : Str} (ho : PE X (.Name nm x) (tVar i)) (he : Snd X e f) (hs : starEach [e] X.env = (false, eval e X.env) :: starEach [] X.env := by rfl)
    (hpe : ∀ {to : TE} {ta : TA}, PE X (.Name nm x) to → PA X [e] ta → PE X (.Call (.Attribute (.Name nm x) "append" apos) [e] [] cpos) (tBM (kwOf X) "list" rAppend to ta) := by
      intro to ta h1 h2; exact pe_bm PySem.F.plainAttrs_list PySem.F.slot_list_append PySem.F.type_list_append mt_append h1 h2)
    (hsw : swapsWith (.Call (.Attribute (.Name nm x) "append" apos) [e] [] cpos) none pos.line X.env = pure false := by rfl) :
    SndS X (.Expr (.Call (.Attribute (.Name nm x) "append" apos) [e] [] cpos) pos) (sApp i f) := by
  refine ps_imp (ps_expr (hpe ho (pa_cons (e_fz he) pa_nil hs)) hsw) fun Dn σ H q => ?_
  obtain ⟨B, F, wa, w, env, S, out, hf, k⟩ := q
  unfold sApp at hf
  obtain ⟨⟨⟨d1, st1⟩, w1⟩, h1, h2⟩ := Option.bind_eq_some_iff.mp hf
  have e1 : st1 = .fz := by
    unfold eFz at h1
    obtain ⟨⟨⟨d3, st3⟩, w3⟩, h4, h5⟩ := Option.bind_eq_some_iff.mp h1
    cases st3 <;> cases h5 <;> rfl
  subst e1
  dsimp only at h2
  split at h2
  · rename_i ds hd
    split at h2
    · rename_i hz
      cases h2
      obtain ⟨a, vs, g1, g2, g3, g4⟩ := own_lst S hd
      refine ⟨.ref a, g1, .inl ⟨rfl, vs, .inl (.inl g2)⟩, ?_⟩
      refine ⟨B, F, wa, w, env, S, d1, .fz, _, h1, fun v F1 H1 A r => ?_⟩
      have S1 := S.aft A
      have h3 := A.keep a _ g2 g4
      have hl := g3.len
      refine ⟨a, vs, v, rfl, rfl, h3, by rw [← hl]; exact lineN hz, ?_⟩
      obtain ⟨A2, S2⟩ := S1.write (d' := .lst (ds ++ [d1])) (o := .lst (vs ++ [v])) hd g1 ⟨_, rfl, (A.reps g3).app (.one r)⟩
      exact k _ F1 _ ((A.toS S.bd).trans A2) S2
    · cases h2
  · cases h2
theorem s_ext (i : Nat) {x apos cpos : Pos} {nm : Str} (ho : PE X (.Name nm x) (tVar i)) (he : Snd X e f) (hs : starEach [e] X.env = (false, eval e X.env) :: starEach [] X.env := by rfl)
    (hpe : ∀ {to : TE} {ta : TA}, PE X (.Name nm x) to → PA X [e] ta → PE X (.Call (.Attribute (.Name nm x) "extend" apos) [e] [] cpos) (tBM (kwOf X) "list" rExtend to ta) := by
      intro to ta h1 h2; exact pe_bm PySem.F.plainAttrs_list PySem.F.slot_list_extend PySem.F.type_list_extend mt_extend h1 h2)
    (hsw : swapsWith (.Call (.Attribute (.Name nm x) "extend" apos) [e] [] cpos) none pos.line X.env = pure false := by rfl) :
    SndS X (.Expr (.Call (.Attribute (.Name nm x) "extend" apos) [e] [] cpos) pos) (sExt i f) := by
  refine ps_imp (ps_expr (hpe ho (pa_cons he pa_nil hs)) hsw) fun Dn σ H q => ?_
  obtain ⟨B, F, wa, w, env, S, out, hf, k⟩ := q
  unfold sExt at hf
  obtain ⟨⟨⟨d1, st1⟩, w1⟩, h1, h2⟩ := Option.bind_eq_some_iff.mp hf
  dsimp only at h2
  split at h2
  · rename_i ds es hd he2
    split at h2
    · rename_i hz
      cases h2
      cases he2
      obtain ⟨a, vs, g1, g2, g3, g4⟩ := own_lst S hd
      refine ⟨.ref a, g1, .inl ⟨rfl, vs, .inl (.inl g2)⟩, ?_⟩
      refine ⟨B, F, wa, w, env, S, _, .ow, _, h1, fun v F1 H1 A r => ?_⟩
      obtain ⟨b, eb, ob, nb⟩ := r
      subst eb
      obtain ⟨us, hb, rb⟩ := ob.lst
      have S1 := S.aft A
      have h3 := A.keep a _ g2 g4
      have hl := g3.len
      have hl2 := rb.len
      refine ⟨a, b, vs, us, rfl, rfl, h3, hb, by rw [← hl, ← hl2]; exact Nat.le_of_lt (lineN hz), ?_⟩
      obtain ⟨A2, S2⟩ := S1.write (d' := .lst (ds ++ es)) (o := .lst (vs ++ us)) hd g1 ⟨_, rfl, (A.reps g3).app rb⟩
      exact k _ F1 _ ((A.toS S.bd).trans A2) S2
    · cases h2
  · cases h2
theorem s_while (n : Nat) {body : List Stmt} (hp : PassesOwn (model X.prog X.w) X.A X.env X.xe) (hc : SndT X c t) (hb : SndSs X body g) : SndS X (.While c body [] pos) (sWhile t g n) := by
  refine ps_imp (ps_while hp hc hb) fun Dn σ H q => ?_
  obtain ⟨B, F, wa, w, env, S, out, hf, k⟩ := q
  refine ⟨fun m σ' H' => ∃ F' w' env', AftS (kwOf X) B wa F H w' F' H' ∧ SI (kwOf X) B F' wa H' w' σ' env' ∧ sWhile t g m env' w' = some out, ⟨n, F, w, env, AftS.refl S.wk S.fd, S, hf⟩, ?_⟩
  rintro m σ1 H1 ⟨F1, w1, env1, A1, S1, h1⟩
  cases m with
  | zero => cases h1
  | succ m =>
    have h1' : ((t env1 w1).bind fun p => if p.1 = true then (g env1 p.2).bind fun o => match o with
      | .nx e w' => sWhile t g m e w'
      | .ct e w' => sWhile t g m e w'
      | .bk e w' => some (.nx e w')
      | .rt r w' => some (.rt r w')
      else some (.nx env1 p.2)) = some out := h1
    obtain ⟨⟨b2, w2⟩, h2, h3⟩ := Option.bind_eq_some_iff.mp h1'
    refine ⟨B, F1, wa, w1, env1, S1, b2, w2, h2, fun F2 H2 A2 => ?_⟩
    have S2 := S1.aft A2
    have A12 := A1.trans (A2.toS S1.bd)
    cases b2 with
    | true =>
      refine iteT ?_
      have h3' : ((g env1 w2).bind fun o => match o with
        | .nx e w' => sWhile t g m e w'
        | .ct e w' => sWhile t g m e w'
        | .bk e w' => some (.nx e w')
        | .rt r w' => some (.rt r w')) = some out := h3
      obtain ⟨o, h4, h5⟩ := Option.bind_eq_some_iff.mp h3'
      refine ⟨fun σ' H' => ∃ F' w' env', AftS (kwOf X) B wa F H w' F' H' ∧ SI (kwOf X) B F' wa H' w' σ' env' ∧ sWhile t g m env' w' = some out, fun σ' H' hN => ⟨m, Nat.lt_succ_self m, hN⟩, B, F2, wa, w2, env1, S2, o, h4, ?_⟩
      cases o with
      | nx e w3 => exact fun σ' F' H' A' S' => ⟨F', w3, e, A12.trans A', S', h5⟩
      | ct e w3 => exact fun σ' F' H' A' S' => ⟨F', w3, e, A12.trans A', S', h5⟩
      | bk e w3 => cases h5; exact fun σ' F' H' A' S' => k σ' F' H' (A12.trans A') S'
      | rt r w3 => cases h5; exact fun v F' H' A' r => k v F' H' (A12.trans A') r
    | false =>
      refine iteF ?_
      have h3' : some (Out.nx env1 w2) = some out := h3
      cases h3'
      exact k σ1 F2 H2 A12 S2
end
end Dl

set_option Elab.async false
set_option linter.all false
set_option maxRecDepth 100000
set_option maxHeartbeats 4000000
namespace Dl
open PySem PySem.Spec PyProof.Rows L2
/-! ### what is walked -/
/-- an item: all of it frozen; or (u) a tuple that is only unpacked -/
def RepX (u : Bool) (K : KW) (F : Addr → Prop) (wa : Option Addr) (H : Hp) (d : D) (v : V) : Prop := Rep K F wa H d v ∨ (u = true ∧ ∃ ds a vs, d = .tup ds ∧ v = .ref a ∧ SqT K H a vs ∧ Reps K F wa H ds vs)
def ItOk (u : Bool) (K : KW) (wa : Option Addr) (Z : Addr → Prop) (F1 : Addr → Prop) (H1 : Hp) (J : It) (ds : List D) : Prop := ∀ (F2 : Addr → Prop) (H2 : Hp), (∀ a, F1 a → F2 a) → (∀ a o, F1 a → H1 a = some o → H2 a = some o) → (∀ a o, Z a → H1 a = some o → H2 a = some o) →
  (∀ (i : Nat) d, ds[i]? = some d → J.go i H2 ∧ ∀ x H3, J.yld i H2 x H3 → ∃ F3, (∀ w2, WOk F2 wa H2 w2 → (∀ a, F2 a → H2 a ≠ none) → Aft K wa F2 H2 w2 F3 H3) ∧ RepX u K F3 wa H3 d x) ∧ J.stop ds.length H2
abbrev ZF := Option Addr → (Addr → Prop) → Addr → Prop
def zF : ZF := fun _ F a => F a
def zC : ZF := fun wa _ a => wa ≠ some a
def rdI (u : Bool) (K : KW) (z : ZF) (f : EI) : TI := fun σ H R => ∃ B F wa w env, SI K B F wa H w σ env ∧ ∃ ds w', f env w = some (ds, w') ∧ ∀ J F' H', Aft K wa F H w' F' H' → ItOk u K wa (z wa F') F' H' J ds → R J H'
def SndI (u : Bool) (X : Cx) (tg e : Expr) (f : EI) : Prop := PI X tg e (rdI u (kwOf X) zF f)
def SndC (u : Bool) (X : Cx) (tg e : Expr) (f : EI) : Prop := PI X tg e (rdI u (kwOf X) zC f)
theorem SndI.c {u : Bool} {X : Cx} {tg e : Expr} {f : EI} (h : SndI u X tg e f) : SndC u X tg e f := by
  refine pi_imp h fun σ H R q => ?_
  obtain ⟨B, F, wa, w, env, S, ds, w', hf, k⟩ := q
  exact ⟨B, F, wa, w, env, S, ds, w', hf, fun J F' H' A ok => k J F' H' A fun F2 H2 h1 h2 h3 => ok F2 H2 h1 h2 h2⟩
theorem ItOk.x {K : KW} {wa : Option Addr} {Z F1 : Addr → Prop} {H1 : Hp} {J : It} {ds : List D} (h : ItOk false K wa Z F1 H1 J ds) (u : Bool) : ItOk u K wa Z F1 H1 J ds := fun F2 H2 a b c => by
  obtain ⟨h1, h2⟩ := h F2 H2 a b c
  refine ⟨fun i d hd => ?_, h2⟩
  obtain ⟨g, y⟩ := h1 i d hd
  refine ⟨g, fun x H3 hy => ?_⟩
  obtain ⟨F3, h4, h5⟩ := y x H3 hy
  exact ⟨F3, h4, .inl (h5.elim id fun z => nomatch z.1)⟩
theorem SndI.x {X : Cx} {tg e : Expr} {f : EI} (h : SndI false X tg e f) {u : Bool} : SndI u X tg e f := by
  refine pi_imp h fun σ H R q => ?_
  obtain ⟨B, F, wa, w, env, S, ds, w', hf, k⟩ := q
  exact ⟨B, F, wa, w, env, S, ds, w', hf, fun J F' H' A ok => k J F' H' A (ok.x u)⟩
theorem SndC.x {X : Cx} {tg e : Expr} {f : EI} (h : SndC false X tg e f) {u : Bool} : SndC u X tg e f := by
  refine pi_imp h fun σ H R q => ?_
  obtain ⟨B, F, wa, w, env, S, ds, w', hf, k⟩ := q
  exact ⟨B, F, wa, w, env, S, ds, w', hf, fun J F' H' A ok => k J F' H' A (ok.x u)⟩
/-- a target -/
def rdG (u : Bool) (K : KW) (is : List Nat) (set : ESet) : TG := fun v σ H Q => ∃ B F wa w env d, SI K B F wa H w σ env ∧ RepX u K F wa H d v ∧ ∃ env', set d env = some env' ∧ ∀ σ', SI K B F wa H w σ' env' → σ'.length = σ.length → (∀ i, i ∉ is → σ'[i]? = σ[i]?) → Q σ' H
def SndG (u : Bool) (X : Cx) (tg : Expr) (is : List Nat) (set : ESet) : Prop := PG X tg (rdG u (kwOf X) is set)
def rdGs (K : KW) (is : List Nat) : TGs := fun vs σ H Q => ∃ B F wa w env ds, SI K B F wa H w σ env ∧ Reps K F wa H ds vs ∧ ∃ env', setL is ds env = some env' ∧ ∀ σ', SI K B F wa H w σ' env' → σ'.length = σ.length → (∀ i, i ∉ is → σ'[i]? = σ[i]?) → Q σ' H
def SndGs (X : Cx) (tgs : List Expr) (is : List Nat) : Prop := PGs X tgs (rdGs (kwOf X) is)
section
variable {X : Cx} {tg e e1 e2 iter : Expr} {es : List Expr} {f fa : EF} {ga : EA} {g h : SB} {pos pos' : Pos} {set : ESet} {is : List Nat}
theorem pg_imp {t t' : TG} (h : PG X tg t) (k : ∀ v σ H Q, t' v σ H Q → t v σ H Q) : PG X tg t' := by
  obtain ⟨h⟩ := h
  exact ⟨fun pins s σ H v u Q I r q => h pins s σ H v u Q I r (k _ _ _ _ q)⟩
theorem pgs_imp {t t' : TGs} (h : PGs X es t) (k : ∀ v σ H Q, t' v σ H Q → t v σ H Q) : PGs X es t' := by
  obtain ⟨h⟩ := h
  exact ⟨fun pins s σ H v u Q I r q => h pins s σ H v u Q I r (k _ _ _ _ q)⟩
theorem g_name (i : Nat) {x : Str} (hN : X.N.Nodup) (hi : X.N[i]? = some x) (hx : Loc X.env.scope x) (hf : X.fn x = true ∨ X.env.scope.names.lookup x = some .local := by first | exact .inl rfl | exact .inr rfl | assumption) : SndG false X (.Name x pos) [i] (setN i) := by
  refine pg_imp (pg_name hN hi hx hf) fun v σ H Q q => ?_
  obtain ⟨B, F, wa, w, env, d, S, r, env', he, k⟩ := q
  cases he
  have r := r.elim id fun z => nomatch z.1
  exact k _ (S.set i r) (by rw [List.length_set]) fun j hj => by rw [List.getElem?_set_ne]; exact fun z => hj (by simp [z])
theorem gs_nil : SndGs X [] [] := by
  refine pgs_imp pgs_nil fun v σ H Q q => ?_
  obtain ⟨B, F, wa, w, env, ds, S, r, env', he, k⟩ := q
  cases ds with
  | nil => cases he; exact ⟨r, k σ S rfl fun _ _ => rfl⟩
  | cons d ds => cases he
theorem gs_cons {i : Nat} (h1 : SndG false X e [i] (setN i)) (h2 : SndGs X es is) (hs : (assignEach (e :: es) X.env).map (·.2) = assign e X.env :: (assignEach es X.env).map (·.2) := by rfl) : SndGs X (e :: es) (i :: is) := by
  refine pgs_imp (pgs_cons h1 h2 hs) fun v σ H Q q => ?_
  obtain ⟨B, F, wa, w, env, ds, S, r, env', he, k⟩ := q
  cases ds with
  | nil => cases he
  | cons d ds =>
    obtain ⟨v1, vs, e, r1, r2⟩ := r
    refine ⟨v1, vs, e, B, F, wa, w, env, d, S, .inl r1, _, rfl, fun σ' S' hl ha => ?_⟩
    refine ⟨B, F, wa, w, _, ds, S', r2, env', he, fun σ2 S2 hl2 ha2 => k σ2 S2 (hl2.trans hl) fun j hj => ?_⟩
    rw [ha2 j fun z => hj (List.mem_cons_of_mem _ z), ha j fun z => hj (by simp at z; simp [z])]
theorem g_tup {k : Nat} {n : Nat} (hc : X.calm = true) (h : SndGs X es is) (hl : is.length = n) (hn : (assignEach es X.env).length = n := by rfl) (hst : (assignEach es X.env).findIdx? (·.1) = none := by rfl) : SndG true X (.Tuple es k pos) is (setT is) := by
  refine pg_imp (pg_tup hc h hn hst) fun v σ H Q q => ?_
  obtain ⟨B, F, wa, w, env, d, S, r, env', he, k⟩ := q
  cases d with
  | tup ds =>
    obtain ⟨a, vs, e, hq, rr⟩ : ∃ a vs, v = .ref a ∧ SqT (kwOf X) H a vs ∧ Reps (kwOf X) F wa H ds vs := by
      rcases r with ⟨a, u, vs, e, hF, hH, ht, rr⟩ | ⟨_, ds', a, vs, e1, e, hq, rr⟩
      · exact ⟨a, vs, e, ht.sq hH, rr⟩
      · cases e1; exact ⟨a, vs, e, hq, rr⟩
    have hlen : ∀ (is : List Nat) (ds : List D) (env env' : En), setL is ds env = some env' → is.length = ds.length := by
      intro is
      induction is with
      | nil => intro ds env env' h; cases ds with
        | nil => rfl
        | cons d r => cases h
      | cons i is ih => intro ds env env' h; cases ds with
        | nil => cases h
        | cons d r => exact congrArg (· + 1) (ih r _ _ h)
    refine ⟨a, vs, e, hq, ?_, B, F, wa, w, env, ds, S, rr, env', he, k⟩
    rw [← rr.len, ← hlen is ds env env' he, hl]
  | _ => cases he
/-! ### sources -/
def itemsOf : D → Option (List D)
  | .lst ds => some ds
  | .tup ds => some ds
  | _ => none
def iSeq (f : EF) : EI := fun env w => (f env w).bind fun p => (itemsOf p.1.1).map fun ds => (ds, p.2)
def rangeD (lo hi : Int) : List D := (List.range (hi - lo).toNat).map fun (k : Nat) => .int (lo + k)
def downD (hi lo : Int) : List D := (List.range (hi - lo).toNat).map fun (k : Nat) => .int (hi - k)
def iRange (f : EA) : EI := fun env w => (f env w).bind fun p => match p.1 with
  | [(.int j, _)] => if -1000000 ≤ j ∧ j ≤ 1000000 then some (rangeD 0 j, p.2) else none
  | [(.int i, _), (.int j, _)] => if (-1000000 ≤ i ∧ i ≤ 1000000) ∧ -1000000 ≤ j ∧ j ≤ 1000000 then some (rangeD i j, p.2) else none
  | [(.int i, _), (.int j, _), (.int c, _)] => if ((-1000000 ≤ i ∧ i ≤ 1000000) ∧ -1000000 ≤ j ∧ j ≤ 1000000) ∧ c = -1 then some (downD i j, p.2) else none
  | _ => none
def iZipD (f : EA) : EI := fun env w => (f env w).bind fun p => match p.1 with
  | [(.lst xs, _), (.lst ys, _)] => some (List.zipWith (fun a b => .tup [a, b]) xs ys, p.2)
  | _ => none
def enumD : Int → List D → List D
  | _, [] => []
  | i, d :: ds => .tup [.int i, d] :: enumD (i + 1) ds
def iEnumD (f : EA) : EI := fun env w => (f env w).bind fun p => match p.1 with
  | [(.lst xs, _)] => some (enumD 0 xs, p.2)
  | _ => none
def iAny (K : KW) (tl : TE) : TI := fun σ H R => tl σ H fun x H1 => ∃ a, x = .ref a ∧ (((∃ xs, SqL K H1 a xs) ∧ R (Itl K a) H1) ∨ ((∃ xs, SqT K H1 a xs) ∧ R (Itt K a) H1))
theorem pi_any {l : Expr} {tl : TE} (hl : PE X l tl) : PI X tg l (iAny (kwOf X) tl) := by
  refine ⟨fun pins s σ H R I h => ?_⟩
  refine thn (hl.run pins s σ H _ I h) fun v s1 ⟨x, H1, I1, r1, q1⟩ => ?_
  obtain ⟨a, e, q⟩ := q1
  subst e
  cases r1
  rcases q with ⟨⟨xs, hq⟩, q⟩ | ⟨⟨xs, hq⟩, q⟩
  · obtain ⟨its, rv, p, hz⟩ := I1.list hq
    refine wpAny_pyIter_list p.isList ?_
    refine ⟨s1.heap.objs.size, [s1.heap.objs.size], _, _, H1, rfl, I1.kept (t' := s1.toks) fun b o e => Heap.get?_push_of_some _ e, turn_list a _, ⟨_, Heap.get?_push_size _ rfl, rfl, rfl⟩, fun b hb => ?_, q⟩
    have e : b = s1.heap.objs.size := by simpa using hb
    subst e
    exact I1.fpOk (Nat.le_refl _) (I1.hok.fresh (Nat.le_refl _))
  · obtain ⟨its, rv, p, hz⟩ := I1.tuple hq
    refine wpAny_pyIter_tuple (show s1.heap.IsTuple a its.toArray from p) ?_
    refine ⟨s1.heap.objs.size, [s1.heap.objs.size], _, _, H1, rfl, I1.kept (t' := s1.toks) fun b o e => Heap.get?_push_of_some _ e, turn_tuple a _, ⟨_, Heap.get?_push_size _ rfl, rfl, rfl⟩, fun b hb => ?_, q⟩
    have e : b = s1.heap.objs.size := by simpa using hb
    subst e
    exact I1.fpOk (Nat.le_refl _) (I1.hok.fresh (Nat.le_refl _))
theorem Reps.mono' {K : KW} {F F' : Addr → Prop} {wa : Option Addr} {H H' : Hp} {ds : List D} {vs : List V} (h : Reps K F wa H ds vs) (hF : ∀ a, F a → F' a) (hH : ∀ a o, F a → H a = some o → H' a = some o) : Reps K F' wa H' ds vs := Reps.mono hF hH ds vs h
theorem itOk_list {K : KW} {wa : Option Addr} {Z F1 : Addr → Prop} {H1 : Hp} {a : Addr} {ds : List D} {vs : List V} (hs : ∀ (F2 : Addr → Prop) (H2 : Hp), (∀ a, F1 a → F2 a) → (∀ a o, F1 a → H1 a = some o → H2 a = some o) → (∀ a o, Z a → H1 a = some o → H2 a = some o) → SqL K H2 a vs) (r : Reps K F1 wa H1 ds vs) : ItOk false K wa Z F1 H1 (Itl K a) ds := by
  intro F2 H2 h1 h2 h3
  have q : SqL K H2 a vs := hs F2 H2 h1 h2 h3
  have r2 : Reps K F2 wa H2 ds vs := r.mono' h1 h2
  refine ⟨fun i d hd => ?_, ⟨vs, q, by rw [← r.len]; exact Nat.le_refl _⟩⟩
  obtain ⟨v, e1, e2⟩ := r2.at hd
  refine ⟨⟨vs, v, q, e1⟩, fun x H3 y => ?_⟩
  obtain ⟨e3, y⟩ := y
  subst e3
  have e4 := (y vs q).symm.trans e1
  cases e4
  exact ⟨F2, fun w2 wk fd => Aft.refl wk fd, .inl e2⟩
theorem itOk_tup {K : KW} {wa : Option Addr} {Z F1 : Addr → Prop} {H1 : Hp} {a : Addr} {u : HO} {ds : List D} {vs : List V} (hF : F1 a) (hH : H1 a = some u) (ht : TupO u vs) (r : Reps K F1 wa H1 ds vs) : ItOk false K wa Z F1 H1 (Itt K a) ds := by
  intro F2 H2 h1 h2 h3
  have q : SqT K H2 a vs := ht.sq (h2 _ _ hF hH)
  have r2 : Reps K F2 wa H2 ds vs := r.mono' h1 h2
  refine ⟨fun i d hd => ?_, ⟨vs, q, by rw [← r.len]; exact Nat.le_refl _⟩⟩
  obtain ⟨v, e1, e2⟩ := r2.at hd
  refine ⟨⟨vs, v, q, e1⟩, fun x H3 y => ?_⟩
  obtain ⟨e3, y⟩ := y
  subst e3
  have e4 := (y vs q).symm.trans e1
  cases e4
  exact ⟨F2, fun w2 wk fd => Aft.refl wk fd, .inl e2⟩
theorem seq_fz {K : KW} {wa : Option Addr} {Z F1 : Addr → Prop} {H1 : Hp} {d : D} {v : V} {ds : List D} (r : Rep K F1 wa H1 d v) (hi : itemsOf d = some ds) : ∃ a, v = .ref a ∧ (((∃ xs, SqL K H1 a xs) ∧ ItOk false K wa Z F1 H1 (Itl K a) ds) ∨ ((∃ xs, SqT K H1 a xs) ∧ ItOk false K wa Z F1 H1 (Itt K a) ds)) := by
  cases d with
  | lst es =>
    cases hi
    obtain ⟨a, vs, e, hF, h, rr⟩ := r
    exact ⟨a, e, .inl ⟨⟨vs, .inl (.inl h)⟩, itOk_list (vs := vs) (fun F2 H2 h1 h2 h3 => .inl (.inl (h2 _ _ hF h))) rr⟩⟩
  | tup es =>
    cases hi
    obtain ⟨a, u, vs, e, hF, hH, ht, rr⟩ := r
    exact ⟨a, e, .inr ⟨⟨vs, ht.sq hH⟩, itOk_tup hF hH ht rr⟩⟩
  | _ => cases hi
theorem i_seq (he : Snd X e f) : SndI false X tg e (iSeq (eFz f)) := by
  refine pi_imp (pi_any (e_fz he)) fun σ H R q => ?_
  obtain ⟨B, F, wa, w, env, S, ds, w', hf, k⟩ := q
  unfold iSeq at hf
  obtain ⟨⟨⟨d1, st1⟩, w1⟩, h1, h2⟩ := Option.bind_eq_some_iff.mp hf
  obtain ⟨es, h3, h4⟩ := Option.map_eq_some_iff.mp h2
  cases h4
  have e1 : st1 = .fz := by
    unfold eFz at h1
    obtain ⟨⟨⟨d3, st3⟩, w3⟩, h4, h5⟩ := Option.bind_eq_some_iff.mp h1
    cases st3 <;> cases h5 <;> rfl
  subst e1
  refine ⟨B, F, wa, w, env, S, d1, .fz, _, h1, fun v F1 H1 A r => ?_⟩
  obtain ⟨a, ev, hh⟩ := seq_fz (Z := zF wa F1) r h3
  exact ⟨a, ev, hh.imp (fun z => ⟨z.1, k _ F1 H1 A z.2⟩) fun z => ⟨z.1, k _ F1 H1 A z.2⟩⟩
theorem i_seqC (he : Snd X e f) : SndC false X tg e (iSeq f) := by
  refine pi_imp (pi_any he) fun σ H R q => ?_
  obtain ⟨B, F, wa, w, env, S, ds, w', hf, k⟩ := q
  unfold iSeq at hf
  obtain ⟨⟨⟨d1, st1⟩, w1⟩, h1, h2⟩ := Option.bind_eq_some_iff.mp hf
  obtain ⟨es, h3, h4⟩ := Option.map_eq_some_iff.mp h2
  cases h4
  refine ⟨B, F, wa, w, env, S, d1, st1, _, h1, fun v F1 H1 A r => ?_⟩
  have ownc : ∀ a, OwnAt (kwOf X) F1 wa H1 d1 a → ∃ xs, SqL (kwOf X) H1 a xs ∧ ItOk false (kwOf X) wa (zC wa F1) F1 H1 (Itl (kwOf X) a) ds := fun a o => by
    have o2 := o.2.1
    cases d1 with
    | lst es =>
      obtain ⟨vs, h, rr⟩ := o.lst
      cases h3
      exact ⟨vs, .inl (.inl h), itOk_list (fun F2 H2 _ _ h3 => .inl (.inl (h3 a _ o2 h))) rr⟩
    | tup es => obtain ⟨_, _, _, _, ho⟩ := o; exact ho.elim
    | _ => cases h3
  cases st1 with
  | fz =>
    obtain ⟨a, ev, hh⟩ := seq_fz (Z := zC wa F1) r h3
    exact ⟨a, ev, hh.imp (fun z => ⟨z.1, k _ F1 H1 A z.2⟩) fun z => ⟨z.1, k _ F1 H1 A z.2⟩⟩
  | ow =>
    obtain ⟨a, ev, o, _⟩ := r
    obtain ⟨xs, h5, h6⟩ := ownc a o
    exact ⟨a, ev, .inl ⟨⟨xs, h5⟩, k _ F1 H1 A h6⟩⟩
  | bo =>
    obtain ⟨a, ev, o, _⟩ := r
    obtain ⟨xs, h5, h6⟩ := ownc a o
    exact ⟨a, ev, .inl ⟨⟨xs, h5⟩, k _ F1 H1 A h6⟩⟩
theorem itOk_range {K : KW} {wa : Option Addr} {Z F1 : Addr → Prop} {H1 : Hp} {lo hi : Int} : ItOk false K wa Z F1 H1 (Itr lo (hi - lo).toNat) (rangeD lo hi) := by
  intro F2 H2 h1 h2 h3
  have hlen : (rangeD lo hi).length = (hi - lo).toNat := by unfold rangeD; simp
  refine ⟨fun i d hd => ?_, by rw [hlen]; exact Nat.le_refl _⟩
  have hi' : i < (hi - lo).toNat := by rw [← hlen]; exact (List.getElem?_eq_some_iff.mp hd).1
  refine ⟨hi', fun x H3 y => ?_⟩
  obtain ⟨e3, y⟩ := y
  subst e3 y
  have e4 : d = .int (lo + i) := by
    unfold rangeD at hd
    rw [List.getElem?_map, List.getElem?_range hi'] at hd
    cases hd; rfl
  subst e4
  exact ⟨F2, fun w2 wk fd => Aft.refl wk fd, .inl rfl⟩
theorem itOk_down {K : KW} {wa : Option Addr} {Z F1 : Addr → Prop} {H1 : Hp} {hi lo : Int} : ItOk false K wa Z F1 H1 (Itc hi (-1) (hi - lo).toNat) (downD hi lo) := by
  intro F2 H2 h1 h2 h3
  have hlen : (downD hi lo).length = (hi - lo).toNat := by unfold downD; simp
  refine ⟨fun i d hd => ?_, by rw [hlen]; exact Nat.le_refl _⟩
  have hi' : i < (hi - lo).toNat := by rw [← hlen]; exact (List.getElem?_eq_some_iff.mp hd).1
  refine ⟨hi', fun x H3 y => ?_⟩
  obtain ⟨e3, y⟩ := y
  subst e3 y
  have e4 : d = .int (hi + (i : Nat) * -1) := by
    unfold downD at hd
    rw [List.getElem?_map, List.getElem?_range hi'] at hd
    have e5 : some (D.int (hi - (i : Nat))) = some d := hd
    have e6 : hi + ((i : Nat) : Int) * -1 = hi - (i : Nat) := by omega
    rw [e6]
    exact (Option.some.inj e5).symm
  subst e4
  exact ⟨F2, fun w2 wk fd => Aft.refl wk fd, .inl rfl⟩
theorem curs1 {K : KW} {F : Addr → Prop} {wa : Option Addr} {H : Hp} {d : D} {vs : List V} (h : CurS K F wa H [d] vs) : ∃ v, vs = [v] ∧ Cur K F wa H d v := by
  cases h with
  | cons r t => cases t; exact ⟨_, rfl, r⟩
theorem curs2 {K : KW} {F : Addr → Prop} {wa : Option Addr} {H : Hp} {d e : D} {vs : List V} (h : CurS K F wa H [d, e] vs) : ∃ v u, vs = [v, u] ∧ Cur K F wa H d v ∧ Cur K F wa H e u := by
  cases h with
  | cons r t =>
    obtain ⟨u, rfl, r2⟩ := curs1 t
    exact ⟨_, u, rfl, r, r2⟩
theorem curs3 {K : KW} {F : Addr → Prop} {wa : Option Addr} {H : Hp} {d e f : D} {vs : List V} (h : CurS K F wa H [d, e, f] vs) : ∃ v u t, vs = [v, u, t] ∧ Cur K F wa H d v ∧ Cur K F wa H e u ∧ Cur K F wa H f t := by
  cases h with
  | cons r t =>
    obtain ⟨u, t', rfl, r2, r3⟩ := curs2 t
    exact ⟨_, u, t', rfl, r, r2, r3⟩
theorem i_range1 {p : Pos} (hg : Gl X "range") (hm : X.mg "range" = none) (ha : SndA X [e] ga) (hs : starEach [e] X.env = [(false, eval e X.env)] := by rfl) (hone : ∀ env w ds w', ga env w = some (ds, w') → ds.length = 1) : SndI false X tg (.Call (.Name "range" p) [e] [] pos) (iRange ga) := by
  refine pi_imp (pi_range1 hg hm ha hs) fun σ H R q => ?_
  obtain ⟨B, F, wa, w, env, S, ds, w', hf, k⟩ := q
  unfold iRange at hf
  obtain ⟨⟨ps, w1⟩, h1, h2⟩ := Option.bind_eq_some_iff.mp hf
  have h0 := hone _ _ _ _ h1
  refine ⟨B, F, wa, w, env, S, ps, w1, h1, fun vs F1 H1 A r => ?_⟩
  have rc := r.cur
  match ps, h0 with
  | [(d, st)], _ =>
    obtain ⟨v, rfl, c⟩ := curs1 rc
    cases d with
    | int j =>
      dsimp only at h2
      split at h2
      · rename_i hb
        cases h2
        refine ⟨j, by rw [show v = .int j from c], by omega, by omega, ?_⟩
        have := k (Itr 0 j.toNat) F1 H1 A (by
          have e : j.toNat = (j - 0).toNat := by omega
          rw [e]
          exact itOk_range)
        exact this
      · cases h2
    | _ => cases h2
theorem i_range2 {p : Pos} (hg : Gl X "range") (hm : X.mg "range" = none) (ha : SndA X [e, e1] ga) (hone : ∀ env w ds w', ga env w = some (ds, w') → ds.length = 2) (hs : starEach [e, e1] X.env = [(false, eval e X.env), (false, eval e1 X.env)] := by rfl) (hs2 : starEach [e1] X.env = [(false, eval e1 X.env)] := by rfl) : SndI false X tg (.Call (.Name "range" p) [e, e1] [] pos) (iRange ga) := by
  refine pi_imp (pi_range2 hg hm ha hs hs2) fun σ H R q => ?_
  obtain ⟨B, F, wa, w, env, S, ds, w', hf, k⟩ := q
  unfold iRange at hf
  obtain ⟨⟨ps, w1⟩, h1, h2⟩ := Option.bind_eq_some_iff.mp hf
  have h0 := hone _ _ _ _ h1
  refine ⟨B, F, wa, w, env, S, ps, w1, h1, fun vs F1 H1 A r => ?_⟩
  have rc := r.cur
  match ps, h0 with
  | [(d, st), (d2, st2)], _ =>
    obtain ⟨v, u, rfl, c, c2⟩ := curs2 rc
    cases d with
    | int j => cases d2 with
      | int l =>
        dsimp only at h2
        split at h2
        · rename_i hb
          cases h2
          exact ⟨j, l, by rw [show v = .int j from c, show u = .int l from c2], ⟨by omega, by omega, by omega, by omega⟩, k _ F1 H1 A itOk_range⟩
        · cases h2
      | _ => cases h2
    | _ => cases h2
theorem i_range3 {p : Pos} (hg : Gl X "range") (hm : X.mg "range" = none) (ha : SndA X [e, e1, e2] ga) (hone : ∀ env w ds w', ga env w = some (ds, w') → ds.length = 3) (hs : starEach [e, e1, e2] X.env = (false, eval e X.env) :: starEach [e1, e2] X.env := by rfl) (hpl : (backTo pos (starEach [e1, e2] X.env)).any (·.1) = false := by rfl) : SndI false X tg (.Call (.Name "range" p) [e, e1, e2] [] pos) (iRange ga) := by
  refine pi_imp (pi_range3 hg hm ha hs hpl) fun σ H R q => ?_
  obtain ⟨B, F, wa, w, env, S, ds, w', hf, k⟩ := q
  unfold iRange at hf
  obtain ⟨⟨ps, w1⟩, h1, h2⟩ := Option.bind_eq_some_iff.mp hf
  have h0 := hone _ _ _ _ h1
  refine ⟨B, F, wa, w, env, S, ps, w1, h1, fun vs F1 H1 A r => ?_⟩
  have rc := r.cur
  match ps, h0 with
  | [(d, st), (d2, st2), (d3, st3)], _ =>
    obtain ⟨v, u, t, rfl, c, c2, c3⟩ := curs3 rc
    cases d with
    | int j => cases d2 with
      | int l => cases d3 with
        | int m =>
          dsimp only at h2
          split at h2
          · rename_i hb
            obtain ⟨hb, hm⟩ := hb
            subst hm
            cases h2
            exact ⟨j, l, -1, _, by rw [show v = .int j from c, show u = .int l from c2, show t = .int (-1) from c3], RgC.neg (by omega) (by omega) (by omega) (by omega), k _ F1 H1 A itOk_down⟩
          · cases h2
        | _ => cases h2
      | _ => cases h2
    | _ => cases h2
theorem a1_len {f : EF} : ∀ env w ds w', aCons f aNil env w = some (ds, w') → ds.length = 1 := fun env w ds w' h => by
  unfold aCons aNil at h
  obtain ⟨p, _, h2⟩ := Option.bind_eq_some_iff.mp h
  cases h2; rfl
theorem a2_len {f g : EF} : ∀ env w ds w', aCons f (aCons g aNil) env w = some (ds, w') → ds.length = 2 := fun env w ds w' h => by
  unfold aCons at h
  obtain ⟨p, _, h2⟩ := Option.bind_eq_some_iff.mp h
  obtain ⟨⟨q, w2⟩, h3, h4⟩ := Option.bind_eq_some_iff.mp h2
  cases h4
  show q.length + 1 = 2
  rw [a1_len _ _ _ _ h3]
theorem a3_len {f g h : EF} : ∀ env w ds w', aCons f (aCons g (aCons h aNil)) env w = some (ds, w') → ds.length = 3 := fun env w ds w' h => by
  rw [aCons] at h
  obtain ⟨p, _, h2⟩ := Option.bind_eq_some_iff.mp h
  obtain ⟨⟨q, w2⟩, h3, h4⟩ := Option.bind_eq_some_iff.mp h2
  cases h4
  show q.length + 1 = 3
  rw [a2_len _ _ _ _ h3]
theorem zipW_at {xs ys : List D} {i : Nat} {d : D} (h : (List.zipWith (fun a b => D.tup [a, b]) xs ys)[i]? = some d) : ∃ a b, xs[i]? = some a ∧ ys[i]? = some b ∧ d = .tup [a, b] := by
  rw [List.getElem?_zipWith] at h
  split at h
  · rename_i a b h1 h2
    cases h
    exact ⟨a, b, h1, h2, rfl⟩
  · cases h
/-- zip of two lists -/
theorem i_zip {p tpos : Pos} {elts : List Expr} {kk : Nat} (hg : Gl X "zip") (hm : X.mg "zip" = none) (ha : SndA X [e, e1] ga) (hone : ∀ env w ds w', ga env w = some (ds, w') → ds.length = 2) (hs : starEach [e, e1] X.env = (false, eval e X.env) :: starEach [e1] X.env := by rfl) (hpl : (backTo pos (starEach [e1] X.env)).any (·.1) = false := by rfl) :
    SndC true X (.Tuple elts kk tpos) (.Call (.Name "zip" p) [e, e1] [] pos) (iZipD ga) := by
  refine pi_imp (pi_zip hg hm ha hs hpl) fun σ H R q => ?_
  obtain ⟨B, F, wa, w, env, S, ds, w', hf, k⟩ := q
  unfold iZipD at hf
  obtain ⟨⟨ps, w1⟩, h1, h2⟩ := Option.bind_eq_some_iff.mp hf
  have h0 := hone _ _ _ _ h1
  refine ⟨B, F, wa, w, env, S, ps, w1, h1, fun vs F1 H1 A r => ?_⟩
  have stab : ∀ {st : O3} {xs : List D} {v : V}, RS (kwOf X) B F1 wa H H1 (.lst xs) st v → ∃ a us, v = .ref a ∧ Reps (kwOf X) F1 wa H1 xs us ∧ ∀ H2, (∀ a o, F1 a → H1 a = some o → H2 a = some o) → (∀ a o, wa ≠ some a → H1 a = some o → H2 a = some o) → SqL (kwOf X) H2 a us := by
    intro st xs v r
    have own : ∀ a, OwnAt (kwOf X) F1 wa H1 (.lst xs) a → ∃ us, Reps (kwOf X) F1 wa H1 xs us ∧ ∀ H2, (∀ a o, F1 a → H1 a = some o → H2 a = some o) → (∀ a o, wa ≠ some a → H1 a = some o → H2 a = some o) → SqL (kwOf X) H2 a us := fun a o => by
      have o2 := o.2.1
      obtain ⟨vs, h, rr⟩ := o.lst
      exact ⟨vs, rr, fun H2 _ g => .inl (.inl (g _ _ o2 h))⟩
    cases st with
    | fz =>
      obtain ⟨a, vs, e, hF, h, rr⟩ := r
      exact ⟨a, vs, e, rr, fun H2 g _ => .inl (.inl (g _ _ hF h))⟩
    | ow => obtain ⟨a, e, o, _⟩ := r; obtain ⟨us, q1, q2⟩ := own a o; exact ⟨a, us, e, q1, q2⟩
    | bo => obtain ⟨a, e, o, _⟩ := r; obtain ⟨us, q1, q2⟩ := own a o; exact ⟨a, us, e, q1, q2⟩
  match ps, h0 with
  | [(d, st), (d2, st2)], _ =>
    obtain ⟨r, _⟩ := r
    cases r with
    | @cons _ v1 _ _ r1 rr => cases rr with
      | @cons _ v2 _ _ r2 rrr =>
        cases rrr
        cases d with
        | lst xs => cases d2 with
          | lst ys =>
            cases h2
            obtain ⟨a, us, e1, p1, p2⟩ := stab r1
            obtain ⟨b, ts, e2, p3, p4⟩ := stab r2
            refine ⟨a, b, us, ts, by rw [show v1 = .ref a from e1, show v2 = .ref b from e2], p2 H1 (fun _ _ _ h => h) (fun _ _ _ h => h), p4 H1 (fun _ _ _ h => h) (fun _ _ _ h => h), k _ F1 H1 A fun F2 H2 g1 g2 g3 => ?_⟩
            have q1 := p2 H2 g2 g3
            have q2 := p4 H2 g2 g3
            have s1 := p1.mono' g1 g2
            have s2 := p3.mono' g1 g2
            refine ⟨fun i d hd => ?_, ⟨us, ts, q1, q2, ?_⟩⟩
            · obtain ⟨x, y, z1, z2, rfl⟩ := zipW_at hd
              obtain ⟨vx, y1, y2⟩ := s1.at z1
              obtain ⟨vy, y3, y4⟩ := s2.at z2
              refine ⟨⟨us, ts, vx, vy, q1, q2, y1, y3⟩, fun x' H3 yl => ?_⟩
              obtain ⟨T, a1, b1, e5, nT, e6, f1, f2⟩ := yl
              have ex : a1 = vx := Option.some.inj ((f1 _ q1).symm.trans y1)
              have ey : b1 = vy := Option.some.inj ((f2 _ q2).symm.trans y3)
              subst ex ey e5 e6
              refine ⟨F2, fun w2 wk fd => Aft.new0 wk fd nT, .inr ⟨rfl, _, T, [a1, b1], rfl, rfl, .inl (.inl upd_same), ?_⟩⟩
              have m : ∀ d v, Rep (kwOf X) F2 wa H2 d v → Rep (kwOf X) F2 wa (upd H2 T (.tup [a1, b1])) d v := fun d v r => Rep.mono (fun _ z => z) (fun c o _ h => by rw [upd_ne (ne_of_none h nT)]; exact h) d v r
              exact ⟨a1, [b1], rfl, m _ _ y2, b1, [], rfl, m _ _ y4, rfl⟩
            · rw [List.length_zipWith, ← p1.len, ← p3.len]
              omega
          | _ => cases h2
        | _ => cases h2
/-! ### for -/
theorem s_for {u : Bool} {body : List Stmt} {fi : EI} (hp : PassesOwn (model X.prog X.w) X.A X.env X.xe) (hc : X.calm = true) (hi : SndI u X tg iter fi) (hg : SndG u X tg is set) (hb : SndSs X body g) (hs : ∀ x, foldedSetIterable iter X.env x = pure x := by intro _; rfl) : SndS X (.For tg iter body [] pos) (sFor set fi g) := by
  refine ps_imp (ps_for hp hc hi hg hb hs) fun Dn σ H q => ?_
  obtain ⟨B, F, wa, w, env, S, out, hf, k⟩ := q
  unfold sFor at hf
  obtain ⟨⟨ds, w1⟩, h1, h2⟩ := Option.bind_eq_some_iff.mp hf
  refine ⟨B, F, wa, w, env, S, ds, w1, h1, fun J F1 H1 A ok => ?_⟩
  have A0 := A.toS S.bd
  have S1 := S.aft A
  refine ⟨fun i m σ' H' => i ≤ ds.length ∧ m = ds.length - i ∧ ∃ F' w' env', AftS (kwOf X) B wa F1 H1 w' F' H' ∧ SI (kwOf X) B F' wa H' w' σ' env' ∧ forL set g (ds.drop i) env' w' = some out, ⟨ds.length, Nat.zero_le _, by simp, F1, w1, env, AftS.refl S1.wk S1.fd, S1, h2⟩, ?_⟩
  rintro i m σ' H' ⟨hle, hm, F', w', env', A', S', h3⟩
  subst hm
  obtain ⟨okI, okS⟩ := ok F' H' A'.sub A'.kf A'.kf
  by_cases hlt : i < ds.length
  · have hd : ds[i]? = some ds[i] := by simp [hlt]
    obtain ⟨go, yl⟩ := okI i _ hd
    have e1 : ds.drop i = ds[i] :: ds.drop (i + 1) := List.drop_eq_getElem_cons hlt
    rw [e1] at h3
    have h3' : ((set ds[i] env').bind fun env1 => (g env1 w').bind fun o => match o with
      | .nx e w' => forL set g (ds.drop (i + 1)) e w'
      | .ct e w' => forL set g (ds.drop (i + 1)) e w'
      | .bk e w' => some (.nx e w')
      | .rt r w' => some (.rt r w')) = some out := h3
    obtain ⟨env1, h4, h5⟩ := Option.bind_eq_some_iff.mp h3'
    obtain ⟨o, h6, h7⟩ := Option.bind_eq_some_iff.mp h5
    refine .inr ⟨go, fun σ2 H2 => ∃ F2 w2 env2, AftS (kwOf X) B wa F1 H1 w2 F2 H2 ∧ SI (kwOf X) B F2 wa H2 w2 σ2 env2 ∧ forL set g (ds.drop (i + 1)) env2 w2 = some out, fun σ2 H2 hN => ⟨ds.length - (i + 1), by omega, by omega, rfl, hN⟩, fun x H3 y => ?_⟩
    obtain ⟨F3, A3, r3⟩ := yl x H3 y
    have A3' := A3 w' S'.wk S'.fd
    have S3 := S'.aft A3'
    have A13 := A'.trans (A3'.toS S'.bd)
    refine ⟨B, F3, wa, w', env', _, S3, r3, env1, h4, fun σ2 S2 _ _ => ?_⟩
    refine ⟨B, F3, wa, w', env1, S2, o, h6, ?_⟩
    cases o with
    | nx e w3 => exact fun σ4 F4 H4 A4 S4 => ⟨F4, w3, e, A13.trans A4, S4, h7⟩
    | ct e w3 => exact fun σ4 F4 H4 A4 S4 => ⟨F4, w3, e, A13.trans A4, S4, h7⟩
    | bk e w3 => cases h7; exact fun σ4 F4 H4 A4 S4 => k σ4 F4 H4 (A0.trans (A13.trans A4)) S4
    | rt r w3 => cases h7; exact fun v F4 H4 A4 r => k v F4 H4 (A0.trans (A13.trans A4)) r
  · have e : i = ds.length := by omega
    subst e
    rw [List.drop_length] at h3
    have h3' : some (Out.nx env' w') = some out := h3
    cases h3'
    exact .inl ⟨okS, k σ' F' H' (A0.trans A') S'⟩
theorem s_unp {u : Bool} {tg : Expr} (he : Snd X e f) (hg : SndG u X tg is set) (hs : swapsWithSole [tg] e pos.line X.env = pure false := by rfl) (hw : swappedStores [tg] e X.env = pure none := by rfl) (h1 : (assignEach [tg] X.env).map (·.2) = [assign tg X.env] := by rfl) : SndS X (.Assign [tg] e pos) (sUnp set f) := by
  refine ps_imp (ps_asg (e_fz he) hg hs hw h1) fun Dn σ H q => ?_
  obtain ⟨B, F, wa, w, env, S, out, hf, k⟩ := q
  unfold sUnp at hf
  obtain ⟨⟨⟨d1, st1⟩, w1⟩, h1, h2⟩ := Option.bind_eq_some_iff.mp hf
  obtain ⟨env2, h3, h4⟩ := Option.map_eq_some_iff.mp h2
  cases h4
  have e1 : st1 = .fz := by
    unfold eFz at h1
    obtain ⟨⟨⟨d3, st3⟩, w3⟩, h4, h5⟩ := Option.bind_eq_some_iff.mp h1
    cases st3 <;> cases h5 <;> rfl
  subst e1
  exact ⟨B, F, wa, w, env, S, d1, .fz, _, h1, fun v F1 H1 A r => ⟨B, F1, wa, w1, env, d1, S.aft A, .inl r, env2, h3, fun σ' S' _ _ => k σ' F1 H1 (A.toS S.bd) S'⟩⟩
theorem s_par (i j : Nat) {x y : Str} {a b : Expr} {px py pt : Pos} {kt k2 pt2} (hc : X.calm = true) (hN : X.N.Nodup) (hi : X.N[i]? = some x) (hj : X.N[j]? = some y) (hij : i ≠ j)
    (hx : X.env.scope.names.lookup x = some .local) (hy : X.env.scope.names.lookup y = some .local) (ha : SndA X [a, b] ga)
    (hw : swappedStores [.Tuple [.Name x px, .Name y py] kt pt] (.Tuple [a, b] k2 pt2) X.env = pure (some [x, y]) := by rfl)
    (hs : swapsWithSole [.Tuple [.Name x px, .Name y py] kt pt] (.Tuple [a, b] k2 pt2) pos.line X.env = pure false := by rfl) :
    SndS X (.Assign [.Tuple [.Name x px, .Name y py] kt pt] (.Tuple [a, b] k2 pt2) pos) (sPar i j ga) := by
  refine ps_imp (ps_par hc hN hi hj hij hx hy ha hw hs) fun Dn σ H q => ?_
  obtain ⟨B, F, wa, w, env, S, out, hf, k⟩ := q
  unfold sPar at hf
  obtain ⟨⟨ps, w1⟩, h1, h2⟩ := Option.bind_eq_some_iff.mp hf
  refine ⟨B, F, wa, w, env, S, ps, w1, h1, fun vs F1 H1 A r => ?_⟩
  dsimp only at h2
  split at h2
  · rename_i d s e t
    split at h2
    · rename_i hst
      cases h2
      obtain ⟨r, ap⟩ := r
      cases r with
      | @cons _ v1 _ _ r1 rr => cases rr with
        | @cons _ v2 _ _ r2 rrr =>
          cases rrr
          refine ⟨v1, v2, rfl, ?_⟩
          have S1 := S.aft A
          have A1 := A.toS S.bd
          have step1 : SI (kwOf X) B F1 wa H1 w1 (σ.set i (some v1)) (env.set i (some (d, s == .ow))) := by
            cases s with
            | fz => exact S1.set i r1
            | ow =>
              obtain ⟨a, ea, o, z⟩ := r1
              have ea' : v1 = .ref a := ea
              subst ea'
              exact S1.setOw i o (fun b => S.bd a b z) fun j e _ g => S.newer z j e g
            | bo => exact absurd rfl hst.1
          cases t with
          | fz => exact k _ F1 H1 A1 (step1.set j r2)
          | ow =>
            obtain ⟨b, eb, o2, z2⟩ := r2
            have eb' : v2 = .ref b := eb
            subst eb'
            refine k _ F1 H1 A1 (step1.setOw j o2 (fun bb => S.bd b bb z2) fun l e' hl g => ?_)
            by_cases hil : i = l
            · subst hil
              cases s with
              | ow =>
                have ne : V.ref b ≠ v1 := ap.1 rfl ((e, O3.ow), V.ref b) (List.mem_cons_self ..) rfl
                by_cases hlen : i < σ.length
                · rw [List.getElem?_set_self hlen]
                  exact fun z => ne (Option.some.inj (Option.some.inj z)).symm
                · rw [List.getElem?_eq_none (by rw [List.length_set]; omega)]; simp
              | fz => by_cases hlen : i < env.length
                      · rw [List.getElem?_set_self hlen] at g; cases g
                      · rw [List.getElem?_eq_none (by rw [List.length_set]; omega)] at g; cases g
              | bo => exact absurd rfl hst.1
            · rw [List.getElem?_set_ne hil] at g ⊢
              exact S.newer z2 l e' g
          | bo => exact absurd rfl hst.2
    · cases h2
  · cases h2
end
end Dl

set_option Elab.async false
set_option linter.all false
set_option maxRecDepth 100000
set_option maxHeartbeats 4000000
namespace Dl
open PySem PySem.Spec PyProof.Rows L2
/-! ### comprehensions -/
def wipeE (env : En) : List Nat → En
  | [] => env
  | v :: vs => (wipeE env vs).set v none
def lcL (set : ESet) (t : ET) (fe : EF) : List D → En → Option Wd → Option (List D × Option Wd)
  | [], _, w => some ([], w)
  | d :: ds, env, w => (set d env).bind fun env1 => (t env1 w).bind fun p => if p.1 = true then (eFz fe env1 p.2).bind fun q => (lcL set t fe ds env q.2).map fun r => (q.1.1 :: r.1, r.2) else lcL set t fe ds env p.2
def eLC (vs : List Nat) (set : ESet) (fi : EI) (t : ET) (fe : EF) : EF := fun env w => (fi env w).bind fun p => if p.1.length ≤ lim then (lcL set t fe p.1 (wipeE env vs) p.2).map fun r => ((.lst r.1, .ow), r.2) else none
def tYesD : ET := fun _ w => some (true, w)
def SndTs (X : Cx) (ifs : List Expr) (f : ET) : Prop := PTs X ifs (rdT (kwOf X) f)
theorem SI.none {K : KW} {B F : Addr → Prop} {wa : Option Addr} {H : Hp} {w : Option Wd} {σ : L2.St} {env : En} (S : SI K B F wa H w σ env) (i : Nat) : SI K B F wa H w (σ.set i Option.none) (env.set i Option.none) where
  len := by rw [List.length_set, List.length_set]; exact S.len
  fz := fun j e h => by
    by_cases hj : i = j
    · subst hj
      by_cases hl : i < env.length
      · rw [List.getElem?_set_self hl] at h; cases h
      · rw [List.getElem?_eq_none (by rw [List.length_set]; omega)] at h; cases h
    · rw [List.getElem?_set_ne hj] at h ⊢
      exact S.fz j e h
  ow := fun j e h => by
    by_cases hj : i = j
    · subst hj
      by_cases hl : i < env.length
      · rw [List.getElem?_set_self hl] at h; cases h
      · rw [List.getElem?_eq_none (by rw [List.length_set]; omega)] at h; cases h
    · rw [List.getElem?_set_ne hj] at h ⊢
      exact S.ow j e h
  ne := fun j k d1 d2 a hjk h1 h2 g => by
    have hj : i ≠ j := fun z => by
      subst z
      by_cases hl : i < env.length
      · rw [List.getElem?_set_self hl] at h1; cases h1
      · rw [List.getElem?_eq_none (by rw [List.length_set]; omega)] at h1; cases h1
    have hk : i ≠ k := fun z => by
      subst z
      by_cases hl : i < env.length
      · rw [List.getElem?_set_self hl] at h2; cases h2
      · rw [List.getElem?_eq_none (by rw [List.length_set]; omega)] at h2; cases h2
    rw [List.getElem?_set_ne hj] at h1 g
    rw [List.getElem?_set_ne hk] at h2 ⊢
    exact S.ne j k d1 d2 a hjk h1 h2 g
  wk := S.wk
  fd := S.fd
  bd := S.bd
theorem SI.wipe {K : KW} {B F : Addr → Prop} {wa : Option Addr} {H : Hp} {w : Option Wd} {σ : L2.St} {env : En} (S : SI K B F wa H w σ env) : ∀ vs : List Nat, SI K B F wa H w (wipe σ vs) (wipeE env vs)
  | [] => S
  | v :: vs => (S.wipe vs).none v
theorem wipe_at (σ : L2.St) {i : Nat} : ∀ {vs : List Nat}, i ∈ vs → (wipe σ vs)[i]? = if i < σ.length then some none else none
  | v :: vs, h => by
    unfold wipe
    by_cases e : v = i
    · subst e
      by_cases hl : v < σ.length
      · rw [List.getElem?_set_self (by rw [wipe_length]; exact hl), if_pos hl]
      · rw [List.getElem?_eq_none (by rw [List.length_set, wipe_length]; omega), if_neg hl]
    · rw [List.getElem?_set_ne e]
      exact wipe_at σ (by
        rcases List.mem_cons.mp h with z | z
        · exact absurd z.symm e
        · exact z)
theorem wipe_same {σ σ2 : L2.St} {vs is : List Nat} (hl : σ2.length = (wipe σ vs).length) (ha : ∀ i, i ∉ is → σ2[i]? = (wipe σ vs)[i]?) (hi : ∀ i ∈ is, i ∈ vs) : wipe σ2 vs = wipe σ vs := by
  apply List.ext_getElem?
  intro i
  by_cases h : i ∈ vs
  · rw [wipe_at σ2 h, wipe_at σ h, hl, wipe_length]
  · rw [wipe_out h, ha i fun z => h (hi i z)]
theorem pts_imp {X : Cx} {ifs : List Expr} {t t' : TT} (h : PTs X ifs t) (k : ∀ σ H Q, t' σ H Q → t σ H Q) : PTs X ifs t' := ⟨fun pins s σ H Q I q => h.run pins s σ H Q I (k _ _ _ q)⟩
section
variable {X : Cx} {tg e elt iter : Expr} {ifs : List Expr} {f fe : EF} {fi : EI} {t : ET} {pos pos' : Pos} {set : ESet} {is vs : List Nat}
theorem ts_nil : SndTs X [] tYesD := by
  refine pts_imp pts_nil fun σ H Q q => ?_
  obtain ⟨B, F, wa, w, env, S, b, w', hf, k⟩ := q
  cases hf
  exact k F H (Aft.refl S.wk S.fd)
theorem ts_one {c : Expr} (h : SndT X c t) : SndTs X [c] t := pts_one h
/-- the new list's object is changed while it is made -/
theorem Aft.over {K : KW} {F F1 : Addr → Prop} {wa : Option Addr} {H H1 : Hp} {w1 : Option Wd} {p : Addr} {o : HO} (A : Aft K wa F H w1 F1 H1) (hp : H p = none) (nf : ¬ F1 p) (nw : wa ≠ some p) : Aft K wa F H w1 F1 (upd H1 p o) where
  sub := A.sub
  new := A.new
  keep := fun a u h e => by rw [upd_ne (ne_of_none h hp)]; exact A.keep a u h e
  kf := fun a u f h => by rw [upd_ne (ne_of_none h hp)]; exact A.kf a u f h
  dom := fun a h => by
    by_cases e : a = p
    · subst e; exact hp
    · rw [upd_ne e] at h; exact A.dom a h
  wk := by
    have k := A.wk
    cases wa with
    | none => cases w1 with
      | none => trivial
      | some W => exact k
    | some x => cases w1 with
      | none => exact k
      | some W =>
        obtain ⟨g1, da, g2, g3, g4⟩ := k
        exact ⟨g1, da, g2, by rw [upd_ne fun z => nw (by rw [z])]; exact g3, by rw [upd_ne fun z => nf (by rw [← z]; exact g2)]; exact g4⟩
  fd := fun a f => by
    by_cases e : a = p
    · subst e; exact absurd f nf
    · rw [upd_ne e]; exact A.fd a f
theorem lc_of {u : Bool} {K : KW} {σ : L2.St} {H : Hp} {Q : VK} (hiv : ∀ i ∈ is, i ∈ vs) (q : rd K (eLC vs set fi t fe) σ H Q) : tLc (rdI u K zC fi) (rdG u K is set) (rdT K t) (rd K (eFz fe)) vs σ H Q := by
  obtain ⟨B, F, wa, w, env, S, d, st, w', hf, k⟩ := q
  unfold eLC at hf
  obtain ⟨⟨ds, w1⟩, h1, h2⟩ := Option.bind_eq_some_iff.mp hf
  dsimp only at h2
  split at h2
  · rename_i hlen
    obtain ⟨⟨xs, w9⟩, h3, h4⟩ := Option.map_eq_some_iff.mp h2
    cases h4
    refine ⟨B, F, wa, w, env, S, ds, w1, h1, fun J F1 H1 A ok => fun Da nD => ?_⟩
    have nw : wa ≠ some Da := A.wk.ne nD
    refine ⟨fun i m H' => i ≤ ds.length ∧ m = ds.length - i ∧ ∃ F' w2 av ad rest, Aft K wa F1 H1 w2 F' H' ∧ ¬ F' Da ∧ H' Da = some (.lst av) ∧ Reps K F' wa H' ad av ∧ ad.length ≤ i ∧ lcL set t fe (ds.drop i) (wipeE env vs) w2 = some (rest, w9) ∧ ad ++ rest = xs, ⟨ds.length, Nat.zero_le _, by simp, F1, w1, [], [], xs, Aft.new0 A.wk A.fd nD, fun z => A.fd Da z nD, upd_same, rfl, Nat.zero_le _, h3, rfl⟩, ?_⟩
    rintro i m H' ⟨hle, hm, F', w2, av, ad, rest, A', nF, hD, ra, hal, h5, h6⟩
    subst hm
    obtain ⟨okI, okS⟩ := ok F' H' A'.sub A'.kf fun a o z h => A'.keep a o h z
    by_cases hlt : i < ds.length
    · have hd : ds[i]? = some ds[i] := by simp [hlt]
      obtain ⟨go, yl⟩ := okI i _ hd
      rw [List.drop_eq_getElem_cons hlt] at h5
      have h5' : ((set ds[i] (wipeE env vs)).bind fun env1 => (t env1 w2).bind fun p => if p.1 = true then (eFz fe env1 p.2).bind fun q => (lcL set t fe (ds.drop (i + 1)) (wipeE env vs) q.2).map fun r => (q.1.1 :: r.1, r.2) else lcL set t fe (ds.drop (i + 1)) (wipeE env vs) p.2) = some (rest, w9) := h5
      obtain ⟨env1, h7, h8⟩ := Option.bind_eq_some_iff.mp h5'
      obtain ⟨⟨b, w3⟩, h9, h10⟩ := Option.bind_eq_some_iff.mp h8
      refine .inr ⟨go, fun H2 => i + 1 ≤ ds.length ∧ ∃ F2 w2 av ad rest, Aft K wa F1 H1 w2 F2 H2 ∧ ¬ F2 Da ∧ H2 Da = some (.lst av) ∧ Reps K F2 wa H2 ad av ∧ ad.length ≤ i + 1 ∧ lcL set t fe (ds.drop (i + 1)) (wipeE env vs) w2 = some (rest, w9) ∧ ad ++ rest = xs, fun H2 hN => ⟨ds.length - (i + 1), by omega, hN.1, rfl, hN.2⟩, fun x H3 y => ?_⟩
      obtain ⟨F3, A3, r3⟩ := yl x H3 y
      have S' : SI K B F' wa H' w2 (wipe σ vs) (wipeE env vs) := (S.aft (A.trans A')).wipe vs
      have A3' := A3 w2 S'.wk S'.fd
      refine ⟨B, F3, wa, w2, wipeE env vs, _, S'.aft A3', r3, env1, h7, fun σ2 S2 hl ha => ⟨wipe_same hl ha hiv, ?_⟩⟩
      have nf3 : ¬ F3 Da := fun z => by
        rcases A3'.new Da z with z | z
        · exact nF z
        · rw [hD] at z; cases z
      have hD3 : H3 Da = some (.lst av) := A3'.keep Da _ hD nw
      refine ⟨B, F3, wa, w2, env1, S2, b, w3, h9, fun F4 H4 A4 => ?_⟩
      have nf4 : ¬ F4 Da := fun z => by
        rcases A4.new Da z with z | z
        · exact nf3 z
        · rw [hD3] at z; cases z
      have hD4 : H4 Da = some (.lst av) := A4.keep Da _ hD3 nw
      have A14 := A'.trans (A3'.trans A4)
      have ra4 : Reps K F4 wa H4 ad av := (A3'.trans A4).reps ra
      cases b with
      | true =>
        refine iteT ?_
        have h10' : ((eFz fe env1 w3).bind fun q => (lcL set t fe (ds.drop (i + 1)) (wipeE env vs) q.2).map fun r => (q.1.1 :: r.1, r.2)) = some (rest, w9) := h10
        obtain ⟨⟨⟨d5, st5⟩, w5⟩, h11, h12⟩ := Option.bind_eq_some_iff.mp h10'
        obtain ⟨⟨rest2, w6⟩, h13, h14⟩ := Option.map_eq_some_iff.mp h12
        cases h14
        have e5 : st5 = .fz := by
          unfold eFz at h11
          obtain ⟨⟨⟨d6, st6⟩, w7⟩, g4, g5⟩ := Option.bind_eq_some_iff.mp h11
          cases st6 <;> cases g5 <;> rfl
        subst e5
        refine ⟨B, F4, wa, w3, env1, S2.aft A4, d5, .fz, w5, h11, fun v F5 H5 A5 r5 => ?_⟩
        have nf5 : ¬ F5 Da := fun z => by
          rcases A5.new Da z with z | z
          · exact nf4 z
          · rw [hD4] at z; cases z
        have hD5 : H5 Da = some (.lst av) := A5.keep Da _ hD4 nw
        have hal2 := ra.len
        refine ⟨av, hD5, by rw [← hal2]; exact Nat.lt_of_le_of_lt (Nat.le_trans hal (Nat.le_trans hle hlen)) (by rw [sizeLine_eq, lim_eq]; decide), by omega, F5, w5, av ++ [v], ad ++ [d5], rest2, (A14.trans A5).over nD nf5 nw, nf5, upd_same, ?_, by rw [List.length_append]; exact Nat.add_le_add_right hal 1, h13, by rw [List.append_assoc]; exact h6⟩
        have ra5 : Reps K F5 wa H5 (ad ++ [d5]) (av ++ [v]) := (A5.reps ra4).app (.one r5)
        exact ra5.mono' (fun _ z => z) fun c o f h => by rw [upd_ne fun z => nf5 (by rw [← z]; exact f)]; exact h
      | false =>
        refine iteF ?_
        exact ⟨by omega, F4, w3, av, ad, rest, A14, nf4, hD4, ra4, by omega, h10, h6⟩
    · have e : i = ds.length := by omega
      subst e
      rw [List.drop_length] at h5
      have h5' : some ([], w2) = some (rest, w9) := h5
      cases h5'
      rw [List.append_nil] at h6
      subst h6
      refine .inl ⟨okS, k _ F' H' (A.trans A') ?_⟩
      exact ⟨Da, rfl, OwnAt.mkL nF nw hD ra, A.dom Da nD⟩
  · cases h2
theorem e_lc {u : Bool} {scope : Scope} {own : List (Str × Nat)} (hc : X.calm = true) (hN : X.N.Nodup) (hi : SndC u X tg iter fi) (ok : BlkOk X.N X.env.scope scope own) (hiv : ∀ i ∈ is, i ∈ own.map (·.2))
    (hg : ∀ (s : Shared) (H : Hp) (C : Addr) (cl : List (Str × Addr)) (fp : List Addr), SndG u (X.blk s H scope (compEnvC scope cl C X.env) fp) tg is set) (ht : ∀ (s : Shared) (H : Hp) (C : Addr) (cl : List (Str × Addr)) (fp : List Addr), SndTs (X.blk s H scope (compEnvC scope cl C X.env) fp) ifs t)
    (he : ∀ (s : Shared) (H : Hp) (C : Addr) (cl : List (Str × Addr)) (fp : List Addr), Snd (X.blk s H scope (compEnvC scope cl C X.env) fp) elt fe) (hs : ∀ x, foldedSetIterable iter X.env x = pure x := by intro _; rfl) :
    Snd X (.ListComp elt [⟨tg, iter, ifs, 0⟩] scope pos) (eLC (own.map (·.2)) set fi t fe) :=
  pe_imp (pe_lc (g := rdG u (kwOf X) is set) (tt := rdT (kwOf X) t) (te := rd (kwOf X) (eFz fe)) hc hN hi ok hg ht (fun s H C cl fp => e_fz (he s H C cl fp)) hs) fun _ _ _ q => lc_of hiv q
theorem s_setLc {u : Bool} (i : Nat) {y : Str} {py spos : Pos} {scope : Scope} {own : List (Str × Nat)} (hc : X.calm = true) (hN : X.N.Nodup) (hy : X.N[i]? = some y) (hyl : X.env.scope.names.lookup y = some .local)
    (hsw : swapsWith (.ListComp elt [⟨tg, iter, ifs, 0⟩] scope pos) (some (.Name y py)) spos.line X.env = pure true) (hi : SndC u X tg iter fi) (ok : BlkOk X.N X.env.scope scope own) (hiv : ∀ i ∈ is, i ∈ own.map (·.2))
    (hg : ∀ (s : Shared) (H : Hp) (C : Addr) (cl : List (Str × Addr)) (fp : List Addr), SndG u (X.blk s H scope (compEnvC scope cl C X.env) fp) tg is set) (ht : ∀ (s : Shared) (H : Hp) (C : Addr) (cl : List (Str × Addr)) (fp : List Addr), SndTs (X.blk s H scope (compEnvC scope cl C X.env) fp) ifs t)
    (he : ∀ (s : Shared) (H : Hp) (C : Addr) (cl : List (Str × Addr)) (fp : List Addr), Snd (X.blk s H scope (compEnvC scope cl C X.env) fp) elt fe) (hs : ∀ x, foldedSetIterable iter X.env x = pure x := by intro _; rfl) :
    SndS X (.Assign [.Name y py] (.ListComp elt [⟨tg, iter, ifs, 0⟩] scope pos) spos) (sSet i (eLC (own.map (·.2)) set fi t fe)) :=
  ps_imp (ps_setLc (g := rdG u (kwOf X) is set) (tt := rdT (kwOf X) t) (te := rd (kwOf X) (eFz fe)) hc hN hy hyl hsw hi ok hg ht (fun s H C cl fp => e_fz (he s H C cl fp)) hs) fun _ _ _ q => lc_of hiv (set_of q)
end

/-! ### defs by their bodies -/
def startE (n : Nat) (ds : List D) : En := ds.map (fun d => some (d, false)) ++ List.replicate (n - ds.length) none
def retD (p : DS) : DS := (p.1, match p.2 with
  | .fz => .fz
  | _ => .ow)
def runFn (n p : Nat) (g : SB) : Fn := fun ds w => if ds.length = p then (g (startE n ds) w).bind fun o => match o with
  | .rt r w' => some (retD r, w')
  | .nx _ w' => some ((.non, .fz), w')
  | _ => none
  else none
theorem Reps.start {K : KW} {F : Addr → Prop} {wa : Option Addr} {H : Hp} : ∀ {ds : List D} {vs : List V}, Reps K F wa H ds vs → ∀ (m : Nat) (i : Nat) d fl, (ds.map (fun d => some (d, false)) ++ List.replicate m (none : Option (D × Bool)))[i]? = some (some (d, fl)) → fl = false ∧ ∃ v, (vs.map some ++ List.replicate m (none : Option V))[i]? = some (some v) ∧ Rep K F wa H d v
  | [], vs, h, m, i, d, fl, e => by
    rw [List.map_nil, List.nil_append, List.getElem?_replicate] at e
    split at e <;> cases e
  | d' :: ds, vs, h, m, 0, d, fl, e => by
    obtain ⟨v, r, h1, h2, h3⟩ := h
    subst h1
    cases e
    exact ⟨rfl, v, rfl, h2⟩
  | d' :: ds, vs, h, m, i + 1, d, fl, e => by
    obtain ⟨v, r, h1, h2, h3⟩ := h
    subst h1
    exact Reps.start h3 m i d fl e
theorem fn_d {P : Program} {ww : World} {K : PySem.W.Frag} {mg : Str → Option Value} {base : Heap} {x qual : Str} {st : Stmt} {f : Addr} {fd : FuncData} {N ps : List Str} {k : Nat} {g : SB} (Fu : Fun K x qual st f fd) (S : FnScope N ps (defScope st)) (hps : ps.length ≤ N.length)
    (hbody : ∀ (cdv : Value) (A : Around) (outer : List Env) (s : Shared) (H : Hp) (E : XK), Room k (A.deeper (envOfC qual (defScope st) s.heap.objs.size f cdv)) → SndSs (cxOf CX0 P ww K mg base N qual (defScope st) f cdv A outer s H E).nox (defBody st) g) :
    FnOk P ww K mg base CX0 (k + 1) f fd ps (spD (KW.mk K ww) (runFn N.length ps.length g)) := by
  have hlen : ∀ vs H Q E, spD (KW.mk K ww) (runFn N.length ps.length g) vs H Q E → vs.length = ps.length := fun vs H Q E h => by
    obtain ⟨F, wa, w, ds, wk, fd, r, d, st, w', hf, _⟩ := h
    rw [← r.len]
    unfold runFn at hf
    split at hf
    · assumption
    · cases hf
  refine Fu.ok S hlen (fun cdv A outer s H vs Q E hr h => ?_)
  have hl := hlen _ _ _ _ h
  obtain ⟨F, wa, w, ds, wk, fd, r, d, st, w', hf, k⟩ := h
  refine ⟨_, hbody cdv A outer s H E hr, ?_⟩
  unfold runFn at hf
  split at hf
  · rename_i hdl
    obtain ⟨out, h1, h2⟩ := Option.bind_eq_some_iff.mp hf
    have hst := r.start (N.length - ds.length)
    refine ⟨fun a => H a ≠ none, F, wa, w, startE N.length ds, ⟨?_, fun i d e => ?_, fun i d e => ?_, fun i j d e a _ e1 _ _ => ?_, wk, fd, fun a h => h⟩, out, h1, ?_⟩
    · unfold startE L2.start
      rw [List.length_append, List.length_append, List.length_map, List.length_map, List.length_replicate, List.length_replicate, r.len]
    · obtain ⟨_, v, e2, r2⟩ := hst i d false e
      refine ⟨v, ?_, r2⟩
      unfold L2.start
      rw [← r.len]
      exact e2
    · exact absurd (hst i d true e).1 (by decide)
    · exact absurd (hst i d true e1).1 (by decide)
    · have conv : ∀ {w2 F' H'}, AftS (KW.mk K ww) (fun a => H a ≠ none) wa F H w2 F' H' → Aft (KW.mk K ww) wa F H w2 F' H' := fun {w2 F' H'} A => ⟨A.sub, fun a h => (A.new a h).imp id fun z => Classical.not_not.mp z, fun a o h e => A.keep a o h (by rw [h]; simp) e, A.kf, A.dom, A.wk, A.fd⟩
      cases out with
      | nx e w2 =>
        cases h2
        exact fun σ' F' H' A S' => k .non F' H' (conv A) rfl
      | rt p w2 =>
        cases h2
        intro v F' H' A rr
        refine k v F' H' (conv A) ?_
        obtain ⟨d0, st0⟩ := p
        cases st0 with
        | fz => exact rr
        | ow => obtain ⟨a, e, o, z⟩ := rr; exact ⟨a, e, o, Classical.not_not.mp z⟩
        | bo => obtain ⟨a, e, o, z⟩ := rr; exact ⟨a, e, o, Classical.not_not.mp z⟩
      | bk e w2 => cases h2
      | ct e w2 => cases h2
  · cases hf
/-- no promise at all -/
theorem fn_0 {P : Program} {ww : World} {K : PySem.W.Frag} {mg : Str → Option Value} {base : Heap} {f : Addr} {fd : FuncData} {ps : List Str} {k : Nat} : FnOk P ww K mg base CX0 k f fd ps (spD (KW.mk K ww) fun _ _ => none) :=
  ⟨fun vs H Q E h => (by obtain ⟨_, _, _, _, _, _, _, _, _, _, hf, _⟩ := h; cases hf), fun A outer s H args us vs Q E _ _ _ _ h => (by obtain ⟨_, _, _, _, _, _, _, _, _, _, hf, _⟩ := h; cases hf)⟩
end Dl

set_option Elab.async false
set_option linter.all false
set_option maxRecDepth 100000
set_option maxHeartbeats 4000000
namespace Dl
open PySem PySem.Spec PyProof.Rows L2
/-! ### operations over data -/
abbrev fzO (d : D) : Option DS := some (d, .fz)
section
variable {K : KW} {F : Addr → Prop} {wa : Option Addr} {H : Hp} {w : Option Wd} {d : D} {v : V} {Q : VK}
theorem cur_int {i : Int} (h : Cur K F wa H (.int i) v) : v = .int i := h
theorem cur_bl {i : Bool} (h : Cur K F wa H (.bl i) v) : v = .bl i := h
theorem cur_str {i : Str} (h : Cur K F wa H (.str i) v) : v = .str i := h
theorem cur_non (h : Cur K F wa H .non v) : v = .non := h
theorem OpS.or1 {r r' : R2} {g : D → D → Option DS} (h : OpS K r g) : OpS K (fun x y H Q => r x y H Q ∨ r' x y H Q) g := fun wa w F H x y d st v1 v2 a b c e f Q q => .inl (h wa w F H x y d st v1 v2 a b c e f Q q)
theorem OpS.or2 {r r' : R2} {g : D → D → Option DS} (h : OpS K r' g) : OpS K (fun x y H Q => r x y H Q ∨ r' x y H Q) g := fun wa w F H x y d st v1 v2 a b c e f Q q => .inr (h wa w F H x y d st v1 v2 a b c e f Q q)
/-- the first that answers -/
def els2 (g h : D → D → Option DS) : D → D → Option DS := fun x y => match g x y with
  | some r => some r
  | none => h x y
theorem OpS.els {r r' : R2} {g g' : D → D → Option DS} (h : OpS K r g) (h' : OpS K r' g') : OpS K (fun x y H Q => r x y H Q ∨ r' x y H Q) (els2 g g') := fun wa w F H x y d st v1 v2 a b c e f Q q => by
  unfold els2 at f
  cases hg : g x y with
  | some r => rw [hg] at f; cases f; exact .inl (h wa w F H x y d st v1 v2 a b c e hg Q q)
  | none => rw [hg] at f; exact .inr (h' wa w F H x y d st v1 v2 a b c e f Q q)
/-- two ints -/
def dII (c : Int → Int → Bool) (f : Int → Int → D) : D → D → Option DS
  | .int i, .int j => if c i j = true then fzO (f i j) else none
  | _, _ => none
def dII0 (f : Int → Int → D) : D → D → Option DS
  | .int i, .int j => fzO (f i j)
  | _, _ => none
theorem sII0 {f : Int → Int → D} {g : Int → Int → V} (h : ∀ i j F wa H, Rep K F wa H (f i j) (g i j)) : OpS K (rI0 g) (dII0 f) := fun wa w F H x y d st v1 v2 wk fd c1 c2 e Q q => by
  cases x with
  | int i => cases y with
    | int j =>
      cases e
      exact ⟨i, j, cur_int c1, cur_int c2, q.fz wk fd (h i j _ _ _)⟩
    | _ => cases e
  | _ => cases e
theorem sII {C : Int → Int → Prop} {c : Int → Int → Bool} {f : Int → Int → D} {g : Int → Int → V} (hc : ∀ i j, c i j = true → C i j) (h : ∀ i j F wa H, Rep K F wa H (f i j) (g i j)) : OpS K (rI C g) (dII c f) := fun wa w F H x y d st v1 v2 wk fd c1 c2 e Q q => by
  cases x with
  | int i => cases y with
    | int j =>
      have e' : (if c i j = true then fzO (f i j) else none) = some (d, st) := e
      split at e'
      · rename_i hc'
        cases e'
        exact ⟨i, j, cur_int c1, cur_int c2, hc _ _ hc', q.fz wk fd (h i j _ _ _)⟩
      · cases e'
    | _ => cases e
  | _ => cases e
abbrev dAddI := dII0 fun i j => .int (i + j)
abbrev dSub := dII0 fun i j => .int (i - j)
abbrev dLt := dII0 fun i j => .bl (decide (i < j))
abbrev dLe := dII0 fun i j => .bl (decide (i ≤ j))
abbrev dGt := dII0 fun i j => .bl (decide (j < i))
abbrev dGe := dII0 fun i j => .bl (decide (j ≤ i))
abbrev dMul := dII (fun i j => decide (i.natAbs < 1000000000000) || decide (j.natAbs < 1000000000000)) fun i j => .int (i * j)
abbrev dMod := dII (fun _ j => decide (0 < j)) fun i j => .int (i % j)
abbrev dFdiv := dII (fun _ j => decide (0 < j) && decide (j < 1073741824)) fun i j => .int (i / j)
abbrev dPow := dII (fun i j => decide (0 ≤ j) && decide (j ≤ 1000) && decide (i.natAbs < 1000)) fun i j => .int (i ^ j.toNat)
abbrev dShl := dII (fun i j => decide (0 ≤ j) && decide (j ≤ 1000) && decide (i.natAbs < 1000)) fun i j => .int (i * 2 ^ j.toNat)
theorem sAddI : OpS K (rI0 fun i j => .int (i + j)) dAddI := sII0 fun _ _ _ _ _ => rfl
theorem sSub : OpS K (rI0 fun i j => .int (i - j)) dSub := sII0 fun _ _ _ _ _ => rfl
theorem sLt : OpS K (rI0 fun i j => .bl (decide (i < j))) dLt := sII0 fun _ _ _ _ _ => rfl
theorem sLe : OpS K (rI0 fun i j => .bl (decide (i ≤ j))) dLe := sII0 fun _ _ _ _ _ => rfl
theorem sGt : OpS K (rI0 fun i j => .bl (decide (j < i))) dGt := sII0 fun _ _ _ _ _ => rfl
theorem sGe : OpS K (rI0 fun i j => .bl (decide (j ≤ i))) dGe := sII0 fun _ _ _ _ _ => rfl
theorem sMul : OpS K (rI CMul fun i j => .int (i * j)) dMul := sII (fun i j h => by
  simp only [Bool.or_eq_true, decide_eq_true_eq] at h
  unfold CMul
  omega) fun _ _ _ _ _ => rfl
theorem sMod : OpS K (rI (fun _ j => 0 < j) fun i j => .int (i % j)) dMod := sII (fun i j h => of_decide_eq_true h) fun _ _ _ _ _ => rfl
theorem sFdiv : OpS K (rI CDiv fun i j => .int (i / j)) dFdiv := sII (fun i j h => by
  simp only [Bool.and_eq_true, decide_eq_true_eq] at h
  exact h) fun _ _ _ _ _ => rfl
theorem sPow : OpS K (rI CPow fun i j => .int (i ^ j.toNat)) dPow := sII (fun i j h => by
  simp only [Bool.and_eq_true, decide_eq_true_eq] at h
  unfold CPow
  omega) fun _ _ _ _ _ => rfl
theorem sShl : OpS K (rI CPow fun i j => .int (i * 2 ^ j.toNat)) dShl := sII (fun i j h => by
  simp only [Bool.and_eq_true, decide_eq_true_eq] at h
  unfold CPow
  omega) fun _ _ _ _ _ => rfl
/-- + of lists, of tuples, of texts -/
def dCatL : D → D → Option DS
  | .lst xs, .lst ys => if xs.length + ys.length ≤ lim then some (.lst (xs ++ ys), .ow) else none
  | _, _ => none
theorem line16 {n : Nat} (h : n ≤ lim) : n ≤ sizeLine := Nat.le_trans h (by rw [sizeLine_eq, lim_eq]; decide)
theorem sCatL : OpS K rCat dCatL := fun wa w F H x y d st v1 v2 wk fd c1 c2 e Q q => by
  cases x with
  | lst xs => cases y with
    | lst ys =>
      have e' : (if xs.length + ys.length ≤ lim then some (D.lst (xs ++ ys), O3.ow) else none) = some (d, st) := e
      split at e'
      · rename_i hz
        cases e'
        obtain ⟨a, us, e1, h1, r1⟩ := c1
        obtain ⟨b, ts, e2, h2, r2⟩ := c2
        exact ⟨a, b, us, ts, e1, e2, h1, h2, by rw [← r1.len, ← r2.len]; exact line16 hz, fun p hp => q.lst wk fd (r1.app r2) hp⟩
      · cases e'
    | _ => cases e
  | _ => cases e
def dCatT : D → D → Option DS
  | .tup xs, .tup ys => if xs.length + ys.length ≤ lim then some (.tup (xs ++ ys), .fz) else none
  | _, _ => none
/-- t + u -/
def rCatF (K : KW) : R2 := fun x y H Q => ∃ a b xs ys, x = .ref a ∧ y = .ref b ∧ SqT K H a xs ∧ SqT K H b ys ∧ xs.length + ys.length ≤ sizeLine ∧
  (xs = [] → Q (.ref b) H) ∧ (xs ≠ [] → ys = [] → Q (.ref a) H) ∧ (xs ≠ [] → ys ≠ [] → ∀ p u, H p = none → TupO u (xs ++ ys) → Q (.ref p) (upd H p u))
theorem op_catF {X : Cx} : OpR X (binaryOp .Add) (rCatF (kwOf X)) := by
  intro pins s σ H x y v u Q I rx ry h
  obtain ⟨a, b, xs, ys, rfl, rfl, ha, hb, hz, q0, q1, q2⟩ := h
  cases rx
  cases ry
  obtain ⟨its, r1, p1, _⟩ := I.tuple ha
  obtain ⟨its2, r2, p2, _⟩ := I.tuple hb
  by_cases hx : xs = []
  · subst hx
    cases r1
    exact cat_tup0 p1 p2 ⟨.ref b, H, I, rfl, q0 rfl⟩
  · have l1 := r1.length
    have l2 := r2.length
    refine HT.cat_tup p1 p2 (fun z => hx ((Vals.nil_iff r1).mp z)) (fun z => ⟨.ref a, H, I, rfl, q1 hx ((Vals.nil_iff r2).mp z)⟩) (fun z => ?_) (by rw [← l1, ← l2]; exact hz)
    exact ⟨.ref s.heap.objs.size, _, tup_laid (t' := s.toks) I (r1.append r2) (by rw [List.length_append]; exact hz), rfl, q2 hx (fun e => z ((Vals.nil_iff r2).mpr e)) _ _ (I.hok.fresh (Nat.le_refl _)) ⟨_, rfl, rfl, rfl⟩⟩
theorem sCatT : OpS K (rCatF K) dCatT := fun wa w F H x y d st v1 v2 wk fd c1 c2 e Q q => by
  cases x with
  | tup xs => cases y with
    | tup ys =>
      have e' : (if xs.length + ys.length ≤ lim then some (D.tup (xs ++ ys), O3.fz) else none) = some (d, st) := e
      split at e'
      · rename_i hz
        cases e'
        obtain ⟨a, u1, us, e1, f1, h1, t1, r1⟩ := c1
        obtain ⟨b, u2, ts, e2, f2, h2, t2, r2⟩ := c2
        refine ⟨a, b, us, ts, e1, e2, t1.sq h1, t2.sq h2, by rw [← r1.len, ← r2.len]; exact line16 hz, fun hx => ?_, fun hx hy => ?_, fun _ _ p u hp ht => q.tup wk fd (r1.app r2) hp ht⟩
        · subst hx
          have e3 : xs = [] := by
            have := r1.len
            cases xs with
            | nil => rfl
            | cons _ _ => cases this
          subst e3
          exact q.fz wk fd ⟨b, u2, ts, rfl, f2, h2, t2, r2⟩
        · subst hy
          have e3 : ys = [] := by
            have := r2.len
            cases ys with
            | nil => rfl
            | cons _ _ => cases this
          subst e3
          rw [List.append_nil] at q
          exact q.fz wk fd ⟨a, u1, us, rfl, f1, h1, t1, r1⟩
      · cases e'
    | _ => cases e
  | _ => cases e
def dCatS : D → D → Option DS
  | .str x, .str y => if x.length + y.length ≤ 100000 then some (.str (x ++ y), .fz) else none
  | _, _ => none
theorem sCatS : OpS K (fun x y H Q => ∃ i j, x = .str i ∧ y = .str j ∧ i.length + j.length ≤ sizeLine ∧ Q (.str (i ++ j)) H) dCatS := fun wa w F H x y d st v1 v2 wk fd c1 c2 e Q q => by
  cases x with
  | str i => cases y with
    | str j =>
      have e' : (if i.length + j.length ≤ 100000 then some (D.str (i ++ j), O3.fz) else none) = some (d, st) := e
      split at e'
      · rename_i hz
        cases e'
        exact ⟨i, j, cur_str c1, cur_str c2, Nat.le_trans hz (by decide), q.fz wk fd rfl⟩
      · cases e'
    | _ => cases e
  | _ => cases e

/-! ### equality -/
def eqFl : D → D → Option Bool
  | .int i, .int j => some (i == j)
  | .str x, .str y => some (x == y)
  | .bl a, .bl b => some (a == b)
  | .non, .non => some true
  | .non, .int _ => some false
  | .int _, .non => some false
  | .non, .bl _ => some false
  | .bl _, .non => some false
  | .non, .str _ => some false
  | .str _, .non => some false
  | .int _, .str _ => some false
  | .str _, .int _ => some false
  | .bl _, .str _ => some false
  | .str _, .bl _ => some false
  | _, _ => none
def dEqF (neg : Bool) : D → D → Option DS := fun x y => (eqFl x y).map fun b => (.bl (if neg then !b else b), .fz)
theorem eqFl_ok {x y : D} {b : Bool} {v u : V} (h : eqFl x y = some b) (c1 : Cur K F wa H x v) (c2 : Cur K F wa H y u) : scal v u = true ∧ decide (v = u) = b := by
  cases x <;> cases y <;> first
    | (cases h; done)
    | (cases c1; cases c2; cases h; refine ⟨rfl, ?_⟩; first | exact dec_int | exact dec_str | exact dec_bl | rfl)
theorem sEqF : OpS K rEq (dEqF false) := fun wa w F H x y d st v1 v2 wk fd c1 c2 e Q q => by
  obtain ⟨b, h1, h2⟩ := Option.map_eq_some_iff.mp e
  cases h2
  obtain ⟨g1, g2⟩ := eqFl_ok h1 c1 c2
  exact ⟨g1, q.fz wk fd (by rw [g2]; rfl)⟩
theorem sNeF : OpS K rNe (dEqF true) := fun wa w F H x y d st v1 v2 wk fd c1 c2 e Q q => by
  obtain ⟨b, h1, h2⟩ := Option.map_eq_some_iff.mp e
  cases h2
  obtain ⟨g1, g2⟩ := eqFl_ok h1 c1 c2
  exact ⟨g1, q.fz wk fd (by rw [g2]; rfl)⟩
mutual
def dPy : D → Option PyData
  | .non => some .none
  | .bl b => some (.bool b)
  | .int i => some (.int i)
  | .str x => some (.str x)
  | .tup ds => (dPys ds).map .tuple
  | .lst ds => (dPys ds).map .list
  | _ => none
def dPys : List D → Option (List PyData)
  | [] => some []
  | d :: ds => (dPy d).bind fun a => (dPys ds).map fun b => a :: b
end
mutual
theorem dPy_ok : ∀ (d : D) (v : V) (p : PyData), dPy d = some p → Rep K F wa H d v → Dp K H v p
  | .non, v, p, h, r => by cases h; cases (show v = .non from r); exact .non
  | .bl b, v, p, h, r => by cases h; cases (show v = .bl b from r); exact .bl b
  | .int i, v, p, h, r => by cases h; cases (show v = .int i from r); exact .int i
  | .str x, v, p, h, r => by cases h; cases (show v = .str x from r); exact .str x
  | .tup ds, v, p, h, r => by
    have h' : (dPys ds).map PyData.tuple = some p := h
    obtain ⟨ps, h1, h2⟩ := Option.map_eq_some_iff.mp h'
    obtain ⟨a, u, vs, e, _, hh, ht, rr⟩ := r
    subst e h2
    exact .tup (ht.sq hh) (dPys_ok ds vs ps h1 rr)
  | .lst ds, v, p, h, r => by
    have h' : (dPys ds).map PyData.list = some p := h
    obtain ⟨ps, h1, h2⟩ := Option.map_eq_some_iff.mp h'
    obtain ⟨a, vs, e, _, hh, rr⟩ := r
    subst e h2
    exact .lst (.inl (.inl hh)) (dPys_ok ds vs ps h1 rr)
  | .dk _ _, v, p, h, r => by cases h
  | .scr _, v, p, h, r => by cases h
  | .ty _, v, p, h, r => by cases h
  | .w, v, p, h, r => by cases h
theorem dPys_ok : ∀ (ds : List D) (vs : List V) (ps : List PyData), dPys ds = some ps → Reps K F wa H ds vs → DpAll K H vs ps
  | [], vs, ps, h, r => by
    cases h
    have e : vs = [] := r
    subst e
    exact .nil
  | d :: ds, vs, ps, h, r => by
    have h' : ((dPy d).bind fun a => (dPys ds).map fun b => a :: b) = some ps := h
    obtain ⟨a, h1, h2⟩ := Option.bind_eq_some_iff.mp h'
    obtain ⟨b, h3, h4⟩ := Option.map_eq_some_iff.mp h2
    obtain ⟨v, vr, e, r1, r2⟩ := r
    subst e h4
    exact .cons (dPy_ok d v a h1 r1) (dPys_ok ds vr b h3 r2)
end
theorem dPy_cur {d : D} {v : V} {p : PyData} (h : dPy d = some p) (r : Cur K F wa H d v) : Dp K H v p := by
  cases d with
  | tup ds =>
    have h' : (dPys ds).map PyData.tuple = some p := h
    obtain ⟨ps, h1, h2⟩ := Option.map_eq_some_iff.mp h'
    obtain ⟨a, u, vs, e, _, hh, ht, rr⟩ := r
    subst e h2
    exact .tup (ht.sq hh) (dPys_ok ds vs ps h1 rr)
  | lst ds =>
    have h' : (dPys ds).map PyData.list = some p := h
    obtain ⟨ps, h1, h2⟩ := Option.map_eq_some_iff.mp h'
    obtain ⟨a, vs, e, hh, rr⟩ := r
    subst e h2
    exact .lst (.inl (.inl hh)) (dPys_ok ds vs ps h1 rr)
  | non => exact dPy_ok (F := F) (wa := wa) _ v p h r
  | bl b => exact dPy_ok (F := F) (wa := wa) _ v p h r
  | int b => exact dPy_ok (F := F) (wa := wa) _ v p h r
  | str b => exact dPy_ok (F := F) (wa := wa) _ v p h r
  | _ => cases h
def dEqD (neg : Bool) : D → D → Option DS := fun x y => match dPy x, dPy y with
  | some a, some b => if (SeqAt.shaped a && SeqAt.shaped b) = true then some (.bl (if neg then !PyData.eqv a b else PyData.eqv a b), .fz) else none
  | _, _ => none
theorem dEqD_of {neg : Bool} {x y d : D} {st : O3} (h : dEqD neg x y = some (d, st)) : ∃ a b, dPy x = some a ∧ dPy y = some b ∧ SeqAt.shaped a = true ∧ SeqAt.shaped b = true ∧ d = .bl (if neg then !PyData.eqv a b else PyData.eqv a b) ∧ st = .fz := by
  unfold dEqD at h
  split at h
  · rename_i a b h1 h2
    split at h
    · rename_i hs
      cases h
      rw [Bool.and_eq_true] at hs
      exact ⟨a, b, h1, h2, hs.1, hs.2, rfl, rfl⟩
    · cases h
  · cases h
theorem sEqD : OpS K (rEqD K) (dEqD false) := fun wa w F H x y d st v1 v2 wk fd c1 c2 e Q q => by
  obtain ⟨a, b, h1, h2, s1, s2, e1, e2⟩ := dEqD_of e
  subst e1 e2
  exact ⟨a, b, dPy_cur h1 c1, dPy_cur h2 c2, s1, s2, q.fz wk fd rfl⟩
theorem sNeD : OpS K (rNeD K) (dEqD true) := fun wa w F H x y d st v1 v2 wk fd c1 c2 e Q q => by
  obtain ⟨a, b, h1, h2, s1, s2, e1, e2⟩ := dEqD_of e
  subst e1 e2
  exact ⟨a, b, dPy_cur h1 c1, dPy_cur h2 c2, s1, s2, q.fz wk fd rfl⟩
abbrev dEq : D → D → Option DS := els2 (dEqF false) (dEqD false)
abbrev dNe : D → D → Option DS := els2 (dEqF true) (dEqD true)
/-- in -/
def flatD : D → Bool
  | .non => true
  | .bl _ => true
  | .int _ => true
  | .str _ => true
  | _ => false
def eqF : D → D → Bool
  | .non, .non => true
  | .bl a, .bl b => a == b
  | .bl a, .int b => (if a then 1 else 0) == b
  | .int a, .bl b => a == (if b then 1 else 0)
  | .int a, .int b => a == b
  | .str a, .str b => a == b
  | _, _ => false
def dIn (neg : Bool) : D → D → Option DS := fun x y => (itemsOf y).bind fun ys => if flatD x = true ∧ ys.all flatD = true then fzO (.bl (if neg then !ys.any (fun z => eqF z x) else ys.any fun z => eqF z x)) else none
theorem flat_cur {d : D} {v : V} (h : flatD d = true) (r : Rep K F wa H d v) : flatV v = true := by
  cases d <;> first | (cases h; done) | (cases r; rfl)
theorem flat_reps : ∀ {ds : List D} {vs : List V}, Reps K F wa H ds vs → ds.all flatD = true → vs.all flatV = true
  | [], vs, r, _ => by
    have e : vs = [] := r
    subst e; rfl
  | d :: ds, vs, r, h => by
    obtain ⟨v, vr, e, r1, r2⟩ := r
    subst e
    rw [List.all_cons, Bool.and_eq_true] at h ⊢
    exact ⟨flat_cur h.1 r1, flat_reps r2 h.2⟩
theorem eqF_cur {x y : D} {v u : V} (hx : flatD x = true) (hy : flatD y = true) (r : Rep K F wa H x v) (r2 : Rep K F wa H y u) : eqV v u = eqF x y := by
  cases x <;> first | (cases hx; done) | (cases y <;> first | (cases hy; done) | (cases r; cases r2; rfl))
theorem any_reps {x : D} {v : V} (hx : flatD x = true) (r : Rep K F wa H x v) : ∀ {ds : List D} {vs : List V}, Reps K F wa H ds vs → ds.all flatD = true → inV v vs = ds.any fun z => eqF z x
  | [], vs, rr, _ => by
    have e : vs = [] := rr
    subst e; rfl
  | d :: ds, vs, rr, h => by
    obtain ⟨u, vr, e, r1, r2⟩ := rr
    subst e
    rw [List.all_cons, Bool.and_eq_true] at h
    show (eqV u v || inV v vr) = (eqF d x || ds.any fun z => eqF z x)
    rw [eqF_cur h.1 hx r1 r, any_reps hx r r2 h.2]
theorem flatD_rep {x : D} {v : V} (hx : flatD x = true) (r : Cur K F wa H x v) : Rep K F wa H x v := by
  cases x <;> first | (cases hx; done) | exact r
theorem sIn (neg : Bool) : OpS K (rIn K neg) (dIn neg) := fun wa w F H x y d st v1 v2 wk fd c1 c2 e Q q => by
  unfold dIn at e
  obtain ⟨ys, h1, h2⟩ := Option.bind_eq_some_iff.mp e
  split at h2
  · rename_i hf
    cases h2
    have rx := flatD_rep hf.1 c1
    cases y with
    | lst ds =>
      cases h1
      obtain ⟨a, vs, e1, hh, rr⟩ := c2
      exact ⟨a, vs, e1, .inl (.inl (.inl hh)), flat_cur hf.1 rx, flat_reps rr hf.2, q.fz wk fd (by rw [any_reps hf.1 rx rr hf.2]; rfl)⟩
    | tup ds =>
      cases h1
      obtain ⟨a, u, vs, e1, _, hh, ht, rr⟩ := c2
      exact ⟨a, vs, e1, .inr (ht.sq hh), flat_cur hf.1 rx, flat_reps rr hf.2, q.fz wk fd (by rw [any_reps hf.1 rx rr hf.2]; rfl)⟩
    | _ => cases h1
  · cases h2
/-- is, is not, of None, True, False -/
def isC : D → D → Option Bool
  | .non, .non => some true
  | .bl a, .bl b => some (a == b)
  | .non, .bl _ => some false
  | .bl _, .non => some false
  | .int _, .non => some false
  | .str _, .non => some false
  | .tup _, .non => some false
  | .lst _, .non => some false
  | .dk _ _, .non => some false
  | _, _ => none
def dIs (neg : Bool) : D → D → Option DS := fun x y => (isC x y).map fun b => (.bl (if neg then !b else b), .fz)
def rIsC : R2 := fun x y H Q => (∃ b, y = .bl b ∧ (x = .non ∨ ∃ a, x = .bl a) ∧ Q (.bl (decide (x = y))) H) ∨ (y = .non ∧ Q (.bl (decide (x = .non))) H)
def rNotC : R2 := fun x y H Q => (∃ b, y = .bl b ∧ (x = .non ∨ ∃ a, x = .bl a) ∧ Q (.bl (!decide (x = y))) H) ∨ (y = .non ∧ Q (.bl (!decide (x = .non))) H)
theorem op_isC {X : Cx} : OpR X (compareOp .Is) rIsC := by
  intro pins s σ H x y v u Q I rx ry h
  rcases h with ⟨b, e, hx, q⟩ | h
  · subst e
    cases (show u = Value.bool b from ry)
    rcases hx with e | ⟨a, e⟩
    · subst e
      cases (show v = Value.none from rx)
      exact wpAny_is_other rfl (fun z => nomatch z) ⟨.bl false, H, I, rfl, by simpa using q⟩
    · subst e
      exact op_isBl pins s σ H _ _ v _ Q I rx ry ⟨a, b, rfl, rfl, by simpa using q⟩
  · exact op_isN pins s σ H x y v u Q I rx ry h
theorem op_notC {X : Cx} : OpR X (compareOp .IsNot) rNotC := by
  intro pins s σ H x y v u Q I rx ry h
  rcases h with ⟨b, e, hx, q⟩ | h
  · subst e
    cases (show u = Value.bool b from ry)
    rcases hx with e | ⟨a, e⟩
    · subst e
      cases (show v = Value.none from rx)
      exact wpAny_isNot_other rfl (fun z => nomatch z) ⟨.bl true, H, I, rfl, by simpa using q⟩
    · subst e
      exact op_notBl pins s σ H _ _ v _ Q I rx ry ⟨a, b, rfl, rfl, by simpa using q⟩
  · exact op_notN pins s σ H x y v u Q I rx ry h
theorem isC_ok {x y : D} {b : Bool} {v u : V} (h : isC x y = some b) (c1 : Cur K F wa H x v) (c2 : Cur K F wa H y u) : ((∃ c, u = .bl c ∧ (v = .non ∨ ∃ a, v = .bl a)) ∨ u = .non) ∧ decide (v = u) = b := by
  cases y with
  | non =>
    cases (show u = .non from c2)
    refine ⟨.inr rfl, ?_⟩
    cases x with
    | non => cases c1; cases h; rfl
    | bl a => cases c1; cases h; rfl
    | int a => cases c1; cases h; rfl
    | str a => cases c1; cases h; rfl
    | tup ds => obtain ⟨a, u, vs, e, _⟩ := c1; subst e; cases h; rfl
    | lst ds => obtain ⟨a, vs, e, _⟩ := c1; subst e; cases h; rfl
    | dk ks ds => obtain ⟨a, vs, e, _⟩ := c1; subst e; cases h; rfl
    | _ => cases h
  | bl c =>
    cases (show u = .bl c from c2)
    cases x with
    | non => cases c1; cases h; exact ⟨.inl ⟨c, rfl, .inl rfl⟩, rfl⟩
    | bl a => cases c1; cases h; exact ⟨.inl ⟨c, rfl, .inr ⟨a, rfl⟩⟩, dec_bl⟩
    | _ => cases h
  | _ => cases x <;> cases h
theorem sIs : OpS K rIsC (dIs false) := fun wa w F H x y d st v1 v2 wk fd c1 c2 e Q q => by
  obtain ⟨b, h1, h2⟩ := Option.map_eq_some_iff.mp e
  cases h2
  obtain ⟨g1, g2⟩ := isC_ok h1 c1 c2
  have q' := q.fz wk fd (show Rep K F wa H (.bl b) (.bl (decide (v1 = v2))) by rw [g2]; rfl)
  rcases g1 with ⟨c, e1, e2⟩ | e1
  · exact .inl ⟨c, e1, e2, q'⟩
  · subst e1; exact .inr ⟨rfl, q'⟩
theorem sIsN : OpS K rNotC (dIs true) := fun wa w F H x y d st v1 v2 wk fd c1 c2 e Q q => by
  obtain ⟨b, h1, h2⟩ := Option.map_eq_some_iff.mp e
  cases h2
  obtain ⟨g1, g2⟩ := isC_ok h1 c1 c2
  have q' := q.fz wk fd (show Rep K F wa H (.bl (!b)) (.bl (!decide (v1 = v2))) by rw [g2]; rfl)
  rcases g1 with ⟨c, e1, e2⟩ | e1
  · exact .inl ⟨c, e1, e2, q'⟩
  · subst e1; exact .inr ⟨rfl, q'⟩
/-! ### subscripts -/
def dIx : D → D → Option DS
  | .tup ds, .int i => (atI ds i).map fun d => (d, .fz)
  | .lst ds, .int i => (atI ds i).map fun d => (d, .fz)
  | .scr ns, .int i => (atI ns i).map fun n => (.int n, .fz)
  | .str z, .int i => if z.length ≤ lim then (atI z.cps.toList i).map fun c => (.str ⟨#[c]⟩, .fz) else none
  | _, _ => none
theorem atI_reps {ds : List D} {vs : List V} {i : Int} {d : D} (r : Reps K F wa H ds vs) (h : atI ds i = some d) : ∃ v, atI vs i = some v ∧ Rep K F wa H d v := by
  unfold atI at h ⊢
  rw [← r.len]
  obtain ⟨j, h1, h2⟩ := Option.bind_eq_some_iff.mp h
  rw [h1]
  exact r.at h2
theorem sIx : OpS K (rIx K) dIx := fun wa w F H x y d st v1 v2 wk fd c1 c2 e Q q => by
  cases y with
  | int i =>
    cases (show v2 = .int i from c2)
    cases x with
    | tup ds =>
      obtain ⟨d', h1, h2⟩ := Option.map_eq_some_iff.mp e
      cases h2
      obtain ⟨a, u, vs, e1, _, hh, ht, rr⟩ := c1
      obtain ⟨v, h3, h4⟩ := atI_reps rr h1
      exact .inr (.inl ⟨a, vs, i, v, e1, rfl, ht.sq hh, h3, q.fz wk fd h4⟩)
    | lst ds =>
      obtain ⟨d', h1, h2⟩ := Option.map_eq_some_iff.mp e
      cases h2
      obtain ⟨a, vs, e1, hh, rr⟩ := c1
      obtain ⟨v, h3, h4⟩ := atI_reps rr h1
      exact .inl ⟨a, vs, i, v, e1, rfl, .inl (.inl hh), h3, q.fz wk fd h4⟩
    | scr ns =>
      obtain ⟨n, h1, h2⟩ := Option.map_eq_some_iff.mp e
      cases h2
      obtain ⟨a, e1, hh⟩ := c1
      refine .inl ⟨a, _, i, .int n, e1, rfl, hh, ?_, q.fz wk fd rfl⟩
      unfold atI at h1 ⊢
      obtain ⟨j, h3, h4⟩ := Option.bind_eq_some_iff.mp h1
      rw [List.length_map, h3]
      show (ns.map V.int)[j]? = some (.int n)
      rw [List.getElem?_map, h4]; rfl
    | str z =>
      have e' : (if z.length ≤ lim then (atI z.cps.toList i).map fun c => (D.str ⟨#[c]⟩, O3.fz) else none) = some (d, st) := e
      split at e'
      · rename_i hz
        obtain ⟨c, h1, h2⟩ := Option.map_eq_some_iff.mp e'
        cases h2
        exact .inr (.inr ⟨z, i, c, c1, rfl, line16 hz, h1, q.fz wk fd rfl⟩)
      · cases e'
    | _ => cases e
  | _ => cases x <;> cases e
/-! ### slices -/
def cutD (xs : List D) (lo hi : Option Int) : List D := (xs.drop (HT.sIx xs.length 0 lo)).take (HT.sIx xs.length xs.length hi - HT.sIx xs.length 0 lo)
def dSl : D → Option Int → Option Int → Option DS := fun x lo hi => match x with
  | .tup ds => some (.tup (cutD ds lo hi), .fz)
  | .lst ds => some (.lst (cutD ds lo hi), .ow)
  | _ => none
theorem cut_reps {ds : List D} {vs : List V} (r : Reps K F wa H ds vs) (lo hi : Option Int) : Reps K F wa H (cutD ds lo hi) (cutV vs lo hi) := by
  unfold cutD cutV
  rw [← r.len]
  exact (r.drop _).take _
/-- t[lo:hi]: the whole of it is t itself -/
def rSlF (K : KW) : V → Option Int → Option Int → Hp → VK → Prop := fun x lo hi H Q => ∃ a xs, x = .ref a ∧ SqT K H a xs ∧
  (HT.sIx xs.length 0 lo = 0 ∧ HT.sIx xs.length xs.length hi = xs.length → Q (.ref a) H) ∧ (¬ (HT.sIx xs.length 0 lo = 0 ∧ HT.sIx xs.length xs.length hi = xs.length) → ∀ p u, H p = none → TupO u (cutV xs lo hi) → Q (.ref p) (upd H p u))
theorem sl_tupF {X : Cx} : SlR X (rSlF (kwOf X)) := by
  intro pins s σ H x v vl vu lo hi sl Q I rx hs pl pu h
  obtain ⟨a, xs, rfl, hx, q1, q2⟩ := h
  cases rx
  obtain ⟨its, r, ht, hz⟩ := I.tuple hx
  have hlen : its.toArray.size = xs.length := by rw [List.size_toArray]; exact r.length.symm
  refine ⟨"tuple", _, PyProof.Rows.slot_tuple_getitem.lookup, ht.typeIs, ?_⟩
  by_cases hw : HT.sIx xs.length 0 lo = 0 ∧ HT.sIx xs.length xs.length hi = xs.length
  · exact getItem_tuple_whole ht hs pl pu (by rw [hlen]; exact hw) ⟨.ref a, H, I, rfl, q1 hw⟩
  · refine HT.getItem_tuple_cut ht hs pl pu (by rw [hlen]; exact hw) ?_ (by rw [hlen]; exact hz)
    rw [hlen]
    exact ⟨.ref s.heap.objs.size, _, tup_laid (t' := s.toks) I ((r.drop (HT.sIx xs.length 0 lo)).take (HT.sIx xs.length xs.length hi - HT.sIx xs.length 0 lo)) (Nat.le_trans (cutV_length xs lo hi) hz), rfl, q2 hw _ _ (I.hok.fresh (Nat.le_refl _)) ⟨_, rfl, rfl, rfl⟩⟩
def rSlAny (K : KW) : V → Option Int → Option Int → Hp → VK → Prop := fun x lo hi H Q => rSlL K x lo hi H Q ∨ rSlF K x lo hi H Q
theorem sl_any {X : Cx} : SlR X (rSlAny (kwOf X)) := sl_list.or sl_tupF
theorem sSl : SlS K (rSlAny K) dSl := fun wa w F H x lo hi d st v1 wk fd c1 e Q q => by
  cases x with
  | lst ds =>
    cases e
    obtain ⟨a, vs, e1, hh, rr⟩ := c1
    exact .inl ⟨a, vs, e1, .inl (.inl hh), fun p hp => q.lst wk fd (cut_reps rr lo hi) hp⟩
  | tup ds =>
    cases e
    obtain ⟨a, u, vs, e1, hF, hh, ht, rr⟩ := c1
    refine .inr ⟨a, vs, e1, ht.sq hh, fun hw => ?_, fun hw p u hp ht => q.tup wk fd (cut_reps rr lo hi) hp ht⟩
    have e2 : cutD ds lo hi = ds := by
      unfold cutD
      rw [rr.len, hw.1, hw.2, List.drop_zero, Nat.sub_zero, ← rr.len, List.take_length]
    rw [e2] at q
    exact q.fz wk fd ⟨a, u, vs, rfl, hF, hh, ht, rr⟩
  | _ => cases e
end
end Dl

set_option Elab.async false
set_option linter.all false
set_option maxRecDepth 100000
set_option maxHeartbeats 4000000
namespace Dl
open PySem PySem.Spec PyProof.Rows L2
section
variable {K : KW} {F : Addr → Prop} {wa : Option Addr} {H : Hp} {w : Option Wd} {d : D} {v : V} {Q : VK}
/-! ### built-in calls -/
def dLen : List D → Option DS
  | [.tup ds] => fzO (.int (ds.length : Nat))
  | [.lst ds] => fzO (.int (ds.length : Nat))
  | [.scr ns] => fzO (.int (ns.length : Nat))
  | [.str x] => if x.length ≤ 100000 then fzO (.int (x.length : Nat)) else none
  | _ => none
abbrev rLen (K : KW) : List V → Hp → VK → Prop := fun xs H Q => ∃ x n, xs = [x] ∧ LenV K x H n ∧ Q (.int n) H
theorem sLen : CallS K (rLen K) dLen := fun wa w F H ds d st vs wk fd c e Q q => by
  unfold dLen at e
  split at e
  · rename_i ds
    cases e
    obtain ⟨v, rfl, a, u, us, e1, _, hh, ht, rr⟩ := curs1 c
    exact ⟨v, _, rfl, (by subst e1; exact .inr ⟨us, ht.sq hh, rr.len⟩), q.fz wk fd rfl⟩
  · rename_i ds
    cases e
    obtain ⟨v, rfl, a, us, e1, hh, rr⟩ := curs1 c
    exact ⟨v, _, rfl, (by subst e1; exact .inl ⟨us, .inl (.inl hh), rr.len⟩), q.fz wk fd rfl⟩
  · rename_i ns
    cases e
    obtain ⟨v, rfl, a, e1, hh⟩ := curs1 c
    exact ⟨v, _, rfl, (by subst e1; exact .inl ⟨_, hh, by simp⟩), q.fz wk fd rfl⟩
  · split at e
    · cases e
      obtain ⟨v, rfl, e1⟩ := curs1 c
      cases e1
      exact ⟨_, _, rfl, ⟨Nat.le_trans (by assumption) (by decide), rfl⟩, q.fz wk fd rfl⟩
    · cases e
  · cases e
def dAbs : List D → Option DS
  | [.int i] => fzO (.int (if i < 0 then -i else i))
  | _ => none
theorem sAbs : CallS K (fun xs H Q => ∃ i, xs = [.int i] ∧ Q (.int (if i < 0 then -i else i)) H) dAbs := fun wa w F H ds d st vs wk fd c e Q q => by
  unfold dAbs at e
  split at e
  · cases e
    obtain ⟨v, rfl, e1⟩ := curs1 c
    cases e1
    exact ⟨_, rfl, q.fz wk fd rfl⟩
  · cases e
def dInt : List D → Option DS
  | [.int i] => fzO (.int i)
  | [.bl k] => fzO (.int (if k then 1 else 0))
  | _ => none
theorem sInt : CallS K (fun xs H Q => (∃ i, xs = [.int i] ∧ Q (.int i) H) ∨ ∃ k, xs = [.bl k] ∧ Q (.int (if k then 1 else 0)) H) dInt := fun wa w F H ds d st vs wk fd c e Q q => by
  unfold dInt at e
  split at e
  · cases e
    obtain ⟨v, rfl, e1⟩ := curs1 c
    cases e1
    exact .inl ⟨_, rfl, q.fz wk fd rfl⟩
  · cases e
    obtain ⟨v, rfl, e1⟩ := curs1 c
    cases e1
    exact .inr ⟨_, rfl, q.fz wk fd rfl⟩
  · cases e
def dMax2 : List D → Option DS
  | [.int i, .int j] => fzO (.int (if j > i then j else i))
  | _ => none
def dMin2 : List D → Option DS
  | [.int i, .int j] => fzO (.int (if j < i then j else i))
  | _ => none
theorem sMax2 : CallS K (fun xs H Q => ∃ i j, xs = [.int i, .int j] ∧ Q (.int (if j > i then j else i)) H) dMax2 := fun wa w F H ds d st vs wk fd c e Q q => by
  unfold dMax2 at e
  split at e
  · cases e
    obtain ⟨v, u, rfl, e1, e2⟩ := curs2 c
    cases e1; cases e2
    exact ⟨_, _, rfl, q.fz wk fd rfl⟩
  · cases e
theorem sMin2 : CallS K (fun xs H Q => ∃ i j, xs = [.int i, .int j] ∧ Q (.int (if j < i then j else i)) H) dMin2 := fun wa w F H ds d st vs wk fd c e Q q => by
  unfold dMin2 at e
  split at e
  · cases e
    obtain ⟨v, u, rfl, e1, e2⟩ := curs2 c
    cases e1; cases e2
    exact ⟨_, _, rfl, q.fz wk fd rfl⟩
  · cases e
def dTuple : List D → Option DS
  | [.lst ds] => fzO (.tup ds)
  | [.tup ds] => fzO (.tup ds)
  | _ => none
def rTupF (K : KW) : List V → Hp → VK → Prop := fun xs H Q => ∃ p ys, xs = [.ref p] ∧ ((SqL K H p ys ∧ ∀ l u, H l = none → TupO u ys → Q (.ref l) (upd H l u)) ∨ (SqT K H p ys ∧ Q (.ref p) H))
theorem call_tupF {X : Cx} : CallR X (.type "tuple") (rTupF (kwOf X)) := by
  intro pins s σ H xs us Q I r h
  obtain ⟨p, ys, rfl, h⟩ := h
  obtain ⟨u, rfl, rx⟩ := vals1 r
  cases rx
  rcases h with ⟨hq, q⟩ | ⟨hq, q⟩
  · obtain ⟨its, r', pl, hz⟩ := I.list hq
    have hlen := r'.length
    refine call_tuple_list pl.isList (fun h' kp => ?_) (by simp only [List.size_toArray] <;> omega)
    have I1 : Inv X pins σ H { s with heap := h' } := I.kept (t' := s.toks) kp
    exact ⟨.ref h'.objs.size, _, tup_laid (t' := s.toks) I1 r' hz, rfl, q _ _ (I1.hok.fresh (Nat.le_refl _)) ⟨_, rfl, rfl, rfl⟩⟩
  · obtain ⟨its, r', pl, hz⟩ := I.tuple hq
    exact call_tuple_same pl ⟨.ref p, H, I, rfl, q⟩
theorem sTuple : CallS K (rTupF K) dTuple := fun wa w F H ds d st vs wk fd c e Q q => by
  unfold dTuple at e
  split at e
  · cases e
    obtain ⟨v, rfl, a, us, e1, hh, rr⟩ := curs1 c
    subst e1
    exact ⟨a, us, rfl, .inl ⟨.inl (.inl hh), fun l u hl ht => q.tup wk fd rr hl ht⟩⟩
  · cases e
    obtain ⟨v, rfl, a, u, us, e1, hF, hh, ht, rr⟩ := curs1 c
    subst e1
    exact ⟨a, us, rfl, .inr ⟨ht.sq hh, q.fz wk fd ⟨a, u, us, rfl, hF, hh, ht, rr⟩⟩⟩
  · cases e
def dList : List D → Option DS
  | [.lst ds] => some (.lst ds, .ow)
  | [.tup ds] => some (.lst ds, .ow)
  | _ => none
abbrev rList (K : KW) : List V → Hp → VK → Prop := fun xs H Q => ∃ p ys, xs = [.ref p] ∧ (SqL K H p ys ∨ SqT K H p ys) ∧ ∀ l, H l = none → Q (.ref l) (upd H l (.lst ys))
theorem sList : CallS K (rList K) dList := fun wa w F H ds d st vs wk fd c e Q q => by
  unfold dList at e
  split at e
  · cases e
    obtain ⟨v, rfl, a, us, e1, hh, rr⟩ := curs1 c
    subst e1
    exact ⟨a, us, rfl, .inl (.inl (.inl hh)), fun l hl => q.lst wk fd rr hl⟩
  · cases e
    obtain ⟨v, rfl, a, u, us, e1, hF, hh, ht, rr⟩ := curs1 c
    subst e1
    exact ⟨a, us, rfl, .inr (ht.sq hh), fun l hl => q.lst wk fd rr hl⟩
  · cases e
/-! ### isinstance -/
def tyN : D → Option String
  | .non => some "NoneType"
  | .bl _ => some "bool"
  | .int _ => some "int"
  | .str _ => some "str"
  | .tup _ => some "tuple"
  | .lst _ => some "list"
  | .dk _ _ => some "dict"
  | _ => none
def isiT (a b : String) : Option Bool :=
  if (["int", "str", "tuple", "list", "bool", "dict"] : List String).contains b && (["NoneType", "bool", "int", "str", "tuple", "list", "dict"] : List String).contains a then some (a == b || (a == "bool" && b == "int")) else none
theorem isiT_ok : ∀ a ∈ (["NoneType", "bool", "int", "str", "tuple", "list", "dict"] : List String), ∀ b ∈ (["int", "str", "tuple", "list", "bool", "dict"] : List String), kitB a b = some (a == b || (a == "bool" && b == "int")) := by decide +kernel
theorem isiT_kit {K : KW} {a b : String} {r : Bool} (h : isiT a b = some r) : PySem.W.kitOne K (.type a) (.type b) = some r := by
  unfold isiT at h
  split at h
  · rename_i hc
    cases h
    rw [Bool.and_eq_true, List.contains_iff_mem, List.contains_iff_mem] at hc
    exact kit_ty (isiT_ok a hc.2 b hc.1)
  · cases h
def dIsi : List D → Option DS
  | [x, .ty T] => (tyN x).bind fun a => (isiT a T).map fun b => (.bl b, .fz)
  | _ => none
theorem tyN_ok {x : D} {a : String} (h : tyN x = some a) (c : Cur K F wa H x v) : TyX K H v (.type a) := by
  cases x with
  | non => cases h; cases c; exact .base .non
  | bl b => cases h; cases c; exact .base (.bl b)
  | int b => cases h; cases c; exact .base (.int b)
  | str b => cases h; cases c; exact .base (.str b)
  | tup ds =>
    cases h
    obtain ⟨a, u, vs, e, _, hh, ⟨o, _, _, e2⟩, _⟩ := c
    subst e e2
    exact .fTuple hh
  | lst ds =>
    cases h
    obtain ⟨a, vs, e, hh, _⟩ := c
    subst e
    exact .base (.lst hh)
  | dk ks ds =>
    cases h
    obtain ⟨a, vs, e, hh, _⟩ := c
    subst e
    exact .base (.dK hh)
  | _ => cases h
theorem sIsi : CallS K (rIsi K) dIsi := fun wa w F H ds d st vs wk fd c e Q q => by
  unfold dIsi at e
  split at e
  · obtain ⟨a, h1, h2⟩ := Option.bind_eq_some_iff.mp e
    obtain ⟨b, h3, h4⟩ := Option.map_eq_some_iff.mp h2
    cases h4
    obtain ⟨v, u, rfl, e1, e2⟩ := curs2 c
    cases e2
    exact ⟨v, _, _, _, b, rfl, .ty _, tyN_ok h1 e1, isiT_kit h3, q.fz wk fd rfl⟩
  · cases e
/-! ### dicts -/
def dFind : List Key → List D → Key → Option D
  | k :: ks, d :: ds, j => if k = j then some d else dFind ks ds j
  | _, _, _ => none
def dUpd : List Key → List D → Key → D → List D
  | k :: ks, d :: ds, j, x => (if k = j then x else d) :: dUpd ks ds j x
  | _, ds, _, _ => ds
/-- a key stored -/
def hasK (ks : List Key) (k : Key) : Bool := ks.any fun j => decide (j = k)
theorem hasK_mem {ks : List Key} {k : Key} : hasK ks k = true ↔ k ∈ ks := by
  unfold hasK
  rw [List.any_eq_true]
  exact ⟨fun ⟨x, h, e⟩ => of_decide_eq_true e ▸ h, fun h => ⟨k, h, decide_eq_true rfl⟩⟩
def dPut (ks : List Key) (ds : List D) (k : Key) (x : D) : List Key × List D := if hasK ks k = true then (ks, dUpd ks ds k x) else (ks ++ [k], ds ++ [x])
def keyD : D → Option Key
  | .int i => some (.inl i)
  | .str x => some (.inr x)
  | _ => none
theorem keyD_ok {d : D} {k : Key} (h : keyD d = some k) (c : Cur K F wa H d v) : v = kV k := by
  cases d with
  | int i => cases h; exact c
  | str i => cases h; exact c
  | _ => cases h
theorem dFind_ok {k : Key} : ∀ {ks : List Key} {ds : List D} {vs : List V}, Reps K F wa H ds vs → (∀ x, dFind ks ds k = some x → ∃ u, valV (ks.zip vs) k = some u ∧ Rep K F wa H x u) ∧ (ks.length = vs.length → dFind ks ds k = none → valV (ks.zip vs) k = none)
  | [], ds, vs, r => ⟨fun x h => (by cases h), fun _ _ => rfl⟩
  | j :: ks, [], vs, r => by
    have e : vs = [] := r
    subst e
    exact ⟨fun x h => (by cases h), fun h => (by cases h)⟩
  | j :: ks, d :: ds, vs, r => by
    obtain ⟨u, vr, e, r1, r2⟩ := r
    subst e
    obtain ⟨g1, g2⟩ := dFind_ok (k := k) (ks := ks) r2
    have hv : valV ((j :: ks).zip (u :: vr)) k = if j = k then some u else valV (ks.zip vr) k := by
      unfold valV
      rw [List.zip_cons_cons, List.find?_cons]
      by_cases e : j = k
      · simp [e]
      · simp [e]
    rw [hv]
    show (∀ x, (if j = k then some d else dFind ks ds k) = some x → _) ∧ (_ → (if j = k then some d else dFind ks ds k) = none → _)
    by_cases e : j = k
    · rw [if_pos e, if_pos e]
      exact ⟨fun x h => (by cases h; exact ⟨u, rfl, r1⟩), fun _ h => (by cases h)⟩
    · rw [if_neg e, if_neg e]
      exact ⟨g1, fun h => g2 (Nat.succ.inj h)⟩
theorem dUpd_ok {k : Key} {x : D} {u : V} (rx : Rep K F wa H x u) : ∀ {ks : List Key} {ds : List D} {vs : List V}, ks.length = vs.length → Reps K F wa H ds vs → ∃ vs', vs'.length = vs.length ∧ Reps K F wa H (dUpd ks ds k x) vs' ∧ (ks.zip vs).map (fun kv => if kv.1 = k then (kv.1, u) else kv) = ks.zip vs'
  | [], ds, vs, hl, r => by
    cases vs with
    | nil => exact ⟨[], rfl, by cases ds <;> exact r, rfl⟩
    | cons _ _ => cases hl
  | j :: ks, [], vs, hl, r => by
    have e : vs = [] := r
    subst e
    cases hl
  | j :: ks, d :: ds, vs, hl, r => by
    obtain ⟨y, vr, e, r1, r2⟩ := r
    subst e
    obtain ⟨vs', l, rr, e⟩ := dUpd_ok rx (ks := ks) (Nat.succ.inj hl) r2
    refine ⟨(if j = k then u else y) :: vs', by rw [List.length_cons, l, List.length_cons], ?_, ?_⟩
    · refine ⟨_, vs', rfl, ?_, rr⟩
      by_cases ej : j = k
      · rw [if_pos ej, if_pos ej]; exact rx
      · rw [if_neg ej, if_neg ej]; exact r1
    · rw [List.zip_cons_cons, List.map_cons, List.zip_cons_cons, e]
      by_cases ej : j = k
      · rw [if_pos ej, if_pos ej]
      · rw [if_neg ej, if_neg ej]
theorem zip_any {k : Key} : ∀ {ks : List Key} {vs : List V}, ks.length = vs.length → ((ks.zip vs).any fun kv => decide (kv.1 = k)) = hasK ks k
  | [], _, _ => rfl
  | j :: ks, [], h => by cases h
  | j :: ks, v :: vs, h => by
    rw [List.zip_cons_cons, List.any_cons, zip_any (Nat.succ.inj h)]
    rfl
theorem dPut_ok {k : Key} {x : D} {u : V} {ks : List Key} {ds : List D} {vs : List V} (rx : Rep K F wa H x u) (hl : ks.length = vs.length) (r : Reps K F wa H ds vs) :
    ∃ vs', (dPut ks ds k x).1.length = vs'.length ∧ Reps K F wa H (dPut ks ds k x).2 vs' ∧ putK (ks.zip vs) k u = (dPut ks ds k x).1.zip vs' := by
  unfold dPut putK
  rw [zip_any hl]
  by_cases hk : hasK ks k = true
  · rw [if_pos hk, if_pos hk]
    obtain ⟨vs', l, rr, e⟩ := dUpd_ok rx hl r
    exact ⟨vs', hl.trans l.symm, rr, e⟩
  · rw [if_neg hk, if_neg hk]
    refine ⟨vs ++ [u], by simp [hl], r.app (.one rx), ?_⟩
    rw [List.zip_append hl]; rfl
/-- dict of pairs -/
def dMerge : List Key → List D → List D → Option (List Key × List D)
  | ks, ds, [] => some (ks, ds)
  | ks, ds, .tup [k, x] :: r => (keyD k).bind fun k => dMerge (dPut ks ds k x).1 (dPut ks ds k x).2 r
  | _, _, _ => none
def dDict : List D → Option DS
  | [.tup ps] => if ps.length ≤ lim then (dMerge [] [] ps).map fun r => (.dk r.1 r.2, .ow) else none
  | [.lst ps] => if ps.length ≤ lim then (dMerge [] [] ps).map fun r => (.dk r.1 r.2, .ow) else none
  | _ => none
end
end Dl

set_option Elab.async false
set_option linter.all false
set_option maxRecDepth 100000
set_option maxHeartbeats 4000000
namespace Dl
open PySem PySem.Spec PyProof.Rows L2
/-! ### dict(pairs) -/
section
variable {K : KW} {F : Addr → Prop} {wa : Option Addr} {H : Hp} {w : Option Wd} {d : D} {v : V} {Q : VK}
theorem merge_ok : ∀ {items : List D} {vs : List V} {ks ks' : List Key} {ds ds' : List D} {us : List V}, Reps K F wa H items vs → ks.length = us.length → Reps K F wa H ds us → dMerge ks ds items = some (ks', ds') →
    ∃ (ps : List Addr) (kvs : List (Key × V)) (us' : List V), vs = ps.map V.ref ∧ Paired (fun p kv => SqT K H p [kV kv.1, kv.2]) ps kvs ∧ mergeK (ks.zip us) kvs = ks'.zip us' ∧ ks'.length = us'.length ∧ Reps K F wa H ds' us'
  | [], vs, ks, ks', ds, ds', us, r, hl, rr, h => by
    have e : vs = [] := r
    subst e
    cases h
    exact ⟨[], [], us, rfl, .nil, rfl, hl, rr⟩
  | it :: items, vs, ks, ks', ds, ds', us, r, hl, rr, h => by
    obtain ⟨v, vr, e, r1, r2⟩ := r
    subst e
    unfold dMerge at h
    split at h
    · rename_i e; cases e
    · rename_i k x q e
      cases e
      obtain ⟨ke, hk, h2⟩ := Option.bind_eq_some_iff.mp h
      obtain ⟨a, u, vs2, e1, hF, hh, ht, v1, vr1, e2, rk, v2, vr2, e3, rx, e4⟩ := r1
      have e4' : vr2 = [] := e4
      subst e4' e3 e2 e1
      obtain ⟨us1, l1, rr1, m1⟩ := dPut_ok (k := ke) rx hl rr
      obtain ⟨ps, kvs, us', g1, g2, g3, g4, g5⟩ := merge_ok r2 l1 rr1 h2
      refine ⟨a :: ps, (ke, v2) :: kvs, us', by rw [g1]; rfl, .cons ?_ g2, ?_, g4, g5⟩
      · have := keyD_ok hk (Rep.cur rk)
        subst this
        exact ht.sq hh
      · refine Eq.trans ?_ g3
        rw [← m1]; rfl
    · cases h
end
section
variable {X : Cx}
theorem pairs_of2 {pins : List (Addr × Obj)} {σ : L2.St} {H : Hp} {s : Shared} (I : Inv X pins σ H s) : ∀ {ps : List Addr} {kvs : List (Key × V)}, Paired (fun p kv => SqT (kwOf X) H p [kV kv.1, kv.2]) ps kvs →
    ∃ (prs : List (Key × Value)) (zs : List (Value × Value)), KV kvs prs ∧ prs.length = ps.length ∧ zs.length = ps.length ∧ ∀ (j : Nat) (z : Value × Value), zs[j]? = some z → ∃ (b : Addr) (k : Key), ps[j]? = some b ∧ prs[j]? = some (k, z.2) ∧ IsTup s.heap b #[z.1, z.2] ∧ keyIs k z.1 = true
  | _, _, .nil => ⟨[], [], .nil, rfl, rfl, fun j q e => by simp at e⟩
  | _, _, .cons (a := p) (b := kv) h t => by
    obtain ⟨prs, zs, r, hl, hl2, hp⟩ := pairs_of2 I t
    obtain ⟨its, rv, ht, _⟩ := I.tuple h
    obtain ⟨u, y, ei, ru, ry⟩ := vals2 rv
    subst ei
    refine ⟨(kv.1, y) :: prs, (u, y) :: zs, .cons ⟨rfl, ry⟩ r, by rw [List.length_cons, List.length_cons, hl], by rw [List.length_cons, List.length_cons, hl2], fun j q e => ?_⟩
    cases j with
    | zero =>
      have e' : (u, y) = q := Option.some.inj e
      subst e'
      exact ⟨p, kv.1, rfl, rfl, ht, kV_is (P := X.prog) (w := X.w) ru⟩
    | succ j =>
      obtain ⟨b, k, e1, e2, e3⟩ := hp j q (by simpa using e)
      exact ⟨b, k, by simpa using e1, by simpa using e2, e3⟩
/-- dict(a tuple of pairs) -/
theorem call_dictT (hcalm : X.calm = true) : CallR X (.type "dict") (fun xs H Q => ∃ (a : Addr) (u : HO) (ps : List Addr) (kvs : List (Key × V)), xs = [.ref a] ∧ H a = some u ∧ TupO u (ps.map V.ref) ∧ Paired (fun p kv => SqT (kwOf X) H p [kV kv.1, kv.2]) ps kvs ∧
    ∀ p, H p = none → Q (.ref p) (upd H p (.dK (mergeK [] kvs)))) := by
  intro pins s σ H xs us Q I r q
  obtain ⟨a, u0, ps, kvs, ex, hq, ⟨ob, hcls, hdict, eu⟩, hp, q⟩ := q
  subst ex eu
  obtain ⟨u, eu, rx⟩ := vals1 r
  subst eu
  cases rx
  obtain ⟨hget, hz, its, rv, o2, ho2, hc2, n2, hd2⟩ := (show ObjOk X.prog X.w H s.heap a (.frz ob (.tup (ps.map V.ref))) from I.hok a _ hq)
  rw [hget] at ho2
  cases ho2
  have ei := refs_at rv
  subst ei
  rw [List.length_map] at hz
  obtain ⟨prs, zs, rel, hl, hl2, hpr⟩ := pairs_of2 I hp
  refine PySem.call_dict_pairs (knd := mixKind X.prog X.w) (kvs := prs) (PairArg.tuple (prog := X.prog) (w := X.w) a (ps.map Value.ref).toArray (fun j => ps.getD j 0) zs) (I.ok.hd hcalm) ⟨⟨ob, n2, hget, hcls, hdict, hd2⟩, ?_, fun j k v e => ?_⟩ ⟨by rw [hl, hl2], fun i key v e => ?_⟩ (by rw [hl2]; exact hz) fun h' tk hd' kp => ?_
  · simp [hl2]
  · obtain ⟨b, k', e1, e2, e3, e4⟩ := hpr j (k, v) e
    refine ⟨by simp [e1], .inl ?_⟩
    have : ps.getD j 0 = b := by rw [List.getD_eq_getElem?_getD, e1]; rfl
    show s.heap.IsTuple (ps.getD j 0) #[k, v]
    rw [this]
    exact e3
  · obtain ⟨b, k', e1, e2, e3, e4⟩ := hpr i (key, v) e
    exact ⟨k', e2, e4⟩
  · have hm : (s.heap.objs.size == sysModules) = false := beq_eq_false_iff_ne.mpr (Nat.ne_of_gt I.big)
    have hlen : (mergeK [] kvs).length ≤ sizeLine := by
      refine Nat.le_trans (length_mergeK kvs []) ?_
      rw [List.length_nil, Nat.zero_add, rel.length, hl]
      exact hz
    exact ⟨.ref s.heap.objs.size, upd H s.heap.objs.size (.dK (mergeK [] kvs)), I.laid (t' := tk) (fun b o e => kp b o (by simp) e) (Nat.le_refl _) (show ObjOk X.prog X.w _ _ _ (.dK (mergeK [] kvs)) from ⟨hlen, hm, merged [] prs, KV.merge rel .nil, hd'⟩), rfl, q _ (I.hok.fresh (Nat.le_refl _))⟩
abbrev rDictP (K : KW) : List V → Hp → VK → Prop := fun xs H Q => ∃ (a : Addr) (ps : List Addr) (kvs : List (Key × V)), xs = [.ref a] ∧ SqL K H a (ps.map V.ref) ∧ Paired (fun p kv => SqT K H p [kV kv.1, kv.2]) ps kvs ∧
    ∀ p, H p = none → Q (.ref p) (upd H p (.dK (mergeK [] kvs)))
abbrev rDictT (K : KW) : List V → Hp → VK → Prop := fun xs H Q => ∃ (a : Addr) (u : HO) (ps : List Addr) (kvs : List (Key × V)), xs = [.ref a] ∧ H a = some u ∧ TupO u (ps.map V.ref) ∧ Paired (fun p kv => SqT K H p [kV kv.1, kv.2]) ps kvs ∧
    ∀ p, H p = none → Q (.ref p) (upd H p (.dK (mergeK [] kvs)))
theorem call_dict (hcalm : X.calm = true) : CallR X (.type "dict") (fun xs H Q => rDictP (kwOf X) xs H Q ∨ rDictT (kwOf X) xs H Q) := (call_dictP hcalm).or (call_dictT hcalm)
end
section
variable {K : KW} {F : Addr → Prop} {wa : Option Addr} {H : Hp} {w : Option Wd} {d : D} {v : V} {Q : VK}
theorem sDict : CallS K (fun xs H Q => rDictP K xs H Q ∨ rDictT K xs H Q) dDict := fun wa w F H ds d st vs wk fd c e Q q => by
  unfold dDict at e
  split at e
  · split at e
    · obtain ⟨⟨ks, es⟩, h1, h2⟩ := Option.map_eq_some_iff.mp e
      cases h2
      obtain ⟨v, rfl, a, u, us, e1, hF, hh, ht, rr⟩ := curs1 c
      subst e1
      obtain ⟨ps, kvs, us', g1, g2, g3, g4, g5⟩ := merge_ok rr (ks := []) (ds := []) (us := []) rfl rfl h1
      subst g1
      refine .inr ⟨a, u, ps, kvs, rfl, hh, ht, g2, fun p hp => ?_⟩
      rw [show mergeK [] kvs = ks.zip us' from g3]
      exact q.dk wk fd g5 g4 hp
    · cases e
  · split at e
    · obtain ⟨⟨ks, es⟩, h1, h2⟩ := Option.map_eq_some_iff.mp e
      cases h2
      obtain ⟨v, rfl, a, us, e1, hh, rr⟩ := curs1 c
      subst e1
      obtain ⟨ps, kvs, us', g1, g2, g3, g4, g5⟩ := merge_ok rr (ks := []) (ds := []) (us := []) rfl rfl h1
      subst g1
      refine .inl ⟨a, ps, kvs, rfl, .inl (.inl hh), g2, fun p hp => ?_⟩
      rw [show mergeK [] kvs = ks.zip us' from g3]
      exact q.dk wk fd g5 g4 hp
    · cases e
  · cases e
theorem sNeg {K : KW} : UnS K (rU fun i => .int (-i)) (fun x => match x with | .int i => fzO (.int (-i)) | _ => none) := fun wa w F H x d st v1 wk fd c e Q q => by
  cases x with
  | int i => cases e; exact ⟨i, c, q.fz wk fd rfl⟩
  | _ => cases e
end
/-! ### more expressions -/
def dNeg : D → Option DS := fun x => match x with | .int i => fzO (.int (-i)) | _ => none
def eGet2 (f g h : EF) : EF := fun env w => (f env w).bind fun p => match p.1.1 with
  | .dk ks ds => (g env p.2).bind fun q => (keyD q.1.1).bind fun k => (eFz h env q.2).bind fun r => some (match dFind ks ds k with
      | some x => (x, .fz)
      | none => r.1, r.2)
  | _ => none
def eWget (i : Nat) (a : Bool) : EF := fun env w => match env[i]?, w with
  | some (some (.w, false)), some W => some ((if a = true then .int W.ix else .lst (W.draws.map D.int), .fz), w)
  | _, _ => none
section
variable {X : Cx} {e o e1 e2 : Expr} {f g h : EF} {pos pos' : Pos}
theorem e_neg (he : Snd X e f) : Snd X (.UnaryOp .USub e pos) (eUn dNeg f) := e_un un_neg sNeg he
theorem e_ty {x : Str} {n : String} (hg : Gl X x) (hm : X.mg x = none) (hv : bootBuiltins x = some (.type n)) (hn : x ≠ "__name__" := by decide) (hd : (x == ("__debug__" : Str)) = false := by decide) : Snd X (.Name x pos) (eC (.ty n)) :=
  e_c (pe_bltn (v := .ty n) hg hm hv rfl hn hd) fun _ _ _ => rfl
theorem e_dict0 : Snd X (.Dict [] [] pos) (fun _ w => some ((.dk [] [], .ow), w)) := by
  refine pe_imp pe_dnewK fun σ H Q q => ?_
  obtain ⟨B, F, wa, w, env, S, d, st, w', hf, k⟩ := q
  cases hf
  intro p hp
  exact Res.dk (ks := []) (vs := []) S.wk S.fd (Res.behind S (Aft.refl S.wk S.fd) k) rfl rfl hp
theorem e_get2 {apos cpos : Pos} (hu : X.A.units + 1 < cLine) (ho : Snd X o f) (he : Snd X e1 g) (hf : Snd X e2 h) (m : M2 X o "get" apos e1 e2 cpos) : Snd X (.Call (.Attribute o "get" apos) [e1, e2] [] cpos) (eGet2 f g h) := by
  refine pe_imp (pe_dget2 hu ho he (e_fz hf) m) fun σ H Q q => ?_
  obtain ⟨B, F, wa, w, env, S, d, st, w', hf, k⟩ := q
  unfold eGet2 at hf
  obtain ⟨⟨⟨d1, st1⟩, w1⟩, h1, h2⟩ := Option.bind_eq_some_iff.mp hf
  refine ⟨B, F, wa, w, env, S, d1, st1, w1, h1, fun v F1 H1 A1 r1 => ?_⟩
  cases d1 with
  | dk ks ds =>
    have h2' : ((g env w1).bind fun q => (keyD q.1.1).bind fun k => (eFz h env q.2).bind fun r => some (match dFind ks ds k with
      | some x => (x, O3.fz)
      | none => r.1, r.2)) = some ((d, st), w') := h2
    obtain ⟨⟨⟨d2, st2⟩, w2⟩, h3, h4⟩ := Option.bind_eq_some_iff.mp h2'
    obtain ⟨ke, h5, h6⟩ := Option.bind_eq_some_iff.mp h4
    obtain ⟨⟨⟨d3, st3⟩, w3⟩, h7, h8⟩ := Option.bind_eq_some_iff.mp h6
    obtain ⟨a, vs, ea, hh, hl, rr⟩ := r1.cur
    refine ⟨a, ea, .inl ⟨_, .inl hh⟩, ?_⟩
    refine ⟨B, F1, wa, w1, env, S.aft A1, d2, st2, w2, h3, fun v2 F2 H2 A2 r2 => ?_⟩
    refine ⟨B, F2, wa, w2, env, (S.aft A1).aft A2, d3, st3, w3, h7, fun v3 F3 H3 A3 r3 => ?_⟩
    have c1 := ((r1.aft A2).aft A3).cur
    obtain ⟨a', vs', ea', hh', hl', rr'⟩ := c1
    rw [ea] at ea'
    cases ea'
    have ek := keyD_ok h5 (r2.aft A3).cur
    have e3 : st3 = .fz := by
      unfold eFz at h7
      obtain ⟨⟨⟨d6, st6⟩, w7⟩, g4, g5⟩ := Option.bind_eq_some_iff.mp h7
      cases st6 <;> cases g5 <;> rfl
    subst e3
    obtain ⟨q1, q2⟩ := dFind_ok (k := ke) (ks := ks) rr'
    refine ⟨valV (ks.zip vs') ke, .inl ⟨_, ke, .inl hh', ek, rfl⟩, ?_⟩
    cases hfd : dFind ks ds ke with
    | some x =>
      rw [hfd] at h8
      cases h8
      obtain ⟨u, h9, r9⟩ := q1 _ hfd
      rw [h9]
      exact k u F3 H3 ((A1.trans A2).trans A3) r9
    | none =>
      rw [hfd] at h8
      cases h8
      rw [q2 hl' hfd]
      exact k v3 F3 H3 ((A1.trans A2).trans A3) r3
  | _ => cases h2
theorem kv_ne : (kDraws = kAt) = False := by
  apply eq_false
  unfold kDraws kAt
  intro h
  cases h
theorem e_wget (i : Nat) {c : Str} {j : Nat} {wpos cpos : Pos} {nm : Str} (a : Bool) (hu : X.A.units + 1 < cLine) (ho : PE X (.Name nm wpos) (tVar i)) (hc : c = if a = true then "at" else "draws") (hs : NoSl (.Constant (.str c) j cpos) := by exact fun _ _ => rfl) : Snd X (.Subscript (.Name nm wpos) (.Constant (.str c) j cpos) pos) (eWget i a) := by
  refine pe_imp (pe_dget hu ho pe_str hs) fun σ H Q q => ?_
  obtain ⟨B, F, wa, w, env, S, d, st, w', hf, k⟩ := q
  unfold eWget at hf
  split at hf
  · rename_i W hd
    cases hf
    obtain ⟨v, h1, x, hw, e⟩ := S.fz i _ hd
    subst hw e
    obtain ⟨g1, da, g2, g3, g4⟩ := S.wk
    refine ⟨.ref x, h1, x, if a = true then .int W.ix else .ref da, rfl, ?_, k _ F H (Aft.refl S.wk S.fd) ?_⟩
    · refine .inl ⟨_, .inr c, .inl g3, rfl, ?_⟩
      cases a with
      | true =>
        subst hc
        show some (V.int W.ix) = valV [(kDraws, .ref da), (kAt, .int W.ix)] kAt
        unfold valV
        simp [kv_ne]
      | false =>
        subst hc
        show some (V.ref da) = valV [(kDraws, .ref da), (kAt, .int W.ix)] kDraws
        unfold valV
        simp
    · cases a with
      | true => exact rfl
      | false => exact ⟨da, _, rfl, g2, g4, Reps.ints⟩
  · cases hf
theorem s_tick (i : Nat) {j j2 : Nat} {wpos cpos tpos npos : Pos} {nm : Str} (hu : X.A.units + 1 < cLine) (ho : PE X (.Name nm wpos) (tVar i))
    (ha : ∀ ov iv new, augStore (.Constant (.str "at") j cpos) ov iv new = (do holding [new, ov, iv] (setItem ov iv new); release [new, ov, iv] []; pure .next) := by exact fun _ _ _ => rfl) : SndS X (.AugAssign (.Subscript (.Name nm wpos) (.Constant (.str "at") j cpos) tpos) .Add (.Constant (.int 1) j2 npos) pos) (sTick i) := by
  refine ps_imp (ps_daug hu ho pe_str pe_int in_add ha) fun Dn σ H q => ?_
  obtain ⟨B, F, wa, w, env, S, out, hf, k⟩ := q
  unfold sTick at hf
  split at hf
  · rename_i W hd
    cases hf
    obtain ⟨v, h1, x, hw, e⟩ := S.fz i _ hd
    subst hw e
    obtain ⟨g1, da, g2, g3, g4⟩ := S.wk
    refine ⟨.ref x, h1, x, .int W.ix, rfl, .inl ⟨_, .inr "at", .inl g3, rfl, ?_⟩, W.ix, 1, rfl, rfl, _, DPut.k (k := .inr "at") g3 (by show 2 < sizeLine; rw [sizeLine_eq]; decide), ?_⟩
    · show some (V.int W.ix) = valV [(kDraws, .ref da), (kAt, .int W.ix)] kAt
      unfold valV
      simp [kv_ne]
    · have ep : putK [(kDraws, V.ref da), (kAt, .int W.ix)] kAt (.int (W.ix + 1)) = [(kDraws, .ref da), (kAt, .int (W.ix + 1))] := by
        unfold putK
        simp [kv_ne]
      show Dn.nx σ (upd H x (.dK (putK [(kDraws, V.ref da), (kAt, .int W.ix)] kAt (.int (W.ix + 1)))))
      rw [ep]
      have kf : ∀ b u, F b → H b = some u → upd H x (.dK [(kDraws, .ref da), (kAt, .int (W.ix + 1))]) b = some u := fun b u fb h => by rw [upd_ne fun z => g1 (by rw [← z]; exact fb)]; exact h
      have hdom : ∀ b, upd H x (.dK [(kDraws, .ref da), (kAt, .int (W.ix + 1))]) b = none → H b = none := fun b h => by
        by_cases e : b = x
        · subst e; rw [upd_same] at h; cases h
        · rw [upd_ne e] at h; exact h
      have wk : WOk F (some x) (upd H x (.dK [(kDraws, .ref da), (kAt, .int (W.ix + 1))])) (some ⟨W.draws, W.ix + 1⟩) := ⟨g1, da, g2, upd_same, kf _ _ g2 g4⟩
      have fd : ∀ b, F b → upd H x (.dK [(kDraws, .ref da), (kAt, .int (W.ix + 1))]) b ≠ none := fun b fb h => S.fd b fb (hdom b h)
      have mrs : ∀ {ds vs}, Reps (kwOf X) F (some x) H ds vs → Reps (kwOf X) F (some x) (upd H x (.dK [(kDraws, .ref da), (kAt, .int (W.ix + 1))])) ds vs := fun {ds vs} r => Reps.mono (fun _ z => z) kf ds vs r
      refine k σ F _ ⟨fun _ h => h, fun _ h => .inl h, fun b u h hb hx => by rw [upd_ne fun z => hx (by rw [z])]; exact h, kf, hdom, wk, fd⟩ ⟨S.len, fun j d h => ?_, fun j d h => ?_, S.ne, wk, fd, fun b hb h => S.bd b hb (hdom b h)⟩
      · obtain ⟨v, h2, r⟩ := S.fz j d h
        exact ⟨v, h2, Rep.mono (fun _ z => z) kf d v r⟩
      · obtain ⟨a, h2, ⟨p1, p2, p3⟩, nb⟩ := S.ow j d h
        refine ⟨a, h2, ⟨p1, p2, ?_⟩, nb⟩
        have na : a ≠ x := fun z => p2 (by rw [z])
        obtain ⟨o4, e4, p4⟩ := p3
        exact ⟨o4, by rw [upd_ne na]; exact e4, p4.mono (fun _ z => z) kf⟩
  · cases hf
theorem s_ins0 (i : Nat) {x apos cpos zpos : Pos} {j : Nat} {nm : Str} (ho : PE X (.Name nm x) (tVar i)) (he : Snd X e f) (hs : starEach [e] X.env = (false, eval e X.env) :: starEach [] X.env := by rfl)
    (hs2 : starEach [.Constant (.int 0) j zpos, e] X.env = (false, eval (.Constant (.int 0) j zpos) X.env) :: starEach [e] X.env := by rfl)
    (hpe : ∀ {to : TE} {ta : TA} {r : V → List V → Hp → VK → Prop}, MtR X "list.insert" r → PE X (.Name nm x) to → PA X [.Constant (.int 0) j zpos, e] ta → PE X (.Call (.Attribute (.Name nm x) "insert" apos) [.Constant (.int 0) j zpos, e] [] cpos) (tBM (kwOf X) "list" r to ta) := by
      intro to ta r h0 h1 h2; exact pe_bm PySem.F.plainAttrs_list PySem.F.slot_list_insert PySem.F.type_list_insert h0 h1 h2)
    (hsw : swapsWith (.Call (.Attribute (.Name nm x) "insert" apos) [.Constant (.int 0) j zpos, e] [] cpos) none pos.line X.env = pure false := by rfl) :
    SndS X (.Expr (.Call (.Attribute (.Name nm x) "insert" apos) [.Constant (.int 0) j zpos, e] [] cpos) pos) (sIns0 i f) := by
  refine ps_imp (ps_expr (hpe mt_insert ho (pa_cons pe_int (pa_cons (e_fz he) pa_nil hs) hs2)) hsw) fun Dn σ H q => ?_
  obtain ⟨B, F, wa, w, env, S, out, hf, k⟩ := q
  unfold sIns0 at hf
  obtain ⟨⟨⟨d1, st1⟩, w1⟩, h1, h2⟩ := Option.bind_eq_some_iff.mp hf
  have e1 : st1 = .fz := by
    unfold eFz at h1
    obtain ⟨⟨⟨d3, st3⟩, w3⟩, h4, h5⟩ := Option.bind_eq_some_iff.mp h1
    cases st3 <;> cases h5 <;> rfl
  subst e1
  dsimp only at h2
  split at h2
  · rename_i ds hd
    split at h2
    · rename_i hz
      cases h2
      obtain ⟨a, vs, g1, g2, g3, g4⟩ := own_lst S hd
      refine ⟨.ref a, g1, .inl ⟨rfl, vs, .inl (.inl g2)⟩, ?_⟩
      refine ⟨B, F, wa, w, env, S, d1, .fz, _, h1, fun v F1 H1 A r => ?_⟩
      have S1 := S.aft A
      have h3 := A.keep a _ g2 g4
      have hl := g3.len
      refine ⟨a, vs, 0, v, rfl, rfl, h3, by rw [← hl]; exact lineN hz, by decide, by decide, ?_⟩
      obtain ⟨A2, S2⟩ := S1.write (d' := .lst (d1 :: ds)) (o := .lst (v :: vs)) hd g1 ⟨_, rfl, ⟨v, vs, rfl, r, A.reps g3⟩⟩
      exact k _ F1 _ ((A.toS S.bd).trans A2) S2
    · cases h2
  · cases h2
end
/-! ### the law -/
def spLaw (K : PySem.W.Frag) : Sp := fun vs H Q _ => ∃ (a : Addr) (ns : List Int), vs = [.ref a] ∧ SqL K H a (ns.map V.int) ∧ ns.length ≤ 63 ∧ ∀ H', Q (.bl true) H'
/-- w = {"draws": F(script, n), "at": 0} -/
def tMkw (K : KW) (Gd : Fn) (n : Int) (iw : Nat) : TS := tAsg (tDisp [(tC (.str "draws"), rd K (eCall Gd (aCons (eVar 0) (aCons (eC (.int n)) aNil)))), (tC (.str "at"), tC (.int 0))]) (gName iw)
theorem law_d {P : Program} {ww : World} {K : PySem.W.Frag} {mg : Str → Option Value} {base : Heap} {st : Stmt} {f : Addr} {fd : FuncData} {N : List Str} {k : Nat} {s1 : Stmt} {rest : List Stmt} {g : SB} {Gd : Fn} {n : Int} {iw : Nat} (Fu : Fun K "law" "law" st f fd) (S : FnScope N ["script"] (defScope st)) (hN : 0 < iw ∧ iw < N.length)
    (hb : defBody st = s1 :: rest)
    (hbody : ∀ (cdv : Value) (A : Around) (outer : List Env) (s : Shared) (H : Hp) (E : XK), Room k (A.deeper (envOfC "law" (defScope st) s.heap.objs.size f cdv)) →
      PS (cxOf CX0 P ww K mg base N "law" (defScope st) f cdv A outer s H E).nox s1 (tMkw (KW.mk K ww) Gd n iw) ∧ SndSs (cxOf CX0 P ww K mg base N "law" (defScope st) f cdv A outer s H E).nox rest g)
    (math : ∀ ns : List Int, ns.length ≤ 63 → ∃ ds : List Int, Gd [.scr ns, .int n] none = some ((.lst (ds.map D.int), .ow), none) ∧ ∃ w', g ((startE N.length [.scr ns]).set iw (some (.w, false))) (some ⟨ds, 0⟩) = some (.rt (.bl true, .fz) w')) :
    FnOk P ww K mg base CX0 (k + 1) f fd ["script"] (spLaw K) := by
  refine Fu.ok S (fun vs H Q E h => ?_) (fun cdv A outer s H vs Q E hr h => ?_)
  · obtain ⟨a, ns, rfl, _⟩ := h; rfl
  · obtain ⟨a, ns, rfl, hS, hlen, q⟩ := h
    obtain ⟨h1, h2⟩ := hbody cdv A outer s H E hr
    obtain ⟨ds, m1, w', m2⟩ := math ns hlen
    rw [hb]
    refine ⟨_, pss_cons h1 h2, ?_⟩
    intro p hp
    -- the frozen: all that stands
    have np : ∀ a, H a ≠ none → a ≠ p := fun a h e => h (by rw [e]; exact hp)
    have rs : Rep (KW.mk K ww) (fun a => H a ≠ none) none H (.scr ns) (.ref a) := by
      refine ⟨a, rfl, ?_⟩
      rcases hS with hS | hS
      · refine .inl ⟨?_, hS⟩
        rcases hS with hS | ⟨o, hS⟩ <;> (show H a ≠ none; rw [hS]; simp)
      · exact .inr hS
    have wk0 : WOk (fun a => H a ≠ none) none H none := trivial
    have A0 := Aft.new0 (K := KW.mk K ww) (o := .dK []) wk0 (fun a h => h) hp
    have S0 : SI (KW.mk K ww) (fun a => H a ≠ none) (fun a => H a ≠ none) none H none (L2.start N [.ref a]) (startE N.length [.scr ns]) := by
      have hst := Reps.start (K := KW.mk K ww) (F := fun a => H a ≠ none) (wa := none) (H := H) (ds := [.scr ns]) (vs := [.ref a]) (.one rs) (N.length - 1)
      refine ⟨by unfold startE L2.start; simp, fun i d e => ?_, fun i d e => ?_, fun i j d e a _ e1 _ _ => ?_, trivial, fun a h => h, fun a h => h⟩
      · obtain ⟨_, v, e2, r2⟩ := hst i d false e
        exact ⟨v, e2, r2⟩
      · exact absurd (hst i d true e).1 (by decide)
      · exact absurd (hst i d true e1).1 (by decide)
    refine ⟨_, _, none, none, _, S0.aft A0, .lst (ds.map D.int), .ow, none, ?_, fun v F1 H1 A1 r1 => ?_⟩
    · show eCall Gd (aCons (eVar 0) (aCons (eC (.int n)) aNil)) (startE N.length [.scr ns]) none = _
      have hv : eVar 0 (startE N.length [.scr ns]) none = some ((.scr ns, .fz), none) := rfl
      unfold eCall aCons
      rw [hv]
      exact m1
    · -- the list of the draws is frozen
      obtain ⟨da, ea, ho, hn⟩ := r1
      subst ea
      have nF := ho.1
      obtain ⟨us, hu, ru⟩ := ho.lst
      have eus : us = ds.map V.int := by
        have : ∀ (ds : List Int) (us : List V), Reps (KW.mk K ww) F1 none H1 (ds.map D.int) us → us = ds.map V.int := by
          intro ds
          induction ds with
          | nil => intro us r; exact r
          | cons d r ih => intro us rr; obtain ⟨v, vr, e, r1, r2⟩ := rr; rw [e, show v = .int d from r1, ih vr r2]; rfl
        exact this ds us ru
      subst eus
      have hp1 : H1 p = some (.dK []) := A1.keep p _ upd_same (by simp)
      have nda : da ≠ p := fun e => by subst e; rw [upd_same] at hn; cases hn
      have nF1p : ¬ F1 p := fun z => by
        rcases A1.new p z with z | z
        · exact z hp
        · rw [upd_same] at z; cases z
      refine ⟨hp1, [(.inr "draws", .ref da), (.inr "at", .int 0)], rfl, by show 2 ≤ 15; decide, ?_⟩
      have hm : mergeK [] [((.inr "draws" : Key), V.ref da), (.inr "at", .int 0)] = [(kDraws, .ref da), (kAt, .int 0)] := by
        show putK (putK [] kDraws (.ref da)) kAt (.int 0) = _
        unfold putK
        simp [kv_ne]
      rw [hm]
      -- from here on with w
      have hk : ∀ b o, H b = some o → upd H1 p (.dK [(kDraws, .ref da), (kAt, .int 0)]) b = some o := fun b o h => by
        rw [upd_ne (np b (by rw [h]; simp))]
        exact A1.keep b o (by rw [upd_ne (np b (by rw [h]; simp))]; exact h) (by simp)
      have rs' : Rep (KW.mk K ww) (fun a => H a ≠ none ∨ a = da) (some p) (upd H1 p (.dK [(kDraws, .ref da), (kAt, .int 0)])) (.scr ns) (.ref a) := by
        obtain ⟨a', e, h⟩ := rs
        refine ⟨a', e, ?_⟩
        rcases h with ⟨h1, h2 | ⟨o, h2⟩⟩ | h
        · exact .inl ⟨.inl h1, .inl (hk _ _ h2)⟩
        · exact .inl ⟨.inl h1, .inr ⟨o, hk _ _ h2⟩⟩
        · exact .inr h
      have wk : WOk (fun a => H a ≠ none ∨ a = da) (some p) (upd H1 p (.dK [(kDraws, .ref da), (kAt, .int 0)])) (some ⟨ds, 0⟩) := by
        refine ⟨fun z => z.elim (fun z => z hp) fun z => nda z.symm, da, .inr rfl, upd_same, ?_⟩
        rw [upd_ne nda]; exact hu
      have fd : ∀ b, (H b ≠ none ∨ b = da) → upd H1 p (.dK [(kDraws, .ref da), (kAt, .int 0)]) b ≠ none := fun b z => by
        rcases z with z | z
        · cases hb : H b with
          | none => exact absurd hb z
          | some o => rw [hk b o hb]; simp
        · subst z; rw [upd_ne nda, hu]; simp
      refine ⟨fun a => H a ≠ none, _, some p, some ⟨ds, 0⟩, (startE N.length [.scr ns]).set iw (some (.w, false)), ⟨?_, fun i d e => ?_, fun i d e => ?_, fun i j d e a _ e1 _ _ => ?_, wk, fd, fun b hb z => ?_⟩, _, m2, ?_⟩
      · unfold startE L2.start; simp
      · by_cases hi : iw = i
        · subst hi
          rw [List.getElem?_set_self (by unfold startE; simp; omega)] at e
          cases e
          refine ⟨.ref p, ?_, p, rfl, rfl⟩
          rw [List.getElem?_set_self (by unfold L2.start; simp; omega)]
        · rw [List.getElem?_set_ne hi] at e
          obtain ⟨_, v, e2, r2⟩ := Reps.start (K := KW.mk K ww) (F := fun a => H a ≠ none ∨ a = da) (wa := some p) (H := upd H1 p (.dK [(kDraws, .ref da), (kAt, .int 0)])) (ds := [.scr ns]) (vs := [.ref a]) (.one rs') (N.length - 1) i d false e
          exact ⟨v, by rw [List.getElem?_set_ne hi]; exact e2, r2⟩
      · exfalso
        by_cases hi : iw = i
        · subst hi
          rw [List.getElem?_set_self (by unfold startE; simp; omega)] at e
          cases e
        · rw [List.getElem?_set_ne hi] at e
          exact absurd (Reps.start (K := KW.mk K ww) (F := fun a => H a ≠ none) (wa := none) (H := H) (ds := [.scr ns]) (vs := [.ref a]) (.one rs) (N.length - 1) i d true e).1 (by decide)
      · exfalso
        by_cases hi : iw = i
        · subst hi
          rw [List.getElem?_set_self (by unfold startE; simp; omega)] at e1
          cases e1
        · rw [List.getElem?_set_ne hi] at e1
          rename_i b _ _ _
          exact absurd (Reps.start (K := KW.mk K ww) (F := fun a => H a ≠ none) (wa := none) (H := H) (ds := [.scr ns]) (vs := [V.ref _]) (.one rs) (N.length - 1) i d true e1).1 (by decide)
      · exact fd b (.inl hb) z
      · intro v F2 H2 A2 rr
        have ev : v = .bl true := rr
        rw [ev]
        exact q H2
end Dl

set_option Elab.async false
set_option linter.all false
set_option maxRecDepth 100000
set_option maxHeartbeats 4000000
namespace Dl
open PySem PySem.Spec PyProof.Rows L2
abbrev dAdd : D → D → Option DS := els2 dAddI (els2 dCatL (els2 dCatT dCatS))
abbrev rAddG (K : KW) : R2 := fun x y H Q => rI0 (fun i j => .int (i + j)) x y H Q ∨ rCat x y H Q ∨ rCatF K x y H Q ∨ ∃ i j, x = .str i ∧ y = .str j ∧ i.length + j.length ≤ sizeLine ∧ Q (.str (i ++ j)) H
abbrev rEqG (K : KW) : R2 := fun x y H Q => rEq x y H Q ∨ rEqD K x y H Q
abbrev rNeG (K : KW) : R2 := fun x y H Q => rNe x y H Q ∨ rNeD K x y H Q
section
variable {X : Cx} {K : KW}
theorem op_addG : OpR X (binaryOp .Add) (rAddG (kwOf X)) := op_add.or (op_cat.or (op_catF.or op_add_str))
theorem sAdd : OpS K (rAddG K) dAdd := sAddI.els (sCatL.els (sCatT.els sCatS))
theorem op_eqG (hu : X.A.units + 64 < cLine) : OpR X (compareOp .Eq) (rEqG (kwOf X)) := op_eq.or (op_eqD hu)
theorem op_neG (hu : X.A.units + 64 < cLine) : OpR X (compareOp .NotEq) (rNeG (kwOf X)) := op_ne.or (op_neD hu)
theorem sEq : OpS K (rEqG K) dEq := sEqF.els sEqD
theorem sNe : OpS K (rNeG K) dNe := sNeF.els sNeD
theorem sIpAdd : OpS K (ipI fun i j => i + j) dAddI := fun wa w F H x y d st v1 v2 wk fd c1 c2 e Q q => by
  cases x with
  | int i => cases y with
    | int j => cases e; exact ⟨i, j, c1, c2, q.fz wk fd rfl⟩
    | _ => cases e
  | _ => cases e
theorem sIpSub : OpS K (ipI fun i j => i - j) dSub := fun wa w F H x y d st v1 v2 wk fd c1 c2 e Q q => by
  cases x with
  | int i => cases y with
    | int j => cases e; exact ⟨i, j, c1, c2, q.fz wk fd rfl⟩
    | _ => cases e
  | _ => cases e
end
def eDk0 : EF := fun _ w => some ((.dk [] [], .ow), w)
/-- a < b < c -/
def eCh (g g' : D → D → Option DS) (f1 f2 f3 : EF) : EF := fun env w => (f1 env w).bind fun p => (f2 env p.2).bind fun q => (g p.1.1 q.1.1).bind fun r => match r with
  | (.bl true, _) => (f3 env q.2).bind fun s => (g' q.1.1 s.1.1).map fun t => (t, s.2)
  | (.bl false, _) => some ((.bl false, .fz), q.2)
  | _ => none
end Dl

set_option Elab.async false
set_option linter.all false
set_option maxRecDepth 100000
set_option maxHeartbeats 4000000
namespace Dl
open PySem PySem.Spec PyProof.Rows L2
/-! ### more operations: sum, all, any, index, signs of texts, enumerate, pop -/
def intsD : List D → Option (List Int)
  | [] => some []
  | .int i :: r => (intsD r).map fun l => i :: l
  | _ => none
def bolsD : List D → Option (List Bool)
  | [] => some []
  | .bl i :: r => (bolsD r).map fun l => i :: l
  | _ => none
def dSum : List D → Option DS
  | [.lst ds] => (intsD ds).map fun ns => (.int ns.sum, .fz)
  | _ => none
def dAll : List D → Option DS
  | [.lst ds] => (bolsD ds).map fun ns => (.bl (ns.all id), .fz)
  | _ => none
def dAny : List D → Option DS
  | [.lst ds] => (bolsD ds).map fun ns => (.bl (ns.any id), .fz)
  | _ => none
def dInS (neg : Bool) : D → D → Option DS := fun x y => match x, y with
  | .str a, .str z => match a.cps.toList with
    | [c] => some (.bl (if neg then !decide (c ∈ z.cps.toList) else decide (c ∈ z.cps.toList)), .fz)
    | _ => none
  | _, _ => none
abbrev dInG (neg : Bool) : D → D → Option DS := els2 (dIn neg) (dInS neg)
def dIdx : D → D → Option DS := fun x y => match x with
  | .lst ds => if flatD y = true ∧ ds.all flatD = true then (ds.findIdx? fun z => eqF z y).map fun j => (.int (j : Nat), .fz) else none
  | _ => none
def signs (z : Str) : List D := z.cps.toList.map fun c => .str ⟨#[c]⟩
def iStrD (f : EF) : EI := fun env w => (f env w).bind fun p => match p.1.1 with
  | .str z => some (signs z, p.2)
  | _ => none
/-- x = y.pop(): y's slot is i, x's is j -/
def sPop (i j : Nat) : SB := fun env w => match env[i]? with
  | some (some (.lst ds, true)) => match ds[ds.length - 1]? with
    | some d => some (.nx ((env.set i (some (.lst ds.dropLast, true))).set j (some (d, false))) w)
    | none => none
  | _ => none
section
variable {K : KW} {F : Addr → Prop} {wa : Option Addr} {H : Hp}
theorem ints_reps : ∀ {ds : List D} {ns : List Int} {vs : List V}, intsD ds = some ns → Reps K F wa H ds vs → vs = ns.map V.int
  | [], ns, vs, h, r => by cases h; exact r
  | .int i :: ds, ns, vs, h, r => by
    obtain ⟨l, h1, h2⟩ := Option.map_eq_some_iff.mp (show (intsD ds).map (fun l => i :: l) = some ns from h)
    subst h2
    obtain ⟨v, t, e, r1, r2⟩ := r
    subst e
    rw [ints_reps h1 r2, show v = .int i from r1]; rfl
theorem bols_reps : ∀ {ds : List D} {ns : List Bool} {vs : List V}, bolsD ds = some ns → Reps K F wa H ds vs → vs = ns.map V.bl
  | [], ns, vs, h, r => by cases h; exact r
  | .bl i :: ds, ns, vs, h, r => by
    obtain ⟨l, h1, h2⟩ := Option.map_eq_some_iff.mp (show (bolsD ds).map (fun l => i :: l) = some ns from h)
    subst h2
    obtain ⟨v, t, e, r1, r2⟩ := r
    subst e
    rw [bols_reps h1 r2, show v = .bl i from r1]; rfl
theorem sSum : CallS K (rSum K) dSum := fun wa w F H ds d st vs wk fd c e Q q => by
  unfold dSum at e
  split at e
  · obtain ⟨ns, h1, h2⟩ := Option.map_eq_some_iff.mp e
    cases h2
    obtain ⟨v, rfl, a, us, e1, hh, rr⟩ := curs1 c
    subst e1
    have := ints_reps h1 rr
    subst this
    exact ⟨a, ns, rfl, .inl (.inl hh), q.fz wk fd rfl⟩
  · cases e
theorem sAll : CallS K (rAll K) dAll := fun wa w F H ds d st vs wk fd c e Q q => by
  unfold dAll at e
  split at e
  · obtain ⟨ns, h1, h2⟩ := Option.map_eq_some_iff.mp e
    cases h2
    obtain ⟨v, rfl, a, us, e1, hh, rr⟩ := curs1 c
    subst e1
    have := bols_reps h1 rr
    subst this
    exact ⟨a, ns, rfl, .inl (.inl hh), q.fz wk fd rfl⟩
  · cases e
theorem sAny : CallS K (rAny K) dAny := fun wa w F H ds d st vs wk fd c e Q q => by
  unfold dAny at e
  split at e
  · obtain ⟨ns, h1, h2⟩ := Option.map_eq_some_iff.mp e
    cases h2
    obtain ⟨v, rfl, a, us, e1, hh, rr⟩ := curs1 c
    subst e1
    have := bols_reps h1 rr
    subst this
    exact ⟨a, ns, rfl, .inl (.inl hh), q.fz wk fd rfl⟩
  · cases e
abbrev rInSG (neg : Bool) : R2 := fun x y H Q => ∃ (c : Nat) (z : Str), x = .str ⟨#[c]⟩ ∧ y = .str z ∧ Q (.bl (if neg then !decide (c ∈ z.cps.toList) else decide (c ∈ z.cps.toList))) H
theorem sInS (neg : Bool) : OpS K (rInSG neg) (dInS neg) := fun wa w F H x y d st v1 v2 wk fd c1 c2 e Q q => by
  unfold dInS at e
  split at e
  · rename_i a z
    split at e
    · rename_i c hc
      cases e
      cases c1
      cases c2
      exact ⟨c, z, by obtain ⟨⟨l⟩⟩ := a; simp at hc; subst hc; rfl, rfl, q.fz wk fd rfl⟩
    · cases e
  · cases e
abbrev rInG (K : KW) (neg : Bool) : R2 := fun x y H Q => rIn K neg x y H Q ∨ rInSG neg x y H Q
theorem sInG (neg : Bool) : OpS K (rInG K neg) (dInG neg) := (sIn neg).els (sInS neg)
theorem op_inG {X : Cx} : OpR X (compareOp .In) (rInG (kwOf X) false) := op_in_seq.or op_in_sign
theorem op_notInG {X : Cx} : OpR X (compareOp .NotIn) (rInG (kwOf X) true) := op_notIn_seq.or op_notIn_sign
end
section
variable {X : Cx} {e e1 e2 a b tg : Expr} {f g : EF} {pos p : Pos}
/-- x in C, C a tuple of the module -/
def dInK (neg : Bool) (C : List D) : D → Option DS := fun x => dIn neg x (.tup C)
theorem e_inK {x : Str} {neg : Bool} {op : CmpOp} {C : List D} {cp : Pos} {A : Addr} (ho : OpR X (compareOp op) (rIn (kwOf X) neg)) (hg : Gl X x) (hm : X.mg x = some (.ref A)) (hC : ∀ F wa H, ∃ vs, SqT (kwOf X) H A vs ∧ Reps (kwOf X) F wa H C vs) (hmk : behindInMarks op (.Name x cp) = false) (hd : (x == ("__debug__" : Str)) = false := by decide) (ha : Snd X a f) :
    Snd X (.Compare a [op] [.Name x cp] pos) (eUn (dInK neg C) f) := by
  refine pe_imp (pe_cmpR ho ha (pe_glob (v := .ref A) hg hm rfl hd) hmk) fun σ H Q q => ?_
  obtain ⟨B, F, wa, w, env, S, d, st, w', hf, k⟩ := q
  unfold eUn at hf
  obtain ⟨⟨⟨d1, st1⟩, w1⟩, h1, h2⟩ := Option.bind_eq_some_iff.mp hf
  obtain ⟨⟨d3, st3⟩, h5, h6⟩ := Option.map_eq_some_iff.mp h2
  cases h6
  refine ⟨B, F, wa, w, env, S, d1, st1, _, h1, fun v1 F1 H1 A1 r1 => ?_⟩
  obtain ⟨vs, q1, q2⟩ := hC F1 wa H1
  show rIn (kwOf X) neg v1 (.ref A) H1 Q
  unfold dInK dIn at h5
  obtain ⟨ys, h7, h8⟩ := Option.bind_eq_some_iff.mp h5
  cases h7
  by_cases hc : flatD d1 = true ∧ C.all flatD = true
  · rw [if_pos hc] at h8
    cases h8
    have rx := flatD_rep hc.1 r1.cur
    exact ⟨A, vs, rfl, .inr q1, flat_cur hc.1 rx, flat_reps q2 hc.2, (Res.behind S A1 k).fz A1.wk A1.fd (by rw [any_reps hc.1 rx q2 hc.2]; rfl)⟩
  · rw [if_neg hc] at h8; cases h8
theorem e_gs {x z : Str} (hg : Gl X x) (h : ∃ t, X.mg x = some (.str z t)) (hd : (x == ("__debug__" : Str)) = false := by decide) : Snd X (.Name x pos) (eC (.str z)) := by
  obtain ⟨t, h⟩ := h
  exact e_c (pe_glob (v := .str z) hg h ⟨t, rfl⟩ hd) fun _ _ _ => rfl
theorem e_inKx {x : Str} {neg : Bool} {op : CmpOp} {C : List D} {cp : Pos} (ho : OpR X (compareOp op) (rIn (kwOf X) neg)) (hg : Gl X x) (h : ∃ A, X.mg x = some (.ref A) ∧ ∃ vs, ∀ F wa H, SqT (kwOf X) H A vs ∧ Reps (kwOf X) F wa H C vs) (hmk : behindInMarks op (.Name x cp) = false) (hd : (x == ("__debug__" : Str)) = false) (ha : Snd X a f) :
    Snd X (.Compare a [op] [.Name x cp] pos) (eUn (dInK neg C) f) := by
  obtain ⟨A, hm, vs, hC⟩ := h
  exact e_inK ho hg hm (fun F wa H => ⟨vs, hC F wa H⟩) hmk hd ha
theorem t_inKx {x : Str} {neg : Bool} {op : CmpOp} {C : List D} {cp : Pos} (ho : OpR X (compareOp op) (rIn (kwOf X) neg)) (hg : Gl X x) (h : ∃ A, X.mg x = some (.ref A) ∧ ∃ vs, ∀ F wa H, SqT (kwOf X) H A vs ∧ Reps (kwOf X) F wa H C vs) (hmk : behindInMarks op (.Name x cp) = false) (hd : (x == ("__debug__" : Str)) = false) (ha : Snd X a f) :
    SndT X (.Compare a [op] [.Name x cp] pos) (tVal (eUn (dInK neg C) f)) := by
  obtain ⟨A, hm, vs, hC⟩ := h
  refine pt_imp (pt_cmpR ho ha (pe_glob (v := .ref A) hg hm rfl hd) hmk) fun σ H Q q => ?_
  obtain ⟨B, F, wa, w, env, S, b, w', hf, k⟩ := q
  unfold tVal eUn at hf
  obtain ⟨⟨⟨d0, st0⟩, w0⟩, hf0, hf1⟩ := Option.bind_eq_some_iff.mp hf
  obtain ⟨⟨⟨d1, st1⟩, w1⟩, h1, h2⟩ := Option.bind_eq_some_iff.mp hf0
  obtain ⟨⟨d3, st3⟩, h5, h6⟩ := Option.map_eq_some_iff.mp h2
  cases h6
  refine ⟨B, F, wa, w, env, S, d1, st1, _, h1, fun v1 F1 H1 A1 r1 => ?_⟩
  obtain ⟨q1, q2⟩ := hC F1 wa H1
  unfold dInK dIn at h5
  obtain ⟨ys, h7, h8⟩ := Option.bind_eq_some_iff.mp h5
  cases h7
  by_cases hc : flatD d1 = true ∧ C.all flatD = true
  · rw [if_pos hc] at h8
    cases h8
    cases hf1
    have rx := flatD_rep hc.1 r1.cur
    refine ⟨A, vs, rfl, .inr q1, flat_cur hc.1 rx, flat_reps q2 hc.2, ?_⟩
    rw [any_reps hc.1 rx q2 hc.2]
    exact ⟨_, rfl, k F1 H1 A1⟩
  · rw [if_neg hc] at h8; cases h8
theorem e_idx {apos cpos : Pos} (he : Snd X e f) (ha : Snd X a g) (hs : starEach [a] X.env = (false, eval a X.env) :: starEach [] X.env := by rfl)
    (hpe : ∀ {to : TE} {ta : TA}, PE X e to → PA X [a] ta → PE X (.Call (.Attribute e "index" apos) [a] [] cpos) (tBM (kwOf X) "list" (rIndex (kwOf X)) to ta) := by
      intro to ta h1 h2; exact pe_bm PySem.F.plainAttrs_list PySem.F.slot_list_index PySem.F.type_list_index mt_index h1 h2) :
    Snd X (.Call (.Attribute e "index" apos) [a] [] cpos) (eOp dIdx f g) := by
  refine pe_imp (hpe he (pa_cons ha pa_nil hs)) fun σ H Q q => ?_
  obtain ⟨B, F, wa, w, env, S, d, st, w', hf, k⟩ := q
  unfold eOp at hf
  obtain ⟨⟨⟨d1, st1⟩, w1⟩, h1, h2⟩ := Option.bind_eq_some_iff.mp hf
  obtain ⟨⟨⟨d2, st2⟩, w2⟩, h3, h4⟩ := Option.bind_eq_some_iff.mp h2
  obtain ⟨⟨d3, st3⟩, h5, h6⟩ := Option.map_eq_some_iff.mp h4
  cases h6
  refine ⟨B, F, wa, w, env, S, d1, st1, w1, h1, fun v1 F1 H1 A1 r1 => ?_⟩
  unfold dIdx at h5
  dsimp only at h5
  split at h5
  · rename_i ds
    split at h5
    · rename_i hfl
      obtain ⟨j, h7, h8⟩ := Option.map_eq_some_iff.mp h5
      cases h8
      obtain ⟨a0, vs0, ea0, hh0, _⟩ := r1.cur
      subst ea0
      refine ⟨.inl ⟨rfl, vs0, .inl (.inl hh0)⟩, ?_⟩
      refine ⟨B, F1, wa, w1, env, S.aft A1, d2, st2, _, h3, fun v2 F2 H2 A2 r2 => ?_⟩
      obtain ⟨a1, vs, ea1, hh, rr⟩ := (r1.aft A2).cur
      cases ea1
      have rx := flatD_rep hfl.1 r2.cur
      obtain ⟨hj, hp, hlt⟩ := List.findIdx?_eq_some_iff_getElem.mp h7
      have rj := rr.at (List.getElem?_eq_getElem hj)
      obtain ⟨z, hz, rz⟩ := rj
      have fl : ∀ (m : Nat) (z' : V), vs[m]? = some z' → ∃ dm, ds[m]? = some dm ∧ flatD dm = true ∧ Rep (kwOf X) F2 wa H2 dm z' := fun m z' hz' => by
        obtain ⟨dm, e1, e2⟩ := rr.at' hz'
        exact ⟨dm, e1, List.all_eq_true.mp hfl.2 dm (List.mem_of_getElem? e1), e2⟩
      refine ⟨a0, vs, v2, j, z, rfl, rfl, .inl (.inl hh), flat_cur hfl.1 rx, flat_reps rr hfl.2, hz, ?_, ?_, (Res.behind S (A1.trans A2) k).fz A2.wk A2.fd rfl⟩
      · obtain ⟨dm, e1, e2, e3⟩ := fl j z hz
        rw [eqF_cur e2 hfl.1 e3 rx]
        rw [List.getElem?_eq_getElem hj] at e1
        cases e1
        exact hp
      · intro m z' hm hz'
        obtain ⟨dm, e1, e2, e3⟩ := fl m z' hz'
        rw [eqF_cur e2 hfl.1 e3 rx]
        have := hlt m hm
        rw [List.getElem?_eq_getElem (Nat.lt_trans hm hj)] at e1
        cases e1
        simpa using this
    · cases h5
  · cases h5
theorem i_str (he : Snd X e f) : SndC false X tg e (iStrD f) := by
  refine pi_imp (pi_str he) fun σ H R q => ?_
  obtain ⟨B, F, wa, w, env, S, ds, w', hf, k⟩ := q
  unfold iStrD at hf
  obtain ⟨⟨⟨d1, st1⟩, w1⟩, h1, h2⟩ := Option.bind_eq_some_iff.mp hf
  refine ⟨B, F, wa, w, env, S, d1, st1, w1, h1, fun v F1 H1 A r => ?_⟩
  dsimp only at h2
  split at h2
  · rename_i z
    cases h2
    refine ⟨z, r.cur, k _ F1 H1 A fun F2 H2 g1 g2 g3 => ⟨fun i d hd => ?_, ?_⟩⟩
    · unfold signs at hd
      rw [List.getElem?_map] at hd
      obtain ⟨c, h5, h6⟩ := Option.map_eq_some_iff.mp hd
      subst h6
      have hc : z.cps[i]? = some c := by rw [← h5]; simp
      refine ⟨(Array.getElem?_eq_some_iff.mp hc).1, fun x H3 y => ?_⟩
      obtain ⟨e3, c', h7, h8⟩ := y
      subst e3
      rw [hc] at h7
      cases h7
      exact ⟨F2, fun w2 wk fd => Aft.refl wk fd, .inl h8⟩
    · show z.cps.size ≤ (signs z).length
      unfold signs; simp
  · cases h2
theorem s_pop (i j : Nat) {x apos cpos pos' : Pos} {nm y : Str} (hN : X.N.Nodup) (hj : X.N[j]? = some y) (hx : Loc X.env.scope y) (ho : PE X (.Name nm x) (tVar i))
    (hpe : ∀ {to : TE}, PE X (.Name nm x) to → PE X (.Call (.Attribute (.Name nm x) "pop" apos) [] [] cpos) (tBM0 (kwOf X) "list" rPop to) := by
      intro to h1; exact pe_bm0 PySem.F.plainAttrs_list PySem.F.slot_list_pop PySem.F.type_list_pop mt_pop h1)
    (hs : swapsWith (.Call (.Attribute (.Name nm x) "pop" apos) [] [] cpos) (some (.Name y pos')) pos.line X.env = pure false := by rfl) (hf : X.fn y = true ∨ X.env.scope.names.lookup y = some .local := by first | exact .inl rfl | exact .inr rfl | assumption) :
    SndS X (.Assign [.Name y pos'] (.Call (.Attribute (.Name nm x) "pop" apos) [] [] cpos) pos) (sPop i j) := by
  refine ps_imp (ps_set hN hj hx (hpe ho) hs hf) fun Dn σ H q => ?_
  obtain ⟨B, F, wa, w, env, S, out, hf, k⟩ := q
  unfold sPop at hf
  split at hf
  · rename_i ds hd
    split at hf
    · rename_i d hl
      cases hf
      obtain ⟨a, vs, g1, g2, g3, g4⟩ := own_lst S hd
      obtain ⟨v, hv, rv⟩ := g3.at hl
      refine ⟨.ref a, g1, .inl ⟨rfl, vs, .inl (.inl g2)⟩, ?_⟩
      refine ⟨a, vs, v, rfl, rfl, g2, by rw [← g3.len]; exact hv, ?_⟩
      have g5 : Reps (kwOf X) F wa H ds.dropLast vs.dropLast := by
        rw [List.dropLast_eq_take, List.dropLast_eq_take, ← g3.len]; exact g3.take _
      obtain ⟨A2, S2⟩ := S.write (d' := .lst ds.dropLast) (o := .lst vs.dropLast) hd g1 ⟨_, rfl, g5⟩
      exact k _ F _ A2 (S2.set j (Rep.mono A2.sub A2.kf _ _ rv))
    · cases hf
  · cases hf
theorem enum_at : ∀ {xs : List D} {k : Int} {i : Nat} {d : D}, (enumD k xs)[i]? = some d → ∃ a, xs[i]? = some a ∧ d = .tup [.int (k + i), a]
  | [], _, _, _, h => nomatch h
  | x :: xs, k, 0, d, h => by
    simp [enumD] at h
    exact ⟨x, rfl, by rw [← h]; simp⟩
  | x :: xs, k, i + 1, d, h => by
    have h' : (enumD (k + 1) xs)[i]? = some d := h
    obtain ⟨a, h1, h2⟩ := enum_at h'
    refine ⟨a, by simpa using h1, ?_⟩
    rw [h2]
    have : k + 1 + (i : Int) = k + ((i + 1 : Nat) : Int) := by omega
    rw [this]
theorem enum_len : ∀ {xs : List D} {k : Int}, (enumD k xs).length = xs.length
  | [], _ => rfl
  | x :: xs, k => by simp [enumD, enum_len (xs := xs)]
theorem i_enum {p tpos : Pos} {elts : List Expr} {kk : Nat} {ga : EA} (hg : Gl X "enumerate") (hm : X.mg "enumerate" = none) (ha : SndA X [e] ga) (hone : ∀ env w ds w', ga env w = some (ds, w') → ds.length = 1) (hs : starEach [e] X.env = [(false, eval e X.env)] := by rfl) :
    SndC true X (.Tuple elts kk tpos) (.Call (.Name "enumerate" p) [e] [] pos) (iEnumD ga) := by
  refine pi_imp (pi_enum hg hm ha hs) fun σ H R q => ?_
  obtain ⟨B, F, wa, w, env, S, ds, w', hf, k⟩ := q
  unfold iEnumD at hf
  obtain ⟨⟨ps, w1⟩, h1, h2⟩ := Option.bind_eq_some_iff.mp hf
  have h0 := hone _ _ _ _ h1
  refine ⟨B, F, wa, w, env, S, ps, w1, h1, fun vs F1 H1 A r => ?_⟩
  have stab : ∀ {st : O3} {xs : List D} {v : V}, RS (kwOf X) B F1 wa H H1 (.lst xs) st v → ∃ a us, v = .ref a ∧ Reps (kwOf X) F1 wa H1 xs us ∧ ∀ H2, (∀ a o, F1 a → H1 a = some o → H2 a = some o) → (∀ a o, wa ≠ some a → H1 a = some o → H2 a = some o) → SqL (kwOf X) H2 a us := by
    intro st xs v r
    have own : ∀ a, OwnAt (kwOf X) F1 wa H1 (.lst xs) a → ∃ us, Reps (kwOf X) F1 wa H1 xs us ∧ ∀ H2, (∀ a o, F1 a → H1 a = some o → H2 a = some o) → (∀ a o, wa ≠ some a → H1 a = some o → H2 a = some o) → SqL (kwOf X) H2 a us := fun a o => by
      have o2 := o.2.1
      obtain ⟨vs, h, rr⟩ := o.lst
      exact ⟨vs, rr, fun H2 _ g => .inl (.inl (g _ _ o2 h))⟩
    cases st with
    | fz =>
      obtain ⟨a, vs, e, hF, h, rr⟩ := r
      exact ⟨a, vs, e, rr, fun H2 g _ => .inl (.inl (g _ _ hF h))⟩
    | ow => obtain ⟨a, e, o, _⟩ := r; obtain ⟨us, q1, q2⟩ := own a o; exact ⟨a, us, e, q1, q2⟩
    | bo => obtain ⟨a, e, o, _⟩ := r; obtain ⟨us, q1, q2⟩ := own a o; exact ⟨a, us, e, q1, q2⟩
  match ps, h0 with
  | [(d, st)], _ =>
    obtain ⟨r, _⟩ := r
    cases r with
    | @cons _ v1 _ _ r1 rr =>
      cases rr
      cases d with
      | lst xs =>
        cases h2
        obtain ⟨a, us, e1, p1, p2⟩ := stab r1
        refine ⟨a, us, by rw [show v1 = .ref a from e1], p2 H1 (fun _ _ _ h => h) (fun _ _ _ h => h), k _ F1 H1 A fun F2 H2 g1 g2 g3 => ?_⟩
        have q1 := p2 H2 g2 g3
        have s1 := p1.mono' g1 g2
        refine ⟨fun i d hd => ?_, ⟨us, q1, ?_⟩⟩
        · obtain ⟨x, z1, rfl⟩ := enum_at hd
          obtain ⟨vx, y1, y2⟩ := s1.at z1
          refine ⟨⟨us, vx, q1, y1⟩, fun x' H3 yl => ?_⟩
          obtain ⟨T, a1, e5, nT, e6, f1⟩ := yl
          have ex : a1 = vx := Option.some.inj ((f1 _ q1).symm.trans y1)
          subst ex e5 e6
          refine ⟨F2, fun w2 wk fd => Aft.new0 wk fd nT, .inr ⟨rfl, _, T, [.int (i : Nat), a1], rfl, rfl, .inl (.inl upd_same), ?_⟩⟩
          have m : ∀ d v, Rep (kwOf X) F2 wa H2 d v → Rep (kwOf X) F2 wa (upd H2 T (.tup [.int (i : Nat), a1])) d v := fun d v r => Rep.mono (fun _ z => z) (fun c o _ h => by rw [upd_ne (ne_of_none h nT)]; exact h) d v r
          exact ⟨.int (i : Nat), [a1], rfl, (by show V.int _ = V.int _; rw [Int.zero_add]), a1, [], rfl, m _ _ y2, rfl⟩
        · rw [enum_len, ← p1.len]
          exact Nat.le_refl _
      | _ => cases h2
end
end Dl

set_option Elab.async false
set_option linter.all false
set_option maxRecDepth 100000
set_option maxHeartbeats 4000000
namespace Dl
open PySem PySem.Spec PyProof.Rows L2
/-! ### order -/
/-- two data that can be compared -/
def cmpOk (a b : PyData) : Bool := PySem.W.alike a b && decide (min a.depth b.depth ≤ 60) && (match a with
  | .none => false
  | _ => true)
def rCmpD (K : KW) (f : PyData → PyData → Bool) : R2 := fun x y H Q => ∃ d e, Dp K H x d ∧ Dp K H y e ∧ cmpOk d e = true ∧ Q (.bl (f d e)) H
theorem cmpOk_of {a b : PyData} (h : cmpOk a b = true) : PySem.W.alike a b = true ∧ min a.depth b.depth ≤ 60 ∧ a ≠ .none := by
  unfold cmpOk at h
  simp only [Bool.and_eq_true, decide_eq_true_eq] at h
  exact ⟨h.1.1, h.1.2, fun e => by subst e; exact absurd h.2 (by simp)⟩
section
variable {X : Cx} {K : KW}
theorem op_ltD (hu : X.A.units + 64 < cLine) : OpR X (compareOp .Lt) (rCmpD (kwOf X) fun a b => PySem.W.dataLt a b) := by
  intro pins s σ H x y v u Q I rx ry h
  obtain ⟨d, e, hd, he, ok, q⟩ := h
  obtain ⟨o1, o2, o3⟩ := cmpOk_of ok
  obtain ⟨as, r1⟩ := Dp.reads I d x v hd rx
  obtain ⟨bs, r2⟩ := Dp.reads I e y u he ry
  exact PySem.W.lt_data r1 r2 o1 o3 (by omega) ⟨.bl _, H, I, rfl, q⟩
theorem op_gtD (hu : X.A.units + 64 < cLine) : OpR X (compareOp .Gt) (rCmpD (kwOf X) fun a b => PySem.W.dataLt b a) := by
  intro pins s σ H x y v u Q I rx ry h
  obtain ⟨d, e, hd, he, ok, q⟩ := h
  obtain ⟨o1, o2, o3⟩ := cmpOk_of ok
  obtain ⟨as, r1⟩ := Dp.reads I d x v hd rx
  obtain ⟨bs, r2⟩ := Dp.reads I e y u he ry
  exact PySem.W.gt_data r1 r2 o1 o3 (by omega) ⟨.bl _, H, I, rfl, q⟩
theorem op_leD (hu : X.A.units + 64 < cLine) : OpR X (compareOp .LtE) (rCmpD (kwOf X) fun a b => !PySem.W.dataLt b a) := by
  intro pins s σ H x y v u Q I rx ry h
  obtain ⟨d, e, hd, he, ok, q⟩ := h
  obtain ⟨o1, o2, o3⟩ := cmpOk_of ok
  obtain ⟨as, r1⟩ := Dp.reads I d x v hd rx
  obtain ⟨bs, r2⟩ := Dp.reads I e y u he ry
  exact PySem.W.le_data r1 r2 o1 o3 (by omega) ⟨.bl _, H, I, rfl, q⟩
theorem op_geD (hu : X.A.units + 64 < cLine) : OpR X (compareOp .GtE) (rCmpD (kwOf X) fun a b => !PySem.W.dataLt a b) := by
  intro pins s σ H x y v u Q I rx ry h
  obtain ⟨d, e, hd, he, ok, q⟩ := h
  obtain ⟨o1, o2, o3⟩ := cmpOk_of ok
  obtain ⟨as, r1⟩ := Dp.reads I d x v hd rx
  obtain ⟨bs, r2⟩ := Dp.reads I e y u he ry
  exact PySem.W.ge_data r1 r2 o1 o3 (by omega) ⟨.bl _, H, I, rfl, q⟩
/-- an order's answer over data -/
def dCmp (f : PyData → PyData → Bool) : D → D → Option DS := fun x y => match dPy x, dPy y with
  | some a, some b => if cmpOk a b = true then some (.bl (f a b), .fz) else none
  | _, _ => none
theorem sCmp (f : PyData → PyData → Bool) : OpS K (rCmpD K f) (dCmp f) := fun wa w F H x y d st v1 v2 wk fd c1 c2 e Q q => by
  unfold dCmp at e
  split at e
  · rename_i a b h1 h2
    split at e
    · rename_i hs
      cases e
      exact ⟨a, b, dPy_cur h1 c1, dPy_cur h2 c2, hs, q.fz wk fd rfl⟩
    · cases e
  · cases e
def dLtG : D → D → Option DS := dCmp fun a b => PySem.W.dataLt a b
def dGtG : D → D → Option DS := dCmp fun a b => PySem.W.dataLt b a
def dLeG : D → D → Option DS := dCmp fun a b => !PySem.W.dataLt b a
def dGeG : D → D → Option DS := dCmp fun a b => !PySem.W.dataLt a b
theorem sLtG : OpS K (rCmpD K fun a b => PySem.W.dataLt a b) dLtG := sCmp _
theorem sGtG : OpS K (rCmpD K fun a b => PySem.W.dataLt b a) dGtG := sCmp _
theorem sLeG : OpS K (rCmpD K fun a b => !PySem.W.dataLt b a) dLeG := sCmp _
theorem sGeG : OpS K (rCmpD K fun a b => !PySem.W.dataLt a b) dGeG := sCmp _
theorem dLtG_ii {i j : Int} : dLtG (.int i) (.int j) = some (.bl (decide (i < j)), .fz) := by
  show (if cmpOk (.int i) (.int j) = true then some (D.bl (PySem.W.dataLt (.int i) (.int j)), O3.fz) else none) = _
  rw [PySem.W.dataLt_int, if_pos (by simp [cmpOk, PySem.W.alike, PyData.depth])]
theorem dGtG_ii {i j : Int} : dGtG (.int i) (.int j) = some (.bl (decide (j < i)), .fz) := by
  show (if cmpOk (.int i) (.int j) = true then some (D.bl (PySem.W.dataLt (.int j) (.int i)), O3.fz) else none) = _
  rw [PySem.W.dataLt_int, if_pos (by simp [cmpOk, PySem.W.alike, PyData.depth])]
theorem dLeG_ii {i j : Int} : dLeG (.int i) (.int j) = some (.bl (decide (i ≤ j)), .fz) := by
  show (if cmpOk (.int i) (.int j) = true then some (D.bl (!PySem.W.dataLt (.int j) (.int i)), O3.fz) else none) = _
  rw [PySem.W.dataLt_int, if_pos (by simp [cmpOk, PySem.W.alike, PyData.depth]), PySem.W.not_lt_int]
theorem dGeG_ii {i j : Int} : dGeG (.int i) (.int j) = some (.bl (decide (j ≤ i)), .fz) := by
  show (if cmpOk (.int i) (.int j) = true then some (D.bl (!PySem.W.dataLt (.int i) (.int j)), O3.fz) else none) = _
  rw [PySem.W.dataLt_int, if_pos (by simp [cmpOk, PySem.W.alike, PyData.depth]), PySem.W.not_lt_int]
theorem dLtG_ss {i j : Str} : dLtG (.str i) (.str j) = some (.bl (decide (i.cps.toList < j.cps.toList)), .fz) := by
  show (if cmpOk (.str i) (.str j) = true then some (D.bl (PySem.W.dataLt (.str i) (.str j)), O3.fz) else none) = _
  rw [PySem.W.dataLt_str, if_pos (by simp [cmpOk, PySem.W.alike, PyData.depth])]
theorem dLeG_ss {i j : Str} : dLeG (.str i) (.str j) = some (.bl (decide (i.cps.toList ≤ j.cps.toList)), .fz) := by
  show (if cmpOk (.str i) (.str j) = true then some (D.bl (!PySem.W.dataLt (.str j) (.str i)), O3.fz) else none) = _
  rw [PySem.W.dataLt_str, if_pos (by simp [cmpOk, PySem.W.alike, PyData.depth]), PySem.W.not_lt_str]
theorem dGtG_ss {i j : Str} : dGtG (.str i) (.str j) = some (.bl (decide (j.cps.toList < i.cps.toList)), .fz) := by
  show (if cmpOk (.str i) (.str j) = true then some (D.bl (PySem.W.dataLt (.str j) (.str i)), O3.fz) else none) = _
  rw [PySem.W.dataLt_str, if_pos (by simp [cmpOk, PySem.W.alike, PyData.depth])]
theorem dGeG_ss {i j : Str} : dGeG (.str i) (.str j) = some (.bl (decide (j.cps.toList ≤ i.cps.toList)), .fz) := by
  show (if cmpOk (.str i) (.str j) = true then some (D.bl (!PySem.W.dataLt (.str i) (.str j)), O3.fz) else none) = _
  rw [PySem.W.dataLt_str, if_pos (by simp [cmpOk, PySem.W.alike, PyData.depth]), PySem.W.not_lt_str]
end
end Dl

set_option Elab.async false
set_option linter.all false
set_option maxRecDepth 100000
set_option maxHeartbeats 400000
namespace Dl
open PySem PySem.Spec PyProof.Rows L2
/-! ### reckoning with the forms: rows for simp that look at a part only when the part ahead is known -/
def bnd {α β : Type} (o : Option α) (f : α → Option β) : Option β := o.bind f
def cnd {β : Type} (c : Bool) (a b : Option β) : Option β := if c = true then a else b
@[simp] theorem bnd_some {α β : Type} (a : α) (f : α → Option β) : bnd (some a) f = f a := rfl
@[simp] theorem bnd_none {α β : Type} (f : α → Option β) : bnd none f = none := rfl
@[simp] theorem cnd_true {β : Type} (a b : Option β) : cnd true a b = a := rfl
@[simp] theorem cnd_false {β : Type} (a b : Option β) : cnd false a b = b := rfl
section
variable {env r : En} {w : Option Wd} {f g h f1 f2 f3 : EF} {t u : ET} {fa ga : EA} {sa sb : SB} {x : Option (D × Bool)} {d : D} {i : Nat}
@[simp] theorem eVar_0f : eVar 0 (some (d, false) :: r) w = some ((d, .fz), w) := rfl
@[simp] theorem eVar_0t : eVar 0 (some (d, true) :: r) w = some ((d, .bo), w) := rfl
@[simp] theorem eVar_s : eVar (i + 1) (x :: r) w = eVar i r w := rfl
@[simp] theorem eC_q : eC d env w = some ((d, .fz), w) := rfl
@[simp] theorem eDk0_q : eDk0 env w = some ((.dk [] [], .ow), w) := rfl
def fzP (p : DS × Option Wd) : Option (DS × Option Wd) := match p.1.2 with
  | .bo => none
  | _ => some ((p.1.1, .fz), p.2)
@[simp] theorem fzP_fz : fzP ((d, .fz), w) = some ((d, .fz), w) := rfl
@[simp] theorem fzP_ow : fzP ((d, .ow), w) = some ((d, .fz), w) := rfl
@[simp] theorem eFz_q : eFz f env w = bnd (f env w) fzP := rfl
def pairK {α : Type} (w : Option Wd) (r : α) : Option (α × Option Wd) := some (r, w)
@[simp] theorem pairK_q {α : Type} {r : α} : pairK w r = some (r, w) := rfl
theorem map_pair {α : Type} {o : Option α} {w : Option Wd} : (o.map fun r => (r, w)) = bnd o (pairK w) := by cases o <;> rfl
def opK2 (G : D → D → Option DS) (x : D) (q : DS × Option Wd) : Option (DS × Option Wd) := bnd (G x q.1.1) (pairK q.2)
@[simp] theorem opK2_q {G : D → D → Option DS} {x y : D} {s : O3} : opK2 G x ((y, s), w) = bnd (G x y) (pairK w) := rfl
def opK1 (G : D → D → Option DS) (g : EF) (env : En) (p : DS × Option Wd) : Option (DS × Option Wd) := bnd (g env p.2) (opK2 G p.1.1)
@[simp] theorem opK1_q {G : D → D → Option DS} {x : D} {s : O3} : opK1 G g env ((x, s), w) = bnd (g env w) (opK2 G x) := rfl
@[simp] theorem eOp_q {G : D → D → Option DS} : eOp G f g env w = bnd (f env w) (opK1 G g env) := by
  show (f env w).bind (fun p => (g env p.2).bind fun q => (G p.1.1 q.1.1).map fun r => (r, q.2)) = _
  refine congrArg (Option.bind _) (funext fun p => ?_)
  unfold opK1 bnd
  refine congrArg (Option.bind _) (funext fun q => ?_)
  exact map_pair
def unK (G : D → Option DS) (p : DS × Option Wd) : Option (DS × Option Wd) := bnd (G p.1.1) (pairK p.2)
@[simp] theorem unK_q {G : D → Option DS} {x : D} {s : O3} : unK G ((x, s), w) = bnd (G x) (pairK w) := rfl
@[simp] theorem eUn_q {G : D → Option DS} : eUn G f env w = bnd (f env w) (unK G) := by
  show (f env w).bind (fun p => (G p.1.1).map fun r => (r, p.2)) = _
  refine congrArg (Option.bind _) (funext fun p => ?_)
  exact map_pair
@[simp] theorem aNil_q : aNil env w = some ([], w) := rfl
def acK2 (x : DS) (q : List DS × Option Wd) : Option (List DS × Option Wd) := some (x :: q.1, q.2)
@[simp] theorem acK2_q {x : DS} {l : List DS} : acK2 x (l, w) = some (x :: l, w) := rfl
def acK1 (fa : EA) (env : En) (p : DS × Option Wd) : Option (List DS × Option Wd) := bnd (fa env p.2) (acK2 p.1)
@[simp] theorem acK1_q {x : DS} : acK1 fa env (x, w) = bnd (fa env w) (acK2 x) := rfl
@[simp] theorem aCons_q : aCons f fa env w = bnd (f env w) (acK1 fa env) := rfl
def eAK (G : List D → Option DS) (p : List DS × Option Wd) : Option (DS × Option Wd) := bnd (G (p.1.map (·.1))) (pairK p.2)
@[simp] theorem eAK_q {G : List D → Option DS} {l : List DS} : eAK G (l, w) = bnd (G (l.map (·.1))) (pairK w) := rfl
@[simp] theorem eA_q {G : List D → Option DS} : eA G fa env w = bnd (fa env w) (eAK G) := by
  show (fa env w).bind (fun p => (G (p.1.map (·.1))).map fun r => (r, p.2)) = _
  refine congrArg (Option.bind _) (funext fun p => ?_)
  exact map_pair
@[simp] theorem allFz_nil : allFz [] = true := rfl
@[simp] theorem allFz_cons {l : List DS} : allFz ((d, .fz) :: l) = allFz l := rfl
def eTupK (p : List DS × Option Wd) : Option (DS × Option Wd) := cnd (allFz p.1 && decide (p.1.length ≤ 1000)) (some ((.tup (p.1.map (·.1)), .fz), p.2)) none
@[simp] theorem eTupK_q {l : List DS} : eTupK (l, w) = cnd (allFz l && decide (l.length ≤ 1000)) (some ((.tup (l.map (·.1)), .fz), w)) none := rfl
@[simp] theorem eTup_q : eTup fa env w = bnd (fa env w) eTupK := by
  show (fa env w).bind (fun p => if allFz p.1 = true ∧ p.1.length ≤ 1000 then _ else none) = _
  refine congrArg (Option.bind _) (funext fun p => ?_)
  show (if allFz p.1 = true ∧ p.1.length ≤ 1000 then _ else none) = if (allFz p.1 && decide (p.1.length ≤ 1000)) = true then _ else none
  simp only [Bool.and_eq_true, decide_eq_true_eq]
def eLstK (p : List DS × Option Wd) : Option (DS × Option Wd) := cnd (allFz p.1 && decide (p.1.length ≤ 1000)) (some ((.lst (p.1.map (·.1)), .ow), p.2)) none
@[simp] theorem eLstK_q {l : List DS} : eLstK (l, w) = cnd (allFz l && decide (l.length ≤ 1000)) (some ((.lst (l.map (·.1)), .ow), w)) none := rfl
@[simp] theorem eLst_q : eLst fa env w = bnd (fa env w) eLstK := by
  show (fa env w).bind (fun p => if allFz p.1 = true ∧ p.1.length ≤ 1000 then _ else none) = _
  refine congrArg (Option.bind _) (funext fun p => ?_)
  show (if allFz p.1 = true ∧ p.1.length ≤ 1000 then _ else none) = if (allFz p.1 && decide (p.1.length ≤ 1000)) = true then _ else none
  simp only [Bool.and_eq_true, decide_eq_true_eq]
def callK (F : Fn) (p : List DS × Option Wd) : Option (DS × Option Wd) := cnd (allFz p.1) (F (p.1.map (·.1)) p.2) none
@[simp] theorem callK_q {F : Fn} {l : List DS} : callK F (l, w) = cnd (allFz l) (F (l.map (·.1)) w) none := rfl
@[simp] theorem eCall_q {F : Fn} : eCall F fa env w = bnd (fa env w) (callK F) := rfl
def ifK (f g : EF) (env : En) (p : Bool × Option Wd) : Option (DS × Option Wd) := if p.1 = true then f env p.2 else g env p.2
@[simp] theorem ifK_t : ifK f g env (true, w) = f env w := rfl
@[simp] theorem ifK_f : ifK f g env (false, w) = g env w := rfl
@[simp] theorem eIf_q : eIf t f g env w = bnd (t env w) (ifK f g env) := rfl
def notK (w : Option Wd) (b : Bool) : Option (DS × Option Wd) := some ((.bl (!b), .fz), w)
@[simp] theorem notK_q {b : Bool} : notK w b = some ((.bl (!b), .fz), w) := rfl
def notK1 (p : DS × Option Wd) : Option (DS × Option Wd) := bnd (truD p.1.1) (notK p.2)
@[simp] theorem notK1_q {x : D} {s : O3} : notK1 ((x, s), w) = bnd (truD x) (notK w) := rfl
@[simp] theorem eNot_q : eNot f env w = bnd (f env w) notK1 := by
  show (f env w).bind (fun p => (truD p.1.1).map fun b => ((D.bl (!b), O3.fz), p.2)) = _
  refine congrArg (Option.bind _) (funext fun p => ?_)
  show Option.map _ (truD p.1.1) = (truD p.1.1).bind _
  cases truD p.1.1 <;> rfl
def andK2 (g : EF) (env : En) (p : DS × Option Wd) (b : Bool) : Option (DS × Option Wd) := if b = true then g env p.2 else some p
@[simp] theorem andK2_t {x : DS} : andK2 g env (x, w) true = g env w := rfl
@[simp] theorem andK2_f {x : DS} : andK2 g env (x, w) false = some (x, w) := rfl
def andK1 (g : EF) (env : En) (p : DS × Option Wd) : Option (DS × Option Wd) := bnd (truD p.1.1) (andK2 g env p)
@[simp] theorem andK1_q {x : D} {s : O3} : andK1 g env ((x, s), w) = bnd (truD x) (andK2 g env ((x, s), w)) := rfl
@[simp] theorem eAnd_q : eAnd f g env w = bnd (f env w) (andK1 g env) := rfl
def orK2 (g : EF) (env : En) (p : DS × Option Wd) (b : Bool) : Option (DS × Option Wd) := if b = true then some p else g env p.2
@[simp] theorem orK2_f {x : DS} : orK2 g env (x, w) false = g env w := rfl
@[simp] theorem orK2_t {x : DS} : orK2 g env (x, w) true = some (x, w) := rfl
def orK1 (g : EF) (env : En) (p : DS × Option Wd) : Option (DS × Option Wd) := bnd (truD p.1.1) (orK2 g env p)
@[simp] theorem orK1_q {x : D} {s : O3} : orK1 g env ((x, s), w) = bnd (truD x) (orK2 g env ((x, s), w)) := rfl
@[simp] theorem eOr_q : eOr f g env w = bnd (f env w) (orK1 g env) := rfl
def valP (p : DS × Option Wd) : Option (Bool × Option Wd) := match p.1.1 with
  | .bl b => some (b, p.2)
  | _ => none
@[simp] theorem valP_bl {b : Bool} {s : O3} : valP ((.bl b, s), w) = some (b, w) := rfl
@[simp] theorem tVal_q : tVal f env w = bnd (f env w) valP := rfl
def truK (p : DS × Option Wd) : Option (Bool × Option Wd) := bnd (truD p.1.1) (pairK p.2)
@[simp] theorem truK_q {x : D} {s : O3} : truK ((x, s), w) = bnd (truD x) (pairK w) := rfl
@[simp] theorem tTru_q : tTru f env w = bnd (f env w) truK := by
  show (f env w).bind (fun p => (truD p.1.1).map fun b => (b, p.2)) = _
  refine congrArg (Option.bind _) (funext fun p => ?_)
  exact map_pair
def anK (u : ET) (env : En) (p : Bool × Option Wd) : Option (Bool × Option Wd) := if p.1 = true then u env p.2 else some (false, p.2)
@[simp] theorem anK_t : anK u env (true, w) = u env w := rfl
@[simp] theorem anK_f : anK u env (false, w) = some (false, w) := rfl
@[simp] theorem tAn_q : tAn t u env w = bnd (t env w) (anK u env) := rfl
def orK (u : ET) (env : En) (p : Bool × Option Wd) : Option (Bool × Option Wd) := if p.1 = true then some (true, p.2) else u env p.2
@[simp] theorem orK_f : orK u env (false, w) = u env w := rfl
@[simp] theorem orK_t : orK u env (true, w) = some (true, w) := rfl
@[simp] theorem tOrr_q : tOrr t u env w = bnd (t env w) (orK u env) := rfl
def noK (p : Bool × Option Wd) : Option (Bool × Option Wd) := some (!p.1, p.2)
@[simp] theorem noK_q {b : Bool} : noK (b, w) = some (!b, w) := rfl
@[simp] theorem tNo_q : tNo t env w = bnd (t env w) noK := rfl
@[simp] theorem tYes_q : tYesD env w = some (true, w) := rfl
@[simp] theorem oNone_q : oNone env w = some (none, w) := rfl
def intP (p : DS × Option Wd) : Option (Option Int × Option Wd) := match p.1.1 with
  | .int i => some (some i, p.2)
  | _ => none
@[simp] theorem intP_int {j : Int} {s : O3} : intP ((.int j, s), w) = some (some j, w) := rfl
@[simp] theorem oSome_q : oSome f env w = bnd (f env w) intP := rfl
def slK3 (G : D → Option Int → Option Int → Option DS) (x : D) (l : Option Int) (p : Option Int × Option Wd) : Option (DS × Option Wd) := bnd (G x l p.1) (pairK p.2)
@[simp] theorem slK3_q {G : D → Option Int → Option Int → Option DS} {x : D} {l h : Option Int} : slK3 G x l (h, w) = bnd (G x l h) (pairK w) := rfl
def slK2 (G : D → Option Int → Option Int → Option DS) (h : EO) (env : En) (x : D) (p : Option Int × Option Wd) : Option (DS × Option Wd) := bnd (h env p.2) (slK3 G x p.1)
@[simp] theorem slK2_q {G : D → Option Int → Option Int → Option DS} {h : EO} {x : D} {l : Option Int} : slK2 G h env x (l, w) = bnd (h env w) (slK3 G x l) := rfl
def slK1 (G : D → Option Int → Option Int → Option DS) (l h : EO) (env : En) (p : DS × Option Wd) : Option (DS × Option Wd) := bnd (l env p.2) (slK2 G h env p.1.1)
@[simp] theorem slK1_q {G : D → Option Int → Option Int → Option DS} {l h : EO} {x : D} {s : O3} : slK1 G l h env ((x, s), w) = bnd (l env w) (slK2 G h env x) := rfl
@[simp] theorem eSl_q {G : D → Option Int → Option Int → Option DS} {l h : EO} : eSl G f l h env w = bnd (f env w) (slK1 G l h env) := by
  show (f env w).bind (fun p => (l env p.2).bind fun q => (h env q.2).bind fun r => (G p.1.1 q.1 r.1).map fun d => (d, r.2)) = _
  refine congrArg (Option.bind _) (funext fun p => ?_)
  unfold slK1 bnd
  refine congrArg (Option.bind _) (funext fun q => ?_)
  unfold slK2 bnd
  refine congrArg (Option.bind _) (funext fun r => ?_)
  exact map_pair
/-! statements -/
@[simp] theorem sNil_q : sNil env w = some (.nx env w) := rfl
@[simp] theorem sBrk_q : sBrk env w = some (.bk env w) := rfl
@[simp] theorem sCnt_q : sCnt env w = some (.ct env w) := rfl
def nxt (h : SB) : Out → Option Out
  | .nx e w' => h e w'
  | o => some o
@[simp] theorem nxt_nx : nxt sb (.nx env w) = sb env w := rfl
@[simp] theorem nxt_rt {p : DS} : nxt sb (.rt p w) = some (.rt p w) := rfl
@[simp] theorem nxt_bk : nxt sb (.bk env w) = some (.bk env w) := rfl
@[simp] theorem nxt_ct : nxt sb (.ct env w) = some (.ct env w) := rfl
@[simp] theorem sSeq_q : sSeq sa sb env w = bnd (sa env w) (nxt sb) := by
  show (sa env w).bind _ = _
  refine congrArg (Option.bind _) (funext fun o => ?_)
  cases o <;> rfl
def setP (i : Nat) (env : En) (p : DS × Option Wd) : Option Out := match p.1.2 with
  | .fz => some (.nx (env.set i (some (p.1.1, false))) p.2)
  | .ow => some (.nx (env.set i (some (p.1.1, true))) p.2)
  | .bo => none
@[simp] theorem setP_fz : setP i env ((d, .fz), w) = some (.nx (env.set i (some (d, false))) w) := rfl
@[simp] theorem setP_ow : setP i env ((d, .ow), w) = some (.nx (env.set i (some (d, true))) w) := rfl
@[simp] theorem sSet_q : sSet i f env w = bnd (f env w) (setP i env) := rfl
def retK (p : DS × Option Wd) : Option Out := some (.rt p.1 p.2)
@[simp] theorem retK_q {x : DS} : retK (x, w) = some (.rt x w) := rfl
@[simp] theorem sRet_q : sRet f env w = bnd (f env w) retK := rfl
def drpK (env : En) (p : DS × Option Wd) : Option Out := some (.nx env p.2)
@[simp] theorem drpK_q {x : DS} : drpK env (x, w) = some (.nx env w) := rfl
@[simp] theorem sDrop_q : sDrop f env w = bnd (f env w) (drpK env) := rfl
def sifK (sa sb : SB) (env : En) (p : Bool × Option Wd) : Option Out := if p.1 = true then sa env p.2 else sb env p.2
@[simp] theorem sifK_t : sifK sa sb env (true, w) = sa env w := rfl
@[simp] theorem sifK_f : sifK sa sb env (false, w) = sb env w := rfl
@[simp] theorem sIf_q : sIf t sa sb env w = bnd (t env w) (sifK sa sb env) := rfl
@[simp] theorem clr_nil : clr [] env = env := rfl
def clr1 : Nat → En → En
  | 0, some (d, _) :: r => some (d, false) :: r
  | i + 1, x :: r => x :: clr1 i r
  | _, e => e
theorem clr1_ok : ∀ (i : Nat) (env : En), (match env[i]? with
  | some (some (d, _)) => env.set i (some (d, false))
  | _ => env) = clr1 i env
  | i, [] => by cases i <;> rfl
  | 0, none :: r => rfl
  | 0, some (d, b) :: r => rfl
  | i + 1, x :: r => by
    have ih := clr1_ok i r
    show (match r[i]? with
      | some (some (d, _)) => x :: r.set i (some (d, false))
      | _ => x :: r) = x :: clr1 i r
    rw [← ih]
    cases r[i]? with
    | none => rfl
    | some y => cases y with
      | none => rfl
      | some z => rfl
@[simp] theorem clr_cons {is : List Nat} : clr (i :: is) env = clr is (clr1 i env) := by
  rw [← clr1_ok]; rfl
@[simp] theorem clr1_0 {b : Bool} : clr1 0 (some (d, b) :: r) = some (d, false) :: r := rfl
@[simp] theorem clr1_0n : clr1 0 (none :: r) = none :: r := rfl
@[simp] theorem clr1_s : clr1 (i + 1) (x :: r) = x :: clr1 i r := rfl
@[simp] theorem sFrz_q {is : List Nat} : sFrz is sa env w = sa (clr is env) w := rfl
def getE : Nat → En → Option (D × Bool)
  | 0, x :: _ => x
  | i + 1, _ :: r => getE i r
  | _, [] => none
@[simp] theorem getE_0 : getE 0 (x :: r) = x := rfl
@[simp] theorem getE_s : getE (i + 1) (x :: r) = getE i r := rfl
theorem getE_ok : ∀ (i : Nat) (env : En), getE i env = (env[i]?).bind id
  | i, [] => by cases i <;> rfl
  | 0, x :: r => rfl
  | i + 1, x :: r => by
    show getE i r = _
    rw [getE_ok i r]; rfl
theorem get_id {i : Nat} {env : En} {d : D} {b : Bool} : env[i]? = some (some (d, b)) ↔ getE i env = some (d, b) := by
  rw [getE_ok]
  cases env[i]? with
  | none => simp
  | some x => simp
theorem sAug_q {G : D → D → Option DS} {d x : D} {w1 : Option Wd} {s : O3} {y : D} (h1 : getE i env = some (d, false)) (h2 : f env w = some ((x, s), w1)) (h3 : G d x = some (y, .fz)) : sAug i G f env w = some (.nx (env.set i (some (y, false))) w1) := by
  unfold sAug
  rw [get_id.mpr h1]
  show (f env w).bind _ = _
  rw [h2]
  show (G d x).bind _ = _
  rw [h3]; rfl
def appP (i : Nat) (env : En) (p : DS × Option Wd) : Option (D × Bool) → Option Out
  | some (.lst ds, true) => cnd (decide (ds.length < lim)) (some (.nx (env.set i (some (.lst (ds ++ [p.1.1]), true))) p.2)) none
  | _ => none
@[simp] theorem appP_q {p : DS × Option Wd} {ds : List D} : appP i env p (some (.lst ds, true)) = cnd (decide (ds.length < lim)) (some (.nx (env.set i (some (.lst (ds ++ [p.1.1]), true))) p.2)) none := rfl
theorem ite_cnd {β : Type} {c : Prop} [Decidable c] {a b : Option β} : (if c then a else b) = cnd (decide c) a b := by
  unfold cnd
  by_cases h : c <;> simp [h]
def appK (i : Nat) (env : En) (x : Option (D × Bool)) (p : DS × Option Wd) : Option Out := appP i env p x
@[simp] theorem appK_q {x : Option (D × Bool)} {y : DS} : appK i env x (y, w) = appP i env (y, w) x := rfl
@[simp] theorem sApp_q : sApp i f env w = bnd (eFz f env w) (appK i env (getE i env)) := by
  show (eFz f env w).bind _ = (eFz f env w).bind _
  refine congrArg (Option.bind _) (funext fun p => ?_)
  split
  · rename_i ds h
    rw [get_id.mp h, ite_cnd]; rfl
  · rename_i h
    cases hg : getE i env with
    | none => rfl
    | some x =>
      obtain ⟨d, b⟩ := x
      have := get_id.mpr hg
      cases d with
      | lst ds => cases b with
        | true => exact absurd this (h ds)
        | false => rfl
      | _ => rfl
def insP (i : Nat) (env : En) (p : DS × Option Wd) : Option (D × Bool) → Option Out
  | some (.lst ds, true) => cnd (decide (ds.length < lim)) (some (.nx (env.set i (some (.lst (p.1.1 :: ds), true))) p.2)) none
  | _ => none
@[simp] theorem insP_q {p : DS × Option Wd} {ds : List D} : insP i env p (some (.lst ds, true)) = cnd (decide (ds.length < lim)) (some (.nx (env.set i (some (.lst (p.1.1 :: ds), true))) p.2)) none := rfl
def insK (i : Nat) (env : En) (x : Option (D × Bool)) (p : DS × Option Wd) : Option Out := insP i env p x
@[simp] theorem insK_q {x : Option (D × Bool)} {y : DS} : insK i env x (y, w) = insP i env (y, w) x := rfl
@[simp] theorem sIns0_q : sIns0 i f env w = bnd (eFz f env w) (insK i env (getE i env)) := by
  show (eFz f env w).bind _ = (eFz f env w).bind _
  refine congrArg (Option.bind _) (funext fun p => ?_)
  split
  · rename_i ds h
    rw [get_id.mp h, ite_cnd]; rfl
  · rename_i h
    cases hg : getE i env with
    | none => rfl
    | some x =>
      obtain ⟨d, b⟩ := x
      have := get_id.mpr hg
      cases d with
      | lst ds => cases b with
        | true => exact absurd this (h ds)
        | false => rfl
      | _ => rfl
def extP (i : Nat) (env : En) (p : DS × Option Wd) : Option (D × Bool) → Option Out
  | some (.lst ds, true) => match p.1 with
    | (.lst es, .ow) => cnd (decide (ds.length + es.length < lim)) (some (.nx (env.set i (some (.lst (ds ++ es), true))) p.2)) none
    | _ => none
  | _ => none
@[simp] theorem extP_q {ds es : List D} : extP i env ((.lst es, .ow), w) (some (.lst ds, true)) = cnd (decide (ds.length + es.length < lim)) (some (.nx (env.set i (some (.lst (ds ++ es), true))) w)) none := rfl
theorem sExt_q {ds es : List D} {w1 : Option Wd} (h1 : getE i env = some (.lst ds, true)) (h2 : f env w = some ((.lst es, .ow), w1)) (h3 : ds.length + es.length < lim) : sExt i f env w = some (.nx (env.set i (some (.lst (ds ++ es), true))) w1) := by
  unfold sExt
  rw [h2, get_id.mpr h1]
  show (if ds.length + es.length < lim then _ else _) = _
  rw [if_pos h3]
@[simp] theorem sTick_q {W : Wd} : sTick 0 (some (.w, false) :: r) (some W) = some (.nx (some (.w, false) :: r) (some ⟨W.draws, W.ix + 1⟩)) := rfl
@[simp] theorem eWget_0 {W : Wd} {a : Bool} : eWget 0 a (some (.w, false) :: r) (some W) = some ((if a = true then .int W.ix else .lst (W.draws.map D.int), .fz), some W) := rfl
@[simp] theorem eWget_s {a : Bool} : eWget (i + 1) a (x :: r) w = eWget i a r w := rfl
def getP (ks : List Key) (ds : List D) (k : Key) (p : DS × Option Wd) : Option (DS × Option Wd) := some (match dFind ks ds k with
  | some x => (x, .fz)
  | none => p.1, p.2)
def getK3 (h : EF) (env : En) (ks : List Key) (ds : List D) (w : Option Wd) (k : Key) : Option (DS × Option Wd) := bnd (eFz h env w) (getP ks ds k)
@[simp] theorem getK3_q {ks : List Key} {ds : List D} {k : Key} : getK3 h env ks ds w k = bnd (eFz h env w) (getP ks ds k) := rfl
def getK2 (h : EF) (env : En) (ks : List Key) (ds : List D) (q : DS × Option Wd) : Option (DS × Option Wd) := bnd (keyD q.1.1) (getK3 h env ks ds q.2)
@[simp] theorem getK2_q {ks : List Key} {ds : List D} {x : D} {s : O3} : getK2 h env ks ds ((x, s), w) = bnd (keyD x) (getK3 h env ks ds w) := rfl
def get2P (g h : EF) (env : En) (p : DS × Option Wd) : Option (DS × Option Wd) := match p.1.1 with
  | .dk ks ds => bnd (g env p.2) (getK2 h env ks ds)
  | _ => none
@[simp] theorem get2P_q {ks : List Key} {ds : List D} {s : O3} : get2P g h env ((.dk ks ds, s), w) = bnd (g env w) (getK2 h env ks ds) := rfl
@[simp] theorem eGet2_q : eGet2 f g h env w = bnd (f env w) (get2P g h env) := by
  show (f env w).bind _ = _
  refine congrArg (Option.bind _) (funext fun p => ?_)
  obtain ⟨⟨d, s⟩, w'⟩ := p
  cases d <;> rfl
def nxK (w : Option Wd) (e : En) : Option Out := some (.nx e w)
@[simp] theorem nxK_q : nxK w env = some (.nx env w) := rfl
def unpK (set : ESet) (env : En) (p : DS × Option Wd) : Option Out := bnd (set p.1.1 env) (nxK p.2)
@[simp] theorem unpK_q {set : ESet} {x : D} {s : O3} : unpK set env ((x, s), w) = bnd (set x env) (nxK w) := rfl
@[simp] theorem sUnp_q {set : ESet} : sUnp set f env w = bnd (eFz f env w) (unpK set env) := by
  show (eFz f env w).bind (fun p => (set p.1.1 env).map fun e => Out.nx e p.2) = _
  refine congrArg (Option.bind _) (funext fun p => ?_)
  show Option.map _ (set p.1.1 env) = (set p.1.1 env).bind _
  cases set p.1.1 env <;> rfl
@[simp] theorem setN_q : setN i d env = some (env.set i (some (d, false))) := rfl
@[simp] theorem setT_q {is : List Nat} {ds : List D} : setT is (.tup ds) env = setL is ds env := rfl
@[simp] theorem setL_nil : setL [] [] env = some env := rfl
@[simp] theorem setL_cons {is : List Nat} {ds : List D} : setL (i :: is) (d :: ds) env = setL is ds (env.set i (some (d, false))) := rfl
def parP (i j : Nat) (env : En) (p : List DS × Option Wd) : Option Out := match p.1 with
  | [(d, s), (e, t)] => if s ≠ .bo ∧ t ≠ .bo then some (.nx ((env.set i (some (d, s == .ow))).set j (some (e, t == .ow))) p.2) else none
  | _ => none
@[simp] theorem parP_ff {j : Nat} {e : D} : parP i j env ([(d, .fz), (e, .fz)], w) = some (.nx ((env.set i (some (d, false))).set j (some (e, false))) w) := rfl
@[simp] theorem parP_fo {j : Nat} {e : D} : parP i j env ([(d, .fz), (e, .ow)], w) = some (.nx ((env.set i (some (d, false))).set j (some (e, true))) w) := rfl
@[simp] theorem parP_of {j : Nat} {e : D} : parP i j env ([(d, .ow), (e, .fz)], w) = some (.nx ((env.set i (some (d, true))).set j (some (e, false))) w) := rfl
@[simp] theorem parP_oo {j : Nat} {e : D} : parP i j env ([(d, .ow), (e, .ow)], w) = some (.nx ((env.set i (some (d, true))).set j (some (e, true))) w) := rfl
@[simp] theorem sPar_q {j : Nat} : sPar i j fa env w = bnd (fa env w) (parP i j env) := rfl
/-! sources, loops, comprehensions -/
@[simp] theorem itemsOf_lst {ds : List D} : itemsOf (.lst ds) = some ds := rfl
@[simp] theorem itemsOf_tup {ds : List D} : itemsOf (.tup ds) = some ds := rfl
def seqK (p : DS × Option Wd) : Option (List D × Option Wd) := bnd (itemsOf p.1.1) (pairK p.2)
@[simp] theorem seqK_q {x : D} {s : O3} : seqK ((x, s), w) = bnd (itemsOf x) (pairK w) := rfl
@[simp] theorem iSeq_q : iSeq f env w = bnd (f env w) seqK := by
  show (f env w).bind (fun p => (itemsOf p.1.1).map fun ds => (ds, p.2)) = _
  refine congrArg (Option.bind _) (funext fun p => ?_)
  exact map_pair
def rngK (p : List DS × Option Wd) : Option (List D × Option Wd) := match p.1 with
  | [(.int j, _)] => if -1000000 ≤ j ∧ j ≤ 1000000 then some (rangeD 0 j, p.2) else none
  | [(.int i, _), (.int j, _)] => if (-1000000 ≤ i ∧ i ≤ 1000000) ∧ -1000000 ≤ j ∧ j ≤ 1000000 then some (rangeD i j, p.2) else none
  | [(.int i, _), (.int j, _), (.int c, _)] => if ((-1000000 ≤ i ∧ i ≤ 1000000) ∧ -1000000 ≤ j ∧ j ≤ 1000000) ∧ c = -1 then some (downD i j, p.2) else none
  | _ => none
@[simp] theorem iRange_q : iRange fa env w = bnd (fa env w) rngK := rfl
theorem rngK_1 {j : Int} {s : O3} (h : -1000000 ≤ j ∧ j ≤ 1000000) : rngK ([(.int j, s)], w) = some (rangeD 0 j, w) := if_pos h
theorem rngK_2 {i j : Int} {s t : O3} (h : (-1000000 ≤ i ∧ i ≤ 1000000) ∧ -1000000 ≤ j ∧ j ≤ 1000000) : rngK ([(.int i, s), (.int j, t)], w) = some (rangeD i j, w) := if_pos h
theorem rngK_3 {i j : Int} {s t u : O3} (h : (-1000000 ≤ i ∧ i ≤ 1000000) ∧ -1000000 ≤ j ∧ j ≤ 1000000) : rngK ([(.int i, s), (.int j, t), (.int (-1), u)], w) = some (downD i j, w) := if_pos ⟨h, rfl⟩
def forK (set : ESet) (sa : SB) (env : En) (p : List D × Option Wd) : Option Out := forL set sa p.1 env p.2
@[simp] theorem forK_q {set : ESet} {l : List D} : forK set sa env (l, w) = forL set sa l env w := rfl
@[simp] theorem sFor_q {set : ESet} {fi : EI} : sFor set fi sa env w = bnd (fi env w) (forK set sa env) := rfl
@[simp] theorem forL_nil {set : ESet} : forL set sa [] env w = some (.nx env w) := rfl
def forP (set : ESet) (sa : SB) (ds : List D) : Out → Option Out
  | .nx e w' => forL set sa ds e w'
  | .ct e w' => forL set sa ds e w'
  | .bk e w' => some (.nx e w')
  | .rt r w' => some (.rt r w')
@[simp] theorem forP_nx {set : ESet} {ds : List D} : forP set sa ds (.nx env w) = forL set sa ds env w := rfl
@[simp] theorem forP_ct {set : ESet} {ds : List D} : forP set sa ds (.ct env w) = forL set sa ds env w := rfl
@[simp] theorem forP_bk {set : ESet} {ds : List D} : forP set sa ds (.bk env w) = some (.nx env w) := rfl
@[simp] theorem forP_rt {set : ESet} {ds : List D} {p : DS} : forP set sa ds (.rt p w) = some (.rt p w) := rfl
def forK2 (set : ESet) (sa : SB) (ds : List D) (w : Option Wd) (e1 : En) : Option Out := bnd (sa e1 w) (forP set sa ds)
@[simp] theorem forK2_q {set : ESet} {ds : List D} : forK2 set sa ds w env = bnd (sa env w) (forP set sa ds) := rfl
theorem forL_cons {set : ESet} {ds : List D} : forL set sa (d :: ds) env w = bnd (set d env) (forK2 set sa ds w) := by
  show (set d env).bind _ = (set d env).bind _
  refine congrArg (Option.bind _) (funext fun e1 => ?_)
  show (sa e1 w).bind _ = (sa e1 w).bind _
  refine congrArg (Option.bind _) (funext fun o => ?_)
  cases o <;> rfl
@[simp] theorem wipeE_nil : wipeE env [] = env := rfl
@[simp] theorem wipeE_cons {vs : List Nat} : wipeE env (i :: vs) = (wipeE env vs).set i none := rfl
def lcK2 (r : List D × Option Wd) : Option (DS × Option Wd) := some ((.lst r.1, .ow), r.2)
@[simp] theorem lcK2_q {l : List D} : lcK2 (l, w) = some ((.lst l, .ow), w) := rfl
def lcK (vs : List Nat) (set : ESet) (t : ET) (f : EF) (env : En) (p : List D × Option Wd) : Option (DS × Option Wd) := if p.1.length ≤ lim then bnd (lcL set t f p.1 (wipeE env vs) p.2) lcK2 else none
theorem lcK_q {vs : List Nat} {set : ESet} {l : List D} (h : l.length ≤ lim) : lcK vs set t f env (l, w) = bnd (lcL set t f l (wipeE env vs) w) lcK2 := if_pos h
@[simp] theorem eLC_q {vs : List Nat} {set : ESet} {fi : EI} : eLC vs set fi t f env w = bnd (fi env w) (lcK vs set t f env) := by
  show (fi env w).bind _ = (fi env w).bind _
  refine congrArg (Option.bind _) (funext fun p => ?_)
  show (if _ then _ else _) = if _ then _ else _
  congr 1
  show (lcL set t f p.1 (wipeE env vs) p.2).map _ = (lcL set t f p.1 (wipeE env vs) p.2).bind _
  cases lcL set t f p.1 (wipeE env vs) p.2 <;> rfl
@[simp] theorem lcL_nil {set : ESet} : lcL set t f [] env w = some ([], w) := rfl
def lcC (x : D) (r : List D × Option Wd) : Option (List D × Option Wd) := some (x :: r.1, r.2)
@[simp] theorem lcC_q {x : D} {l : List D} : lcC x (l, w) = some (x :: l, w) := rfl
def lcC3 (set : ESet) (t : ET) (f : EF) (ds : List D) (env : En) (q : DS × Option Wd) : Option (List D × Option Wd) := bnd (lcL set t f ds env q.2) (lcC q.1.1)
@[simp] theorem lcC3_q {set : ESet} {ds : List D} {x : D} {s : O3} : lcC3 set t f ds env ((x, s), w) = bnd (lcL set t f ds env w) (lcC x) := rfl
def lcC2 (set : ESet) (t : ET) (f : EF) (ds : List D) (env e1 : En) (p : Bool × Option Wd) : Option (List D × Option Wd) := if p.1 = true then bnd (eFz f e1 p.2) (lcC3 set t f ds env) else lcL set t f ds env p.2
@[simp] theorem lcC2_t {set : ESet} {ds : List D} {e1 : En} : lcC2 set t f ds env e1 (true, w) = bnd (eFz f e1 w) (lcC3 set t f ds env) := rfl
@[simp] theorem lcC2_f {set : ESet} {ds : List D} {e1 : En} : lcC2 set t f ds env e1 (false, w) = lcL set t f ds env w := rfl
def lcC1 (set : ESet) (t : ET) (f : EF) (ds : List D) (env : En) (w : Option Wd) (e1 : En) : Option (List D × Option Wd) := bnd (t e1 w) (lcC2 set t f ds env e1)
@[simp] theorem lcC1_q {set : ESet} {ds : List D} {e1 : En} : lcC1 set t f ds env w e1 = bnd (t e1 w) (lcC2 set t f ds env e1) := rfl
theorem lcL_cons {set : ESet} {ds : List D} : lcL set t f (d :: ds) env w = bnd (set d env) (lcC1 set t f ds env w) := by
  show (set d env).bind _ = (set d env).bind _
  refine congrArg (Option.bind _) (funext fun e1 => ?_)
  show (t e1 w).bind _ = (t e1 w).bind _
  refine congrArg (Option.bind _) (funext fun p => ?_)
  show (if p.1 = true then _ else _) = if p.1 = true then _ else _
  split
  · show (eFz f e1 p.2).bind _ = (eFz f e1 p.2).bind _
    refine congrArg (Option.bind _) (funext fun q => ?_)
    show (lcL set t f ds env q.2).map _ = (lcL set t f ds env q.2).bind _
    cases lcL set t f ds env q.2 <;> rfl
  · rfl
def whP (t : ET) (sa : SB) (n : Nat) : Out → Option Out
  | .nx e w' => sWhile t sa n e w'
  | .ct e w' => sWhile t sa n e w'
  | .bk e w' => some (.nx e w')
  | .rt r w' => some (.rt r w')
@[simp] theorem whP_nx {n : Nat} : whP t sa n (.nx env w) = sWhile t sa n env w := rfl
@[simp] theorem whP_ct {n : Nat} : whP t sa n (.ct env w) = sWhile t sa n env w := rfl
@[simp] theorem whP_bk {n : Nat} : whP t sa n (.bk env w) = some (.nx env w) := rfl
@[simp] theorem whP_rt {n : Nat} {p : DS} : whP t sa n (.rt p w) = some (.rt p w) := rfl
def whK (t : ET) (sa : SB) (n : Nat) (env : En) (p : Bool × Option Wd) : Option Out := if p.1 = true then bnd (sa env p.2) (whP t sa n) else some (.nx env p.2)
@[simp] theorem whK_t {n : Nat} : whK t sa n env (true, w) = bnd (sa env w) (whP t sa n) := rfl
@[simp] theorem whK_f {n : Nat} : whK t sa n env (false, w) = some (.nx env w) := rfl
theorem sWhile_s {n : Nat} : sWhile t sa (n + 1) env w = bnd (t env w) (whK t sa n env) := by
  show (t env w).bind _ = (t env w).bind _
  refine congrArg (Option.bind _) (funext fun p => ?_)
  show (if p.1 = true then _ else _) = if p.1 = true then _ else _
  split
  · show (sa env p.2).bind _ = (sa env p.2).bind _
    refine congrArg (Option.bind _) (funext fun o => ?_)
    cases o <;> rfl
  · rfl
def endP : Out → Option (DS × Option Wd)
  | .rt r w' => some (retD r, w')
  | .nx _ w' => some ((.non, .fz), w')
  | _ => none
@[simp] theorem endP_fz : endP (.rt (d, .fz) w) = some ((d, .fz), w) := rfl
@[simp] theorem endP_ow : endP (.rt (d, .ow) w) = some ((d, .ow), w) := rfl
@[simp] theorem endP_bo : endP (.rt (d, .bo) w) = some ((d, .ow), w) := rfl
@[simp] theorem endP_nx : endP (.nx env w) = some ((.non, .fz), w) := rfl
@[simp] theorem runFn_q {n p : Nat} {ds : List D} (hl : ds.length = p) : runFn n p sa ds w = bnd (sa (startE n ds) w) endP := by
  unfold runFn
  rw [if_pos hl]
  show (sa (startE n ds) w).bind _ = _
  refine congrArg (Option.bind _) (funext fun o => ?_)
  cases o <;> rfl
end
/-! values -/
@[simp] theorem truD_non : truD .non = some false := rfl
@[simp] theorem truD_bl {b : Bool} : truD (.bl b) = some b := rfl
@[simp] theorem truD_int {i : Int} : truD (.int i) = some (i != 0) := rfl
@[simp] theorem truD_lst {ds : List D} : truD (.lst ds) = some (!ds.isEmpty) := rfl
@[simp] theorem truD_tup {ds : List D} : truD (.tup ds) = some (!ds.isEmpty) := rfl
@[simp] theorem dII0_q {f : Int → Int → D} {i j : Int} : dII0 f (.int i) (.int j) = some (f i j, .fz) := rfl
@[simp] theorem dII_q {c : Int → Int → Bool} {f : Int → Int → D} {i j : Int} : dII c f (.int i) (.int j) = cnd (c i j) (some (f i j, .fz)) none := rfl
@[simp] theorem dAdd_ii {i j : Int} : els2 dAddI (els2 dCatL (els2 dCatT dCatS)) (.int i) (.int j) = some (.int (i + j), .fz) := rfl
theorem dAdd_ll {xs ys : List D} (h : xs.length + ys.length ≤ lim) : els2 dAddI (els2 dCatL (els2 dCatT dCatS)) (.lst xs) (.lst ys) = some (.lst (xs ++ ys), .ow) := by
  have e : dCatL (.lst xs) (.lst ys) = some (.lst (xs ++ ys), .ow) := if_pos h
  show (match dCatL (.lst xs) (.lst ys) with
    | some r => some r
    | none => _) = _
  rw [e]
theorem dAdd_tt {xs ys : List D} (h : xs.length + ys.length ≤ lim) : els2 dAddI (els2 dCatL (els2 dCatT dCatS)) (.tup xs) (.tup ys) = some (.tup (xs ++ ys), .fz) := by
  have e : dCatT (.tup xs) (.tup ys) = some (.tup (xs ++ ys), .fz) := if_pos h
  show (match dCatT (.tup xs) (.tup ys) with
    | some r => some r
    | none => _) = _
  rw [e]
def fzK (d : D) : Option DS := some (d, .fz)
@[simp] theorem fzK_q {d : D} : fzK d = some (d, .fz) := rfl
def fzKi (n : Int) : Option DS := some (.int n, .fz)
@[simp] theorem fzKi_q {n : Int} : fzKi n = some (.int n, .fz) := rfl
@[simp] theorem dIx_tup {ds : List D} {i : Int} : dIx (.tup ds) (.int i) = bnd (atI ds i) fzK := by
  show (atI ds i).map _ = (atI ds i).bind _
  cases atI ds i <;> rfl
@[simp] theorem dIx_lst {ds : List D} {i : Int} : dIx (.lst ds) (.int i) = bnd (atI ds i) fzK := by
  show (atI ds i).map _ = (atI ds i).bind _
  cases atI ds i <;> rfl
@[simp] theorem dIx_str {z : Str} {i : Int} : dIx (.str z) (.int i) = if z.length ≤ lim then (atI z.cps.toList i).map (fun c => (D.str ⟨#[c]⟩, O3.fz)) else none := rfl
@[simp] theorem dIx_scr {ns : List Int} {i : Int} : dIx (.scr ns) (.int i) = bnd (atI ns i) fzKi := by
  show (atI ns i).map _ = (atI ns i).bind _
  cases atI ns i <;> rfl
theorem atI_n {α : Type} {xs : List α} {j : Nat} : atI xs (j : Int) = xs[j]? := by
  unfold atI ixN
  rw [if_pos (Int.natCast_nonneg j)]
  by_cases h : (j : Int) < xs.length
  · rw [if_pos h]; simp
  · rw [if_neg h]
    show none = _
    rw [List.getElem?_eq_none (by omega)]
@[simp] theorem atI_0 {α : Type} {a : α} {xs : List α} : atI (a :: xs) 0 = some a := atI_n (j := 0)
@[simp] theorem atI_1 {α : Type} {a b : α} {xs : List α} : atI (a :: b :: xs) 1 = some b := atI_n (j := 1)
@[simp] theorem atI_2 {α : Type} {a b c : α} {xs : List α} : atI (a :: b :: c :: xs) 2 = some c := atI_n (j := 2)
@[simp] theorem atI_3 {α : Type} {a b c d : α} {xs : List α} : atI (a :: b :: c :: d :: xs) 3 = some d := atI_n (j := 3)
@[simp] theorem atI_end {α : Type} {a : α} {xs : List α} : atI (xs ++ [a]) (-1) = some a := atI_last xs a
@[simp] theorem atI_m1 {α : Type} {a : α} : atI [a] (-1) = some a := atI_last [] a
@[simp] theorem dLen_tup {ds : List D} : dLen [.tup ds] = some (.int (ds.length : Nat), .fz) := rfl
@[simp] theorem dLen_lst {ds : List D} : dLen [.lst ds] = some (.int (ds.length : Nat), .fz) := rfl
@[simp] theorem dLen_scr {ds : List Int} : dLen [.scr ds] = some (.int (ds.length : Nat), .fz) := rfl
@[simp] theorem dAbs_q {i : Int} : dAbs [.int i] = some (.int (if i < 0 then -i else i), .fz) := rfl
@[simp] theorem dInt_q {i : Int} : dInt [.int i] = some (.int i, .fz) := rfl
@[simp] theorem dInt_b {i : Bool} : dInt [.bl i] = some (.int (if i then 1 else 0), .fz) := rfl
@[simp] theorem dMax2_q {i j : Int} : dMax2 [.int i, .int j] = some (.int (if j > i then j else i), .fz) := rfl
@[simp] theorem dMin2_q {i j : Int} : dMin2 [.int i, .int j] = some (.int (if j < i then j else i), .fz) := rfl
@[simp] theorem dTuple_l {ds : List D} : dTuple [.lst ds] = some (.tup ds, .fz) := rfl
@[simp] theorem dTuple_t {ds : List D} : dTuple [.tup ds] = some (.tup ds, .fz) := rfl
@[simp] theorem dList_l {ds : List D} : dList [.lst ds] = some (.lst ds, .ow) := rfl
@[simp] theorem dList_t {ds : List D} : dList [.tup ds] = some (.lst ds, .ow) := rfl
@[simp] theorem dNeg_q {i : Int} : dNeg (.int i) = some (.int (-i), .fz) := rfl
@[simp] theorem keyD_i {i : Int} : keyD (.int i) = some (.inl i) := rfl
@[simp] theorem keyD_s {i : Str} : keyD (.str i) = some (.inr i) := rfl
@[simp] theorem dSl_t {ds : List D} {l h : Option Int} : dSl (.tup ds) l h = some (.tup (cutD ds l h), .fz) := rfl
@[simp] theorem dSl_l {ds : List D} {l h : Option Int} : dSl (.lst ds) l h = some (.lst (cutD ds l h), .ow) := rfl
theorem cut_take {ds : List D} {n : Nat} : cutD ds none (some (n : Int)) = ds.take n := by
  unfold cutD
  rw [HT.sIx_none, HT.sIx_nat, List.drop_zero, Nat.sub_zero, ← List.take_eq_take_min]
theorem cut_drop {ds : List D} {n : Nat} : cutD ds (some (n : Int)) none = ds.drop n := by
  unfold cutD
  rw [HT.sIx_none, HT.sIx_nat]
  by_cases h : n ≤ ds.length
  · rw [Nat.min_eq_left h, ← List.length_drop, List.take_length]
  · rw [Nat.min_eq_right (by omega), List.drop_length, List.drop_eq_nil_of_le (by omega)]; simp
@[simp] theorem cut_tail {d : D} {ds : List D} : cutD (d :: ds) (some 1) none = ds := cut_drop (n := 1)
@[simp] theorem cut_tail0 : cutD [] (some 1) none = [] := cut_drop (n := 1)
/-! comparisons -/
@[simp] theorem dEq_ii {i j : Int} : els2 (dEqF false) (dEqD false) (.int i) (.int j) = some (.bl (decide (i = j)), .fz) := rfl
@[simp] theorem dEq_ss {i j : Str} : els2 (dEqF false) (dEqD false) (.str i) (.str j) = some (.bl (decide (i = j)), .fz) := rfl
@[simp] theorem dEq_bb {i j : Bool} : els2 (dEqF false) (dEqD false) (.bl i) (.bl j) = some (.bl (i == j), .fz) := rfl
@[simp] theorem dEq_nn : els2 (dEqF false) (dEqD false) .non .non = some (.bl true, .fz) := rfl
@[simp] theorem dEq_ni {i : Int} : els2 (dEqF false) (dEqD false) .non (.int i) = some (.bl false, .fz) := rfl
@[simp] theorem dEq_in {i : Int} : els2 (dEqF false) (dEqD false) (.int i) .non = some (.bl false, .fz) := rfl
@[simp] theorem dNe_ii {i j : Int} : els2 (dEqF true) (dEqD true) (.int i) (.int j) = some (.bl (!(decide (i = j))), .fz) := rfl
@[simp] theorem dNe_ss {i j : Str} : els2 (dEqF true) (dEqD true) (.str i) (.str j) = some (.bl (!(decide (i = j))), .fz) := rfl
@[simp] theorem dNe_bb {i j : Bool} : els2 (dEqF true) (dEqD true) (.bl i) (.bl j) = some (.bl (!(i == j)), .fz) := rfl
@[simp] theorem dNe_nn : els2 (dEqF true) (dEqD true) .non .non = some (.bl false, .fz) := rfl
@[simp] theorem dNe_ni {i : Int} : els2 (dEqF true) (dEqD true) .non (.int i) = some (.bl true, .fz) := rfl
@[simp] theorem dNe_in {i : Int} : els2 (dEqF true) (dEqD true) (.int i) .non = some (.bl true, .fz) := rfl
def isK (neg b : Bool) : Option DS := some (.bl (if neg then !b else b), .fz)
@[simp] theorem isK_q {neg b : Bool} : isK neg b = some (.bl (if neg then !b else b), .fz) := rfl
@[simp] theorem dIs_q {neg : Bool} {x y : D} : dIs neg x y = bnd (isC x y) (isK neg) := by
  show (isC x y).map _ = (isC x y).bind _
  cases isC x y <;> rfl
@[simp] theorem isC_nn : isC .non .non = some true := rfl
@[simp] theorem isC_bb {a b : Bool} : isC (.bl a) (.bl b) = some (a == b) := rfl
@[simp] theorem isC_nb {b : Bool} : isC .non (.bl b) = some false := rfl
@[simp] theorem isC_bn {b : Bool} : isC (.bl b) .non = some false := rfl
@[simp] theorem isC_in {b : Int} : isC (.int b) .non = some false := rfl
@[simp] theorem isC_sn {b : Str} : isC (.str b) .non = some false := rfl
@[simp] theorem isC_tn {b : List D} : isC (.tup b) .non = some false := rfl
@[simp] theorem isC_ln {b : List D} : isC (.lst b) .non = some false := rfl
/-! == of data that is the same -/
mutual
def fine : Nat → D → Bool
  | _, .non => true
  | _, .bl _ => true
  | _, .int _ => true
  | _, .str x => PyData.strOk x
  | n + 1, .tup ds => fines n ds
  | n + 1, .lst ds => fines n ds
  | _, _ => false
def fines : Nat → List D → Bool
  | _, [] => true
  | n, d :: ds => fine n d && fines n ds
end
mutual
theorem fine_py : ∀ (n : Nat) (d : D), fine n d = true → ∃ p, dPy d = some p ∧ p.canLay0 = true ∧ p.depth ≤ n
  | n, .non, _ => ⟨_, rfl, by simp [PyData.canLay0], by simp [PyData.depth]⟩
  | n, .bl b, _ => ⟨_, rfl, by simp [PyData.canLay0], by simp [PyData.depth]⟩
  | n, .int b, _ => ⟨_, rfl, by simp [PyData.canLay0], by simp [PyData.depth]⟩
  | n, .str b, h => ⟨_, rfl, by
      have h' : PyData.strOk b = true := by simpa [fine] using h
      simp [PyData.canLay0, h'], by simp [PyData.depth]⟩
  | n + 1, .tup ds, h => by
    obtain ⟨ps, h1, h2, h3⟩ := fines_py n ds (by simpa [fine] using h)
    exact ⟨.tuple ps, by simp [dPy, h1], by simp [PyData.canLay0, h2], by simp [PyData.depth]; exact h3⟩
  | n + 1, .lst ds, h => by
    obtain ⟨ps, h1, h2, h3⟩ := fines_py n ds (by simpa [fine] using h)
    exact ⟨.list ps, by simp [dPy, h1], by simp [PyData.canLay0, h2], by simp [PyData.depth]; exact h3⟩
  | 0, .tup ds, h => by simp [fine] at h
  | 0, .lst ds, h => by simp [fine] at h
  | n, .dk _ _, h => by simp [fine] at h
  | n, .scr _, h => by simp [fine] at h
  | n, .ty _, h => by simp [fine] at h
  | n, .w, h => by simp [fine] at h
theorem fines_py : ∀ (n : Nat) (ds : List D), fines n ds = true → ∃ ps, dPys ds = some ps ∧ PyData.canLayAll0 ps = true ∧ PyData.depthAll ps ≤ n
  | n, [], _ => ⟨[], rfl, by simp [PyData.canLayAll0], by simp [PyData.depthAll]⟩
  | n, d :: ds, h => by
    have h' : fine n d = true ∧ fines n ds = true := by simpa [fines] using h
    obtain ⟨p, h1, h2, h3⟩ := fine_py n d h'.1
    obtain ⟨ps, h4, h5, h6⟩ := fines_py n ds h'.2
    exact ⟨p :: ps, by simp [dPys, h1, h4], by simp [PyData.canLayAll0, h2, h5], by simp [PyData.depthAll]; omega⟩
end
mutual
theorem eqv_self : ∀ p : PyData, p.canLay0 = true → PyData.eqv p p = true
  | .none, _ => by simp [PyData.eqv]
  | .bool b, _ => by simp [PyData.eqv]
  | .int b, _ => by simp [PyData.eqv]
  | .str b, _ => by simp [PyData.eqv]
  | .list ps, h => by simp only [PyData.eqv]; exact eqvAll_self ps (by simpa [PyData.canLay0] using h)
  | .tuple ps, h => by simp only [PyData.eqv]; exact eqvAll_self ps (by simpa [PyData.canLay0] using h)
  | .dict _, h => by simp [PyData.canLay0] at h
theorem eqvAll_self : ∀ ps : List PyData, PyData.canLayAll0 ps = true → PyData.eqvAll ps ps = true
  | [], _ => by simp [PyData.eqvAll]
  | p :: ps, h => by
    have h' : p.canLay0 = true ∧ PyData.canLayAll0 ps = true := by simpa [PyData.canLayAll0] using h
    simp [PyData.eqvAll, eqv_self p h'.1, eqvAll_self ps h'.2]
end
theorem dEqD_self {d : D} (h : fine 64 d = true) (neg : Bool) : dEqD neg d d = some (.bl (!neg), .fz) := by
  obtain ⟨p, h1, h2, h3⟩ := fine_py 64 d h
  unfold dEqD
  have hs : SeqAt.shaped p = true := by unfold SeqAt.shaped; simp [h2, h3]
  rw [h1]
  simp [hs, eqv_self p h2]
theorem dNe_self {d : D} (h : fine 64 d = true) : dNe d d = some (.bl false, .fz) := by
  cases d with
  | tup ds => exact dEqD_self h true
  | lst ds => exact dEqD_self h true
  | non => rfl
  | bl b => cases b <;> rfl
  | int i => show some (D.bl (!(i == i)), O3.fz) = _; simp
  | str i => show some (D.bl (!(i == i)), O3.fz) = _; simp
  | _ => simp [fine] at h
theorem dEq_self {d : D} (h : fine 64 d = true) : dEq d d = some (.bl true, .fz) := by
  cases d with
  | tup ds => exact dEqD_self h false
  | lst ds => exact dEqD_self h false
  | non => rfl
  | bl b => cases b <;> rfl
  | int i => show some (D.bl (i == i), O3.fz) = _; simp
  | str i => show some (D.bl (i == i), O3.fz) = _; simp
  | _ => simp [fine] at h
end Dl

set_option Elab.async false
set_option linter.all false
set_option maxRecDepth 100000
set_option maxHeartbeats 1000000
namespace Dl
open PySem PySem.Spec PyProof.Rows L2
@[simp] theorem startE_q {n : Nat} {ds : List D} : startE n ds = ds.map (fun d => some (d, false)) ++ List.replicate (n - ds.length) none := rfl
/-- a for that ends by itself, with what holds at each turn -/
theorem forL_inv {set : ESet} {sa : SB} (P : Nat → En → Option Wd → Prop) : ∀ (ds : List D) (i : Nat) (env : En) (w : Option Wd), P i env w →
    (∀ j d env w, ds[j]? = some d → P (i + j) env w → ∃ e1 o e w', set d env = some e1 ∧ sa e1 w = some o ∧ (o = .nx e w' ∨ o = .ct e w') ∧ P (i + j + 1) e w') → ∃ e w', forL set sa ds env w = some (.nx e w') ∧ P (i + ds.length) e w'
  | [], i, env, w, h, _ => ⟨env, w, rfl, h⟩
  | d :: ds, i, env, w, h, hs => by
    obtain ⟨e1, o, e, w', h1, h2, h3, h4⟩ := hs 0 d env w rfl h
    obtain ⟨e2, w2, h5, h6⟩ := forL_inv P ds (i + 1) e w' h4 fun j d' env w hd hp => by
      have e : i + 1 + j = i + (j + 1) := by omega
      rw [e] at hp ⊢
      exact hs (j + 1) d' env w hd hp
    refine ⟨e2, w2, ?_, by rw [List.length_cons]; have e : i + (ds.length + 1) = i + 1 + ds.length := by omega
                           rw [e]; exact h6⟩
    rw [forL_cons, h1, bnd_some, forK2_q, h2, bnd_some]
    rcases h3 with h3 | h3 <;> (subst h3; exact h5)
theorem range_at {lo hi : Int} {j : Nat} {d : D} (h : (rangeD lo hi)[j]? = some d) : d = .int (lo + j) ∧ (j : Int) < hi - lo := by
  unfold rangeD at h
  rw [List.getElem?_map] at h
  cases hr : (List.range (hi - lo).toNat)[j]? with
  | none => rw [hr] at h; cases h
  | some k =>
    obtain ⟨h1, h2⟩ := List.getElem?_eq_some_iff.mp hr
    rw [List.length_range] at h1
    rw [List.getElem_range] at h2
    subst h2
    rw [hr] at h
    cases h
    exact ⟨rfl, by omega⟩
theorem range_len {lo hi : Int} : (rangeD lo hi).length = (hi - lo).toNat := by unfold rangeD; simp
def bDraws : SB := (sSeq (sSet 2 (eLst aNil)) (sSeq (sSet 3 (eC (.int 7))) (sSeq (sFor (setN 4) (iRange (aCons (eA dLen (aCons (eVar 0) aNil)) aNil)) (sSeq (sSet 5 (eA dAbs (aCons (eA dInt (aCons (eOp dIx (eVar 0) (eVar 4)) aNil)) aNil))) (sSeq (sSet 3 (eOp dMod (eA dInt (aCons (eOp dAdd (eOp dAdd (eOp dMul (eVar 3) (eC (.int 48271))) (eOp dMod (eVar 5) (eC (.int 1000003)))) (eVar 4)) aNil)) (eC (.int 65537)))) (sSeq (sSet 6 (eC (.int 0))) (sSeq (sIf (tVal (eOp dGe (eVar 5) (eOp dPow (eC (.int 10)) (eC (.int 18))))) (sSet 6 (eVar 5)) (sSeq (sApp 2 (eOp dMod (eA dInt (aCons (eVar 5) aNil)) (eC (.int 997)))) (sApp 2 (eOp dMod (eOp dMod (eA dInt (aCons (eOp dAdd (eOp dMul (eVar 3) (eC (.int 69621))) (eC (.int 5))) aNil)) (eC (.int 65521))) (eC (.int 997)))))) (sFor (setN 7) (iRange (aCons (eC (.int 60)) aNil)) (sIf (tVal (eOp dGt (eVar 6) (eC (.int 0)))) (sSeq (sApp 2 (eOp dMod (eA dInt (aCons (eVar 6) aNil)) (eC (.int 997)))) (sSet 6 (eOp dFdiv (eVar 6) (eC (.int 997))))) (sNil)))))))) (sSeq (sFor (setN 4) (iRange (aCons (eVar 1) aNil)) (sSeq (sSet 3 (eOp dMod (eA dInt (aCons (eOp dAdd (eOp dAdd (eOp dMul (eVar 3) (eC (.int 16807))) (eVar 4)) (eC (.int 1))) aNil)) (eC (.int 65537)))) (sApp 2 (eOp dMod (eA dInt (aCons (eVar 3) aNil)) (eC (.int 997)))))) (sRet (eSl dSl (eVar 2) oNone (oSome (eVar 1))))))))
def fDraws : Fn := runFn 8 2 bDraws
/-- the slots of the draws' def -/
def DrE (ns : List Int) (m : Int) (xs : List Int) (mx : Int) (s4 s5 s6 s7 : Option (D × Bool)) : En := [some (.scr ns, false), some (.int m, false), some (.lst (xs.map D.int), true), some (.int mx, false), s4, s5, s6, s7]
theorem map_int_app (xs : List Int) (y : Int) : xs.map D.int ++ [D.int y] = (xs ++ [y]).map D.int := by simp
theorem drw_inner (ns : List Int) (m : Int) (w : Option Wd) (xs : List Int) (mx r : Int) (s4 s5 s7 : Option (D × Bool)) (hl : xs.length ≤ 10000) :
    ∃ xs' r' s7', forL (setN 7) (sIf (tVal (eOp dGt (eVar 6) (eC (.int 0)))) (sSeq (sApp 2 (eOp dMod (eA dInt (aCons (eVar 6) aNil)) (eC (.int 997)))) (sSet 6 (eOp dFdiv (eVar 6) (eC (.int 997))))) (sNil)) (rangeD 0 60) (DrE ns m xs mx s4 s5 (some (.int r, false)) s7) w
      = some (.nx (DrE ns m xs' mx s4 s5 (some (.int r', false)) s7') w) ∧ xs'.length ≤ xs.length + 60 := by
  obtain ⟨e, w', h1, xs', r', s7', h2, h3, h4⟩ := forL_inv (set := setN 7) (sa := sIf (tVal (eOp dGt (eVar 6) (eC (.int 0)))) (sSeq (sApp 2 (eOp dMod (eA dInt (aCons (eVar 6) aNil)) (eC (.int 997)))) (sSet 6 (eOp dFdiv (eVar 6) (eC (.int 997))))) (sNil))
    (fun i e w1 => ∃ xs' r' s7', e = DrE ns m xs' mx s4 s5 (some (.int r', false)) s7' ∧ w1 = w ∧ xs'.length ≤ xs.length + i) (rangeD 0 60) 0 _ w ⟨xs, r, s7, rfl, rfl, by omega⟩ fun j d env w1 hd hp => by
      obtain ⟨xs', r', s7', he, hw, hx⟩ := hp
      subst he hw
      obtain ⟨hd1, hd2⟩ := range_at hd
      subst hd1
      by_cases hr : 0 < r'
      · refine ⟨_, .nx (DrE ns m (xs' ++ [r' % 997]) mx s4 s5 (some (.int (r' / 997), false)) (some (.int (0 + (j : Int)), false))) w1, _, _, rfl, ?_, .inl rfl, _, _, _, rfl, rfl, by rw [List.length_append]; show xs'.length + 1 ≤ _; omega⟩
        have hlen : xs'.length < lim := lt_lim (by omega)
        simp -implicitDefEqProofs [DrE, hr, hlen]
      · refine ⟨_, .nx (DrE ns m xs' mx s4 s5 (some (.int r', false)) (some (.int (0 + (j : Int)), false))) w1, _, _, rfl, ?_, .inl rfl, _, _, _, rfl, rfl, by omega⟩
        simp -implicitDefEqProofs [DrE, hr]
  rw [range_len] at h4
  subst h2 h3
  exact ⟨xs', r', s7', h1, by simpa using h4⟩
abbrev bDrIn : SB := (sIf (tVal (eOp dGt (eVar 6) (eC (.int 0)))) (sSeq (sApp 2 (eOp dMod (eA dInt (aCons (eVar 6) aNil)) (eC (.int 997)))) (sSet 6 (eOp dFdiv (eVar 6) (eC (.int 997))))) (sNil))
abbrev bDr1 : SB := (sSeq (sSet 5 (eA dAbs (aCons (eA dInt (aCons (eOp dIx (eVar 0) (eVar 4)) aNil)) aNil))) (sSeq (sSet 3 (eOp dMod (eA dInt (aCons (eOp dAdd (eOp dAdd (eOp dMul (eVar 3) (eC (.int 48271))) (eOp dMod (eVar 5) (eC (.int 1000003)))) (eVar 4)) aNil)) (eC (.int 65537)))) (sSeq (sSet 6 (eC (.int 0))) (sSeq (sIf (tVal (eOp dGe (eVar 5) (eOp dPow (eC (.int 10)) (eC (.int 18))))) (sSet 6 (eVar 5)) (sSeq (sApp 2 (eOp dMod (eA dInt (aCons (eVar 5) aNil)) (eC (.int 997)))) (sApp 2 (eOp dMod (eOp dMod (eA dInt (aCons (eOp dAdd (eOp dMul (eVar 3) (eC (.int 69621))) (eC (.int 5))) aNil)) (eC (.int 65521))) (eC (.int 997)))))) (sFor (setN 7) (iRange (aCons (eC (.int 60)) aNil)) bDrIn)))))
abbrev bDr2 : SB := (sSeq (sSet 3 (eOp dMod (eA dInt (aCons (eOp dAdd (eOp dAdd (eOp dMul (eVar 3) (eC (.int 16807))) (eVar 4)) (eC (.int 1))) aNil)) (eC (.int 65537)))) (sApp 2 (eOp dMod (eA dInt (aCons (eVar 3) aNil)) (eC (.int 997)))))
theorem drw_turn (ns : List Int) (m : Int) (w : Option Wd) (xs : List Int) (mx : Int) (s5 s6 s7 : Option (D × Bool)) (j : Nat) (hj : j < ns.length) (hl : xs.length ≤ 9000) :
    ∃ xs' mx' s5' s6' s7', bDr1 (DrE ns m xs mx (some (.int (j : Int), false)) s5 s6 s7) w = some (.nx (DrE ns m xs' mx' (some (.int (j : Int), false)) s5' s6' s7') w) ∧ xs'.length ≤ xs.length + 62 := by
  have hix : atI ns (j : Int) = some ns[j] := by rw [atI_n]; simp [hj]
  have hp : ((10 : Int) ^ (18 : Int).toNat) = 1000000000000000000 := by decide
  generalize hc : (if ns[j] < 0 then -ns[j] else ns[j]) = cell
  have hl1 : xs.length < lim := lt_lim (by omega)
  have hl2 : xs.length + 1 < lim := lt_lim (by omega)
  by_cases hg : (1000000000000000000 : Int) ≤ cell
  · obtain ⟨xs', r', s7', h1, h2⟩ := drw_inner ns m w xs ((mx * 48271 + cell % 1000003 + j) % 65537) cell (some (.int (j : Int), false)) (some (.int cell, false)) s7 (by omega)
    refine ⟨xs', (mx * 48271 + cell % 1000003 + j) % 65537, some (.int cell, false), some (.int r', false), s7', ?_, by omega⟩
    simp only [DrE] at h1
    simp -implicitDefEqProofs [DrE, hix, hc, hp, hg, rngK_1, h1]
  · obtain ⟨xs', r', s7', h1, h2⟩ := drw_inner ns m w (xs ++ [cell % 997] ++ [(((mx * 48271 + cell % 1000003 + j) % 65537) * 69621 + 5) % 65521 % 997]) ((mx * 48271 + cell % 1000003 + j) % 65537) 0 (some (.int (j : Int), false)) (some (.int cell, false)) s7 (by simp; omega)
    refine ⟨xs', (mx * 48271 + cell % 1000003 + j) % 65537, some (.int cell, false), some (.int r', false), s7', ?_, by simp at h2; omega⟩
    simp -implicitDefEqProofs [DrE] at h1
    simp -implicitDefEqProofs [DrE, hix, hc, hp, hg, hl1, hl2, rngK_1, h1]
theorem draws_ok (ns : List Int) (hn : ns.length ≤ 63) (m : Int) (hm : 0 ≤ m ∧ m ≤ 100000) (w : Option Wd) : ∃ ds : List Int, fDraws [.scr ns, .int m] w = some ((.lst (ds.map D.int), .ow), w) := by
  obtain ⟨e, w', h1, xs, mx, s4, s5, s6, s7, h2, h3, h4⟩ := forL_inv (set := setN 4) (sa := bDr1)
    (fun i e w1 => ∃ xs mx s4 s5 s6 s7, e = DrE ns m xs mx s4 s5 s6 s7 ∧ w1 = w ∧ xs.length ≤ 62 * i) (rangeD 0 (ns.length : Int)) 0 (DrE ns m [] 7 none none none none) w ⟨[], 7, none, none, none, none, rfl, rfl, by simp⟩ fun j d env w1 hd hp => by
      obtain ⟨xs, mx, s4, s5, s6, s7, he, hw, hx⟩ := hp
      subst he hw
      obtain ⟨hd1, hd2⟩ := range_at hd
      subst hd1
      obtain ⟨xs', mx', s5', s6', s7', h1, h2⟩ := drw_turn ns m w1 xs mx s5 s6 s7 j (by omega) (by omega)
      refine ⟨DrE ns m xs mx (some (.int (j : Int), false)) s5 s6 s7, _, _, _, ?_, h1, .inl rfl, _, _, _, _, _, _, rfl, rfl, by omega⟩
      simp -implicitDefEqProofs [DrE]
  rw [range_len] at h4
  subst h2 h3
  obtain ⟨e2, w2, g1, xs2, mx2, t4, g2, g3, g4⟩ := forL_inv (set := setN 4) (sa := bDr2)
    (fun i e w1 => ∃ xs2 mx2 t4, e = DrE ns m xs2 mx2 t4 s5 s6 s7 ∧ w1 = w' ∧ xs2.length ≤ xs.length + i) (rangeD 0 m) 0 (DrE ns m xs mx s4 s5 s6 s7) w' ⟨xs, mx, s4, rfl, rfl, by simp⟩ fun j d env w1 hd hp => by
      obtain ⟨xs2, mx2, t4, he, hw, hx⟩ := hp
      subst he hw
      obtain ⟨hd1, hd2⟩ := range_at hd
      subst hd1
      have hl : xs2.length < lim := lt_lim (by omega)
      refine ⟨DrE ns m xs2 mx2 (some (.int (0 + (j : Int)), false)) s5 s6 s7, .nx (DrE ns m (xs2 ++ [((mx2 * 16807 + (0 + (j : Int)) + 1) % 65537) % 997]) ((mx2 * 16807 + (0 + (j : Int)) + 1) % 65537) (some (.int (0 + (j : Int)), false)) s5 s6 s7) w1, _, _, by simp -implicitDefEqProofs [DrE], ?_, .inl rfl, _, _, _, rfl, rfl, by rw [List.length_append]; show xs2.length + 1 ≤ _; omega⟩
      simp -implicitDefEqProofs [DrE, hl]
  subst g2 g3
  obtain ⟨mn, hmn⟩ : ∃ mn : Nat, m = mn := ⟨m.toNat, by omega⟩
  refine ⟨xs2.take mn, ?_⟩
  have hr1 : ∀ w, rngK ([(.int (ns.length : Int), .fz)], w) = some (rangeD 0 (ns.length : Int), w) := fun w => rngK_1 (by omega)
  have hr2 : ∀ w, rngK ([(.int m, .fz)], w) = some (rangeD 0 m, w) := fun w => rngK_1 (by omega)
  simp only [DrE, List.map_nil] at h1 g1
  have hc : cutD (xs2.map D.int) none (some m) = (xs2.take mn).map D.int := by rw [hmn, cut_take, List.map_take]
  simp [fDraws, bDraws, hr1, hr2, h1, g1, hc]
end Dl

set_option Elab.async false
set_option linter.all false
set_option maxRecDepth 100000
set_option maxHeartbeats 1000000
namespace Dl
open PySem PySem.Spec PyProof.Rows L2
/-! what the laws share: the next draw, a pick -/
def OkW (W : Wd) : Prop := 0 ≤ W.ix
def bNext : SB := (sSeq (sTick 0) (sSeq (sIf (tVal (eOp dGt (eWget 0 true) (eA dLen (aCons (eWget 0 false) aNil)))) (sRet (eC (.int 0))) (sNil)) (sRet (eOp dMod (eA dInt (aCons (eOp dIx (eWget 0 false) (eOp dSub (eWget 0 true) (eC (.int 1)))) aNil)) (eVar 1)))))
def fNext : Fn := runFn 2 2 bNext
theorem next_ok {W : Wd} (h0 : OkW W) {m : Int} (hm : 0 < m) : ∃ (r : Int) (W' : Wd), fNext [.w, .int m] (some W) = some ((.int r, .fz), some W') ∧ 0 ≤ r ∧ r < m ∧ OkW W' := by
  unfold OkW at h0
  refine (?_ : ∃ r : Int, fNext [.w, .int m] (some W) = some ((.int r, .fz), some ⟨W.draws, W.ix + 1⟩) ∧ 0 ≤ r ∧ r < m).elim fun r h => ⟨r, _, h.1, h.2.1, h.2.2, by unfold OkW; show 0 ≤ W.ix + 1; omega⟩
  by_cases h : (W.draws.length : Int) < W.ix + 1
  · exact ⟨0, by simp -implicitDefEqProofs [fNext, bNext, h], by omega, hm⟩
  · obtain ⟨j, hj⟩ : ∃ j : Nat, W.ix = j := ⟨W.ix.toNat, by omega⟩
    have hjl : j < W.draws.length := by omega
    refine ⟨W.draws[j] % m, ?_, Int.emod_nonneg _ (by omega), Int.emod_lt_of_pos _ hm⟩
    rw [hj] at h ⊢
    have e : (j : Int) + 1 - 1 = j := by omega
    simp -implicitDefEqProofs [fNext, bNext, hj, h, e, atI_n, hjl, hm]
def bPick (f : Fn) : SB := (sRet (eOp dIx (eVar 1) (eCall f (aCons (eFz (eVar 0)) (aCons (eFz (eA dLen (aCons (eVar 1) aNil))) aNil)))))
def fPick : Fn := runFn 2 2 (bPick fNext)
theorem pick_ok {W : Wd} (h0 : OkW W) {ds : List D} (hm : 0 < ds.length) : ∃ (d : D) (W' : Wd), fPick [.w, .lst ds] (some W) = some ((d, .fz), some W') ∧ d ∈ ds ∧ OkW W' := by
  obtain ⟨r, W', h1, h2, h3, h4⟩ := next_ok h0 (m := (ds.length : Int)) (by omega)
  obtain ⟨j, hj⟩ : ∃ j : Nat, r = j := ⟨r.toNat, by omega⟩
  subst hj
  have hjl : j < ds.length := by omega
  refine ⟨ds[j], W', ?_, List.getElem_mem _, h4⟩
  simp -implicitDefEqProofs [fPick, bPick, h1, atI_n, hjl]
/-! zip, more rows -/
def zipK (p : List DS × Option Wd) : Option (List D × Option Wd) := match p.1 with
  | [(.lst xs, _), (.lst ys, _)] => some (List.zipWith (fun a b => .tup [a, b]) xs ys, p.2)
  | _ => none
@[simp] theorem zipK_q {w : Option Wd} {xs ys : List D} {s t : O3} : zipK ([(.lst xs, s), (.lst ys, t)], w) = some (List.zipWith (fun a b => .tup [a, b]) xs ys, w) := rfl
@[simp] theorem iZipD_q {fa : EA} {env : En} {w : Option Wd} : iZipD fa env w = bnd (fa env w) zipK := rfl
theorem atI_m {α : Type} {xs : List α} {j : Int} (h : 0 ≤ j) : atI xs j = xs[j.toNat]? := by
  obtain ⟨n, hn⟩ : ∃ n : Nat, j = n := ⟨j.toNat, by omega⟩
  subst hn
  rw [atI_n]; simp
def dicK (r : List Key × List D) : Option DS := some (.dk r.1 r.2, .ow)
@[simp] theorem dicK_q {ks : List Key} {ds : List D} : dicK (ks, ds) = some (.dk ks ds, .ow) := rfl
theorem dDict_t {ps : List D} (h : ps.length ≤ lim) : dDict [.tup ps] = bnd (dMerge [] [] ps) dicK := by
  show (if ps.length ≤ lim then (dMerge [] [] ps).map _ else none) = _
  rw [if_pos h]
  cases dMerge [] [] ps <;> rfl
def findI : List Key → List Int → Key → Option Int
  | k :: ks, d :: ds, j => if k = j then some d else findI ks ds j
  | _, _, _ => none
theorem dFind_int : ∀ (ks : List Key) (ds : List Int) (k : Key), dFind ks (ds.map D.int) k = (findI ks ds k).map D.int
  | [], _, _ => by cases ‹List Int› <;> rfl
  | _ :: _, [], _ => rfl
  | k :: ks, d :: ds, j => by
    show (if k = j then some (D.int d) else dFind ks (ds.map D.int) j) = Option.map D.int (if k = j then some d else findI ks ds j)
    rw [dFind_int ks ds j]
    split <;> rfl
def updI : List Key → List Int → Key → Int → List Int
  | k :: ks, d :: ds, j, x => (if k = j then x else d) :: updI ks ds j x
  | _, ds, _, _ => ds
theorem dUpd_int : ∀ (ks : List Key) (ds : List Int) (k : Key) (x : Int), dUpd ks (ds.map D.int) k (.int x) = (updI ks ds k x).map D.int
  | [], [], _, _ => rfl
  | [], _ :: _, _, _ => rfl
  | _ :: _, [], _, _ => rfl
  | k :: ks, d :: ds, j, x => by
    show (if k = j then D.int x else D.int d) :: dUpd ks (ds.map D.int) j (.int x) = ((if k = j then x else d) :: updI ks ds j x).map D.int
    rw [dUpd_int ks ds j x]
    split <;> rfl
theorem dPut_int (ks : List Key) (ds : List Int) (k : Key) (x : Int) : ∃ ks' ds', dPut ks (ds.map D.int) k (.int x) = (ks', List.map D.int ds') := by
  unfold dPut
  split
  · exact ⟨ks, updI ks ds k x, by rw [dUpd_int]⟩
  · exact ⟨ks ++ [k], ds ++ [x], by simp⟩
theorem dMerge_int : ∀ (ps : List (D × Int)) (ks : List Key) (ds : List Int), (∀ p ∈ ps, ∃ k, keyD p.1 = some k) → ∃ ks' ds', dMerge ks (ds.map D.int) (ps.map fun p => .tup [p.1, .int p.2]) = some (ks', List.map D.int ds')
  | [], ks, ds, _ => ⟨ks, ds, rfl⟩
  | p :: ps, ks, ds, h => by
    obtain ⟨k, hk⟩ := h p List.mem_cons_self
    obtain ⟨ks1, ds1, e1⟩ := dPut_int ks ds k p.2
    obtain ⟨ks2, ds2, e2⟩ := dMerge_int ps ks1 ds1 fun q hq => h q (List.mem_cons_of_mem _ hq)
    refine ⟨ks2, ds2, ?_⟩
    show (keyD p.1).bind _ = _
    rw [hk]
    show dMerge (dPut ks (ds.map D.int) k (.int p.2)).1 (dPut ks (ds.map D.int) k (.int p.2)).2 _ = _
    rw [e1]; exact e2
theorem dEqD_nil {ds : List D} (h : fine 64 (.tup ds) = true) (neg : Bool) : dEqD neg (.tup ds) (.tup []) = some (.bl (if neg then !ds.isEmpty else ds.isEmpty), .fz) := by
  obtain ⟨p, h1, h2, h3⟩ := fine_py 64 _ h
  obtain ⟨q, g1, g2, g3⟩ := fine_py 64 (.tup []) rfl
  unfold dEqD
  have hs : SeqAt.shaped p = true := by unfold SeqAt.shaped; simp [h2, h3]
  have gs : SeqAt.shaped q = true := by unfold SeqAt.shaped; simp [g2, g3]
  rw [h1, g1]
  cases g1
  have : ∃ ps, p = .tuple ps ∧ PyData.eqvAll ps [] = ds.isEmpty := by
    cases ds with
    | nil => cases h1; exact ⟨_, rfl, by simp [PyData.eqvAll]⟩
    | cons d ds =>
      simp only [dPy, dPys] at h1
      cases e : dPy d with
      | none => simp [e] at h1
      | some a =>
        cases e2 : dPys ds with
        | none => simp [e, e2] at h1
        | some b => simp [e, e2] at h1; subst h1; exact ⟨_, rfl, by simp [PyData.eqvAll]⟩
  obtain ⟨ps, e, e2⟩ := this
  subst e
  simp [hs, gs, PyData.eqv, e2]
theorem dEq_tnil {ds : List D} (h : fine 64 (.tup ds) = true) : els2 (dEqF false) (dEqD false) (.tup ds) (.tup []) = some (.bl ds.isEmpty, .fz) := dEqD_nil h false
theorem dNe_tnil {ds : List D} (h : fine 64 (.tup ds) = true) : els2 (dEqF true) (dEqD true) (.tup ds) (.tup []) = some (.bl (!ds.isEmpty), .fz) := dEqD_nil h true
@[simp] theorem dIsi_ii {i : Int} : dIsi [.int i, .ty "int"] = some (.bl true, .fz) := rfl
@[simp] theorem dIsi_ib {i : Int} : dIsi [.int i, .ty "bool"] = some (.bl false, .fz) := rfl
@[simp] theorem dIsi_ti {ds : List D} : dIsi [.tup ds, .ty "int"] = some (.bl false, .fz) := rfl
@[simp] theorem dIsi_bb {b : Bool} : dIsi [.bl b, .ty "bool"] = some (.bl true, .fz) := rfl
@[simp] theorem dIsi_nb : dIsi [.non, .ty "bool"] = some (.bl false, .fz) := rfl
mutual
theorem fine_mono : ∀ (n m : Nat) (d : D), n ≤ m → fine n d = true → fine m d = true
  | _, _, .non, _, _ => by simp [fine]
  | _, _, .bl _, _, _ => by simp [fine]
  | _, _, .int _, _, _ => by simp [fine]
  | _, _, .str _, _, h => by simp [fine] at h ⊢; exact h
  | n + 1, m + 1, .tup ds, hl, h => by
    have h' : fines n ds = true := by simpa [fine] using h
    have := fines_mono n m ds (by omega) h'
    simpa [fine] using this
  | n + 1, m + 1, .lst ds, hl, h => by
    have h' : fines n ds = true := by simpa [fine] using h
    have := fines_mono n m ds (by omega) h'
    simpa [fine] using this
  | n + 1, 0, .tup ds, hl, h => by omega
  | n + 1, 0, .lst ds, hl, h => by omega
  | 0, _, .tup ds, _, h => by simp [fine] at h
  | 0, _, .lst ds, _, h => by simp [fine] at h
  | n, _, .dk _ _, _, h => by simp [fine] at h
  | n, _, .scr _, _, h => by simp [fine] at h
  | n, _, .ty _, _, h => by simp [fine] at h
  | n, _, .w, _, h => by simp [fine] at h
theorem fines_mono : ∀ (n m : Nat) (ds : List D), n ≤ m → fines n ds = true → fines m ds = true
  | _, _, [], _, _ => by simp [fines]
  | n, m, d :: ds, hl, h => by
    have h' : fine n d = true ∧ fines n ds = true := by simpa [fines] using h
    simp [fines, fine_mono n m d hl h'.1, fines_mono n m ds hl h'.2]
end
theorem fines_all (n : Nat) : ∀ ds : List D, fines n ds = true ↔ ∀ d ∈ ds, fine n d = true
  | [] => by simp [fines]
  | d :: ds => by simp [fines, fines_all n ds]
@[simp] theorem fine_tup {n : Nat} {ds : List D} : fine (n + 1) (.tup ds) = true ↔ ∀ d ∈ ds, fine n d = true := by
  simp only [fine]; exact fines_all n ds
@[simp] theorem fine_lst {n : Nat} {ds : List D} : fine (n + 1) (.lst ds) = true ↔ ∀ d ∈ ds, fine n d = true := by
  simp only [fine]; exact fines_all n ds
/-! texts of the program -/
theorem map_toNat_inj : ∀ (a b : List Char), a.map Char.toNat = b.map Char.toNat → a = b
  | [], [], _ => rfl
  | [], _ :: _, h => by cases h
  | _ :: _, [], h => by cases h
  | x :: a, y :: b, h => by
    have h1 : x.toNat = y.toNat := (List.cons.inj h).1
    have h2 := map_toNat_inj a b (List.cons.inj h).2
    have h3 : x = y := Char.ext (UInt32.toNat_inj.mp h1)
    rw [h2, h3]
theorem ofS_inj {a b : String} (h : Str.ofString a = Str.ofString b) : a = b := by
  rw [Str.ofString_eq_toList, Str.ofString_eq_toList] at h
  have h1 : (a.toList.map Char.toNat) = b.toList.map Char.toNat := by injection h with h; exact (Array.mk.inj h)
  exact String.toList_inj.mp (map_toNat_inj _ _ h1)
@[simp] theorem ofS_eq {a b : String} : (Str.ofString a = Str.ofString b) ↔ a = b := ⟨ofS_inj, fun h => by rw [h]⟩
@[simp] theorem ofS_beq {a b : String} : (Str.ofString a == Str.ofString b) = (a == b) := by
  by_cases h : a = b
  · subst h; simp
  · have h' : Str.ofString a ≠ Str.ofString b := fun e => h (ofS_inj e)
    rw [beq_eq_false_iff_ne.mpr h, beq_eq_false_iff_ne.mpr h']
/-! in -/
@[simp] theorem flatD_non : flatD .non = true := rfl
@[simp] theorem flatD_bl {b : Bool} : flatD (.bl b) = true := rfl
@[simp] theorem flatD_int {b : Int} : flatD (.int b) = true := rfl
@[simp] theorem flatD_str {b : Str} : flatD (.str b) = true := rfl
@[simp] theorem eqF_nn : eqF .non .non = true := rfl
@[simp] theorem eqF_ii {a b : Int} : eqF (.int a) (.int b) = decide (a = b) := rfl
@[simp] theorem eqF_ss {a b : Str} : eqF (.str a) (.str b) = decide (a = b) := rfl
@[simp] theorem eqF_ni {b : Int} : eqF .non (.int b) = false := rfl
@[simp] theorem eqF_in {b : Int} : eqF (.int b) .non = false := rfl
@[simp] theorem eqF_ns {b : Str} : eqF .non (.str b) = false := rfl
@[simp] theorem eqF_sn {b : Str} : eqF (.str b) .non = false := rfl
theorem dIn_tup {neg : Bool} {x : D} {ys : List D} (h : flatD x = true) (h2 : ys.all flatD = true) : dIn neg x (.tup ys) = some (.bl (if neg then !ys.any (fun z => eqF z x) else ys.any fun z => eqF z x), .fz) := by
  show (some ys).bind _ = _
  show (if flatD x = true ∧ ys.all flatD = true then fzO _ else none) = _
  rw [if_pos ⟨h, h2⟩]
theorem dIn_lst {neg : Bool} {x : D} {ys : List D} (h : flatD x = true) (h2 : ys.all flatD = true) : dIn neg x (.lst ys) = some (.bl (if neg then !ys.any (fun z => eqF z x) else ys.any fun z => eqF z x), .fz) := by
  show (some ys).bind _ = _
  show (if flatD x = true ∧ ys.all flatD = true then fzO _ else none) = _
  rw [if_pos ⟨h, h2⟩]
@[simp] theorem dIn_t2 {x b c : D} (h : flatD x = true) (hb : flatD b = true) (hc : flatD c = true) : dIn false x (.tup [b, c]) = some (.bl (eqF b x || eqF c x), .fz) := by
  rw [dIn_tup h (by simp [hb, hc])]; simp
/-! a value at each suffix -/
def tm {α β : Type} (f : List α → β) : List α → List β
  | [] => []
  | a :: r => f (a :: r) :: tm f r
@[simp] theorem tm_nil {α β : Type} (f : List α → β) : tm f [] = [] := rfl
@[simp] theorem tm_cons {α β : Type} (f : List α → β) (a : α) (r : List α) : tm f (a :: r) = f (a :: r) :: tm f r := rfl
@[simp] theorem tm_length {α β : Type} (f : List α → β) : ∀ l : List α, (tm f l).length = l.length
  | [] => rfl
  | a :: r => by simp [tm_length f r]
theorem tm_map {α β γ : Type} (f : List α → β) (g : β → γ) : ∀ l : List α, (tm f l).map g = tm (fun x => g (f x)) l
  | [] => rfl
  | a :: r => by simp [tm_map f g r]
theorem tm_zip {α β γ δ : Type} (f : List α → β) (g : List α → γ) (h : β → γ → δ) : ∀ l : List α, List.zipWith h (tm f l) (tm g l) = tm (fun x => h (f x) (g x)) l
  | [] => rfl
  | a :: r => by simp [tm_zip f g h r]
theorem tm_congr {α β : Type} (f g : List α → β) : ∀ l : List α, (∀ a r, f (a :: r) = g (a :: r)) → tm f l = tm g l
  | [], _ => rfl
  | a :: r, h => by simp [h, tm_congr f g r h]
theorem tm_tail {α β : Type} (f : List α → β) (b : β) : ∀ (a : α) (r : List α), tm f r ++ [b] = tm (fun x => if x.tail.isEmpty then b else f x.tail) (a :: r)
  | a, [] => by simp
  | a, c :: r => by
    have := tm_tail f b c r
    simp at this ⊢
    exact this
theorem tm_get {α β : Type} (f : List α → β) : ∀ (l : List α) (k : Nat), k < l.length → (tm f l)[k]? = some (f (l.drop k))
  | a :: r, 0, _ => rfl
  | a :: r, k + 1, h => by simp; exact tm_get f r k (by simpa using h)
theorem tm_at {α β : Type} (f : α → β) : ∀ l : List α, (∀ g : List α → β, (∀ a r, g (a :: r) = f a) → tm g l = l.map f)
  | [], g, h => rfl
  | a :: r, g, h => by simp [h, tm_at f r g h]
end Dl

set_option Elab.async false
set_option linter.all false
set_option maxRecDepth 100000
set_option maxHeartbeats 1000000
namespace Dl
open PySem PySem.Spec PyProof.Rows L2
/-! rows for the further operations -/
theorem els2_some {g h : D → D → Option DS} {x y : D} {r : DS} (e : g x y = some r) : els2 g h x y = some r := by
  unfold els2; rw [e]
theorem dInG_tup {neg : Bool} {x : D} {ys : List D} (h : flatD x = true) (h2 : ys.all flatD = true) : els2 (dIn neg) (dInS neg) x (.tup ys) = some (.bl (if neg then !ys.any (fun z => eqF z x) else ys.any fun z => eqF z x), .fz) := els2_some (dIn_tup h h2)
theorem dInG_lst {neg : Bool} {x : D} {ys : List D} (h : flatD x = true) (h2 : ys.all flatD = true) : els2 (dIn neg) (dInS neg) x (.lst ys) = some (.bl (if neg then !ys.any (fun z => eqF z x) else ys.any fun z => eqF z x), .fz) := els2_some (dIn_lst h h2)
@[simp] theorem dInG_t2 {neg : Bool} {x b c : D} (h : flatD x = true) (hb : flatD b = true) (hc : flatD c = true) : els2 (dIn neg) (dInS neg) x (.tup [b, c]) = some (.bl (if neg then !(eqF b x || eqF c x) else (eqF b x || eqF c x)), .fz) := by
  rw [dInG_tup h (by simp [hb, hc])]; simp
@[simp] theorem dInK_q {neg : Bool} {C : List D} {x : D} (h : flatD x = true) (h2 : C.all flatD = true) : dInK neg C x = some (.bl (if neg then !C.any (fun z => eqF z x) else C.any fun z => eqF z x), .fz) := dIn_tup h h2
@[simp] theorem intsD_nil : intsD [] = some [] := rfl
theorem intsD_map : ∀ ns : List Int, intsD (ns.map D.int) = some ns
  | [] => rfl
  | n :: ns => by show (intsD (ns.map D.int)).map _ = _; rw [intsD_map ns]; rfl
theorem bolsD_map : ∀ ns : List Bool, bolsD (ns.map D.bl) = some ns
  | [] => rfl
  | n :: ns => by show (bolsD (ns.map D.bl)).map _ = _; rw [bolsD_map ns]; rfl
theorem dSum_q {ns : List Int} : dSum [.lst (ns.map D.int)] = some (.int ns.sum, .fz) := by
  show (intsD (ns.map D.int)).map _ = _; rw [intsD_map]; rfl
theorem dAll_q {ns : List Bool} : dAll [.lst (ns.map D.bl)] = some (.bl (ns.all id), .fz) := by
  show (bolsD (ns.map D.bl)).map _ = _; rw [bolsD_map]; rfl
def strK (p : DS × Option Wd) : Option (List D × Option Wd) := match p.1.1 with
  | .str z => some (signs z, p.2)
  | _ => none
@[simp] theorem strK_q {z : Str} {s : O3} {w : Option Wd} : strK ((.str z, s), w) = some (signs z, w) := rfl
@[simp] theorem iStrD_q {f : EF} {env : En} {w : Option Wd} : iStrD f env w = bnd (f env w) strK := rfl
def enumK (p : List DS × Option Wd) : Option (List D × Option Wd) := match p.1 with
  | [(.lst xs, _)] => some (enumD 0 xs, p.2)
  | _ => none
@[simp] theorem enumK_q {xs : List D} {s : O3} {w : Option Wd} : enumK ([(.lst xs, s)], w) = some (enumD 0 xs, w) := rfl
@[simp] theorem iEnumD_q {fa : EA} {env : En} {w : Option Wd} : iEnumD fa env w = bnd (fa env w) enumK := rfl
@[simp] theorem enumD_nil {k : Int} : enumD k [] = [] := rfl
@[simp] theorem enumD_cons {k : Int} {x : D} {xs : List D} : enumD k (x :: xs) = .tup [.int k, x] :: enumD (k + 1) xs := rfl
@[simp] theorem dIsi_st {z : Str} : dIsi [.str z, .ty "str"] = some (.bl true, .fz) := rfl
@[simp] theorem dIsi_si {z : Str} : dIsi [.str z, .ty "int"] = some (.bl false, .fz) := rfl
@[simp] theorem dIsi_sb {z : Str} : dIsi [.str z, .ty "bool"] = some (.bl false, .fz) := rfl
@[simp] theorem dIsi_stu {z : Str} : dIsi [.str z, .ty "tuple"] = some (.bl false, .fz) := rfl
@[simp] theorem dIsi_is {i : Int} : dIsi [.int i, .ty "str"] = some (.bl false, .fz) := rfl
@[simp] theorem dIsi_it {i : Int} : dIsi [.int i, .ty "tuple"] = some (.bl false, .fz) := rfl
@[simp] theorem dIsi_tt {ds : List D} : dIsi [.tup ds, .ty "tuple"] = some (.bl true, .fz) := rfl
@[simp] theorem dIsi_ts {ds : List D} : dIsi [.tup ds, .ty "str"] = some (.bl false, .fz) := rfl
@[simp] theorem dIsi_tb {ds : List D} : dIsi [.tup ds, .ty "bool"] = some (.bl false, .fz) := rfl
@[simp] theorem dIsi_lt {ds : List D} : dIsi [.lst ds, .ty "tuple"] = some (.bl false, .fz) := rfl
@[simp] theorem dIsi_ll {ds : List D} : dIsi [.lst ds, .ty "list"] = some (.bl true, .fz) := rfl
@[simp] theorem dIsi_li {ds : List D} : dIsi [.lst ds, .ty "int"] = some (.bl false, .fz) := rfl
@[simp] theorem dIsi_ls {ds : List D} : dIsi [.lst ds, .ty "str"] = some (.bl false, .fz) := rfl
@[simp] theorem dIsi_nt : dIsi [.non, .ty "tuple"] = some (.bl false, .fz) := rfl
@[simp] theorem dIsi_ni : dIsi [.non, .ty "int"] = some (.bl false, .fz) := rfl
@[simp] theorem dIsi_ns : dIsi [.non, .ty "str"] = some (.bl false, .fz) := rfl
@[simp] theorem dIsi_bt {b : Bool} : dIsi [.bl b, .ty "tuple"] = some (.bl false, .fz) := rfl
@[simp] theorem dIsi_bi {b : Bool} : dIsi [.bl b, .ty "int"] = some (.bl true, .fz) := rfl
@[simp] theorem dIsi_bs {b : Bool} : dIsi [.bl b, .ty "str"] = some (.bl false, .fz) := rfl
theorem dSl_str : True := trivial
end Dl

set_option Elab.async false
set_option linter.all false
set_option maxRecDepth 100000
set_option maxHeartbeats 1000000
namespace Dl
open PySem PySem.Spec PyProof.Rows L2
/-! loops and comprehensions at once -/
theorem lcL_gen {α : Type} {set : ESet} {t : ET} {fe : EF} {env : En} {w : Option Wd} (φ : α → D) (p : α → Bool) (g : α → D) : ∀ (xs : List α),
    (∀ x ∈ xs, ∃ e1, set (φ x) env = some e1 ∧ t e1 w = some (p x, w) ∧ (p x = true → eFz fe e1 w = some ((g x, .fz), w))) → lcL set t fe (xs.map φ) env w = some ((xs.filter p).map g, w)
  | [], _ => rfl
  | x :: xs, h => by
    obtain ⟨e1, h1, h2, h3⟩ := h x List.mem_cons_self
    have ih := lcL_gen φ p g xs fun y hy => h y (List.mem_cons_of_mem _ hy)
    rw [List.map_cons, lcL_cons, h1, bnd_some, lcC1_q, h2, bnd_some]
    cases hp : p x with
    | true => rw [lcC2_t, h3 hp, bnd_some, lcC3_q, ih, List.filter_cons_of_pos hp]; rfl
    | false => rw [lcC2_f, ih, List.filter_cons_of_neg (by simp [hp])]
theorem lcL_all {α : Type} {set : ESet} {fe : EF} {env : En} {w : Option Wd} (φ : α → D) (g : α → D) (xs : List α)
    (h : ∀ x ∈ xs, ∃ e1, set (φ x) env = some e1 ∧ eFz fe e1 w = some ((g x, .fz), w)) : lcL set tYesD fe (xs.map φ) env w = some (xs.map g, w) := by
  have := lcL_gen (set := set) (t := tYesD) (fe := fe) (env := env) (w := w) φ (fun _ => true) g xs fun x hx => by
    obtain ⟨e1, h1, h2⟩ := h x hx
    exact ⟨e1, h1, rfl, fun _ => h2⟩
  rw [this, List.filter_eq_self.mpr fun _ _ => rfl]
/-- the same where the list stands as data -/
theorem lcL_genD {set : ESet} {t : ET} {fe : EF} {env : En} {w : Option Wd} (p : D → Bool) (g : D → D) (xs : List D)
    (h : ∀ x ∈ xs, ∃ e1, set x env = some e1 ∧ t e1 w = some (p x, w) ∧ (p x = true → eFz fe e1 w = some ((g x, .fz), w))) : lcL set t fe xs env w = some ((xs.filter p).map g, w) := by
  have := lcL_gen (set := set) (t := t) (fe := fe) (env := env) (w := w) id p g xs h
  rw [List.map_id] at this
  exact this
theorem range_map {n : Nat} : rangeD 0 (n : Int) = (List.range n).map fun k : Nat => .int (k : Int) := by
  unfold rangeD
  simp
theorem range_map2 {lo hi : Nat} : rangeD (lo : Int) (hi : Int) = (List.range' lo (hi - lo)).map fun k : Nat => .int (k : Int) := by
  unfold rangeD
  rw [show ((hi : Int) - (lo : Int)).toNat = hi - lo by omega, List.range'_eq_map_range, List.map_map]
  refine List.map_congr_left fun k _ => ?_
  show D.int _ = D.int _
  congr 1
theorem range_cons {lo hi : Int} (h : lo < hi) : rangeD lo hi = .int lo :: rangeD (lo + 1) hi := by
  unfold rangeD
  have e : (hi - lo).toNat = (hi - (lo + 1)).toNat + 1 := by omega
  rw [e, List.range_succ_eq_map, List.map_cons, List.map_map]
  refine congr (congrArg List.cons (by simp)) (List.map_congr_left fun k _ => ?_)
  show D.int _ = D.int _
  congr 1
  simp; omega
theorem range_none {lo hi : Int} (h : hi ≤ lo) : rangeD lo hi = [] := by
  unfold rangeD
  rw [show (hi - lo).toNat = 0 by omega]; rfl
/-- a for whose turns change the slots as a function of a state -/
theorem forL_fold {α σ : Type} {set : ESet} {sa : SB} {w : Option Wd} (φ : α → D) (E : σ → En) (f : σ → α → σ) (I : σ → Prop) : ∀ (xs : List α) (s : σ), I s →
    (∀ s, I s → ∀ x ∈ xs, I (f s x) ∧ ∃ e1, set (φ x) (E s) = some e1 ∧ sa e1 w = some (.nx (E (f s x)) w)) → forL set sa (xs.map φ) (E s) w = some (.nx (E (xs.foldl f s)) w)
  | [], _, _, _ => rfl
  | x :: xs, s, hi, h => by
    obtain ⟨hi2, e1, h1, h2⟩ := h s hi x List.mem_cons_self
    have ih := forL_fold (set := set) (sa := sa) (w := w) φ E f I xs (f s x) hi2 fun s hs y hy => h s hs y (List.mem_cons_of_mem _ hy)
    rw [List.map_cons, forL_cons, h1, bnd_some, forK2_q, h2, bnd_some, forP_nx, ih]; rfl
/-- a for that only looks, and never leaves -/
theorem forL_look {α : Type} {set : ESet} {sa : SB} {w : Option Wd} (φ : α → D) (P : En → Prop) : ∀ (xs : List α) (env : En), P env →
    (∀ env, P env → ∀ x ∈ xs, ∃ e1 e2, set (φ x) env = some e1 ∧ sa e1 w = some (.nx e2 w) ∧ P e2) → ∃ env', forL set sa (xs.map φ) env w = some (.nx env' w) ∧ P env'
  | [], env, hp, _ => ⟨env, rfl, hp⟩
  | x :: xs, env, hp, h => by
    obtain ⟨e1, e2, h1, h2, h3⟩ := h env hp x List.mem_cons_self
    obtain ⟨e3, h4, h5⟩ := forL_look (set := set) (sa := sa) (w := w) φ P xs e2 h3 fun e he y hy => h e he y (List.mem_cons_of_mem _ hy)
    exact ⟨e3, by rw [List.map_cons, forL_cons, h1, bnd_some, forK2_q, h2, bnd_some, forP_nx, h4], h5⟩
theorem head_tm {β : Type} (f : List D → β) (φ : β → D) {l : List D} (h : 0 < l.length) : atI ((tm f l).map φ) 0 = some (φ (f l)) := by
  match l, h with
  | a :: r, _ => simp
theorem tm_atI {β : Type} (f : List D → β) (φ : β → D) (run : List D) (j : Nat) (h : j < run.length) : atI ((tm f run).map φ) (j : Int) = some (φ (f (run.drop j))) := by
  rw [atI_n, List.getElem?_map, tm_get f run j h]; rfl
theorem tm_drop {α β : Type} (f : List α → β) : ∀ (l : List α) (k : Nat), (tm f l).drop k = tm f (l.drop k)
  | [], k => by simp
  | a :: r, 0 => rfl
  | a :: r, k + 1 => by simp [tm_drop f r k]
theorem tm_range {α β : Type} (g : List α → β) : ∀ (l : List α) (run : List α) (lo : Nat), run.drop lo = l → (List.range' lo l.length).map (fun k => g (run.drop k)) = tm g l
  | [], run, lo, h => rfl
  | a :: r, run, lo, h => by
    have h2 : run.drop (lo + 1) = r := by
      have := congrArg List.tail h
      simpa using this
    have ih := tm_range g r run (lo + 1) h2
    rw [List.length_cons, List.range'_succ, List.map_cons, h, ih]
    rfl
theorem tm_range0 {α β : Type} (g : List α → β) (run : List α) : (List.range run.length).map (fun k => g (run.drop k)) = tm g run := by
  rw [List.range_eq_range']; exact tm_range g run run 0 rfl
theorem any_t (L : List Bool) : (L.map D.bl).any (fun z => eqF z (.bl true)) = L.any id := by
  induction L with
  | nil => rfl
  | cons b L ih => rw [List.map_cons, List.any_cons, List.any_cons, ih]; cases b <;> rfl
theorem any_f (L : List Bool) : (L.map D.bl).any (fun z => eqF z (.bl false)) = !L.all id := by
  induction L with
  | nil => rfl
  | cons b L ih => rw [List.map_cons, List.any_cons, List.all_cons, ih]; cases b <;> simp [eqF]
theorem all_flat (L : List Bool) : (L.map D.bl).all flatD = true := by simp
theorem dEqD_lnil {ds : List D} (h : fine 64 (.lst ds) = true) (neg : Bool) : dEqD neg (.lst ds) (.lst []) = some (.bl (if neg then !ds.isEmpty else ds.isEmpty), .fz) := by
  obtain ⟨p, h1, h2, h3⟩ := fine_py 64 _ h
  obtain ⟨q, g1, g2, g3⟩ := fine_py 64 (.lst []) rfl
  unfold dEqD
  have hs : SeqAt.shaped p = true := by unfold SeqAt.shaped; simp [h2, h3]
  have gs : SeqAt.shaped q = true := by unfold SeqAt.shaped; simp [g2, g3]
  rw [h1, g1]
  cases g1
  have : ∃ ps, p = .list ps ∧ PyData.eqvAll ps [] = ds.isEmpty := by
    cases ds with
    | nil => cases h1; exact ⟨_, rfl, by simp [PyData.eqvAll]⟩
    | cons d ds =>
      simp only [dPy, dPys] at h1
      cases e : dPy d with
      | none => simp [e] at h1
      | some a =>
        cases e2 : dPys ds with
        | none => simp [e, e2] at h1
        | some b => simp [e, e2] at h1; subst h1; exact ⟨_, rfl, by simp [PyData.eqvAll]⟩
  obtain ⟨ps, e, e2⟩ := this
  subst e
  simp [hs, gs, PyData.eqv, e2]
theorem dNe_lnil {ds : List D} (h : fine 64 (.lst ds) = true) : els2 (dEqF true) (dEqD true) (.lst ds) (.lst []) = some (.bl (!ds.isEmpty), .fz) := dEqD_lnil h true
theorem dEq_lnil {ds : List D} (h : fine 64 (.lst ds) = true) : els2 (dEqF false) (dEqD false) (.lst ds) (.lst []) = some (.bl ds.isEmpty, .fz) := dEqD_lnil h false
theorem fine_str {n : Nat} {x : Str} : fine n (.str x) = PyData.strOk x := by cases n <;> simp [fine]
theorem fine_int {n : Nat} {x : Int} : fine n (.int x) = true := by cases n <;> simp [fine]
theorem fine_non {n : Nat} : fine n .non = true := by cases n <;> simp [fine]
theorem fine_bl {n : Nat} {b : Bool} : fine n (.bl b) = true := by cases n <;> simp [fine]
theorem len1_lim {a : D} : [a].length ≤ lim := le_lim (by simp)
theorem len2_lim {a b : D} : [a, b].length ≤ lim := le_lim (by simp)
end Dl

set_option Elab.async false
set_option linter.all false
set_option maxRecDepth 100000
set_option maxHeartbeats 1000000
namespace Dl
open PySem PySem.Spec PyProof.Rows L2
@[simp] theorem dLtG_q {i j : Int} : dLtG (.int i) (.int j) = some (.bl (decide (i < j)), .fz) := dLtG_ii
@[simp] theorem dLeG_q {i j : Int} : dLeG (.int i) (.int j) = some (.bl (decide (i ≤ j)), .fz) := dLeG_ii
@[simp] theorem dGtG_q {i j : Int} : dGtG (.int i) (.int j) = some (.bl (decide (j < i)), .fz) := dGtG_ii
@[simp] theorem dGeG_q {i j : Int} : dGeG (.int i) (.int j) = some (.bl (decide (j ≤ i)), .fz) := dGeG_ii
/-! names -/
def bIsName : SB := (sSeq (sIf ((tOrr (tNo (tTru (eA dIsi (aCons (eVar 0) (aCons (eC (.ty "str")) aNil))))) (tOrr (tVal (eOp dEq (eVar 0) (eC (.str "")))) (tVal (eOp (dInG true) (eOp dIx (eVar 0) (eC (.int 0))) (eC (.str "abcdefghijklmnopqrstuvwxyz"))))))) (sRet (eC (.bl false))) (sNil)) (sRet (eA dAll (aCons (eLC [1] (setN 1) (iStrD (eVar 0)) tYesD ((eOr (eOp (dInG false) (eVar 1) (eC (.str "abcdefghijklmnopqrstuvwxyz"))) (eOp (dInG false) (eVar 1) (eC (.str "0123456789")))))) aNil))))
def fIsName : Fn := runFn 2 1 bIsName
def bLawIsName : SB := (sSeq (sIf ((tOrr (tNo (tTru (eA dIsi (aCons (eVar 0) (aCons (eC (.ty "str")) aNil))))) (tOrr (tVal (eOp dEq (eVar 0) (eC (.str "")))) (tNo ((tAn (tVal (eOp dLeG (eC (.str "a")) (eOp dIx (eVar 0) (eC (.int 0))))) (tVal (eOp dLeG (eOp dIx (eVar 0) (eC (.int 0))) (eC (.str "z")))))))))) (sRet (eC (.bl false))) (sNil)) (sRet (eOp dEq (eLC [1] (setN 1) (iStrD (eVar 0)) (tNo ((tOrr ((tAn (tVal (eOp dLeG (eC (.str "a")) (eVar 1))) (tVal (eOp dLeG (eVar 1) (eC (.str "z")))))) ((tAn (tVal (eOp dLeG (eC (.str "0")) (eVar 1))) (tVal (eOp dLeG (eVar 1) (eC (.str "9"))))))))) (eVar 1)) (eLst aNil))))
def fLawIsName : Fn := runFn 2 1 bLawIsName
def isLet (c : Nat) : Bool := decide (97 ≤ c) && decide (c ≤ 122)
def isDig (c : Nat) : Bool := decide (48 ≤ c) && decide (c ≤ 57)
def nmL : List Nat → Bool
  | [] => false
  | c :: r => isLet c && (c :: r).all fun c => isLet c || isDig c
def nmOk (x : Str) : Bool := nmL x.cps.toList
abbrev sgn (c : Nat) : D := .str ⟨#[c]⟩
theorem let_in (c : Nat) : decide (c ∈ (Str.ofString "abcdefghijklmnopqrstuvwxyz").cps.toList) = isLet c := by
  have e : (Str.ofString "abcdefghijklmnopqrstuvwxyz").cps.toList = (List.range' 97 26) := by decide +kernel
  rw [e, isLet, Bool.eq_iff_iff]
  simp only [List.mem_range'_1, decide_eq_true_eq, Bool.and_eq_true]
  omega
theorem dig_in (c : Nat) : decide (c ∈ (Str.ofString "0123456789").cps.toList) = isDig c := by
  have e : (Str.ofString "0123456789").cps.toList = (List.range' 48 10) := by decide +kernel
  rw [e, isDig, Bool.eq_iff_iff]
  simp only [List.mem_range'_1, decide_eq_true_eq, Bool.and_eq_true]
  omega
theorem inS_let (neg : Bool) (c : Nat) : els2 (dIn neg) (dInS neg) (sgn c) (.str "abcdefghijklmnopqrstuvwxyz") = some (.bl (if neg then !isLet c else isLet c), .fz) := by
  show some (D.bl (if neg then !decide (c ∈ (Str.ofString "abcdefghijklmnopqrstuvwxyz").cps.toList) else decide (c ∈ (Str.ofString "abcdefghijklmnopqrstuvwxyz").cps.toList)), O3.fz) = _
  rw [let_in]
theorem inS_dig (neg : Bool) (c : Nat) : els2 (dIn neg) (dInS neg) (sgn c) (.str "0123456789") = some (.bl (if neg then !isDig c else isDig c), .fz) := by
  show some (D.bl (if neg then !decide (c ∈ (Str.ofString "0123456789").cps.toList) else decide (c ∈ (Str.ofString "0123456789").cps.toList)), O3.fz) = _
  rw [dig_in]
theorem one_le (a c : Nat) : decide ([a] ≤ [c]) = decide (a ≤ c) := by
  rw [Bool.eq_iff_iff]; simp
  constructor
  · intro h
    by_cases hc : a ≤ c
    · exact hc
    · exact absurd (List.Lex.rel (show c < a by omega) : [c] < [a]) (by exact h)
  · intro h hl
    cases hl with
    | rel h2 => omega
    | cons h2 => cases h2
theorem sg_a : (Str.ofString "a").cps.toList = [97] := by decide +kernel
theorem sg_z : (Str.ofString "z").cps.toList = [122] := by decide +kernel
theorem sg_0 : (Str.ofString "0").cps.toList = [48] := by decide +kernel
theorem sg_9 : (Str.ofString "9").cps.toList = [57] := by decide +kernel
theorem leS_a (c : Nat) : dLeG (.str "a") (sgn c) = some (.bl (decide (97 ≤ c)), .fz) := by rw [dLeG_ss, sg_a, one_le]
theorem leS_z (c : Nat) : dLeG (sgn c) (.str "z") = some (.bl (decide (c ≤ 122)), .fz) := by rw [dLeG_ss, sg_z, one_le]
theorem leS_0 (c : Nat) : dLeG (.str "0") (sgn c) = some (.bl (decide (48 ≤ c)), .fz) := by rw [dLeG_ss, sg_0, one_le]
theorem leS_9 (c : Nat) : dLeG (sgn c) (.str "9") = some (.bl (decide (c ≤ 57)), .fz) := by rw [dLeG_ss, sg_9, one_le]
theorem isName_ok (x : Str) (h : x.length ≤ 1000) (w) : fIsName [.str x] w = some ((.bl (nmOk x), .fz), w) := by
  obtain ⟨⟨l⟩⟩ := x
  show _ = some ((D.bl (nmL l), O3.fz), w)
  have hl : l.length ≤ 1000 := h
  cases l with
  | nil => 
    have e : (⟨#[]⟩ : Str) = Str.ofString "" := by decide +kernel
    simp -implicitDefEqProofs [fIsName, bIsName, e, nmL]
  | cons c r =>
    have e : (⟨⟨c :: r⟩⟩ : Str) ≠ Str.ofString "" := fun e => by
      have : (Str.ofString "") = ⟨#[]⟩ := by decide +kernel
      rw [this] at e; cases e
    have h1 : (⟨⟨c :: r⟩⟩ : Str).length ≤ lim := le_lim (Nat.le_trans hl (by decide))
    have hs := fun w s0 s1 => lcL_all (set := setN 1) (fe := (eOr (eOp (dInG false) (eVar 1) (eC (.str "abcdefghijklmnopqrstuvwxyz"))) (eOp (dInG false) (eVar 1) (eC (.str "0123456789"))))) (env := [s0, s1]) (w := w) sgn (fun c => .bl (isLet c || isDig c)) (c :: r) fun x _ => ⟨_, rfl, by
      have a1 := inS_let false x
      have a2 := inS_dig false x
      simp -implicitDefEqProofs at a1 a2
      cases hx : isLet x <;> rw [hx] at a1 <;> simp -implicitDefEqProofs [a1, a2]⟩
    have hsg : Dl.signs ⟨⟨c :: r⟩⟩ = (c :: r).map sgn := rfl
    have hll : ((c :: r).map sgn).length ≤ lim := le_lim (by rw [List.length_map]; omega)
    have hd := dAll_q (ns := (c :: r).map fun c => isLet c || isDig c)
    have e3 : ((c :: r).map fun c => isLet c || isDig c).map D.bl = (c :: r).map fun c => D.bl (isLet c || isDig c) := by rw [List.map_map]; rfl
    rw [e3] at hd
    have a0 := inS_let true c
    have e4 : (((c :: r).map fun c => isLet c || isDig c).all id) = (c :: r).all fun c => isLet c || isDig c := by rw [List.all_map]; rfl
    rw [e4] at hd
    show _ = some ((D.bl (isLet c && (c :: r).all fun c => isLet c || isDig c), O3.fz), w)
    generalize hA : (c :: r).map sgn = A at hs hsg hll
    generalize hB : ((c :: r).map fun c => D.bl (isLet c || isDig c)) = B at hs hd
    generalize hC : ((c :: r).all fun c => isLet c || isDig c) = C at hd ⊢
    cases hx : isLet c <;> rw [hx] at a0 <;> simp -implicitDefEqProofs at a0 <;> simp -implicitDefEqProofs [fIsName, bIsName, e, h1, a0, hsg, hs, lcK_q hll, hd]
theorem lawIsName_ok (x : Str) (h : x.length ≤ 1000) (hf : PyData.strOk x = true) (w) : fLawIsName [.str x] w = some ((.bl (nmOk x), .fz), w) := by
  obtain ⟨⟨l⟩⟩ := x
  show _ = some ((D.bl (nmL l), O3.fz), w)
  have hl : l.length ≤ 1000 := h
  have hf' : ∀ c ∈ l, c < 0x110000 := by
    intro c hc
    have : (l.toArray.all (· < 0x110000)) = true := hf
    rw [List.all_toArray, List.all_eq_true] at this
    simpa using this c hc
  cases l with
  | nil => 
    have e : (⟨#[]⟩ : Str) = Str.ofString "" := by decide +kernel
    simp -implicitDefEqProofs [fLawIsName, bLawIsName, e, nmL]
  | cons c r =>
    have e : (⟨⟨c :: r⟩⟩ : Str) ≠ Str.ofString "" := fun e => by
      have : (Str.ofString "") = ⟨#[]⟩ := by decide +kernel
      rw [this] at e; cases e
    have h1 : (⟨⟨c :: r⟩⟩ : Str).length ≤ lim := le_lim (Nat.le_trans hl (by decide))
    have tst : ∀ (x : Nat) (s0 : Option (D × Bool)) (w : Option Wd), (tNo ((tOrr ((tAn (tVal (eOp dLeG (eC (.str "a")) (eVar 1))) (tVal (eOp dLeG (eVar 1) (eC (.str "z")))))) ((tAn (tVal (eOp dLeG (eC (.str "0")) (eVar 1))) (tVal (eOp dLeG (eVar 1) (eC (.str "9"))))))))) [s0, some (sgn x, false)] w = some (!(isLet x || isDig x), w) := by
      intro x s0 w
      have b1 := leS_a x
      have b2 := leS_z x
      have b3 := leS_0 x
      have b4 := leS_9 x
      unfold isLet isDig
      by_cases g1 : 97 ≤ x <;> by_cases g2 : x ≤ 122 <;> by_cases g3 : 48 ≤ x <;> by_cases g4 : x ≤ 57 <;> simp only [g1, g2, g3, g4, decide_true, decide_false] at b1 b2 b3 b4 <;> simp -implicitDefEqProofs [b1, b2, b3, b4, g1, g2, g3, g4]
    have hs := fun w s0 s1 => lcL_gen (set := setN 1) (t := (tNo ((tOrr ((tAn (tVal (eOp dLeG (eC (.str "a")) (eVar 1))) (tVal (eOp dLeG (eVar 1) (eC (.str "z")))))) ((tAn (tVal (eOp dLeG (eC (.str "0")) (eVar 1))) (tVal (eOp dLeG (eVar 1) (eC (.str "9")))))))))) (fe := eVar 1) (env := [s0, s1]) (w := w) sgn (fun c => !(isLet c || isDig c)) sgn (c :: r) fun x _ => ⟨_, rfl, tst x s0 w, fun _ => by simp⟩
    have hsg : Dl.signs ⟨⟨c :: r⟩⟩ = (c :: r).map sgn := rfl
    have hll : ((c :: r).map sgn).length ≤ lim := le_lim (by rw [List.length_map]; omega)
    have hfi : fine 64 (.lst (((c :: r).filter fun c => !(isLet c || isDig c)).map sgn)) = true := by
      show fine (63 + 1) _ = true
      rw [fine_lst]
      intro d hd
      obtain ⟨y, hy, rfl⟩ := List.mem_map.mp hd
      rw [fine_str]
      have := hf' y (List.mem_filter.mp hy).1
      show ((#[y] : Array Nat).all (· < 0x110000)) = true
      simpa using this
    have hq := dEq_lnil hfi
    have e4 : (((c :: r).filter fun c => !(isLet c || isDig c)).map sgn).isEmpty = (c :: r).all fun c => isLet c || isDig c := by
      rw [List.isEmpty_map]
      generalize c :: r = l
      induction l with
      | nil => rfl
      | cons y l ih =>
        rw [List.all_cons, ← ih, List.filter_cons]
        cases (isLet y || isDig y) <;> rfl
    rw [e4] at hq
    have b1 := leS_a c
    have b2 := leS_z c
    show _ = some ((D.bl (isLet c && (c :: r).all fun c => isLet c || isDig c), O3.fz), w)
    generalize hA : (c :: r).map sgn = A at hs hsg hll
    generalize hB : (((c :: r).filter fun c => !(isLet c || isDig c)).map sgn) = B at hs hq
    generalize hC : ((c :: r).all fun c => isLet c || isDig c) = C at hq ⊢
    have hx : isLet c = (decide (97 ≤ c) && decide (c ≤ 122)) := rfl
    rw [hx]
    clear hx
    by_cases g1 : 97 ≤ c <;> by_cases g2 : c ≤ 122 <;> simp only [g1, g2, decide_true, decide_false] at b1 b2 <;> simp -implicitDefEqProofs [fLawIsName, bLawIsName, e, h1, b1, b2, g1, g2, hsg, hs, lcK_q hll, hq]
end Dl

set_option Elab.async false
set_option linter.all false
set_option maxRecDepth 100000
set_option maxHeartbeats 4000000
namespace Dl
open PySem PySem.Spec PyProof.Rows L2
/-! ### dicts whose keys are tuples -/
section
variable {X : Cx} {pins : List (Addr × Obj)} {σ : L2.St} {H : Hp} {s : Shared} {F : Addr → Prop} {wa : Option Addr}
mutual
theorem nis (I : Inv X pins σ H s) : ∀ (d : D) (v : V) (u : Value) (k : NestedKey), Rep (kwOf X) F wa H d v → RelV v u → nkD d = some k → NestedIs s.heap k u
  | .non, v, u, k, r, rv, e => by
    cases (show v = .non from r); cases rv; cases e; exact .none
  | .bl b, v, u, k, r, rv, e => by
    cases (show v = .bl b from r); cases rv; cases e; exact .bool rfl
  | .int i, v, u, k, r, rv, e => by
    cases (show v = .int i from r)
    obtain ⟨t, rfl⟩ := rv
    cases e; exact .int i t
  | .str x, v, u, k, r, rv, e => by
    cases (show v = .str x from r)
    obtain ⟨t, rfl⟩ := rv
    cases e; exact .text x t
  | .tup ds, v, u, k, r, rv, e => by
    obtain ⟨a, o, vs, e1, _, hh, ht, rr⟩ := r
    subst e1
    cases (show u = Value.ref a from rv)
    have e' : (nkDs ds).map NestedKey.tup = some k := e
    obtain ⟨ks, h1, h2⟩ := Option.map_eq_some_iff.mp e'
    subst h2
    obtain ⟨its, rvs, ⟨ob, g1, g2, n, g3⟩, _⟩ := I.tuple (ht.sq (K := kwOf X) hh)
    exact .tup g1 g2 g3 (by simpa using nisAll I ds vs its ks rr rvs h1)
  | .lst _, _, _, _, _, _, e => nomatch e
  | .dk _ _, _, _, _, _, _, e => nomatch e
  | .dt _ _, _, _, _, _, _, e => nomatch e
  | .scr _, _, _, _, _, _, e => nomatch e
  | .ty _, _, _, _, _, _, e => nomatch e
  | .w, _, _, _, _, _, e => nomatch e
theorem nisAll (I : Inv X pins σ H s) : ∀ (ds : List D) (vs : List V) (us : List Value) (ks : List NestedKey), Reps (kwOf X) F wa H ds vs → Vals vs us → nkDs ds = some ks → NestedAll s.heap ks us
  | [], vs, us, ks, r, rv, e => by
    have q : vs = [] := r
    subst q
    cases rv; cases e; exact .nil
  | d :: ds, vs, us, ks, r, rv, e => by
    obtain ⟨v, t, e1, r1, r2⟩ := r
    subst e1
    cases rv with
    | @cons _ u _ us' rv1 rv2 =>
      have e' : ((nkD d).bind fun k => (nkDs ds).map fun r => k :: r) = some ks := e
      obtain ⟨k, h1, h2⟩ := Option.bind_eq_some_iff.mp e'
      obtain ⟨kr, h3, h4⟩ := Option.map_eq_some_iff.mp h2
      subst h4
      exact .cons (nis I d v u k r1 rv1 h1) (nisAll I ds t us' kr r2 rv2 h3)
end
theorem isAll (I : Inv X pins σ H s) : ∀ {ks : List D} {xs : DEs}, DtOk ks xs → Reps (kwOf X) F wa H ks (dtV xs) → ∀ x ∈ xs, (nestedKind X.prog X.w).is s.heap x.1 x.2.1
  | _, _, .nil, _, x, hx => nomatch hx
  | k :: ks, y :: xs, .cons h t, r, x, hx => by
    obtain ⟨v, tl, e1, r1, r2⟩ := r
    have e2 : dtV (y :: xs) = .ref y.2.1 :: dtV xs := rfl
    rw [e2] at e1
    injection e1 with e3 e4
    subst e3 e4
    rcases List.mem_cons.mp hx with e | hx
    · subst e
      exact ⟨nis I k _ _ _ r1 rfl h.1, h.2⟩
    · exact isAll I t r2 x hx
theorem dt_raw (I : Inv X pins σ H s) {a : Addr} {xs : DEs} (h : H a = some (DTO X.w a xs)) : DtRaw X.w a xs s.heap := (show ObjOk X.prog X.w H s.heap a (DTO X.w a xs) from I.hok a _ h).1
theorem dt_of {a : Addr} {ks : List D} {xs : DEs} (I : Inv X pins σ H s) (h : H a = some (DTO X.w a xs)) (ok : DtOk ks xs) (rk : Reps (kwOf X) F wa H ks (dtV xs)) :
    s.heap.DictOfH (nestedKind X.prog X.w) a xs ∧ (a == sysModules) = false ∧ xs.length ≤ sizeLine := by
  obtain ⟨o, es, ep, h1, h2, h3, h4, h5, h6, h7⟩ := dt_raw I h
  exact ⟨⟨o, es, ep, h1, h2, h3, h4, isAll I ok rk, h5⟩, h6, h7⟩
theorem dto_new {P : Program} {H' : Hp} {h' : Heap} {a : Addr} {xs : DEs} (dd : h'.DictOfH (nestedKind P X.w) a xs) (hd : (a == sysModules) = false) (hl : xs.length ≤ sizeLine) : ObjOk P X.w H' h' a (DTO X.w a xs) := by
  obtain ⟨o, es, ep, h1, h2, h3, h4, _, h5⟩ := dd
  refine ⟨⟨o, es, ep, h1, h2, h3, h4, h5, hd, hl⟩, ⟨o, h1⟩, fun g1 g2 q k => ?_⟩
  obtain ⟨o', es', ep', q1, q⟩ := q
  exact ⟨o', es', ep', k _ q1, q⟩
theorem room8 {A : Around} (hu : A.units + 64 < cLine) : (nestedKind X.prog X.w).room A.in1 := by
  show A.units + 1 + 8 < cLine
  omega
end
def dtFind : List D → List D → NestedKey → Option D
  | k :: ks, d :: ds, j => if nkD k = some j then some d else dtFind ks ds j
  | _, _, _ => none
def dtUpd : List D → List D → NestedKey → D → List D
  | k :: ks, d :: ds, j, x => (if nkD k = some j then x else d) :: dtUpd ks ds j x
  | _, ds, _, _ => ds
def dtPut (ks ds : List D) (kd : D) (j : NestedKey) (x : D) : List D × List D := if (dtFind ks ds j).isSome = true then (ks, dtUpd ks ds j x) else (ks ++ [kd], ds ++ [x])
section
variable {K : KW} {F : Addr → Prop} {wa : Option Addr} {H : Hp}
theorem atKey_cons (y : NestedKey × Addr × Value) (xs : DEs) (j : NestedKey) : atKey (y :: xs) j = if y.1 = j then some y.2 else atKey xs j := by
  unfold atKey
  rw [List.find?_cons]
  by_cases h : y.1 = j <;> simp [h]
theorem dtFind_ok (j : NestedKey) : ∀ {ks ds : List D} {xs : DEs} {vs : List V}, DtOk ks xs → Vals vs (dtU xs) → Reps K F wa H ds vs →
    (∀ d, dtFind ks ds j = some d → ∃ p v, atKey xs j = some p ∧ RelV v p.2 ∧ Rep K F wa H d v) ∧ (dtFind ks ds j = none → atKey xs j = none)
  | _, ds, _, vs, .nil, rv, r => by
    cases rv
    have e : ds = [] := by
      cases ds with
      | nil => rfl
      | cons d t => obtain ⟨_, _, e, _⟩ := r; cases e
    subst e
    exact ⟨fun d h => (nomatch h), fun _ => rfl⟩
  | k :: ks, ds, y :: xs, vs, .cons h t, rv, r => by
    cases rv with
    | @cons v _ vs' _ rv1 rv2 =>
      cases ds with
      | nil => have e : (v :: vs') = [] := r; cases e
      | cons d ds =>
        obtain ⟨v', t', e, r1, r2⟩ := r
        cases e
        obtain ⟨g1, g2⟩ := dtFind_ok j t rv2 r2
        rw [atKey_cons]
        show (∀ d', (if nkD k = some j then some d else dtFind ks ds j) = some d' → _) ∧ ((if nkD k = some j then some d else dtFind ks ds j) = none → _)
        rw [h.1]
        by_cases hj : y.1 = j
        · rw [if_pos (by rw [hj]), if_pos hj]
          exact ⟨fun d' e => (by cases e; exact ⟨_, v, rfl, rv1, r1⟩), fun e => (nomatch e)⟩
        · rw [if_neg (fun e => hj (Option.some.inj e)), if_neg hj]
          exact ⟨g1, g2⟩
theorem dtUpd_ok {j : NestedKey} {x : D} {v : V} {u : Value} (rx : Rep K F wa H x v) (rv : RelV v u) : ∀ {ks ds : List D} {xs : DEs} {vs : List V}, DtOk ks xs → Vals vs (dtU xs) → Reps K F wa H ds vs →
    ∃ vs', DtOk ks (xs.map (putAt j u)) ∧ Vals vs' (dtU (xs.map (putAt j u))) ∧ Reps K F wa H (dtUpd ks ds j x) vs' ∧ dtV (xs.map (putAt j u)) = dtV xs
  | _, ds, _, vs, .nil, rv, r => ⟨vs, .nil, rv, by cases ds <;> exact r, rfl⟩
  | k :: ks, ds, y :: xs, vs, .cons h t, rvs, r => by
    cases rvs with
    | @cons v0 _ vs0 _ rv1 rv2 =>
      cases ds with
      | nil => have e : (v0 :: vs0) = [] := r; cases e
      | cons d ds =>
        obtain ⟨v', t', e, r1, r2⟩ := r
        cases e
        obtain ⟨vs', g1, g2, g3, g4⟩ := dtUpd_ok (j := j) rx rv t rv2 r2
        have e0 : (y :: xs).map (putAt j u) = putAt j u y :: xs.map (putAt j u) := rfl
        have e1 : (putAt j u y).1 = y.1 := by unfold putAt; split <;> rfl
        have e2 : (putAt j u y).2.1 = y.2.1 := by unfold putAt; split <;> rfl
        refine ⟨(if y.1 = j then v else v0) :: vs', ?_, ?_, ?_, ?_⟩
        · rw [e0]
          exact .cons ⟨by rw [e1]; exact h.1, by rw [e1]; exact h.2⟩ g1
        · rw [e0]
          refine .cons ?_ g2
          show RelV _ (putAt j u y).2.2
          unfold putAt
          by_cases hj : y.1 = j
          · rw [if_pos hj, if_pos hj]; exact rv
          · rw [if_neg hj, if_neg hj]; exact rv1
        · show Reps K F wa H ((if nkD k = some j then x else d) :: dtUpd ks ds j x) _
          refine ⟨_, _, rfl, ?_, g3⟩
          rw [h.1]
          by_cases hj : y.1 = j
          · rw [if_pos (by rw [hj]), if_pos hj]; exact rx
          · rw [if_neg (fun e => hj (Option.some.inj e)), if_neg hj]; exact r1
        · rw [e0]
          show V.ref (putAt j u y).2.1 :: dtV (xs.map (putAt j u)) = .ref y.2.1 :: dtV xs
          rw [e2, g4]
theorem dtV_app (xs ys : DEs) : dtV (xs ++ ys) = dtV xs ++ dtV ys := List.map_append
theorem dtU_app (xs ys : DEs) : dtU (xs ++ ys) = dtU xs ++ dtU ys := List.map_append
theorem Paired.app {α β : Type} {R : α → β → Prop} : ∀ {as bs : List α} {cs ds : List β}, Paired R as cs → Paired R bs ds → Paired R (as ++ bs) (cs ++ ds)
  | _, _, _, _, .nil, h => h
  | _, _, _, _, .cons r t, h => .cons r (Paired.app t h)
theorem dtPut_ok {j : NestedKey} {kd x : D} {b : Addr} {v : V} {u : Value} (hk : nkD kd = some j) (hj : j.depth ≤ 8) (rk : Rep K F wa H kd (.ref b)) (rx : Rep K F wa H x v) (rv : RelV v u) {ks ds : List D} {xs : DEs} {vs : List V} (ok : DtOk ks xs) (rvs : Vals vs (dtU xs)) (rks : Reps K F wa H ks (dtV xs)) (rds : Reps K F wa H ds vs) :
    ∃ vs', DtOk (dtPut ks ds kd j x).1 (storedH xs j b u) ∧ Vals vs' (dtU (storedH xs j b u)) ∧ Reps K F wa H (dtPut ks ds kd j x).1 (dtV (storedH xs j b u)) ∧ Reps K F wa H (dtPut ks ds kd j x).2 vs' := by
  obtain ⟨g1, g2⟩ := dtFind_ok (K := K) (F := F) (wa := wa) (H := H) j ok rvs rds
  unfold dtPut
  cases e : dtFind ks ds j with
  | some d =>
    obtain ⟨p, _, h1, _⟩ := g1 d e
    rw [storedH_old h1]
    simp only [Option.isSome_some, if_true]
    obtain ⟨vs', q1, q2, q3, q4⟩ := dtUpd_ok (j := j) rx rv ok rvs rds
    exact ⟨vs', q1, q2, by rw [q4]; exact rks, q3⟩
  | none =>
    rw [storedH_new (g2 e)]
    simp only [Option.isSome_none, Bool.false_eq_true, if_false]
    refine ⟨vs ++ [v], Paired.app ok (.cons ⟨hk, hj⟩ .nil), ?_, ?_, rds.app (.one rx)⟩
    · rw [dtU_app]; exact rvs.append (.cons rv .nil)
    · rw [dtV_app]; exact rks.app (.one rk)
theorem storedH_len (xs : DEs) (j : NestedKey) (b : Addr) (u : Value) : (storedH xs j b u).length ≤ xs.length + 1 := by
  unfold storedH
  split <;> simp
end
/-! the rules -/
def tkD (d : D) : Option NestedKey := match d with
  | .tup _ => (nkD d).bind fun k => if k.depth ≤ 8 then some k else none
  | _ => none
theorem tkD_of {d : D} {j : NestedKey} (h : tkD d = some j) : nkD d = some j ∧ j.depth ≤ 8 ∧ ∃ ds, d = .tup ds := by
  unfold tkD at h
  split at h
  · obtain ⟨k, h1, h2⟩ := Option.bind_eq_some_iff.mp h
    split at h2
    · cases h2; exact ⟨h1, by assumption, _, rfl⟩
    · cases h2
  · cases h
/-- x stands for the dict, y for the key -/
def DGt (X : Cx) (H : Hp) (x y : V) (F : Addr → Prop) (wa : Option Addr) (ks ds : List D) (kd : D) : Prop := Cur (kwOf X) F wa H (.dt ks ds) x ∧ Rep (kwOf X) F wa H kd y
section
variable {X : Cx} {K : KW} {F : Addr → Prop} {wa : Option Addr} {H : Hp}
def rIxDt (X : Cx) : R2 := fun x y H Q => ∃ F wa ks ds kd j d, Cur (kwOf X) F wa H (.dt ks ds) x ∧ Rep (kwOf X) F wa H kd y ∧ tkD kd = some j ∧ dtFind ks ds j = some d ∧ ∀ v, Rep (kwOf X) F wa H d v → Q v H
theorem ix_dt (hu : X.A.units + 64 < cLine) : IxR X (rIxDt X) := by
  intro value slice pins s σ H x y v u Q I rx ry h hs
  obtain ⟨F, wa, ks, ds, kd, j, d, c, rk, hk, hf, q⟩ := h
  obtain ⟨a, xs, vs, e, hh, ok, rvs, rks, rds⟩ := c
  subst e
  cases (show v = Value.ref a from rx)
  obtain ⟨h1, h2, kds, rfl⟩ := tkD_of hk
  obtain ⟨b, o, kvs, e2, _⟩ := id rk
  subst e2
  cases (show u = Value.ref b from ry)
  obtain ⟨dd, hd, hl⟩ := dt_of I hh ok rks
  obtain ⟨p, v, p1, p2, p3⟩ := (dtFind_ok j ok rvs rds).1 d hf
  refine subscriptTail_builtinR (x := p.2) dd.typeIs PySem.F.slot_dict_getitem.lookup (wpAny_getItem_heap (room8 hu) ⟨nis I _ _ _ _ rk rfl h1, h2⟩ dd p1 ⟨rfl, ?_⟩) hs
  exact ⟨v, H, I.tok _, p2, q v p3⟩
end
end Dl

set_option Elab.async false
set_option linter.all false
set_option maxRecDepth 100000
set_option maxHeartbeats 4000000
namespace Dl
open PySem PySem.Spec PyProof.Rows L2
/-! ### dicts: look, member, store -/
def dIxK : D → D → Option DS := fun x y => match x with
  | .dk ks ds => (keyD y).bind fun k => (dFind ks ds k).map fun d => (d, .fz)
  | .dt ks ds => (tkD y).bind fun k => (dtFind ks ds k).map fun d => (d, .fz)
  | _ => none
def rIxDk (X : Cx) : R2 := fun x y H Q => ∃ a v, x = .ref a ∧ DGet H a y (some v) ∧ Q v H
section
variable {X : Cx} {K : KW} {F : Addr → Prop} {wa : Option Addr} {H : Hp}
theorem ix_dk (hu : X.A.units + 64 < cLine) : IxR X (rIxDk X) := by
  intro value slice pins s σ H x y v u Q I rx ry h hs
  obtain ⟨a, w, e, g, q⟩ := h
  subst e
  cases (show v = Value.ref a from rx)
  have hg : wpAny (model X.prog X.w) X.A (getItem (.ref a) u) (EP X pins σ Q) X.xe s := d_getItem (by omega) I g ry fun w' s3 I3 rw' => ⟨w, H, I3, rw', q⟩
  have st := dict_typeIs I g
  have after : wpAny (model X.prog X.w) X.A (subscripted slice false (.ref a) u) (fun r z => wpAny (model X.prog X.w) X.A (letTemporaryGo value (.ref a) r >>= fun _ => pure r) (EP X pins σ Q) X.xe z) X.xe s := by
    rw [hs]; exact wpAny_operating (wpAny_mono hg (fun _ _ z => wpAny_bind (wpAny_letTemporaryGo (wpAny_pure z))) fun _ _ z => z)
  unfold subscriptTail
  refine wpAny_bind (?_ : wpAny _ _ _ _ _ _); rw [getitemInPython_of_ne st.not_modules]
  refine wpAny_bind (wpAny_specialOf st PySem.F.slot_dict_getitem.lookup ?_)
  first | exact wpAny_pure (wpAny_bind after) | exact wpAny_bind (wpAny_pure (wpAny_bind after)) | exact wpAny_bind after
theorem sIxDk : OpS (kwOf X) (fun x y H Q => rIxDk X x y H Q ∨ rIxDt X x y H Q) dIxK := fun wa w F H x y d st v1 v2 wk fd c1 c2 e Q q => by
  unfold dIxK at e
  split at e
  · obtain ⟨k, h1, h2⟩ := Option.bind_eq_some_iff.mp e
    obtain ⟨d', h3, h4⟩ := Option.map_eq_some_iff.mp h2
    cases h4
    obtain ⟨a, vs, e1, hh, hl, rr⟩ := c1
    subst e1
    obtain ⟨u, g1, g2⟩ := (dFind_ok (k := k) rr).1 _ h3
    refine .inl ⟨a, u, rfl, ?_, q.fz wk fd g2⟩
    rw [keyD_ok h1 c2]
    exact .inl ⟨_, k, .inl hh, rfl, g1.symm⟩
  · obtain ⟨k, h1, h2⟩ := Option.bind_eq_some_iff.mp e
    obtain ⟨d', h3, h4⟩ := Option.map_eq_some_iff.mp h2
    cases h4
    obtain ⟨_, _, kds, rfl⟩ := tkD_of h1
    exact .inr ⟨F, wa, _, _, _, k, _, c1, c2, h1, h3, fun v rv => q.fz wk fd rv⟩
  · cases e
/-- sequences, then dicts -/
abbrev dIxG : D → D → Option DS := els2 dIx dIxK
abbrev rIxG (X : Cx) : R2 := fun x y H Q => rIx X.K x y H Q ∨ rIxDk X x y H Q ∨ rIxDt X x y H Q
theorem ix_G (hu : X.A.units + 64 < cLine) : IxR X (rIxG X) := ix_seq.or ((ix_dk hu).or (ix_dt hu))
theorem sIxG : OpS (kwOf X) (rIxG X) dIxG := sIx.els sIxDk
/-! y in d -/
def dInDk (neg : Bool) : D → D → Option DS := fun x y => match y with
  | .dk ks ds => (keyD x).map fun k => (.bl (if neg then !(dFind ks ds k).isSome else (dFind ks ds k).isSome), .fz)
  | .dt ks ds => (tkD x).map fun k => (.bl (if neg then !(dtFind ks ds k).isSome else (dtFind ks ds k).isSome), .fz)
  | _ => none
def rInDk (X : Cx) (neg : Bool) : R2 := fun x y H Q => (∃ a o, y = .ref a ∧ DGet H a x o ∧ Q (.bl (if neg then !o.isSome else o.isSome)) H) ∨
  ∃ F wa ks ds kd j, Cur (kwOf X) F wa H (.dt ks ds) y ∧ Rep (kwOf X) F wa H kd x ∧ tkD kd = some j ∧ Q (.bl (if neg then !(dtFind ks ds j).isSome else (dtFind ks ds j).isSome)) H
theorem dt_in {pins : List (Addr × Obj)} {σ : L2.St} {s : Shared} {ks ds : List D} {kd : D} {j : NestedKey} {x y : V} {v u : Value} (I : Inv X pins σ H s) (rx : RelV x v) (ry : RelV y u) (c : Cur (kwOf X) F wa H (.dt ks ds) y) (rk : Rep (kwOf X) F wa H kd x) (hk : tkD kd = some j) :
    ∃ a b xs, u = .ref a ∧ v = .ref b ∧ s.heap.DictOfH (nestedKind X.prog X.w) a xs ∧ (a == sysModules) = false ∧ (nestedKind X.prog X.w).is s.heap j b ∧ (atKey xs j).isSome = (dtFind ks ds j).isSome := by
  obtain ⟨a, xs, vs, e, hh, ok, rvs, rks, rds⟩ := c
  subst e
  cases (show u = Value.ref a from ry)
  obtain ⟨h1, h2, kds, rfl⟩ := tkD_of hk
  obtain ⟨b, o, kvs, e2, _⟩ := id rk
  subst e2
  cases (show v = Value.ref b from rx)
  obtain ⟨dd, hd, hl⟩ := dt_of I hh ok rks
  obtain ⟨g1, g2⟩ := dtFind_ok (K := kwOf X) (F := F) (wa := wa) (H := H) j ok rvs rds
  refine ⟨a, b, xs, rfl, rfl, dd, hd, ⟨nis I _ _ _ _ rk rfl h1, h2⟩, ?_⟩
  cases e : dtFind ks ds j with
  | none => rw [g2 e]; rfl
  | some d => obtain ⟨p, _, q, _⟩ := g1 d e; rw [q]; rfl
theorem op_inDk (hu : X.A.units + 64 < cLine) : OpR X (compareOp .In) (rInDk X false) := by
  intro pins s σ H x y v u Q I rx ry h
  rcases h with ⟨a, o, e, g, q⟩ | ⟨F, wa, ks, ds, kd, j, c, rk, hk, q⟩
  · subst e
    cases (show u = Value.ref a from ry)
    exact d_in (by omega) I g rx fun s' I' => ⟨.bl o.isSome, H, I', rfl, q⟩
  · obtain ⟨a, b, xs, rfl, rfl, dd, hd, is, es⟩ := dt_in I rx ry c rk hk
    refine wpAny_in_heap (room8 hu) is hd dd ?_
    rw [es]
    exact ⟨.bl (dtFind ks ds j).isSome, H, I.tok _, rfl, q⟩
theorem op_notInDk (hu : X.A.units + 64 < cLine) : OpR X (compareOp .NotIn) (rInDk X true) := by
  intro pins s σ H x y v u Q I rx ry h
  rcases h with ⟨a, o, e, g, q⟩ | ⟨F, wa, ks, ds, kd, j, c, rk, hk, q⟩
  · subst e
    cases (show u = Value.ref a from ry)
    exact d_notIn (by omega) I g rx fun s' I' => ⟨.bl (!o.isSome), H, I', rfl, q⟩
  · obtain ⟨a, b, xs, rfl, rfl, dd, hd, is, es⟩ := dt_in I rx ry c rk hk
    refine wpAny_notIn_heap (room8 hu) is hd dd ?_
    rw [es]
    exact ⟨.bl (!(dtFind ks ds j).isSome), H, I.tok _, rfl, q⟩
theorem sInDk (neg : Bool) : OpS (kwOf X) (rInDk X neg) (dInDk neg) := fun wa w F H x y d st v1 v2 wk fd c1 c2 e Q q => by
  unfold dInDk at e
  split at e
  · obtain ⟨k, h1, h2⟩ := Option.map_eq_some_iff.mp e
    cases h2
    obtain ⟨a, vs, e1, hh, hl, rr⟩ := c2
    subst e1
    obtain ⟨g1, g2⟩ := dFind_ok (k := k) rr
    refine .inl ⟨a, valV _ k, rfl, by rw [keyD_ok h1 c1]; exact .inl ⟨_, k, .inl hh, rfl, rfl⟩, ?_⟩
    cases hf : dFind _ _ k with
    | some x => obtain ⟨u, q1, _⟩ := g1 x hf; rw [q1]; rw [hf] at q; exact q.fz wk fd rfl
    | none => rw [g2 hl hf]; rw [hf] at q; exact q.fz wk fd rfl
  · obtain ⟨k, h1, h2⟩ := Option.map_eq_some_iff.mp e
    cases h2
    obtain ⟨_, _, kds, rfl⟩ := tkD_of h1
    exact .inr ⟨F, wa, _, _, _, k, c2, c1, h1, q.fz wk fd rfl⟩
  · cases e
/-- nested data in a list or a tuple -/
def dInD (neg : Bool) : D → D → Option DS := fun x y => match dPy x, (itemsOf y).bind fun ys => dPys ys with
  | some a, some bs => if (SeqAt.shaped a && bs.all SeqAt.shaped) = true then some (.bl (if neg then !bs.any (fun b => PyData.eqv b a) else bs.any fun b => PyData.eqv b a), .fz) else none
  | _, _ => none
end
end Dl

set_option Elab.async false
set_option linter.all false
set_option maxRecDepth 100000
set_option maxHeartbeats 4000000
namespace Dl
open PySem PySem.Spec PyProof.Rows L2
/-! ### sorted, min, max of a list of data -/
def encD (d : D) : PyData := (dPy d).getD .none
def tupNe : PyData → Bool
  | .tuple (_ :: _) => true
  | _ => false
def notTup : PyData → Bool
  | .tuple _ => false
  | .none => false
  | _ => true
def srtOk (ds : List D) : Bool := ds.all (fun d => (dPy d).isSome && decide ((encD d).depth ≤ 40)) && ds.all (fun d => ds.all fun e => PySem.W.alike (encD d) (encD e)) && (ds.all (fun d => tupNe (encD d)) || ds.all fun d => notTup (encD d))
def leD (a b : D) : Bool := !PySem.W.dataLt (encD b) (encD a)
def dSrt : List D → Option DS
  | [.lst ds] => if srtOk ds = true ∧ ds.length ≤ lim then some (.lst (ds.mergeSort leD), .ow) else none
  | _ => none
theorem dPy_enc {d : D} (h : (dPy d).isSome = true) : dPy d = some (encD d) := by
  unfold encD
  cases e : dPy d with
  | none => rw [e] at h; cases h
  | some p => rfl
mutual
theorem dPy_inj : ∀ (d e : D) (p : PyData), dPy d = some p → dPy e = some p → d = e
  | .non, e, p, h, g => by
    cases h
    cases e <;> first | rfl | (cases g; done) | (have g' : (dPys _).map _ = _ := g; obtain ⟨_, _, q⟩ := Option.map_eq_some_iff.mp g'; cases q)
  | .bl b, e, p, h, g => by
    cases h
    cases e <;> first | (cases g; done) | (cases g; rfl) | (have g' : (dPys _).map _ = _ := g; obtain ⟨_, _, q⟩ := Option.map_eq_some_iff.mp g'; cases q)
  | .int b, e, p, h, g => by
    cases h
    cases e <;> first | (cases g; done) | (cases g; rfl) | (have g' : (dPys _).map _ = _ := g; obtain ⟨_, _, q⟩ := Option.map_eq_some_iff.mp g'; cases q)
  | .str b, e, p, h, g => by
    cases h
    cases e <;> first | (cases g; done) | (cases g; rfl) | (have g' : (dPys _).map _ = _ := g; obtain ⟨_, _, q⟩ := Option.map_eq_some_iff.mp g'; cases q)
  | .tup ds, e, p, h, g => by
    have h' : (dPys ds).map PyData.tuple = some p := h
    obtain ⟨ps, h1, h2⟩ := Option.map_eq_some_iff.mp h'
    subst h2
    cases e with
    | tup es =>
      have g' : (dPys es).map PyData.tuple = some (.tuple ps) := g
      obtain ⟨ps', g1, g2⟩ := Option.map_eq_some_iff.mp g'
      cases g2
      rw [dPys_inj ds es ps h1 g1]
    | lst es =>
      have g' : (dPys es).map PyData.list = some (.tuple ps) := g
      obtain ⟨ps', g1, g2⟩ := Option.map_eq_some_iff.mp g'
      cases g2
    | _ => cases g
  | .lst ds, e, p, h, g => by
    have h' : (dPys ds).map PyData.list = some p := h
    obtain ⟨ps, h1, h2⟩ := Option.map_eq_some_iff.mp h'
    subst h2
    cases e with
    | lst es =>
      have g' : (dPys es).map PyData.list = some (.list ps) := g
      obtain ⟨ps', g1, g2⟩ := Option.map_eq_some_iff.mp g'
      cases g2
      rw [dPys_inj ds es ps h1 g1]
    | tup es =>
      have g' : (dPys es).map PyData.tuple = some (.list ps) := g
      obtain ⟨ps', g1, g2⟩ := Option.map_eq_some_iff.mp g'
      cases g2
    | _ => cases g
  | .dk _ _, e, p, h, g => by cases h
  | .dt _ _, e, p, h, g => by cases h
  | .scr _, e, p, h, g => by cases h
  | .ty _, e, p, h, g => by cases h
  | .w, e, p, h, g => by cases h
theorem dPys_inj : ∀ (ds es : List D) (ps : List PyData), dPys ds = some ps → dPys es = some ps → ds = es
  | [], es, ps, h, g => by
    cases h
    cases es with
    | nil => rfl
    | cons e es =>
      have g' : ((dPy e).bind fun a => (dPys es).map fun b => a :: b) = some [] := g
      obtain ⟨a, h1, h2⟩ := Option.bind_eq_some_iff.mp g'
      obtain ⟨b, h3, h4⟩ := Option.map_eq_some_iff.mp h2
      cases h4
  | d :: ds, es, ps, h, g => by
    have h' : ((dPy d).bind fun a => (dPys ds).map fun b => a :: b) = some ps := h
    obtain ⟨a, h1, h2⟩ := Option.bind_eq_some_iff.mp h'
    obtain ⟨b, h3, h4⟩ := Option.map_eq_some_iff.mp h2
    subst h4
    cases es with
    | nil => cases g
    | cons e es =>
      have g' : ((dPy e).bind fun a => (dPys es).map fun b => a :: b) = some (a :: b) := g
      obtain ⟨a', g1, g2⟩ := Option.bind_eq_some_iff.mp g'
      obtain ⟨b', g3, g4⟩ := Option.map_eq_some_iff.mp g2
      cases g4
      rw [dPy_inj d e _ h1 g1, dPys_inj ds es _ h3 g3]
end
section
variable {X : Cx} {K : KW} {F : Addr → Prop} {wa : Option Addr} {H : Hp}
/-- what an item stands for -/
def StD (K : KW) (F : Addr → Prop) (wa : Option Addr) (H : Hp) (u : Value) (d : D) : Prop := ∃ v, RelV v u ∧ Rep K F wa H d v
theorem each_st : ∀ {ds : List D} {vs : List V} {us : List Value}, Vals vs us → Reps K F wa H ds vs → PySem.W.EachIs (StD K F wa H) us ds
  | [], vs, us, r, rr => by
    have e : vs = [] := rr
    subst e; cases r; exact .nil
  | d :: ds, vs, us, r, rr => by
    obtain ⟨v, t, e, r1, r2⟩ := rr
    subst e
    cases r with
    | cons a b => exact .cons ⟨v, a, r1⟩ (each_st b r2)
theorem st_each : ∀ {ds : List D} {us : List Value}, PySem.W.EachIs (StD K F wa H) us ds → ∃ vs, Vals vs us ∧ Reps K F wa H ds vs
  | [], _, .nil => ⟨[], .nil, rfl⟩
  | d :: ds, _, .cons ⟨v, a, r⟩ t => by
    obtain ⟨vs, h1, h2⟩ := st_each t
    exact ⟨v :: vs, .cons a h1, ⟨v, vs, rfl, r, h2⟩⟩
theorem each_rd {pins : List (Addr × Obj)} {σ : L2.St} {s : Shared} (I : Inv X pins σ H s) : ∀ {ds : List D} {us : List Value}, (∀ d ∈ ds, (dPy d).isSome = true) → PySem.W.EachIs (StD (kwOf X) F wa H) us ds → PySem.W.EachIs (fun v d => ∃ as, Reads s.heap v (encD d) as) us ds
  | [], _, _, .nil => .nil
  | d :: ds, _, h, .cons ⟨v, a, r⟩ t => .cons (Dp.reads I _ v _ (dPy_ok d v _ (dPy_enc (h d List.mem_cons_self)) r) a) (each_rd I (fun d hd => h d (List.mem_cons_of_mem _ hd)) t)
def rSrtD (K : KW) : List V → Hp → VK → Prop := fun vs H Q => ∃ F wa a xs ds, vs = [.ref a] ∧ H a = some (.lst xs) ∧ Reps K F wa H ds xs ∧ srtOk ds = true ∧ ds.length ≤ lim ∧ ∀ ys p, H p = none → Reps K F wa H (ds.mergeSort leD) ys → Q (.ref p) (upd H p (.lst ys))
theorem srtOk_of {ds : List D} (h : srtOk ds = true) : (∀ d ∈ ds, (dPy d).isSome = true) ∧ (∀ d ∈ ds, (encD d).depth ≤ 40) ∧ PySem.W.AllAlike (ds.map encD) ∧ PySem.W.Sortable (ds.map encD) := by
  unfold srtOk at h
  simp only [Bool.and_eq_true, Bool.or_eq_true, List.all_eq_true, decide_eq_true_eq] at h
  obtain ⟨⟨h1, h2⟩, h3⟩ := h
  refine ⟨fun d hd => (h1 d hd).1, fun d hd => (h1 d hd).2, fun d hd e he => ?_, ?_⟩
  · obtain ⟨x, hx, rfl⟩ := List.mem_map.mp hd
    obtain ⟨y, hy, rfl⟩ := List.mem_map.mp he
    exact h2 x hx y hy
  · rcases h3 with h3 | h3
    · refine .inl fun d hd => ?_
      obtain ⟨x, hx, rfl⟩ := List.mem_map.mp hd
      have := h3 x hx
      cases e : encD x with
      | tuple l => cases l with
        | nil => rw [e] at this; cases this
        | cons y r => exact ⟨y, r, rfl⟩
      | _ => rw [e] at this; cases this
    · refine .inr fun d hd => ?_
      obtain ⟨x, hx, rfl⟩ := List.mem_map.mp hd
      have := h3 x hx
      refine ⟨fun e => ?_, fun l e => ?_⟩
      · rw [e] at this; cases this
      · rw [e] at this; cases this
theorem cr_srtD (hu : X.A.units + 64 < cLine) : CallR X (.builtin "sorted") (rSrtD (kwOf X)) := by
  intro pins s σ H vs us Q I r h
  obtain ⟨F, wa, a, xs, ds, rfl, hs, rr, ok, hl, q⟩ := h
  obtain ⟨its, rv, hl', hz⟩ := I.list (.inl (.inl hs))
  rw [Vals.ref1 r]
  obtain ⟨o1, o2, o3, o4⟩ := srtOk_of ok
  have E := each_st rv rr
  refine PySem.W.sorted_data (enc := encD) (R := StD (kwOf X) F wa H) hl'.isList E (each_rd I o1 E) o3 o4 (line16 hl) (fun b hb => by have := o2 b hb; omega) fun out ho eo => ?_
  obtain ⟨ys, g1, g2⟩ := st_each eo
  obtain ⟨ep, he'⟩ := PyProof.Rows.sortedAll_at s.heap its out.toArray
  have hlen : ys.length ≤ sizeLine := by rw [g1.length, ho]; exact line16 hl
  exact ⟨.ref _, upd H (s.heap.objs.size + 1) (.lst ys), I.laid (t' := s.toks) (fun _ _ => PyProof.Rows.sortedAll_old) (Nat.le_succ _) ⟨hlen, out, ep, g1, he'⟩, rfl, q ys _ (I.hok.fresh (Nat.le_succ _)) g2⟩
theorem sSrtD : CallS K (rSrtD K) dSrt := fun wa w F H ds d st vs wk fd c e Q q => by
  unfold dSrt at e
  split at e
  · split at e
    · rename_i hc
      cases e
      obtain ⟨v, rfl, a, us, e1, hh, rr⟩ := curs1 c
      subst e1
      exact ⟨F, wa, a, us, _, rfl, hh, rr, hc.1, hc.2, fun ys p hp r => q.lst wk fd r hp⟩
    · cases e
  · cases e
/-! min, max -/
def mmOk (ds : List D) : Bool := ds.all (fun d => (dPy d).isSome) && decide (PyData.depthAll (ds.map encD) ≤ 40) && ds.all (fun d => ds.all fun e => PySem.W.alike (encD d) (encD e)) && ds.all fun d => match encD d with
  | .none => false
  | _ => true
def minDD (d : D) (ds : List D) : D := ds.foldl (fun a y => if PySem.W.dataLt (encD y) (encD a) = true then y else a) d
def maxDD (d : D) (ds : List D) : D := ds.foldl (fun a y => if PySem.W.dataLt (encD a) (encD y) = true then y else a) d
def dMinL : List D → Option DS
  | [.lst (d :: ds)] => if mmOk (d :: ds) = true then some (minDD d ds, .fz) else none
  | _ => none
def dMaxL : List D → Option DS
  | [.lst (d :: ds)] => if mmOk (d :: ds) = true then some (maxDD d ds, .fz) else none
  | _ => none
theorem minDD_enc : ∀ (ds : List D) (d : D), encD (minDD d ds) = PySem.W.minD (encD d) (ds.map encD)
  | [], d => rfl
  | x :: ds, d => by
    have := minDD_enc ds (if PySem.W.dataLt (encD x) (encD d) = true then x else d)
    show encD (minDD _ ds) = PySem.W.minD _ (ds.map encD)
    rw [this, apply_ite encD]
theorem maxDD_enc : ∀ (ds : List D) (d : D), encD (maxDD d ds) = PySem.W.maxD (encD d) (ds.map encD)
  | [], d => rfl
  | x :: ds, d => by
    have := maxDD_enc ds (if PySem.W.dataLt (encD d) (encD x) = true then x else d)
    show encD (maxDD _ ds) = PySem.W.maxD _ (ds.map encD)
    rw [this, apply_ite encD]
theorem minDD_mem : ∀ (ds : List D) (d : D), minDD d ds ∈ d :: ds
  | [], d => List.mem_cons_self
  | x :: ds, d => by
    have := minDD_mem ds (if PySem.W.dataLt (encD x) (encD d) = true then x else d)
    have e : minDD d (x :: ds) = minDD (if PySem.W.dataLt (encD x) (encD d) = true then x else d) ds := rfl
    rw [e]
    rcases List.mem_cons.mp this with h | h
    · rw [h]; split <;> simp
    · exact List.mem_cons_of_mem _ (List.mem_cons_of_mem _ h)
theorem maxDD_mem : ∀ (ds : List D) (d : D), maxDD d ds ∈ d :: ds
  | [], d => List.mem_cons_self
  | x :: ds, d => by
    have := maxDD_mem ds (if PySem.W.dataLt (encD d) (encD x) = true then x else d)
    have e : maxDD d (x :: ds) = maxDD (if PySem.W.dataLt (encD d) (encD x) = true then x else d) ds := rfl
    rw [e]
    rcases List.mem_cons.mp this with h | h
    · rw [h]; split <;> simp
    · exact List.mem_cons_of_mem _ (List.mem_cons_of_mem _ h)
def rMMD (K : KW) (f : D → List D → D) : List V → Hp → VK → Prop := fun vs H Q => ∃ F wa a xs d ds, vs = [.ref a] ∧ H a = some (.lst xs) ∧ Reps K F wa H (d :: ds) xs ∧ mmOk (d :: ds) = true ∧ ∀ y, Rep K F wa H (f d ds) y → Q y H
theorem mmOk_of {ds : List D} (h : mmOk ds = true) : (∀ d ∈ ds, (dPy d).isSome = true) ∧ PyData.depthAll (ds.map encD) ≤ 40 ∧ PySem.W.AlikeAll (ds.map encD) := by
  unfold mmOk at h
  simp only [Bool.and_eq_true, List.all_eq_true, decide_eq_true_eq] at h
  obtain ⟨⟨⟨h1, h2⟩, h3⟩, h4⟩ := h
  refine ⟨h1, h2, fun x hx y hy => ?_, fun x hx e => ?_⟩
  · obtain ⟨d, hd, rfl⟩ := List.mem_map.mp hx
    obtain ⟨g, hg, rfl⟩ := List.mem_map.mp hy
    exact h3 d hd g hg
  · obtain ⟨d, hd, rfl⟩ := List.mem_map.mp hx
    have := h4 d hd
    rw [e] at this; cases this
theorem st_at : ∀ {ds : List D} {us : List Value} {i : Nat} {u : Value}, PySem.W.EachIs (StD K F wa H) us ds → us[i]? = some u → ∃ d, d ∈ ds ∧ StD K F wa H u d
  | _, _, _, _, .nil, e => by simp at e
  | _, _, 0, u, .cons h t, e => by simp at e; subst e; exact ⟨_, List.mem_cons_self, h⟩
  | _, _, i + 1, u, .cons h t, e => by
    obtain ⟨d, h1, h2⟩ := st_at (i := i) t (by simpa using e)
    exact ⟨d, List.mem_cons_of_mem _ h1, h2⟩
/-- the item that reads so is that one -/
theorem mm_pick {pins : List (Addr × Obj)} {σ : L2.St} {s : Shared} (I : Inv X pins σ H s) {ds : List D} {us : List Value} {i : Nat} {u : Value} {m : D} {h' : Heap} {bs : List Addr} (E : PySem.W.EachIs (StD (kwOf X) F wa H) us ds) (ok : mmOk ds = true) (hi : us[i]? = some u) (hk : ∀ b o, s.heap.get? b = some o → h'.get? b = some o) (hm : m ∈ ds) (hr : Reads h' u (encD m) bs) : ∃ v, RelV v u ∧ Rep (kwOf X) F wa H m v := by
  obtain ⟨o1, o2, o3⟩ := mmOk_of ok
  obtain ⟨d, hd, v, rv, rd⟩ := st_at E hi
  obtain ⟨as, r1⟩ := Dp.reads I _ v _ (dPy_ok d v _ (dPy_enc (o1 d hd)) rd) rv
  have r2 := PyProof.Rows.Reads.keeps hk r1
  have e := PySem.W.alike_unique _ _ u _ _ (o3.1 _ (List.mem_map.mpr ⟨d, hd, rfl⟩) _ (List.mem_map.mpr ⟨m, hm, rfl⟩)) r2 hr
  have e2 : d = m := dPy_inj d m (encD d) (dPy_enc (o1 d hd)) (by rw [e]; exact dPy_enc (o1 m hm))
  subst e2
  exact ⟨v, rv, rd⟩
theorem cr_minL (hc : X.calm = true) (hu : X.A.units + 64 < cLine) : CallR X (.builtin "min") (rMMD (kwOf X) minDD) := by
  intro pins s σ H vs us Q I r h
  obtain ⟨F, wa, a, xs, d, ds, rfl, hs, rr, ok, q⟩ := h
  obtain ⟨its, rv, hl', hz⟩ := I.list (.inl (.inl hs))
  rw [Vals.ref1 r]
  obtain ⟨o1, o2, o3⟩ := mmOk_of ok
  have E := each_st rv rr
  obtain ⟨as, ra⟩ := PySem.W.each_readsAll encD (each_rd I o1 E)
  refine PySem.W.min_list_data (I.ok.hd hc) hl'.isList ra o3 (by have e : PyData.depthAll (encD d :: ds.map encD) = PyData.depthAll ((d :: ds).map encD) := rfl; rw [e]; omega) fun i v h' tk bs hi hr hk => ?_
  rw [← minDD_enc] at hr
  obtain ⟨y, g1, g2⟩ := mm_pick I E ok (by simpa using hi) hk (minDD_mem ds d) hr
  exact ⟨y, H, I.kept hk, g1, q y g2⟩
theorem cr_maxL (hc : X.calm = true) (hu : X.A.units + 64 < cLine) : CallR X (.builtin "max") (rMMD (kwOf X) maxDD) := by
  intro pins s σ H vs us Q I r h
  obtain ⟨F, wa, a, xs, d, ds, rfl, hs, rr, ok, q⟩ := h
  obtain ⟨its, rv, hl', hz⟩ := I.list (.inl (.inl hs))
  rw [Vals.ref1 r]
  obtain ⟨o1, o2, o3⟩ := mmOk_of ok
  have E := each_st rv rr
  obtain ⟨as, ra⟩ := PySem.W.each_readsAll encD (each_rd I o1 E)
  refine PySem.W.max_list_data (I.ok.hd hc) hl'.isList ra o3 (by have e : PyData.depthAll (encD d :: ds.map encD) = PyData.depthAll ((d :: ds).map encD) := rfl; rw [e]; omega) fun i v h' tk bs hi hr hk => ?_
  rw [← maxDD_enc] at hr
  obtain ⟨y, g1, g2⟩ := mm_pick I E ok (by simpa using hi) hk (maxDD_mem ds d) hr
  exact ⟨y, H, I.kept hk, g1, q y g2⟩
theorem sMinL : CallS K (rMMD K minDD) dMinL := fun wa w F H ds d st vs wk fd c e Q q => by
  unfold dMinL at e
  split at e
  · split at e
    · rename_i hc
      cases e
      obtain ⟨v, rfl, a, us, e1, hh, rr⟩ := curs1 c
      subst e1
      exact ⟨F, wa, a, us, _, _, rfl, hh, rr, hc, fun y r => q.fz wk fd r⟩
    · cases e
  · cases e
theorem sMaxL : CallS K (rMMD K maxDD) dMaxL := fun wa w F H ds d st vs wk fd c e Q q => by
  unfold dMaxL at e
  split at e
  · split at e
    · rename_i hc
      cases e
      obtain ⟨v, rfl, a, us, e1, hh, rr⟩ := curs1 c
      subst e1
      exact ⟨F, wa, a, us, _, _, rfl, hh, rr, hc, fun y r => q.fz wk fd r⟩
    · cases e
  · cases e
/-! list(range(..)), tuple(range(..)) -/
def rgOk (a b : Int) : Bool := decide (-(2 ^ 62) ≤ a ∧ a < 2 ^ 62 ∧ -(2 ^ 62) ≤ b ∧ b < 2 ^ 62 ∧ (b - a).toNat ≤ 2 ^ 24)
def rgD (a b : Int) : List D := (List.range (b - a).toNat).map fun i => D.int (a + (i : Nat))
theorem rgD_reps {a b : Int} : Reps K F wa H (rgD a b) (rgV a b) := by
  have e : rgD a b = ((List.range (b - a).toNat).map fun (i : Nat) => a + (i : Nat)).map D.int := by unfold rgD; rw [List.map_map]; rfl
  have e2 : rgV a b = ((List.range (b - a).toNat).map fun (i : Nat) => a + (i : Nat)).map V.int := by unfold rgV; rw [List.map_map]; rfl
  rw [e, e2]
  exact Reps.ints
def rgOut (t : Bool) (a b : Int) : Option DS := if rgOk a b = true then some (if t then (.tup (rgD a b), .fz) else (.lst (rgD a b), .ow)) else none
def eRg1 (t : Bool) (f : EF) : EF := fun env w => (f env w).bind fun p => match p.1.1 with
  | .int n => (rgOut t 0 n).map fun d => (d, p.2)
  | _ => none
def eRg2 (t : Bool) (f g : EF) : EF := fun env w => (f env w).bind fun p => (g env p.2).bind fun q => match p.1.1, q.1.1 with
  | .int a, .int b => (rgOut t a b).map fun d => (d, q.2)
  | _, _ => none
def tTupRgF (te : L2.St → Hp → (Int → Int → Hp → Prop) → Prop) : TE := fun σ H Q => te σ H fun a b H1 => RgOk a b ∧ ∀ q u, H1 q = none → TupO u (rgV a b) → Q (.ref q) (upd H1 q u)
theorem pe_tupRgF {e : Expr} {te : L2.St → Hp → (Int → Int → Hp → Prop) → Prop} {p pos : Pos} (hc : X.calm = true) (hg : Gl X "tuple") (hm : X.mg "tuple" = none) (he : PRg X e te) (na : starEach [e] X.env = (false, eval e X.env) :: starEach [] X.env := by rfl) : PE X (.Call (.Name "tuple" p) [e] [] pos) (tTupRgF te) := by
  refine ⟨fun pins s σ H Q I h => ?_⟩
  refine Call_ (ld_blt I hg hm boot_tuple (PyProof.Rows.callWith_type1 (args_cons (thn (he pins s σ H _ I h) ?_) na) na))
  rintro _ s1 ⟨r, a, b, t, u, v, H1, rfl, hr, I1, ⟨b1, b2, b3, b4, b5⟩, q⟩
  refine args_nil ?_
  have hlen : (rgV a b).length ≤ sizeLine := Nat.le_trans (by rw [rgV_length]; exact b5) (by rw [sizeLine_eq]; decide)
  refine call_tuple_range (I1.ok.hd hc) hr (small_one b1 b2 b3 b4) (rangeSize_nat a b) b5 ?_
  intro h' tk acc hk hi
  have I2 : Inv X pins σ H1 { s1 with heap := h', toks := tk } := I1.kept hk
  have J := tup_laid (t' := tk) I2 (vals_rg hi) hlen
  rw [Array.toArray_toList] at J
  exact ⟨.ref h'.objs.size, _, J, rfl, q _ _ (I2.hok.fresh (Nat.le_refl _)) ⟨_, rfl, rfl, rfl⟩⟩
theorem rgOk_of {a b : Int} (h : rgOk a b = true) : RgOk a b := by
  have h' := of_decide_eq_true (show decide (-(2 ^ 62) ≤ a ∧ a < 2 ^ 62 ∧ -(2 ^ 62) ≤ b ∧ b < 2 ^ 62 ∧ (b - a).toNat ≤ 2 ^ 24) = true from h)
  exact h'
variable {e e1 : Expr} {f g : EF} {p p2 pos pos2 : Pos}
theorem e_rg1L (hc : X.calm = true) (hg : Gl X "list") (hm : X.mg "list" = none) (hg2 : Gl X "range") (hm2 : X.mg "range" = none) (he : Snd X e f) (na : starEach [e] X.env = (false, eval e X.env) :: starEach [] X.env := by rfl)
    (na2 : starEach [.Call (.Name "range" p2) [e] [] pos2] X.env = (false, eval (.Call (.Name "range" p2) [e] [] pos2) X.env) :: starEach [] X.env := by rfl) : Snd X (.Call (.Name "list" p) [.Call (.Name "range" p2) [e] [] pos2] [] pos) (eRg1 false f) := by
  refine pe_imp (pe_listRg hc hg hm (prg_1 hg2 hm2 he na) na2) fun σ H Q q => ?_
  obtain ⟨B, F, wa, w, env, S, d, st, w', hf, k⟩ := q
  unfold eRg1 at hf
  obtain ⟨⟨⟨d1, st1⟩, w1⟩, h1, h2⟩ := Option.bind_eq_some_iff.mp hf
  refine ⟨B, F, wa, w, env, S, d1, st1, w1, h1, fun v F1 H1 A1 r1 => ?_⟩
  dsimp only at h2
  split at h2
  · rename_i n
    obtain ⟨_, h3, h4⟩ := Option.map_eq_some_iff.mp h2
    unfold rgOut at h3
    split at h3
    · rename_i ok
      cases h3; cases h4
      exact ⟨n, r1.cur, rgOk_of ok, fun q hq => (Res.behind S A1 k).lst A1.wk A1.fd rgD_reps hq⟩
    · cases h3
  · cases h2
theorem e_rg1T (hc : X.calm = true) (hg : Gl X "tuple") (hm : X.mg "tuple" = none) (hg2 : Gl X "range") (hm2 : X.mg "range" = none) (he : Snd X e f) (na : starEach [e] X.env = (false, eval e X.env) :: starEach [] X.env := by rfl)
    (na2 : starEach [.Call (.Name "range" p2) [e] [] pos2] X.env = (false, eval (.Call (.Name "range" p2) [e] [] pos2) X.env) :: starEach [] X.env := by rfl) : Snd X (.Call (.Name "tuple" p) [.Call (.Name "range" p2) [e] [] pos2] [] pos) (eRg1 true f) := by
  refine pe_imp (pe_tupRgF hc hg hm (prg_1 hg2 hm2 he na) na2) fun σ H Q q => ?_
  obtain ⟨B, F, wa, w, env, S, d, st, w', hf, k⟩ := q
  unfold eRg1 at hf
  obtain ⟨⟨⟨d1, st1⟩, w1⟩, h1, h2⟩ := Option.bind_eq_some_iff.mp hf
  refine ⟨B, F, wa, w, env, S, d1, st1, w1, h1, fun v F1 H1 A1 r1 => ?_⟩
  dsimp only at h2
  split at h2
  · rename_i n
    obtain ⟨_, h3, h4⟩ := Option.map_eq_some_iff.mp h2
    unfold rgOut at h3
    split at h3
    · rename_i ok
      cases h3; cases h4
      exact ⟨n, r1.cur, rgOk_of ok, fun q u hq ht => (Res.behind S A1 k).tup A1.wk A1.fd rgD_reps hq ht⟩
    · cases h3
  · cases h2
theorem e_rg2L (hc : X.calm = true) (hg : Gl X "list") (hm : X.mg "list" = none) (hg2 : Gl X "range") (hm2 : X.mg "range" = none) (he : Snd X e f) (he2 : Snd X e1 g) (na : starEach [e, e1] X.env = (false, eval e X.env) :: starEach [e1] X.env := by rfl) (nb : starEach [e1] X.env = (false, eval e1 X.env) :: starEach [] X.env := by rfl)
    (na2 : starEach [.Call (.Name "range" p2) [e, e1] [] pos2] X.env = (false, eval (.Call (.Name "range" p2) [e, e1] [] pos2) X.env) :: starEach [] X.env := by rfl) (hp : (backTo pos2 (starEach [e1] X.env)).any (·.1) = false := by rfl) : Snd X (.Call (.Name "list" p) [.Call (.Name "range" p2) [e, e1] [] pos2] [] pos) (eRg2 false f g) := by
  refine pe_imp (pe_listRg hc hg hm (prg_2 hg2 hm2 he he2 na nb hp) na2) fun σ H Q q => ?_
  obtain ⟨B, F, wa, w, env, S, d, st, w', hf, k⟩ := q
  unfold eRg2 at hf
  obtain ⟨⟨⟨d1, st1⟩, w1⟩, h1, h2⟩ := Option.bind_eq_some_iff.mp hf
  obtain ⟨⟨⟨d2, st2⟩, w2⟩, h3, h4⟩ := Option.bind_eq_some_iff.mp h2
  refine ⟨B, F, wa, w, env, S, d1, st1, w1, h1, fun v F1 H1 A1 r1 => ?_⟩
  refine ⟨B, F1, wa, w1, env, S.aft A1, d2, st2, w2, h3, fun v2 F2 H2 A2 r2 => ?_⟩
  dsimp only at h4
  split at h4
  · rename_i i j
    obtain ⟨_, h5, h6⟩ := Option.map_eq_some_iff.mp h4
    unfold rgOut at h5
    split at h5
    · rename_i ok
      cases h5; cases h6
      exact ⟨i, j, r1.cur, r2.cur, rgOk_of ok, fun q hq => (Res.behind S (A1.trans A2) k).lst A2.wk A2.fd rgD_reps hq⟩
    · cases h5
  · cases h4
end
end Dl

set_option Elab.async false
set_option linter.all false
set_option maxRecDepth 100000
set_option maxHeartbeats 4000000
namespace Dl
open PySem PySem.Spec PyProof.Rows L2
/-! ### stores into dicts, {} with tuples for keys -/
def eDt0 : EF := fun _ w => some ((.dt [] [], .ow), w)
def putD (d kd x : D) : Option D := match d with
  | .dk ks ds => (keyD kd).bind fun k => if ks.length < lim then some (.dk (dPut ks ds k x).1 (dPut ks ds k x).2) else none
  | .dt ks ds => (tkD kd).bind fun j => if ks.length < lim then some (.dt (dtPut ks ds kd j x).1 (dtPut ks ds kd j x).2) else none
  | _ => none
def sPut (i : Nat) (fk fv : EF) : SB := fun env w => (eFz fv env w).bind fun p => (eFz fk env p.2).bind fun q => match env[i]? with
  | some (some (d, true)) => (putD d q.1.1 p.1.1).map fun d' => .nx (env.set i (some (d', true))) q.2
  | _ => none
theorem eFz_fz {f : EF} {env : En} {w w' : Option Wd} {d : D} {st : O3} (h : eFz f env w = some ((d, st), w')) : st = .fz := by
  unfold eFz at h
  obtain ⟨⟨⟨d3, st3⟩, w3⟩, h4, h5⟩ := Option.bind_eq_some_iff.mp h
  cases st3 <;> cases h5 <;> rfl
section
variable {X : Cx} {o i value : Expr} {fk fv : EF} {pos pos' : Pos} {td ty tv : TE}
theorem e_dt0 : Snd X (.Dict [] [] pos) eDt0 := by
  refine ⟨fun pins s σ H Q I q => ?_⟩
  obtain ⟨B, F, wa, w, env, S, d, st, w', hf, k⟩ := q
  cases hf
  have hp : H s.heap.objs.size = none := I.hok.fresh (Nat.le_refl _)
  have A := Aft.new0 (K := kwOf X) (o := DTO X.w s.heap.objs.size []) S.wk S.fd hp
  refine wpAny_Dict_empty ⟨.ref s.heap.objs.size, _, I.laid (a := s.heap.objs.size) (o := DTO X.w s.heap.objs.size []) (t' := s.toks) (fun _ _ q => Heap.get?_push_of_some _ q) (Nat.le_refl _) (dto_new (Heap.DictOfH.new s.heap) (beq_eq_false_iff_ne.mpr (Ne.symm (Nat.ne_of_lt I.big))) (Nat.zero_le _)), rfl, k _ F _ A ?_⟩
  exact ⟨_, rfl, ⟨fun z => S.fd _ z hp, S.wk.ne hp, _, upd_same, [], [], rfl, .nil, .nil, rfl, rfl⟩, hp⟩
def sPutT (X : Cx) (td ty tv : TE) : TS := fun D σ H => tv σ H fun v H1 => td σ H1 fun x H2 => ty σ H2 fun y H3 => (∃ a H4, x = .ref a ∧ DPut H3 a y v H4 ∧ D.nx σ H4) ∨
  ∃ F wa a ks xs kd j, x = .ref a ∧ H3 a = some (DTO X.w a xs) ∧ DtOk ks xs ∧ Reps (kwOf X) F wa H3 ks (dtV xs) ∧ Rep (kwOf X) F wa H3 kd y ∧ tkD kd = some j ∧ xs.length < sizeLine ∧ ∀ b u, y = .ref b → RelV v u → D.nx σ (upd H3 a (DTO X.w a (storedH xs j b u)))
theorem ps_put (hu : X.A.units + 64 < cLine) (ho : PE X o td) (hi : PE X i ty) (hv : PE X value tv) (hs : swapsWith value (some (.Subscript o i pos')) pos.line X.env = pure false) :
    PS X (.Assign [.Subscript o i pos'] value pos) (sPutT X td ty tv) := by
  refine ⟨fun pins s σ H D I h => ?_⟩
  refine wpAny_Assign_Subscript (thn (hv.run pins s σ H _ I h) fun r s1 ⟨v, H1, I1, rv, q1⟩ => thn (ho.run pins s1 σ H1 _ I1 q1) fun u s2 ⟨x, H2, I2, rx, q2⟩ => thn (hi.run pins s2 σ H2 _ I2 q2) fun iv s3 ⟨y, H3, I3, ry, q3⟩ => ?_) hs
  rcases q3 with ⟨a, H4, ex, g, q3⟩ | ⟨F, wa, a, ks, xs, kd, j, ex, hh, ok, rks, rk, hk, hl, q3⟩
  · subst ex
    obtain rfl : u = Value.ref a := rx
    exact d_setItem (by omega) I3 g ry rv fun s4 I4 => ⟨σ, H4, I4, q3⟩
  · subst ex
    obtain rfl : u = Value.ref a := rx
    obtain ⟨h1, h2, kds, rfl⟩ := tkD_of hk
    obtain ⟨b, ob, kvs, e2, _⟩ := id rk
    subst e2
    cases (show iv = Value.ref b from ry)
    obtain ⟨dd, hd, hl0⟩ := dt_of I3 hh ok rks
    refine wpAny_setItem_heap (hsz := hl0) (room8 hu) ⟨nis I3 _ _ _ _ rk rfl h1, h2⟩ dd fun h' dd' hs' => ?_
    have dd2 := dd'
    obtain ⟨q, es, ep, hq, _⟩ := dd2
    exact ⟨σ, _, d_write I3 (by rw [hh]; exact True.intro) hs' ⟨q, hq⟩ (dto_new dd' hd (Nat.le_trans (storedH_len _ _ _ _) hl)), q3 b r rfl rv⟩
theorem paired_len {α β : Type} {R : α → β → Prop} : ∀ {as : List α} {bs : List β}, Paired R as bs → as.length = bs.length
  | _, _, .nil => rfl
  | _, _, .cons _ t => by rw [List.length_cons, List.length_cons, paired_len t]
theorem s_put (j : Nat) {x : Pos} {nm : Str} (hu : X.A.units + 64 < cLine) (ho : PE X (.Name nm x) (tVar j)) (hi : Snd X i fk) (hv : Snd X value fv) (hs : swapsWith value (some (.Subscript (.Name nm x) i pos')) pos.line X.env = pure false := by rfl) :
    SndS X (.Assign [.Subscript (.Name nm x) i pos'] value pos) (sPut j fk fv) := by
  refine ps_imp (ps_put hu ho (e_fz hi) (e_fz hv) hs) fun Dn σ H q => ?_
  obtain ⟨B, F, wa, w, env, S, out, hf, k⟩ := q
  unfold sPut at hf
  obtain ⟨⟨⟨d1, st1⟩, w1⟩, h1, h2⟩ := Option.bind_eq_some_iff.mp hf
  obtain ⟨⟨⟨d2, st2⟩, w2⟩, h3, h4⟩ := Option.bind_eq_some_iff.mp h2
  cases eFz_fz h1
  cases eFz_fz h3
  refine ⟨B, F, wa, w, env, S, d1, .fz, w1, h1, fun v F1 H1 A1 r1 => ?_⟩
  have S1 := S.aft A1
  dsimp only at h4
  split at h4
  · rename_i d hd
    obtain ⟨d', h5, h6⟩ := Option.map_eq_some_iff.mp h4
    cases h6
    obtain ⟨a, g1, og, nb⟩ := S1.ow j _ hd
    refine ⟨.ref a, g1, ?_⟩
    refine ⟨B, F1, wa, w1, env, S1, d2, .fz, _, h3, fun y F2 H2 A2 r2 => ?_⟩
    have S2 := S1.aft A2
    have r1' := A2.rep r1
    obtain ⟨_, _, ob, hh, oo⟩ := og.aft A2
    unfold putD at h5
    split at h5
    · rename_i ks ds
      obtain ⟨ke, h7, h8⟩ := Option.bind_eq_some_iff.mp h5
      split at h8
      · rename_i hz
        cases h8
        obtain ⟨vs, e1, l1, rr⟩ := oo
        subst e1
        have ey := keyD_ok h7 (Rep.cur r2)
        subst ey
        obtain ⟨us1, l2, rr1, m1⟩ := dPut_ok (k := ke) r1' l1 rr
        refine .inl ⟨a, _, rfl, DPut.k (k := ke) hh ?_, ?_⟩
        · rw [List.length_zip, ← l1, Nat.min_self]
          exact Nat.lt_of_lt_of_le hz (line16 (Nat.le_refl _))
        · rw [m1]
          obtain ⟨A3, S3⟩ := S2.write (d' := .dk (dPut ks ds ke d1).1 (dPut ks ds ke d1).2) (o := .dK ((dPut ks ds ke d1).1.zip us1)) hd g1 ⟨us1, rfl, l2, rr1⟩
          exact k _ F2 _ (((A1.trans A2).toS S.bd).trans A3) S3
      · cases h8
    · rename_i ks ds
      obtain ⟨jk, h7, h8⟩ := Option.bind_eq_some_iff.mp h5
      split at h8
      · rename_i hz
        cases h8
        obtain ⟨xs, vs, e1, ok, rvs, rks, rds⟩ := oo
        subst e1
        have hln := paired_len ok
        obtain ⟨p1, p2, kds, rfl⟩ := tkD_of h7
        refine .inr ⟨F2, wa, a, ks, xs, _, jk, rfl, hh, ok, rks, r2, h7, ?_, fun b u ey rv => ?_⟩
        · rw [← hln]; exact Nat.lt_of_lt_of_le hz (line16 (Nat.le_refl _))
        · subst ey
          obtain ⟨vs', q1, q2, q3, q4⟩ := dtPut_ok p1 p2 r2 r1' rv ok rvs rks rds
          obtain ⟨A3, S3⟩ := S2.write (d' := .dt (dtPut ks ds (.tup kds) jk d1).1 (dtPut ks ds (.tup kds) jk d1).2) (o := DTO X.w a (storedH xs jk b u)) hd g1 ⟨_, vs', rfl, q1, q2, q3, q4⟩
          exact k _ F2 _ (((A1.trans A2).toS S.bd).trans A3) S3
      · cases h8
    · cases h5
  · cases h4
end
end Dl

set_option Elab.async false
set_option linter.all false
set_option maxRecDepth 100000
set_option maxHeartbeats 4000000
namespace Dl
open PySem PySem.Spec PyProof.Rows L2
/-! rows for the newer operations -/
section
variable {env r : En} {w : Option Wd} {f g : EF} {i : Nat}
@[simp] theorem eDt0_q : eDt0 env w = some ((.dt [] [], .ow), w) := rfl
def rg1K (t : Bool) (p : DS × Option Wd) : Option (DS × Option Wd) := match p.1.1 with
  | .int n => (rgOut t 0 n).map fun d => (d, p.2)
  | _ => none
@[simp] theorem rg1K_q {t : Bool} {n : Int} {s : O3} : rg1K t ((.int n, s), w) = bnd (rgOut t 0 n) (pairK w) := map_pair
@[simp] theorem eRg1_q {t : Bool} : eRg1 t f env w = bnd (f env w) (rg1K t) := rfl
def rg2K2 (t : Bool) (a : D) (q : DS × Option Wd) : Option (DS × Option Wd) := match a, q.1.1 with
  | .int a, .int b => (rgOut t a b).map fun d => (d, q.2)
  | _, _ => none
@[simp] theorem rg2K2_q {t : Bool} {a b : Int} {s : O3} : rg2K2 t (.int a) ((.int b, s), w) = bnd (rgOut t a b) (pairK w) := map_pair
def rg2K1 (t : Bool) (g : EF) (env : En) (p : DS × Option Wd) : Option (DS × Option Wd) := bnd (g env p.2) (rg2K2 t p.1.1)
@[simp] theorem rg2K1_q {t : Bool} {a : D} {s : O3} : rg2K1 t g env ((a, s), w) = bnd (g env w) (rg2K2 t a) := rfl
@[simp] theorem eRg2_q {t : Bool} : eRg2 t f g env w = bnd (f env w) (rg2K1 t g env) := rfl
theorem rgOut_t {a b : Int} (h1 : -1000000 ≤ a) (h2 : a ≤ 1000000) (h3 : -1000000 ≤ b) (h4 : b ≤ 1000000) : rgOut true a b = some (.tup (rgD a b), .fz) := by
  have h : rgOk a b = true := decide_eq_true (by omega)
  unfold rgOut
  rw [if_pos h]; rfl
theorem rgOut_l {a b : Int} (h1 : -1000000 ≤ a) (h2 : a ≤ 1000000) (h3 : -1000000 ≤ b) (h4 : b ≤ 1000000) : rgOut false a b = some (.lst (rgD a b), .ow) := by
  have h : rgOk a b = true := decide_eq_true (by omega)
  unfold rgOut
  rw [if_pos h]; rfl
def putK3 (env : En) (i : Nat) (x kd : D) (w : Option Wd) : Option Out := match env[i]? with
  | some (some (d, true)) => (putD d kd x).map fun d' => .nx (env.set i (some (d', true))) w
  | _ => none
theorem putK3_q {x kd d d' : D} (h : env[i]? = some (some (d, true))) (h2 : putD d kd x = some d') : putK3 env i x kd w = some (.nx (env.set i (some (d', true))) w) := by
  unfold putK3; rw [h]; show (putD d kd x).map _ = _; rw [h2]; rfl
def putK2 (env : En) (i : Nat) (x : D) (q : DS × Option Wd) : Option Out := putK3 env i x q.1.1 q.2
@[simp] theorem putK2_q {x y : D} {s : O3} : putK2 env i x ((y, s), w) = putK3 env i x y w := rfl
def putK1 (fk : EF) (env : En) (i : Nat) (p : DS × Option Wd) : Option Out := bnd (eFz fk env p.2) (putK2 env i p.1.1)
@[simp] theorem putK1_q {fk : EF} {x : D} {s : O3} : putK1 fk env i ((x, s), w) = bnd (eFz fk env w) (putK2 env i x) := rfl
@[simp] theorem sPut_q {fk fv : EF} : sPut i fk fv env w = bnd (eFz fv env w) (putK1 fk env i) := rfl
end
section
variable {X : Cx} {a b c : Expr} {fa fb fc : EF} {pos : Pos}
theorem tChain_of {K : KW} {r r' : R2} {g g' : D → D → Option DS} (hg : OpS K r g) (hg' : OpS K r' g') {σ : L2.St} {H : Hp} {Q : VK} (q : rd K (eCh g g' fa fb fc) σ H Q) : tChain r r' (rd K fa) (rd K fb) (rd K fc) σ H Q := by
  obtain ⟨B, F, wa, w, env, S, d, st, w', hf, k⟩ := q
  unfold eCh at hf
  obtain ⟨⟨⟨d1, st1⟩, w1⟩, h1, h2⟩ := Option.bind_eq_some_iff.mp hf
  obtain ⟨⟨⟨d2, st2⟩, w2⟩, h3, h4⟩ := Option.bind_eq_some_iff.mp h2
  obtain ⟨⟨d3, st3⟩, h5, h6⟩ := Option.bind_eq_some_iff.mp h4
  refine ⟨B, F, wa, w, env, S, d1, st1, w1, h1, fun v1 F1 H1 A1 r1 => ?_⟩
  refine ⟨B, F1, wa, w1, env, S.aft A1, d2, st2, w2, h3, fun v2 F2 H2 A2 r2 => ?_⟩
  refine hg wa _ F2 H2 d1 d2 d3 st3 v1 v2 A2.wk A2.fd (r1.aft A2).cur r2.cur h5 _ fun v3 F3 H3 A3 r3 => ?_
  dsimp only at h6
  split at h6
  · rename_i e
    cases e
    refine ⟨true, RS.cur r3, ?_⟩
    rw [if_pos rfl]
    obtain ⟨⟨⟨d4, st4⟩, w4⟩, h7, h8⟩ := Option.bind_eq_some_iff.mp h6
    obtain ⟨⟨d5, st5⟩, h9, h10⟩ := Option.map_eq_some_iff.mp h8
    cases h10
    refine ⟨B, F3, wa, w2, env, ((S.aft A1).aft A2).aft A3, d4, st4, _, h7, fun v4 F4 H4 A4 r4 => ?_⟩
    exact hg' wa _ F4 H4 d2 d4 d st v2 v4 A4.wk A4.fd ((r2.aft A3).aft A4).cur r4.cur h9 Q (Res.behind S (((A1.trans A2).trans A3).trans A4) k)
  · rename_i e
    cases e
    cases h6
    refine ⟨false, RS.cur r3, ?_⟩
    rw [if_neg (by simp)]
    exact k _ F3 H3 ((A1.trans A2).trans A3) rfl
  · cases h6
theorem e_ch {op op' : CmpOp} {r r' : R2} {g g' : D → D → Option DS} (ho : OpR X (compareOp op) r) (hg : OpS (kwOf X) r g) (ho' : OpR X (compareOp op') r') (hg' : OpS (kwOf X) r' g') (ha : Snd X a fa) (hb : Snd X b fb) (hc : Snd X c fc)
    (hm : lastMarks [op, op'] [b, c] = false := by with_unfolding_all rfl) : Snd X (.Compare a [op, op'] [b, c] pos) (eCh g g' fa fb fc) := pe_imp (pe_chain ho ho' ha hb hc hm) fun _ _ _ q => tChain_of hg hg' q
theorem t_ch {op op' : CmpOp} {r r' : R2} {g g' : D → D → Option DS} (ho : OpR X (compareOp op) r) (hg : OpS (kwOf X) r g) (ho' : OpR X (compareOp op') r') (hg' : OpS (kwOf X) r' g') (ha : Snd X a fa) (hb : Snd X b fb) (hc : Snd X c fc)
    (hm : lastMarks [op, op'] [b, c] = false := by with_unfolding_all rfl) : SndT X (.Compare a [op, op'] [b, c] pos) (tVal (eCh g g' fa fb fc)) := by
  refine pt_imp (pt_chain ho ho' ha hb hc hm) fun σ H Q q => ?_
  refine tChain_of hg hg' ?_
  obtain ⟨B, F, wa, w, env, S, b, w', hf, k⟩ := q
  unfold tVal at hf
  obtain ⟨⟨⟨d1, st1⟩, w1⟩, h1, h2⟩ := Option.bind_eq_some_iff.mp hf
  refine ⟨B, F, wa, w, env, S, d1, st1, w1, h1, fun v F' H' A r => ?_⟩
  cases d1 with
  | bl c => cases h2; exact ⟨b, RS.cur r, k F' H' A⟩
  | _ => cases h2
def chK3 (g' : D → D → Option DS) (y : D) (p : DS × Option Wd) : Option (DS × Option Wd) := bnd (g' y p.1.1) (pairK p.2)
@[simp] theorem chK3_q {g' : D → D → Option DS} {y z : D} {s : O3} {w : Option Wd} : chK3 g' y ((z, s), w) = bnd (g' y z) (pairK w) := rfl
def chK4 (g' : D → D → Option DS) (f3 : EF) (env : En) (y : D) (w : Option Wd) (r : DS) : Option (DS × Option Wd) := match r with
  | (.bl true, _) => bnd (f3 env w) (chK3 g' y)
  | (.bl false, _) => some ((.bl false, .fz), w)
  | _ => none
section
variable {g g' : D → D → Option DS} {f1 f2 f3 : EF} {env : En} {x y : D} {s : O3} {w : Option Wd}
@[simp] theorem chK4_t : chK4 g' f3 env y w (.bl true, s) = bnd (f3 env w) (chK3 g' y) := rfl
@[simp] theorem chK4_f : chK4 g' f3 env y w (.bl false, s) = some ((.bl false, .fz), w) := rfl
def chK2 (g g' : D → D → Option DS) (f3 : EF) (env : En) (x : D) (q : DS × Option Wd) : Option (DS × Option Wd) := bnd (g x q.1.1) (chK4 g' f3 env q.1.1 q.2)
@[simp] theorem chK2_q : chK2 g g' f3 env x ((y, s), w) = bnd (g x y) (chK4 g' f3 env y w) := rfl
def chK1 (g g' : D → D → Option DS) (f2 f3 : EF) (env : En) (p : DS × Option Wd) : Option (DS × Option Wd) := bnd (f2 env p.2) (chK2 g g' f3 env p.1.1)
@[simp] theorem chK1_q : chK1 g g' f2 f3 env ((x, s), w) = bnd (f2 env w) (chK2 g g' f3 env x) := rfl
@[simp] theorem eCh_q : eCh g g' f1 f2 f3 env w = bnd (f1 env w) (chK1 g g' f2 f3 env) := by
  show (f1 env w).bind _ = (f1 env w).bind _
  refine congrArg (Option.bind _) (funext fun p => ?_)
  show (f2 env p.2).bind _ = (f2 env p.2).bind _
  refine congrArg (Option.bind _) (funext fun q => ?_)
  show (g p.1.1 q.1.1).bind _ = (g p.1.1 q.1.1).bind _
  refine congrArg (Option.bind _) (funext fun r => ?_)
  obtain ⟨d, st⟩ := r
  cases d with
  | bl b => cases b with
    | true =>
      show (f3 env q.2).bind (fun s => (g' q.1.1 s.1.1).map fun t => (t, s.2)) = (f3 env q.2).bind _
      refine congrArg (Option.bind _) (funext fun s => map_pair)
    | false => rfl
  | _ => rfl
end
end
end Dl

set_option Elab.async false
set_option linter.all false
set_option maxRecDepth 100000
set_option maxHeartbeats 4000000
namespace Dl
open PySem PySem.Spec PyProof.Rows L2
/-! ### calls that are lent own dicts and give a flat datum -/
def isDk : D → Bool
  | .dk _ _ => true
  | _ => false
def lendOk (ds : List DS) : Bool := ds.all fun p => p.2 == .fz || isDk p.1
def lendK (p : DS × Option Wd) : Option (DS × Option Wd) := if flatD p.1.1 = true then some ((p.1.1, .fz), p.2) else none
def eCallL (F : Fn) (f : EA) : EF := fun env w => (f env w).bind fun p => if lendOk p.1 = true then (F (p.1.map (·.1)) p.2).bind lendK else none
/-- the addresses that are lent -/
def lentA (ds : List DS) (vs : List V) (a : Addr) : Prop := ∃ p ∈ ds.zip vs, p.1.2 ≠ .fz ∧ p.2 = .ref a
section
variable {K : KW} {B F : Addr → Prop} {wa : Option Addr} {H0 H : Hp}
theorem rsp_mem : ∀ {ds : List DS} {vs : List V}, RSp K B F wa H0 H ds vs → ∀ p ∈ ds.zip vs, RS K B F wa H0 H p.1.1 p.1.2 p.2
  | _, _, .nil, p, hp => nomatch hp
  | _, _, .cons r t, p, hp => by
    rcases List.mem_cons.mp hp with e | hp
    · subst e; exact r
    · exact rsp_mem t p hp
theorem zip_fst : ∀ {ds : List DS} {vs : List V} {p : DS × V}, p ∈ ds.zip vs → p.1 ∈ ds
  | [], _, p, h => nomatch h
  | _ :: _, [], p, h => nomatch h
  | d :: ds, v :: vs, p, h => by
    rcases List.mem_cons.mp h with e | h
    · subst e; exact List.mem_cons_self
    · exact List.mem_cons_of_mem _ (zip_fst h)
theorem lent_own {ds : List DS} {vs : List V} (r : RSp K B F wa H0 H ds vs) (ok : lendOk ds = true) {a : Addr} (h : lentA ds vs a) : ∃ ks es, OwnAt K F wa H (.dk ks es) a := by
  obtain ⟨p, hp, hne, e⟩ := h
  have rs := rsp_mem r p hp
  have ho := List.all_eq_true.mp ok p.1 (zip_fst hp)
  obtain ⟨⟨d, st⟩, v⟩ := p
  have e' : v = .ref a := e
  subst e'
  cases st with
  | fz => exact absurd rfl hne
  | ow =>
    obtain ⟨b, e, o, _⟩ := rs
    cases e
    cases d with
    | dk ks es => exact ⟨ks, es, o⟩
    | _ => cases ho
  | bo =>
    obtain ⟨b, e, o, _⟩ := rs
    cases e
    cases d with
    | dk ks es => exact ⟨ks, es, o⟩
    | _ => cases ho
theorem lent_reps {ds : List DS} {vs : List V} (r : RSp K B F wa H0 H ds vs) : Reps K (fun a => F a ∨ lentA ds vs a) wa H (ds.map (·.1)) vs := by
  have main : ∀ (L : Addr → Prop) {ds : List DS} {vs : List V}, RSp K B F wa H0 H ds vs → (∀ a, lentA ds vs a → L a) → Reps K (fun a => F a ∨ L a) wa H (ds.map (·.1)) vs := by
    intro L ds
    induction ds with
    | nil => intro vs r _; cases r; rfl
    | cons d ds ih =>
      intro vs r hL
      cases r with
      | @cons _ v _ vs r t =>
        refine ⟨v, vs, rfl, ?_, ih t fun a h => hL a ?_⟩
        · obtain ⟨d, st⟩ := d
          cases st with
          | fz => exact Rep.mono (fun _ z => .inl z) (fun _ _ _ z => z) _ _ r
          | ow =>
            obtain ⟨a, e, ⟨_, _, o, h1, h2⟩, _⟩ := r
            have e' : v = .ref a := e
            subst e'
            exact h2.rep h1 (fun _ z => .inl z) (.inr (hL a ⟨((d, .ow), .ref a), List.mem_cons_self, by simp, rfl⟩))
          | bo =>
            obtain ⟨a, e, ⟨_, _, o, h1, h2⟩, _⟩ := r
            have e' : v = .ref a := e
            subst e'
            exact h2.rep h1 (fun _ z => .inl z) (.inr (hL a ⟨((d, .bo), .ref a), List.mem_cons_self, by simp, rfl⟩))
        · obtain ⟨p, hp, q⟩ := h
          exact ⟨p, List.mem_cons_of_mem _ hp, q⟩
  exact main _ r fun a h => h
end
theorem flat_rep' {K : KW} {B F F' : Addr → Prop} {wa : Option Addr} {H0 H : Hp} {d : D} {st : O3} {v : V} (h : flatD d = true) (r : RS K B F wa H0 H d st v) : Rep K F' wa H d v := by
  have c := r.cur
  cases d <;> first | exact c | cases h
section
variable {X : Cx} {e : Expr} {es : List Expr} {pos : Pos}
theorem e_callL {k : Nat} {ff : Addr} {fd : FuncData} {ps : List Str} {G : Fn} {ga : EA} {x : Str} {p : Pos} (hG : FnOk X.prog X.w (kwOf X) X.mg X.base CX0 k ff fd ps (spD (kwOf X) G)) (hr : Room k X.A) (hg : Gl X x) (hm : X.mg x = some (.ref ff)) (hk : PySem.W.keepIn (kwOf X) (.ref ff) = true) (hb : Binds (kwOf X) fd ps [])
    (ha : SndA X (e :: es) ga) (hdb : (x == ("__debug__" : Str)) = false := by decide) (hse : starEach (e :: es) X.env = (false, eval e X.env) :: starEach es X.env := by rfl) (hpl : (backTo pos (starEach es X.env)).any (·.1) = false := by rfl) : Snd X (.Call (.Name x p) (e :: es) [] pos) (eCallL G ga) := by
  refine pe_imp (pe_call hG hr hg hm hk hb .nil pass0 ha hdb hse hpl) fun σ H Q q => ?_
  obtain ⟨B, F, wa, w, env, S, d, st, w', hf, kk⟩ := q
  unfold eCallL at hf
  obtain ⟨⟨ds, w1⟩, h1, h2⟩ := Option.bind_eq_some_iff.mp hf
  dsimp only at h2
  split at h2
  · rename_i hc
    obtain ⟨⟨⟨d1, st1⟩, w2⟩, h3, h4⟩ := Option.bind_eq_some_iff.mp h2
    unfold lendK at h4
    dsimp only at h4
    split at h4
    · rename_i hfl
      cases h4
      refine ⟨B, F, wa, w, env, S, ds, _, h1, fun vs F1 H1 A1 r1 => ?_⟩
      show spD (kwOf X) G (vs ++ []) H1 Q E0
      rw [List.append_nil]
      have own := fun a (h : lentA ds vs a) => lent_own r1.1 hc h
      have wk1 : WOk (fun a => F1 a ∨ lentA ds vs a) wa H1 w1 := by
        have k0 := A1.wk
        cases wa with
        | none => cases w1 with
          | none => trivial
          | some W => exact k0
        | some x => cases w1 with
          | none => exact k0
          | some W =>
            obtain ⟨g1, da, g2, g3⟩ := k0
            refine ⟨fun z => z.elim g1 fun z => ?_, da, .inl g2, g3⟩
            obtain ⟨_, _, _, o2, _⟩ := own x z
            exact o2 rfl
      refine ⟨fun a => F1 a ∨ lentA ds vs a, wa, w1, ds.map (·.1), wk1, fun a z => ?_, lent_reps r1.1, _, st1, _, h3, fun v F' H' A' r => ?_⟩
      · rcases z with z | z
        · exact A1.fd a z
        · obtain ⟨_, _, o⟩ := own a z
          obtain ⟨u, hu⟩ := o.some
          rw [hu]; simp
      · have A3 : Aft (kwOf X) wa F1 H1 w' (fun a => F' a ∧ ¬ lentA ds vs a) H' := by
          refine ⟨fun a z => ⟨A'.sub a (.inl z), fun l => ?_⟩, fun a z => ?_, A'.keep, fun a o z => A'.kf a o (.inl z), A'.dom, ?_, fun a z => A'.fd a z.1⟩
          · obtain ⟨_, _, o1, _⟩ := own a l
            exact o1 z
          · rcases A'.new a z.1 with (y | y) | y
            · exact .inl y
            · exact absurd y z.2
            · exact .inr y
          · have k0 := A'.wk
            cases wa with
            | none => cases w' with
              | none => trivial
              | some W => exact k0
            | some x => cases w' with
              | none => exact k0
              | some W =>
                obtain ⟨g1, da, g2, g3, g4⟩ := k0
                refine ⟨fun z => g1 z.1, da, ⟨g2, fun l => ?_⟩, g3, g4⟩
                obtain ⟨ks, es', _, _, o, ho, vs', eo, _⟩ := own da l
                subst eo
                have := A'.kf da _ (.inr l) ho
                rw [g4] at this; cases this
        exact kk v _ H' (A1.trans A3) (flat_rep' hfl r)
    · cases h4
  · cases h2
end
/-! ### sorted(a dict) -/
def strsK : List Key → Option (List Str)
  | [] => some []
  | .inr x :: r => (strsK r).map fun l => x :: l
  | _ => none
def intsK : List Key → Option (List Int)
  | [] => some []
  | .inl x :: r => (intsK r).map fun l => x :: l
  | _ => none
theorem strsK_eq : ∀ {ks : List Key} {ss : List Str}, strsK ks = some ss → ks = ss.map Sum.inr
  | [], ss, h => by cases h; rfl
  | .inr x :: r, ss, h => by
    obtain ⟨l, h1, h2⟩ := Option.map_eq_some_iff.mp (show (strsK r).map (fun l => x :: l) = some ss from h)
    subst h2
    rw [strsK_eq h1]; rfl
  | .inl x :: r, ss, h => by cases h
theorem intsK_eq : ∀ {ks : List Key} {ss : List Int}, intsK ks = some ss → ks = ss.map Sum.inl
  | [], ss, h => by cases h; rfl
  | .inl x :: r, ss, h => by
    obtain ⟨l, h1, h2⟩ := Option.map_eq_some_iff.mp (show (intsK r).map (fun l => x :: l) = some ss from h)
    subst h2
    rw [intsK_eq h1]; rfl
  | .inr x :: r, ss, h => by cases h
def leStr (a b : Str) : Bool := !ltCps b.cps.toList a.cps.toList
def srtS (ss : List Str) : List Str := ss.mergeSort leStr
def srtI (ss : List Int) : List Int := ss.mergeSort fun a b => decide (a ≤ b)
theorem leStr_iff (a b : Str) : leStr a b = true ↔ a.cps.toList ≤ b.cps.toList := by
  unfold leStr
  rw [ltCps_eq]
  simp only [Bool.not_eq_true', decide_eq_false_iff_not]
  exact Iff.rfl
theorem srtS_uniq {ys ss : List Str} (hp : ys.Perm ss) (hs : sortedS ys = true) : ys = srtS ss := by
  have h1 : ys.Pairwise fun a b => leStr a b = true := by
    have rise : ∀ (l : List Str) (p : Str), risingS p l = true → (∀ x ∈ l, leStr p x = true) ∧ l.Pairwise fun a b => leStr a b = true := by
      intro l
      induction l with
      | nil => intro p _; exact ⟨fun x h => (nomatch h), .nil⟩
      | cons x r ih =>
        intro p h
        have h' : leStr p x = true ∧ risingS x r = true := by
          have h0 : (!ltCps x.cps.toList p.cps.toList && risingS x r) = true := h
          exact Bool.and_eq_true_iff.mp h0
        obtain ⟨i1, i2⟩ := ih x h'.2
        refine ⟨fun y hy => ?_, List.pairwise_cons.mpr ⟨i1, i2⟩⟩
        rcases List.mem_cons.mp hy with e | hy
        · subst e; exact h'.1
        · exact (leStr_iff _ _).mpr (List.le_trans ((leStr_iff _ _).mp h'.1) ((leStr_iff _ _).mp (i1 y hy)))
    cases ys with
    | nil => exact .nil
    | cons x r =>
      obtain ⟨i1, i2⟩ := rise r x hs
      exact List.pairwise_cons.mpr ⟨i1, i2⟩
  have h2 : (srtS ss).Pairwise fun a b => leStr a b = true := List.pairwise_mergeSort (le := leStr) (fun a b c h1 h2 => (leStr_iff _ _).mpr (List.le_trans ((leStr_iff _ _).mp h1) ((leStr_iff _ _).mp h2))) (fun a b => by
    rw [Bool.or_eq_true, leStr_iff, leStr_iff]
    exact List.le_total _ _) ss
  refine List.Perm.eq_of_pairwise (le := fun a b => leStr a b = true) (fun a b _ _ g1 g2 => ?_) h1 h2 (hp.trans (List.mergeSort_perm _ _).symm)
  have : a.cps.toList = b.cps.toList := List.le_antisymm ((leStr_iff _ _).mp g1) ((leStr_iff _ _).mp g2)
  obtain ⟨⟨la⟩⟩ := a
  obtain ⟨⟨lb⟩⟩ := b
  have e : la = lb := this
  rw [e]
theorem srtI_uniq {ys ss : List Int} (hp : ys.Perm ss) (hs : ys.Pairwise (· ≤ ·)) : ys = srtI ss := by
  have h2 : (srtI ss).Pairwise (· ≤ ·) := (List.pairwise_mergeSort (le := fun a b => decide (a ≤ b)) (fun a b c h1 h2 => by simp at h1 h2 ⊢; omega) (fun a b => by simp; omega) ss).imp fun h => by simpa using h
  exact List.Perm.eq_of_pairwise (le := (· ≤ ·)) (fun a b _ _ g1 g2 => by omega) hs h2 (hp.trans (List.mergeSort_perm _ _).symm)
def dSrtK : List D → Option DS
  | [.dk ks _] => match strsK ks, intsK ks with
    | some ss, _ => if ss.length < 64 then some (.lst ((srtS ss).map D.str), .ow) else none
    | none, some ns => if ns.length < 64 then some (.lst ((srtI ns).map D.int), .ow) else none
    | none, none => none
  | _ => none
def rSrtKS : List V → Hp → VK → Prop := fun xs H Q => ∃ (a : Addr) (kvs : List (Key × V)) (ks : List Str), xs = [.ref a] ∧ Rd H a (.dK kvs) ∧ kvs.map (·.1) = ks.map Sum.inr ∧ ks.length < 64 ∧
    ∀ ys p, ys.Perm ks → sortedS ys = true → H p = none → Q (.ref p) (upd H p (.lst (ys.map V.str)))
def rSrtKI : List V → Hp → VK → Prop := fun xs H Q => ∃ (a : Addr) (kvs : List (Key × V)) (ks : List Int), xs = [.ref a] ∧ Rd H a (.dK kvs) ∧ kvs.map (·.1) = ks.map Sum.inl ∧ ks.length < 64 ∧
    ∀ (ys : List Int) (p : Addr), ys.Perm ks → ys.Pairwise (· ≤ ·) → H p = none → Q (.ref p) (upd H p (.lst (ys.map V.int)))
theorem cr_srtK {X : Cx} (hc : X.calm = true) : CallR X (.builtin "sorted") (fun xs H Q => rSrtKS xs H Q ∨ rSrtKI xs H Q) := by
  intro pins s σ H xs us Q I r h
  rcases h with h | h
  · exact call_sortedD hc pins s σ H xs us Q I r h
  · exact call_sortedDI hc pins s σ H xs us Q I r h
theorem strs_rp {K : KW} {F : Addr → Prop} {wa : Option Addr} {H : Hp} : ∀ ss : List Str, Reps K F wa H (ss.map D.str) (ss.map V.str)
  | [] => rfl
  | s :: ss => ⟨.str s, ss.map V.str, rfl, rfl, strs_rp ss⟩
theorem zip_keys {ks : List Key} {vs : List V} (h : ks.length = vs.length) : (ks.zip vs).map (·.1) = ks := List.map_fst_zip (by omega)
theorem sSrtK {K : KW} : CallS K (fun xs H Q => rSrtKS xs H Q ∨ rSrtKI xs H Q) dSrtK := fun wa w F H ds d st vs wk fd c e Q q => by
  unfold dSrtK at e
  split at e
  · rename_i ks es
    obtain ⟨v, rfl, a, us, e1, hh, hl, rr⟩ := curs1 c
    subst e1
    cases h1 : strsK ks with
    | some ss =>
      rw [h1] at e
      have e' : (if ss.length < 64 then some (D.lst ((srtS ss).map D.str), O3.ow) else none) = some (d, st) := by
        cases h2 : intsK ks <;> (rw [h2] at e; exact e)
      split at e'
      · rename_i hz
        cases e'
        refine .inl ⟨a, _, ss, rfl, .inl hh, ?_, hz, fun ys p hp hs hn => ?_⟩
        · rw [zip_keys hl]; exact strsK_eq h1
        · rw [srtS_uniq hp hs]
          exact q.lst wk fd (strs_rp _) hn
      · cases e'
    | none =>
      rw [h1] at e
      cases h2 : intsK ks with
      | none => rw [h2] at e; cases e
      | some ns =>
        rw [h2] at e
        have e' : (if ns.length < 64 then some (D.lst ((srtI ns).map D.int), O3.ow) else none) = some (d, st) := e
        split at e'
        · rename_i hz
          cases e'
          refine .inr ⟨a, _, ns, rfl, .inl hh, ?_, hz, fun ys p hp hs hn => ?_⟩
          · rw [zip_keys hl]; exact intsK_eq h2
          · rw [srtI_uniq hp hs]
            exact q.lst wk fd Reps.ints hn
        · cases e'
  · cases e
end Dl

set_option Elab.async false
set_option linter.all false
set_option maxRecDepth 100000
set_option maxHeartbeats 4000000
namespace Dl
open PySem PySem.Spec PyProof.Rows L2
/-! ### list(d.items()) with exact pairs -/
def keyV : Key → D
  | .inl i => .int i
  | .inr x => .str x
def itemsD : List Key → List D → List D
  | k :: ks, d :: ds => .tup [keyV k, d] :: itemsD ks ds
  | _, _ => []
section
variable {X : Cx} {pins : List (Addr × Obj)} {σ : L2.St} {H H2 : Hp} {s : Shared} {h2 : Heap} {tk : Nat}
/-- many objects come to be followed at once -/
theorem laid_many (I : Inv X pins σ H s) (old : ∀ b o, s.heap.get? b = some o → h2.get? b = some o) (up : ∀ b u, H b = some u → H2 b = some u) (low : ∀ b o, s.heap.get? b = some o → H b = none → H2 b = none)
    (new : ∀ b u, H2 b = some u → H b = none → ObjOk X.prog X.w H2 h2 b u) : Inv X pins σ H2 { s with heap := h2, toks := tk } := by
  refine I.call' (ch := []) rfl ⟨?_, ?_, ?_, ?_, ?_, ?_, ?_⟩ ?_ I.bare ?_
  · intro b o q _ _ _; exact old b o q
  · intro b o q _ _ _; exact ⟨o.slots, old b o q⟩
  · intro b o q n _; exact low b o q n
  · intro b o q _; exact ⟨o, old b o q⟩
  · intro b xs q; exact up b _ q
  · intro b o u q; exact up b _ q
  · intro b ps q
    refine ⟨#[], ?_⟩
    rw [up b _ q]; simp
  · intro b u q
    cases hb : H b with
    | none => exact new b u q hb
    | some u' =>
      have e := up b u' hb
      rw [q] at e
      cases e
      exact (I.hok b u hb).stay (fun c v _ y => old c v y) (fun c y => up c _ y) fun c xs y => up c _ y
  · intro b z; simp at z
def pairO (p : Key × V) (u v : Value) : HO := .frz { cls := .type "tuple", data := .seq #[u, v] } (.tup [kV p.1, p.2])
/-- pairs followed at their addresses -/
def putP : Hp → List (Addr × HO) → Hp
  | G, [] => G
  | G, x :: l => putP (upd G x.1 x.2) l
theorem putP_off {b : Addr} : ∀ (l : List (Addr × HO)) (G : Hp), b ∉ l.map (·.1) → putP G l b = G b
  | [], _, _ => rfl
  | x :: l, G, h => by
    rw [List.map_cons, List.mem_cons, not_or] at h
    show putP (upd G x.1 x.2) l b = G b
    rw [putP_off l _ h.2, upd_ne h.1]
theorem putP_at : ∀ (l : List (Addr × HO)) (G : Hp), (l.map (·.1)).Nodup → ∀ x ∈ l, putP G l x.1 = some x.2
  | x :: l, G, hn, y, hy => by
    have hn' := List.nodup_cons.mp hn
    show putP (upd G x.1 x.2) l y.1 = some y.2
    rcases List.mem_cons.mp hy with e | hy
    · subst e
      rw [putP_off l _ hn'.1, upd_same]
    · exact putP_at l _ hn'.2 y hy
theorem rel_keyM {k : Key} {v : Value} (h : (mixKind X.prog X.w).is k v = true) : RelV (kV k) v := keyIs_rel (show keyIs k v = true from h)
/-- what a list of a dict's pairs stands for -/
def rItm (K : KW) : V → Hp → VK → Prop := fun x G Q => ∃ (a : Addr) (kvs : List (Key × V)), x = .ref a ∧ G a = some (.dK kvs) ∧
  ∀ (G' : Hp) (p : Addr) (ts : List Addr), (∀ b o, G b = some o → G' b = some o) → G p = none → (∀ t ∈ ts, G t = none) → p ∉ ts → G' p = some (.lst (ts.map V.ref)) →
    Paired (fun (t : Addr) (q : Key × V) => ∃ u, G' t = some u ∧ TupO u [kV q.1, q.2]) ts kvs → (∀ b, G b = none → G' b ≠ none → b = p ∨ b ∈ ts) → Q (.ref p) G'
end
section
variable {X : Cx} {e : Expr} {te : TE} {f : EF} {p apos cpos pos : Pos}
theorem pe_itm (hc : X.calm = true) (he : PE X e te) (hg : Gl X "list") (hm : X.mg "list" = none) (base : attributeBase e "items" X.env (eval e X.env) = eval e X.env := by rfl) (line : (apos.endLine == cpos.line) = true := by rfl)
    (st : starEach [.Call (.Attribute e "items" apos) [] [] cpos] X.env = (false, eval (.Call (.Attribute e "items" apos) [] [] cpos) X.env) :: starEach [] X.env := by rfl) :
    PE X (.Call (.Name "list" p) [.Call (.Attribute e "items" apos) [] [] cpos] [] pos) (fun σ G Q => te σ G fun x G1 => rItm (kwOf X) x G1 Q) := by
  refine ⟨fun pins s σ G Q I hq => ?_⟩
  refine wpAny_Call_Name_kw (ld_blt I hg hm boot_list ?_)
  refine PyProof.Rows.callWith_type1 ?_ st rfl
  rw [st]
  refine Calls.spliced_cons (rest := backTo pos (starEach [] X.env)) ?_
  have got := he.run pins s σ G _ I hq
  refine wpAny_Call_method (T := "dict") (id := "dict.items") base rfl line PySem.F.plainAttrs_dict PySem.F.slot_dict_items PySem.F.type_dict_items (thn got ?_)
  rintro u s1 ⟨x, G1, I1, rx, a, kvs, ex, hd, q⟩
  subst ex
  cases (show u = Value.ref a from rx)
  have okd := I1.hok a _ hd
  obtain ⟨hz, hs0, vs, kv, hdo⟩ := okd
  obtain ⟨ep, hat⟩ := hdo.dictAt
  have lk : kvs.length = vs.length := Paired.length kv
  have I2 : Inv X pins σ G1 { s1 with heap := s1.heap.push { cls := .type "dict_items", data := .fields #[.ref a] } } := I1.kept (t' := s1.toks) fun b o y => Heap.get?_push_of_some _ y
  refine ⟨hdo.typeIs, hdo.mapOf.noDict, ?_⟩
  have meets := meets_dict_items (mixKind X.prog X.w) a hs0
  refine method_meetsIn PySem.F.slot_dict_items PySem.F.entry_dict_items rfl (PySem.evalArgs_none ⟨rfl, hdo.typeIs, PySem.F.args_dict_items_1 _, _, meets, ⟨vs, hdo⟩, ?_⟩)
  refine Calls.spliced_nil ?_
  refine PySem.W.kdx_call (knd := mixKind X.prog X.w) (kvs := vs) (ep := ep) (I1.ok.hd hc) ⟨_, Heap.get?_push_size _ rfl, rfl, rfl⟩ (hat.push _) (by omega) ?_
  intro h' tk acc c as hk hS hl hG hacc
  -- the pairs at as
  have grow : ∀ (as : List Addr) (vs : List (Key × Value)) (kvs : List (Key × V)), as.length = vs.length → KV kvs vs → (∀ (j : Nat) (b : Addr), as[j]? = some b → ∃ key k x, vs[j]? = some (k, x) ∧ (mixKind X.prog X.w).is k key = true ∧ h'.get? b = some { cls := .type "tuple", data := .seq #[key, x] }) →
      ∃ l : List (Addr × HO), l.map (·.1) = as ∧ Paired (fun (y : Addr × HO) (q : Key × V) => TupO y.2 [kV q.1, q.2]) l kvs ∧ ∀ (G' : Hp), ∀ y ∈ l, ObjOk X.prog X.w G' h' y.1 y.2 := by
    intro as
    induction as with
    | nil =>
      intro vs kvs hl kv _
      cases vs with
      | nil => cases kv; exact ⟨[], rfl, .nil, fun _ y hy => nomatch hy⟩
      | cons _ _ => cases hl
    | cons b as ih =>
      intro vs kvs hl kv hp
      cases vs with
      | nil => cases hl
      | cons v vs =>
        cases kv with
        | @cons q _ kvs' _ r t =>
          obtain ⟨l, l1, l2, l3⟩ := ih vs kvs' (Nat.succ.inj hl) t fun j c hc => hp (j + 1) c (by simpa using hc)
          obtain ⟨key, k, x, f1, f2, f3⟩ := hp 0 b rfl
          have f1' : v = (k, x) := Option.some.inj f1
          subst f1'
          have rk : RelV (kV q.1) key := by
            have : q.1 = k := r.1
            rw [this]
            exact rel_keyM f2
          refine ⟨(b, pairO q key x) :: l, by rw [List.map_cons, l1], .cons ⟨_, rfl, rfl, rfl⟩ l2, fun G' y hy => ?_⟩
          rcases List.mem_cons.mp hy with e | hy
          · subst e
            exact ⟨f3, by show 2 ≤ sizeLine; rw [sizeLine_eq]; decide, [key, x], .cons rk (.cons r.2 .nil), ⟨_, f3, rfl, _, rfl⟩⟩
          · exact l3 G' y hy
  have prs := grow as vs kvs (by omega) kv fun j b hb => hG.pairs j b hb
  obtain ⟨l, l1, l2, l3⟩ := prs
  have nd : as.Nodup := List.Pairwise.imp (fun {a b} (h : a < b) => Nat.ne_of_lt h) hG.rise
  have hSn : ({ s1 with heap := s1.heap.push { cls := .type "dict_items", data := .fields #[.ref a] } } : Shared).heap.objs.size ∉ as := fun z => Nat.lt_irrefl _ (hG.above _ z)
  generalize hP : ({ s1 with heap := s1.heap.push { cls := .type "dict_items", data := .fields #[.ref a] } } : Shared).heap.objs.size = P at *
  have newP : G1 P = none := I2.hok.fresh (by rw [← hP]; exact Nat.le_refl _)
  have newA : ∀ t ∈ as, G1 t = none := fun t ht => I2.hok.fresh (by rw [hP]; exact Nat.le_of_lt (hG.above t ht))
  have ndl : (l.map (·.1)).Nodup := by rw [l1]; exact nd
  have off : ∀ b, b ∉ as → b ≠ P → putP (upd G1 P (.lst (as.map V.ref))) l b = G1 b := fun b h1 h2 => by
    rw [putP_off l _ (by rw [l1]; exact h1), upd_ne h2]
  have up : ∀ b u, G1 b = some u → putP (upd G1 P (.lst (as.map V.ref))) l b = some u := fun b u y => by
    rw [off b (fun z => by rw [newA b z] at y; cases y) (fun z => by rw [z, newP] at y; cases y)]
    exact y
  have atP : putP (upd G1 P (.lst (as.map V.ref))) l P = some (.lst (as.map V.ref)) := by
    rw [putP_off l _ (by rw [l1]; exact hSn), upd_same]
  have J := laid_many (h2 := h') (tk := tk) (H2 := putP (upd G1 P (.lst (as.map V.ref))) l) I2 hk up (fun b o y n => by
      have hb := Heap.lt_size y
      rw [hP] at hb
      rw [off b (fun z => Nat.lt_irrefl _ (Nat.lt_trans (hG.above b z) hb)) (Nat.ne_of_lt hb)]
      exact n) (fun b u y n => by
      by_cases hb : b ∈ as
      · rw [← l1] at hb
        obtain ⟨z, hz1, hz2⟩ := List.mem_map.mp hb
        subst hz2
        have := putP_at l (upd G1 P (.lst (as.map V.ref))) ndl z hz1
        rw [y] at this
        cases this
        exact l3 _ z hz1
      · by_cases hb2 : b = P
        · subst hb2
          rw [atP] at y
          cases y
          refine ⟨by rw [List.length_map]; omega, acc.toList, c, ?_, ?_⟩
          · rw [hacc]; exact LiI.vals_refs as
          · rw [Array.toArray_toList]; exact hS
        · rw [off b hb hb2, n] at y; cases y)
  refine ⟨.ref P, _, J, rfl, q _ P as up newP newA hSn atP ?_ fun b n y => ?_⟩
  · have main : ∀ (l : List (Addr × HO)) (kvs : List (Key × V)) (G' : Hp), (∀ y ∈ l, G' y.1 = some y.2) → Paired (fun (y : Addr × HO) (q : Key × V) => TupO y.2 [kV q.1, q.2]) l kvs → Paired (fun (t : Addr) (q : Key × V) => ∃ u, G' t = some u ∧ TupO u [kV q.1, q.2]) (l.map (·.1)) kvs := by
      intro l
      induction l with
      | nil => intro kvs G' _ r; cases r; exact .nil
      | cons y l ih =>
        intro kvs G' h r
        cases r with
        | cons r t => exact .cons ⟨_, h y List.mem_cons_self, r⟩ (ih _ G' (fun z hz => h z (List.mem_cons_of_mem _ hz)) t)
    have := main l kvs _ (putP_at l (upd G1 P (.lst (as.map V.ref))) ndl) l2
    rw [l1] at this
    exact this
  · by_cases hb : b ∈ as
    · exact .inr hb
    · by_cases hb2 : b = P
      · exact .inl hb2
      · rw [off b hb hb2] at y; exact absurd n y
end
end Dl

set_option Elab.async false
set_option linter.all false
set_option maxRecDepth 100000
set_option maxHeartbeats 4000000
namespace Dl
open PySem PySem.Spec PyProof.Rows L2
def itmK (p : DS × Option Wd) : Option (DS × Option Wd) := match p.1.1 with
  | .dk ks ds => some ((.lst (itemsD ks ds), .ow), p.2)
  | _ => none
def eItm (f : EF) : EF := fun env w => (f env w).bind itmK
section
variable {X : Cx} {e : Expr} {f : EF} {p apos cpos pos : Pos}
theorem keyV_rep {K : KW} {F : Addr → Prop} {wa : Option Addr} {H : Hp} (k : Key) : Rep K F wa H (keyV k) (kV k) := by cases k <;> rfl
theorem itm_reps {K : KW} {F F' : Addr → Prop} {wa : Option Addr} {H H' : Hp} (sub : ∀ a, F a → F' a) (kf : ∀ a o, F a → H a = some o → H' a = some o) : ∀ (ks : List Key) (ds : List D) (vs : List V) (ts : List Addr), ks.length = vs.length → Reps K F wa H ds vs → (∀ t ∈ ts, F' t) →
    Paired (fun (t : Addr) (q : Key × V) => ∃ u, H' t = some u ∧ TupO u [kV q.1, q.2]) ts (ks.zip vs) → Reps K F' wa H' (itemsD ks ds) (ts.map V.ref)
  | [], ds, vs, ts, hl, r, hf, h => by
    have e : ([] : List Key).zip vs = [] := rfl
    rw [e] at h
    cases h
    cases ds <;> rfl
  | k :: ks, ds, [], ts, hl, r, hf, h => by cases hl
  | k :: ks, ds, v :: vs, ts, hl, r, hf, h => by
    cases ds with
    | nil => have e : v :: vs = [] := r; cases e
    | cons d ds =>
      obtain ⟨v', vr, e, r1, r2⟩ := r
      cases e
      have e : (k :: ks).zip (v :: vs) = (k, v) :: ks.zip vs := rfl
      rw [e] at h
      cases h with
      | @cons t _ ts _ hu ht =>
        obtain ⟨u, h1, h2⟩ := hu
        refine ⟨.ref t, ts.map V.ref, rfl, ⟨t, u, [kV k, v], rfl, hf t List.mem_cons_self, h1, h2, ?_⟩, itm_reps sub kf ks ds vs ts (Nat.succ.inj hl) r2 (fun x hx => hf x (List.mem_cons_of_mem _ hx)) ht⟩
        exact ⟨kV k, [v], rfl, keyV_rep k, v, [], rfl, Rep.mono sub kf d v r1, rfl⟩
theorem e_itm (hc : X.calm = true) (hg : Gl X "list") (hm : X.mg "list" = none) (he : Snd X e f) (base : attributeBase e "items" X.env (eval e X.env) = eval e X.env := by rfl) (line : (apos.endLine == cpos.line) = true := by rfl)
    (st : starEach [.Call (.Attribute e "items" apos) [] [] cpos] X.env = (false, eval (.Call (.Attribute e "items" apos) [] [] cpos) X.env) :: starEach [] X.env := by rfl) :
    Snd X (.Call (.Name "list" p) [.Call (.Attribute e "items" apos) [] [] cpos] [] pos) (eItm f) := by
  refine pe_imp (pe_itm hc he hg hm base line st) fun σ H Q q => ?_
  obtain ⟨B, F, wa, w, env, S, d, st, w', hf, k⟩ := q
  unfold eItm at hf
  obtain ⟨⟨⟨d1, st1⟩, w1⟩, h1, h2⟩ := Option.bind_eq_some_iff.mp hf
  refine ⟨B, F, wa, w, env, S, d1, st1, w1, h1, fun v F1 H1 A1 r1 => ?_⟩
  cases d1 with
  | dk ks ds =>
    cases h2
    obtain ⟨a, vs, e, hh, hl, rr⟩ := r1.cur
    refine ⟨a, _, e, hh, fun G' P ts up nP nT hPT atP prs only => ?_⟩
    have wk : WOk (fun b => F1 b ∨ b ∈ ts) wa G' w1 := by
      have k0 := A1.wk
      cases wa with
      | none => cases w1 with
        | none => trivial
        | some W => exact k0
      | some x => cases w1 with
        | none => exact k0
        | some W =>
          obtain ⟨g1, da, g2, g3, g4⟩ := k0
          exact ⟨fun z => (show F1 x ∨ x ∈ ts from z).elim g1 fun z => (by rw [nT x z] at g3; cases g3), da, .inl g2, up _ _ g3, up _ _ g4⟩
    have fdT : ∀ t ∈ ts, G' t ≠ none := by
      have main : ∀ (ts : List Addr) (kvs : List (Key × V)), Paired (fun (t : Addr) (q : Key × V) => ∃ u, G' t = some u ∧ TupO u [kV q.1, q.2]) ts kvs → ∀ t ∈ ts, G' t ≠ none := by
        intro ts
        induction ts with
        | nil => intro _ _ t ht; cases ht
        | cons b ts ih =>
          intro kvs h t ht
          cases h with
          | cons h1 h2 =>
            rcases List.mem_cons.mp ht with e | ht
            · subst e
              obtain ⟨u, hu, _⟩ := h1
              rw [hu]; simp
            · exact ih _ h2 t ht
      exact main ts _ prs
    have A2 : Aft (kwOf X) wa F1 H1 w1 (fun b => F1 b ∨ b ∈ ts) G' := by
      refine ⟨fun _ z => .inl z, fun b z => (show F1 b ∨ b ∈ ts from z).elim Or.inl fun z => Or.inr (nT b z), fun b o z _ => up b o z, fun b o _ z => up b o z, fun b z => ?_, wk, fun b z => (show F1 b ∨ b ∈ ts from z).elim (fun z y => ?_) (fdT b)⟩
      · cases hb : H1 b with
        | none => rfl
        | some o => rw [up b o hb] at z; cases z
      · cases hb : H1 b with
        | none => exact A1.fd b z hb
        | some o => rw [up b o hb] at y; cases y
    refine k _ (fun b => F1 b ∨ b ∈ ts) G' (A1.trans A2) ⟨P, rfl, .mkL (fun z => (show F1 P ∨ P ∈ ts from z).elim (fun z => A1.fd P z nP) hPT) (A1.wk.ne nP) atP (itm_reps (fun _ z => Or.inl z) (fun b o _ z => up b o z) ks ds vs ts hl rr (fun t ht => Or.inr ht) prs), A1.dom P nP⟩
  | _ => cases h2
/-! a, b, .. = x, y, ..: own values stay own -/
def setO : List Nat → List DS → En → Option En
  | [], [], env => some env
  | i :: is, (d, .fz) :: ds, env => setO is ds (env.set i (some (d, false)))
  | i :: is, (d, .ow) :: ds, env => setO is ds (env.set i (some (d, true)))
  | _, _, _ => none
def unpOK (is : List Nat) (env : En) (p : List DS × Option Wd) : Option Out := (setO is p.1 env).map fun e => .nx e p.2
def sUnpO (is : List Nat) (ga : EA) : SB := fun env w => (ga env w).bind (unpOK is env)
def gNames : List Nat → TGs
  | [] => gNil
  | i :: is => gCons (gName i) (gNames is)
theorem gNames_of {K : KW} {B F : Addr → Prop} {wa : Option Addr} {H0 H : Hp} {w : Option Wd} : ∀ (is : List Nat) (ds : List DS) (vs : List V) (σ : L2.St) (env env' : En) (Q : L2.St → Hp → Prop), SI K B F wa H w σ env → (∀ a, B a → H0 a ≠ none) → RSs K B F wa H0 H ds vs → setO is ds env = some env' →
    (∀ p ∈ ds.zip vs, p.1.2 = .ow → ∀ (j : Nat) (e : D) (b : Addr), p.2 = V.ref b → env[j]? = some (some (e, true)) → σ[j]? ≠ some (some (.ref b))) → (∀ σ', SI K B F wa H w σ' env' → Q σ' H) → gNames is vs σ H Q
  | [], [], vs, σ, env, env', Q, S, bd, r, h, hn, k => by
    obtain ⟨r, _⟩ := r
    cases r
    cases h
    exact ⟨rfl, k σ S⟩
  | [], _ :: _, _, _, _, _, _, _, _, _, h, _, _ => by cases h
  | _ :: _, [], _, _, _, _, _, _, _, _, h, _, _ => by cases h
  | i :: is, (d, st) :: ds, vs, σ, env, env', Q, S, bd, r, h, hn, k => by
    obtain ⟨r, ap⟩ := r
    cases r with
    | @cons _ v _ vs r t =>
      refine ⟨v, vs, rfl, ?_⟩
      cases st with
      | bo => cases h
      | fz =>
        refine gNames_of is ds vs _ _ env' Q (S.set i r) bd ⟨t, ap.2⟩ h (fun p hp e j e' b eb g => ?_) k
        by_cases hij : i = j
        · subst hij
          by_cases hl : i < env.length
          · rw [List.getElem?_set_self hl] at g; cases g
          · rw [List.getElem?_eq_none (by rw [List.length_set]; omega)] at g; cases g
        · rw [List.getElem?_set_ne hij] at g ⊢
          exact hn p (List.mem_cons_of_mem _ hp) e j e' b eb g
      | ow =>
        obtain ⟨a, ea, o, z⟩ := id r
        have ea' : v = .ref a := ea
        subst ea'
        refine gNames_of is ds vs _ _ env' Q (S.setOw i o (fun b => bd a b z) fun j e _ g => hn ((d, .ow), .ref a) List.mem_cons_self rfl j e a rfl g) bd ⟨t, ap.2⟩ h (fun p hp e j e' b eb g => ?_) k
        by_cases hij : i = j
        · subst hij
          have ne := ap.1 rfl p hp e
          by_cases hl : i < σ.length
          · rw [List.getElem?_set_self hl]
            intro y
            exact ne (by rw [eb]; exact (Option.some.inj (Option.some.inj y)).symm)
          · rw [List.getElem?_eq_none (by rw [List.length_set]; omega)]; simp
        · rw [List.getElem?_set_ne hij] at g ⊢
          exact hn p (List.mem_cons_of_mem _ hp) e j e' b eb g
/-- targets that are names -/
def SndN (X : Cx) (tgs : List Expr) (is : List Nat) : Prop := PGs X tgs (gNames is)
theorem n_nil : SndN X [] [] := pgs_nil
theorem n_cons {t : Expr} {ts : List Expr} {i : Nat} {is : List Nat} (h1 : PG X t (gName i)) (h2 : SndN X ts is) (hs : (assignEach (t :: ts) X.env).map (·.2) = assign t X.env :: (assignEach ts X.env).map (·.2) := by rfl) : SndN X (t :: ts) (i :: is) := pgs_cons h1 h2 hs
theorem rsp_len {K : KW} {B F : Addr → Prop} {wa : Option Addr} {H0 H : Hp} : ∀ {ds : List DS} {vs : List V}, RSp K B F wa H0 H ds vs → ds.length = vs.length
  | _, _, .nil => rfl
  | _, _, .cons _ t => by rw [List.length_cons, List.length_cons, rsp_len t]
theorem setO_len : ∀ {is : List Nat} {ds : List DS} {env env' : En}, setO is ds env = some env' → is.length = ds.length
  | [], [], _, _, _ => rfl
  | [], _ :: _, _, _, h => by cases h
  | _ :: _, [], _, _, h => by cases h
  | i :: is, (d, .fz) :: ds, env, env', h => by rw [List.length_cons, List.length_cons, setO_len (show setO is ds _ = _ from h)]
  | i :: is, (d, .ow) :: ds, env, env', h => by rw [List.length_cons, List.length_cons, setO_len (show setO is ds _ = _ from h)]
  | i :: is, (d, .bo) :: ds, env, env', h => by cases h
theorem s_unpO {ts es : List Expr} {is : List Nat} {ga : EA} {kt ke : Nat} {pt pe : Pos} (hc : X.calm = true) (ha : SndA X es ga) (hg : SndN X ts is) (hn : (assignEach ts X.env).length = is.length := by rfl) (hst : (assignEach ts X.env).findIdx? (·.1) = none := by rfl) (hn0 : is.length ≤ 1000 := by decide)
    (hs : swapsWithSole [.Tuple ts kt pt] (.Tuple es ke pe) pos.line X.env = pure false := by rfl) (hw : swappedStores [.Tuple ts kt pt] (.Tuple es ke pe) X.env = pure none := by rfl) (h1 : (assignEach [.Tuple ts kt pt] X.env).map (·.2) = [assign (.Tuple ts kt pt) X.env] := by rfl) :
    SndS X (.Assign [.Tuple ts kt pt] (.Tuple es ke pe) pos) (sUnpO is ga) := by
  refine ps_imp (ps_asg (pe_tupF ha) (pg_tup hc hg hn hst) hs hw h1) fun Dn σ H q => ?_
  obtain ⟨B, F, wa, w, env, S, out, hf, k⟩ := q
  unfold sUnpO at hf
  obtain ⟨⟨ps, w1⟩, h2, h3⟩ := Option.bind_eq_some_iff.mp hf
  obtain ⟨env2, h4, h5⟩ := Option.map_eq_some_iff.mp (show (setO is ps env).map _ = some out from h3)
  cases h5
  have hlen := setO_len h4
  refine ⟨B, F, wa, w, env, S, ps, w1, h2, fun vs F1 H1 A r => ⟨?_, fun p u hp ht => ?_⟩⟩
  · rw [← rsp_len r.1, ← hlen]; exact Nat.le_trans hn0 (by rw [sizeLine_eq]; decide)
  · have A2 := Aft.new0 (K := kwOf X) (o := u) A.wk A.fd hp
    have S2 := (S.aft A).aft A2
    refine ⟨p, vs, rfl, ht.sq (K := kwOf X) upd_same, by rw [← rsp_len r.1, ← hlen], ?_⟩
    have r2 : RSs (kwOf X) B F1 wa H (upd H1 p u) ps vs := by
      refine ⟨?_, r.2⟩
      have main : ∀ {ps : List DS} {vs : List V}, RSp (kwOf X) B F1 wa H H1 ps vs → RSp (kwOf X) B F1 wa H (upd H1 p u) ps vs := by
        intro ps
        induction ps with
        | nil => intro vs r; cases r; exact .nil
        | cons d ps ih => intro vs r; cases r with
          | cons r t => exact .cons (r.aft A2) (ih t)
      exact main r.1
    exact gNames_of is ps vs σ env env2 Dn.nx S2 S.bd r2 h4 (fun q hq e j e' b eb g => by
      obtain ⟨b', e1, z⟩ := RSp.new r2.1 q hq e
      rw [eb] at e1
      cases e1
      exact S.newer z j e' g) fun σ' S' => k σ' F1 _ ((A.trans A2).toS S.bd) S'
/-! d[k], name = .. -/
def sUnpP (i : Nat) (fk : EF) (j : Nat) (fv : EF) : SB := fun env w => (eFz fv env w).bind fun p => match p.1.1 with
  | .tup [a, b] => (fk env p.2).bind fun q => match env[i]? with
    | some (some (.dk ks ds, true)) => (keyD q.1.1).bind fun k => if ks.length < lim then some (.nx ((env.set i (some (.dk (dPut ks ds k a).1 (dPut ks ds k a).2, true))).set j (some (b, false))) q.2) else none
    | _ => none
  | _ => none
theorem s_unpP (i j : Nat) {ik value : Expr} {fk fv : EF} {x py : Pos} {nm y : Str} {kt : Nat} {pt ps' : Pos} (hc : X.calm = true) (hu : X.A.units + 64 < cLine) (hN : X.N.Nodup) (hj : X.N[j]? = some y) (hx : Loc X.env.scope y) (ho : PE X (.Name nm x) (tVar i)) (hi : Snd X ik fk) (hv : Snd X value fv)
    (has : (assignEach [.Subscript (.Name nm x) ik ps', .Name y py] X.env).map (·.2) = assign (.Subscript (.Name nm x) ik ps') X.env :: (assignEach [.Name y py] X.env).map (·.2) := by rfl)
    (hn : (assignEach [.Subscript (.Name nm x) ik ps', .Name y py] X.env).length = 2 := by rfl) (hst : (assignEach [.Subscript (.Name nm x) ik ps', .Name y py] X.env).findIdx? (·.1) = none := by rfl)
    (hf : X.fn y = true ∨ X.env.scope.names.lookup y = some .local := by first | exact .inl rfl | exact .inr rfl | assumption)
    (hsa : ∀ v, assign (.Subscript (.Name nm x) ik ps') X.env v = (do
      let ov ← holding [v] (eval (.Name nm x) X.env)
      let iv ← holding [v, ov] (eval ik X.env)
      standAt ps'
      holding [v, ov, iv] (setItem ov iv v)
      release [v, ov, iv] []) := by intro _; rfl)
    (hs : swapsWithSole [.Tuple [.Subscript (.Name nm x) ik ps', .Name y py] kt pt] value pos.line X.env = pure false := by rfl) (hw : swappedStores [.Tuple [.Subscript (.Name nm x) ik ps', .Name y py] kt pt] value X.env = pure none := by rfl) (h1 : (assignEach [.Tuple [.Subscript (.Name nm x) ik ps', .Name y py] kt pt] X.env).map (·.2) = [assign (.Tuple [.Subscript (.Name nm x) ik ps', .Name y py] kt pt) X.env] := by rfl) :
    SndS X (.Assign [.Tuple [.Subscript (.Name nm x) ik ps', .Name y py] kt pt] value pos) (sUnpP i fk j fv) := by
  refine ps_imp (ps_asg (e_fz hv) (pg_tup hc (pgs_cons (pg_sub ho hi (set_dict (by omega)) hsa) (pgs_cons (pg_name hN hj hx hf) pgs_nil (by rfl)) has) hn hst) hs hw h1) fun Dn σ H q => ?_
  obtain ⟨B, F, wa, w, env, S, out, hf2, k⟩ := q
  unfold sUnpP at hf2
  obtain ⟨⟨⟨d1, st1⟩, w1⟩, h2, h3⟩ := Option.bind_eq_some_iff.mp hf2
  cases eFz_fz h2
  refine ⟨B, F, wa, w, env, S, d1, .fz, w1, h2, fun v F1 H1 A1 r1 => ?_⟩
  dsimp only at h3
  split at h3
  · rename_i a b
    obtain ⟨⟨⟨d2, st2⟩, w2⟩, h4, h5⟩ := Option.bind_eq_some_iff.mp h3
    dsimp only at h5
    split at h5
    · rename_i ks ds hd
      obtain ⟨ke, h6, h7⟩ := Option.bind_eq_some_iff.mp h5
      split at h7
      · rename_i hz
        cases h7
        obtain ⟨p, u, vs, e, hF, hh, ht, v1, vr, e1, ra, v2, vr2, e2, rb, e3⟩ := r1
        have e3' : vr2 = [] := e3
        subst e3' e2 e1 e
        have S1 := S.aft A1
        refine ⟨p, [v1, v2], rfl, ht.sq (K := kwOf X) hh, rfl, v1, [v2], rfl, ?_⟩
        obtain ⟨c, g1, og, nb⟩ := S1.ow i _ hd
        refine ⟨.ref c, g1, B, F1, wa, w1, env, S1, d2, st2, _, h4, fun y F2 H2 A2 r2 => ?_⟩
        have S2 := S1.aft A2
        obtain ⟨_, _, ob, hob, vs', eo, l1, rr⟩ := og.aft A2
        subst eo
        have ey := keyD_ok h6 r2.cur
        subst ey
        obtain ⟨us1, l2, rr1, m1⟩ := dPut_ok (k := ke) (A2.rep ra) l1 rr
        refine ⟨c, _, rfl, DPut.k (k := ke) hob ?_, v2, [], rfl, ?_⟩
        · rw [List.length_zip, ← l1, Nat.min_self]
          exact Nat.lt_of_lt_of_le hz (line16 (Nat.le_refl _))
        · rw [m1]
          obtain ⟨A3, S3⟩ := S2.write (d' := .dk (dPut ks ds ke a).1 (dPut ks ds ke a).2) (o := .dK ((dPut ks ds ke a).1.zip us1)) hd g1 ⟨us1, rfl, l2, rr1⟩
          have rb2 := A2.rep rb
          have rb3 : Rep (kwOf X) F2 wa _ b v2 := Rep.mono (fun _ z => z) A3.kf b v2 rb2
          exact ⟨rfl, k _ F2 _ (((A1.trans A2).toS S.bd).trans A3) (S3.set j rb3)⟩
      · cases h7
    · cases h5
  · cases h3
end
end Dl

set_option Elab.async false
set_option linter.all false
set_option maxRecDepth 100000
set_option maxHeartbeats 4000000
namespace Dl
open PySem PySem.Spec PyProof.Rows L2
/-! rows -/
section
variable {env r : En} {w : Option Wd} {f g : EF} {fa : EA} {i : Nat} {d : D} {l : List DS}
@[simp] theorem lendOk_nil : lendOk [] = true := rfl
@[simp] theorem lendOk_fz : lendOk ((d, .fz) :: l) = lendOk l := rfl
@[simp] theorem lendOk_dk {ks : List Key} {ds : List D} {s : O3} : lendOk ((.dk ks ds, s) :: l) = lendOk l := by
  show ((s == .fz || true) && lendOk l) = lendOk l
  rw [Bool.or_true, Bool.true_and]
@[simp] theorem lendK_q {s : O3} : lendK ((d, s), w) = cnd (flatD d) (some ((d, .fz), w)) none := by
  unfold lendK cnd; rfl
def callLK (F : Fn) (p : List DS × Option Wd) : Option (DS × Option Wd) := cnd (lendOk p.1) (bnd (F (p.1.map (·.1)) p.2) lendK) none
@[simp] theorem callLK_q {F : Fn} : callLK F (l, w) = cnd (lendOk l) (bnd (F (l.map (·.1)) w) lendK) none := rfl
@[simp] theorem eCallL_q {F : Fn} : eCallL F fa env w = bnd (fa env w) (callLK F) := rfl
@[simp] theorem itmK_q {ks : List Key} {ds : List D} {s : O3} : itmK ((.dk ks ds, s), w) = some ((.lst (itemsD ks ds), .ow), w) := rfl
@[simp] theorem eItm_q : eItm f env w = bnd (f env w) itmK := rfl
@[simp] theorem setO_nil : setO [] [] env = some env := rfl
@[simp] theorem setO_fz {is : List Nat} : setO (i :: is) ((d, .fz) :: l) env = setO is l (env.set i (some (d, false))) := rfl
@[simp] theorem setO_ow {is : List Nat} : setO (i :: is) ((d, .ow) :: l) env = setO is l (env.set i (some (d, true))) := rfl
def unpOK2 (is : List Nat) (env : En) (p : List DS × Option Wd) : Option Out := bnd (setO is p.1 env) (nxK p.2)
@[simp] theorem unpOK2_q {is : List Nat} : unpOK2 is env (l, w) = bnd (setO is l env) (nxK w) := rfl
@[simp] theorem sUnpO_q {is : List Nat} : sUnpO is fa env w = bnd (fa env w) (unpOK2 is env) := by
  show (fa env w).bind (unpOK is env) = (fa env w).bind _
  refine congrArg (Option.bind _) (funext fun p => ?_)
  show (setO is p.1 env).map _ = (setO is p.1 env).bind _
  cases setO is p.1 env <;> rfl
theorem sUnpP_q {i j : Nat} {fk fv : EF} {a b kd : D} {w1 w2 : Option Wd} {s : O3} {ks : List Key} {ds : List D} {k : Key} (h1 : eFz fv env w = some ((.tup [a, b], .fz), w1)) (h2 : fk env w1 = some ((kd, s), w2)) (h3 : env[i]? = some (some (.dk ks ds, true))) (h4 : keyD kd = some k) (h5 : ks.length < lim) :
    sUnpP i fk j fv env w = some (.nx ((env.set i (some (.dk (dPut ks ds k a).1 (dPut ks ds k a).2, true))).set j (some (b, false))) w2) := by
  unfold sUnpP
  rw [h1]
  show (fk env w1).bind _ = _
  rw [h2]
  show (match env[i]? with
    | some (some (.dk ks ds, true)) => _
    | _ => none) = _
  rw [h3]
  show (keyD kd).bind _ = _
  rw [h4]
  show (if ks.length < lim then _ else none) = _
  rw [if_pos h5]
@[simp] theorem ixG_tup {ds : List D} {i : Int} : els2 dIx dIxK (.tup ds) (.int i) = bnd (atI ds i) fzK := by
  unfold els2
  rw [dIx_tup]
  cases h : atI ds i <;> rfl
@[simp] theorem ixG_lst {ds : List D} {i : Int} : els2 dIx dIxK (.lst ds) (.int i) = bnd (atI ds i) fzK := by
  unfold els2
  rw [dIx_lst]
  cases h : atI ds i <;> rfl
@[simp] theorem ixG_dks {ks : List Key} {ds : List D} {x : Str} : els2 dIx dIxK (.dk ks ds) (.str x) = bnd (dFind ks ds (.inr x)) fzK := by
  show ((dFind ks ds (.inr x)).map fun d => (d, O3.fz)) = _
  cases dFind ks ds (.inr x) <;> rfl
@[simp] theorem ixG_dki {ks : List Key} {ds : List D} {x : Int} : els2 dIx dIxK (.dk ks ds) (.int x) = bnd (dFind ks ds (.inl x)) fzK := by
  show ((dFind ks ds (.inl x)).map fun d => (d, O3.fz)) = _
  cases dFind ks ds (.inl x) <;> rfl
theorem putD_dk {ks : List Key} {ds : List D} {kd x : D} {k : Key} (h : keyD kd = some k) (hl : ks.length < lim) : putD (.dk ks ds) kd x = some (.dk (dPut ks ds k x).1 (dPut ks ds k x).2) := by
  show ((keyD kd).bind fun k => if ks.length < lim then some (D.dk (dPut ks ds k x).1 (dPut ks ds k x).2) else none) = _
  rw [h]
  show (if ks.length < lim then _ else none) = _
  rw [if_pos hl]
theorem putD_dt {ks ds : List D} {kd x : D} {k : NestedKey} (h : tkD kd = some k) (hl : ks.length < lim) : putD (.dt ks ds) kd x = some (.dt (dtPut ks ds kd k x).1 (dtPut ks ds kd k x).2) := by
  show ((tkD kd).bind fun k => if ks.length < lim then some (D.dt (dtPut ks ds kd k x).1 (dtPut ks ds kd k x).2) else none) = _
  rw [h]
  show (if ks.length < lim then _ else none) = _
  rw [if_pos hl]
end
end Dl

set_option Elab.async false
set_option linter.all false
set_option maxRecDepth 100000
set_option maxHeartbeats 4000000
namespace Dl
open PySem PySem.Spec PyProof.Rows L2
/-! x, y, z = a, b, c: three plain locals -/
def tThree (i j l : Nat) (ta : TA) : TS := fun D σ H => ta σ H fun vs H1 => ∃ u v w, vs = [u, v, w] ∧ D.nx (((σ.set i (some u)).set j (some v)).set l (some w)) H1
section
variable {X : Cx} {pos : Pos}
theorem vals3 {u v w : V} {us : List Value} (h : Vals [u, v, w] us) : ∃ a b c, us = [a, b, c] ∧ RelV u a ∧ RelV v b ∧ RelV w c := by
  cases h with
  | cons r1 h => cases h with
    | cons r2 h => cases h with
      | cons r3 h => cases h; exact ⟨_, _, _, rfl, r1, r2, r3⟩
theorem set3 (σ : L2.St) {i j l : Nat} (hij : i ≠ j) (hil : i ≠ l) (hjl : j ≠ l) (u v w : Option V) : ((σ.set l w).set j v).set i u = ((σ.set i u).set j v).set l w := by
  rw [List.set_comm _ _ (Ne.symm hjl), List.set_comm _ _ (Ne.symm hil), List.set_comm _ _ (Ne.symm hij)]
theorem ps_three {i j l : Nat} {x y z : Str} {a b c : Expr} {ta : TA} {px py pz pt : Pos} {kt k2 pt2} (hc : X.calm = true) (hN : X.N.Nodup) (hi : X.N[i]? = some x) (hj : X.N[j]? = some y) (hl : X.N[l]? = some z) (hij : i ≠ j) (hil : i ≠ l) (hjl : j ≠ l)
    (hx : X.env.scope.names.lookup x = some .local) (hy : X.env.scope.names.lookup y = some .local) (hz : X.env.scope.names.lookup z = some .local) (ha : PA X [a, b, c] ta)
    (sw : swappedStores [.Tuple [.Name x px, .Name y py, .Name z pz] kt pt] (.Tuple [a, b, c] k2 pt2) X.env = pure (some [x, y, z]))
    (ss : swapsWithSole [.Tuple [.Name x px, .Name y py, .Name z pz] kt pt] (.Tuple [a, b, c] k2 pt2) pos.line X.env = pure false := by rfl) :
    PS X (.Assign [.Tuple [.Name x px, .Name y py, .Name z pz] kt pt] (.Tuple [a, b, c] k2 pt2) pos) (tThree i j l ta) := by
  constructor
  intro pins s σ H D I h
  rw [exec_Assign_arm]
  apply wpAny_bind
  apply wpAny_standAt
  rw [ss]
  apply wpAny_bind
  apply wpAny_pure
  rw [if_neg (by decide)]
  apply wpAny_bind
  apply Tuple_
  refine thn (ha.run _ pins s σ H _ I h) ?_
  rintro us s1 ⟨vs, H1, I1, r1, u, v, w, e1, q1⟩
  subst e1
  obtain ⟨ua, ub, uc, rfl, rx, ry, rz⟩ := vals3 r1
  have I2 : Inv X pins σ H1 { s1 with heap := s1.heap.push { cls := .type "tuple", data := .seq [ua, ub, uc].toArray } } := I1.kept (t' := s1.toks) fun _ _ e => Heap.get?_push_of_some _ e
  refine wpAny_newObj_type (T := "tuple") (data := .seq [ua, ub, uc].toArray) ?_ (by show 3 ≤ sizeLine; rw [sizeLine_eq]; decide)
  rw [sw]
  apply wpAny_bind
  apply wpAny_pure
  show wpAny (model X.prog X.w) X.A (do
    rule "assign.swapped-stores"
    let its ← unpackItems (.ref s1.heap.objs.size) 3 none
    assignInOrder [fun v => bindName X.env z v, fun v => bindName X.env y v, fun v => bindName X.env x v] its.reverse
    pure Flow.next) _ _ _
  apply wpAny_bind
  apply wpAny_rule
  apply wpAny_bind
  refine unpackItems_tuple (items := #[ua, ub, uc]) (I.ok.hd hc) (IsTup.new s1.heap _) ?_
  intro h3 but
  have I3 : Inv X pins σ H1 { s1 with heap := h3 } := I2.kept (t' := s1.toks) fun b o e => but b o (Nat.ne_of_lt (Heap.lt_size e)) e
  show wpAny _ _ (assignInOrder [fun v => bindName X.env z v, fun v => bindName X.env y v, fun v => bindName X.env x v] [uc, ub, ua] >>= fun _ => pure Flow.next) _ _ _
  apply wpAny_bind
  apply assignInOrder_cons
  apply wpAny_bindName
  refine store_ok I3 hN hl (.inl hz) rz ?_ (.inr hz)
  intro s2 I4
  apply assignInOrder_cons
  apply wpAny_bindName
  refine store_ok I4 hN hj (.inl hy) ry ?_ (.inr hy)
  intro s3 I5
  apply assignInOrder_cons
  apply wpAny_bindName
  refine store_ok I5 hN hi (.inl hx) rx ?_ (.inr hx)
  intro s4 I6
  apply assignInOrder_nil
  apply wpAny_pure
  rw [set3 σ hij hil hjl] at I6
  exact ⟨_, H1, I6, q1⟩
theorem s_unp3 {i j l : Nat} {x y z : Str} {a b c : Expr} {ga : EA} {px py pz pt : Pos} {kt k2 pt2} (hc : X.calm = true) (hN : X.N.Nodup) (hi : X.N[i]? = some x) (hj : X.N[j]? = some y) (hl : X.N[l]? = some z) (hd : i ≠ j ∧ i ≠ l ∧ j ≠ l)
    (hx : X.env.scope.names.lookup x = some .local) (hy : X.env.scope.names.lookup y = some .local) (hz : X.env.scope.names.lookup z = some .local) (ha : SndA X [a, b, c] ga)
    (sw : swappedStores [.Tuple [.Name x px, .Name y py, .Name z pz] kt pt] (.Tuple [a, b, c] k2 pt2) X.env = pure (some [x, y, z]) := by rfl)
    (ss : swapsWithSole [.Tuple [.Name x px, .Name y py, .Name z pz] kt pt] (.Tuple [a, b, c] k2 pt2) pos.line X.env = pure false := by rfl) :
    SndS X (.Assign [.Tuple [.Name x px, .Name y py, .Name z pz] kt pt] (.Tuple [a, b, c] k2 pt2) pos) (sUnpO [i, j, l] ga) := by
  refine ps_imp (ps_three hc hN hi hj hl hd.1 hd.2.1 hd.2.2 hx hy hz ha sw ss) fun Dn σ H q => ?_
  obtain ⟨B, F, wa, w, env, S, out, hf, k⟩ := q
  unfold sUnpO at hf
  obtain ⟨⟨ps, w1⟩, h2, h3⟩ := Option.bind_eq_some_iff.mp hf
  obtain ⟨env2, h4, h5⟩ := Option.map_eq_some_iff.mp (show (setO [i, j, l] ps env).map _ = some out from h3)
  cases h5
  refine ⟨B, F, wa, w, env, S, ps, w1, h2, fun vs F1 H1 A r => ?_⟩
  have g := gNames_of [i, j, l] ps vs σ env env2 Dn.nx (S.aft A) S.bd r h4 (fun q hq e j e' b eb g => by
      obtain ⟨b', e1, z⟩ := RSp.new r.1 q hq e
      rw [eb] at e1
      cases e1
      exact S.newer z j e' g) fun σ' S' => k σ' F1 _ (A.toS S.bd) S'
  obtain ⟨u, r1, e1, v, r2, e2, w', r3, e3, e4, g⟩ := g
  subst e4 e3 e2 e1
  exact ⟨u, v, w', rfl, g⟩
end
end Dl

set_option Elab.async false
set_option linter.all false
set_option maxRecDepth 100000
set_option maxHeartbeats 4000000
namespace Dl
open PySem PySem.Spec PyProof.Rows L2
/-! max and min of ints, looks into dicts keyed by tuples, loops downwards -/
abbrev iN (j : Nat) : D := .int (j : Int)
theorem encD_i (i : Int) : Dl.encD (.int i) = .int i := rfl
theorem mmOk_mk {ds : List D} (h1 : ∀ d ∈ ds, (dPy d).isSome = true) (h2 : PyData.depthAll (ds.map Dl.encD) ≤ 40) (h3 : ∀ d ∈ ds, ∀ e ∈ ds, PySem.W.alike (Dl.encD d) (Dl.encD e) = true) (h4 : ∀ d ∈ ds, Dl.encD d ≠ .none) : mmOk ds = true := by
  unfold mmOk
  rw [Bool.and_eq_true, Bool.and_eq_true, Bool.and_eq_true, List.all_eq_true, List.all_eq_true, List.all_eq_true]
  refine ⟨⟨⟨h1, decide_eq_true h2⟩, fun d hd => ?_⟩, fun d hd => ?_⟩
  · rw [List.all_eq_true]; exact h3 d hd
  · have := h4 d hd
    split
    · rename_i e; exact absurd e this
    · rfl
theorem srtOk_mk {ds : List D} (h1 : ∀ d ∈ ds, (dPy d).isSome = true) (h2 : ∀ d ∈ ds, (Dl.encD d).depth ≤ 40) (h3 : ∀ d ∈ ds, ∀ e ∈ ds, PySem.W.alike (Dl.encD d) (Dl.encD e) = true) (h4 : (∀ d ∈ ds, tupNe (Dl.encD d) = true) ∨ ∀ d ∈ ds, notTup (Dl.encD d) = true) : srtOk ds = true := by
  unfold srtOk
  rw [Bool.and_eq_true, Bool.and_eq_true, Bool.or_eq_true, List.all_eq_true, List.all_eq_true, List.all_eq_true, List.all_eq_true]
  refine ⟨⟨fun d hd => ?_, fun d hd => ?_⟩, h4⟩
  · rw [Bool.and_eq_true]; exact ⟨h1 d hd, decide_eq_true (h2 d hd)⟩
  · rw [List.all_eq_true]; exact h3 d hd
def mn : List Int → Int
  | [] => 0
  | x :: xs => xs.foldl (fun a y => if y < a then y else a) x
def mx : List Int → Int
  | [] => 0
  | x :: xs => xs.foldl (fun a y => if a < y then y else a) x
theorem minDD_int : ∀ (xs : List Int) (x : Int), minDD (.int x) (xs.map D.int) = .int (xs.foldl (fun a y => if y < a then y else a) x)
  | [], x => rfl
  | y :: xs, x => by
    have ih := minDD_int xs (if y < x then y else x)
    show minDD (if PySem.W.dataLt (Dl.encD (.int y)) (Dl.encD (.int x)) = true then .int y else .int x) (xs.map D.int) = _
    rw [encD_i, encD_i, PySem.W.dataLt_int]
    have e : (if decide (y < x) = true then D.int y else D.int x) = D.int (if y < x then y else x) := by by_cases h : y < x <;> simp [h]
    rw [e, ih]; rfl
theorem maxDD_int : ∀ (xs : List Int) (x : Int), maxDD (.int x) (xs.map D.int) = .int (xs.foldl (fun a y => if a < y then y else a) x)
  | [], x => rfl
  | y :: xs, x => by
    have ih := maxDD_int xs (if x < y then y else x)
    show maxDD (if PySem.W.dataLt (Dl.encD (.int x)) (Dl.encD (.int y)) = true then .int y else .int x) (xs.map D.int) = _
    rw [encD_i, encD_i, PySem.W.dataLt_int]
    have e : (if decide (x < y) = true then D.int y else D.int x) = D.int (if x < y then y else x) := by by_cases h : x < y <;> simp [h]
    rw [e, ih]; rfl
theorem depthAll_i : ∀ xs : List Int, PyData.depthAll (xs.map PyData.int) = 0
  | [] => by simp [PyData.depthAll]
  | x :: xs => by simp [PyData.depthAll, PyData.depth, depthAll_i xs]
theorem mmOk_int (xs : List Int) : mmOk (xs.map D.int) = true := by
  have e : (xs.map D.int).map Dl.encD = xs.map PyData.int := by rw [List.map_map]; rfl
  refine mmOk_mk (fun d hd => ?_) (by rw [e, depthAll_i]; decide) (fun d hd f hf => ?_) (fun d hd => ?_)
  · obtain ⟨i, _, rfl⟩ := List.mem_map.mp hd; rfl
  · obtain ⟨i, _, rfl⟩ := List.mem_map.mp hd
    obtain ⟨j, _, rfl⟩ := List.mem_map.mp hf
    rw [encD_i, encD_i]; simp [PySem.W.alike]
  · obtain ⟨i, _, rfl⟩ := List.mem_map.mp hd
    rw [encD_i]; exact fun z => nomatch z
theorem dMin_i {xs : List Int} (h : xs ≠ []) : dMinL [.lst (xs.map D.int)] = some (.int (mn xs), .fz) := by
  cases xs with
  | nil => exact absurd rfl h
  | cons x xs =>
    show (if mmOk ((x :: xs).map D.int) = true then some (minDD (.int x) (xs.map D.int), O3.fz) else none) = _
    rw [if_pos (mmOk_int _), minDD_int]; rfl
theorem dMax_i {xs : List Int} (h : xs ≠ []) : dMaxL [.lst (xs.map D.int)] = some (.int (mx xs), .fz) := by
  cases xs with
  | nil => exact absurd rfl h
  | cons x xs =>
    show (if mmOk ((x :: xs).map D.int) = true then some (maxDD (.int x) (xs.map D.int), O3.fz) else none) = _
    rw [if_pos (mmOk_int _), maxDD_int]; rfl
theorem mn_fold : ∀ (xs : List Int) (x : Int), xs.foldl (fun a y => if y < a then y else a) x ≤ x ∧ ∀ y ∈ xs, xs.foldl (fun a y => if y < a then y else a) x ≤ y
  | [], x => ⟨Int.le_refl x, fun y h => nomatch h⟩
  | z :: xs, x => by
    obtain ⟨h1, h2⟩ := mn_fold xs (if z < x then z else x)
    rw [List.foldl_cons]
    have h3 : (if z < x then z else x) ≤ x ∧ (if z < x then z else x) ≤ z := by split <;> omega
    refine ⟨by omega, fun y hy => ?_⟩
    rcases List.mem_cons.mp hy with e | hy
    · subst e; omega
    · exact h2 y hy
theorem mn_le {xs : List Int} {y : Int} (h : y ∈ xs) : mn xs ≤ y := by
  cases xs with
  | nil => cases h
  | cons x xs =>
    obtain ⟨h1, h2⟩ := mn_fold xs x
    rcases List.mem_cons.mp h with e | h
    · subst e; exact h1
    · exact h2 y h
theorem mx_fold : ∀ (xs : List Int) (x : Int), x ≤ xs.foldl (fun a y => if a < y then y else a) x ∧ ∀ y ∈ xs, y ≤ xs.foldl (fun a y => if a < y then y else a) x
  | [], x => ⟨Int.le_refl x, fun y h => nomatch h⟩
  | z :: xs, x => by
    obtain ⟨h1, h2⟩ := mx_fold xs (if x < z then z else x)
    rw [List.foldl_cons]
    have h3 : x ≤ (if x < z then z else x) ∧ z ≤ (if x < z then z else x) := by split <;> omega
    refine ⟨by omega, fun y hy => ?_⟩
    rcases List.mem_cons.mp hy with e | hy
    · subst e; omega
    · exact h2 y hy
theorem le_mx {xs : List Int} {y : Int} (h : y ∈ xs) : y ≤ mx xs := by
  cases xs with
  | nil => cases h
  | cons x xs =>
    obtain ⟨h1, h2⟩ := mx_fold xs x
    rcases List.mem_cons.mp h with e | h
    · subst e; exact h1
    · exact h2 y h
theorem find_upd {j j' : NestedKey} {x : D} : ∀ (ks ds : List D), dtFind ks (dtUpd ks ds j x) j' = if j = j' then (if (dtFind ks ds j).isSome = true then some x else none) else dtFind ks ds j'
  | [], ds => by
    show none = _
    split <;> rfl
  | k :: ks, [] => by
    show none = _
    split <;> rfl
  | k :: ks, d :: ds => by
    have ih := find_upd (j := j) (j' := j') (x := x) ks ds
    show (if nkD k = some j' then some (if nkD k = some j then x else d) else dtFind ks (dtUpd ks ds j x) j') = if j = j' then (if (if nkD k = some j then some d else dtFind ks ds j).isSome = true then some x else none) else (if nkD k = some j' then some d else dtFind ks ds j')
    rw [ih]
    by_cases h : j = j'
    · subst h
      rw [if_pos rfl, if_pos rfl]
      by_cases h1 : nkD k = some j
      · rw [if_pos h1, if_pos h1, if_pos h1]; rfl
      · rw [if_neg h1, if_neg h1]
    · rw [if_neg h, if_neg h]
      by_cases h1 : nkD k = some j'
      · have h2 : ¬ nkD k = some j := by rw [h1]; intro e; exact h (Option.some.inj e).symm
        rw [if_pos h1, if_pos h1, if_neg h2]
      · rw [if_neg h1, if_neg h1]
theorem find_app {j j' : NestedKey} {kd x : D} (hk : nkD kd = some j) : ∀ (ks ds : List D), ks.length = ds.length → dtFind (ks ++ [kd]) (ds ++ [x]) j' = match dtFind ks ds j' with
    | some d => some d
    | none => if j = j' then some x else none
  | [], [], _ => by
    show (if nkD kd = some j' then some x else none) = if j = j' then some x else none
    rw [hk]
    by_cases h : j = j' <;> simp [h]
  | [], _ :: _, h => by cases h
  | _ :: _, [], h => by cases h
  | k :: ks, d :: ds, h => by
    have ih := find_app (j' := j') (x := x) hk ks ds (Nat.succ.inj h)
    show (if nkD k = some j' then some d else dtFind (ks ++ [kd]) (ds ++ [x]) j') = match (if nkD k = some j' then some d else dtFind ks ds j') with
      | some d => some d
      | none => if j = j' then some x else none
    by_cases h1 : nkD k = some j'
    · rw [if_pos h1, if_pos h1]
    · rw [if_neg h1, if_neg h1, ih]
theorem find_put {j j' : NestedKey} {kd x : D} (hk : nkD kd = some j) {ks ds : List D} (hl : ks.length = ds.length) : dtFind (dtPut ks ds kd j x).1 (dtPut ks ds kd j x).2 j' = if j = j' then some x else dtFind ks ds j' := by
  unfold dtPut
  by_cases h : (dtFind ks ds j).isSome = true
  · rw [if_pos h]
    show dtFind ks (dtUpd ks ds j x) j' = _
    rw [find_upd, if_pos h]
  · rw [if_neg h]
    show dtFind (ks ++ [kd]) (ds ++ [x]) j' = _
    rw [find_app hk ks ds hl]
    have hn : dtFind ks ds j = none := by
      cases e : dtFind ks ds j with
      | none => rfl
      | some d => rw [e] at h; exact absurd rfl h
    by_cases hj : j = j'
    · subst hj; rw [hn]
    · rw [if_neg hj, if_neg hj]
      cases dtFind ks ds j' <;> rfl
theorem upd_len {j : NestedKey} {x : D} : ∀ (ks ds : List D), (dtUpd ks ds j x).length = ds.length
  | [], ds => by cases ds <;> rfl
  | k :: ks, [] => rfl
  | k :: ks, d :: ds => by show (dtUpd ks ds j x).length + 1 = _; rw [upd_len ks ds]; rfl
theorem put_len {j : NestedKey} {kd x : D} {ks ds : List D} (hl : ks.length = ds.length) : (dtPut ks ds kd j x).1.length = (dtPut ks ds kd j x).2.length ∧ (dtPut ks ds kd j x).1.length ≤ ks.length + 1 := by
  unfold dtPut
  split
  · exact ⟨by show ks.length = (dtUpd ks ds j x).length; rw [upd_len, hl], by show ks.length ≤ _; omega⟩
  · exact ⟨by simp [hl], by simp⟩
def nk2 (i j : Nat) : NestedKey := .tup [.num i, .num j]
abbrev ij (i j : Nat) : D := .tup [iN i, iN j]
theorem nkD_ij (i j : Nat) : nkD (ij i j) = some (nk2 i j) := rfl
theorem tkD_ij (i j : Nat) : tkD (ij i j) = some (nk2 i j) := by
  show (some (nk2 i j)).bind (fun k => if k.depth ≤ 8 then some k else none) = _
  have : (nk2 i j).depth = 1 := by unfold nk2; rfl
  show (if (nk2 i j).depth ≤ 8 then some (nk2 i j) else none) = _
  rw [this]; rfl
theorem nk2_inj {i j k l : Nat} (h : nk2 i j = nk2 k l) : i = k ∧ j = l := by
  unfold nk2 at h
  injection h with h
  injection h with h1 h2
  injection h2 with h2 _
  injection h1 with h1
  injection h2 with h2
  omega
theorem ixG_ij {ks ds : List D} {i j : Nat} {d : D} (h : dtFind ks ds (nk2 i j) = some d) : els2 dIx dIxK (.dt ks ds) (ij i j) = some (d, .fz) := by
  show ((tkD (ij i j)).bind fun k => (dtFind ks ds k).map fun d => (d, O3.fz)) = _
  rw [tkD_ij]
  show (dtFind ks ds (nk2 i j)).map _ = _
  rw [h]; rfl
theorem down_cons (n : Nat) : downD (n : Int) (-1) = iN n :: downD ((n : Int) - 1) (-1) := by
  unfold downD
  have e : ((n : Int) - -1).toNat = ((n : Int) - 1 - -1).toNat + 1 := by omega
  rw [e, List.range_succ_eq_map, List.map_cons, List.map_map]
  refine congr (congrArg List.cons (by simp)) (List.map_congr_left fun k _ => ?_)
  show D.int _ = D.int _
  congr 1
  simp; omega
theorem down_none : downD (-1) (-1) = [] := rfl
/-- a for over n, n - 1 .. 0 -/
theorem forL_down {set : ESet} {sa : SB} {w : Option Wd} (P : Int → En → Prop) : ∀ (n : Nat) (env : En), P n env →
    (∀ k : Nat, k ≤ n → ∀ env, P k env → ∃ e1 e2, set (iN k) env = some e1 ∧ sa e1 w = some (.nx e2 w) ∧ P ((k : Int) - 1) e2) → ∃ env', forL set sa (downD n (-1)) env w = some (.nx env' w) ∧ P (-1) env'
  | 0, env, h, step => by
    obtain ⟨e1, e2, h1, h2, h3⟩ := step 0 (Nat.le_refl 0) env h
    refine ⟨e2, ?_, h3⟩
    rw [down_cons, forL_cons, h1, bnd_some, forK2_q, h2, bnd_some, forP_nx]
    rfl
  | n + 1, env, h, step => by
    obtain ⟨e1, e2, h1, h2, h3⟩ := step (n + 1) (Nat.le_refl _) env h
    have e : (((n + 1 : Nat) : Int) - 1) = (n : Int) := by omega
    rw [e] at h3
    obtain ⟨env', h4, h5⟩ := forL_down P n e2 h3 fun k hk => step k (by omega)
    refine ⟨env', ?_, h5⟩
    rw [down_cons, forL_cons, h1, bnd_some, forK2_q, h2, bnd_some, forP_nx, e, h4]
theorem dEqD_tt {x y : List D} (h : fine 64 (.tup x) = true) (g : fine 64 (.tup y) = true) (neg : Bool) : dEqD neg (.tup x) (.tup y) = some (.bl (if neg then !PyData.eqv (Dl.encD (.tup x)) (Dl.encD (.tup y)) else PyData.eqv (Dl.encD (.tup x)) (Dl.encD (.tup y))), .fz) := by
  obtain ⟨p, h1, h2, h3⟩ := fine_py 64 _ h
  obtain ⟨q, g1, g2, g3⟩ := fine_py 64 _ g
  have hs : SeqAt.shaped p = true := by unfold SeqAt.shaped; simp [h2, h3]
  have gs : SeqAt.shaped q = true := by unfold SeqAt.shaped; simp [g2, g3]
  unfold dEqD Dl.encD
  rw [h1, g1]
  simp [hs, gs]
def eqB (x y : D) : Bool := PyData.eqv (Dl.encD x) (Dl.encD y)
theorem dEq_tt {x y : List D} (h : fine 64 (.tup x) = true) (g : fine 64 (.tup y) = true) : els2 (dEqF false) (dEqD false) (.tup x) (.tup y) = some (.bl (eqB (.tup x) (.tup y)), .fz) := dEqD_tt h g false
theorem dNe_tt {x y : List D} (h : fine 64 (.tup x) = true) (g : fine 64 (.tup y) = true) : els2 (dEqF true) (dEqD true) (.tup x) (.tup y) = some (.bl (!eqB (.tup x) (.tup y)), .fz) := dEqD_tt h g true
end Dl

set_option Elab.async false
set_option linter.all false
set_option maxRecDepth 100000
set_option maxHeartbeats 4000000
namespace Kk42
open PySem PySem.Spec PyProof.Rows L2 Dl
/-! ### the defs as forms -/
def b__law_draws : SB := (sSeq (sSet 2 (eLst aNil)) (sSeq (sSet 3 (eC (.int 7))) (sSeq (sFor (setN 4) (iRange (aCons (eA dLen (aCons (eVar 0) aNil)) aNil)) (sSeq (sSet 5 (eA dAbs (aCons (eA dInt (aCons (eOp dIx (eVar 0) (eVar 4)) aNil)) aNil))) (sSeq (sSet 3 (eOp dMod (eA dInt (aCons (eOp dAdd (eOp dAdd (eOp dMul (eVar 3) (eC (.int 48271))) (eOp dMod (eVar 5) (eC (.int 1000003)))) (eVar 4)) aNil)) (eC (.int 65537)))) (sSeq (sSet 6 (eC (.int 0))) (sSeq (sIf (tVal (eOp dGe (eVar 5) (eOp dPow (eC (.int 10)) (eC (.int 18))))) (sSet 6 (eVar 5)) (sSeq (sApp 2 (eOp dMod (eA dInt (aCons (eVar 5) aNil)) (eC (.int 997)))) (sApp 2 (eOp dMod (eOp dMod (eA dInt (aCons (eOp dAdd (eOp dMul (eVar 3) (eC (.int 69621))) (eC (.int 5))) aNil)) (eC (.int 65521))) (eC (.int 997)))))) (sFor (setN 7) (iRange (aCons (eC (.int 60)) aNil)) (sIf (tVal (eOp dGt (eVar 6) (eC (.int 0)))) (sSeq (sApp 2 (eOp dMod (eA dInt (aCons (eVar 6) aNil)) (eC (.int 997)))) (sSet 6 (eOp dFdiv (eVar 6) (eC (.int 997))))) (sNil)))))))) (sSeq (sFor (setN 4) (iRange (aCons (eVar 1) aNil)) (sSeq (sSet 3 (eOp dMod (eA dInt (aCons (eOp dAdd (eOp dAdd (eOp dMul (eVar 3) (eC (.int 16807))) (eVar 4)) (eC (.int 1))) aNil)) (eC (.int 65537)))) (sApp 2 (eOp dMod (eA dInt (aCons (eVar 3) aNil)) (eC (.int 997)))))) (sRet (eSl dSl (eVar 2) oNone (oSome (eVar 1))))))))
def f__law_draws : Fn := runFn 8 2 (b__law_draws)
def b_walk_table : SB := (sSeq (sUnpO [3, 4, 5] (aCons (eLst aNil) (aCons (eC (.int 0)) (aCons (eC (.int 0)) aNil)))) (sSeq (sWhile ((tAn (tVal (eOp dLt (eVar 4) (eA dLen (aCons (eVar 0) aNil)))) (tVal (eOp dLt (eVar 5) (eA dLen (aCons (eVar 1) aNil)))))) (sIf (tVal (eOp dEq (eOp dIxG (eVar 0) (eVar 4)) (eOp dIxG (eVar 1) (eVar 5)))) (sSeq (sFrz [4, 5] (sApp 3 (eTup (aCons (eFz (eVar 4)) (aCons (eFz (eVar 5)) aNil))))) (sPar 4 5 (aCons (eOp dAdd (eVar 4) (eC (.int 1))) (aCons (eOp dAdd (eVar 5) (eC (.int 1))) aNil)))) (sFrz [4, 5] (sIf (tVal (eOp dGe (eOp dIxG (eVar 2) (eTup (aCons (eFz (eOp dAdd (eVar 4) (eC (.int 1)))) (aCons (eFz (eVar 5)) aNil)))) (eOp dIxG (eVar 2) (eTup (aCons (eFz (eVar 4)) (aCons (eFz (eOp dAdd (eVar 5) (eC (.int 1)))) aNil)))))) (sAug 4 dAddI (eC (.int 1))) (sAug 5 dAddI (eC (.int 1)))))) 100000) (sRet (eA dTuple (aCons (eVar 3) aNil)))))
def f_walk_table : Fn := runFn 6 3 (b_walk_table)
def b_spots_of : SB := (sRet (eLC [1] (setN 1) (iSeq (eVar 0)) (tVal (eOp dNe (eOp dIx (eVar 1) (eC (.int 0))) (eTup aNil))) (eSl dSl (eOp dIx (eOp dIx (eVar 1) (eC (.int 0))) (eUn dNeg (eC (.int 1)))) oNone (oSome (eC (.int 2))))))
def f_spots_of : Fn := runFn 2 1 (b_spots_of)
def b_side_by_side (f_walk_table : Fn) (f_spots_of : Fn) : SB := (sSeq (sPar 2 3 (aCons (eCall f_spots_of (aCons (eFz (eVar 0)) aNil)) (aCons (eCall f_spots_of (aCons (eFz (eVar 1)) aNil)) aNil))) (sSeq (sSet 4 (eDt0)) (sSeq (sFor (setN 5) (iRange (aCons (eA dLen (aCons (eVar 2) aNil)) (aCons (eUn dNeg (eC (.int 1))) (aCons (eUn dNeg (eC (.int 1))) aNil)))) (sFor (setN 6) (iRange (aCons (eA dLen (aCons (eVar 3) aNil)) (aCons (eUn dNeg (eC (.int 1))) (aCons (eUn dNeg (eC (.int 1))) aNil)))) (sIf ((tOrr (tVal (eOp dEq (eVar 5) (eA dLen (aCons (eVar 2) aNil)))) (tVal (eOp dEq (eVar 6) (eA dLen (aCons (eVar 3) aNil)))))) (sPut 4 (eTup (aCons (eFz (eVar 5)) (aCons (eFz (eVar 6)) aNil))) (eC (.int 0))) (sIf (tVal (eOp dEq (eOp dIxG (eVar 2) (eVar 5)) (eOp dIxG (eVar 3) (eVar 6)))) (sPut 4 (eTup (aCons (eFz (eVar 5)) (aCons (eFz (eVar 6)) aNil))) (eOp dAdd (eC (.int 1)) (eOp dIxG (eVar 4) (eTup (aCons (eFz (eOp dAdd (eVar 5) (eC (.int 1)))) (aCons (eFz (eOp dAdd (eVar 6) (eC (.int 1)))) aNil)))))) (sPut 4 (eTup (aCons (eFz (eVar 5)) (aCons (eFz (eVar 6)) aNil))) (eA dMax2 (aCons (eOp dIxG (eVar 4) (eTup (aCons (eFz (eOp dAdd (eVar 5) (eC (.int 1)))) (aCons (eFz (eVar 6)) aNil)))) (aCons (eOp dIxG (eVar 4) (eTup (aCons (eFz (eVar 5)) (aCons (eFz (eOp dAdd (eVar 6) (eC (.int 1)))) aNil)))) aNil)))))))) (sFrz [2, 3, 4] (sRet (eCall f_walk_table (aCons (eFz (eVar 2)) (aCons (eFz (eVar 3)) (aCons (eFz (eVar 4)) aNil)))))))))
def f_side_by_side : Fn := runFn 7 2 (b_side_by_side f_walk_table f_spots_of)
def b__law_alike (f__law_alike : Fn) : SB := (sSeq (sIf (tTru (eA dIsi (aCons (eVar 1) (aCons (eC (.ty "tuple")) aNil)))) (sSeq (sIf ((tOrr (tNo (tTru (eA dIsi (aCons (eVar 0) (aCons (eC (.ty "tuple")) aNil))))) (tVal (eOp dNe (eA dLen (aCons (eVar 0) aNil)) (eA dLen (aCons (eVar 1) aNil)))))) (sRet (eC (.bl false))) (sNil)) (sRet (eOp dEq (eLC [2] (setN 2) (iRange (aCons (eA dLen (aCons (eVar 1) aNil)) aNil)) (tNo (tTru (eCall f__law_alike (aCons (eFz (eOp dIx (eVar 0) (eVar 2))) (aCons (eFz (eOp dIx (eVar 1) (eVar 2))) aNil))))) (eVar 2)) (eLst aNil)))) (sNil)) (sSeq (sIf (tVal (eOp (dIs false) (eVar 1) (eC .non))) (sRet (eOp (dIs false) (eVar 0) (eC .non))) (sNil)) (sSeq (sIf (tTru (eA dIsi (aCons (eVar 1) (aCons (eC (.ty "bool")) aNil)))) (sRet ((eAnd (eA dIsi (aCons (eVar 0) (aCons (eC (.ty "bool")) aNil))) (eOp dEq (eVar 0) (eVar 1))))) (sNil)) (sSeq (sIf (tTru (eA dIsi (aCons (eVar 1) (aCons (eC (.ty "int")) aNil)))) (sRet ((eAnd (eA dIsi (aCons (eVar 0) (aCons (eC (.ty "int")) aNil))) (eAnd (eNot (eA dIsi (aCons (eVar 0) (aCons (eC (.ty "bool")) aNil)))) (eOp dEq (eVar 0) (eVar 1)))))) (sNil)) (sRet ((eAnd (eA dIsi (aCons (eVar 0) (aCons (eC (.ty "str")) aNil))) (eOp dEq (eVar 0) (eVar 1)))))))))
def f__law_alike : Nat → Fn
  | 0 => fun _ _ => none
  | k + 1 => runFn 3 2 (b__law_alike (f__law_alike k))
def b__law_most : SB := (sSeq (sSet 2 (eDt0)) (sSeq (sFor (setN 3) (iRange (aCons (eA dLen (aCons (eVar 0) aNil)) (aCons (eUn dNeg (eC (.int 1))) (aCons (eUn dNeg (eC (.int 1))) aNil)))) (sFor (setN 4) (iRange (aCons (eA dLen (aCons (eVar 1) aNil)) (aCons (eUn dNeg (eC (.int 1))) (aCons (eUn dNeg (eC (.int 1))) aNil)))) (sSeq (sSet 5 (eLst (aCons (eFz (eC (.int 0))) aNil))) (sSeq (sIf ((tAn (tVal (eOp dLt (eVar 3) (eA dLen (aCons (eVar 0) aNil)))) (tVal (eOp dLt (eVar 4) (eA dLen (aCons (eVar 1) aNil)))))) (sSet 5 (eLst (aCons (eFz (eOp dIxG (eVar 2) (eTup (aCons (eFz (eOp dAdd (eVar 3) (eC (.int 1)))) (aCons (eFz (eVar 4)) aNil))))) (aCons (eFz (eOp dIxG (eVar 2) (eTup (aCons (eFz (eVar 3)) (aCons (eFz (eOp dAdd (eVar 4) (eC (.int 1)))) aNil))))) (aCons (eFz (eOp dAdd (eOp dIxG (eVar 2) (eTup (aCons (eFz (eOp dAdd (eVar 3) (eC (.int 1)))) (aCons (eFz (eOp dAdd (eVar 4) (eC (.int 1)))) aNil)))) (eIf (tVal (eOp dEq (eOp dIxG (eVar 0) (eVar 3)) (eOp dIxG (eVar 1) (eVar 4)))) (eC (.int 1)) (eC (.int 0))))) aNil))))) (sNil)) (sPut 2 (eTup (aCons (eFz (eVar 3)) (aCons (eFz (eVar 4)) aNil))) (eA dMaxL (aCons (eVar 5) aNil))))))) (sRet (eVar 2))))
def f__law_most : Fn := runFn 6 2 (b__law_most)
def b__law_when : SB := (sSeq (sSet 2 (eLC [3] (setN 3) (iRange (aCons (eA dLen (aCons (eVar 0) aNil)) aNil)) (tVal (eOp dGt (eA dLen (aCons (eOp dIx (eOp dIx (eVar 0) (eVar 3)) (eC (.int 2))) aNil)) (eVar 1))) (eVar 3))) (sRet (eIf (tVal (eOp dNe (eVar 2) (eLst aNil))) (eOp dIx (eVar 2) (eC (.int 0))) (eC .non))))
def f__law_when : Fn := runFn 4 2 (b__law_when)
def b_when_told : SB := (sSeq (sSet 2 (eLC [3] (setN 3) (iRange (aCons (eA dLen (aCons (eVar 0) aNil)) aNil)) (tVal (eOp dGt (eA dLen (aCons (eOp dIx (eOp dIx (eVar 0) (eVar 3)) (eC (.int 2))) aNil)) (eVar 1))) (eVar 3))) (sRet (eIf (tVal (eOp dNe (eVar 2) (eLst aNil))) (eOp dIx (eVar 2) (eC (.int 0))) (eC .non))))
def f_when_told : Fn := runFn 4 2 (b_when_told)
def b__law_next : SB := (sSeq (sTick 0) (sSeq (sIf (tVal (eOp dGt (eWget 0 true) (eA dLen (aCons (eWget 0 false) aNil)))) (sRet (eC (.int 0))) (sNil)) (sRet (eOp dMod (eA dInt (aCons (eOp dIx (eWget 0 false) (eOp dSub (eWget 0 true) (eC (.int 1)))) aNil)) (eVar 1)))))
def f__law_next : Fn := runFn 2 2 (b__law_next)
def b_told_parting (f_when_told : Fn) : SB := (sSeq (sPar 2 3 (aCons (eOp dIx (eOp dIx (eVar 0) (eUn dNeg (eC (.int 1)))) (eC (.int 2))) (aCons (eOp dIx (eOp dIx (eVar 1) (eUn dNeg (eC (.int 1)))) (eC (.int 2))) aNil))) (sSeq (sFor (setN 4) (iRange (aCons (eA dMax2 (aCons (eA dLen (aCons (eVar 2) aNil)) (aCons (eA dLen (aCons (eVar 3) aNil)) aNil))) aNil)) (sIf (tVal (eOp dNe (eSl dSl (eVar 2) (oSome (eVar 4)) (oSome (eOp dAdd (eVar 4) (eC (.int 1))))) (eSl dSl (eVar 3) (oSome (eVar 4)) (oSome (eOp dAdd (eVar 4) (eC (.int 1))))))) (sRet (eTup (aCons (eFz (eCall f_when_told (aCons (eFz (eVar 0)) (aCons (eFz (eVar 4)) aNil)))) (aCons (eFz (eCall f_when_told (aCons (eFz (eVar 1)) (aCons (eFz (eVar 4)) aNil)))) aNil)))) (sNil))) (sRet (eC .non))))
def f_told_parting : Fn := runFn 5 2 (b_told_parting f_when_told)
def b_first_parting : SB := (sSeq (sFor (setN 2) (iRange (aCons (eA dMin2 (aCons (eA dLen (aCons (eVar 0) aNil)) (aCons (eA dLen (aCons (eVar 1) aNil)) aNil))) aNil)) (sIf (tVal (eOp dNe (eOp dIx (eVar 0) (eVar 2)) (eOp dIx (eVar 1) (eVar 2)))) (sRet (eVar 2)) (sNil))) (sRet (eC .non)))
def f_first_parting : Fn := runFn 3 2 (b_first_parting)
def b__law_inputs (f__law_next : Fn) : SB := (sRet (eA dTuple (aCons (eLC [1] (setN 1) (iRange (aCons (eCall f__law_next (aCons (eFz (eVar 0)) (aCons (eFz (eC (.int 4))) aNil))) aNil)) tYesD (eOp dSub (eCall f__law_next (aCons (eFz (eVar 0)) (aCons (eFz (eC (.int 5))) aNil))) (eC (.int 1)))) aNil)))
def f__law_inputs : Fn := runFn 2 1 (b__law_inputs f__law_next)
def b__law_pick (f__law_next : Fn) : SB := (sRet (eOp dIx (eVar 1) (eCall f__law_next (aCons (eFz (eVar 0)) (aCons (eFz (eA dLen (aCons (eVar 1) aNil))) aNil)))))
def f__law_pick : Fn := runFn 2 2 (b__law_pick f__law_next)
def b__law_frozen : SB := (sRet (eA dTuple (aCons (eLC [1] (setN 1) (iSeq (eA dSrtK (aCons (eVar 0) aNil))) (tVal (eOp dNe (eOp dIxG (eVar 0) (eVar 1)) (eC (.int 0)))) (eTup (aCons (eFz (eVar 1)) (aCons (eFz (eOp dIxG (eVar 0) (eVar 1))) aNil)))) aNil)))
def f__law_frozen : Fn := runFn 2 1 (b__law_frozen)
def b__law_worth (f__law_worth : Fn) : SB := (sSeq (sIf (tTru (eA dIsi (aCons (eVar 0) (aCons (eC (.ty "int")) aNil)))) (sRet (eVar 0)) (sNil)) (sSeq (sIf (tVal (eOp dEq (eOp dIx (eVar 0) (eC (.int 0))) (eC (.str "var")))) (sRet (eGet2 (eVar 1) (eOp dIx (eVar 0) (eC (.int 1))) (eC (.int 0)))) (sNil)) (sSeq (sSet 3 (eLC [4] (setN 4) (iSeq (eSl dSl (eVar 0) (oSome (eC (.int 1))) oNone)) tYesD (eCall f__law_worth (aCons (eFz (eVar 4)) (aCons (eFz (eVar 1)) (aCons (eFz (eVar 2)) aNil)))))) (sSeq (sIf (tVal (eOp dEq (eOp dIx (eVar 0) (eC (.int 0))) (eC (.str "cell")))) (sRet (eGet2 (eVar 2) (eOp dIx (eVar 3) (eC (.int 0))) (eC (.int 0)))) (sNil)) (sSeq (sIf (tVal (eOp dEq (eOp dIx (eVar 0) (eC (.int 0))) (eC (.str "not")))) (sRet (eIf (tVal (eOp dEq (eOp dIx (eVar 3) (eC (.int 0))) (eC (.int 0)))) (eC (.int 1)) (eC (.int 0)))) (sNil)) (sSeq (sIf (tVal (eOp (dInG false) (eOp dIx (eVar 0) (eC (.int 0))) (eTup (aCons (eFz (eC (.str "less"))) (aCons (eFz (eC (.str "same"))) aNil))))) (sRet (eIf ((tOrr ((tAn (tVal (eOp dLt (eOp dIx (eVar 3) (eC (.int 0))) (eOp dIx (eVar 3) (eC (.int 1))))) (tVal (eOp dEq (eOp dIx (eVar 0) (eC (.int 0))) (eC (.str "less")))))) ((tAn (tVal (eOp dEq (eOp dIx (eVar 3) (eC (.int 0))) (eOp dIx (eVar 3) (eC (.int 1))))) (tVal (eOp dEq (eOp dIx (eVar 0) (eC (.int 0))) (eC (.str "same")))))))) (eC (.int 1)) (eC (.int 0)))) (sNil)) (sRet (eIf (tVal (eOp dEq (eOp dIx (eVar 0) (eC (.int 0))) (eC (.str "add")))) (eOp dAdd (eOp dIx (eVar 3) (eC (.int 0))) (eOp dIx (eVar 3) (eC (.int 1)))) (eIf (tVal (eOp dEq (eOp dIx (eVar 0) (eC (.int 0))) (eC (.str "sub")))) (eOp dSub (eOp dIx (eVar 3) (eC (.int 0))) (eOp dIx (eVar 3) (eC (.int 1)))) (eOp dMul (eOp dIx (eVar 3) (eC (.int 0))) (eOp dIx (eVar 3) (eC (.int 1)))))))))))))
def f__law_worth : Nat → Fn
  | 0 => fun _ _ => none
  | k + 1 => runFn 5 3 (b__law_worth (f__law_worth k))
def b__law_step (f__law_frozen : Fn) (f__law_worth : Fn) : SB := (sSeq (sUnp (setT [3, 4, 5, 6]) (eVar 2)) (sSeq (sUnp (setT [7, 8, 9, 10]) (eOp dIxG (eVar 3) (eUn dNeg (eC (.int 1))))) (sSeq (sUnpO [11, 12, 13] (aCons (eOp dIxG (eOp dIxG (eVar 0) (eVar 7)) (eC (.int 1))) (aCons (eA dDict (aCons (eVar 9) aNil)) (aCons (eA dDict (aCons (eVar 4) aNil)) aNil)))) (sSeq (sSet 14 (eIf (tVal (eOp dLt (eVar 8) (eA dLen (aCons (eVar 11) aNil)))) (eOp dIxG (eOp dIxG (eVar 11) (eVar 8)) (eC (.int 1))) (eTup (aCons (eFz (eC (.str "give"))) (aCons (eFz (eC (.int 0))) aNil))))) (sSeq (sSet 15 (eOp dAdd (eVar 8) (eC (.int 1)))) (sSeq (sIf (tVal (eOp dEq (eOp dIxG (eVar 14) (eC (.int 0))) (eC (.str "give")))) (sSeq (sPar 16 3 (aCons (eCallL f__law_worth (aCons (eOp dIxG (eVar 14) (eC (.int 1))) (aCons (eVar 12) (aCons (eVar 13) aNil)))) (aCons (eSl dSl (eVar 3) oNone (oSome (eUn dNeg (eC (.int 1))))) aNil))) (sSeq (sIf (tVal (eOp dNe (eVar 3) (eTup aNil))) (sSeq (sSet 17 (eA dDict (aCons (eOp dIxG (eOp dIxG (eVar 3) (eUn dNeg (eC (.int 1)))) (eC (.int 2))) aNil))) (sSeq (sFrz [16] (sPut 17 (eVar 10) (eVar 16))) (sFrz [17] (sSet 3 (eOp dAdd (eSl dSl (eVar 3) oNone (oSome (eUn dNeg (eC (.int 1))))) (eTup (aCons (eFz (eTup (aCons (eFz (eOp dIxG (eOp dIxG (eVar 3) (eUn dNeg (eC (.int 1)))) (eC (.int 0)))) (aCons (eFz (eOp dAdd (eOp dIxG (eOp dIxG (eVar 3) (eUn dNeg (eC (.int 1)))) (eC (.int 1))) (eC (.int 1)))) (aCons (eFz (eCall f__law_frozen (aCons (eFz (eVar 17)) aNil))) (aCons (eFz (eOp dIxG (eOp dIxG (eVar 3) (eUn dNeg (eC (.int 1)))) (eC (.int 3)))) aNil)))))) aNil))))))) (sNil)) (sFrz [3, 5, 6] (sRet (eTup (aCons (eFz (eVar 3)) (aCons (eFz (eVar 4)) (aCons (eFz (eVar 5)) (aCons (eFz (eVar 6)) aNil))))))))) (sNil)) (sSeq (sIf (tVal (eOp dEq (eOp dIxG (eVar 14) (eC (.int 0))) (eC (.str "call")))) (sSeq (sSet 18 (eLC [20] (setN 20) (iSeq (eOp dIxG (eVar 14) (eC (.int 3)))) tYesD (eCallL f__law_worth (aCons (eVar 20) (aCons (eVar 12) (aCons (eVar 13) aNil)))))) (sSeq (sSet 19 (eOp dIxG (eOp dIxG (eVar 0) (eOp dIxG (eVar 14) (eC (.int 2)))) (eC (.int 0)))) (sFrz [5, 6] (sRet (eTup (aCons (eFz (eOp dAdd (eVar 3) (eTup (aCons (eFz (eTup (aCons (eFz (eOp dIxG (eVar 14) (eC (.int 2)))) (aCons (eFz (eC (.int 0))) (aCons (eFz (eCall f__law_frozen (aCons (eFz (eA dDict (aCons (eLC [21] (setN 21) (iRange (aCons (eA dLen (aCons (eVar 19) aNil)) aNil)) tYesD (eTup (aCons (eFz (eOp dIxG (eVar 19) (eVar 21))) (aCons (eFz (eOp dIxG (eVar 18) (eVar 21))) aNil)))) aNil))) aNil))) (aCons (eFz (eOp dIxG (eVar 14) (eC (.int 1)))) aNil)))))) aNil)))) (aCons (eFz (eVar 4)) (aCons (eFz (eVar 5)) (aCons (eFz (eVar 6)) aNil))))))))) (sNil)) (sSeq (sIf ((tOrr (tVal (eOp dEq (eOp dIxG (eVar 14) (eC (.int 0))) (eC (.str "go")))) ((tAn (tVal (eOp dEq (eOp dIxG (eVar 14) (eC (.int 0))) (eC (.str "if")))) (tVal (eOp dNe (eCallL f__law_worth (aCons (eOp dIxG (eVar 14) (eC (.int 1))) (aCons (eVar 12) (aCons (eVar 13) aNil)))) (eC (.int 0)))))))) (sSet 15 (eOp dIxG (eVar 14) (eUn dNeg (eC (.int 1))))) (sNil)) (sSeq (sIf (tVal (eOp dEq (eOp dIxG (eVar 14) (eC (.int 0))) (eC (.str "let")))) (sPut 12 (eOp dIxG (eVar 14) (eC (.int 1))) (eCallL f__law_worth (aCons (eOp dIxG (eVar 14) (eC (.int 2))) (aCons (eVar 12) (aCons (eVar 13) aNil))))) (sNil)) (sSeq (sIf (tVal (eOp dEq (eOp dIxG (eVar 14) (eC (.int 0))) (eC (.str "ask")))) (sUnpP 12 (eOp dIxG (eVar 14) (eC (.int 1))) 6 (eTup (aCons (eFz (eIf (tVal (eOp dLt (eVar 6) (eA dLen (aCons (eVar 1) aNil)))) (eOp dIxG (eVar 1) (eVar 6)) (eC (.int 0)))) (aCons (eFz (eOp dAdd (eVar 6) (eC (.int 1)))) aNil)))) (sNil)) (sSeq (sIf (tVal (eOp dEq (eOp dIxG (eVar 14) (eC (.int 0))) (eC (.str "put")))) (sPut 13 (eCallL f__law_worth (aCons (eOp dIxG (eVar 14) (eC (.int 1))) (aCons (eVar 12) (aCons (eVar 13) aNil)))) (eCallL f__law_worth (aCons (eOp dIxG (eVar 14) (eC (.int 2))) (aCons (eVar 12) (aCons (eVar 13) aNil))))) (sNil)) (sSeq (sIf (tVal (eOp dEq (eOp dIxG (eVar 14) (eC (.int 0))) (eC (.str "say")))) (sSet 5 (eOp dAdd (eVar 5) (eTup (aCons (eFz (eCallL f__law_worth (aCons (eOp dIxG (eVar 14) (eC (.int 1))) (aCons (eVar 12) (aCons (eVar 13) aNil))))) aNil)))) (sNil)) (sFrz [5, 6, 12, 13, 15] (sRet (eTup (aCons (eFz (eOp dAdd (eSl dSl (eVar 3) oNone (oSome (eUn dNeg (eC (.int 1))))) (eTup (aCons (eFz (eTup (aCons (eFz (eVar 7)) (aCons (eFz (eVar 15)) (aCons (eFz (eCall f__law_frozen (aCons (eFz (eVar 12)) aNil))) (aCons (eFz (eVar 10)) aNil)))))) aNil)))) (aCons (eFz (eCall f__law_frozen (aCons (eFz (eVar 13)) aNil))) (aCons (eFz (eVar 5)) (aCons (eFz (eVar 6)) aNil)))))))))))))))))))
def f__law_step : Fn := runFn 22 3 (b__law_step f__law_frozen (f__law_worth 40))
def b__law_run (f__law_step : Fn) : SB := (sSeq (sSet 3 (eLst (aCons (eFz (eTup (aCons (eFz (eTup (aCons (eFz (eTup (aCons (eFz (eC (.str "main"))) (aCons (eFz (eC (.int 0))) (aCons (eFz (eTup aNil)) (aCons (eFz (eC .non)) aNil)))))) aNil))) (aCons (eFz (eTup aNil)) (aCons (eFz (eTup aNil)) (aCons (eFz (eC (.int 0))) aNil)))))) aNil))) (sSeq (sWhile ((tAn (tVal (eOp dLe (eA dLen (aCons (eVar 3) aNil)) (eVar 2))) (tVal (eOp dNe (eOp dIx (eOp dIx (eVar 3) (eUn dNeg (eC (.int 1)))) (eC (.int 0))) (eTup aNil))))) (sApp 3 (eCall f__law_step (aCons (eFz (eVar 0)) (aCons (eFz (eVar 1)) (aCons (eFz (eOp dIx (eVar 3) (eUn dNeg (eC (.int 1))))) aNil))))) 100000) (sRet (eA dTuple (aCons (eVar 3) aNil)))))
def f__law_run : Fn := runFn 4 3 (b__law_run f__law_step)
def b__law_expr (f__law_expr : Fn) (f__law_pick : Fn) (f__law_next : Fn) : SB := (sSeq (sSet 2 (eIf (tVal (eOp dGt (eVar 1) (eC (.int 0)))) (eCall f__law_next (aCons (eFz (eVar 0)) (aCons (eFz (eC (.int 9))) aNil))) (eCall f__law_next (aCons (eFz (eVar 0)) (aCons (eFz (eC (.int 4))) aNil))))) (sSeq (sIf (tVal (eOp dLt (eVar 2) (eC (.int 2)))) (sRet (eOp dSub (eCall f__law_next (aCons (eFz (eVar 0)) (aCons (eFz (eC (.int 5))) aNil))) (eC (.int 1)))) (sNil)) (sSeq (sIf (tVal (eOp dLt (eVar 2) (eC (.int 4)))) (sRet (eTup (aCons (eFz (eC (.str "var"))) (aCons (eFz (eCall f__law_pick (aCons (eFz (eVar 0)) (aCons (eFz (eLst (aCons (eFz (eC (.str "x"))) (aCons (eFz (eC (.str "y"))) (aCons (eFz (eC (.str "n"))) aNil))))) aNil)))) aNil)))) (sNil)) (sSeq (sIf (tVal (eOp dLt (eVar 2) (eC (.int 6)))) (sRet (eTup (aCons (eFz (eCall f__law_pick (aCons (eFz (eVar 0)) (aCons (eFz (eLst (aCons (eFz (eC (.str "cell"))) (aCons (eFz (eC (.str "not"))) aNil)))) aNil)))) (aCons (eFz (eCall f__law_expr (aCons (eFz (eVar 0)) (aCons (eFz (eOp dSub (eVar 1) (eC (.int 1)))) aNil)))) aNil)))) (sNil)) (sRet (eTup (aCons (eFz (eCall f__law_pick (aCons (eFz (eVar 0)) (aCons (eFz (eLst (aCons (eFz (eC (.str "add"))) (aCons (eFz (eC (.str "sub"))) (aCons (eFz (eC (.str "less"))) (aCons (eFz (eC (.str "same"))) (aCons (eFz (eC (.str "add"))) (aCons (eFz (eC (.str "sub"))) aNil)))))))) aNil)))) (aCons (eFz (eCall f__law_expr (aCons (eFz (eVar 0)) (aCons (eFz (eOp dSub (eVar 1) (eC (.int 1)))) aNil)))) (aCons (eFz (eCall f__law_expr (aCons (eFz (eVar 0)) (aCons (eFz (eOp dSub (eVar 1) (eC (.int 1)))) aNil)))) aNil)))))))))
def f__law_expr : Nat → Fn
  | 0 => fun _ _ => none
  | k + 1 => runFn 3 2 (b__law_expr (f__law_expr k) f__law_pick f__law_next)
def b__law_op (f__law_expr : Fn) (f__law_next : Fn) (f__law_pick : Fn) : SB := (sSeq (sPar 3 4 (aCons (eCall f__law_next (aCons (eFz (eVar 0)) (aCons (eFz (eC (.int 10))) aNil))) (aCons (eCall f__law_pick (aCons (eFz (eVar 0)) (aCons (eFz (eLst (aCons (eFz (eC (.str "x"))) (aCons (eFz (eC (.str "y"))) (aCons (eFz (eC (.str "n"))) aNil))))) aNil))) aNil))) (sSeq (sIf (tVal (eOp dLt (eVar 3) (eC (.int 3)))) (sFrz [4] (sRet (eTup (aCons (eFz (eC (.str "let"))) (aCons (eFz (eVar 4)) (aCons (eFz (eCall f__law_expr (aCons (eFz (eVar 0)) (aCons (eFz (eC (.int 2))) aNil)))) aNil)))))) (sNil)) (sSeq (sIf (tVal (eOp dEq (eVar 3) (eC (.int 3)))) (sRet (eTup (aCons (eFz (eC (.str "put"))) (aCons (eFz (eCall f__law_next (aCons (eFz (eVar 0)) (aCons (eFz (eC (.int 3))) aNil)))) (aCons (eFz (eCall f__law_expr (aCons (eFz (eVar 0)) (aCons (eFz (eC (.int 1))) aNil)))) aNil))))) (sNil)) (sSeq (sIf (tVal (eOp dEq (eVar 3) (eC (.int 4)))) (sRet (eTup (aCons (eFz (eC (.str "if"))) (aCons (eFz (eCall f__law_expr (aCons (eFz (eVar 0)) (aCons (eFz (eC (.int 1))) aNil)))) (aCons (eFz (eCall f__law_next (aCons (eFz (eVar 0)) (aCons (eFz (eOp dAdd (eVar 1) (eC (.int 1)))) aNil)))) aNil))))) (sNil)) (sSeq (sIf ((tAn (tVal (eOp dEq (eVar 3) (eC (.int 5)))) (tVal (eOp dNe (eVar 2) (eLst aNil))))) (sFrz [4] (sRet (eTup (aCons (eFz (eC (.str "call"))) (aCons (eFz (eVar 4)) (aCons (eFz (eOp dIx (eVar 2) (eC (.int 0)))) (aCons (eFz (eTup (aCons (eFz (eCall f__law_expr (aCons (eFz (eVar 0)) (aCons (eFz (eC (.int 1))) aNil)))) aNil))) aNil))))))) (sNil)) (sSeq (sIf (tVal (eOp dEq (eVar 3) (eC (.int 6)))) (sFrz [4] (sRet (eTup (aCons (eFz (eC (.str "ask"))) (aCons (eFz (eVar 4)) aNil))))) (sNil)) (sSeq (sIf (tVal (eOp dEq (eVar 3) (eC (.int 7)))) (sRet (eCall f__law_pick (aCons (eFz (eVar 0)) (aCons (eFz (eLst (aCons (eFz (eTup (aCons (eFz (eC (.str "give"))) (aCons (eFz (eCall f__law_expr (aCons (eFz (eVar 0)) (aCons (eFz (eC (.int 1))) aNil)))) aNil)))) (aCons (eFz (eTup (aCons (eFz (eC (.str "go"))) (aCons (eFz (eCall f__law_next (aCons (eFz (eVar 0)) (aCons (eFz (eOp dAdd (eVar 1) (eC (.int 1)))) aNil)))) aNil)))) aNil)))) aNil)))) (sNil)) (sRet (eTup (aCons (eFz (eC (.str "say"))) (aCons (eFz (eCall f__law_expr (aCons (eFz (eVar 0)) (aCons (eFz (eC (.int 1))) aNil)))) aNil)))))))))))
def f__law_op : Fn := runFn 5 3 (b__law_op (f__law_expr 40) f__law_next f__law_pick)
def b__law_program (f__law_next : Fn) (f__law_op : Fn) : SB := (sSeq (sPar 1 2 (aCons (eDk0) (aCons (eSl dSl (eLst (aCons (eFz (eC (.str "main"))) (aCons (eFz (eC (.str "f"))) (aCons (eFz (eC (.str "g"))) aNil)))) oNone (oSome (eOp dAdd (eC (.int 1)) (eCall f__law_next (aCons (eFz (eVar 0)) (aCons (eFz (eC (.int 3))) aNil)))))) aNil))) (sSeq (sFor (setN 3) (iRange (aCons (eA dLen (aCons (eVar 2) aNil)) aNil)) (sSeq (sUnpO [5, 6, 7] (aCons (eOp dAdd (eC (.int 1)) (eCall f__law_next (aCons (eFz (eVar 0)) (aCons (eFz (eC (.int 6))) aNil)))) (aCons (eOp dAdd (eC (.int 1)) (eOp dMul (eC (.int 20)) (eVar 3))) (aCons (eLst aNil) aNil)))) (sSeq (sFor (setN 4) (iRange (aCons (eVar 5) aNil)) (sSeq (sFrz [5, 6] (sApp 7 (eTup (aCons (eFz (eVar 6)) (aCons (eFz (eCall f__law_op (aCons (eFz (eVar 0)) (aCons (eFz (eVar 5)) (aCons (eFz (eIf (tVal (eOp dGt (eCall f__law_next (aCons (eFz (eVar 0)) (aCons (eFz (eC (.int 6))) aNil))) (eC (.int 0)))) (eSl dSl (eVar 2) (oSome (eOp dAdd (eVar 3) (eC (.int 1)))) oNone) (eSl dSl (eVar 2) (oSome (eA dMax2 (aCons (eVar 3) (aCons (eC (.int 1)) aNil)))) oNone))) aNil))))) aNil))))) (sAug 6 dAddI (eCall f__law_next (aCons (eFz (eVar 0)) (aCons (eFz (eC (.int 3))) aNil)))))) (sPut 1 (eOp dIx (eVar 2) (eVar 3)) (eTup (aCons (eFz (eIf (tVal (eOp dEq (eVar 3) (eC (.int 0)))) (eTup aNil) (eTup (aCons (eFz (eC (.str "x"))) aNil)))) (aCons (eFz (eA dTuple (aCons (eVar 7) aNil))) aNil))))))) (sSeq (sIf (tVal (eOp dEq (eCall f__law_next (aCons (eFz (eVar 0)) (aCons (eFz (eC (.int 3))) aNil))) (eC (.int 0)))) (sPut 1 (eC (.str "main")) (eTup (aCons (eFz (eTup aNil)) (aCons (eFz (eTup (aCons (eFz (eTup (aCons (eFz (eC (.int 1))) (aCons (eFz (eTup (aCons (eFz (eC (.str "ask"))) (aCons (eFz (eC (.str "n"))) aNil)))) aNil)))) (aCons (eFz (eTup (aCons (eFz (eC (.int 2))) (aCons (eFz (eTup (aCons (eFz (eC (.str "if"))) (aCons (eFz (eTup (aCons (eFz (eC (.str "not"))) (aCons (eFz (eTup (aCons (eFz (eC (.str "var"))) (aCons (eFz (eC (.str "n"))) aNil)))) aNil)))) (aCons (eFz (eC (.int 6))) aNil))))) aNil)))) (aCons (eFz (eTup (aCons (eFz (eC (.int 3))) (aCons (eFz (eTup (aCons (eFz (eC (.str "let"))) (aCons (eFz (eC (.str "x"))) (aCons (eFz (eTup (aCons (eFz (eC (.str "add"))) (aCons (eFz (eTup (aCons (eFz (eC (.str "var"))) (aCons (eFz (eC (.str "x"))) aNil)))) (aCons (eFz (eTup (aCons (eFz (eC (.str "var"))) (aCons (eFz (eC (.str "n"))) aNil)))) aNil))))) aNil))))) aNil)))) (aCons (eFz (eTup (aCons (eFz (eC (.int 4))) (aCons (eFz (eTup (aCons (eFz (eC (.str "let"))) (aCons (eFz (eC (.str "n"))) (aCons (eFz (eTup (aCons (eFz (eC (.str "sub"))) (aCons (eFz (eTup (aCons (eFz (eC (.str "var"))) (aCons (eFz (eC (.str "n"))) aNil)))) (aCons (eFz (eC (.int 1))) aNil))))) aNil))))) aNil)))) (aCons (eFz (eTup (aCons (eFz (eC (.int 5))) (aCons (eFz (eTup (aCons (eFz (eC (.str "put"))) (aCons (eFz (eC (.int 1))) (aCons (eFz (eTup (aCons (eFz (eC (.str "var"))) (aCons (eFz (eC (.str "x"))) aNil)))) aNil))))) aNil)))) (aCons (eFz (eTup (aCons (eFz (eC (.int 5))) (aCons (eFz (eTup (aCons (eFz (eC (.str "go"))) (aCons (eFz (eC (.int 1))) aNil)))) aNil)))) (aCons (eFz (eTup (aCons (eFz (eC (.int 6))) (aCons (eFz (eTup (aCons (eFz (eC (.str "say"))) (aCons (eFz (eTup (aCons (eFz (eC (.str "var"))) (aCons (eFz (eC (.str "x"))) aNil)))) aNil)))) aNil)))) aNil))))))))) aNil)))) (sNil)) (sRet (eVar 1)))))
def f__law_program : Fn := runFn 8 1 (b__law_program f__law_next f__law_op)
def b_law (f_side_by_side : Fn) (f__law_alike : Fn) (f__law_most : Fn) (f__law_when : Fn) (f_when_told : Fn) (f__law_next : Fn) (f_told_parting : Fn) (f_first_parting : Fn) (f__law_inputs : Fn) (f__law_pick : Fn) (f__law_run : Fn) (f__law_program : Fn) : SB := (sSeq (sFor (setN 2) (iRange (aCons (eC (.int 5)) aNil)) (sSeq (sFrz [1] (sPar 9 10 (aCons (eCall f__law_program (aCons (eFz (eVar 1)) aNil)) (aCons (eCall f__law_inputs (aCons (eFz (eVar 1)) aNil)) aNil)))) (sSeq (sUnp (setT [11, 12]) (eOp dIxG (eVar 9) (eC (.str "main")))) (sSeq (sFrz [1] (sSet 3 (eCall f__law_next (aCons (eFz (eVar 1)) (aCons (eFz (eA dLen (aCons (eVar 12) aNil))) aNil))))) (sSeq (sFrz [1] (sSet 4 (eA dDict (aCons (eOp dAdd (eItm (eVar 9)) (eLst (aCons (eFz (eTup (aCons (eFz (eC (.str "main"))) (aCons (eFz (eTup (aCons (eFz (eVar 11)) (aCons (eFz (eOp dAdd (eOp dAdd (eSl dSl (eVar 12) oNone (oSome (eVar 3))) (eTup (aCons (eFz (eTup (aCons (eFz (eC (.int 9))) (aCons (eFz (eCall f__law_pick (aCons (eFz (eVar 1)) (aCons (eFz (eLst (aCons (eFz (eTup (aCons (eFz (eC (.str "say"))) (aCons (eFz (eC (.int 1))) aNil)))) (aCons (eFz (eTup (aCons (eFz (eC (.str "let"))) (aCons (eFz (eC (.str "x"))) (aCons (eFz (eC (.int 2))) aNil))))) (aCons (eFz (eTup (aCons (eFz (eC (.str "go"))) (aCons (eFz (eOp dAdd (eVar 3) (eC (.int 1)))) aNil)))) aNil))))) aNil)))) aNil)))) aNil))) (eSl dSl (eVar 12) (oSome (eOp dAdd (eVar 3) (eC (.int 1)))) oNone))) aNil)))) aNil)))) aNil))) aNil)))) (sSeq (sFrz [1, 9, 10] (sSet 5 (eCall f__law_run (aCons (eFz (eVar 9)) (aCons (eFz (eVar 10)) (aCons (eFz (eOp dAdd (eC (.int 3)) (eCall f__law_next (aCons (eFz (eVar 1)) (aCons (eFz (eC (.int 22))) aNil))))) aNil)))))) (sSeq (sFrz [1, 4, 9, 10] (sSet 6 (eCall f__law_run (aCons (eFz (eCall f__law_pick (aCons (eFz (eVar 1)) (aCons (eFz (eLst (aCons (eFz (eVar 9)) (aCons (eFz (eVar 4)) aNil)))) aNil)))) (aCons (eFz (eCall f__law_pick (aCons (eFz (eVar 1)) (aCons (eFz (eLst (aCons (eFz (eVar 10)) (aCons (eFz (eCall f__law_inputs (aCons (eFz (eVar 1)) aNil))) aNil)))) aNil)))) (aCons (eFz (eOp dAdd (eC (.int 3)) (eCall f__law_next (aCons (eFz (eVar 1)) (aCons (eFz (eC (.int 22))) aNil))))) aNil)))))) (sSeq (sFrz [8] (sSet 7 (eLC [8] (setN 8) (iRange (aCons (eA dMin2 (aCons (eA dLen (aCons (eVar 5) aNil)) (aCons (eA dLen (aCons (eVar 6) aNil)) aNil))) aNil)) (tVal (eOp dNe (eOp dIxG (eVar 5) (eVar 8)) (eOp dIxG (eVar 6) (eVar 8)))) (eVar 8)))) (sSeq (sFrz [5, 6] (sIf (tNo (tTru (eCall f__law_alike (aCons (eFz (eCall f_first_parting (aCons (eFz (eVar 5)) (aCons (eFz (eVar 6)) aNil)))) (aCons (eFz (eIf (tVal (eOp dNe (eVar 7) (eLst aNil))) (eOp dIxG (eVar 7) (eC (.int 0))) (eC .non))) aNil))))) (sRet (eC (.bl false))) (sNil))) (sSeq (sUnp (setT [13, 14]) (eTup (aCons (eFz (eOp dIxG (eOp dIxG (eVar 5) (eUn dNeg (eC (.int 1)))) (eC (.int 2)))) (aCons (eFz (eOp dIxG (eOp dIxG (eVar 6) (eUn dNeg (eC (.int 1)))) (eC (.int 2)))) aNil)))) (sSeq (sFrz [8] (sSet 7 (eLC [8] (setN 8) (iRange (aCons (eA dMax2 (aCons (eA dLen (aCons (eVar 13) aNil)) (aCons (eA dLen (aCons (eVar 14) aNil)) aNil))) aNil)) (tVal (eOp dNe (eSl dSl (eVar 13) (oSome (eVar 8)) (oSome (eOp dAdd (eVar 8) (eC (.int 1))))) (eSl dSl (eVar 14) (oSome (eVar 8)) (oSome (eOp dAdd (eVar 8) (eC (.int 1))))))) (eVar 8)))) (sSeq (sFrz [5, 6] (sIf (tNo (tTru (eCall f__law_alike (aCons (eFz (eCall f_told_parting (aCons (eFz (eVar 5)) (aCons (eFz (eVar 6)) aNil)))) (aCons (eFz (eIf (tVal (eOp dNe (eVar 7) (eLst aNil))) (eTup (aCons (eFz (eCall f__law_when (aCons (eFz (eVar 5)) (aCons (eFz (eOp dIxG (eVar 7) (eC (.int 0)))) aNil)))) (aCons (eFz (eCall f__law_when (aCons (eFz (eVar 6)) (aCons (eFz (eOp dIxG (eVar 7) (eC (.int 0)))) aNil)))) aNil))) (eC .non))) aNil))))) (sRet (eC (.bl false))) (sNil))) (sSeq (sFrz [1] (sSet 8 (eCall f__law_next (aCons (eFz (eVar 1)) (aCons (eFz (eC (.int 4))) aNil))))) (sSeq (sFrz [5, 8] (sIf (tNo (tTru (eCall f__law_alike (aCons (eFz (eCall f_when_told (aCons (eFz (eVar 5)) (aCons (eFz (eVar 8)) aNil)))) (aCons (eFz (eCall f__law_when (aCons (eFz (eVar 5)) (aCons (eFz (eVar 8)) aNil)))) aNil))))) (sRet (eC (.bl false))) (sNil))) (sSeq (sPar 15 16 (aCons (eLC [21] (setN 21) (iSeq (eVar 5)) (tVal (eOp dNe (eOp dIxG (eVar 21) (eC (.int 0))) (eTup aNil))) (eSl dSl (eOp dIxG (eOp dIxG (eVar 21) (eC (.int 0))) (eUn dNeg (eC (.int 1)))) oNone (oSome (eC (.int 2))))) (aCons (eLC [21] (setN 21) (iSeq (eVar 6)) (tVal (eOp dNe (eOp dIxG (eVar 21) (eC (.int 0))) (eTup aNil))) (eSl dSl (eOp dIxG (eOp dIxG (eVar 21) (eC (.int 0))) (eUn dNeg (eC (.int 1)))) oNone (oSome (eC (.int 2))))) aNil))) (sSeq (sFrz [15, 16] (sUnpO [17, 18, 19, 20] (aCons (eCall f__law_most (aCons (eFz (eVar 15)) (aCons (eFz (eVar 16)) aNil))) (aCons (eC (.int 0)) (aCons (eC (.int 0)) (aCons (eLst aNil) aNil)))))) (sSeq (sWhile ((tAn (tVal (eOp dLt (eVar 18) (eA dLen (aCons (eVar 15) aNil)))) (tVal (eOp dLt (eVar 19) (eA dLen (aCons (eVar 16) aNil)))))) (sIf (tVal (eOp dEq (eOp dIxG (eVar 15) (eVar 18)) (eOp dIxG (eVar 16) (eVar 19)))) (sFrz [18, 19] (sUnpO [18, 19, 20] (aCons (eOp dAdd (eVar 18) (eC (.int 1))) (aCons (eOp dAdd (eVar 19) (eC (.int 1))) (aCons (eOp dAdd (eVar 20) (eLst (aCons (eFz (eTup (aCons (eFz (eVar 18)) (aCons (eFz (eVar 19)) aNil)))) aNil))) aNil))))) (sFrz [18, 19] (sIf (tVal (eOp dGe (eOp dIxG (eVar 17) (eTup (aCons (eFz (eOp dAdd (eVar 18) (eC (.int 1)))) (aCons (eFz (eVar 19)) aNil)))) (eOp dIxG (eVar 17) (eTup (aCons (eFz (eVar 18)) (aCons (eFz (eOp dAdd (eVar 19) (eC (.int 1)))) aNil)))))) (sAug 18 dAddI (eC (.int 1))) (sAug 19 dAddI (eC (.int 1)))))) 100000) (sFrz [5, 6] (sIf ((tOrr (tVal (eOp dNe (eA dLen (aCons (eVar 20) aNil)) (eOp dIxG (eVar 17) (eTup (aCons (eFz (eC (.int 0))) (aCons (eFz (eC (.int 0))) aNil)))))) (tNo (tTru (eCall f__law_alike (aCons (eFz (eCall f_side_by_side (aCons (eFz (eVar 5)) (aCons (eFz (eVar 6)) aNil)))) (aCons (eFz (eA dTuple (aCons (eVar 20) aNil))) aNil))))))) (sRet (eC (.bl false))) (sNil)))))))))))))))))))) (sRet (eC (.bl true))))
end Kk42

set_option Elab.async false
set_option linter.all false
set_option maxRecDepth 100000
set_option maxHeartbeats 4000000
namespace Kk42
open PySem PySem.Spec PyProof.Rows L2 Dl
/-! ### the text -/
def topS (i : Nat) : Stmt := PySem.Challenge.pw_stepswatched_k42_runs_side_by_side.main.body.getD i (.Pass ⟨0, 0, 0, 0⟩)
structure TX (K : PySem.W.Frag) (w : World) (mg : Str → Option Value) : Prop where
  «range» : mg "range" = none
  «int» : mg "int" = none
  «len» : mg "len" = none
  «abs» : mg "abs" = none
  «tuple» : mg "tuple" = none
  «max» : mg "max" = none
  «str» : mg "str" = none
  «isinstance» : mg "isinstance" = none
  «bool» : mg "bool" = none
  «min» : mg "min" = none
  «sorted» : mg "sorted" = none
  «dict» : mg "dict" = none
  «list» : mg "list" = none
/-- a def as callers have it -/
def Cal (P : Program) (w : World) (K : PySem.W.Frag) (mg : Str → Option Value) (base : Heap) (k : Nat) (x : Str) (f : Addr) (fd : FuncData) (ps : List Str) (G : Fn) : Prop := FnOk P w K mg base CX0 k f fd ps (spD (KW.mk K w) G) ∧ mg x = some (.ref f) ∧ PySem.W.keepIn K (.ref f) = true ∧ Binds K fd ps []
theorem Cal.up {P : Program} {w : World} {K : PySem.W.Frag} {mg : Str → Option Value} {base : Heap} {j : Nat} {x : Str} {f : Addr} {fd : FuncData} {ps : List Str} {G : Fn} (h : Cal P w K mg base j x f fd ps G) {k : Nat} (hk : j ≤ k) : Cal P w K mg base k x f fd ps G := ⟨h.1.mono hk, h.2⟩
/-- a def as the top has left it -/
def Def0 (K : PySem.W.Frag) (mg : Str → Option Value) (x : Str) (st : Stmt) (f : Addr) (fd : FuncData) (ps : List Str) : Prop := Fun K x x st f fd ∧ mg x = some (.ref f) ∧ Binds K fd ps []
abbrev s__law_draws : Stmt := topS 8
theorem sc__law_draws : FnScope ["script", "many", "draws", "mixed", "k", "cell", "rest", "turn"] ["script", "many"] (defScope s__law_draws) := ⟨rfl, rfl, rfl, by decide +kernel, rfl, by decide +kernel, by decide +kernel⟩
abbrev s_walk_table : Stmt := topS 6
theorem sc_walk_table : FnScope ["spots", "others", "table", "found", "i", "j"] ["spots", "others", "table"] (defScope s_walk_table) := ⟨rfl, rfl, rfl, by decide +kernel, rfl, by decide +kernel, by decide +kernel⟩
abbrev s_spots_of : Stmt := topS 5
theorem sc_spots_of : FnScope ["run", "state"] ["run"] (defScope s_spots_of) := ⟨rfl, rfl, rfl, by decide +kernel, rfl, by decide +kernel, by decide +kernel⟩
abbrev s_side_by_side : Stmt := topS 4
theorem sc_side_by_side : FnScope ["one", "other", "spots", "others", "table", "i", "j"] ["one", "other"] (defScope s_side_by_side) := ⟨rfl, rfl, rfl, by decide +kernel, rfl, by decide +kernel, by decide +kernel⟩
abbrev s__law_alike : Stmt := topS 11
theorem sc__law_alike : FnScope ["given", "due", "k"] ["given", "due"] (defScope s__law_alike) := ⟨rfl, rfl, rfl, by decide +kernel, rfl, by decide +kernel, by decide +kernel⟩
abbrev s__law_most : Stmt := topS 21
theorem sc__law_most : FnScope ["one", "other", "table", "i", "j", "best"] ["one", "other"] (defScope s__law_most) := ⟨rfl, rfl, rfl, by decide +kernel, rfl, by decide +kernel, by decide +kernel⟩
abbrev s__law_when : Stmt := topS 20
theorem sc__law_when : FnScope ["run", "k", "able", "j"] ["run", "k"] (defScope s__law_when) := ⟨rfl, rfl, rfl, by decide +kernel, rfl, by decide +kernel, by decide +kernel⟩
abbrev s_when_told : Stmt := topS 3
theorem sc_when_told : FnScope ["run", "k", "able", "n"] ["run", "k"] (defScope s_when_told) := ⟨rfl, rfl, rfl, by decide +kernel, rfl, by decide +kernel, by decide +kernel⟩
abbrev s__law_next : Stmt := topS 9
theorem sc__law_next : FnScope ["w", "many"] ["w", "many"] (defScope s__law_next) := ⟨rfl, rfl, rfl, by decide +kernel, rfl, by decide +kernel, by decide +kernel⟩
abbrev s_told_parting : Stmt := topS 2
theorem sc_told_parting : FnScope ["one", "other", "first", "second", "k"] ["one", "other"] (defScope s_told_parting) := ⟨rfl, rfl, rfl, by decide +kernel, rfl, by decide +kernel, by decide +kernel⟩
abbrev s_first_parting : Stmt := topS 1
theorem sc_first_parting : FnScope ["one", "other", "k"] ["one", "other"] (defScope s_first_parting) := ⟨rfl, rfl, rfl, by decide +kernel, rfl, by decide +kernel, by decide +kernel⟩
abbrev s__law_inputs : Stmt := topS 19
theorem sc__law_inputs : FnScope ["w", "k"] ["w"] (defScope s__law_inputs) := ⟨rfl, rfl, rfl, by decide +kernel, rfl, by decide +kernel, by decide +kernel⟩
abbrev s__law_pick : Stmt := topS 10
theorem sc__law_pick : FnScope ["w", "rows"] ["w", "rows"] (defScope s__law_pick) := ⟨rfl, rfl, rfl, by decide +kernel, rfl, by decide +kernel, by decide +kernel⟩
abbrev s__law_frozen : Stmt := topS 14
theorem sc__law_frozen : FnScope ["table", "key"] ["table"] (defScope s__law_frozen) := ⟨rfl, rfl, rfl, by decide +kernel, rfl, by decide +kernel, by decide +kernel⟩
abbrev s__law_worth : Stmt := topS 12
theorem sc__law_worth : FnScope ["expr", "variables", "cells", "parts", "part"] ["expr", "variables", "cells"] (defScope s__law_worth) := ⟨rfl, rfl, rfl, by decide +kernel, rfl, by decide +kernel, by decide +kernel⟩
abbrev s__law_step : Stmt := topS 15
theorem sc__law_step : FnScope ["program", "inputs", "state", "frames", "cells", "told", "asked", "name", "place", "variables", "wants", "code", "own", "shared", "op", "later", "number", "below", "args", "params", "part", "k"] ["program", "inputs", "state"] (defScope s__law_step) := ⟨rfl, rfl, rfl, by decide +kernel, rfl, by decide +kernel, by decide +kernel⟩
abbrev s__law_run : Stmt := topS 16
theorem sc__law_run : FnScope ["program", "inputs", "most", "found"] ["program", "inputs", "most"] (defScope s__law_run) := ⟨rfl, rfl, rfl, by decide +kernel, rfl, by decide +kernel, by decide +kernel⟩
abbrev s__law_expr : Stmt := topS 13
theorem sc__law_expr : FnScope ["w", "deep", "kind"] ["w", "deep"] (defScope s__law_expr) := ⟨rfl, rfl, rfl, by decide +kernel, rfl, by decide +kernel, by decide +kernel⟩
abbrev s__law_op : Stmt := topS 17
theorem sc__law_op : FnScope ["w", "many", "names", "kind", "v"] ["w", "many", "names"] (defScope s__law_op) := ⟨rfl, rfl, rfl, by decide +kernel, rfl, by decide +kernel, by decide +kernel⟩
abbrev s__law_program : Stmt := topS 18
theorem sc__law_program : FnScope ["w", "found", "names", "k", "j", "many", "row", "code"] ["w"] (defScope s__law_program) := ⟨rfl, rfl, rfl, by decide +kernel, rfl, by decide +kernel, by decide +kernel⟩
abbrev s_law : Stmt := topS 22
theorem sc_law : FnScope ["script", "w", "turn", "at", "bent", "one", "other", "unlike", "k", "program", "inputs", "params", "code", "first", "second", "spots", "others", "table", "i", "j", "due", "state"] ["script"] (defScope s_law) := ⟨rfl, rfl, rfl, by decide +kernel, rfl, by decide +kernel, by decide +kernel⟩
theorem d__law_draws {P : Program} {w : World} {K : PySem.W.Frag} {mg : Str → Option Value} {base : Heap} {k : Nat} {f : Addr} {fd : FuncData} (TX : TX K w mg) (D0 : Def0 K mg "_law_draws" s__law_draws f fd ["script", "many"]) : Cal P w K mg base (k + 1) "_law_draws" f fd ["script", "many"] (runFn 8 2 (b__law_draws)) :=
  ⟨fn_d (N := ["script", "many", "draws", "mixed", "k", "cell", "rest", "turn"]) (g := b__law_draws) D0.1 sc__law_draws (by decide) fun cdv A outer s H E hr => (show SndSs (cxOf CX0 P w K mg base ["script", "many", "draws", "mixed", "k", "cell", "rest", "turn"] "_law_draws" (defScope s__law_draws) f cdv A outer s H E).nox (defBody s__law_draws) (b__law_draws) from (ss_cons (s_set 2 sc__law_draws.nd rfl (by first | exact .inl rfl | exact .inr rfl) (e_lst a_nil)) (ss_cons (s_set 3 sc__law_draws.nd rfl (by first | exact .inl rfl | exact .inr rfl) (e_int)) (ss_cons (s_for PassesOwn.never rfl (SndI.x (i_range1 (by rfl) TX.range (a_cons (e_callB call_len sLen (by rfl) TX.len (by decide +kernel) (a_cons (e_var 0) a_nil)) a_nil) (hone := a1_len))) (g_name 4 sc__law_draws.nd rfl (by first | exact .inl rfl | exact .inr rfl)) (ss_cons (s_set 5 sc__law_draws.nd rfl (by first | exact .inl rfl | exact .inr rfl) (e_callB call_abs sAbs (by rfl) TX.abs (by decide +kernel) (a_cons (e_callTy call_int1 sInt (by rfl) TX.int (by decide +kernel) (a_cons (e_ix ix_seq sIx (e_var 0) (e_var 4)) a_nil)) a_nil))) (ss_cons (s_set 3 sc__law_draws.nd rfl (by first | exact .inl rfl | exact .inr rfl) (e_op op_mod sMod (e_callTy call_int1 sInt (by rfl) TX.int (by decide +kernel) (a_cons (e_op op_addG sAdd (e_op op_addG sAdd (e_op op_mul sMul (e_var 3) (e_int)) (e_op op_mod sMod (e_var 5) (e_int))) (e_var 4)) a_nil)) (e_int))) (ss_cons (s_set 6 sc__law_draws.nd rfl (by first | exact .inl rfl | exact .inr rfl) (e_int)) (ss_cons (s_if (t_cmp op_ge sGe (nomark _) (e_var 5) (e_op op_pow sPow (e_int) (e_int))) (ss_one (s_set 6 sc__law_draws.nd rfl (by first | exact .inl rfl | exact .inr rfl) (e_var 5))) (ss_cons (s_app 2 (pv 2) (e_op op_mod sMod (e_callTy call_int1 sInt (by rfl) TX.int (by decide +kernel) (a_cons (e_var 5) a_nil)) (e_int))) (ss_one (s_app 2 (pv 2) (e_op op_mod sMod (e_op op_mod sMod (e_callTy call_int1 sInt (by rfl) TX.int (by decide +kernel) (a_cons (e_op op_addG sAdd (e_op op_mul sMul (e_var 3) (e_int)) (e_int)) a_nil)) (e_int)) (e_int)))))) (ss_one (s_for PassesOwn.never rfl (SndI.x (i_range1 (by rfl) TX.range (a_cons (e_int) a_nil) (hone := a1_len))) (g_name 7 sc__law_draws.nd rfl (by first | exact .inl rfl | exact .inr rfl)) (ss_one (s_if (t_cmp op_gt sGt (nomark _) (e_var 6) (e_int)) (ss_cons (s_app 2 (pv 2) (e_op op_mod sMod (e_callTy call_int1 sInt (by rfl) TX.int (by decide +kernel) (a_cons (e_var 6) a_nil)) (e_int))) (ss_one (s_set 6 sc__law_draws.nd rfl (by first | exact .inl rfl | exact .inr rfl) (e_op op_fdiv sFdiv (e_var 6) (e_int))))) ss_nil))))))))) (ss_cons (s_for PassesOwn.never rfl (SndI.x (i_range1 (by rfl) TX.range (a_cons (e_var 1) a_nil) (hone := a1_len))) (g_name 4 sc__law_draws.nd rfl (by first | exact .inl rfl | exact .inr rfl)) (ss_cons (s_set 3 sc__law_draws.nd rfl (by first | exact .inl rfl | exact .inr rfl) (e_op op_mod sMod (e_callTy call_int1 sInt (by rfl) TX.int (by decide +kernel) (a_cons (e_op op_addG sAdd (e_op op_addG sAdd (e_op op_mul sMul (e_var 3) (e_int)) (e_var 4)) (e_int)) a_nil)) (e_int))) (ss_one (s_app 2 (pv 2) (e_op op_mod sMod (e_callTy call_int1 sInt (by rfl) TX.int (by decide +kernel) (a_cons (e_var 3) a_nil)) (e_int)))))) (ss_one (s_ret (e_sl sl_any sSl (e_var 2) o_none (o_some (e_var 1)))))))))), D0.2.1, D0.1.kp, D0.2.2⟩
theorem d_walk_table {P : Program} {w : World} {K : PySem.W.Frag} {mg : Str → Option Value} {base : Heap} {k : Nat} {f : Addr} {fd : FuncData} (TX : TX K w mg) (D0 : Def0 K mg "walk_table" s_walk_table f fd ["spots", "others", "table"]) : Cal P w K mg base (k + 1) "walk_table" f fd ["spots", "others", "table"] (runFn 6 3 (b_walk_table)) :=
  ⟨fn_d (N := ["spots", "others", "table", "found", "i", "j"]) (g := b_walk_table) D0.1 sc_walk_table (by decide) fun cdv A outer s H E hr => (show SndSs (cxOf CX0 P w K mg base ["spots", "others", "table", "found", "i", "j"] "walk_table" (defScope s_walk_table) f cdv A outer s H E).nox (defBody s_walk_table) (b_walk_table) from (ss_cons (s_unp3 (i := 3) (j := 4) (l := 5) rfl sc_walk_table.nd rfl rfl rfl (by decide) rfl rfl rfl (a_cons (e_lst a_nil) (a_cons (e_int) (a_cons (e_int) a_nil)))) (ss_cons (s_while 100000 PassesOwn.never (t_w (w_and (t_cmp op_lt sLt (nomark _) (e_var 4) (e_callB call_len sLen (by rfl) TX.len (by decide +kernel) (a_cons (e_var 0) a_nil))) (w_and1 (t_cmp op_lt sLt (nomark _) (e_var 5) (e_callB call_len sLen (by rfl) TX.len (by decide +kernel) (a_cons (e_var 1) a_nil)))))) (ss_one (s_if (t_cmp (op_eqG hr.units) sEq (nomark _) (e_ix (ix_G hr.units) sIxG (e_var 0) (e_var 4)) (e_ix (ix_G hr.units) sIxG (e_var 1) (e_var 5))) (ss_cons (s_frz [4, 5] (s_app 3 (pv 3) (e_tup (a_cons (e_fz (e_var 4)) (a_cons (e_fz (e_var 5)) a_nil))))) (ss_one (s_par 4 5 rfl sc_walk_table.nd rfl rfl (by decide) rfl rfl (a_cons (e_op op_addG sAdd (e_var 4) (e_int)) (a_cons (e_op op_addG sAdd (e_var 5) (e_int)) a_nil))))) (ss_one (s_frz [4, 5] (s_if (t_cmp op_ge sGe (nomark _) (e_ix (ix_G hr.units) sIxG (e_var 2) (e_tup (a_cons (e_fz (e_op op_addG sAdd (e_var 4) (e_int))) (a_cons (e_fz (e_var 5)) a_nil)))) (e_ix (ix_G hr.units) sIxG (e_var 2) (e_tup (a_cons (e_fz (e_var 4)) (a_cons (e_fz (e_op op_addG sAdd (e_var 5) (e_int))) a_nil))))) (ss_one (s_aug 4 sc_walk_table.nd rfl (by first | exact .inl rfl | exact .inr rfl) (e_int) ip_add sIpAdd)) (ss_one (s_aug 5 sc_walk_table.nd rfl (by first | exact .inl rfl | exact .inr rfl) (e_int) ip_add sIpAdd)))))))) (ss_one (s_ret (e_callTy call_tupF sTuple (by rfl) TX.tuple (by decide +kernel) (a_cons (e_var 3) a_nil))))))), D0.2.1, D0.1.kp, D0.2.2⟩
theorem d_spots_of {P : Program} {w : World} {K : PySem.W.Frag} {mg : Str → Option Value} {base : Heap} {k : Nat} {f : Addr} {fd : FuncData} (TX : TX K w mg) (D0 : Def0 K mg "spots_of" s_spots_of f fd ["run"]) : Cal P w K mg base (k + 1) "spots_of" f fd ["run"] (runFn 2 1 (b_spots_of)) :=
  ⟨fn_d (N := ["run", "state"]) (g := b_spots_of) D0.1 sc_spots_of (by decide) fun cdv A outer s H E hr => (show SndSs (cxOf CX0 P w K mg base ["run", "state"] "spots_of" (defScope s_spots_of) f cdv A outer s H E).nox (defBody s_spots_of) (b_spots_of) from (ss_one (s_ret (e_lc (own := [("state", 1)]) rfl sc_spots_of.nd (SndC.x (i_seqC (e_var 0))) (blkOk_by (by kernel_rfl)) (by decide) (fun _ _ _ _ _ => (g_name 1 sc_spots_of.nd rfl (by first | exact .inl rfl | exact .inr rfl))) (fun _ _ _ _ _ => (ts_one (t_cmp (op_neG hr.units) sNe (nomark _) (e_ix ix_seq sIx (e_var 1) (e_int)) (e_tup a_nil)))) (fun _ _ _ _ _ => (e_sl sl_any sSl (e_ix ix_seq sIx (e_ix ix_seq sIx (e_var 1) (e_int)) (e_neg (e_int))) o_none (o_some (e_int)))))))), D0.2.1, D0.1.kp, D0.2.2⟩
theorem d_side_by_side {P : Program} {w : World} {K : PySem.W.Frag} {mg : Str → Option Value} {base : Heap} {k : Nat} {f : Addr} {fd : FuncData} (TX : TX K w mg) (D0 : Def0 K mg "side_by_side" s_side_by_side f fd ["one", "other"]) {a_walk_table : Addr} {d_walk_table : FuncData} {f_walk_table : Fn} (H_walk_table : Cal P w K mg base k "walk_table" a_walk_table d_walk_table ["spots", "others", "table"] f_walk_table) {a_spots_of : Addr} {d_spots_of : FuncData} {f_spots_of : Fn} (H_spots_of : Cal P w K mg base k "spots_of" a_spots_of d_spots_of ["run"] f_spots_of) : Cal P w K mg base (k + 1) "side_by_side" f fd ["one", "other"] (runFn 7 2 (b_side_by_side f_walk_table f_spots_of)) :=
  ⟨fn_d (N := ["one", "other", "spots", "others", "table", "i", "j"]) (g := b_side_by_side f_walk_table f_spots_of) D0.1 sc_side_by_side (by decide) fun cdv A outer s H E hr => (show SndSs (cxOf CX0 P w K mg base ["one", "other", "spots", "others", "table", "i", "j"] "side_by_side" (defScope s_side_by_side) f cdv A outer s H E).nox (defBody s_side_by_side) (b_side_by_side f_walk_table f_spots_of) from (ss_cons (s_par 2 3 rfl sc_side_by_side.nd rfl rfl (by decide) rfl rfl (a_cons (e_call H_spots_of.1 hr (by rfl) H_spots_of.2.1 H_spots_of.2.2.1 H_spots_of.2.2.2 (a_cons (e_fz (e_var 0)) a_nil)) (a_cons (e_call H_spots_of.1 hr (by rfl) H_spots_of.2.1 H_spots_of.2.2.1 H_spots_of.2.2.2 (a_cons (e_fz (e_var 1)) a_nil)) a_nil))) (ss_cons (s_set 4 sc_side_by_side.nd rfl (by first | exact .inl rfl | exact .inr rfl) (e_dt0)) (ss_cons (s_for PassesOwn.never rfl (SndI.x (i_range3 (by rfl) TX.range (a_cons (e_callB call_len sLen (by rfl) TX.len (by decide +kernel) (a_cons (e_var 2) a_nil)) (a_cons (e_neg (e_int)) (a_cons (e_neg (e_int)) a_nil))) a3_len)) (g_name 5 sc_side_by_side.nd rfl (by first | exact .inl rfl | exact .inr rfl)) (ss_one (s_for PassesOwn.never rfl (SndI.x (i_range3 (by rfl) TX.range (a_cons (e_callB call_len sLen (by rfl) TX.len (by decide +kernel) (a_cons (e_var 3) a_nil)) (a_cons (e_neg (e_int)) (a_cons (e_neg (e_int)) a_nil))) a3_len)) (g_name 6 sc_side_by_side.nd rfl (by first | exact .inl rfl | exact .inr rfl)) (ss_one (s_if (t_w (w_or (t_cmp (op_eqG hr.units) sEq (nomark _) (e_var 5) (e_callB call_len sLen (by rfl) TX.len (by decide +kernel) (a_cons (e_var 2) a_nil))) (w_or1 (t_cmp (op_eqG hr.units) sEq (nomark _) (e_var 6) (e_callB call_len sLen (by rfl) TX.len (by decide +kernel) (a_cons (e_var 3) a_nil)))))) (ss_one (s_put 4 hr.units (pv 4) (e_tup (a_cons (e_fz (e_var 5)) (a_cons (e_fz (e_var 6)) a_nil))) (e_int))) (ss_one (s_if (t_cmp (op_eqG hr.units) sEq (nomark _) (e_ix (ix_G hr.units) sIxG (e_var 2) (e_var 5)) (e_ix (ix_G hr.units) sIxG (e_var 3) (e_var 6))) (ss_one (s_put 4 hr.units (pv 4) (e_tup (a_cons (e_fz (e_var 5)) (a_cons (e_fz (e_var 6)) a_nil))) (e_op op_addG sAdd (e_int) (e_ix (ix_G hr.units) sIxG (e_var 4) (e_tup (a_cons (e_fz (e_op op_addG sAdd (e_var 5) (e_int))) (a_cons (e_fz (e_op op_addG sAdd (e_var 6) (e_int))) a_nil))))))) (ss_one (s_put 4 hr.units (pv 4) (e_tup (a_cons (e_fz (e_var 5)) (a_cons (e_fz (e_var 6)) a_nil))) (e_callB (call_max2 rfl) sMax2 (by rfl) TX.max (by decide +kernel) (a_cons (e_ix (ix_G hr.units) sIxG (e_var 4) (e_tup (a_cons (e_fz (e_op op_addG sAdd (e_var 5) (e_int))) (a_cons (e_fz (e_var 6)) a_nil)))) (a_cons (e_ix (ix_G hr.units) sIxG (e_var 4) (e_tup (a_cons (e_fz (e_var 5)) (a_cons (e_fz (e_op op_addG sAdd (e_var 6) (e_int))) a_nil)))) a_nil)))))))))))) (ss_one (s_frz [2, 3, 4] (s_ret (e_call H_walk_table.1 hr (by rfl) H_walk_table.2.1 H_walk_table.2.2.1 H_walk_table.2.2.2 (a_cons (e_fz (e_var 2)) (a_cons (e_fz (e_var 3)) (a_cons (e_fz (e_var 4)) a_nil))))))))))), D0.2.1, D0.1.kp, D0.2.2⟩
theorem d__law_alike {P : Program} {w : World} {K : PySem.W.Frag} {mg : Str → Option Value} {base : Heap} {k : Nat} {f : Addr} {fd : FuncData} (TX : TX K w mg) (D0 : Def0 K mg "_law_alike" s__law_alike f fd ["given", "due"]) {a__law_alike : Addr} {d__law_alike : FuncData} {f__law_alike : Fn} (H__law_alike : Cal P w K mg base k "_law_alike" a__law_alike d__law_alike ["given", "due"] f__law_alike) : Cal P w K mg base (k + 1) "_law_alike" f fd ["given", "due"] (runFn 3 2 (b__law_alike f__law_alike)) :=
  ⟨fn_d (N := ["given", "due", "k"]) (g := b__law_alike f__law_alike) D0.1 sc__law_alike (by decide) fun cdv A outer s H E hr => (show SndSs (cxOf CX0 P w K mg base ["given", "due", "k"] "_law_alike" (defScope s__law_alike) f cdv A outer s H E).nox (defBody s__law_alike) (b__law_alike f__law_alike) from (ss_cons (s_if (t_tru (e_callB call_isi sIsi (by rfl) TX.isinstance (by decide +kernel) (a_cons (e_var 1) (a_cons (e_ty (n := "tuple") (by rfl) TX.tuple (by decide +kernel)) a_nil)))) (ss_cons (s_if (t_w (w_or (t_not (t_tru (e_callB call_isi sIsi (by rfl) TX.isinstance (by decide +kernel) (a_cons (e_var 0) (a_cons (e_ty (n := "tuple") (by rfl) TX.tuple (by decide +kernel)) a_nil))))) (w_or1 (t_cmp (op_neG hr.units) sNe (nomark _) (e_callB call_len sLen (by rfl) TX.len (by decide +kernel) (a_cons (e_var 0) a_nil)) (e_callB call_len sLen (by rfl) TX.len (by decide +kernel) (a_cons (e_var 1) a_nil)))))) (ss_one (s_ret (e_bl))) ss_nil) (ss_one (s_ret (e_cmp (op_eqG hr.units) sEq (nomark _) (e_lc (own := [("k", 2)]) rfl sc__law_alike.nd (SndI.c (SndI.x (i_range1 (by rfl) TX.range (a_cons (e_callB call_len sLen (by rfl) TX.len (by decide +kernel) (a_cons (e_var 1) a_nil)) a_nil) (hone := a1_len)))) (blkOk_by (by kernel_rfl)) (by decide) (fun _ _ _ _ _ => (g_name 2 sc__law_alike.nd rfl (by first | exact .inl rfl | exact .inr rfl))) (fun _ _ _ _ _ => (ts_one (t_not (t_tru (e_call H__law_alike.1 hr (by rfl) H__law_alike.2.1 H__law_alike.2.2.1 H__law_alike.2.2.2 (a_cons (e_fz (e_ix ix_seq sIx (e_var 0) (e_var 2))) (a_cons (e_fz (e_ix ix_seq sIx (e_var 1) (e_var 2))) a_nil))))))) (fun _ _ _ _ _ => (e_var 2))) (e_lst a_nil))))) ss_nil) (ss_cons (s_if (t_cmp op_isC sIs (nomark _) (e_var 1) (e_non)) (ss_one (s_ret (e_cmp op_isC sIs (nomark _) (e_var 0) (e_non)))) ss_nil) (ss_cons (s_if (t_tru (e_callB call_isi sIsi (by rfl) TX.isinstance (by decide +kernel) (a_cons (e_var 1) (a_cons (e_ty (n := "bool") (by rfl) TX.bool (by decide +kernel)) a_nil)))) (ss_one (s_ret ((e_and (e_callB call_isi sIsi (by rfl) TX.isinstance (by decide +kernel) (a_cons (e_var 0) (a_cons (e_ty (n := "bool") (by rfl) TX.bool (by decide +kernel)) a_nil))) (e_one (e_cmp (op_eqG hr.units) sEq (nomark _) (e_var 0) (e_var 1))))))) ss_nil) (ss_cons (s_if (t_tru (e_callB call_isi sIsi (by rfl) TX.isinstance (by decide +kernel) (a_cons (e_var 1) (a_cons (e_ty (n := "int") (by rfl) TX.int (by decide +kernel)) a_nil)))) (ss_one (s_ret ((e_and (e_callB call_isi sIsi (by rfl) TX.isinstance (by decide +kernel) (a_cons (e_var 0) (a_cons (e_ty (n := "int") (by rfl) TX.int (by decide +kernel)) a_nil))) (e_and (e_not (e_callB call_isi sIsi (by rfl) TX.isinstance (by decide +kernel) (a_cons (e_var 0) (a_cons (e_ty (n := "bool") (by rfl) TX.bool (by decide +kernel)) a_nil)))) (e_one (e_cmp (op_eqG hr.units) sEq (nomark _) (e_var 0) (e_var 1)))))))) ss_nil) (ss_one (s_ret ((e_and (e_callB call_isi sIsi (by rfl) TX.isinstance (by decide +kernel) (a_cons (e_var 0) (a_cons (e_ty (n := "str") (by rfl) TX.str (by decide +kernel)) a_nil))) (e_one (e_cmp (op_eqG hr.units) sEq (nomark _) (e_var 0) (e_var 1)))))))))))), D0.2.1, D0.1.kp, D0.2.2⟩
theorem d__law_most {P : Program} {w : World} {K : PySem.W.Frag} {mg : Str → Option Value} {base : Heap} {k : Nat} {f : Addr} {fd : FuncData} (TX : TX K w mg) (D0 : Def0 K mg "_law_most" s__law_most f fd ["one", "other"]) : Cal P w K mg base (k + 1) "_law_most" f fd ["one", "other"] (runFn 6 2 (b__law_most)) :=
  ⟨fn_d (N := ["one", "other", "table", "i", "j", "best"]) (g := b__law_most) D0.1 sc__law_most (by decide) fun cdv A outer s H E hr => (show SndSs (cxOf CX0 P w K mg base ["one", "other", "table", "i", "j", "best"] "_law_most" (defScope s__law_most) f cdv A outer s H E).nox (defBody s__law_most) (b__law_most) from (ss_cons (s_set 2 sc__law_most.nd rfl (by first | exact .inl rfl | exact .inr rfl) (e_dt0)) (ss_cons (s_for PassesOwn.never rfl (SndI.x (i_range3 (by rfl) TX.range (a_cons (e_callB call_len sLen (by rfl) TX.len (by decide +kernel) (a_cons (e_var 0) a_nil)) (a_cons (e_neg (e_int)) (a_cons (e_neg (e_int)) a_nil))) a3_len)) (g_name 3 sc__law_most.nd rfl (by first | exact .inl rfl | exact .inr rfl)) (ss_one (s_for PassesOwn.never rfl (SndI.x (i_range3 (by rfl) TX.range (a_cons (e_callB call_len sLen (by rfl) TX.len (by decide +kernel) (a_cons (e_var 1) a_nil)) (a_cons (e_neg (e_int)) (a_cons (e_neg (e_int)) a_nil))) a3_len)) (g_name 4 sc__law_most.nd rfl (by first | exact .inl rfl | exact .inr rfl)) (ss_cons (s_set 5 sc__law_most.nd rfl (by first | exact .inl rfl | exact .inr rfl) (e_lst (a_cons (e_fz (e_int)) a_nil))) (ss_cons (s_if (t_w (w_and (t_cmp op_lt sLt (nomark _) (e_var 3) (e_callB call_len sLen (by rfl) TX.len (by decide +kernel) (a_cons (e_var 0) a_nil))) (w_and1 (t_cmp op_lt sLt (nomark _) (e_var 4) (e_callB call_len sLen (by rfl) TX.len (by decide +kernel) (a_cons (e_var 1) a_nil)))))) (ss_one (s_set 5 sc__law_most.nd rfl (by first | exact .inl rfl | exact .inr rfl) (e_lst (a_cons (e_fz (e_ix (ix_G hr.units) sIxG (e_var 2) (e_tup (a_cons (e_fz (e_op op_addG sAdd (e_var 3) (e_int))) (a_cons (e_fz (e_var 4)) a_nil))))) (a_cons (e_fz (e_ix (ix_G hr.units) sIxG (e_var 2) (e_tup (a_cons (e_fz (e_var 3)) (a_cons (e_fz (e_op op_addG sAdd (e_var 4) (e_int))) a_nil))))) (a_cons (e_fz (e_op op_addG sAdd (e_ix (ix_G hr.units) sIxG (e_var 2) (e_tup (a_cons (e_fz (e_op op_addG sAdd (e_var 3) (e_int))) (a_cons (e_fz (e_op op_addG sAdd (e_var 4) (e_int))) a_nil)))) (e_if (t_cmp (op_eqG hr.units) sEq (nomark _) (e_ix (ix_G hr.units) sIxG (e_var 0) (e_var 3)) (e_ix (ix_G hr.units) sIxG (e_var 1) (e_var 4))) (e_int) (e_int)))) a_nil)))))) ss_nil) (ss_one (s_put 2 hr.units (pv 2) (e_tup (a_cons (e_fz (e_var 3)) (a_cons (e_fz (e_var 4)) a_nil))) (e_callB (cr_maxL rfl hr.units) sMaxL (by rfl) TX.max (by decide +kernel) (a_cons (e_var 5) a_nil))))))))) (ss_one (s_ret (e_var 2)))))), D0.2.1, D0.1.kp, D0.2.2⟩
theorem d__law_when {P : Program} {w : World} {K : PySem.W.Frag} {mg : Str → Option Value} {base : Heap} {k : Nat} {f : Addr} {fd : FuncData} (TX : TX K w mg) (D0 : Def0 K mg "_law_when" s__law_when f fd ["run", "k"]) : Cal P w K mg base (k + 1) "_law_when" f fd ["run", "k"] (runFn 4 2 (b__law_when)) :=
  ⟨fn_d (N := ["run", "k", "able", "j"]) (g := b__law_when) D0.1 sc__law_when (by decide) fun cdv A outer s H E hr => (show SndSs (cxOf CX0 P w K mg base ["run", "k", "able", "j"] "_law_when" (defScope s__law_when) f cdv A outer s H E).nox (defBody s__law_when) (b__law_when) from (ss_cons (s_setLc (own := [("j", 3)]) 2 rfl sc__law_when.nd rfl rfl (sw_true rfl rfl rfl (by decide +kernel)) (SndI.c (SndI.x (i_range1 (by rfl) TX.range (a_cons (e_callB call_len sLen (by rfl) TX.len (by decide +kernel) (a_cons (e_var 0) a_nil)) a_nil) (hone := a1_len)))) (blkOk_by (by kernel_rfl)) (by decide) (fun _ _ _ _ _ => (g_name 3 sc__law_when.nd rfl (by first | exact .inl rfl | exact .inr rfl))) (fun _ _ _ _ _ => (ts_one (t_cmp op_gt sGt (nomark _) (e_callB call_len sLen (by rfl) TX.len (by decide +kernel) (a_cons (e_ix ix_seq sIx (e_ix ix_seq sIx (e_var 0) (e_var 3)) (e_int)) a_nil)) (e_var 1)))) (fun _ _ _ _ _ => (e_var 3))) (ss_one (s_ret (e_if (t_cmp (op_neG hr.units) sNe (nomark _) (e_var 2) (e_lst a_nil)) (e_ix ix_seq sIx (e_var 2) (e_int)) (e_non)))))), D0.2.1, D0.1.kp, D0.2.2⟩
theorem d_when_told {P : Program} {w : World} {K : PySem.W.Frag} {mg : Str → Option Value} {base : Heap} {k : Nat} {f : Addr} {fd : FuncData} (TX : TX K w mg) (D0 : Def0 K mg "when_told" s_when_told f fd ["run", "k"]) : Cal P w K mg base (k + 1) "when_told" f fd ["run", "k"] (runFn 4 2 (b_when_told)) :=
  ⟨fn_d (N := ["run", "k", "able", "n"]) (g := b_when_told) D0.1 sc_when_told (by decide) fun cdv A outer s H E hr => (show SndSs (cxOf CX0 P w K mg base ["run", "k", "able", "n"] "when_told" (defScope s_when_told) f cdv A outer s H E).nox (defBody s_when_told) (b_when_told) from (ss_cons (s_setLc (own := [("n", 3)]) 2 rfl sc_when_told.nd rfl rfl (sw_true rfl rfl rfl (by decide +kernel)) (SndI.c (SndI.x (i_range1 (by rfl) TX.range (a_cons (e_callB call_len sLen (by rfl) TX.len (by decide +kernel) (a_cons (e_var 0) a_nil)) a_nil) (hone := a1_len)))) (blkOk_by (by kernel_rfl)) (by decide) (fun _ _ _ _ _ => (g_name 3 sc_when_told.nd rfl (by first | exact .inl rfl | exact .inr rfl))) (fun _ _ _ _ _ => (ts_one (t_cmp op_gt sGt (nomark _) (e_callB call_len sLen (by rfl) TX.len (by decide +kernel) (a_cons (e_ix ix_seq sIx (e_ix ix_seq sIx (e_var 0) (e_var 3)) (e_int)) a_nil)) (e_var 1)))) (fun _ _ _ _ _ => (e_var 3))) (ss_one (s_ret (e_if (t_cmp (op_neG hr.units) sNe (nomark _) (e_var 2) (e_lst a_nil)) (e_ix ix_seq sIx (e_var 2) (e_int)) (e_non)))))), D0.2.1, D0.1.kp, D0.2.2⟩
theorem d__law_next {P : Program} {w : World} {K : PySem.W.Frag} {mg : Str → Option Value} {base : Heap} {k : Nat} {f : Addr} {fd : FuncData} (TX : TX K w mg) (D0 : Def0 K mg "_law_next" s__law_next f fd ["w", "many"]) : Cal P w K mg base (k + 1) "_law_next" f fd ["w", "many"] (runFn 2 2 (b__law_next)) :=
  ⟨fn_d (N := ["w", "many"]) (g := b__law_next) D0.1 sc__law_next (by decide) fun cdv A outer s H E hr => (show SndSs (cxOf CX0 P w K mg base ["w", "many"] "_law_next" (defScope s__law_next) f cdv A outer s H E).nox (defBody s__law_next) (b__law_next) from (ss_cons (s_tick 0 (hu_of hr) (pv 0)) (ss_cons (s_if (t_cmp op_gt sGt (nomark _) (e_wget 0 true (hu_of hr) (pv 0) rfl) (e_callB call_len sLen (by rfl) TX.len (by decide +kernel) (a_cons (e_wget 0 false (hu_of hr) (pv 0) rfl) a_nil))) (ss_one (s_ret (e_int))) ss_nil) (ss_one (s_ret (e_op op_mod sMod (e_callTy call_int1 sInt (by rfl) TX.int (by decide +kernel) (a_cons (e_ix ix_seq sIx (e_wget 0 false (hu_of hr) (pv 0) rfl) (e_op op_sub sSub (e_wget 0 true (hu_of hr) (pv 0) rfl) (e_int))) a_nil)) (e_var 1))))))), D0.2.1, D0.1.kp, D0.2.2⟩
theorem d_told_parting {P : Program} {w : World} {K : PySem.W.Frag} {mg : Str → Option Value} {base : Heap} {k : Nat} {f : Addr} {fd : FuncData} (TX : TX K w mg) (D0 : Def0 K mg "told_parting" s_told_parting f fd ["one", "other"]) {a_when_told : Addr} {d_when_told : FuncData} {f_when_told : Fn} (H_when_told : Cal P w K mg base k "when_told" a_when_told d_when_told ["run", "k"] f_when_told) : Cal P w K mg base (k + 1) "told_parting" f fd ["one", "other"] (runFn 5 2 (b_told_parting f_when_told)) :=
  ⟨fn_d (N := ["one", "other", "first", "second", "k"]) (g := b_told_parting f_when_told) D0.1 sc_told_parting (by decide) fun cdv A outer s H E hr => (show SndSs (cxOf CX0 P w K mg base ["one", "other", "first", "second", "k"] "told_parting" (defScope s_told_parting) f cdv A outer s H E).nox (defBody s_told_parting) (b_told_parting f_when_told) from (ss_cons (s_par 2 3 rfl sc_told_parting.nd rfl rfl (by decide) rfl rfl (a_cons (e_ix ix_seq sIx (e_ix ix_seq sIx (e_var 0) (e_neg (e_int))) (e_int)) (a_cons (e_ix ix_seq sIx (e_ix ix_seq sIx (e_var 1) (e_neg (e_int))) (e_int)) a_nil))) (ss_cons (s_for PassesOwn.never rfl (SndI.x (i_range1 (by rfl) TX.range (a_cons (e_callB (call_max2 rfl) sMax2 (by rfl) TX.max (by decide +kernel) (a_cons (e_callB call_len sLen (by rfl) TX.len (by decide +kernel) (a_cons (e_var 2) a_nil)) (a_cons (e_callB call_len sLen (by rfl) TX.len (by decide +kernel) (a_cons (e_var 3) a_nil)) a_nil))) a_nil) (hone := a1_len))) (g_name 4 sc_told_parting.nd rfl (by first | exact .inl rfl | exact .inr rfl)) (ss_one (s_if (t_cmp (op_neG hr.units) sNe (nomark _) (e_sl sl_any sSl (e_var 2) (o_some (e_var 4)) (o_some (e_op op_addG sAdd (e_var 4) (e_int)))) (e_sl sl_any sSl (e_var 3) (o_some (e_var 4)) (o_some (e_op op_addG sAdd (e_var 4) (e_int))))) (ss_one (s_ret (e_tup (a_cons (e_fz (e_call H_when_told.1 hr (by rfl) H_when_told.2.1 H_when_told.2.2.1 H_when_told.2.2.2 (a_cons (e_fz (e_var 0)) (a_cons (e_fz (e_var 4)) a_nil)))) (a_cons (e_fz (e_call H_when_told.1 hr (by rfl) H_when_told.2.1 H_when_told.2.2.1 H_when_told.2.2.2 (a_cons (e_fz (e_var 1)) (a_cons (e_fz (e_var 4)) a_nil)))) a_nil))))) ss_nil))) (ss_one (s_ret (e_non)))))), D0.2.1, D0.1.kp, D0.2.2⟩
theorem d_first_parting {P : Program} {w : World} {K : PySem.W.Frag} {mg : Str → Option Value} {base : Heap} {k : Nat} {f : Addr} {fd : FuncData} (TX : TX K w mg) (D0 : Def0 K mg "first_parting" s_first_parting f fd ["one", "other"]) : Cal P w K mg base (k + 1) "first_parting" f fd ["one", "other"] (runFn 3 2 (b_first_parting)) :=
  ⟨fn_d (N := ["one", "other", "k"]) (g := b_first_parting) D0.1 sc_first_parting (by decide) fun cdv A outer s H E hr => (show SndSs (cxOf CX0 P w K mg base ["one", "other", "k"] "first_parting" (defScope s_first_parting) f cdv A outer s H E).nox (defBody s_first_parting) (b_first_parting) from (ss_cons (s_for PassesOwn.never rfl (SndI.x (i_range1 (by rfl) TX.range (a_cons (e_callB (call_min2 rfl) sMin2 (by rfl) TX.min (by decide +kernel) (a_cons (e_callB call_len sLen (by rfl) TX.len (by decide +kernel) (a_cons (e_var 0) a_nil)) (a_cons (e_callB call_len sLen (by rfl) TX.len (by decide +kernel) (a_cons (e_var 1) a_nil)) a_nil))) a_nil) (hone := a1_len))) (g_name 2 sc_first_parting.nd rfl (by first | exact .inl rfl | exact .inr rfl)) (ss_one (s_if (t_cmp (op_neG hr.units) sNe (nomark _) (e_ix ix_seq sIx (e_var 0) (e_var 2)) (e_ix ix_seq sIx (e_var 1) (e_var 2))) (ss_one (s_ret (e_var 2))) ss_nil))) (ss_one (s_ret (e_non))))), D0.2.1, D0.1.kp, D0.2.2⟩
theorem d__law_inputs {P : Program} {w : World} {K : PySem.W.Frag} {mg : Str → Option Value} {base : Heap} {k : Nat} {f : Addr} {fd : FuncData} (TX : TX K w mg) (D0 : Def0 K mg "_law_inputs" s__law_inputs f fd ["w"]) {a__law_next : Addr} {d__law_next : FuncData} {f__law_next : Fn} (H__law_next : Cal P w K mg base k "_law_next" a__law_next d__law_next ["w", "many"] f__law_next) : Cal P w K mg base (k + 1) "_law_inputs" f fd ["w"] (runFn 2 1 (b__law_inputs f__law_next)) :=
  ⟨fn_d (N := ["w", "k"]) (g := b__law_inputs f__law_next) D0.1 sc__law_inputs (by decide) fun cdv A outer s H E hr => (show SndSs (cxOf CX0 P w K mg base ["w", "k"] "_law_inputs" (defScope s__law_inputs) f cdv A outer s H E).nox (defBody s__law_inputs) (b__law_inputs f__law_next) from (ss_one (s_ret (e_callTy call_tupF sTuple (by rfl) TX.tuple (by decide +kernel) (a_cons (e_lc (own := [("k", 1)]) rfl sc__law_inputs.nd (SndI.c (SndI.x (i_range1 (by rfl) TX.range (a_cons (e_call H__law_next.1 hr (by rfl) H__law_next.2.1 H__law_next.2.2.1 H__law_next.2.2.2 (a_cons (e_fz (e_var 0)) (a_cons (e_fz (e_int)) a_nil))) a_nil) (hone := a1_len)))) (blkOk_by (by kernel_rfl)) (by decide) (fun _ _ _ _ _ => (g_name 1 sc__law_inputs.nd rfl (by first | exact .inl rfl | exact .inr rfl))) (fun _ _ _ _ _ => ts_nil) (fun _ _ _ _ _ => (e_op op_sub sSub (e_call H__law_next.1 hr (by rfl) H__law_next.2.1 H__law_next.2.2.1 H__law_next.2.2.2 (a_cons (e_fz (e_var 0)) (a_cons (e_fz (e_int)) a_nil))) (e_int)))) a_nil))))), D0.2.1, D0.1.kp, D0.2.2⟩
theorem d__law_pick {P : Program} {w : World} {K : PySem.W.Frag} {mg : Str → Option Value} {base : Heap} {k : Nat} {f : Addr} {fd : FuncData} (TX : TX K w mg) (D0 : Def0 K mg "_law_pick" s__law_pick f fd ["w", "rows"]) {a__law_next : Addr} {d__law_next : FuncData} {f__law_next : Fn} (H__law_next : Cal P w K mg base k "_law_next" a__law_next d__law_next ["w", "many"] f__law_next) : Cal P w K mg base (k + 1) "_law_pick" f fd ["w", "rows"] (runFn 2 2 (b__law_pick f__law_next)) :=
  ⟨fn_d (N := ["w", "rows"]) (g := b__law_pick f__law_next) D0.1 sc__law_pick (by decide) fun cdv A outer s H E hr => (show SndSs (cxOf CX0 P w K mg base ["w", "rows"] "_law_pick" (defScope s__law_pick) f cdv A outer s H E).nox (defBody s__law_pick) (b__law_pick f__law_next) from (ss_one (s_ret (e_ix ix_seq sIx (e_var 1) (e_call H__law_next.1 hr (by rfl) H__law_next.2.1 H__law_next.2.2.1 H__law_next.2.2.2 (a_cons (e_fz (e_var 0)) (a_cons (e_fz (e_callB call_len sLen (by rfl) TX.len (by decide +kernel) (a_cons (e_var 1) a_nil))) a_nil))))))), D0.2.1, D0.1.kp, D0.2.2⟩
theorem d__law_frozen {P : Program} {w : World} {K : PySem.W.Frag} {mg : Str → Option Value} {base : Heap} {k : Nat} {f : Addr} {fd : FuncData} (TX : TX K w mg) (D0 : Def0 K mg "_law_frozen" s__law_frozen f fd ["table"]) : Cal P w K mg base (k + 1) "_law_frozen" f fd ["table"] (runFn 2 1 (b__law_frozen)) :=
  ⟨fn_d (N := ["table", "key"]) (g := b__law_frozen) D0.1 sc__law_frozen (by decide) fun cdv A outer s H E hr => (show SndSs (cxOf CX0 P w K mg base ["table", "key"] "_law_frozen" (defScope s__law_frozen) f cdv A outer s H E).nox (defBody s__law_frozen) (b__law_frozen) from (ss_one (s_ret (e_callTy call_tupF sTuple (by rfl) TX.tuple (by decide +kernel) (a_cons (e_lc (own := [("key", 1)]) rfl sc__law_frozen.nd (SndC.x (i_seqC (e_callB (cr_srtK rfl) sSrtK (by rfl) TX.sorted (by decide +kernel) (a_cons (e_var 0) a_nil)))) (blkOk_by (by kernel_rfl)) (by decide) (fun _ _ _ _ _ => (g_name 1 sc__law_frozen.nd rfl (by first | exact .inl rfl | exact .inr rfl))) (fun _ _ _ _ _ => (ts_one (t_cmp (op_neG hr.units) sNe (nomark _) (e_ix (ix_G hr.units) sIxG (e_var 0) (e_var 1)) (e_int)))) (fun _ _ _ _ _ => (e_tup (a_cons (e_fz (e_var 1)) (a_cons (e_fz (e_ix (ix_G hr.units) sIxG (e_var 0) (e_var 1))) a_nil))))) a_nil))))), D0.2.1, D0.1.kp, D0.2.2⟩
theorem d__law_worth {P : Program} {w : World} {K : PySem.W.Frag} {mg : Str → Option Value} {base : Heap} {k : Nat} {f : Addr} {fd : FuncData} (TX : TX K w mg) (D0 : Def0 K mg "_law_worth" s__law_worth f fd ["expr", "variables", "cells"]) {a__law_worth : Addr} {d__law_worth : FuncData} {f__law_worth : Fn} (H__law_worth : Cal P w K mg base k "_law_worth" a__law_worth d__law_worth ["expr", "variables", "cells"] f__law_worth) : Cal P w K mg base (k + 1) "_law_worth" f fd ["expr", "variables", "cells"] (runFn 5 3 (b__law_worth f__law_worth)) :=
  ⟨fn_d (N := ["expr", "variables", "cells", "parts", "part"]) (g := b__law_worth f__law_worth) D0.1 sc__law_worth (by decide) fun cdv A outer s H E hr => (show SndSs (cxOf CX0 P w K mg base ["expr", "variables", "cells", "parts", "part"] "_law_worth" (defScope s__law_worth) f cdv A outer s H E).nox (defBody s__law_worth) (b__law_worth f__law_worth) from (ss_cons (s_if (t_tru (e_callB call_isi sIsi (by rfl) TX.isinstance (by decide +kernel) (a_cons (e_var 0) (a_cons (e_ty (n := "int") (by rfl) TX.int (by decide +kernel)) a_nil)))) (ss_one (s_ret (e_var 0))) ss_nil) (ss_cons (s_if (t_cmp (op_eqG hr.units) sEq (nomark _) (e_ix ix_seq sIx (e_var 0) (e_int)) (e_str)) (ss_one (s_ret (e_get2 (hu_of hr) (e_var 1) (e_ix ix_seq sIx (e_var 0) (e_int)) (e_int) ⟨rfl, rfl, rfl, rfl⟩))) ss_nil) (ss_cons (s_setLc (own := [("part", 4)]) 3 rfl sc__law_worth.nd rfl rfl (sw_true rfl rfl rfl (by decide +kernel)) (SndC.x (i_seqC (e_sl sl_any sSl (e_var 0) (o_some (e_int)) o_none))) (blkOk_by (by kernel_rfl)) (by decide) (fun _ _ _ _ _ => (g_name 4 sc__law_worth.nd rfl (by first | exact .inl rfl | exact .inr rfl))) (fun _ _ _ _ _ => ts_nil) (fun _ _ _ _ _ => (e_call H__law_worth.1 hr (by rfl) H__law_worth.2.1 H__law_worth.2.2.1 H__law_worth.2.2.2 (a_cons (e_fz (e_var 4)) (a_cons (e_fz (e_var 1)) (a_cons (e_fz (e_var 2)) a_nil)))))) (ss_cons (s_if (t_cmp (op_eqG hr.units) sEq (nomark _) (e_ix ix_seq sIx (e_var 0) (e_int)) (e_str)) (ss_one (s_ret (e_get2 (hu_of hr) (e_var 2) (e_ix ix_seq sIx (e_var 3) (e_int)) (e_int) ⟨rfl, rfl, rfl, rfl⟩))) ss_nil) (ss_cons (s_if (t_cmp (op_eqG hr.units) sEq (nomark _) (e_ix ix_seq sIx (e_var 0) (e_int)) (e_str)) (ss_one (s_ret (e_if (t_cmp (op_eqG hr.units) sEq (nomark _) (e_ix ix_seq sIx (e_var 3) (e_int)) (e_int)) (e_int) (e_int)))) ss_nil) (ss_cons (s_if (t_cmp op_inG (sInG false) (by rfl) (e_ix ix_seq sIx (e_var 0) (e_int)) (e_tup (a_cons (e_fz (e_str)) (a_cons (e_fz (e_str)) a_nil)))) (ss_one (s_ret (e_if (t_w (w_or (t_w (w_and (t_cmp op_lt sLt (nomark _) (e_ix ix_seq sIx (e_var 3) (e_int)) (e_ix ix_seq sIx (e_var 3) (e_int))) (w_and1 (t_cmp (op_eqG hr.units) sEq (nomark _) (e_ix ix_seq sIx (e_var 0) (e_int)) (e_str))))) (w_or1 (t_w (w_and (t_cmp (op_eqG hr.units) sEq (nomark _) (e_ix ix_seq sIx (e_var 3) (e_int)) (e_ix ix_seq sIx (e_var 3) (e_int))) (w_and1 (t_cmp (op_eqG hr.units) sEq (nomark _) (e_ix ix_seq sIx (e_var 0) (e_int)) (e_str)))))))) (e_int) (e_int)))) ss_nil) (ss_one (s_ret (e_if (t_cmp (op_eqG hr.units) sEq (nomark _) (e_ix ix_seq sIx (e_var 0) (e_int)) (e_str)) (e_op op_addG sAdd (e_ix ix_seq sIx (e_var 3) (e_int)) (e_ix ix_seq sIx (e_var 3) (e_int))) (e_if (t_cmp (op_eqG hr.units) sEq (nomark _) (e_ix ix_seq sIx (e_var 0) (e_int)) (e_str)) (e_op op_sub sSub (e_ix ix_seq sIx (e_var 3) (e_int)) (e_ix ix_seq sIx (e_var 3) (e_int))) (e_op op_mul sMul (e_ix ix_seq sIx (e_var 3) (e_int)) (e_ix ix_seq sIx (e_var 3) (e_int)))))))))))))), D0.2.1, D0.1.kp, D0.2.2⟩
theorem d__law_step {P : Program} {w : World} {K : PySem.W.Frag} {mg : Str → Option Value} {base : Heap} {k : Nat} {f : Addr} {fd : FuncData} (TX : TX K w mg) (D0 : Def0 K mg "_law_step" s__law_step f fd ["program", "inputs", "state"]) {a__law_frozen : Addr} {d__law_frozen : FuncData} {f__law_frozen : Fn} (H__law_frozen : Cal P w K mg base k "_law_frozen" a__law_frozen d__law_frozen ["table"] f__law_frozen) {a__law_worth : Addr} {d__law_worth : FuncData} {f__law_worth : Fn} (H__law_worth : Cal P w K mg base k "_law_worth" a__law_worth d__law_worth ["expr", "variables", "cells"] f__law_worth) : Cal P w K mg base (k + 1) "_law_step" f fd ["program", "inputs", "state"] (runFn 22 3 (b__law_step f__law_frozen f__law_worth)) :=
  ⟨fn_d (N := ["program", "inputs", "state", "frames", "cells", "told", "asked", "name", "place", "variables", "wants", "code", "own", "shared", "op", "later", "number", "below", "args", "params", "part", "k"]) (g := b__law_step f__law_frozen f__law_worth) D0.1 sc__law_step (by decide) fun cdv A outer s H E hr => (show SndSs (cxOf CX0 P w K mg base ["program", "inputs", "state", "frames", "cells", "told", "asked", "name", "place", "variables", "wants", "code", "own", "shared", "op", "later", "number", "below", "args", "params", "part", "k"] "_law_step" (defScope s__law_step) f cdv A outer s H E).nox (defBody s__law_step) (b__law_step f__law_frozen f__law_worth) from (ss_cons (s_unp (e_var 2) (g_tup rfl (gs_cons (g_name 3 sc__law_step.nd rfl (by first | exact .inl rfl | exact .inr rfl)) (gs_cons (g_name 4 sc__law_step.nd rfl (by first | exact .inl rfl | exact .inr rfl)) (gs_cons (g_name 5 sc__law_step.nd rfl (by first | exact .inl rfl | exact .inr rfl)) (gs_cons (g_name 6 sc__law_step.nd rfl (by first | exact .inl rfl | exact .inr rfl)) gs_nil)))) rfl)) (ss_cons (s_unp (e_ix (ix_G hr.units) sIxG (e_var 3) (e_neg (e_int))) (g_tup rfl (gs_cons (g_name 7 sc__law_step.nd rfl (by first | exact .inl rfl | exact .inr rfl)) (gs_cons (g_name 8 sc__law_step.nd rfl (by first | exact .inl rfl | exact .inr rfl)) (gs_cons (g_name 9 sc__law_step.nd rfl (by first | exact .inl rfl | exact .inr rfl)) (gs_cons (g_name 10 sc__law_step.nd rfl (by first | exact .inl rfl | exact .inr rfl)) gs_nil)))) rfl)) (ss_cons (s_unpO rfl (a_cons (e_ix (ix_G hr.units) sIxG (e_ix (ix_G hr.units) sIxG (e_var 0) (e_var 7)) (e_int)) (a_cons (e_callTy (call_dict rfl) sDict (by rfl) TX.dict (by decide +kernel) (a_cons (e_var 9) a_nil)) (a_cons (e_callTy (call_dict rfl) sDict (by rfl) TX.dict (by decide +kernel) (a_cons (e_var 4) a_nil)) a_nil))) (n_cons (pg_name (i := 11) sc__law_step.nd rfl (by first | exact .inl rfl | exact .inr rfl)) (n_cons (pg_name (i := 12) sc__law_step.nd rfl (by first | exact .inl rfl | exact .inr rfl)) (n_cons (pg_name (i := 13) sc__law_step.nd rfl (by first | exact .inl rfl | exact .inr rfl)) n_nil)))) (ss_cons (s_set 14 sc__law_step.nd rfl (by first | exact .inl rfl | exact .inr rfl) (e_if (t_cmp op_lt sLt (nomark _) (e_var 8) (e_callB call_len sLen (by rfl) TX.len (by decide +kernel) (a_cons (e_var 11) a_nil))) (e_ix (ix_G hr.units) sIxG (e_ix (ix_G hr.units) sIxG (e_var 11) (e_var 8)) (e_int)) (e_tup (a_cons (e_fz (e_str)) (a_cons (e_fz (e_int)) a_nil))))) (ss_cons (s_set 15 sc__law_step.nd rfl (by first | exact .inl rfl | exact .inr rfl) (e_op op_addG sAdd (e_var 8) (e_int))) (ss_cons (s_if (t_cmp (op_eqG hr.units) sEq (nomark _) (e_ix (ix_G hr.units) sIxG (e_var 14) (e_int)) (e_str)) (ss_cons (s_par 16 3 rfl sc__law_step.nd rfl rfl (by decide) rfl rfl (a_cons (e_callL H__law_worth.1 hr (by rfl) H__law_worth.2.1 H__law_worth.2.2.1 H__law_worth.2.2.2 (a_cons (e_ix (ix_G hr.units) sIxG (e_var 14) (e_int)) (a_cons (e_var 12) (a_cons (e_var 13) a_nil)))) (a_cons (e_sl sl_any sSl (e_var 3) o_none (o_some (e_neg (e_int)))) a_nil))) (ss_cons (s_if (t_cmp (op_neG hr.units) sNe (nomark _) (e_var 3) (e_tup a_nil)) (ss_cons (s_set 17 sc__law_step.nd rfl (by first | exact .inl rfl | exact .inr rfl) (e_callTy (call_dict rfl) sDict (by rfl) TX.dict (by decide +kernel) (a_cons (e_ix (ix_G hr.units) sIxG (e_ix (ix_G hr.units) sIxG (e_var 3) (e_neg (e_int))) (e_int)) a_nil))) (ss_cons (s_frz [16] (s_put 17 hr.units (pv 17) (e_var 10) (e_var 16))) (ss_one (s_frz [17] (s_set 3 sc__law_step.nd rfl (by first | exact .inl rfl | exact .inr rfl) (e_op op_addG sAdd (e_sl sl_any sSl (e_var 3) o_none (o_some (e_neg (e_int)))) (e_tup (a_cons (e_fz (e_tup (a_cons (e_fz (e_ix (ix_G hr.units) sIxG (e_ix (ix_G hr.units) sIxG (e_var 3) (e_neg (e_int))) (e_int))) (a_cons (e_fz (e_op op_addG sAdd (e_ix (ix_G hr.units) sIxG (e_ix (ix_G hr.units) sIxG (e_var 3) (e_neg (e_int))) (e_int)) (e_int))) (a_cons (e_fz (e_call H__law_frozen.1 hr (by rfl) H__law_frozen.2.1 H__law_frozen.2.2.1 H__law_frozen.2.2.2 (a_cons (e_fz (e_var 17)) a_nil))) (a_cons (e_fz (e_ix (ix_G hr.units) sIxG (e_ix (ix_G hr.units) sIxG (e_var 3) (e_neg (e_int))) (e_int))) a_nil)))))) a_nil)))))))) ss_nil) (ss_one (s_frz [3, 5, 6] (s_ret (e_tup (a_cons (e_fz (e_var 3)) (a_cons (e_fz (e_var 4)) (a_cons (e_fz (e_var 5)) (a_cons (e_fz (e_var 6)) a_nil)))))))))) ss_nil) (ss_cons (s_if (t_cmp (op_eqG hr.units) sEq (nomark _) (e_ix (ix_G hr.units) sIxG (e_var 14) (e_int)) (e_str)) (ss_cons (s_set 18 sc__law_step.nd rfl (by first | exact .inl rfl | exact .inr rfl) (e_lc (own := [("part", 20)]) rfl sc__law_step.nd (SndC.x (i_seqC (e_ix (ix_G hr.units) sIxG (e_var 14) (e_int)))) (blkOk_by (by kernel_rfl)) (by decide) (fun _ _ _ _ _ => (g_name 20 sc__law_step.nd rfl (by first | exact .inl rfl | exact .inr rfl))) (fun _ _ _ _ _ => ts_nil) (fun _ _ _ _ _ => (e_callL H__law_worth.1 hr (by rfl) H__law_worth.2.1 H__law_worth.2.2.1 H__law_worth.2.2.2 (a_cons (e_var 20) (a_cons (e_var 12) (a_cons (e_var 13) a_nil))))))) (ss_cons (s_set 19 sc__law_step.nd rfl (by first | exact .inl rfl | exact .inr rfl) (e_ix (ix_G hr.units) sIxG (e_ix (ix_G hr.units) sIxG (e_var 0) (e_ix (ix_G hr.units) sIxG (e_var 14) (e_int))) (e_int))) (ss_one (s_frz [5, 6] (s_ret (e_tup (a_cons (e_fz (e_op op_addG sAdd (e_var 3) (e_tup (a_cons (e_fz (e_tup (a_cons (e_fz (e_ix (ix_G hr.units) sIxG (e_var 14) (e_int))) (a_cons (e_fz (e_int)) (a_cons (e_fz (e_call H__law_frozen.1 hr (by rfl) H__law_frozen.2.1 H__law_frozen.2.2.1 H__law_frozen.2.2.2 (a_cons (e_fz (e_callTy (call_dict rfl) sDict (by rfl) TX.dict (by decide +kernel) (a_cons (e_lc (own := [("k", 21)]) rfl sc__law_step.nd (SndI.c (SndI.x (i_range1 (by rfl) TX.range (a_cons (e_callB call_len sLen (by rfl) TX.len (by decide +kernel) (a_cons (e_var 19) a_nil)) a_nil) (hone := a1_len)))) (blkOk_by (by kernel_rfl)) (by decide) (fun _ _ _ _ _ => (g_name 21 sc__law_step.nd rfl (by first | exact .inl rfl | exact .inr rfl))) (fun _ _ _ _ _ => ts_nil) (fun _ _ _ _ _ => (e_tup (a_cons (e_fz (e_ix (ix_G hr.units) sIxG (e_var 19) (e_var 21))) (a_cons (e_fz (e_ix (ix_G hr.units) sIxG (e_var 18) (e_var 21))) a_nil))))) a_nil))) a_nil))) (a_cons (e_fz (e_ix (ix_G hr.units) sIxG (e_var 14) (e_int))) a_nil)))))) a_nil)))) (a_cons (e_fz (e_var 4)) (a_cons (e_fz (e_var 5)) (a_cons (e_fz (e_var 6)) a_nil)))))))))) ss_nil) (ss_cons (s_if (t_w (w_or (t_cmp (op_eqG hr.units) sEq (nomark _) (e_ix (ix_G hr.units) sIxG (e_var 14) (e_int)) (e_str)) (w_or1 (t_w (w_and (t_cmp (op_eqG hr.units) sEq (nomark _) (e_ix (ix_G hr.units) sIxG (e_var 14) (e_int)) (e_str)) (w_and1 (t_cmp (op_neG hr.units) sNe (nomark _) (e_callL H__law_worth.1 hr (by rfl) H__law_worth.2.1 H__law_worth.2.2.1 H__law_worth.2.2.2 (a_cons (e_ix (ix_G hr.units) sIxG (e_var 14) (e_int)) (a_cons (e_var 12) (a_cons (e_var 13) a_nil)))) (e_int)))))))) (ss_one (s_set 15 sc__law_step.nd rfl (by first | exact .inl rfl | exact .inr rfl) (e_ix (ix_G hr.units) sIxG (e_var 14) (e_neg (e_int))))) ss_nil) (ss_cons (s_if (t_cmp (op_eqG hr.units) sEq (nomark _) (e_ix (ix_G hr.units) sIxG (e_var 14) (e_int)) (e_str)) (ss_one (s_put 12 hr.units (pv 12) (e_ix (ix_G hr.units) sIxG (e_var 14) (e_int)) (e_callL H__law_worth.1 hr (by rfl) H__law_worth.2.1 H__law_worth.2.2.1 H__law_worth.2.2.2 (a_cons (e_ix (ix_G hr.units) sIxG (e_var 14) (e_int)) (a_cons (e_var 12) (a_cons (e_var 13) a_nil)))))) ss_nil) (ss_cons (s_if (t_cmp (op_eqG hr.units) sEq (nomark _) (e_ix (ix_G hr.units) sIxG (e_var 14) (e_int)) (e_str)) (ss_one (s_unpP 12 6 rfl hr.units sc__law_step.nd rfl (by first | exact .inl rfl | exact .inr rfl) (pv 12) (e_ix (ix_G hr.units) sIxG (e_var 14) (e_int)) (e_tup (a_cons (e_fz (e_if (t_cmp op_lt sLt (nomark _) (e_var 6) (e_callB call_len sLen (by rfl) TX.len (by decide +kernel) (a_cons (e_var 1) a_nil))) (e_ix (ix_G hr.units) sIxG (e_var 1) (e_var 6)) (e_int))) (a_cons (e_fz (e_op op_addG sAdd (e_var 6) (e_int))) a_nil))))) ss_nil) (ss_cons (s_if (t_cmp (op_eqG hr.units) sEq (nomark _) (e_ix (ix_G hr.units) sIxG (e_var 14) (e_int)) (e_str)) (ss_one (s_put 13 hr.units (pv 13) (e_callL H__law_worth.1 hr (by rfl) H__law_worth.2.1 H__law_worth.2.2.1 H__law_worth.2.2.2 (a_cons (e_ix (ix_G hr.units) sIxG (e_var 14) (e_int)) (a_cons (e_var 12) (a_cons (e_var 13) a_nil)))) (e_callL H__law_worth.1 hr (by rfl) H__law_worth.2.1 H__law_worth.2.2.1 H__law_worth.2.2.2 (a_cons (e_ix (ix_G hr.units) sIxG (e_var 14) (e_int)) (a_cons (e_var 12) (a_cons (e_var 13) a_nil)))))) ss_nil) (ss_cons (s_if (t_cmp (op_eqG hr.units) sEq (nomark _) (e_ix (ix_G hr.units) sIxG (e_var 14) (e_int)) (e_str)) (ss_one (s_set 5 sc__law_step.nd rfl (by first | exact .inl rfl | exact .inr rfl) (e_op op_addG sAdd (e_var 5) (e_tup (a_cons (e_fz (e_callL H__law_worth.1 hr (by rfl) H__law_worth.2.1 H__law_worth.2.2.1 H__law_worth.2.2.2 (a_cons (e_ix (ix_G hr.units) sIxG (e_var 14) (e_int)) (a_cons (e_var 12) (a_cons (e_var 13) a_nil))))) a_nil))))) ss_nil) (ss_one (s_frz [5, 6, 12, 13, 15] (s_ret (e_tup (a_cons (e_fz (e_op op_addG sAdd (e_sl sl_any sSl (e_var 3) o_none (o_some (e_neg (e_int)))) (e_tup (a_cons (e_fz (e_tup (a_cons (e_fz (e_var 7)) (a_cons (e_fz (e_var 15)) (a_cons (e_fz (e_call H__law_frozen.1 hr (by rfl) H__law_frozen.2.1 H__law_frozen.2.2.1 H__law_frozen.2.2.2 (a_cons (e_fz (e_var 12)) a_nil))) (a_cons (e_fz (e_var 10)) a_nil)))))) a_nil)))) (a_cons (e_fz (e_call H__law_frozen.1 hr (by rfl) H__law_frozen.2.1 H__law_frozen.2.2.1 H__law_frozen.2.2.2 (a_cons (e_fz (e_var 13)) a_nil))) (a_cons (e_fz (e_var 5)) (a_cons (e_fz (e_var 6)) a_nil))))))))))))))))))))), D0.2.1, D0.1.kp, D0.2.2⟩
theorem d__law_run {P : Program} {w : World} {K : PySem.W.Frag} {mg : Str → Option Value} {base : Heap} {k : Nat} {f : Addr} {fd : FuncData} (TX : TX K w mg) (D0 : Def0 K mg "_law_run" s__law_run f fd ["program", "inputs", "most"]) {a__law_step : Addr} {d__law_step : FuncData} {f__law_step : Fn} (H__law_step : Cal P w K mg base k "_law_step" a__law_step d__law_step ["program", "inputs", "state"] f__law_step) : Cal P w K mg base (k + 1) "_law_run" f fd ["program", "inputs", "most"] (runFn 4 3 (b__law_run f__law_step)) :=
  ⟨fn_d (N := ["program", "inputs", "most", "found"]) (g := b__law_run f__law_step) D0.1 sc__law_run (by decide) fun cdv A outer s H E hr => (show SndSs (cxOf CX0 P w K mg base ["program", "inputs", "most", "found"] "_law_run" (defScope s__law_run) f cdv A outer s H E).nox (defBody s__law_run) (b__law_run f__law_step) from (ss_cons (s_set 3 sc__law_run.nd rfl (by first | exact .inl rfl | exact .inr rfl) (e_lst (a_cons (e_fz (e_tup (a_cons (e_fz (e_tup (a_cons (e_fz (e_tup (a_cons (e_fz (e_str)) (a_cons (e_fz (e_int)) (a_cons (e_fz (e_tup a_nil)) (a_cons (e_fz (e_non)) a_nil)))))) a_nil))) (a_cons (e_fz (e_tup a_nil)) (a_cons (e_fz (e_tup a_nil)) (a_cons (e_fz (e_int)) a_nil)))))) a_nil))) (ss_cons (s_while 100000 PassesOwn.never (t_w (w_and (t_cmp op_le sLe (nomark _) (e_callB call_len sLen (by rfl) TX.len (by decide +kernel) (a_cons (e_var 3) a_nil)) (e_var 2)) (w_and1 (t_cmp (op_neG hr.units) sNe (nomark _) (e_ix ix_seq sIx (e_ix ix_seq sIx (e_var 3) (e_neg (e_int))) (e_int)) (e_tup a_nil))))) (ss_one (s_app 3 (pv 3) (e_call H__law_step.1 hr (by rfl) H__law_step.2.1 H__law_step.2.2.1 H__law_step.2.2.2 (a_cons (e_fz (e_var 0)) (a_cons (e_fz (e_var 1)) (a_cons (e_fz (e_ix ix_seq sIx (e_var 3) (e_neg (e_int)))) a_nil))))))) (ss_one (s_ret (e_callTy call_tupF sTuple (by rfl) TX.tuple (by decide +kernel) (a_cons (e_var 3) a_nil))))))), D0.2.1, D0.1.kp, D0.2.2⟩
theorem d__law_expr {P : Program} {w : World} {K : PySem.W.Frag} {mg : Str → Option Value} {base : Heap} {k : Nat} {f : Addr} {fd : FuncData} (TX : TX K w mg) (D0 : Def0 K mg "_law_expr" s__law_expr f fd ["w", "deep"]) {a__law_expr : Addr} {d__law_expr : FuncData} {f__law_expr : Fn} (H__law_expr : Cal P w K mg base k "_law_expr" a__law_expr d__law_expr ["w", "deep"] f__law_expr) {a__law_pick : Addr} {d__law_pick : FuncData} {f__law_pick : Fn} (H__law_pick : Cal P w K mg base k "_law_pick" a__law_pick d__law_pick ["w", "rows"] f__law_pick) {a__law_next : Addr} {d__law_next : FuncData} {f__law_next : Fn} (H__law_next : Cal P w K mg base k "_law_next" a__law_next d__law_next ["w", "many"] f__law_next) : Cal P w K mg base (k + 1) "_law_expr" f fd ["w", "deep"] (runFn 3 2 (b__law_expr f__law_expr f__law_pick f__law_next)) :=
  ⟨fn_d (N := ["w", "deep", "kind"]) (g := b__law_expr f__law_expr f__law_pick f__law_next) D0.1 sc__law_expr (by decide) fun cdv A outer s H E hr => (show SndSs (cxOf CX0 P w K mg base ["w", "deep", "kind"] "_law_expr" (defScope s__law_expr) f cdv A outer s H E).nox (defBody s__law_expr) (b__law_expr f__law_expr f__law_pick f__law_next) from (ss_cons (s_set 2 sc__law_expr.nd rfl (by first | exact .inl rfl | exact .inr rfl) (e_if (t_cmp op_gt sGt (nomark _) (e_var 1) (e_int)) (e_call H__law_next.1 hr (by rfl) H__law_next.2.1 H__law_next.2.2.1 H__law_next.2.2.2 (a_cons (e_fz (e_var 0)) (a_cons (e_fz (e_int)) a_nil))) (e_call H__law_next.1 hr (by rfl) H__law_next.2.1 H__law_next.2.2.1 H__law_next.2.2.2 (a_cons (e_fz (e_var 0)) (a_cons (e_fz (e_int)) a_nil))))) (ss_cons (s_if (t_cmp op_lt sLt (nomark _) (e_var 2) (e_int)) (ss_one (s_ret (e_op op_sub sSub (e_call H__law_next.1 hr (by rfl) H__law_next.2.1 H__law_next.2.2.1 H__law_next.2.2.2 (a_cons (e_fz (e_var 0)) (a_cons (e_fz (e_int)) a_nil))) (e_int)))) ss_nil) (ss_cons (s_if (t_cmp op_lt sLt (nomark _) (e_var 2) (e_int)) (ss_one (s_ret (e_tup (a_cons (e_fz (e_str)) (a_cons (e_fz (e_call H__law_pick.1 hr (by rfl) H__law_pick.2.1 H__law_pick.2.2.1 H__law_pick.2.2.2 (a_cons (e_fz (e_var 0)) (a_cons (e_fz (e_lst (a_cons (e_fz (e_str)) (a_cons (e_fz (e_str)) (a_cons (e_fz (e_str)) a_nil))))) a_nil)))) a_nil))))) ss_nil) (ss_cons (s_if (t_cmp op_lt sLt (nomark _) (e_var 2) (e_int)) (ss_one (s_ret (e_tup (a_cons (e_fz (e_call H__law_pick.1 hr (by rfl) H__law_pick.2.1 H__law_pick.2.2.1 H__law_pick.2.2.2 (a_cons (e_fz (e_var 0)) (a_cons (e_fz (e_lst (a_cons (e_fz (e_str)) (a_cons (e_fz (e_str)) a_nil)))) a_nil)))) (a_cons (e_fz (e_call H__law_expr.1 hr (by rfl) H__law_expr.2.1 H__law_expr.2.2.1 H__law_expr.2.2.2 (a_cons (e_fz (e_var 0)) (a_cons (e_fz (e_op op_sub sSub (e_var 1) (e_int))) a_nil)))) a_nil))))) ss_nil) (ss_one (s_ret (e_tup (a_cons (e_fz (e_call H__law_pick.1 hr (by rfl) H__law_pick.2.1 H__law_pick.2.2.1 H__law_pick.2.2.2 (a_cons (e_fz (e_var 0)) (a_cons (e_fz (e_lst (a_cons (e_fz (e_str)) (a_cons (e_fz (e_str)) (a_cons (e_fz (e_str)) (a_cons (e_fz (e_str)) (a_cons (e_fz (e_str)) (a_cons (e_fz (e_str)) a_nil)))))))) a_nil)))) (a_cons (e_fz (e_call H__law_expr.1 hr (by rfl) H__law_expr.2.1 H__law_expr.2.2.1 H__law_expr.2.2.2 (a_cons (e_fz (e_var 0)) (a_cons (e_fz (e_op op_sub sSub (e_var 1) (e_int))) a_nil)))) (a_cons (e_fz (e_call H__law_expr.1 hr (by rfl) H__law_expr.2.1 H__law_expr.2.2.1 H__law_expr.2.2.2 (a_cons (e_fz (e_var 0)) (a_cons (e_fz (e_op op_sub sSub (e_var 1) (e_int))) a_nil)))) a_nil))))))))))), D0.2.1, D0.1.kp, D0.2.2⟩
theorem d__law_op {P : Program} {w : World} {K : PySem.W.Frag} {mg : Str → Option Value} {base : Heap} {k : Nat} {f : Addr} {fd : FuncData} (TX : TX K w mg) (D0 : Def0 K mg "_law_op" s__law_op f fd ["w", "many", "names"]) {a__law_expr : Addr} {d__law_expr : FuncData} {f__law_expr : Fn} (H__law_expr : Cal P w K mg base k "_law_expr" a__law_expr d__law_expr ["w", "deep"] f__law_expr) {a__law_next : Addr} {d__law_next : FuncData} {f__law_next : Fn} (H__law_next : Cal P w K mg base k "_law_next" a__law_next d__law_next ["w", "many"] f__law_next) {a__law_pick : Addr} {d__law_pick : FuncData} {f__law_pick : Fn} (H__law_pick : Cal P w K mg base k "_law_pick" a__law_pick d__law_pick ["w", "rows"] f__law_pick) : Cal P w K mg base (k + 1) "_law_op" f fd ["w", "many", "names"] (runFn 5 3 (b__law_op f__law_expr f__law_next f__law_pick)) :=
  ⟨fn_d (N := ["w", "many", "names", "kind", "v"]) (g := b__law_op f__law_expr f__law_next f__law_pick) D0.1 sc__law_op (by decide) fun cdv A outer s H E hr => (show SndSs (cxOf CX0 P w K mg base ["w", "many", "names", "kind", "v"] "_law_op" (defScope s__law_op) f cdv A outer s H E).nox (defBody s__law_op) (b__law_op f__law_expr f__law_next f__law_pick) from (ss_cons (s_par 3 4 rfl sc__law_op.nd rfl rfl (by decide) rfl rfl (a_cons (e_call H__law_next.1 hr (by rfl) H__law_next.2.1 H__law_next.2.2.1 H__law_next.2.2.2 (a_cons (e_fz (e_var 0)) (a_cons (e_fz (e_int)) a_nil))) (a_cons (e_call H__law_pick.1 hr (by rfl) H__law_pick.2.1 H__law_pick.2.2.1 H__law_pick.2.2.2 (a_cons (e_fz (e_var 0)) (a_cons (e_fz (e_lst (a_cons (e_fz (e_str)) (a_cons (e_fz (e_str)) (a_cons (e_fz (e_str)) a_nil))))) a_nil))) a_nil))) (ss_cons (s_if (t_cmp op_lt sLt (nomark _) (e_var 3) (e_int)) (ss_one (s_frz [4] (s_ret (e_tup (a_cons (e_fz (e_str)) (a_cons (e_fz (e_var 4)) (a_cons (e_fz (e_call H__law_expr.1 hr (by rfl) H__law_expr.2.1 H__law_expr.2.2.1 H__law_expr.2.2.2 (a_cons (e_fz (e_var 0)) (a_cons (e_fz (e_int)) a_nil)))) a_nil))))))) ss_nil) (ss_cons (s_if (t_cmp (op_eqG hr.units) sEq (nomark _) (e_var 3) (e_int)) (ss_one (s_ret (e_tup (a_cons (e_fz (e_str)) (a_cons (e_fz (e_call H__law_next.1 hr (by rfl) H__law_next.2.1 H__law_next.2.2.1 H__law_next.2.2.2 (a_cons (e_fz (e_var 0)) (a_cons (e_fz (e_int)) a_nil)))) (a_cons (e_fz (e_call H__law_expr.1 hr (by rfl) H__law_expr.2.1 H__law_expr.2.2.1 H__law_expr.2.2.2 (a_cons (e_fz (e_var 0)) (a_cons (e_fz (e_int)) a_nil)))) a_nil)))))) ss_nil) (ss_cons (s_if (t_cmp (op_eqG hr.units) sEq (nomark _) (e_var 3) (e_int)) (ss_one (s_ret (e_tup (a_cons (e_fz (e_str)) (a_cons (e_fz (e_call H__law_expr.1 hr (by rfl) H__law_expr.2.1 H__law_expr.2.2.1 H__law_expr.2.2.2 (a_cons (e_fz (e_var 0)) (a_cons (e_fz (e_int)) a_nil)))) (a_cons (e_fz (e_call H__law_next.1 hr (by rfl) H__law_next.2.1 H__law_next.2.2.1 H__law_next.2.2.2 (a_cons (e_fz (e_var 0)) (a_cons (e_fz (e_op op_addG sAdd (e_var 1) (e_int))) a_nil)))) a_nil)))))) ss_nil) (ss_cons (s_if (t_w (w_and (t_cmp (op_eqG hr.units) sEq (nomark _) (e_var 3) (e_int)) (w_and1 (t_cmp (op_neG hr.units) sNe (nomark _) (e_var 2) (e_lst a_nil))))) (ss_one (s_frz [4] (s_ret (e_tup (a_cons (e_fz (e_str)) (a_cons (e_fz (e_var 4)) (a_cons (e_fz (e_ix ix_seq sIx (e_var 2) (e_int))) (a_cons (e_fz (e_tup (a_cons (e_fz (e_call H__law_expr.1 hr (by rfl) H__law_expr.2.1 H__law_expr.2.2.1 H__law_expr.2.2.2 (a_cons (e_fz (e_var 0)) (a_cons (e_fz (e_int)) a_nil)))) a_nil))) a_nil)))))))) ss_nil) (ss_cons (s_if (t_cmp (op_eqG hr.units) sEq (nomark _) (e_var 3) (e_int)) (ss_one (s_frz [4] (s_ret (e_tup (a_cons (e_fz (e_str)) (a_cons (e_fz (e_var 4)) a_nil)))))) ss_nil) (ss_cons (s_if (t_cmp (op_eqG hr.units) sEq (nomark _) (e_var 3) (e_int)) (ss_one (s_ret (e_call H__law_pick.1 hr (by rfl) H__law_pick.2.1 H__law_pick.2.2.1 H__law_pick.2.2.2 (a_cons (e_fz (e_var 0)) (a_cons (e_fz (e_lst (a_cons (e_fz (e_tup (a_cons (e_fz (e_str)) (a_cons (e_fz (e_call H__law_expr.1 hr (by rfl) H__law_expr.2.1 H__law_expr.2.2.1 H__law_expr.2.2.2 (a_cons (e_fz (e_var 0)) (a_cons (e_fz (e_int)) a_nil)))) a_nil)))) (a_cons (e_fz (e_tup (a_cons (e_fz (e_str)) (a_cons (e_fz (e_call H__law_next.1 hr (by rfl) H__law_next.2.1 H__law_next.2.2.1 H__law_next.2.2.2 (a_cons (e_fz (e_var 0)) (a_cons (e_fz (e_op op_addG sAdd (e_var 1) (e_int))) a_nil)))) a_nil)))) a_nil)))) a_nil))))) ss_nil) (ss_one (s_ret (e_tup (a_cons (e_fz (e_str)) (a_cons (e_fz (e_call H__law_expr.1 hr (by rfl) H__law_expr.2.1 H__law_expr.2.2.1 H__law_expr.2.2.2 (a_cons (e_fz (e_var 0)) (a_cons (e_fz (e_int)) a_nil)))) a_nil))))))))))))), D0.2.1, D0.1.kp, D0.2.2⟩
theorem d__law_program {P : Program} {w : World} {K : PySem.W.Frag} {mg : Str → Option Value} {base : Heap} {k : Nat} {f : Addr} {fd : FuncData} (TX : TX K w mg) (D0 : Def0 K mg "_law_program" s__law_program f fd ["w"]) {a__law_next : Addr} {d__law_next : FuncData} {f__law_next : Fn} (H__law_next : Cal P w K mg base k "_law_next" a__law_next d__law_next ["w", "many"] f__law_next) {a__law_op : Addr} {d__law_op : FuncData} {f__law_op : Fn} (H__law_op : Cal P w K mg base k "_law_op" a__law_op d__law_op ["w", "many", "names"] f__law_op) : Cal P w K mg base (k + 1) "_law_program" f fd ["w"] (runFn 8 1 (b__law_program f__law_next f__law_op)) :=
  ⟨fn_d (N := ["w", "found", "names", "k", "j", "many", "row", "code"]) (g := b__law_program f__law_next f__law_op) D0.1 sc__law_program (by decide) fun cdv A outer s H E hr => (show SndSs (cxOf CX0 P w K mg base ["w", "found", "names", "k", "j", "many", "row", "code"] "_law_program" (defScope s__law_program) f cdv A outer s H E).nox (defBody s__law_program) (b__law_program f__law_next f__law_op) from (ss_cons (s_par 1 2 rfl sc__law_program.nd rfl rfl (by decide) rfl rfl (a_cons (e_dict0) (a_cons (e_sl sl_any sSl (e_lst (a_cons (e_fz (e_str)) (a_cons (e_fz (e_str)) (a_cons (e_fz (e_str)) a_nil)))) o_none (o_some (e_op op_addG sAdd (e_int) (e_call H__law_next.1 hr (by rfl) H__law_next.2.1 H__law_next.2.2.1 H__law_next.2.2.2 (a_cons (e_fz (e_var 0)) (a_cons (e_fz (e_int)) a_nil)))))) a_nil))) (ss_cons (s_for PassesOwn.never rfl (SndI.x (i_range1 (by rfl) TX.range (a_cons (e_callB call_len sLen (by rfl) TX.len (by decide +kernel) (a_cons (e_var 2) a_nil)) a_nil) (hone := a1_len))) (g_name 3 sc__law_program.nd rfl (by first | exact .inl rfl | exact .inr rfl)) (ss_cons (s_unp3 (i := 5) (j := 6) (l := 7) rfl sc__law_program.nd rfl rfl rfl (by decide) rfl rfl rfl (a_cons (e_op op_addG sAdd (e_int) (e_call H__law_next.1 hr (by rfl) H__law_next.2.1 H__law_next.2.2.1 H__law_next.2.2.2 (a_cons (e_fz (e_var 0)) (a_cons (e_fz (e_int)) a_nil)))) (a_cons (e_op op_addG sAdd (e_int) (e_op op_mul sMul (e_int) (e_var 3))) (a_cons (e_lst a_nil) a_nil)))) (ss_cons (s_for PassesOwn.never rfl (SndI.x (i_range1 (by rfl) TX.range (a_cons (e_var 5) a_nil) (hone := a1_len))) (g_name 4 sc__law_program.nd rfl (by first | exact .inl rfl | exact .inr rfl)) (ss_cons (s_frz [5, 6] (s_app 7 (pv 7) (e_tup (a_cons (e_fz (e_var 6)) (a_cons (e_fz (e_call H__law_op.1 hr (by rfl) H__law_op.2.1 H__law_op.2.2.1 H__law_op.2.2.2 (a_cons (e_fz (e_var 0)) (a_cons (e_fz (e_var 5)) (a_cons (e_fz (e_if (t_cmp op_gt sGt (nomark _) (e_call H__law_next.1 hr (by rfl) H__law_next.2.1 H__law_next.2.2.1 H__law_next.2.2.2 (a_cons (e_fz (e_var 0)) (a_cons (e_fz (e_int)) a_nil))) (e_int)) (e_sl sl_any sSl (e_var 2) (o_some (e_op op_addG sAdd (e_var 3) (e_int))) o_none) (e_sl sl_any sSl (e_var 2) (o_some (e_callB (call_max2 rfl) sMax2 (by rfl) TX.max (by decide +kernel) (a_cons (e_var 3) (a_cons (e_int) a_nil)))) o_none))) a_nil))))) a_nil))))) (ss_one (s_aug 6 sc__law_program.nd rfl (by first | exact .inl rfl | exact .inr rfl) (e_call H__law_next.1 hr (by rfl) H__law_next.2.1 H__law_next.2.2.1 H__law_next.2.2.2 (a_cons (e_fz (e_var 0)) (a_cons (e_fz (e_int)) a_nil))) ip_add sIpAdd)))) (ss_one (s_put 1 hr.units (pv 1) (e_ix ix_seq sIx (e_var 2) (e_var 3)) (e_tup (a_cons (e_fz (e_if (t_cmp (op_eqG hr.units) sEq (nomark _) (e_var 3) (e_int)) (e_tup a_nil) (e_tup (a_cons (e_fz (e_str)) a_nil)))) (a_cons (e_fz (e_callTy call_tupF sTuple (by rfl) TX.tuple (by decide +kernel) (a_cons (e_var 7) a_nil))) a_nil)))))))) (ss_cons (s_if (t_cmp (op_eqG hr.units) sEq (nomark _) (e_call H__law_next.1 hr (by rfl) H__law_next.2.1 H__law_next.2.2.1 H__law_next.2.2.2 (a_cons (e_fz (e_var 0)) (a_cons (e_fz (e_int)) a_nil))) (e_int)) (ss_one (s_put 1 hr.units (pv 1) (e_str) (e_tup (a_cons (e_fz (e_tup a_nil)) (a_cons (e_fz (e_tup (a_cons (e_fz (e_tup (a_cons (e_fz (e_int)) (a_cons (e_fz (e_tup (a_cons (e_fz (e_str)) (a_cons (e_fz (e_str)) a_nil)))) a_nil)))) (a_cons (e_fz (e_tup (a_cons (e_fz (e_int)) (a_cons (e_fz (e_tup (a_cons (e_fz (e_str)) (a_cons (e_fz (e_tup (a_cons (e_fz (e_str)) (a_cons (e_fz (e_tup (a_cons (e_fz (e_str)) (a_cons (e_fz (e_str)) a_nil)))) a_nil)))) (a_cons (e_fz (e_int)) a_nil))))) a_nil)))) (a_cons (e_fz (e_tup (a_cons (e_fz (e_int)) (a_cons (e_fz (e_tup (a_cons (e_fz (e_str)) (a_cons (e_fz (e_str)) (a_cons (e_fz (e_tup (a_cons (e_fz (e_str)) (a_cons (e_fz (e_tup (a_cons (e_fz (e_str)) (a_cons (e_fz (e_str)) a_nil)))) (a_cons (e_fz (e_tup (a_cons (e_fz (e_str)) (a_cons (e_fz (e_str)) a_nil)))) a_nil))))) a_nil))))) a_nil)))) (a_cons (e_fz (e_tup (a_cons (e_fz (e_int)) (a_cons (e_fz (e_tup (a_cons (e_fz (e_str)) (a_cons (e_fz (e_str)) (a_cons (e_fz (e_tup (a_cons (e_fz (e_str)) (a_cons (e_fz (e_tup (a_cons (e_fz (e_str)) (a_cons (e_fz (e_str)) a_nil)))) (a_cons (e_fz (e_int)) a_nil))))) a_nil))))) a_nil)))) (a_cons (e_fz (e_tup (a_cons (e_fz (e_int)) (a_cons (e_fz (e_tup (a_cons (e_fz (e_str)) (a_cons (e_fz (e_int)) (a_cons (e_fz (e_tup (a_cons (e_fz (e_str)) (a_cons (e_fz (e_str)) a_nil)))) a_nil))))) a_nil)))) (a_cons (e_fz (e_tup (a_cons (e_fz (e_int)) (a_cons (e_fz (e_tup (a_cons (e_fz (e_str)) (a_cons (e_fz (e_int)) a_nil)))) a_nil)))) (a_cons (e_fz (e_tup (a_cons (e_fz (e_int)) (a_cons (e_fz (e_tup (a_cons (e_fz (e_str)) (a_cons (e_fz (e_tup (a_cons (e_fz (e_str)) (a_cons (e_fz (e_str)) a_nil)))) a_nil)))) a_nil)))) a_nil))))))))) a_nil))))) ss_nil) (ss_one (s_ret (e_var 1))))))), D0.2.1, D0.1.kp, D0.2.2⟩
theorem d_law {P : Program} {w : World} {K : PySem.W.Frag} {mg : Str → Option Value} {base : Heap} {k : Nat} {f : Addr} {fd : FuncData} (TX : TX K w mg) (D0 : Def0 K mg "law" s_law f fd ["script"]) {a__law_draws : Addr} {d__law_draws : FuncData} {f__law_draws : Fn} (H__law_draws : Cal P w K mg base k "_law_draws" a__law_draws d__law_draws ["script", "many"] f__law_draws) {a_side_by_side : Addr} {d_side_by_side : FuncData} {f_side_by_side : Fn} (H_side_by_side : Cal P w K mg base k "side_by_side" a_side_by_side d_side_by_side ["one", "other"] f_side_by_side) {a__law_alike : Addr} {d__law_alike : FuncData} {f__law_alike : Fn} (H__law_alike : Cal P w K mg base k "_law_alike" a__law_alike d__law_alike ["given", "due"] f__law_alike) {a__law_most : Addr} {d__law_most : FuncData} {f__law_most : Fn} (H__law_most : Cal P w K mg base k "_law_most" a__law_most d__law_most ["one", "other"] f__law_most) {a__law_when : Addr} {d__law_when : FuncData} {f__law_when : Fn} (H__law_when : Cal P w K mg base k "_law_when" a__law_when d__law_when ["run", "k"] f__law_when) {a_when_told : Addr} {d_when_told : FuncData} {f_when_told : Fn} (H_when_told : Cal P w K mg base k "when_told" a_when_told d_when_told ["run", "k"] f_when_told) {a__law_next : Addr} {d__law_next : FuncData} {f__law_next : Fn} (H__law_next : Cal P w K mg base k "_law_next" a__law_next d__law_next ["w", "many"] f__law_next) {a_told_parting : Addr} {d_told_parting : FuncData} {f_told_parting : Fn} (H_told_parting : Cal P w K mg base k "told_parting" a_told_parting d_told_parting ["one", "other"] f_told_parting) {a_first_parting : Addr} {d_first_parting : FuncData} {f_first_parting : Fn} (H_first_parting : Cal P w K mg base k "first_parting" a_first_parting d_first_parting ["one", "other"] f_first_parting) {a__law_inputs : Addr} {d__law_inputs : FuncData} {f__law_inputs : Fn} (H__law_inputs : Cal P w K mg base k "_law_inputs" a__law_inputs d__law_inputs ["w"] f__law_inputs) {a__law_pick : Addr} {d__law_pick : FuncData} {f__law_pick : Fn} (H__law_pick : Cal P w K mg base k "_law_pick" a__law_pick d__law_pick ["w", "rows"] f__law_pick) {a__law_run : Addr} {d__law_run : FuncData} {f__law_run : Fn} (H__law_run : Cal P w K mg base k "_law_run" a__law_run d__law_run ["program", "inputs", "most"] f__law_run) {a__law_program : Addr} {d__law_program : FuncData} {f__law_program : Fn} (H__law_program : Cal P w K mg base k "_law_program" a__law_program d__law_program ["w"] f__law_program)
    (math : ∀ ns : List Int, ns.length ≤ 63 → ∃ ds : List Int, f__law_draws [.scr ns, .int 700] none = some ((.lst (ds.map D.int), .ow), none) ∧ ∃ w', b_law f_side_by_side f__law_alike f__law_most f__law_when f_when_told f__law_next f_told_parting f_first_parting f__law_inputs f__law_pick f__law_run f__law_program ((startE 22 [.scr ns]).set 1 (some (.w, false))) (some ⟨ds, 0⟩) = some (.rt (.bl true, .fz) w')) : FnOk P w K mg base CX0 (k + 1) f fd ["script"] (spLaw K) :=
  law_d (Gd := f__law_draws) (n := 700) (iw := 1) D0.1 sc_law (by decide) rfl (fun cdv A outer s H E hr => ⟨ps_set (i := 1) sc_law.nd rfl (by first | exact .inl rfl | exact .inr rfl) (pe_disp (pps_cons pe_str (e_call H__law_draws.1 hr (by rfl) H__law_draws.2.1 H__law_draws.2.2.1 H__law_draws.2.2.2 (a_cons (e_var 0) (a_cons e_int a_nil))) (pps_cons pe_str pe_int pps_nil)) (by rfl) (by rfl) (fun z => by cases z) (by decide)), (show SndSs (cxOf CX0 P w K mg base ["script", "w", "turn", "at", "bent", "one", "other", "unlike", "k", "program", "inputs", "params", "code", "first", "second", "spots", "others", "table", "i", "j", "due", "state"] "law" (defScope s_law) f cdv A outer s H E).nox (defBody s_law).tail (b_law f_side_by_side f__law_alike f__law_most f__law_when f_when_told f__law_next f_told_parting f_first_parting f__law_inputs f__law_pick f__law_run f__law_program) from (ss_cons (s_for PassesOwn.never rfl (SndI.x (i_range1 (by rfl) TX.range (a_cons (e_int) a_nil) (hone := a1_len))) (g_name 2 sc_law.nd rfl (by first | exact .inl rfl | exact .inr rfl)) (ss_cons (s_frz [1] (s_par 9 10 rfl sc_law.nd rfl rfl (by decide) rfl rfl (a_cons (e_call H__law_program.1 hr (by rfl) H__law_program.2.1 H__law_program.2.2.1 H__law_program.2.2.2 (a_cons (e_fz (e_var 1)) a_nil)) (a_cons (e_call H__law_inputs.1 hr (by rfl) H__law_inputs.2.1 H__law_inputs.2.2.1 H__law_inputs.2.2.2 (a_cons (e_fz (e_var 1)) a_nil)) a_nil)))) (ss_cons (s_unp (e_ix (ix_G hr.units) sIxG (e_var 9) (e_str)) (g_tup rfl (gs_cons (g_name 11 sc_law.nd rfl (by first | exact .inl rfl | exact .inr rfl)) (gs_cons (g_name 12 sc_law.nd rfl (by first | exact .inl rfl | exact .inr rfl)) gs_nil)) rfl)) (ss_cons (s_frz [1] (s_set 3 sc_law.nd rfl (by first | exact .inl rfl | exact .inr rfl) (e_call H__law_next.1 hr (by rfl) H__law_next.2.1 H__law_next.2.2.1 H__law_next.2.2.2 (a_cons (e_fz (e_var 1)) (a_cons (e_fz (e_callB call_len sLen (by rfl) TX.len (by decide +kernel) (a_cons (e_var 12) a_nil))) a_nil))))) (ss_cons (s_frz [1] (s_set 4 sc_law.nd rfl (by first | exact .inl rfl | exact .inr rfl) (e_callTy (call_dict rfl) sDict (by rfl) TX.dict (by decide +kernel) (a_cons (e_op op_addG sAdd (e_itm rfl (by rfl) TX.list (e_var 9)) (e_lst (a_cons (e_fz (e_tup (a_cons (e_fz (e_str)) (a_cons (e_fz (e_tup (a_cons (e_fz (e_var 11)) (a_cons (e_fz (e_op op_addG sAdd (e_op op_addG sAdd (e_sl sl_any sSl (e_var 12) o_none (o_some (e_var 3))) (e_tup (a_cons (e_fz (e_tup (a_cons (e_fz (e_int)) (a_cons (e_fz (e_call H__law_pick.1 hr (by rfl) H__law_pick.2.1 H__law_pick.2.2.1 H__law_pick.2.2.2 (a_cons (e_fz (e_var 1)) (a_cons (e_fz (e_lst (a_cons (e_fz (e_tup (a_cons (e_fz (e_str)) (a_cons (e_fz (e_int)) a_nil)))) (a_cons (e_fz (e_tup (a_cons (e_fz (e_str)) (a_cons (e_fz (e_str)) (a_cons (e_fz (e_int)) a_nil))))) (a_cons (e_fz (e_tup (a_cons (e_fz (e_str)) (a_cons (e_fz (e_op op_addG sAdd (e_var 3) (e_int))) a_nil)))) a_nil))))) a_nil)))) a_nil)))) a_nil))) (e_sl sl_any sSl (e_var 12) (o_some (e_op op_addG sAdd (e_var 3) (e_int))) o_none))) a_nil)))) a_nil)))) a_nil))) a_nil)))) (ss_cons (s_frz [1, 9, 10] (s_set 5 sc_law.nd rfl (by first | exact .inl rfl | exact .inr rfl) (e_call H__law_run.1 hr (by rfl) H__law_run.2.1 H__law_run.2.2.1 H__law_run.2.2.2 (a_cons (e_fz (e_var 9)) (a_cons (e_fz (e_var 10)) (a_cons (e_fz (e_op op_addG sAdd (e_int) (e_call H__law_next.1 hr (by rfl) H__law_next.2.1 H__law_next.2.2.1 H__law_next.2.2.2 (a_cons (e_fz (e_var 1)) (a_cons (e_fz (e_int)) a_nil))))) a_nil)))))) (ss_cons (s_frz [1, 4, 9, 10] (s_set 6 sc_law.nd rfl (by first | exact .inl rfl | exact .inr rfl) (e_call H__law_run.1 hr (by rfl) H__law_run.2.1 H__law_run.2.2.1 H__law_run.2.2.2 (a_cons (e_fz (e_call H__law_pick.1 hr (by rfl) H__law_pick.2.1 H__law_pick.2.2.1 H__law_pick.2.2.2 (a_cons (e_fz (e_var 1)) (a_cons (e_fz (e_lst (a_cons (e_fz (e_var 9)) (a_cons (e_fz (e_var 4)) a_nil)))) a_nil)))) (a_cons (e_fz (e_call H__law_pick.1 hr (by rfl) H__law_pick.2.1 H__law_pick.2.2.1 H__law_pick.2.2.2 (a_cons (e_fz (e_var 1)) (a_cons (e_fz (e_lst (a_cons (e_fz (e_var 10)) (a_cons (e_fz (e_call H__law_inputs.1 hr (by rfl) H__law_inputs.2.1 H__law_inputs.2.2.1 H__law_inputs.2.2.2 (a_cons (e_fz (e_var 1)) a_nil))) a_nil)))) a_nil)))) (a_cons (e_fz (e_op op_addG sAdd (e_int) (e_call H__law_next.1 hr (by rfl) H__law_next.2.1 H__law_next.2.2.1 H__law_next.2.2.2 (a_cons (e_fz (e_var 1)) (a_cons (e_fz (e_int)) a_nil))))) a_nil)))))) (ss_cons (s_frz [8] (s_setLc (own := [("k", 8)]) 7 rfl sc_law.nd rfl rfl (sw_true rfl rfl rfl (by decide +kernel)) (SndI.c (SndI.x (i_range1 (by rfl) TX.range (a_cons (e_callB (call_min2 rfl) sMin2 (by rfl) TX.min (by decide +kernel) (a_cons (e_callB call_len sLen (by rfl) TX.len (by decide +kernel) (a_cons (e_var 5) a_nil)) (a_cons (e_callB call_len sLen (by rfl) TX.len (by decide +kernel) (a_cons (e_var 6) a_nil)) a_nil))) a_nil) (hone := a1_len)))) (blkOk_by (by kernel_rfl)) (by decide) (fun _ _ _ _ _ => (g_name 8 sc_law.nd rfl (by first | exact .inl rfl | exact .inr rfl))) (fun _ _ _ _ _ => (ts_one (t_cmp (op_neG hr.units) sNe (nomark _) (e_ix (ix_G hr.units) sIxG (e_var 5) (e_var 8)) (e_ix (ix_G hr.units) sIxG (e_var 6) (e_var 8))))) (fun _ _ _ _ _ => (e_var 8)))) (ss_cons (s_frz [5, 6] (s_if (t_not (t_tru (e_call H__law_alike.1 hr (by rfl) H__law_alike.2.1 H__law_alike.2.2.1 H__law_alike.2.2.2 (a_cons (e_fz (e_call H_first_parting.1 hr (by rfl) H_first_parting.2.1 H_first_parting.2.2.1 H_first_parting.2.2.2 (a_cons (e_fz (e_var 5)) (a_cons (e_fz (e_var 6)) a_nil)))) (a_cons (e_fz (e_if (t_cmp (op_neG hr.units) sNe (nomark _) (e_var 7) (e_lst a_nil)) (e_ix (ix_G hr.units) sIxG (e_var 7) (e_int)) (e_non))) a_nil))))) (ss_one (s_ret (e_bl))) ss_nil)) (ss_cons (s_unp (e_tup (a_cons (e_fz (e_ix (ix_G hr.units) sIxG (e_ix (ix_G hr.units) sIxG (e_var 5) (e_neg (e_int))) (e_int))) (a_cons (e_fz (e_ix (ix_G hr.units) sIxG (e_ix (ix_G hr.units) sIxG (e_var 6) (e_neg (e_int))) (e_int))) a_nil))) (g_tup rfl (gs_cons (g_name 13 sc_law.nd rfl (by first | exact .inl rfl | exact .inr rfl)) (gs_cons (g_name 14 sc_law.nd rfl (by first | exact .inl rfl | exact .inr rfl)) gs_nil)) rfl)) (ss_cons (s_frz [8] (s_setLc (own := [("k", 8)]) 7 rfl sc_law.nd rfl rfl (sw_true rfl rfl rfl (by decide +kernel)) (SndI.c (SndI.x (i_range1 (by rfl) TX.range (a_cons (e_callB (call_max2 rfl) sMax2 (by rfl) TX.max (by decide +kernel) (a_cons (e_callB call_len sLen (by rfl) TX.len (by decide +kernel) (a_cons (e_var 13) a_nil)) (a_cons (e_callB call_len sLen (by rfl) TX.len (by decide +kernel) (a_cons (e_var 14) a_nil)) a_nil))) a_nil) (hone := a1_len)))) (blkOk_by (by kernel_rfl)) (by decide) (fun _ _ _ _ _ => (g_name 8 sc_law.nd rfl (by first | exact .inl rfl | exact .inr rfl))) (fun _ _ _ _ _ => (ts_one (t_cmp (op_neG hr.units) sNe (nomark _) (e_sl sl_any sSl (e_var 13) (o_some (e_var 8)) (o_some (e_op op_addG sAdd (e_var 8) (e_int)))) (e_sl sl_any sSl (e_var 14) (o_some (e_var 8)) (o_some (e_op op_addG sAdd (e_var 8) (e_int))))))) (fun _ _ _ _ _ => (e_var 8)))) (ss_cons (s_frz [5, 6] (s_if (t_not (t_tru (e_call H__law_alike.1 hr (by rfl) H__law_alike.2.1 H__law_alike.2.2.1 H__law_alike.2.2.2 (a_cons (e_fz (e_call H_told_parting.1 hr (by rfl) H_told_parting.2.1 H_told_parting.2.2.1 H_told_parting.2.2.2 (a_cons (e_fz (e_var 5)) (a_cons (e_fz (e_var 6)) a_nil)))) (a_cons (e_fz (e_if (t_cmp (op_neG hr.units) sNe (nomark _) (e_var 7) (e_lst a_nil)) (e_tup (a_cons (e_fz (e_call H__law_when.1 hr (by rfl) H__law_when.2.1 H__law_when.2.2.1 H__law_when.2.2.2 (a_cons (e_fz (e_var 5)) (a_cons (e_fz (e_ix (ix_G hr.units) sIxG (e_var 7) (e_int))) a_nil)))) (a_cons (e_fz (e_call H__law_when.1 hr (by rfl) H__law_when.2.1 H__law_when.2.2.1 H__law_when.2.2.2 (a_cons (e_fz (e_var 6)) (a_cons (e_fz (e_ix (ix_G hr.units) sIxG (e_var 7) (e_int))) a_nil)))) a_nil))) (e_non))) a_nil))))) (ss_one (s_ret (e_bl))) ss_nil)) (ss_cons (s_frz [1] (s_set 8 sc_law.nd rfl (by first | exact .inl rfl | exact .inr rfl) (e_call H__law_next.1 hr (by rfl) H__law_next.2.1 H__law_next.2.2.1 H__law_next.2.2.2 (a_cons (e_fz (e_var 1)) (a_cons (e_fz (e_int)) a_nil))))) (ss_cons (s_frz [5, 8] (s_if (t_not (t_tru (e_call H__law_alike.1 hr (by rfl) H__law_alike.2.1 H__law_alike.2.2.1 H__law_alike.2.2.2 (a_cons (e_fz (e_call H_when_told.1 hr (by rfl) H_when_told.2.1 H_when_told.2.2.1 H_when_told.2.2.2 (a_cons (e_fz (e_var 5)) (a_cons (e_fz (e_var 8)) a_nil)))) (a_cons (e_fz (e_call H__law_when.1 hr (by rfl) H__law_when.2.1 H__law_when.2.2.1 H__law_when.2.2.2 (a_cons (e_fz (e_var 5)) (a_cons (e_fz (e_var 8)) a_nil)))) a_nil))))) (ss_one (s_ret (e_bl))) ss_nil)) (ss_cons (s_par 15 16 rfl sc_law.nd rfl rfl (by decide) rfl rfl (a_cons (e_lc (own := [("state", 21)]) rfl sc_law.nd (SndC.x (i_seqC (e_var 5))) (blkOk_by (by kernel_rfl)) (by decide) (fun _ _ _ _ _ => (g_name 21 sc_law.nd rfl (by first | exact .inl rfl | exact .inr rfl))) (fun _ _ _ _ _ => (ts_one (t_cmp (op_neG hr.units) sNe (nomark _) (e_ix (ix_G hr.units) sIxG (e_var 21) (e_int)) (e_tup a_nil)))) (fun _ _ _ _ _ => (e_sl sl_any sSl (e_ix (ix_G hr.units) sIxG (e_ix (ix_G hr.units) sIxG (e_var 21) (e_int)) (e_neg (e_int))) o_none (o_some (e_int))))) (a_cons (e_lc (own := [("state", 21)]) rfl sc_law.nd (SndC.x (i_seqC (e_var 6))) (blkOk_by (by kernel_rfl)) (by decide) (fun _ _ _ _ _ => (g_name 21 sc_law.nd rfl (by first | exact .inl rfl | exact .inr rfl))) (fun _ _ _ _ _ => (ts_one (t_cmp (op_neG hr.units) sNe (nomark _) (e_ix (ix_G hr.units) sIxG (e_var 21) (e_int)) (e_tup a_nil)))) (fun _ _ _ _ _ => (e_sl sl_any sSl (e_ix (ix_G hr.units) sIxG (e_ix (ix_G hr.units) sIxG (e_var 21) (e_int)) (e_neg (e_int))) o_none (o_some (e_int))))) a_nil))) (ss_cons (s_frz [15, 16] (s_unpO rfl (a_cons (e_call H__law_most.1 hr (by rfl) H__law_most.2.1 H__law_most.2.2.1 H__law_most.2.2.2 (a_cons (e_fz (e_var 15)) (a_cons (e_fz (e_var 16)) a_nil))) (a_cons (e_int) (a_cons (e_int) (a_cons (e_lst a_nil) a_nil)))) (n_cons (pg_name (i := 17) sc_law.nd rfl (by first | exact .inl rfl | exact .inr rfl)) (n_cons (pg_name (i := 18) sc_law.nd rfl (by first | exact .inl rfl | exact .inr rfl)) (n_cons (pg_name (i := 19) sc_law.nd rfl (by first | exact .inl rfl | exact .inr rfl)) (n_cons (pg_name (i := 20) sc_law.nd rfl (by first | exact .inl rfl | exact .inr rfl)) n_nil)))))) (ss_cons (s_while 100000 PassesOwn.never (t_w (w_and (t_cmp op_lt sLt (nomark _) (e_var 18) (e_callB call_len sLen (by rfl) TX.len (by decide +kernel) (a_cons (e_var 15) a_nil))) (w_and1 (t_cmp op_lt sLt (nomark _) (e_var 19) (e_callB call_len sLen (by rfl) TX.len (by decide +kernel) (a_cons (e_var 16) a_nil)))))) (ss_one (s_if (t_cmp (op_eqG hr.units) sEq (nomark _) (e_ix (ix_G hr.units) sIxG (e_var 15) (e_var 18)) (e_ix (ix_G hr.units) sIxG (e_var 16) (e_var 19))) (ss_one (s_frz [18, 19] (s_unp3 (i := 18) (j := 19) (l := 20) rfl sc_law.nd rfl rfl rfl (by decide) rfl rfl rfl (a_cons (e_op op_addG sAdd (e_var 18) (e_int)) (a_cons (e_op op_addG sAdd (e_var 19) (e_int)) (a_cons (e_op op_addG sAdd (e_var 20) (e_lst (a_cons (e_fz (e_tup (a_cons (e_fz (e_var 18)) (a_cons (e_fz (e_var 19)) a_nil)))) a_nil))) a_nil)))))) (ss_one (s_frz [18, 19] (s_if (t_cmp op_ge sGe (nomark _) (e_ix (ix_G hr.units) sIxG (e_var 17) (e_tup (a_cons (e_fz (e_op op_addG sAdd (e_var 18) (e_int))) (a_cons (e_fz (e_var 19)) a_nil)))) (e_ix (ix_G hr.units) sIxG (e_var 17) (e_tup (a_cons (e_fz (e_var 18)) (a_cons (e_fz (e_op op_addG sAdd (e_var 19) (e_int))) a_nil))))) (ss_one (s_aug 18 sc_law.nd rfl (by first | exact .inl rfl | exact .inr rfl) (e_int) ip_add sIpAdd)) (ss_one (s_aug 19 sc_law.nd rfl (by first | exact .inl rfl | exact .inr rfl) (e_int) ip_add sIpAdd)))))))) (ss_one (s_frz [5, 6] (s_if (t_w (w_or (t_cmp (op_neG hr.units) sNe (nomark _) (e_callB call_len sLen (by rfl) TX.len (by decide +kernel) (a_cons (e_var 20) a_nil)) (e_ix (ix_G hr.units) sIxG (e_var 17) (e_tup (a_cons (e_fz (e_int)) (a_cons (e_fz (e_int)) a_nil))))) (w_or1 (t_not (t_tru (e_call H__law_alike.1 hr (by rfl) H__law_alike.2.1 H__law_alike.2.2.1 H__law_alike.2.2.2 (a_cons (e_fz (e_call H_side_by_side.1 hr (by rfl) H_side_by_side.2.1 H_side_by_side.2.2.1 H_side_by_side.2.2.2 (a_cons (e_fz (e_var 5)) (a_cons (e_fz (e_var 6)) a_nil)))) (a_cons (e_fz (e_callTy call_tupF sTuple (by rfl) TX.tuple (by decide +kernel) (a_cons (e_var 20) a_nil))) a_nil)))))))) (ss_one (s_ret (e_bl))) ss_nil)))))))))))))))))))) (ss_one (s_ret (e_bl)))))⟩) math
end Kk42

set_option Elab.async false
set_option linter.all false
set_option maxRecDepth 100000
set_option maxHeartbeats 4000000
namespace Kk42
open PySem PySem.Spec PyProof.Rows L2 Dl
/-! ### the end -/
section
variable {P : Program} {w : World} {K : PySem.W.Frag} {mg : Str → Option Value} {base : Heap}
theorem r__law_alike {k : Nat} {f : Addr} {fd : FuncData} (TX : TX K w mg) (D0 : Def0 K mg "_law_alike" s__law_alike f fd ["given", "due"]) : ∀ n : Nat, Cal P w K mg base (k + n) "_law_alike" f fd ["given", "due"] (f__law_alike n)
  | 0 => ⟨fn_0, D0.2.1, D0.1.kp, D0.2.2⟩
  | n + 1 => by
    have ih := r__law_alike (k := k) TX D0 n
    exact d__law_alike (k := k + n) TX D0 (ih.up (by omega))
theorem r__law_worth {k : Nat} {f : Addr} {fd : FuncData} (TX : TX K w mg) (D0 : Def0 K mg "_law_worth" s__law_worth f fd ["expr", "variables", "cells"]) : ∀ n : Nat, Cal P w K mg base (k + n) "_law_worth" f fd ["expr", "variables", "cells"] (f__law_worth n)
  | 0 => ⟨fn_0, D0.2.1, D0.1.kp, D0.2.2⟩
  | n + 1 => by
    have ih := r__law_worth (k := k) TX D0 n
    exact d__law_worth (k := k + n) TX D0 (ih.up (by omega))
theorem r__law_expr {k : Nat} {f : Addr} {fd : FuncData} (TX : TX K w mg) (D0 : Def0 K mg "_law_expr" s__law_expr f fd ["w", "deep"]) {a__law_pick : Addr} {d__law_pick : FuncData} (H__law_pick : Cal P w K mg base k "_law_pick" a__law_pick d__law_pick ["w", "rows"] f__law_pick) {a__law_next : Addr} {d__law_next : FuncData} (H__law_next : Cal P w K mg base k "_law_next" a__law_next d__law_next ["w", "many"] f__law_next) : ∀ n : Nat, Cal P w K mg base (k + n) "_law_expr" f fd ["w", "deep"] (f__law_expr n)
  | 0 => ⟨fn_0, D0.2.1, D0.1.kp, D0.2.2⟩
  | n + 1 => by
    have ih := r__law_expr (k := k) TX D0 H__law_pick H__law_next n
    exact d__law_expr (k := k + n) TX D0 (ih.up (by omega)) (H__law_pick.up (by omega)) (H__law_next.up (by omega))
end
abbrev MathT : Prop := ∀ ns : List Int, ns.length ≤ 63 → ∃ ds : List Int, f__law_draws [.scr ns, .int 700] none = some ((.lst (ds.map D.int), .ow), none) ∧ ∃ w', b_law f_side_by_side (f__law_alike 40) f__law_most f__law_when f_when_told f__law_next f_told_parting f_first_parting f__law_inputs f__law_pick f__law_run f__law_program ((startE 22 [.scr ns]).set 1 (some (.w, false))) (some ⟨ds, 0⟩) = some (.rt (.bl true, .fz) w')
set_option maxHeartbeats 16000000 in
theorem all_mk (math : MathT) {l : PySem.W.OpenLaw} {w : World} {K : PySem.W.Frag} {h : Heap} {mg : Str → Option Value} {fa : Addr} (X : K.In h) (G : h.Ns mainGlobals mg) (hfa : mg "law" = some (.ref fa))
    {a0 : Addr} {od0 an0 : Option Addr} {sl0 : Array (Option Value)} {oc0 kV0 dc0 pm0 cd0 ct0 : Value}
    {a1 : Addr} {od1 an1 : Option Addr} {sl1 : Array (Option Value)} {oc1 kV1 dc1 pm1 cd1 ct1 : Value}
    {a2 : Addr} {od2 an2 : Option Addr} {sl2 : Array (Option Value)} {oc2 kV2 dc2 pm2 cd2 ct2 : Value}
    {a3 : Addr} {od3 an3 : Option Addr} {sl3 : Array (Option Value)} {oc3 kV3 dc3 pm3 cd3 ct3 : Value}
    {a4 : Addr} {od4 an4 : Option Addr} {sl4 : Array (Option Value)} {oc4 kV4 dc4 pm4 cd4 ct4 : Value}
    {a5 : Addr} {od5 an5 : Option Addr} {sl5 : Array (Option Value)} {oc5 kV5 dc5 pm5 cd5 ct5 : Value}
    {a6 : Addr} {od6 an6 : Option Addr} {sl6 : Array (Option Value)} {oc6 kV6 dc6 pm6 cd6 ct6 : Value}
    {a7 : Addr} {od7 an7 : Option Addr} {sl7 : Array (Option Value)} {oc7 kV7 dc7 pm7 cd7 ct7 : Value}
    {a8 : Addr} {od8 an8 : Option Addr} {sl8 : Array (Option Value)} {oc8 kV8 dc8 pm8 cd8 ct8 : Value}
    {a9 : Addr} {od9 an9 : Option Addr} {sl9 : Array (Option Value)} {oc9 kV9 dc9 pm9 cd9 ct9 : Value}
    {a10 : Addr} {od10 an10 : Option Addr} {sl10 : Array (Option Value)} {oc10 kV10 dc10 pm10 cd10 ct10 : Value}
    {a11 : Addr} {od11 an11 : Option Addr} {sl11 : Array (Option Value)} {oc11 kV11 dc11 pm11 cd11 ct11 : Value}
    {a12 : Addr} {od12 an12 : Option Addr} {sl12 : Array (Option Value)} {oc12 kV12 dc12 pm12 cd12 ct12 : Value}
    {a13 : Addr} {od13 an13 : Option Addr} {sl13 : Array (Option Value)} {oc13 kV13 dc13 pm13 cd13 ct13 : Value}
    {a14 : Addr} {od14 an14 : Option Addr} {sl14 : Array (Option Value)} {oc14 kV14 dc14 pm14 cd14 ct14 : Value}
    {a15 : Addr} {od15 an15 : Option Addr} {sl15 : Array (Option Value)} {oc15 kV15 dc15 pm15 cd15 ct15 : Value}
    {a16 : Addr} {od16 an16 : Option Addr} {sl16 : Array (Option Value)} {oc16 kV16 dc16 pm16 cd16 ct16 : Value}
    {a17 : Addr} {od17 an17 : Option Addr} {sl17 : Array (Option Value)} {oc17 kV17 dc17 pm17 cd17 ct17 : Value}
    {a18 : Addr} {od18 an18 : Option Addr} {sl18 : Array (Option Value)} {oc18 kV18 dc18 pm18 cd18 ct18 : Value}
    {a19 : Addr} {od19 an19 : Option Addr} {sl19 : Array (Option Value)} {oc19 kV19 dc19 pm19 cd19 ct19 : Value}
    {a20 : Addr} {od20 an20 : Option Addr} {sl20 : Array (Option Value)} {oc20 kV20 dc20 pm20 cd20 ct20 : Value}
    (q0a : PySem.W.nsIn K mainGlobals "_law_draws" = some (some (.ref a0))) (q0b : K.lookup a0 = some ⟨oc0, od0, .func (PySem.W.fnOf "_law_draws" "_law_draws" (defArgs s__law_draws) (defBody s__law_draws) (defScope s__law_draws) .none kV0 dc0 pm0 an0 cd0 ct0), sl0⟩) (q0c : PySem.W.codeIn K cd0 "_law_draws" = true) (q0d : PySem.W.keepIn K (.ref a0) = true)
    (q1a : PySem.W.nsIn K mainGlobals "walk_table" = some (some (.ref a1))) (q1b : K.lookup a1 = some ⟨oc1, od1, .func (PySem.W.fnOf "walk_table" "walk_table" (defArgs s_walk_table) (defBody s_walk_table) (defScope s_walk_table) .none kV1 dc1 pm1 an1 cd1 ct1), sl1⟩) (q1c : PySem.W.codeIn K cd1 "walk_table" = true) (q1d : PySem.W.keepIn K (.ref a1) = true)
    (q2a : PySem.W.nsIn K mainGlobals "spots_of" = some (some (.ref a2))) (q2b : K.lookup a2 = some ⟨oc2, od2, .func (PySem.W.fnOf "spots_of" "spots_of" (defArgs s_spots_of) (defBody s_spots_of) (defScope s_spots_of) .none kV2 dc2 pm2 an2 cd2 ct2), sl2⟩) (q2c : PySem.W.codeIn K cd2 "spots_of" = true) (q2d : PySem.W.keepIn K (.ref a2) = true)
    (q3a : PySem.W.nsIn K mainGlobals "side_by_side" = some (some (.ref a3))) (q3b : K.lookup a3 = some ⟨oc3, od3, .func (PySem.W.fnOf "side_by_side" "side_by_side" (defArgs s_side_by_side) (defBody s_side_by_side) (defScope s_side_by_side) .none kV3 dc3 pm3 an3 cd3 ct3), sl3⟩) (q3c : PySem.W.codeIn K cd3 "side_by_side" = true) (q3d : PySem.W.keepIn K (.ref a3) = true)
    (q4a : PySem.W.nsIn K mainGlobals "_law_alike" = some (some (.ref a4))) (q4b : K.lookup a4 = some ⟨oc4, od4, .func (PySem.W.fnOf "_law_alike" "_law_alike" (defArgs s__law_alike) (defBody s__law_alike) (defScope s__law_alike) .none kV4 dc4 pm4 an4 cd4 ct4), sl4⟩) (q4c : PySem.W.codeIn K cd4 "_law_alike" = true) (q4d : PySem.W.keepIn K (.ref a4) = true)
    (q5a : PySem.W.nsIn K mainGlobals "_law_most" = some (some (.ref a5))) (q5b : K.lookup a5 = some ⟨oc5, od5, .func (PySem.W.fnOf "_law_most" "_law_most" (defArgs s__law_most) (defBody s__law_most) (defScope s__law_most) .none kV5 dc5 pm5 an5 cd5 ct5), sl5⟩) (q5c : PySem.W.codeIn K cd5 "_law_most" = true) (q5d : PySem.W.keepIn K (.ref a5) = true)
    (q6a : PySem.W.nsIn K mainGlobals "_law_when" = some (some (.ref a6))) (q6b : K.lookup a6 = some ⟨oc6, od6, .func (PySem.W.fnOf "_law_when" "_law_when" (defArgs s__law_when) (defBody s__law_when) (defScope s__law_when) .none kV6 dc6 pm6 an6 cd6 ct6), sl6⟩) (q6c : PySem.W.codeIn K cd6 "_law_when" = true) (q6d : PySem.W.keepIn K (.ref a6) = true)
    (q7a : PySem.W.nsIn K mainGlobals "when_told" = some (some (.ref a7))) (q7b : K.lookup a7 = some ⟨oc7, od7, .func (PySem.W.fnOf "when_told" "when_told" (defArgs s_when_told) (defBody s_when_told) (defScope s_when_told) .none kV7 dc7 pm7 an7 cd7 ct7), sl7⟩) (q7c : PySem.W.codeIn K cd7 "when_told" = true) (q7d : PySem.W.keepIn K (.ref a7) = true)
    (q8a : PySem.W.nsIn K mainGlobals "_law_next" = some (some (.ref a8))) (q8b : K.lookup a8 = some ⟨oc8, od8, .func (PySem.W.fnOf "_law_next" "_law_next" (defArgs s__law_next) (defBody s__law_next) (defScope s__law_next) .none kV8 dc8 pm8 an8 cd8 ct8), sl8⟩) (q8c : PySem.W.codeIn K cd8 "_law_next" = true) (q8d : PySem.W.keepIn K (.ref a8) = true)
    (q9a : PySem.W.nsIn K mainGlobals "told_parting" = some (some (.ref a9))) (q9b : K.lookup a9 = some ⟨oc9, od9, .func (PySem.W.fnOf "told_parting" "told_parting" (defArgs s_told_parting) (defBody s_told_parting) (defScope s_told_parting) .none kV9 dc9 pm9 an9 cd9 ct9), sl9⟩) (q9c : PySem.W.codeIn K cd9 "told_parting" = true) (q9d : PySem.W.keepIn K (.ref a9) = true)
    (q10a : PySem.W.nsIn K mainGlobals "first_parting" = some (some (.ref a10))) (q10b : K.lookup a10 = some ⟨oc10, od10, .func (PySem.W.fnOf "first_parting" "first_parting" (defArgs s_first_parting) (defBody s_first_parting) (defScope s_first_parting) .none kV10 dc10 pm10 an10 cd10 ct10), sl10⟩) (q10c : PySem.W.codeIn K cd10 "first_parting" = true) (q10d : PySem.W.keepIn K (.ref a10) = true)
    (q11a : PySem.W.nsIn K mainGlobals "_law_inputs" = some (some (.ref a11))) (q11b : K.lookup a11 = some ⟨oc11, od11, .func (PySem.W.fnOf "_law_inputs" "_law_inputs" (defArgs s__law_inputs) (defBody s__law_inputs) (defScope s__law_inputs) .none kV11 dc11 pm11 an11 cd11 ct11), sl11⟩) (q11c : PySem.W.codeIn K cd11 "_law_inputs" = true) (q11d : PySem.W.keepIn K (.ref a11) = true)
    (q12a : PySem.W.nsIn K mainGlobals "_law_pick" = some (some (.ref a12))) (q12b : K.lookup a12 = some ⟨oc12, od12, .func (PySem.W.fnOf "_law_pick" "_law_pick" (defArgs s__law_pick) (defBody s__law_pick) (defScope s__law_pick) .none kV12 dc12 pm12 an12 cd12 ct12), sl12⟩) (q12c : PySem.W.codeIn K cd12 "_law_pick" = true) (q12d : PySem.W.keepIn K (.ref a12) = true)
    (q13a : PySem.W.nsIn K mainGlobals "_law_frozen" = some (some (.ref a13))) (q13b : K.lookup a13 = some ⟨oc13, od13, .func (PySem.W.fnOf "_law_frozen" "_law_frozen" (defArgs s__law_frozen) (defBody s__law_frozen) (defScope s__law_frozen) .none kV13 dc13 pm13 an13 cd13 ct13), sl13⟩) (q13c : PySem.W.codeIn K cd13 "_law_frozen" = true) (q13d : PySem.W.keepIn K (.ref a13) = true)
    (q14a : PySem.W.nsIn K mainGlobals "_law_worth" = some (some (.ref a14))) (q14b : K.lookup a14 = some ⟨oc14, od14, .func (PySem.W.fnOf "_law_worth" "_law_worth" (defArgs s__law_worth) (defBody s__law_worth) (defScope s__law_worth) .none kV14 dc14 pm14 an14 cd14 ct14), sl14⟩) (q14c : PySem.W.codeIn K cd14 "_law_worth" = true) (q14d : PySem.W.keepIn K (.ref a14) = true)
    (q15a : PySem.W.nsIn K mainGlobals "_law_step" = some (some (.ref a15))) (q15b : K.lookup a15 = some ⟨oc15, od15, .func (PySem.W.fnOf "_law_step" "_law_step" (defArgs s__law_step) (defBody s__law_step) (defScope s__law_step) .none kV15 dc15 pm15 an15 cd15 ct15), sl15⟩) (q15c : PySem.W.codeIn K cd15 "_law_step" = true) (q15d : PySem.W.keepIn K (.ref a15) = true)
    (q16a : PySem.W.nsIn K mainGlobals "_law_run" = some (some (.ref a16))) (q16b : K.lookup a16 = some ⟨oc16, od16, .func (PySem.W.fnOf "_law_run" "_law_run" (defArgs s__law_run) (defBody s__law_run) (defScope s__law_run) .none kV16 dc16 pm16 an16 cd16 ct16), sl16⟩) (q16c : PySem.W.codeIn K cd16 "_law_run" = true) (q16d : PySem.W.keepIn K (.ref a16) = true)
    (q17a : PySem.W.nsIn K mainGlobals "_law_expr" = some (some (.ref a17))) (q17b : K.lookup a17 = some ⟨oc17, od17, .func (PySem.W.fnOf "_law_expr" "_law_expr" (defArgs s__law_expr) (defBody s__law_expr) (defScope s__law_expr) .none kV17 dc17 pm17 an17 cd17 ct17), sl17⟩) (q17c : PySem.W.codeIn K cd17 "_law_expr" = true) (q17d : PySem.W.keepIn K (.ref a17) = true)
    (q18a : PySem.W.nsIn K mainGlobals "_law_op" = some (some (.ref a18))) (q18b : K.lookup a18 = some ⟨oc18, od18, .func (PySem.W.fnOf "_law_op" "_law_op" (defArgs s__law_op) (defBody s__law_op) (defScope s__law_op) .none kV18 dc18 pm18 an18 cd18 ct18), sl18⟩) (q18c : PySem.W.codeIn K cd18 "_law_op" = true) (q18d : PySem.W.keepIn K (.ref a18) = true)
    (q19a : PySem.W.nsIn K mainGlobals "_law_program" = some (some (.ref a19))) (q19b : K.lookup a19 = some ⟨oc19, od19, .func (PySem.W.fnOf "_law_program" "_law_program" (defArgs s__law_program) (defBody s__law_program) (defScope s__law_program) .none kV19 dc19 pm19 an19 cd19 ct19), sl19⟩) (q19c : PySem.W.codeIn K cd19 "_law_program" = true) (q19d : PySem.W.keepIn K (.ref a19) = true)
    (q20a : PySem.W.nsIn K mainGlobals "law" = some (some (.ref a20))) (q20b : K.lookup a20 = some ⟨oc20, od20, .func (PySem.W.fnOf "law" "law" (defArgs s_law) (defBody s_law) (defScope s_law) .none kV20 dc20 pm20 an20 cd20 ct20), sl20⟩) (q20c : PySem.W.codeIn K cd20 "law" = true) (q20d : PySem.W.keepIn K (.ref a20) = true)
    (z0 : PySem.W.nsIn K mainGlobals "range" = some none) (z1 : PySem.W.nsIn K mainGlobals "int" = some none) (z2 : PySem.W.nsIn K mainGlobals "len" = some none) (z3 : PySem.W.nsIn K mainGlobals "abs" = some none) (z4 : PySem.W.nsIn K mainGlobals "tuple" = some none) (z5 : PySem.W.nsIn K mainGlobals "max" = some none) (z6 : PySem.W.nsIn K mainGlobals "str" = some none) (z7 : PySem.W.nsIn K mainGlobals "isinstance" = some none) (z8 : PySem.W.nsIn K mainGlobals "bool" = some none) (z9 : PySem.W.nsIn K mainGlobals "min" = some none) (z10 : PySem.W.nsIn K mainGlobals "sorted" = some none) (z11 : PySem.W.nsIn K mainGlobals "dict" = some none) (z12 : PySem.W.nsIn K mainGlobals "list" = some none) :
    ∃ fd : FuncData, (∀ (s : Shared) (v : Value), BindsTo s fd ⟨[v], []⟩ [("script", v)]) ∧ ∀ base : Heap, K.In base → base.Ns mainGlobals mg → FnOk l.prog w K mg base CX0 45 fa fd ["script"] (spLaw K) := by
  have e := hfa.symm.trans (PySem.W.mg_of X G q20a)
  cases e
  have TX1 : TX K w mg := ⟨PySem.W.mg_none_of X G z0, PySem.W.mg_none_of X G z1, PySem.W.mg_none_of X G z2, PySem.W.mg_none_of X G z3, PySem.W.mg_none_of X G z4, PySem.W.mg_none_of X G z5, PySem.W.mg_none_of X G z6, PySem.W.mg_none_of X G z7, PySem.W.mg_none_of X G z8, PySem.W.mg_none_of X G z9, PySem.W.mg_none_of X G z10, PySem.W.mg_none_of X G z11, PySem.W.mg_none_of X G z12⟩
  have F0 := fun_mk (st := s__law_draws) q0b q0c q0d
  have D0 : Def0 K mg "_law_draws" s__law_draws a0 _ ["script", "many"] := ⟨F0, PySem.W.mg_of X G q0a, F0.binds (ps := ["script", "many"]) fun _ _ _ _ _ _ us hl => match us, hl with | [_, _], _ => rfl⟩
  have F1 := fun_mk (st := s_walk_table) q1b q1c q1d
  have D1 : Def0 K mg "walk_table" s_walk_table a1 _ ["spots", "others", "table"] := ⟨F1, PySem.W.mg_of X G q1a, F1.binds (ps := ["spots", "others", "table"]) fun _ _ _ _ _ _ us hl => match us, hl with | [_, _, _], _ => rfl⟩
  have F2 := fun_mk (st := s_spots_of) q2b q2c q2d
  have D2 : Def0 K mg "spots_of" s_spots_of a2 _ ["run"] := ⟨F2, PySem.W.mg_of X G q2a, F2.binds (ps := ["run"]) fun _ _ _ _ _ _ us hl => match us, hl with | [_], _ => rfl⟩
  have F3 := fun_mk (st := s_side_by_side) q3b q3c q3d
  have D3 : Def0 K mg "side_by_side" s_side_by_side a3 _ ["one", "other"] := ⟨F3, PySem.W.mg_of X G q3a, F3.binds (ps := ["one", "other"]) fun _ _ _ _ _ _ us hl => match us, hl with | [_, _], _ => rfl⟩
  have F4 := fun_mk (st := s__law_alike) q4b q4c q4d
  have D4 : Def0 K mg "_law_alike" s__law_alike a4 _ ["given", "due"] := ⟨F4, PySem.W.mg_of X G q4a, F4.binds (ps := ["given", "due"]) fun _ _ _ _ _ _ us hl => match us, hl with | [_, _], _ => rfl⟩
  have F5 := fun_mk (st := s__law_most) q5b q5c q5d
  have D5 : Def0 K mg "_law_most" s__law_most a5 _ ["one", "other"] := ⟨F5, PySem.W.mg_of X G q5a, F5.binds (ps := ["one", "other"]) fun _ _ _ _ _ _ us hl => match us, hl with | [_, _], _ => rfl⟩
  have F6 := fun_mk (st := s__law_when) q6b q6c q6d
  have D6 : Def0 K mg "_law_when" s__law_when a6 _ ["run", "k"] := ⟨F6, PySem.W.mg_of X G q6a, F6.binds (ps := ["run", "k"]) fun _ _ _ _ _ _ us hl => match us, hl with | [_, _], _ => rfl⟩
  have F7 := fun_mk (st := s_when_told) q7b q7c q7d
  have D7 : Def0 K mg "when_told" s_when_told a7 _ ["run", "k"] := ⟨F7, PySem.W.mg_of X G q7a, F7.binds (ps := ["run", "k"]) fun _ _ _ _ _ _ us hl => match us, hl with | [_, _], _ => rfl⟩
  have F8 := fun_mk (st := s__law_next) q8b q8c q8d
  have D8 : Def0 K mg "_law_next" s__law_next a8 _ ["w", "many"] := ⟨F8, PySem.W.mg_of X G q8a, F8.binds (ps := ["w", "many"]) fun _ _ _ _ _ _ us hl => match us, hl with | [_, _], _ => rfl⟩
  have F9 := fun_mk (st := s_told_parting) q9b q9c q9d
  have D9 : Def0 K mg "told_parting" s_told_parting a9 _ ["one", "other"] := ⟨F9, PySem.W.mg_of X G q9a, F9.binds (ps := ["one", "other"]) fun _ _ _ _ _ _ us hl => match us, hl with | [_, _], _ => rfl⟩
  have F10 := fun_mk (st := s_first_parting) q10b q10c q10d
  have D10 : Def0 K mg "first_parting" s_first_parting a10 _ ["one", "other"] := ⟨F10, PySem.W.mg_of X G q10a, F10.binds (ps := ["one", "other"]) fun _ _ _ _ _ _ us hl => match us, hl with | [_, _], _ => rfl⟩
  have F11 := fun_mk (st := s__law_inputs) q11b q11c q11d
  have D11 : Def0 K mg "_law_inputs" s__law_inputs a11 _ ["w"] := ⟨F11, PySem.W.mg_of X G q11a, F11.binds (ps := ["w"]) fun _ _ _ _ _ _ us hl => match us, hl with | [_], _ => rfl⟩
  have F12 := fun_mk (st := s__law_pick) q12b q12c q12d
  have D12 : Def0 K mg "_law_pick" s__law_pick a12 _ ["w", "rows"] := ⟨F12, PySem.W.mg_of X G q12a, F12.binds (ps := ["w", "rows"]) fun _ _ _ _ _ _ us hl => match us, hl with | [_, _], _ => rfl⟩
  have F13 := fun_mk (st := s__law_frozen) q13b q13c q13d
  have D13 : Def0 K mg "_law_frozen" s__law_frozen a13 _ ["table"] := ⟨F13, PySem.W.mg_of X G q13a, F13.binds (ps := ["table"]) fun _ _ _ _ _ _ us hl => match us, hl with | [_], _ => rfl⟩
  have F14 := fun_mk (st := s__law_worth) q14b q14c q14d
  have D14 : Def0 K mg "_law_worth" s__law_worth a14 _ ["expr", "variables", "cells"] := ⟨F14, PySem.W.mg_of X G q14a, F14.binds (ps := ["expr", "variables", "cells"]) fun _ _ _ _ _ _ us hl => match us, hl with | [_, _, _], _ => rfl⟩
  have F15 := fun_mk (st := s__law_step) q15b q15c q15d
  have D15 : Def0 K mg "_law_step" s__law_step a15 _ ["program", "inputs", "state"] := ⟨F15, PySem.W.mg_of X G q15a, F15.binds (ps := ["program", "inputs", "state"]) fun _ _ _ _ _ _ us hl => match us, hl with | [_, _, _], _ => rfl⟩
  have F16 := fun_mk (st := s__law_run) q16b q16c q16d
  have D16 : Def0 K mg "_law_run" s__law_run a16 _ ["program", "inputs", "most"] := ⟨F16, PySem.W.mg_of X G q16a, F16.binds (ps := ["program", "inputs", "most"]) fun _ _ _ _ _ _ us hl => match us, hl with | [_, _, _], _ => rfl⟩
  have F17 := fun_mk (st := s__law_expr) q17b q17c q17d
  have D17 : Def0 K mg "_law_expr" s__law_expr a17 _ ["w", "deep"] := ⟨F17, PySem.W.mg_of X G q17a, F17.binds (ps := ["w", "deep"]) fun _ _ _ _ _ _ us hl => match us, hl with | [_, _], _ => rfl⟩
  have F18 := fun_mk (st := s__law_op) q18b q18c q18d
  have D18 : Def0 K mg "_law_op" s__law_op a18 _ ["w", "many", "names"] := ⟨F18, PySem.W.mg_of X G q18a, F18.binds (ps := ["w", "many", "names"]) fun _ _ _ _ _ _ us hl => match us, hl with | [_, _, _], _ => rfl⟩
  have F19 := fun_mk (st := s__law_program) q19b q19c q19d
  have D19 : Def0 K mg "_law_program" s__law_program a19 _ ["w"] := ⟨F19, PySem.W.mg_of X G q19a, F19.binds (ps := ["w"]) fun _ _ _ _ _ _ us hl => match us, hl with | [_], _ => rfl⟩
  have F20 := fun_mk (st := s_law) q20b q20c q20d
  have D20 : Def0 K mg "law" s_law fa _ ["script"] := ⟨F20, PySem.W.mg_of X G q20a, F20.binds (ps := ["script"]) fun _ _ _ _ _ _ us hl => match us, hl with | [_], _ => rfl⟩
  refine ⟨PySem.W.fnOf "law" "law" (defArgs s_law) (defBody s_law) (defScope s_law) .none kV20 dc20 pm20 an20 cd20 ct20, fun s v => .of_eq rfl, fun base _ _ => ?_⟩
  have C0 : Cal l.prog w K mg base 1 "_law_draws" a0 _ ["script", "many"] f__law_draws := d__law_draws (k := 0) TX1 D0 
  have C1 : Cal l.prog w K mg base 1 "walk_table" a1 _ ["spots", "others", "table"] f_walk_table := d_walk_table (k := 0) TX1 D1 
  have C2 : Cal l.prog w K mg base 1 "spots_of" a2 _ ["run"] f_spots_of := d_spots_of (k := 0) TX1 D2 
  have C3 : Cal l.prog w K mg base 2 "side_by_side" a3 _ ["one", "other"] f_side_by_side := d_side_by_side (k := 1) TX1 D3 (C1.up (by decide)) (C2.up (by decide))
  have C4 : Cal l.prog w K mg base 40 "_law_alike" a4 _ ["given", "due"] (f__law_alike 40) := (r__law_alike (k := 0) TX1 D4  40).up (by decide)
  have C5 : Cal l.prog w K mg base 1 "_law_most" a5 _ ["one", "other"] f__law_most := d__law_most (k := 0) TX1 D5 
  have C6 : Cal l.prog w K mg base 1 "_law_when" a6 _ ["run", "k"] f__law_when := d__law_when (k := 0) TX1 D6 
  have C7 : Cal l.prog w K mg base 1 "when_told" a7 _ ["run", "k"] f_when_told := d_when_told (k := 0) TX1 D7 
  have C8 : Cal l.prog w K mg base 1 "_law_next" a8 _ ["w", "many"] f__law_next := d__law_next (k := 0) TX1 D8 
  have C9 : Cal l.prog w K mg base 2 "told_parting" a9 _ ["one", "other"] f_told_parting := d_told_parting (k := 1) TX1 D9 (C7.up (by decide))
  have C10 : Cal l.prog w K mg base 1 "first_parting" a10 _ ["one", "other"] f_first_parting := d_first_parting (k := 0) TX1 D10 
  have C11 : Cal l.prog w K mg base 2 "_law_inputs" a11 _ ["w"] f__law_inputs := d__law_inputs (k := 1) TX1 D11 (C8.up (by decide))
  have C12 : Cal l.prog w K mg base 2 "_law_pick" a12 _ ["w", "rows"] f__law_pick := d__law_pick (k := 1) TX1 D12 (C8.up (by decide))
  have C13 : Cal l.prog w K mg base 1 "_law_frozen" a13 _ ["table"] f__law_frozen := d__law_frozen (k := 0) TX1 D13 
  have C14 : Cal l.prog w K mg base 40 "_law_worth" a14 _ ["expr", "variables", "cells"] (f__law_worth 40) := (r__law_worth (k := 0) TX1 D14  40).up (by decide)
  have C15 : Cal l.prog w K mg base 41 "_law_step" a15 _ ["program", "inputs", "state"] f__law_step := d__law_step (k := 40) TX1 D15 (C13.up (by decide)) (C14.up (by decide))
  have C16 : Cal l.prog w K mg base 42 "_law_run" a16 _ ["program", "inputs", "most"] f__law_run := d__law_run (k := 41) TX1 D16 (C15.up (by decide))
  have C17 : Cal l.prog w K mg base 42 "_law_expr" a17 _ ["w", "deep"] (f__law_expr 40) := (r__law_expr (k := 2) TX1 D17 (C12.up (by decide)) (C8.up (by decide)) 40).up (by decide)
  have C18 : Cal l.prog w K mg base 43 "_law_op" a18 _ ["w", "many", "names"] f__law_op := d__law_op (k := 42) TX1 D18 (C17.up (by decide)) (C8.up (by decide)) (C12.up (by decide))
  have C19 : Cal l.prog w K mg base 44 "_law_program" a19 _ ["w"] f__law_program := d__law_program (k := 43) TX1 D19 (C8.up (by decide)) (C18.up (by decide))
  exact d_law (k := 44) TX1 D20 (C0.up (by decide)) (C3.up (by decide)) (C4.up (by decide)) (C5.up (by decide)) (C6.up (by decide)) (C7.up (by decide)) (C8.up (by decide)) (C9.up (by decide)) (C10.up (by decide)) (C11.up (by decide)) (C12.up (by decide)) (C16.up (by decide)) (C19.up (by decide)) math
end Kk42

set_option Elab.async false
set_option linter.all false
set_option maxRecDepth 100000
set_option maxHeartbeats 4000000
namespace Kk42
open PySem PySem.Spec PyProof.Rows L2 Dl
/-! side by side, plain: as many pairs as can be -/
section
variable {α : Type} (e : α → α → Bool)
def lcs : List α → List α → Nat
  | [], _ => 0
  | _ :: _, [] => 0
  | x :: xs, y :: ys => if e x y = true then 1 + lcs xs ys else max (lcs xs (y :: ys)) (lcs (x :: xs) ys)
termination_by xs ys => xs.length + ys.length
theorem lcs_nil (xs : List α) : lcs e xs [] = 0 := by cases xs <;> simp [lcs]
theorem lcs_nil' (ys : List α) : lcs e [] ys = 0 := by simp [lcs]
theorem lcs_cons (x y : α) (xs ys : List α) : lcs e (x :: xs) (y :: ys) = if e x y = true then 1 + lcs e xs ys else max (lcs e xs (y :: ys)) (lcs e (x :: xs) ys) := by rw [lcs]
theorem lcs_all : ∀ (n : Nat) (xs ys : List α), xs.length + ys.length ≤ n → (∀ x, lcs e xs ys ≤ lcs e (x :: xs) ys ∧ lcs e (x :: xs) ys ≤ 1 + lcs e xs ys) ∧ (∀ y, lcs e xs ys ≤ lcs e xs (y :: ys) ∧ lcs e xs (y :: ys) ≤ 1 + lcs e xs ys)
  | 0, xs, ys, h => by
    have h1 : xs = [] := List.eq_nil_of_length_eq_zero (by omega)
    have h2 : ys = [] := List.eq_nil_of_length_eq_zero (by omega)
    subst h1 h2
    refine ⟨fun x => ?_, fun y => ?_⟩
    · rw [lcs_nil, lcs_nil]; omega
    · rw [lcs_nil', lcs_nil']; omega
  | n + 1, xs, ys, h => by
    refine ⟨fun x => ?_, fun y => ?_⟩
    · cases ys with
      | nil => rw [lcs_nil, lcs_nil]; omega
      | cons y ys =>
        have a := (lcs_all n xs ys (by simp at h; omega)).2 y
        have b := (lcs_all n xs ys (by simp at h; omega)).1 x
        rw [lcs_cons]
        split <;> omega
    · cases xs with
      | nil => rw [lcs_nil', lcs_nil']; omega
      | cons x xs =>
        have a := (lcs_all n xs ys (by simp at h; omega)).1 x
        have b := (lcs_all n xs ys (by simp at h; omega)).2 y
        rw [lcs_cons]
        split <;> omega
/-- the other way to count -/
theorem lcs_law (x y : α) (xs ys : List α) : lcs e (x :: xs) (y :: ys) = max (max (lcs e xs (y :: ys)) (lcs e (x :: xs) ys)) (lcs e xs ys + if e x y = true then 1 else 0) := by
  have a := (lcs_all e _ xs ys (Nat.le_refl _)).1 x
  have b := (lcs_all e _ xs ys (Nat.le_refl _)).2 y
  rw [lcs_cons]
  split <;> omega
/-- the way through the table -/
def wlk : List α → List α → Nat → Nat → List (Nat × Nat)
  | [], _, _, _ => []
  | _ :: _, [], _, _ => []
  | x :: xs, y :: ys, i, j => if e x y = true then (i, j) :: wlk xs ys (i + 1) (j + 1) else if lcs e (x :: xs) ys ≤ lcs e xs (y :: ys) then wlk xs (y :: ys) (i + 1) j else wlk (x :: xs) ys i (j + 1)
termination_by xs ys => xs.length + ys.length
theorem wlk_nil (xs : List α) (i j : Nat) : wlk e xs [] i j = [] := by cases xs <;> simp [wlk]
theorem wlk_nil' (ys : List α) (i j : Nat) : wlk e [] ys i j = [] := by simp [wlk]
theorem wlk_cons (x y : α) (xs ys : List α) (i j : Nat) : wlk e (x :: xs) (y :: ys) i j = if e x y = true then (i, j) :: wlk e xs ys (i + 1) (j + 1) else if lcs e (x :: xs) ys ≤ lcs e xs (y :: ys) then wlk e xs (y :: ys) (i + 1) j else wlk e (x :: xs) ys i (j + 1) := by rw [wlk]
theorem wlk_len : ∀ (n : Nat) (xs ys : List α) (i j : Nat), xs.length + ys.length ≤ n → (wlk e xs ys i j).length = lcs e xs ys
  | n, [], ys, i, j, h => by rw [wlk_nil', lcs_nil']; rfl
  | n, x :: xs, [], i, j, h => by rw [wlk_nil, lcs_nil]; rfl
  | 0, x :: xs, y :: ys, i, j, h => by simp at h
  | n + 1, x :: xs, y :: ys, i, j, h => by
    simp at h
    rw [wlk_cons, lcs_cons]
    by_cases h1 : e x y = true
    · rw [if_pos h1, if_pos h1, List.length_cons, wlk_len n xs ys _ _ (by omega)]; omega
    · rw [if_neg h1, if_neg h1]
      by_cases h2 : lcs e (x :: xs) ys ≤ lcs e xs (y :: ys)
      · rw [if_pos h2, wlk_len n xs (y :: ys) _ _ (by simp; omega)]; omega
      · rw [if_neg h2, wlk_len n (x :: xs) ys _ _ (by simp; omega)]; omega
theorem wlk_le : ∀ (n : Nat) (xs ys : List α) (i j : Nat), xs.length + ys.length ≤ n → (wlk e xs ys i j).length ≤ n := fun n xs ys i j h => by
  have hx : ∀ (n : Nat) (xs ys : List α), xs.length + ys.length ≤ n → lcs e xs ys ≤ n := by
    intro n
    induction n with
    | zero =>
      intro xs ys h
      have h1 : xs = [] := List.eq_nil_of_length_eq_zero (by omega)
      subst h1
      rw [lcs_nil']; omega
    | succ n ih =>
      intro xs ys h
      cases xs with
      | nil => rw [lcs_nil']; omega
      | cons x xs => cases ys with
        | nil => rw [lcs_nil]; omega
        | cons y ys =>
          simp at h
          have a := ih xs ys (by omega)
          have b := ih xs (y :: ys) (by simp; omega)
          have c := ih (x :: xs) ys (by simp; omega)
          rw [lcs_cons]
          split <;> omega
  rw [wlk_len e n xs ys i j h]
  exact hx n xs ys h
end
end Kk42

set_option Elab.async false
set_option linter.all false
set_option maxRecDepth 100000
set_option maxHeartbeats 4000000
namespace Kk42
open PySem PySem.Spec PyProof.Rows L2 Dl
abbrev O := Option (D × Bool)
/-! tables -/
structure TInv (T : Nat → Nat → Nat) (done : Nat → Nat → Prop) (ks ds : List D) : Prop where
  len : ks.length = ds.length
  get : ∀ i j, done i j → dtFind ks ds (nk2 i j) = some (iN (T i j))
theorem TInv.put {T : Nat → Nat → Nat} {done done' : Nat → Nat → Prop} {ks ds : List D} (h : TInv T done ks ds) (i j : Nat) (hd : ∀ a b, done' a b → done a b ∨ (a = i ∧ b = j)) : TInv T done' (dtPut ks ds (ij i j) (nk2 i j) (iN (T i j))).1 (dtPut ks ds (ij i j) (nk2 i j) (iN (T i j))).2 ∧ (dtPut ks ds (ij i j) (nk2 i j) (iN (T i j))).1.length ≤ ks.length + 1 := by
  obtain ⟨p1, p2⟩ := put_len (j := nk2 i j) (kd := ij i j) (x := iN (T i j)) h.len
  refine ⟨⟨p1, fun a b hab => ?_⟩, p2⟩
  rw [find_put (nkD_ij i j) h.len]
  by_cases e : nk2 i j = nk2 a b
  · obtain ⟨e1, e2⟩ := nk2_inj e
    subst e1 e2
    rw [if_pos rfl]
  · rw [if_neg e]
    rcases hd a b hab with h1 | ⟨h1, h2⟩
    · exact h.get a b h1
    · subst h1 h2; exact absurd rfl e
/-- spots that can be compared -/
def Sp (xs : List D) : Prop := xs.length ≤ 30 ∧ ∀ x ∈ xs, ∃ l, x = .tup l ∧ fine 64 x = true
theorem sp_eq {xs ys : List D} (hx : Sp xs) (hy : Sp ys) {i j : Nat} (hi : i < xs.length) (hj : j < ys.length) : els2 (dEqF false) (dEqD false) xs[i] ys[j] = some (.bl (eqB xs[i] ys[j]), .fz) := by
  obtain ⟨l, e1, f1⟩ := hx.2 xs[i] (List.getElem_mem hi)
  obtain ⟨l2, e2, f2⟩ := hy.2 ys[j] (List.getElem_mem hj)
  rw [e1] at f1 ⊢
  rw [e2] at f2 ⊢
  exact dEq_tt f1 f2
def T (xs ys : List D) (i j : Nat) : Nat := lcs eqB (xs.drop i) (ys.drop j)
theorem T_end {xs ys : List D} {i j : Nat} (h : i = xs.length ∨ j = ys.length) : T xs ys i j = 0 := by
  unfold T
  rcases h with h | h
  · rw [h, List.drop_length, lcs_nil']
  · rw [h, List.drop_length, lcs_nil]
theorem T_step {xs ys : List D} {i j : Nat} (hi : i < xs.length) (hj : j < ys.length) : T xs ys i j = if eqB xs[i] ys[j] = true then 1 + T xs ys (i + 1) (j + 1) else max (T xs ys (i + 1) j) (T xs ys i (j + 1)) := by
  unfold T
  rw [List.drop_eq_getElem_cons hi, List.drop_eq_getElem_cons hj, lcs_cons]
theorem T_law {xs ys : List D} {i j : Nat} (hi : i < xs.length) (hj : j < ys.length) : T xs ys i j = max (max (T xs ys (i + 1) j) (T xs ys i (j + 1))) (T xs ys (i + 1) (j + 1) + if eqB xs[i] ys[j] = true then 1 else 0) := by
  unfold T
  rw [List.drop_eq_getElem_cons hi, List.drop_eq_getElem_cons hj, lcs_law]
/-- what is done ahead of (i, j) -/
def dn (n m : Nat) (i j : Int) : Nat → Nat → Prop := fun a b => a ≤ n ∧ b ≤ m ∧ ((i < a) ∨ ((a : Int) = i ∧ j < b))
section
variable {w : Option Wd} {xs ys : List D} {s0 s1 s5 s6 : O}
abbrev SE (xs ys : List D) (ks ds : List D) (s0 s1 s5 s6 : O) : En := [s0, s1, some (.lst xs, true), some (.lst ys, true), some (.dt ks ds, true), s5, s6]
def bInS : Dl.SB := (sIf ((tOrr (tVal (eOp dEq (eVar 5) (eA dLen (aCons (eVar 2) aNil)))) (tVal (eOp dEq (eVar 6) (eA dLen (aCons (eVar 3) aNil)))))) (sPut 4 (eTup (aCons (eFz (eVar 5)) (aCons (eFz (eVar 6)) aNil))) (eC (.int 0))) (sIf (tVal (eOp dEq (eOp dIxG (eVar 2) (eVar 5)) (eOp dIxG (eVar 3) (eVar 6)))) (sPut 4 (eTup (aCons (eFz (eVar 5)) (aCons (eFz (eVar 6)) aNil))) (eOp dAdd (eC (.int 1)) (eOp dIxG (eVar 4) (eTup (aCons (eFz (eOp dAdd (eVar 5) (eC (.int 1)))) (aCons (eFz (eOp dAdd (eVar 6) (eC (.int 1)))) aNil)))))) (sPut 4 (eTup (aCons (eFz (eVar 5)) (aCons (eFz (eVar 6)) aNil))) (eA dMax2 (aCons (eOp dIxG (eVar 4) (eTup (aCons (eFz (eOp dAdd (eVar 5) (eC (.int 1)))) (aCons (eFz (eVar 6)) aNil)))) (aCons (eOp dIxG (eVar 4) (eTup (aCons (eFz (eVar 5)) (aCons (eFz (eOp dAdd (eVar 6) (eC (.int 1)))) aNil)))) aNil))))))
theorem at_x {i : Nat} (hi : i < xs.length) : atI xs (i : Int) = some xs[i] := by rw [atI_n]; simp [hi]
/-- one put into the table -/
theorem put_ij {env : En} {i j : Nat} {ks ds : List D} {v : D} (h : env[4]? = some (some (.dt ks ds, true))) (hl : ks.length < lim) : putK3 env 4 v (ij i j) w = some (.nx (env.set 4 (some (.dt (dtPut ks ds (ij i j) (nk2 i j) v).1 (dtPut ks ds (ij i j) (nk2 i j) v).2, true))) w) := putK3_q h (putD_dt (tkD_ij i j) hl)
theorem bInS_ok (hx : Sp xs) (hy : Sp ys) {i j : Nat} (hi : i ≤ xs.length) (hj : j ≤ ys.length) {ks ds : List D} (hl : ks.length ≤ 2000) (I : TInv (T xs ys) (dn xs.length ys.length i j) ks ds) :
    bInS (SE xs ys ks ds s0 s1 (some (iN i, false)) (some (iN j, false))) w = some (.nx (SE xs ys (dtPut ks ds (ij i j) (nk2 i j) (iN (T xs ys i j))).1 (dtPut ks ds (ij i j) (nk2 i j) (iN (T xs ys i j))).2 s0 s1 (some (iN i, false)) (some (iN j, false))) w) := by
  have hlim : ks.length < lim := lt_lim (by omega)
  have hput : ∀ v : D, putK3 (SE xs ys ks ds s0 s1 (some (iN i, false)) (some (iN j, false))) 4 v (ij i j) w = some (.nx (SE xs ys (dtPut ks ds (ij i j) (nk2 i j) v).1 (dtPut ks ds (ij i j) (nk2 i j) v).2 s0 s1 (some (iN i, false)) (some (iN j, false))) w) := fun v => put_ij rfl hlim
  by_cases h1 : i = xs.length
  · have hT := T_end (xs := xs) (ys := ys) (i := i) (j := j) (.inl h1)
    rw [hT]
    have f1 : ((i : Int) = (xs.length : Int)) = True := eq_true (by omega)
    have p := hput (iN 0)
    unfold bInS
    clear h1 hT
    simp -implicitDefEqProofs only [SE] at p ⊢
    simp -implicitDefEqProofs [f1]
    exact p
  · have f1 : ((i : Int) = (xs.length : Int)) = False := eq_false (by omega)
    by_cases h2 : j = ys.length
    · have hT := T_end (xs := xs) (ys := ys) (i := i) (j := j) (.inr h2)
      rw [hT]
      have f2 : ((j : Int) = (ys.length : Int)) = True := eq_true (by omega)
      have p := hput (iN 0)
      unfold bInS
      clear h1 h2 hT
      simp -implicitDefEqProofs only [SE] at p ⊢
      simp -implicitDefEqProofs [f1, f2]
      exact p
    · have hi' : i < xs.length := by omega
      have hj' : j < ys.length := by omega
      have f2 : ((j : Int) = (ys.length : Int)) = False := eq_false (by omega)
      have a1 := at_x hi'
      have a2 := at_x hj'
      have q := sp_eq hx hy hi' hj'
      have g1 := ixG_ij (I.get (i + 1) (j + 1) ⟨by omega, by omega, .inl (by omega)⟩)
      have g2 := ixG_ij (I.get (i + 1) j ⟨by omega, by omega, .inl (by omega)⟩)
      have g3 := ixG_ij (I.get i (j + 1) ⟨by omega, by omega, .inr ⟨rfl, by omega⟩⟩)
      have e1 : ((i + 1 : Nat) : Int) = (i : Int) + 1 := by omega
      have e2 : ((j + 1 : Nat) : Int) = (j : Int) + 1 := by omega
      rw [T_step hi' hj']
      generalize T xs ys (i + 1) (j + 1) = t1 at *
      generalize T xs ys (i + 1) j = t2 at *
      generalize T xs ys i (j + 1) = t3 at *
      generalize xs[i] = x at *
      generalize ys[j] = y at *
      unfold ij iN at g1 g2 g3
      rw [e1, e2] at g1
      rw [e1] at g2
      rw [e2] at g3
      unfold bInS
      cases hq : eqB x y with
      | true =>
        rw [hq] at q
        have p := hput (iN (1 + t1))
        have e3 : ((1 + t1 : Nat) : Int) = 1 + (t1 : Int) := by omega
        unfold iN at p
        rw [if_pos rfl]
        unfold iN
        rw [e3] at p ⊢
        try simp -implicitDefEqProofs at p q g1
        simp -implicitDefEqProofs [f1, f2, p, a1, a2, q, g1]
      | false =>
        rw [hq] at q
        have p := hput (iN (max t2 t3))
        have e3 : ((max t2 t3 : Nat) : Int) = if (t3 : Int) > t2 then (t3 : Int) else t2 := by
          by_cases h : (t3 : Int) > t2
          · rw [if_pos h]; omega
          · rw [if_neg h]; omega
        rw [if_neg (by simp)]
        unfold iN at p ⊢
        rw [e3] at p ⊢
        try simp -implicitDefEqProofs at p q g2 g3
        simp -implicitDefEqProofs [f1, f2, p, a1, a2, q, g2, g3]
theorem dn_next {n m : Nat} {i : Int} {j : Nat} {a b : Nat} (h : dn n m i ((j : Int) - 1) a b) : dn n m i j a b ∨ ((a : Int) = i ∧ b = j) := by
  obtain ⟨h1, h2, h3⟩ := h
  by_cases hb : (a : Int) = i ∧ b = j
  · exact .inr hb
  · refine .inl ⟨h1, h2, ?_⟩
    omega
/-- the whole table, as the program lays it -/
theorem tabS (hx : Sp xs) (hy : Sp ys) : ∃ ks ds t5 t6, forL (setN 5) (sFor (setN 6) (iRange (aCons (eA dLen (aCons (eVar 3) aNil)) (aCons (eUn dNeg (eC (.int 1))) (aCons (eUn dNeg (eC (.int 1))) aNil)))) bInS) (downD (xs.length : Int) (-1)) (SE xs ys [] [] s0 s1 s5 s6) w = some (.nx (SE xs ys ks ds s0 s1 t5 t6) w) ∧ TInv (T xs ys) (fun a b => a ≤ xs.length ∧ b ≤ ys.length) ks ds := by
  have hx1 := hx.1
  have hy1 := hy.1
  obtain ⟨env', h1, ks, ds, t5, t6, e, I, hl⟩ := forL_down (set := setN 5) (sa := (sFor (setN 6) (iRange (aCons (eA dLen (aCons (eVar 3) aNil)) (aCons (eUn dNeg (eC (.int 1))) (aCons (eUn dNeg (eC (.int 1))) aNil)))) bInS)) (w := w)
    (fun i env => ∃ ks ds t5 t6, env = SE xs ys ks ds s0 s1 t5 t6 ∧ TInv (T xs ys) (dn xs.length ys.length i ys.length) ks ds ∧ (ks.length : Int) ≤ (30 - i) * 31) xs.length (SE xs ys [] [] s0 s1 s5 s6) ⟨[], [], s5, s6, rfl, ⟨rfl, fun a b h => by
      obtain ⟨h1, h2, h3⟩ := h
      omega⟩, by simp; omega⟩ fun i hi env hp => by
      obtain ⟨ks, ds, t5, t6, he, I, hl⟩ := hp
      subst he
      obtain ⟨env', h1, ks', ds', t6', e', I', hl'⟩ := forL_down (set := setN 6) (sa := bInS) (w := w)
        (fun j env => ∃ ks ds t6, env = SE xs ys ks ds s0 s1 (some (iN i, false)) t6 ∧ TInv (T xs ys) (dn xs.length ys.length i j) ks ds ∧ (ks.length : Int) ≤ (30 - (i : Int)) * 31 + (30 - j)) ys.length (SE xs ys ks ds s0 s1 (some (iN i, false)) t6) ⟨ks, ds, t6, rfl, I, by omega⟩ fun j hj env hp => by
          obtain ⟨ks, ds, t6, he, I, hl⟩ := hp
          subst he
          have hb := bInS_ok (s0 := s0) (s1 := s1) (w := w) hx hy hi hj (by omega) I
          obtain ⟨I2, hl2⟩ := I.put (done' := dn xs.length ys.length i ((j : Int) - 1)) i j fun a b h => by
            rcases dn_next h with h | ⟨h1, h2⟩
            · exact .inl h
            · exact .inr ⟨by omega, h2⟩
          exact ⟨SE xs ys ks ds s0 s1 (some (iN i, false)) (some (iN j, false)), _, rfl, hb, _, _, _, rfl, I2, by omega⟩
      subst e'
      refine ⟨SE xs ys ks ds s0 s1 (some (iN i, false)) t6, SE xs ys ks' ds' s0 s1 (some (iN i, false)) t6', rfl, ?_, ks', ds', some (iN i, false), t6', rfl, ⟨I'.len, fun a b h => I'.get a b ?_⟩, by omega⟩
      · have hr : ∀ w : Option Wd, rngK ([(.int (ys.length : Int), .fz), (.int (-1), .fz), (.int (-1), .fz)], w) = some (downD (ys.length : Int) (-1), w) := fun w => rngK_3 (by omega)
        have hi3 : iRange (aCons (eA dLen (aCons (eVar 3) aNil)) (aCons (eUn dNeg (eC (.int 1))) (aCons (eUn dNeg (eC (.int 1))) aNil))) (SE xs ys ks ds s0 s1 (some (iN i, false)) t6) w = some (downD (ys.length : Int) (-1), w) := by
          simp -implicitDefEqProofs [hr]
        rw [sFor_q, hi3, bnd_some, forK_q, h1]
      · obtain ⟨g1, g2, g3⟩ := h
        exact ⟨g1, g2, by omega⟩
  subst e
  exact ⟨ks, ds, t5, t6, h1, I.len, fun a b h => I.get a b ⟨h.1, h.2, .inl (by omega)⟩⟩
end
end Kk42

set_option Elab.async false
set_option linter.all false
set_option maxRecDepth 100000
set_option maxHeartbeats 4000000
namespace Kk42
open PySem PySem.Spec PyProof.Rows L2 Dl
section
variable {w : Option Wd} {xs ys : List D}
/-! the law's table -/
abbrev LE (xs ys : List D) (ks ds : List D) (s3 s4 s5 : O) : En := [some (.lst xs, false), some (.lst ys, false), some (.dt ks ds, true), s3, s4, s5]
def bInL : Dl.SB := (sSeq (sSet 5 (eLst (aCons (eFz (eC (.int 0))) aNil))) (sSeq (sIf ((tAn (tVal (eOp dLt (eVar 3) (eA dLen (aCons (eVar 0) aNil)))) (tVal (eOp dLt (eVar 4) (eA dLen (aCons (eVar 1) aNil)))))) (sSet 5 (eLst (aCons (eFz (eOp dIxG (eVar 2) (eTup (aCons (eFz (eOp dAdd (eVar 3) (eC (.int 1)))) (aCons (eFz (eVar 4)) aNil))))) (aCons (eFz (eOp dIxG (eVar 2) (eTup (aCons (eFz (eVar 3)) (aCons (eFz (eOp dAdd (eVar 4) (eC (.int 1)))) aNil))))) (aCons (eFz (eOp dAdd (eOp dIxG (eVar 2) (eTup (aCons (eFz (eOp dAdd (eVar 3) (eC (.int 1)))) (aCons (eFz (eOp dAdd (eVar 4) (eC (.int 1)))) aNil)))) (eIf (tVal (eOp dEq (eOp dIxG (eVar 0) (eVar 3)) (eOp dIxG (eVar 1) (eVar 4)))) (eC (.int 1)) (eC (.int 0))))) aNil))))) (sNil)) (sPut 2 (eTup (aCons (eFz (eVar 3)) (aCons (eFz (eVar 4)) aNil))) (eA dMaxL (aCons (eVar 5) aNil)))))
theorem mx3 (a b c : Nat) : mx [(a : Int), (b : Int), (c : Int)] = ((max (max a b) c : Nat) : Int) := by
  show (if (if (a : Int) < b then (b : Int) else a) < c then (c : Int) else (if (a : Int) < b then (b : Int) else a)) = _
  by_cases h : (a : Int) < b
  · rw [if_pos h]
    by_cases h2 : (b : Int) < c
    · rw [if_pos h2]; omega
    · rw [if_neg h2]; omega
  · rw [if_neg h]
    by_cases h2 : (a : Int) < c
    · rw [if_pos h2]; omega
    · rw [if_neg h2]; omega
theorem put_ijL {env : En} {i j : Nat} {ks ds : List D} {v : D} (h : env[2]? = some (some (.dt ks ds, true))) (hl : ks.length < lim) : putK3 env 2 v (ij i j) w = some (.nx (env.set 2 (some (.dt (dtPut ks ds (ij i j) (nk2 i j) v).1 (dtPut ks ds (ij i j) (nk2 i j) v).2, true))) w) := putK3_q h (putD_dt (tkD_ij i j) hl)
theorem bInL_ok (hx : Sp xs) (hy : Sp ys) {i j : Nat} (hi : i ≤ xs.length) (hj : j ≤ ys.length) {ks ds : List D} (hl : ks.length ≤ 2000) (I : TInv (T xs ys) (dn xs.length ys.length i j) ks ds) (s5 : O) :
    ∃ t5, bInL (LE xs ys ks ds (some (iN i, false)) (some (iN j, false)) s5) w = some (.nx (LE xs ys (dtPut ks ds (ij i j) (nk2 i j) (iN (T xs ys i j))).1 (dtPut ks ds (ij i j) (nk2 i j) (iN (T xs ys i j))).2 (some (iN i, false)) (some (iN j, false)) t5) w) := by
  have hlim : ks.length < lim := lt_lim (by omega)
  by_cases h12 : i < xs.length ∧ j < ys.length
  · obtain ⟨hi', hj'⟩ := h12
    have f1 : ((i : Int) < (xs.length : Int)) = True := eq_true (by omega)
    have f2 : ((j : Int) < (ys.length : Int)) = True := eq_true (by omega)
    have a1 := at_x hi'
    have a2 := at_x hj'
    have q := sp_eq hx hy hi' hj'
    have g1 := ixG_ij (I.get (i + 1) (j + 1) ⟨by omega, by omega, .inl (by omega)⟩)
    have g2 := ixG_ij (I.get (i + 1) j ⟨by omega, by omega, .inl (by omega)⟩)
    have g3 := ixG_ij (I.get i (j + 1) ⟨by omega, by omega, .inr ⟨rfl, by omega⟩⟩)
    have e1 : ((i + 1 : Nat) : Int) = (i : Int) + 1 := by omega
    have e2 : ((j + 1 : Nat) : Int) = (j : Int) + 1 := by omega
    have hT := T_law (xs := xs) (ys := ys) hi' hj'
    generalize T xs ys (i + 1) (j + 1) = t1 at *
    generalize T xs ys (i + 1) j = t2 at *
    generalize T xs ys i (j + 1) = t3 at *
    generalize T xs ys i j = t0 at *
    generalize xs[i] = x at *
    generalize ys[j] = y at *
    have hmx : ∀ b : Bool, t0 = max (max t2 t3) (t1 + if b = true then 1 else 0) → dMaxL [.lst [.int (t2 : Int), .int (t3 : Int), .int ((t1 : Int) + if b = true then 1 else 0)]] = some (iN t0, .fz) := fun b hb => by
      have e3 : ((t1 : Int) + if b = true then 1 else 0) = ((t1 + if b = true then 1 else 0 : Nat) : Int) := by cases b <;> simp
      rw [e3]
      have := dMax_i (xs := [(t2 : Int), (t3 : Int), ((t1 + if b = true then 1 else 0 : Nat) : Int)]) (by simp)
      rw [mx3, ← hb] at this
      exact this
    have hm := hmx (eqB x y) hT
    clear hmx hT
    have hput : ∀ L : List D, putK3 (LE xs ys ks ds (some (iN i, false)) (some (iN j, false)) (some (.lst L, true))) 2 (iN t0) (ij i j) w = _ := fun L => put_ijL rfl hlim
    unfold ij iN at g1 g2 g3
    rw [e1, e2] at g1
    rw [e1] at g2
    rw [e2] at g3
    refine ⟨some (.lst [.int (t2 : Int), .int (t3 : Int), .int ((t1 : Int) + if eqB x y = true then 1 else 0)], true), ?_⟩
    unfold bInL
    simp -implicitDefEqProofs only [LE] at hput ⊢
    cases hq : eqB x y with
    | true =>
      rw [hq] at q hm
      have p := hput [.int (t2 : Int), .int (t3 : Int), .int ((t1 : Int) + 1)]
      try simp -implicitDefEqProofs at q hm
      simp -implicitDefEqProofs [f1, f2, a1, a2, q, g1, g2, g3, hm]
      exact p
    | false =>
      rw [hq] at q hm
      have p := hput [.int (t2 : Int), .int (t3 : Int), .int (t1 : Int)]
      try simp -implicitDefEqProofs at q hm
      simp -implicitDefEqProofs [f1, f2, a1, a2, q, g1, g2, g3, hm]
      exact p
  · have hT := T_end (xs := xs) (ys := ys) (i := i) (j := j) (by omega)
    have hm := dMax_i (xs := [(0 : Int)]) (by simp)
    have e0 : mx [(0 : Int)] = 0 := rfl
    rw [e0] at hm
    have p : putK3 (LE xs ys ks ds (some (iN i, false)) (some (iN j, false)) (some (.lst [.int 0], true))) 2 (.int 0) (ij i j) w = _ := put_ijL rfl hlim
    refine ⟨some (.lst [.int 0], true), ?_⟩
    rw [hT]
    unfold bInL
    simp -implicitDefEqProofs only [LE] at p ⊢
    by_cases h1 : i < xs.length
    · have f1 : ((i : Int) < (xs.length : Int)) = True := eq_true (by omega)
      have f2 : ((j : Int) < (ys.length : Int)) = False := eq_false (by omega)
      clear hT h12
      try simp -implicitDefEqProofs at hm
      simp -implicitDefEqProofs [f1, f2, hm]
      exact p
    · have f1 : ((i : Int) < (xs.length : Int)) = False := eq_false (by omega)
      clear hT h12
      try simp -implicitDefEqProofs at hm
      simp -implicitDefEqProofs [f1, hm]
      exact p
theorem tabL (hx : Sp xs) (hy : Sp ys) (s3 s4 s5 : O) : ∃ ks ds t3 t4 t5, forL (setN 3) (sFor (setN 4) (iRange (aCons (eA dLen (aCons (eVar 1) aNil)) (aCons (eUn dNeg (eC (.int 1))) (aCons (eUn dNeg (eC (.int 1))) aNil)))) bInL) (downD (xs.length : Int) (-1)) (LE xs ys [] [] s3 s4 s5) w = some (.nx (LE xs ys ks ds t3 t4 t5) w) ∧ TInv (T xs ys) (fun a b => a ≤ xs.length ∧ b ≤ ys.length) ks ds := by
  have hx1 := hx.1
  have hy1 := hy.1
  obtain ⟨env', h1, ks, ds, t3, t4, t5, e, I, hl⟩ := forL_down (set := setN 3) (sa := (sFor (setN 4) (iRange (aCons (eA dLen (aCons (eVar 1) aNil)) (aCons (eUn dNeg (eC (.int 1))) (aCons (eUn dNeg (eC (.int 1))) aNil)))) bInL)) (w := w)
    (fun i env => ∃ ks ds t3 t4 t5, env = LE xs ys ks ds t3 t4 t5 ∧ TInv (T xs ys) (dn xs.length ys.length i ys.length) ks ds ∧ (ks.length : Int) ≤ (30 - i) * 31) xs.length (LE xs ys [] [] s3 s4 s5) ⟨[], [], s3, s4, s5, rfl, ⟨rfl, fun a b h => by
      obtain ⟨h1, h2, h3⟩ := h
      omega⟩, by simp; omega⟩ fun i hi env hp => by
      obtain ⟨ks, ds, t3, t4, t5, he, I, hl⟩ := hp
      subst he
      obtain ⟨env', h1, ks', ds', t4', t5', e', I', hl'⟩ := forL_down (set := setN 4) (sa := bInL) (w := w)
        (fun j env => ∃ ks ds t4 t5, env = LE xs ys ks ds (some (iN i, false)) t4 t5 ∧ TInv (T xs ys) (dn xs.length ys.length i j) ks ds ∧ (ks.length : Int) ≤ (30 - (i : Int)) * 31 + (30 - j)) ys.length (LE xs ys ks ds (some (iN i, false)) t4 t5) ⟨ks, ds, t4, t5, rfl, I, by omega⟩ fun j hj env hp => by
          obtain ⟨ks, ds, t4, t5, he, I, hl⟩ := hp
          subst he
          obtain ⟨t5', hb⟩ := bInL_ok (w := w) hx hy hi hj (by omega) I t5
          obtain ⟨I2, hl2⟩ := I.put (done' := dn xs.length ys.length i ((j : Int) - 1)) i j fun a b h => by
            rcases dn_next h with h | ⟨h1, h2⟩
            · exact .inl h
            · exact .inr ⟨by omega, h2⟩
          exact ⟨LE xs ys ks ds (some (iN i, false)) (some (iN j, false)) t5, _, rfl, hb, _, _, _, _, rfl, I2, by omega⟩
      subst e'
      refine ⟨LE xs ys ks ds (some (iN i, false)) t4 t5, LE xs ys ks' ds' (some (iN i, false)) t4' t5', rfl, ?_, ks', ds', some (iN i, false), t4', t5', rfl, ⟨I'.len, fun a b h => I'.get a b ?_⟩, by omega⟩
      · have hr : ∀ w : Option Wd, rngK ([(.int (ys.length : Int), .fz), (.int (-1), .fz), (.int (-1), .fz)], w) = some (downD (ys.length : Int) (-1), w) := fun w => rngK_3 (by omega)
        have hi3 : iRange (aCons (eA dLen (aCons (eVar 1) aNil)) (aCons (eUn dNeg (eC (.int 1))) (aCons (eUn dNeg (eC (.int 1))) aNil))) (LE xs ys ks ds (some (iN i, false)) t4 t5) w = some (downD (ys.length : Int) (-1), w) := by
          simp -implicitDefEqProofs [hr]
        rw [sFor_q, hi3, bnd_some, forK_q, h1]
      · obtain ⟨g1, g2, g3⟩ := h
        exact ⟨g1, g2, by omega⟩
  subst e
  exact ⟨ks, ds, t3, t4, t5, h1, I.len, fun a b h => I.get a b ⟨h.1, h.2, .inl (by omega)⟩⟩
/-- a table that answers -/
def TabOk (xs ys : List D) (d : D) : Prop := ∃ ks ds, d = .dt ks ds ∧ TInv (T xs ys) (fun a b => a ≤ xs.length ∧ b ≤ ys.length) ks ds
theorem lawMost_ok (hx : Sp xs) (hy : Sp ys) : ∃ d, f__law_most [.lst xs, .lst ys] w = some ((d, .ow), w) ∧ TabOk xs ys d := by
  have hx1 := hx.1
  obtain ⟨ks, ds, t3, t4, t5, h1, I⟩ := tabL (w := w) hx hy none none none
  refine ⟨.dt ks ds, ?_, ks, ds, rfl, I⟩
  show bnd (b__law_most [some (.lst xs, false), some (.lst ys, false), none, none, none, none] w) endP = _
  unfold b__law_most
  rw [sSeq_q]
  show bnd (bnd (some (Out.nx (LE xs ys [] [] none none none) w)) _) endP = _
  have hr : ∀ w : Option Wd, rngK ([(.int (xs.length : Int), .fz), (.int (-1), .fz), (.int (-1), .fz)], w) = some (downD (xs.length : Int) (-1), w) := fun w => rngK_3 (by omega)
  have hi3 : iRange (aCons (eA dLen (aCons (eVar 0) aNil)) (aCons (eUn dNeg (eC (.int 1))) (aCons (eUn dNeg (eC (.int 1))) aNil))) (LE xs ys [] [] none none none) w = some (downD (xs.length : Int) (-1), w) := by
    simp -implicitDefEqProofs [hr]
  rw [bnd_some, nxt_nx, sSeq_q, sFor_q, hi3, bnd_some, forK_q]
  have h1' : forL (setN 3) (sFor (setN 4) (iRange (aCons (eA dLen (aCons (eVar 1) aNil)) (aCons (eUn dNeg (eC (.int 1))) (aCons (eUn dNeg (eC (.int 1))) aNil)))) (sSeq (sSet 5 (eLst (aCons (eFz (eC (.int 0))) aNil))) (sSeq (sIf ((tAn (tVal (eOp dLt (eVar 3) (eA dLen (aCons (eVar 0) aNil)))) (tVal (eOp dLt (eVar 4) (eA dLen (aCons (eVar 1) aNil)))))) (sSet 5 (eLst (aCons (eFz (eOp dIxG (eVar 2) (eTup (aCons (eFz (eOp dAdd (eVar 3) (eC (.int 1)))) (aCons (eFz (eVar 4)) aNil))))) (aCons (eFz (eOp dIxG (eVar 2) (eTup (aCons (eFz (eVar 3)) (aCons (eFz (eOp dAdd (eVar 4) (eC (.int 1)))) aNil))))) (aCons (eFz (eOp dAdd (eOp dIxG (eVar 2) (eTup (aCons (eFz (eOp dAdd (eVar 3) (eC (.int 1)))) (aCons (eFz (eOp dAdd (eVar 4) (eC (.int 1)))) aNil)))) (eIf (tVal (eOp dEq (eOp dIxG (eVar 0) (eVar 3)) (eOp dIxG (eVar 1) (eVar 4)))) (eC (.int 1)) (eC (.int 0))))) aNil))))) (sNil)) (sPut 2 (eTup (aCons (eFz (eVar 3)) (aCons (eFz (eVar 4)) aNil))) (eA dMaxL (aCons (eVar 5) aNil)))))) (downD (xs.length : Int) (-1)) (LE xs ys [] [] none none none) w = some (.nx (LE xs ys ks ds t3 t4 t5) w) := h1
  rw [h1', bnd_some, nxt_nx]
  rfl
/-! the way -/
abbrev WE (xs ys : List D) (tb : D) (f : List (Nat × Nat)) (i j : Nat) : En := [some (.lst xs, false), some (.lst ys, false), some (tb, false), some (.lst (f.map fun p => ij p.1 p.2), true), some (iN i, false), some (iN j, false)]
def cWt : ET := ((tAn (tVal (eOp dLt (eVar 4) (eA dLen (aCons (eVar 0) aNil)))) (tVal (eOp dLt (eVar 5) (eA dLen (aCons (eVar 1) aNil))))))
def bWt : Dl.SB := (sIf (tVal (eOp dEq (eOp dIxG (eVar 0) (eVar 4)) (eOp dIxG (eVar 1) (eVar 5)))) (sSeq (sFrz [4, 5] (sApp 3 (eTup (aCons (eFz (eVar 4)) (aCons (eFz (eVar 5)) aNil))))) (sPar 4 5 (aCons (eOp dAdd (eVar 4) (eC (.int 1))) (aCons (eOp dAdd (eVar 5) (eC (.int 1))) aNil)))) (sFrz [4, 5] (sIf (tVal (eOp dGe (eOp dIxG (eVar 2) (eTup (aCons (eFz (eOp dAdd (eVar 4) (eC (.int 1)))) (aCons (eFz (eVar 5)) aNil)))) (eOp dIxG (eVar 2) (eTup (aCons (eFz (eVar 4)) (aCons (eFz (eOp dAdd (eVar 5) (eC (.int 1)))) aNil)))))) (sAug 4 dAddI (eC (.int 1))) (sAug 5 dAddI (eC (.int 1))))))
theorem cWt_ok {tb : D} {f : List (Nat × Nat)} {i j : Nat} : cWt (WE xs ys tb f i j) w = some (decide (i < xs.length ∧ j < ys.length), w) := by
  unfold cWt
  generalize (f.map fun p => ij p.1 p.2) = F
  by_cases h1 : i < xs.length
  · by_cases h2 : j < ys.length
    · simp -implicitDefEqProofs [h1, h2]
    · simp -implicitDefEqProofs [h1, h2]
  · simp -implicitDefEqProofs [h1]
theorem bWt_ok (hx : Sp xs) (hy : Sp ys) {tb : D} (ht : TabOk xs ys tb) {f : List (Nat × Nat)} (hf : f.length ≤ 1000) {i j : Nat} (hi : i < xs.length) (hj : j < ys.length) :
    bWt (WE xs ys tb f i j) w = some (.nx (if eqB xs[i] ys[j] = true then WE xs ys tb (f ++ [(i, j)]) (i + 1) (j + 1) else if T xs ys i (j + 1) ≤ T xs ys (i + 1) j then WE xs ys tb f (i + 1) j else WE xs ys tb f i (j + 1)) w) := by
  obtain ⟨ks, ds, rfl, I⟩ := ht
  have a1 := at_x hi
  have a2 := at_x hj
  have q := sp_eq hx hy hi hj
  have g2 := ixG_ij (I.get (i + 1) j ⟨by omega, by omega⟩)
  have g3 := ixG_ij (I.get i (j + 1) ⟨by omega, by omega⟩)
  have e1 : ((i + 1 : Nat) : Int) = (i : Int) + 1 := by omega
  have e2 : ((j + 1 : Nat) : Int) = (j : Int) + 1 := by omega
  have hlim : (f.map fun p => ij p.1 p.2).length < lim := lt_lim (by rw [List.length_map]; omega)
  have em : (f ++ [(i, j)]).map (fun p => ij p.1 p.2) = (f.map fun p => ij p.1 p.2) ++ [ij i j] := by rw [List.map_append]; rfl
  unfold WE
  rw [em]
  generalize T xs ys (i + 1) j = t2 at *
  generalize T xs ys i (j + 1) = t3 at *
  generalize xs[i] = x at *
  generalize ys[j] = y at *
  generalize (f.map fun p => ij p.1 p.2) = F at *
  unfold ij iN at g2 g3
  rw [e1] at g2
  rw [e2] at g3
  have ag4 : ∀ (r : D) (F : List D) (a b : Int), sAug 4 dAddI (eC (.int 1)) [some (.lst xs, false), some (.lst ys, false), some (.dt ks ds, false), some (.lst F, true), some (.int a, false), some (.int b, false)] w = some (.nx [some (.lst xs, false), some (.lst ys, false), some (.dt ks ds, false), some (.lst F, true), some (.int (a + 1), false), some (.int b, false)] w) := fun r F a b => sAug_q rfl rfl rfl
  have ag5 : ∀ (r : D) (F : List D) (a b : Int), sAug 5 dAddI (eC (.int 1)) [some (.lst xs, false), some (.lst ys, false), some (.dt ks ds, false), some (.lst F, true), some (.int a, false), some (.int b, false)] w = some (.nx [some (.lst xs, false), some (.lst ys, false), some (.dt ks ds, false), some (.lst F, true), some (.int a, false), some (.int (b + 1), false)] w) := fun r F a b => sAug_q rfl rfl rfl
  have ag4' := ag4 .non
  have ag5' := ag5 .non
  unfold bWt
  cases hq : eqB x y with
  | true =>
    rw [hq] at q
    rw [if_pos rfl]
    try simp -implicitDefEqProofs at q
    simp -implicitDefEqProofs [a1, a2, q, hlim]
  | false =>
    rw [hq] at q
    rw [if_neg (by simp)]
    by_cases h' : t3 ≤ t2
    · rw [if_pos h']
      have h : (t3 : Int) ≤ t2 := by omega
      try simp -implicitDefEqProofs at q
      simp -implicitDefEqProofs [a1, a2, q, g2, g3, h, h', ag4']
    · rw [if_neg h']
      have h : ¬ (t3 : Int) ≤ t2 := by omega
      try simp -implicitDefEqProofs at q
      simp -implicitDefEqProofs [a1, a2, q, g2, g3, h, h', ag5']
theorem loopWt (hx : Sp xs) (hy : Sp ys) {tb : D} (ht : TabOk xs ys tb) : ∀ (n m : Nat) (f : List (Nat × Nat)) (i j : Nat), i ≤ xs.length → j ≤ ys.length → (xs.length - i) + (ys.length - j) ≤ n → f.length + n ≤ 1000 →
    ∃ i' j', sWhile cWt bWt (m + n + 1) (WE xs ys tb f i j) w = some (.nx (WE xs ys tb (f ++ wlk eqB (xs.drop i) (ys.drop j) i j) i' j') w)
  | 0, m, f, i, j, hi, hj, hn, hf => by
    have h1 : i = xs.length := by omega
    refine ⟨i, j, ?_⟩
    rw [sWhile_s, cWt_ok, bnd_some, decide_eq_false (by omega), h1, List.drop_length, wlk_nil', List.append_nil]; rfl
  | n + 1, m, f, i, j, hi, hj, hn, hf => by
    rw [sWhile_s, cWt_ok, bnd_some]
    by_cases h : i < xs.length ∧ j < ys.length
    · obtain ⟨h1, h2⟩ := h
      rw [decide_eq_true (⟨h1, h2⟩ : i < xs.length ∧ j < ys.length), whK_t, bWt_ok hx hy ht (by omega) h1 h2, bnd_some, whP_nx, List.drop_eq_getElem_cons h1, List.drop_eq_getElem_cons h2, wlk_cons, ← List.drop_eq_getElem_cons h1, ← List.drop_eq_getElem_cons h2]
      by_cases hq : eqB xs[i] ys[j] = true
      · rw [if_pos hq, if_pos hq]
        obtain ⟨i', j', ih⟩ := loopWt hx hy ht n m (f ++ [(i, j)]) (i + 1) (j + 1) (by omega) (by omega) (by omega) (by simp; omega)
        refine ⟨i', j', ?_⟩
        show sWhile cWt bWt (m + n + 1) _ w = _
        rw [ih, List.append_assoc]; rfl
      · rw [if_neg hq, if_neg hq]
        show ∃ i' j', sWhile cWt bWt (m + n + 1) (if lcs eqB (xs.drop i) (ys.drop (j + 1)) ≤ lcs eqB (xs.drop (i + 1)) (ys.drop j) then _ else _) w = _
        by_cases hc : lcs eqB (xs.drop i) (ys.drop (j + 1)) ≤ lcs eqB (xs.drop (i + 1)) (ys.drop j)
        · rw [if_pos hc, if_pos hc]
          exact loopWt hx hy ht n m f (i + 1) j (by omega) (by omega) (by omega) (by omega)
        · rw [if_neg hc, if_neg hc]
          exact loopWt hx hy ht n m f i (j + 1) (by omega) (by omega) (by omega) (by omega)
    · rw [decide_eq_false h]
      refine ⟨i, j, ?_⟩
      have : wlk eqB (xs.drop i) (ys.drop j) i j = [] := by
        by_cases h1 : i < xs.length
        · have h2 : j = ys.length := by omega
          rw [h2, List.drop_length, wlk_nil]
        · have h2 : i = xs.length := by omega
          rw [h2, List.drop_length, wlk_nil']
      rw [this, List.append_nil]; rfl
def due (xs ys : List D) : List D := (wlk eqB xs ys 0 0).map fun p => ij p.1 p.2
theorem walkTable_ok (hx : Sp xs) (hy : Sp ys) {tb : D} (ht : TabOk xs ys tb) : f_walk_table [.lst xs, .lst ys, tb] w = some ((.tup (due xs ys), .fz), w) := by
  have hx1 := hx.1
  have hy1 := hy.1
  obtain ⟨i', j', h1⟩ := loopWt (w := w) hx hy ht 60 (100000 - 61) [] 0 0 (by omega) (by omega) (by omega) (by simp)
  rw [show 100000 - 61 + 60 + 1 = 100000 from rfl, List.nil_append] at h1
  show bnd (b_walk_table [some (.lst xs, false), some (.lst ys, false), some (tb, false), none, none, none] w) endP = _
  unfold b_walk_table
  rw [sSeq_q]
  show bnd (bnd (some (Out.nx (WE xs ys tb [] 0 0) w)) _) endP = _
  have hw : sWhile ((tAn (tVal (eOp dLt (eVar 4) (eA dLen (aCons (eVar 0) aNil)))) (tVal (eOp dLt (eVar 5) (eA dLen (aCons (eVar 1) aNil)))))) (sIf (tVal (eOp dEq (eOp dIxG (eVar 0) (eVar 4)) (eOp dIxG (eVar 1) (eVar 5)))) (sSeq (sFrz [4, 5] (sApp 3 (eTup (aCons (eFz (eVar 4)) (aCons (eFz (eVar 5)) aNil))))) (sPar 4 5 (aCons (eOp dAdd (eVar 4) (eC (.int 1))) (aCons (eOp dAdd (eVar 5) (eC (.int 1))) aNil)))) (sFrz [4, 5] (sIf (tVal (eOp dGe (eOp dIxG (eVar 2) (eTup (aCons (eFz (eOp dAdd (eVar 4) (eC (.int 1)))) (aCons (eFz (eVar 5)) aNil)))) (eOp dIxG (eVar 2) (eTup (aCons (eFz (eVar 4)) (aCons (eFz (eOp dAdd (eVar 5) (eC (.int 1)))) aNil)))))) (sAug 4 dAddI (eC (.int 1))) (sAug 5 dAddI (eC (.int 1)))))) 100000 = sWhile cWt bWt 100000 := rfl
  rw [bnd_some, nxt_nx, sSeq_q, hw, h1, bnd_some, nxt_nx]
  unfold WE due
  rw [List.drop_zero, List.drop_zero]
  generalize ((wlk eqB xs ys 0 0).map fun p => ij p.1 p.2) = F
  simp -implicitDefEqProofs
end
end Kk42

set_option Elab.async false
set_option linter.all false
set_option maxRecDepth 100000
set_option maxHeartbeats 4000000
namespace Kk42
open PySem PySem.Spec PyProof.Rows L2 Dl
/-! dicts of ints -/
abbrev K3 : List Key := [.inr "x", .inr "y", .inr "n"]
abbrev C3 : List Key := [.inl 0, .inl 1, .inl 2]
abbrev dkI (ks : List Key) (vs : List Int) : D := .dk ks (vs.map D.int)
structure DK (K : List Key) (ks : List Key) (vs : List Int) : Prop where
  len : ks.length = vs.length
  nd : ks.Nodup
  sub : ∀ k ∈ ks, k ∈ K
theorem DK.le {K ks : List Key} {vs : List Int} (h : DK K ks vs) : ks.length ≤ K.length := List.Nodup.length_le_of_subset h.nd h.sub
theorem updI_len : ∀ (ks : List Key) (ds : List Int) (k : Key) (x : Int), (updI ks ds k x).length = ds.length
  | [], ds, _, _ => by cases ds <;> rfl
  | _ :: _, [], _, _ => rfl
  | _ :: ks, _ :: ds, k, x => by show (updI ks ds k x).length + 1 = _; rw [updI_len ks ds]; rfl
theorem DK.put {K ks : List Key} {vs : List Int} (h : DK K ks vs) {k : Key} (hk : k ∈ K) (x : Int) : ∃ ks' vs', dPut ks (vs.map D.int) k (.int x) = (ks', vs'.map D.int) ∧ DK K ks' vs' := by
  unfold dPut
  by_cases hh : hasK ks k = true
  · rw [if_pos hh, dUpd_int]
    exact ⟨ks, updI ks vs k x, rfl, ⟨by rw [updI_len]; exact h.len, h.nd, h.sub⟩⟩
  · rw [if_neg hh]
    refine ⟨ks ++ [k], vs ++ [x], by rw [List.map_append]; rfl, ⟨by simp [h.len], ?_, fun y hy => ?_⟩⟩
    · refine List.nodup_append.mpr ⟨h.nd, by simp, fun a ha b hb => ?_⟩
      rw [List.mem_singleton] at hb
      subst hb
      intro e; subst e
      exact hh (hasK_mem.mpr ha)
    · rcases List.mem_append.mp hy with hy | hy
      · exact h.sub y hy
      · rw [List.mem_singleton] at hy; subst hy; exact hk
theorem DK.nil (K : List Key) : DK K [] [] := ⟨rfl, List.nodup_nil, fun k h => nomatch h⟩
theorem keyD_V (k : Key) : keyD (keyV k) = some k := by cases k <;> rfl
abbrev prD (p : Key × Int) : D := .tup [keyV p.1, .int p.2]
theorem merge_DK {K : List Key} : ∀ (ps : List (Key × Int)) (ks : List Key) (vs : List Int), DK K ks vs → (∀ p ∈ ps, p.1 ∈ K) → ∃ ks' vs', dMerge ks (vs.map D.int) (ps.map prD) = some (ks', vs'.map D.int) ∧ DK K ks' vs'
  | [], ks, vs, h, _ => ⟨ks, vs, rfl, h⟩
  | p :: ps, ks, vs, h, hp => by
    obtain ⟨ks1, vs1, e1, h1⟩ := h.put (hp p List.mem_cons_self) p.2
    obtain ⟨ks2, vs2, e2, h2⟩ := merge_DK ps ks1 vs1 h1 fun q hq => hp q (List.mem_cons_of_mem _ hq)
    refine ⟨ks2, vs2, ?_, h2⟩
    show (keyD (keyV p.1)).bind _ = _
    rw [keyD_V]
    show dMerge (dPut ks (vs.map D.int) p.1 (.int p.2)).1 (dPut ks (vs.map D.int) p.1 (.int p.2)).2 (ps.map prD) = _
    rw [e1]; exact e2
/-- a frozen table -/
def VT (K : List Key) (d : D) : Prop := ∃ ps : List (Key × Int), d = .tup (ps.map prD) ∧ ps.length ≤ 3 ∧ ∀ p ∈ ps, p.1 ∈ K
theorem dict_VT {K : List Key} {d : D} (h : VT K d) : ∃ ks vs, dDict [d] = some (dkI ks vs, .ow) ∧ DK K ks vs := by
  obtain ⟨ps, rfl, hl, hp⟩ := h
  obtain ⟨ks, vs, e, h⟩ := merge_DK ps [] [] (.nil K) hp
  refine ⟨ks, vs, ?_, h⟩
  rw [dDict_t (le_lim (by rw [List.length_map]; omega))]
  have e' : dMerge [] [] (ps.map prD) = some (ks, vs.map D.int) := e
  rw [e']; rfl
theorem VT.nil (K : List Key) : VT K (.tup []) := ⟨[], rfl, by simp, fun p h => nomatch h⟩
theorem find_some {ks : List Key} {vs : List Int} (hl : ks.length = vs.length) {k : Key} (hk : k ∈ ks) : ∃ v, findI ks vs k = some v := by
  induction ks generalizing vs with
  | nil => cases hk
  | cons a ks ih =>
    cases vs with
    | nil => cases hl
    | cons v vs =>
      show ∃ v', (if a = k then some v else findI ks vs k) = some v'
      by_cases e : a = k
      · exact ⟨v, if_pos e⟩
      · rw [if_neg e]
        rcases List.mem_cons.mp hk with h | h
        · exact absurd h.symm e
        · exact ih (Nat.succ.inj hl) h
/-- sorted of such a dict -/
def Srt (d : D) (ks : List Key) : Prop := ∃ L : List Key, dSrtK [d] = some (.lst (L.map keyV), .ow) ∧ L.length = ks.length ∧ ∀ k ∈ L, k ∈ ks
theorem srt_K {ks : List Key} {vs : List Int} (h : DK K3 ks vs) : Srt (dkI ks vs) ks := by
  have hs : ∃ ss, strsK ks = some ss := by
    have : ∀ ks : List Key, (∀ k ∈ ks, k ∈ K3) → ∃ ss, strsK ks = some ss := by
      intro ks
      induction ks with
      | nil => intro _; exact ⟨[], rfl⟩
      | cons k ks ih =>
        intro h
        obtain ⟨ss, e⟩ := ih fun y hy => h y (List.mem_cons_of_mem _ hy)
        have hk := h k List.mem_cons_self
        cases k with
        | inl i => simp at hk
        | inr x => exact ⟨x :: ss, by show (strsK ks).map _ = _; rw [e]; rfl⟩
    exact this ks h.sub
  obtain ⟨ss, e⟩ := hs
  have ek := strsK_eq e
  have hp : (srtS ss).Perm ss := List.mergeSort_perm _ _
  refine ⟨(srtS ss).map Sum.inr, ?_, by rw [List.length_map, hp.length_eq, ek, List.length_map], fun k hk => ?_⟩
  · have hl : ss.length < 64 := by
      have := h.le
      rw [ek, List.length_map] at this
      simp at this; omega
    have e2 : ((srtS ss).map Sum.inr : List Key).map keyV = (srtS ss).map D.str := by rw [List.map_map]; rfl
    rw [e2]
    show (match strsK ks, intsK ks with
      | some ss, _ => if ss.length < 64 then some (D.lst ((srtS ss).map D.str), O3.ow) else none
      | none, some ns => if ns.length < 64 then some (D.lst ((srtI ns).map D.int), O3.ow) else none
      | none, none => none) = _
    rw [e]
    cases intsK ks <;> (show (if ss.length < 64 then _ else _) = _; rw [if_pos hl])
  · obtain ⟨s, hs, rfl⟩ := List.mem_map.mp hk
    rw [ek]
    exact List.mem_map.mpr ⟨s, hp.mem_iff.mp hs, rfl⟩
theorem srt_C {ks : List Key} {vs : List Int} (h : DK C3 ks vs) : Srt (dkI ks vs) ks := by
  have hs : ∃ ss, intsK ks = some ss := by
    have : ∀ ks : List Key, (∀ k ∈ ks, k ∈ C3) → ∃ ss, intsK ks = some ss := by
      intro ks
      induction ks with
      | nil => intro _; exact ⟨[], rfl⟩
      | cons k ks ih =>
        intro h
        obtain ⟨ss, e⟩ := ih fun y hy => h y (List.mem_cons_of_mem _ hy)
        have hk := h k List.mem_cons_self
        cases k with
        | inr i => simp at hk
        | inl x => exact ⟨x :: ss, by show (intsK ks).map _ = _; rw [e]; rfl⟩
    exact this ks h.sub
  obtain ⟨ss, e⟩ := hs
  have ek := intsK_eq e
  cases ks with
  | nil =>
    refine ⟨[], ?_, rfl, fun k hk => nomatch hk⟩
    have e0 : srtS [] = [] := List.eq_nil_of_length_eq_zero (by unfold srtS; rw [List.length_mergeSort]; rfl)
    show (if ([] : List Str).length < 64 then some (D.lst ((srtS []).map D.str), O3.ow) else none) = _
    rw [if_pos (by decide), e0]; rfl
  | cons k0 ks0 =>
    have hn : strsK (k0 :: ks0) = none := by
      have hk := h.sub k0 List.mem_cons_self
      cases k0 with
      | inr i => simp at hk
      | inl x => rfl
    have hp : (srtI ss).Perm ss := List.mergeSort_perm _ _
    refine ⟨(srtI ss).map Sum.inl, ?_, by rw [List.length_map, hp.length_eq, ek, List.length_map], fun k hk => ?_⟩
    · have hl : ss.length < 64 := by
        have := h.le
        rw [ek, List.length_map] at this
        simp at this; omega
      have e2 : ((srtI ss).map Sum.inl : List Key).map keyV = (srtI ss).map D.int := by rw [List.map_map]; rfl
      rw [e2]
      show (match strsK (k0 :: ks0), intsK (k0 :: ks0) with
        | some ss, _ => if ss.length < 64 then some (D.lst ((srtS ss).map D.str), O3.ow) else none
        | none, some ns => if ns.length < 64 then some (D.lst ((srtI ns).map D.int), O3.ow) else none
        | none, none => none) = _
      rw [hn, e]
      show (if ss.length < 64 then _ else _) = _
      rw [if_pos hl]
    · obtain ⟨s, hs, rfl⟩ := List.mem_map.mp hk
      rw [ek]
      exact List.mem_map.mpr ⟨s, hp.mem_iff.mp hs, rfl⟩
theorem ixG_k {ks : List Key} {vs : List Int} {k : Key} {v : Int} (h : findI ks vs k = some v) : els2 dIx dIxK (dkI ks vs) (keyV k) = some (.int v, .fz) := by
  have e : dFind ks (vs.map D.int) k = some (.int v) := by rw [dFind_int, h]; rfl
  cases k with
  | inl i =>
    show els2 dIx dIxK (.dk ks (vs.map D.int)) (.int i) = _
    rw [ixG_dki, e]; rfl
  | inr i =>
    show els2 dIx dIxK (.dk ks (vs.map D.int)) (.str i) = _
    rw [ixG_dks, e]; rfl
theorem frozen_ok {K ks : List Key} {vs : List Int} (hK : K.length = 3) (h : DK K ks vs) (hs : Srt (dkI ks vs) ks) (w : Option Wd) : ∃ d, f__law_frozen [dkI ks vs] w = some ((d, .fz), w) ∧ VT K d := by
  obtain ⟨L, e, hl, hm⟩ := hs
  have hle := h.le
  have h1 := lcL_gen (set := setN 1) (t := (tVal (eOp dNe (eOp dIxG (eVar 0) (eVar 1)) (eC (.int 0))))) (fe := (eTup (aCons (eFz (eVar 1)) (aCons (eFz (eOp dIxG (eVar 0) (eVar 1))) aNil)))) (env := [some (dkI ks vs, false), none]) (w := w) keyV (fun k => !decide ((findI ks vs k).getD 0 = 0)) (fun k => prD (k, (findI ks vs k).getD 0)) L fun k hk => by
    obtain ⟨v, hv⟩ := find_some h.len (hm k hk)
    have g := ixG_k hv
    refine ⟨[some (dkI ks vs, false), some (keyV k, false)], rfl, ?_, fun _ => ?_⟩
    · rw [hv]
      generalize dkI ks vs = dd at g ⊢
      generalize keyV k = kk at g ⊢
      simp -implicitDefEqProofs [g]
    · rw [hv]
      unfold prD
      generalize dkI ks vs = dd at g ⊢
      generalize keyV k = kk at g ⊢
      simp -implicitDefEqProofs [g]
  refine ⟨.tup ((L.filter fun k => !decide ((findI ks vs k).getD 0 = 0)).map fun k => prD (k, (findI ks vs k).getD 0)), ?_, (L.filter fun k => !decide ((findI ks vs k).getD 0 = 0)).map fun k => (k, (findI ks vs k).getD 0), ?_, ?_, ?_⟩
  · have hlim : (L.map keyV).length ≤ lim := le_lim (by rw [List.length_map]; omega)
    unfold f__law_frozen b__law_frozen
    generalize ((L.filter fun k => !decide ((findI ks vs k).getD 0 = 0)).map fun k => prD (k, (findI ks vs k).getD 0)) = R at *
    generalize L.map keyV = Lk at *
    generalize dkI ks vs = dd at *
    simp -implicitDefEqProofs [e, h1, lcK_q hlim]
  · rw [List.map_map]; rfl
  · rw [List.length_map]
    exact Nat.le_trans (List.length_filter_le _ _) (by omega)
  · intro p hp
    obtain ⟨k, hk, rfl⟩ := List.mem_map.mp hp
    exact h.sub k (hm k (List.mem_filter.mp hk).1)
/-! expressions -/
inductive Ex where
  | num (i : Int) | var (s : Str) | cell (e : Ex) | no (e : Ex) | ad (e f : Ex) | su (e f : Ex) | le (e f : Ex) | sa (e f : Ex)
def enc : Ex → D
  | .num i => .int i
  | .var s => .tup [.str "var", .str s]
  | .cell e => .tup [.str "cell", enc e]
  | .no e => .tup [.str "not", enc e]
  | .ad e f => .tup [.str "add", enc e, enc f]
  | .su e f => .tup [.str "sub", enc e, enc f]
  | .le e f => .tup [.str "less", enc e, enc f]
  | .sa e f => .tup [.str "same", enc e, enc f]
def dp : Ex → Nat
  | .num _ => 0
  | .var _ => 0
  | .cell e => dp e + 1
  | .no e => dp e + 1
  | .ad e f => max (dp e) (dp f) + 1
  | .su e f => max (dp e) (dp f) + 1
  | .le e f => max (dp e) (dp f) + 1
  | .sa e f => max (dp e) (dp f) + 1
theorem worth_s (k : Nat) : f__law_worth (k + 1) = runFn 5 3 (b__law_worth (f__law_worth k)) := rfl
theorem getP_i {ks : List Key} {vs : List Int} {k : Key} {w : Option Wd} : getP ks (vs.map D.int) k ((.int 0, .fz), w) = some ((.int ((findI ks vs k).getD 0), .fz), w) := by
  unfold getP
  rw [dFind_int]
  cases findI ks vs k <;> rfl
theorem worth_ok : ∀ (e : Ex) (k : Nat), dp e < k → ∀ (ks ks' : List Key) (vs vs' : List Int) (w : Option Wd), ∃ v : Int, f__law_worth k [enc e, dkI ks vs, dkI ks' vs'] w = some ((.int v, .fz), w) := by
  intro e
  induction e with
  | num i =>
    intro k hk ks ks' vs vs' w
    obtain ⟨k, rfl⟩ : ∃ m, k = m + 1 := ⟨k - 1, by omega⟩
    refine ⟨i, ?_⟩
    rw [worth_s]
    simp -implicitDefEqProofs [b__law_worth, enc]
  | var s =>
    intro k hk ks ks' vs vs' w
    obtain ⟨k, rfl⟩ : ∃ m, k = m + 1 := ⟨k - 1, by omega⟩
    refine ⟨(findI ks vs (.inr s)).getD 0, ?_⟩
    rw [worth_s]
    simp -implicitDefEqProofs [b__law_worth, enc, getP_i]
  | cell e ih =>
    intro k hk ks ks' vs vs' w
    obtain ⟨k, rfl⟩ : ∃ m, k = m + 1 := ⟨k - 1, by omega⟩
    obtain ⟨v, h⟩ := ih k (by simp [dp] at hk; omega) ks ks' vs vs' w
    refine ⟨(findI ks' vs' (.inl v)).getD 0, ?_⟩
    rw [worth_s]
    have hl : [enc e].length ≤ lim := len1_lim
    simp -implicitDefEqProofs [b__law_worth, enc, getP_i, lcK_q hl, lcL_cons, h]
  | no e ih =>
    intro k hk ks ks' vs vs' w
    obtain ⟨k, rfl⟩ : ∃ m, k = m + 1 := ⟨k - 1, by omega⟩
    obtain ⟨v, h⟩ := ih k (by simp [dp] at hk; omega) ks ks' vs vs' w
    refine ⟨if v = 0 then 1 else 0, ?_⟩
    rw [worth_s]
    have hl : [enc e].length ≤ lim := len1_lim
    by_cases hv : v = 0 <;> simp -implicitDefEqProofs [b__law_worth, enc, getP_i, lcK_q hl, lcL_cons, h, hv]
  | ad e f ih jh =>
    intro k hk ks ks' vs vs' w
    obtain ⟨k, rfl⟩ : ∃ m, k = m + 1 := ⟨k - 1, by omega⟩
    obtain ⟨v, h⟩ := ih k (by simp [dp] at hk; omega) ks ks' vs vs' w
    obtain ⟨u, g⟩ := jh k (by simp [dp] at hk; omega) ks ks' vs vs' w
    refine ⟨v + u, ?_⟩
    rw [worth_s]
    have hl : [enc e, enc f].length ≤ lim := len2_lim
    simp -implicitDefEqProofs [b__law_worth, enc, getP_i, lcK_q hl, lcL_cons, h, g]
  | su e f ih jh =>
    intro k hk ks ks' vs vs' w
    obtain ⟨k, rfl⟩ : ∃ m, k = m + 1 := ⟨k - 1, by omega⟩
    obtain ⟨v, h⟩ := ih k (by simp [dp] at hk; omega) ks ks' vs vs' w
    obtain ⟨u, g⟩ := jh k (by simp [dp] at hk; omega) ks ks' vs vs' w
    refine ⟨v - u, ?_⟩
    rw [worth_s]
    have hl : [enc e, enc f].length ≤ lim := len2_lim
    simp -implicitDefEqProofs [b__law_worth, enc, getP_i, lcK_q hl, lcL_cons, h, g]
  | le e f ih jh =>
    intro k hk ks ks' vs vs' w
    obtain ⟨k, rfl⟩ : ∃ m, k = m + 1 := ⟨k - 1, by omega⟩
    obtain ⟨v, h⟩ := ih k (by simp [dp] at hk; omega) ks ks' vs vs' w
    obtain ⟨u, g⟩ := jh k (by simp [dp] at hk; omega) ks ks' vs vs' w
    refine ⟨if v < u then 1 else 0, ?_⟩
    rw [worth_s]
    have hl : [enc e, enc f].length ≤ lim := len2_lim
    by_cases hv : v < u
    · simp -implicitDefEqProofs [b__law_worth, enc, getP_i, lcK_q hl, lcL_cons, h, g, hv]
    · by_cases hu : v = u <;> simp -implicitDefEqProofs [b__law_worth, enc, getP_i, lcK_q hl, lcL_cons, h, g, hv, hu]
  | sa e f ih jh =>
    intro k hk ks ks' vs vs' w
    obtain ⟨k, rfl⟩ : ∃ m, k = m + 1 := ⟨k - 1, by omega⟩
    obtain ⟨v, h⟩ := ih k (by simp [dp] at hk; omega) ks ks' vs vs' w
    obtain ⟨u, g⟩ := jh k (by simp [dp] at hk; omega) ks ks' vs vs' w
    refine ⟨if v = u then 1 else 0, ?_⟩
    rw [worth_s]
    have hl : [enc e, enc f].length ≤ lim := len2_lim
    by_cases hv : v < u
    · have hu : ¬ v = u := by omega
      simp -implicitDefEqProofs [b__law_worth, enc, getP_i, lcK_q hl, lcL_cons, h, g, hv, hu]
    · by_cases hu : v = u <;> simp -implicitDefEqProofs [b__law_worth, enc, getP_i, lcK_q hl, lcL_cons, h, g, hv, hu]
end Kk42

set_option Elab.async false
set_option linter.all false
set_option maxRecDepth 100000
set_option maxHeartbeats 4000000
namespace Kk42
open PySem PySem.Spec PyProof.Rows L2 Dl
def g1 : Dl.SB := (sUnp (setT [3, 4, 5, 6]) (eVar 2))
def g2 : Dl.SB := (sUnp (setT [7, 8, 9, 10]) (eOp dIxG (eVar 3) (eUn dNeg (eC (.int 1)))))
def g3 : Dl.SB := (sUnpO [11, 12, 13] (aCons (eOp dIxG (eOp dIxG (eVar 0) (eVar 7)) (eC (.int 1))) (aCons (eA dDict (aCons (eVar 9) aNil)) (aCons (eA dDict (aCons (eVar 4) aNil)) aNil))))
def g4 : Dl.SB := (sSet 14 (eIf (tVal (eOp dLt (eVar 8) (eA dLen (aCons (eVar 11) aNil)))) (eOp dIxG (eOp dIxG (eVar 11) (eVar 8)) (eC (.int 1))) (eTup (aCons (eFz (eC (.str "give"))) (aCons (eFz (eC (.int 0))) aNil)))))
def g5 : Dl.SB := (sSet 15 (eOp dAdd (eVar 8) (eC (.int 1))))
def g6 : Dl.SB := (sIf (tVal (eOp dEq (eOp dIxG (eVar 14) (eC (.int 0))) (eC (.str "give")))) (sSeq (sPar 16 3 (aCons (eCallL (f__law_worth 40) (aCons (eOp dIxG (eVar 14) (eC (.int 1))) (aCons (eVar 12) (aCons (eVar 13) aNil)))) (aCons (eSl dSl (eVar 3) oNone (oSome (eUn dNeg (eC (.int 1))))) aNil))) (sSeq (sIf (tVal (eOp dNe (eVar 3) (eTup aNil))) (sSeq (sSet 17 (eA dDict (aCons (eOp dIxG (eOp dIxG (eVar 3) (eUn dNeg (eC (.int 1)))) (eC (.int 2))) aNil))) (sSeq (sFrz [16] (sPut 17 (eVar 10) (eVar 16))) (sFrz [17] (sSet 3 (eOp dAdd (eSl dSl (eVar 3) oNone (oSome (eUn dNeg (eC (.int 1))))) (eTup (aCons (eFz (eTup (aCons (eFz (eOp dIxG (eOp dIxG (eVar 3) (eUn dNeg (eC (.int 1)))) (eC (.int 0)))) (aCons (eFz (eOp dAdd (eOp dIxG (eOp dIxG (eVar 3) (eUn dNeg (eC (.int 1)))) (eC (.int 1))) (eC (.int 1)))) (aCons (eFz (eCall f__law_frozen (aCons (eFz (eVar 17)) aNil))) (aCons (eFz (eOp dIxG (eOp dIxG (eVar 3) (eUn dNeg (eC (.int 1)))) (eC (.int 3)))) aNil)))))) aNil))))))) (sNil)) (sFrz [3, 5, 6] (sRet (eTup (aCons (eFz (eVar 3)) (aCons (eFz (eVar 4)) (aCons (eFz (eVar 5)) (aCons (eFz (eVar 6)) aNil))))))))) (sNil))
def g7 : Dl.SB := (sIf (tVal (eOp dEq (eOp dIxG (eVar 14) (eC (.int 0))) (eC (.str "call")))) (sSeq (sSet 18 (eLC [20] (setN 20) (iSeq (eOp dIxG (eVar 14) (eC (.int 3)))) tYesD (eCallL (f__law_worth 40) (aCons (eVar 20) (aCons (eVar 12) (aCons (eVar 13) aNil)))))) (sSeq (sSet 19 (eOp dIxG (eOp dIxG (eVar 0) (eOp dIxG (eVar 14) (eC (.int 2)))) (eC (.int 0)))) (sFrz [5, 6] (sRet (eTup (aCons (eFz (eOp dAdd (eVar 3) (eTup (aCons (eFz (eTup (aCons (eFz (eOp dIxG (eVar 14) (eC (.int 2)))) (aCons (eFz (eC (.int 0))) (aCons (eFz (eCall f__law_frozen (aCons (eFz (eA dDict (aCons (eLC [21] (setN 21) (iRange (aCons (eA dLen (aCons (eVar 19) aNil)) aNil)) tYesD (eTup (aCons (eFz (eOp dIxG (eVar 19) (eVar 21))) (aCons (eFz (eOp dIxG (eVar 18) (eVar 21))) aNil)))) aNil))) aNil))) (aCons (eFz (eOp dIxG (eVar 14) (eC (.int 1)))) aNil)))))) aNil)))) (aCons (eFz (eVar 4)) (aCons (eFz (eVar 5)) (aCons (eFz (eVar 6)) aNil))))))))) (sNil))
def g8 : Dl.SB := (sIf ((tOrr (tVal (eOp dEq (eOp dIxG (eVar 14) (eC (.int 0))) (eC (.str "go")))) ((tAn (tVal (eOp dEq (eOp dIxG (eVar 14) (eC (.int 0))) (eC (.str "if")))) (tVal (eOp dNe (eCallL (f__law_worth 40) (aCons (eOp dIxG (eVar 14) (eC (.int 1))) (aCons (eVar 12) (aCons (eVar 13) aNil)))) (eC (.int 0)))))))) (sSet 15 (eOp dIxG (eVar 14) (eUn dNeg (eC (.int 1))))) (sNil))
def g9 : Dl.SB := (sIf (tVal (eOp dEq (eOp dIxG (eVar 14) (eC (.int 0))) (eC (.str "let")))) (sPut 12 (eOp dIxG (eVar 14) (eC (.int 1))) (eCallL (f__law_worth 40) (aCons (eOp dIxG (eVar 14) (eC (.int 2))) (aCons (eVar 12) (aCons (eVar 13) aNil))))) (sNil))
def g10 : Dl.SB := (sIf (tVal (eOp dEq (eOp dIxG (eVar 14) (eC (.int 0))) (eC (.str "ask")))) (sUnpP 12 (eOp dIxG (eVar 14) (eC (.int 1))) 6 (eTup (aCons (eFz (eIf (tVal (eOp dLt (eVar 6) (eA dLen (aCons (eVar 1) aNil)))) (eOp dIxG (eVar 1) (eVar 6)) (eC (.int 0)))) (aCons (eFz (eOp dAdd (eVar 6) (eC (.int 1)))) aNil)))) (sNil))
def g11 : Dl.SB := (sIf (tVal (eOp dEq (eOp dIxG (eVar 14) (eC (.int 0))) (eC (.str "put")))) (sPut 13 (eCallL (f__law_worth 40) (aCons (eOp dIxG (eVar 14) (eC (.int 1))) (aCons (eVar 12) (aCons (eVar 13) aNil)))) (eCallL (f__law_worth 40) (aCons (eOp dIxG (eVar 14) (eC (.int 2))) (aCons (eVar 12) (aCons (eVar 13) aNil))))) (sNil))
def g12 : Dl.SB := (sIf (tVal (eOp dEq (eOp dIxG (eVar 14) (eC (.int 0))) (eC (.str "say")))) (sSet 5 (eOp dAdd (eVar 5) (eTup (aCons (eFz (eCallL (f__law_worth 40) (aCons (eOp dIxG (eVar 14) (eC (.int 1))) (aCons (eVar 12) (aCons (eVar 13) aNil))))) aNil)))) (sNil))
def g13 : Dl.SB := (sFrz [5, 6, 12, 13, 15] (sRet (eTup (aCons (eFz (eOp dAdd (eSl dSl (eVar 3) oNone (oSome (eUn dNeg (eC (.int 1))))) (eTup (aCons (eFz (eTup (aCons (eFz (eVar 7)) (aCons (eFz (eVar 15)) (aCons (eFz (eCall f__law_frozen (aCons (eFz (eVar 12)) aNil))) (aCons (eFz (eVar 10)) aNil)))))) aNil)))) (aCons (eFz (eCall f__law_frozen (aCons (eFz (eVar 13)) aNil))) (aCons (eFz (eVar 5)) (aCons (eFz (eVar 6)) aNil)))))))
theorem step_eq : b__law_step f__law_frozen (f__law_worth 40) = (sSeq g1 (sSeq g2 (sSeq g3 (sSeq g4 (sSeq g5 (sSeq g6 (sSeq g7 (sSeq g8 (sSeq g9 (sSeq g10 (sSeq g11 (sSeq g12 g13)))))))))))) := rfl
/-! operations -/
inductive Op where
  | lt (x : Str) (e : Ex) | pt (c : Nat) (e : Ex) | fi (e : Ex) (t : Nat) | ca (x f : Str) (e : Ex) | as (x : Str) | gi (e : Ex) | go (t : Nat) | sy (e : Ex)
def encO : Op → D
  | .lt x e => .tup [.str "let", .str x, enc e]
  | .pt c e => .tup [.str "put", iN c, enc e]
  | .fi e t => .tup [.str "if", enc e, iN t]
  | .ca x f e => .tup [.str "call", .str x, .str f, .tup [enc e]]
  | .as x => .tup [.str "ask", .str x]
  | .gi e => .tup [.str "give", enc e]
  | .go t => .tup [.str "go", iN t]
  | .sy e => .tup [.str "say", enc e]
abbrev N3 : List Str := ["x", "y", "n"]
def OOk (fs : List Str) : Op → Prop
  | .lt x e => x ∈ N3 ∧ dp e ≤ 5
  | .pt c e => c < 3 ∧ dp e ≤ 5
  | .fi e _ => dp e ≤ 5
  | .ca x f e => x ∈ N3 ∧ f ∈ fs ∧ dp e ≤ 5
  | .as x => x ∈ N3
  | .gi e => dp e ≤ 5
  | .go _ => True
  | .sy e => dp e ≤ 5
abbrev Cd := List (Int × Op)
def encC (c : Cd) : D := .tup (c.map fun p => .tup [.int p.1, encO p.2])
def COk (fs : List Str) (c : Cd) : Prop := c.length ≤ 100 ∧ ∀ p ∈ c, OOk fs p.2
def PrOk (fs : List Str) (d : D) : Prop := ∃ ks ds, d = .dk ks ds ∧ (∃ c, dFind ks ds (.inr "main") = some (.tup [.tup [], encC c]) ∧ COk fs c) ∧ ∀ f ∈ fs, ∃ c, dFind ks ds (.inr f) = some (.tup [.tup [.str "x"], encC c]) ∧ COk fs c
/-! frames, states -/
structure Fr where
  name : Str
  place : Nat
  vars : D
  wants : D
def encF (f : Fr) : D := .tup [.str f.name, iN f.place, f.vars, f.wants]
def Upper (fs : List Str) (f : Fr) : Prop := f.name ∈ fs ∧ VT K3 f.vars ∧ ∃ x ∈ N3, f.wants = .str x
def Bot (f : Fr) : Prop := f.name = "main" ∧ VT K3 f.vars ∧ f.wants = .non
def FOk (fs : List Str) : List Fr → Prop
  | [] => True
  | m :: r => Bot m ∧ ∀ f ∈ r, Upper fs f
def SOk (fs : List Str) (n : Nat) (s : D) : Prop := ∃ (l : List Fr) (c : D) (t : List Int) (a : Nat), s = .tup [.tup (l.map encF), c, .tup (t.map D.int), iN a] ∧ FOk fs l ∧ l.length ≤ n + 1 ∧ VT C3 c ∧ t.length ≤ n
theorem FOk.init {fs : List Str} {i : List Fr} {t : Fr} (h : FOk fs (i ++ [t])) : FOk fs i := by
  cases i with
  | nil => trivial
  | cons m r => exact ⟨h.1, fun f hf => h.2 f (List.mem_append_left _ hf)⟩
theorem FOk.top {fs : List Str} {i : List Fr} {t : Fr} (h : FOk fs (i ++ [t])) : VT K3 t.vars ∧ ((i = [] ∧ Bot t) ∨ (i ≠ [] ∧ Upper fs t)) := by
  cases i with
  | nil => exact ⟨h.1.2.1, .inl ⟨rfl, h.1⟩⟩
  | cons m r =>
    have := h.2 t (List.mem_append_right _ List.mem_cons_self)
    exact ⟨this.2.1, .inr ⟨by simp, this⟩⟩
/-- the top frame changed -/
theorem FOk.set {fs : List Str} {i : List Fr} {t t' : Fr} (h : FOk fs (i ++ [t])) (e1 : t'.name = t.name) (e2 : t'.wants = t.wants) (hv : VT K3 t'.vars) : FOk fs (i ++ [t']) := by
  cases i with
  | nil =>
    obtain ⟨h1, _, h3⟩ := h.1
    exact ⟨⟨by rw [e1]; exact h1, hv, by rw [e2]; exact h3⟩, fun f hf => nomatch hf⟩
  | cons m r =>
    refine ⟨h.1, fun f hf => ?_⟩
    rcases List.mem_append.mp hf with hf | hf
    · exact h.2 f (List.mem_append_left _ hf)
    · rw [List.mem_singleton] at hf
      subst hf
      obtain ⟨h1, _, h3⟩ := h.2 t (List.mem_append_right _ List.mem_cons_self)
      exact ⟨by rw [e1]; exact h1, hv, by rw [e2]; exact h3⟩
theorem FOk.push {fs : List Str} {l : List Fr} (hl : l ≠ []) (h : FOk fs l) {t : Fr} (ht : Upper fs t) : FOk fs (l ++ [t]) := by
  cases l with
  | nil => exact absurd rfl hl
  | cons m r =>
    refine ⟨h.1, fun f hf => ?_⟩
    rcases List.mem_append.mp hf with hf | hf
    · exact h.2 f hf
    · rw [List.mem_singleton] at hf; subst hf; exact ht
theorem cut_init (xs : List D) (x : D) : Dl.cutD (xs ++ [x]) none (some (-1)) = xs := by
  unfold Dl.cutD
  have e1 : HT.sIx (xs ++ [x]).length 0 none = 0 := HT.sIx_none ..
  have e2 : HT.sIx (xs ++ [x]).length (xs ++ [x]).length (some (-1)) = xs.length := by
    unfold HT.sIx
    simp
    try omega
  rw [e1, e2]
  simp
section
variable {w : Option Wd} {u0 u1 u2 u3 u4 u5 u6 u7 u8 u9 u10 u11 u12 u13 u14 u15 u16 u17 u18 u19 u20 u21 : O}
/-- the last statement -/
theorem g13_ok {fs : List Str} {init : List Fr} {top : Fr} {n t2 a : Nat} {t : List Int} {ks ks' : List Key} {vs vs' : List Int} (hF : FOk fs (init ++ [top])) (hn : init.length ≤ n) (h100 : n ≤ 100) (ht : t.length ≤ n + 1) (k1 : DK K3 ks vs) (k2 : DK C3 ks' vs') :
    ∃ s', bnd (g13 [u0, u1, u2, some (.tup (init.map encF ++ [encF top]), false), u4, some (.tup (t.map D.int), false), some (iN a, false), some (.str top.name, false), u8, u9, some (top.wants, false), u11, some (dkI ks vs, true), some (dkI ks' vs', true), u14, some (iN t2, false), u16, u17, u18, u19, u20, u21] w) endP = some ((s', .fz), w) ∧ SOk fs (n + 1) s' := by
  obtain ⟨d1, h1, v1⟩ := frozen_ok rfl k1 (srt_K k1) w
  obtain ⟨d2, h2, v2⟩ := frozen_ok rfl k2 (srt_C k2) w
  refine ⟨.tup [.tup ((init ++ [(⟨top.name, t2, d1, top.wants⟩ : Fr)]).map encF), d2, .tup (t.map D.int), iN a], ?_, _, d2, t, a, rfl, hF.set (t' := ⟨top.name, t2, d1, top.wants⟩) rfl rfl v1, by simp; omega, v2, ht⟩
  have hc := cut_init (init.map encF) (encF top)
  have ha : dAdd (.tup (init.map encF)) (.tup [.tup [.str top.name, iN t2, d1, top.wants]]) = some (.tup (init.map encF ++ [.tup [.str top.name, iN t2, d1, top.wants]]), .fz) := dAdd_tt (le_lim (by simp; omega))
  have em : (init ++ [(⟨top.name, t2, d1, top.wants⟩ : Fr)]).map encF = init.map encF ++ [.tup [.str top.name, iN t2, d1, top.wants]] := by rw [List.map_append]; rfl
  rw [em]
  generalize init.map encF = F at *
  generalize encF top = tp at *
  generalize dkI ks vs = o1 at *
  generalize dkI ks' vs' = o2 at *
  unfold g13
  try simp -implicitDefEqProofs at ha
  simp -implicitDefEqProofs [h1, h2, hc, ha]
end
end Kk42

set_option Elab.async false
set_option linter.all false
set_option maxRecDepth 100000
set_option maxHeartbeats 600000
namespace Kk42
open PySem PySem.Spec PyProof.Rows L2 Dl
def gR : Dl.SB := (sSeq g6 (sSeq g7 (sSeq g8 (sSeq g9 (sSeq g10 (sSeq g11 (sSeq g12 g13)))))))
theorem ne_ss {a b : Str} : els2 (dEqF true) (dEqD true) (.str a) (.str b) = some (.bl (!decide (a = b)), .fz) := dNe_ss
section
variable {w : Option Wd} {u0 u1 u2 u3 u4 u5 u6 u7 u8 u9 u10 u11 u12 u13 u14 u15 u16 u17 u18 u19 u20 u21 : O}
theorem w40 (e : Ex) (h : dp e ≤ 5) (ks ks' : List Key) (vs vs' : List Int) (w : Option Wd) : ∃ v : Int, f__law_worth 40 [enc e, dkI ks vs, dkI ks' vs'] w = some ((.int v, .fz), w) := worth_ok e 40 (by omega) ks ks' vs vs' w
theorem n3_k {x : Str} (h : x ∈ N3) : (Sum.inr x : Key) ∈ K3 := by
  simp only [List.mem_cons, List.mem_nil_iff, or_false] at h
  rcases h with h | h | h <;> subst h <;> simp
theorem c3_k {c : Nat} (h : c < 3) : (Sum.inl (c : Int) : Key) ∈ C3 := by
  have : c = 0 ∨ c = 1 ∨ c = 2 := by omega
  rcases this with h | h | h <;> subst h <;> simp
theorem st_lt {fs : List Str} {pr : D} {ins : List Int} {init : List Fr} {top : Fr} {n p1 a : Nat} {t : List Int} {ks ks' : List Key} {vs vs' : List Int} (hF : FOk fs (init ++ [top])) (hn : init.length ≤ n) (h100 : n ≤ 90) (ht : t.length ≤ n) (k1 : DK K3 ks vs) (k2 : DK C3 ks' vs') {x : Str} {e : Ex} (ho : x ∈ N3 ∧ dp e ≤ 5) : ∃ s', bnd (gR [some (pr, false), some (.tup (ins.map D.int), false), u2, some (.tup (init.map encF ++ [encF top]), false), u4, some (.tup (t.map D.int), false), some (iN a, false), some (.str top.name, false), u8, u9, some (top.wants, false), u11, some (dkI ks vs, true), some (dkI ks' vs', true), some (.tup [.str "let", .str x, enc e], false), some (iN p1, false), u16, u17, u18, u19, u20, u21] w) endP = some ((s', .fz), w) ∧ SOk fs (n + 1) s' := by
  obtain ⟨v, hv⟩ := w40 e ho.2 ks ks' vs vs' w
  have hlim : ks.length < lim := lt_lim (by have := k1.le; simp at this; omega)
  obtain ⟨ks1, vs1, e1, k1'⟩ := k1.put (n3_k ho.1) v
  have s6 : g6 [some (pr, false), some (.tup (ins.map D.int), false), u2, some (.tup (init.map encF ++ [encF top]), false), u4, some (.tup (t.map D.int), false), some (iN a, false), some (.str top.name, false), u8, u9, some (top.wants, false), u11, some (dkI ks vs, true), some (dkI ks' vs', true), some (.tup [.str "let", .str x, enc e], false), some (iN p1, false), u16, u17, u18, u19, u20, u21] w = some (.nx [some (pr, false), some (.tup (ins.map D.int), false), u2, some (.tup (init.map encF ++ [encF top]), false), u4, some (.tup (t.map D.int), false), some (iN a, false), some (.str top.name, false), u8, u9, some (top.wants, false), u11, some (dkI ks vs, true), some (dkI ks' vs', true), some (.tup [.str "let", .str x, enc e], false), some (iN p1, false), u16, u17, u18, u19, u20, u21] w) := by
    unfold g6
    simp -implicitDefEqProofs
  have s7 : g7 [some (pr, false), some (.tup (ins.map D.int), false), u2, some (.tup (init.map encF ++ [encF top]), false), u4, some (.tup (t.map D.int), false), some (iN a, false), some (.str top.name, false), u8, u9, some (top.wants, false), u11, some (dkI ks vs, true), some (dkI ks' vs', true), some (.tup [.str "let", .str x, enc e], false), some (iN p1, false), u16, u17, u18, u19, u20, u21] w = some (.nx [some (pr, false), some (.tup (ins.map D.int), false), u2, some (.tup (init.map encF ++ [encF top]), false), u4, some (.tup (t.map D.int), false), some (iN a, false), some (.str top.name, false), u8, u9, some (top.wants, false), u11, some (dkI ks vs, true), some (dkI ks' vs', true), some (.tup [.str "let", .str x, enc e], false), some (iN p1, false), u16, u17, u18, u19, u20, u21] w) := by
    unfold g7
    simp -implicitDefEqProofs
  have s8 : g8 [some (pr, false), some (.tup (ins.map D.int), false), u2, some (.tup (init.map encF ++ [encF top]), false), u4, some (.tup (t.map D.int), false), some (iN a, false), some (.str top.name, false), u8, u9, some (top.wants, false), u11, some (dkI ks vs, true), some (dkI ks' vs', true), some (.tup [.str "let", .str x, enc e], false), some (iN p1, false), u16, u17, u18, u19, u20, u21] w = some (.nx [some (pr, false), some (.tup (ins.map D.int), false), u2, some (.tup (init.map encF ++ [encF top]), false), u4, some (.tup (t.map D.int), false), some (iN a, false), some (.str top.name, false), u8, u9, some (top.wants, false), u11, some (dkI ks vs, true), some (dkI ks' vs', true), some (.tup [.str "let", .str x, enc e], false), some (iN p1, false), u16, u17, u18, u19, u20, u21] w) := by
    unfold g8
    simp -implicitDefEqProofs
  have s9 : g9 [some (pr, false), some (.tup (ins.map D.int), false), u2, some (.tup (init.map encF ++ [encF top]), false), u4, some (.tup (t.map D.int), false), some (iN a, false), some (.str top.name, false), u8, u9, some (top.wants, false), u11, some (dkI ks vs, true), some (dkI ks' vs', true), some (.tup [.str "let", .str x, enc e], false), some (iN p1, false), u16, u17, u18, u19, u20, u21] w = some (.nx [some (pr, false), some (.tup (ins.map D.int), false), u2, some (.tup (init.map encF ++ [encF top]), false), u4, some (.tup (t.map D.int), false), some (iN a, false), some (.str top.name, false), u8, u9, some (top.wants, false), u11, some (dkI ks1 vs1, true), some (dkI ks' vs', true), some (.tup [.str "let", .str x, enc e], false), some (iN p1, false), u16, u17, u18, u19, u20, u21] w) := by
    have hp := putK3_q (w := w) (i := 12) (env := [some (pr, false), some (.tup (ins.map D.int), false), u2, some (.tup (init.map encF ++ [encF top]), false), u4, some (.tup (t.map D.int), false), some (iN a, false), some (.str top.name, false), u8, u9, some (top.wants, false), u11, some (dkI ks vs, true), some (dkI ks' vs', true), some (.tup [.str "let", .str x, enc e], false), some (iN p1, false), u16, u17, u18, u19, u20, u21]) (x := .int v) rfl (putD_dk (keyD_s (i := x)) hlim)
    rw [e1] at hp
    unfold g9
    simp -implicitDefEqProofs [hv]
    exact hp
  have s10 : g10 [some (pr, false), some (.tup (ins.map D.int), false), u2, some (.tup (init.map encF ++ [encF top]), false), u4, some (.tup (t.map D.int), false), some (iN a, false), some (.str top.name, false), u8, u9, some (top.wants, false), u11, some (dkI ks1 vs1, true), some (dkI ks' vs', true), some (.tup [.str "let", .str x, enc e], false), some (iN p1, false), u16, u17, u18, u19, u20, u21] w = some (.nx [some (pr, false), some (.tup (ins.map D.int), false), u2, some (.tup (init.map encF ++ [encF top]), false), u4, some (.tup (t.map D.int), false), some (iN a, false), some (.str top.name, false), u8, u9, some (top.wants, false), u11, some (dkI ks1 vs1, true), some (dkI ks' vs', true), some (.tup [.str "let", .str x, enc e], false), some (iN p1, false), u16, u17, u18, u19, u20, u21] w) := by
    unfold g10
    simp -implicitDefEqProofs
  have s11 : g11 [some (pr, false), some (.tup (ins.map D.int), false), u2, some (.tup (init.map encF ++ [encF top]), false), u4, some (.tup (t.map D.int), false), some (iN a, false), some (.str top.name, false), u8, u9, some (top.wants, false), u11, some (dkI ks1 vs1, true), some (dkI ks' vs', true), some (.tup [.str "let", .str x, enc e], false), some (iN p1, false), u16, u17, u18, u19, u20, u21] w = some (.nx [some (pr, false), some (.tup (ins.map D.int), false), u2, some (.tup (init.map encF ++ [encF top]), false), u4, some (.tup (t.map D.int), false), some (iN a, false), some (.str top.name, false), u8, u9, some (top.wants, false), u11, some (dkI ks1 vs1, true), some (dkI ks' vs', true), some (.tup [.str "let", .str x, enc e], false), some (iN p1, false), u16, u17, u18, u19, u20, u21] w) := by
    unfold g11
    simp -implicitDefEqProofs
  have s12 : g12 [some (pr, false), some (.tup (ins.map D.int), false), u2, some (.tup (init.map encF ++ [encF top]), false), u4, some (.tup (t.map D.int), false), some (iN a, false), some (.str top.name, false), u8, u9, some (top.wants, false), u11, some (dkI ks1 vs1, true), some (dkI ks' vs', true), some (.tup [.str "let", .str x, enc e], false), some (iN p1, false), u16, u17, u18, u19, u20, u21] w = some (.nx [some (pr, false), some (.tup (ins.map D.int), false), u2, some (.tup (init.map encF ++ [encF top]), false), u4, some (.tup (t.map D.int), false), some (iN a, false), some (.str top.name, false), u8, u9, some (top.wants, false), u11, some (dkI ks1 vs1, true), some (dkI ks' vs', true), some (.tup [.str "let", .str x, enc e], false), some (iN p1, false), u16, u17, u18, u19, u20, u21] w) := by
    unfold g12
    simp -implicitDefEqProofs
  obtain ⟨s', h13, o13⟩ := g13_ok (w := w) (u0 := some (pr, false)) (u1 := some (.tup (ins.map D.int), false)) (u14 := some (.tup [.str "let", .str x, enc e], false)) (t2 := p1) (t := t) hF hn (by omega) (by omega) k1' k2
  refine ⟨s', ?_, o13⟩
  unfold gR
  rw [sSeq_q, s6, bnd_some, nxt_nx, sSeq_q, s7, bnd_some, nxt_nx, sSeq_q, s8, bnd_some, nxt_nx, sSeq_q, s9, bnd_some, nxt_nx, sSeq_q, s10, bnd_some, nxt_nx, sSeq_q, s11, bnd_some, nxt_nx, sSeq_q, s12, bnd_some, nxt_nx]
  exact h13
theorem st_pt {fs : List Str} {pr : D} {ins : List Int} {init : List Fr} {top : Fr} {n p1 a : Nat} {t : List Int} {ks ks' : List Key} {vs vs' : List Int} (hF : FOk fs (init ++ [top])) (hn : init.length ≤ n) (h100 : n ≤ 90) (ht : t.length ≤ n) (k1 : DK K3 ks vs) (k2 : DK C3 ks' vs') {c : Nat} {e : Ex} (ho : c < 3 ∧ dp e ≤ 5) : ∃ s', bnd (gR [some (pr, false), some (.tup (ins.map D.int), false), u2, some (.tup (init.map encF ++ [encF top]), false), u4, some (.tup (t.map D.int), false), some (iN a, false), some (.str top.name, false), u8, u9, some (top.wants, false), u11, some (dkI ks vs, true), some (dkI ks' vs', true), some (.tup [.str "put", iN c, enc e], false), some (iN p1, false), u16, u17, u18, u19, u20, u21] w) endP = some ((s', .fz), w) ∧ SOk fs (n + 1) s' := by
  obtain ⟨v, hv⟩ := w40 e ho.2 ks ks' vs vs' w
  have hv2 : f__law_worth 40 [iN c, dkI ks vs, dkI ks' vs'] w = some ((.int c, .fz), w) := by
    show runFn 5 3 (b__law_worth (f__law_worth 39)) [iN c, dkI ks vs, dkI ks' vs'] w = _
    simp -implicitDefEqProofs [b__law_worth]
  have hlim : ks'.length < lim := lt_lim (by have := k2.le; simp at this; omega)
  obtain ⟨ks1, vs1, e1, k2'⟩ := k2.put (c3_k ho.1) v
  have s6 : g6 [some (pr, false), some (.tup (ins.map D.int), false), u2, some (.tup (init.map encF ++ [encF top]), false), u4, some (.tup (t.map D.int), false), some (iN a, false), some (.str top.name, false), u8, u9, some (top.wants, false), u11, some (dkI ks vs, true), some (dkI ks' vs', true), some (.tup [.str "put", iN c, enc e], false), some (iN p1, false), u16, u17, u18, u19, u20, u21] w = some (.nx [some (pr, false), some (.tup (ins.map D.int), false), u2, some (.tup (init.map encF ++ [encF top]), false), u4, some (.tup (t.map D.int), false), some (iN a, false), some (.str top.name, false), u8, u9, some (top.wants, false), u11, some (dkI ks vs, true), some (dkI ks' vs', true), some (.tup [.str "put", iN c, enc e], false), some (iN p1, false), u16, u17, u18, u19, u20, u21] w) := by
    unfold g6
    simp -implicitDefEqProofs
  have s7 : g7 [some (pr, false), some (.tup (ins.map D.int), false), u2, some (.tup (init.map encF ++ [encF top]), false), u4, some (.tup (t.map D.int), false), some (iN a, false), some (.str top.name, false), u8, u9, some (top.wants, false), u11, some (dkI ks vs, true), some (dkI ks' vs', true), some (.tup [.str "put", iN c, enc e], false), some (iN p1, false), u16, u17, u18, u19, u20, u21] w = some (.nx [some (pr, false), some (.tup (ins.map D.int), false), u2, some (.tup (init.map encF ++ [encF top]), false), u4, some (.tup (t.map D.int), false), some (iN a, false), some (.str top.name, false), u8, u9, some (top.wants, false), u11, some (dkI ks vs, true), some (dkI ks' vs', true), some (.tup [.str "put", iN c, enc e], false), some (iN p1, false), u16, u17, u18, u19, u20, u21] w) := by
    unfold g7
    simp -implicitDefEqProofs
  have s8 : g8 [some (pr, false), some (.tup (ins.map D.int), false), u2, some (.tup (init.map encF ++ [encF top]), false), u4, some (.tup (t.map D.int), false), some (iN a, false), some (.str top.name, false), u8, u9, some (top.wants, false), u11, some (dkI ks vs, true), some (dkI ks' vs', true), some (.tup [.str "put", iN c, enc e], false), some (iN p1, false), u16, u17, u18, u19, u20, u21] w = some (.nx [some (pr, false), some (.tup (ins.map D.int), false), u2, some (.tup (init.map encF ++ [encF top]), false), u4, some (.tup (t.map D.int), false), some (iN a, false), some (.str top.name, false), u8, u9, some (top.wants, false), u11, some (dkI ks vs, true), some (dkI ks' vs', true), some (.tup [.str "put", iN c, enc e], false), some (iN p1, false), u16, u17, u18, u19, u20, u21] w) := by
    unfold g8
    simp -implicitDefEqProofs
  have s9 : g9 [some (pr, false), some (.tup (ins.map D.int), false), u2, some (.tup (init.map encF ++ [encF top]), false), u4, some (.tup (t.map D.int), false), some (iN a, false), some (.str top.name, false), u8, u9, some (top.wants, false), u11, some (dkI ks vs, true), some (dkI ks' vs', true), some (.tup [.str "put", iN c, enc e], false), some (iN p1, false), u16, u17, u18, u19, u20, u21] w = some (.nx [some (pr, false), some (.tup (ins.map D.int), false), u2, some (.tup (init.map encF ++ [encF top]), false), u4, some (.tup (t.map D.int), false), some (iN a, false), some (.str top.name, false), u8, u9, some (top.wants, false), u11, some (dkI ks vs, true), some (dkI ks' vs', true), some (.tup [.str "put", iN c, enc e], false), some (iN p1, false), u16, u17, u18, u19, u20, u21] w) := by
    unfold g9
    simp -implicitDefEqProofs
  have s10 : g10 [some (pr, false), some (.tup (ins.map D.int), false), u2, some (.tup (init.map encF ++ [encF top]), false), u4, some (.tup (t.map D.int), false), some (iN a, false), some (.str top.name, false), u8, u9, some (top.wants, false), u11, some (dkI ks vs, true), some (dkI ks' vs', true), some (.tup [.str "put", iN c, enc e], false), some (iN p1, false), u16, u17, u18, u19, u20, u21] w = some (.nx [some (pr, false), some (.tup (ins.map D.int), false), u2, some (.tup (init.map encF ++ [encF top]), false), u4, some (.tup (t.map D.int), false), some (iN a, false), some (.str top.name, false), u8, u9, some (top.wants, false), u11, some (dkI ks vs, true), some (dkI ks' vs', true), some (.tup [.str "put", iN c, enc e], false), some (iN p1, false), u16, u17, u18, u19, u20, u21] w) := by
    unfold g10
    simp -implicitDefEqProofs
  have s11 : g11 [some (pr, false), some (.tup (ins.map D.int), false), u2, some (.tup (init.map encF ++ [encF top]), false), u4, some (.tup (t.map D.int), false), some (iN a, false), some (.str top.name, false), u8, u9, some (top.wants, false), u11, some (dkI ks vs, true), some (dkI ks' vs', true), some (.tup [.str "put", iN c, enc e], false), some (iN p1, false), u16, u17, u18, u19, u20, u21] w = some (.nx [some (pr, false), some (.tup (ins.map D.int), false), u2, some (.tup (init.map encF ++ [encF top]), false), u4, some (.tup (t.map D.int), false), some (iN a, false), some (.str top.name, false), u8, u9, some (top.wants, false), u11, some (dkI ks vs, true), some (dkI ks1 vs1, true), some (.tup [.str "put", iN c, enc e], false), some (iN p1, false), u16, u17, u18, u19, u20, u21] w) := by
    have hp := putK3_q (w := w) (i := 13) (env := [some (pr, false), some (.tup (ins.map D.int), false), u2, some (.tup (init.map encF ++ [encF top]), false), u4, some (.tup (t.map D.int), false), some (iN a, false), some (.str top.name, false), u8, u9, some (top.wants, false), u11, some (dkI ks vs, true), some (dkI ks' vs', true), some (.tup [.str "put", iN c, enc e], false), some (iN p1, false), u16, u17, u18, u19, u20, u21]) (x := .int v) rfl (putD_dk (keyD_i (i := (c : Int))) hlim)
    rw [e1] at hp
    unfold g11
    simp -implicitDefEqProofs [hv, hv2]
    exact hp
  have s12 : g12 [some (pr, false), some (.tup (ins.map D.int), false), u2, some (.tup (init.map encF ++ [encF top]), false), u4, some (.tup (t.map D.int), false), some (iN a, false), some (.str top.name, false), u8, u9, some (top.wants, false), u11, some (dkI ks vs, true), some (dkI ks1 vs1, true), some (.tup [.str "put", iN c, enc e], false), some (iN p1, false), u16, u17, u18, u19, u20, u21] w = some (.nx [some (pr, false), some (.tup (ins.map D.int), false), u2, some (.tup (init.map encF ++ [encF top]), false), u4, some (.tup (t.map D.int), false), some (iN a, false), some (.str top.name, false), u8, u9, some (top.wants, false), u11, some (dkI ks vs, true), some (dkI ks1 vs1, true), some (.tup [.str "put", iN c, enc e], false), some (iN p1, false), u16, u17, u18, u19, u20, u21] w) := by
    unfold g12
    simp -implicitDefEqProofs
  obtain ⟨s', h13, o13⟩ := g13_ok (w := w) (u0 := some (pr, false)) (u1 := some (.tup (ins.map D.int), false)) (u14 := some (.tup [.str "put", iN c, enc e], false)) (t2 := p1) (t := t) hF hn (by omega) (by omega) k1 k2'
  refine ⟨s', ?_, o13⟩
  unfold gR
  rw [sSeq_q, s6, bnd_some, nxt_nx, sSeq_q, s7, bnd_some, nxt_nx, sSeq_q, s8, bnd_some, nxt_nx, sSeq_q, s9, bnd_some, nxt_nx, sSeq_q, s10, bnd_some, nxt_nx, sSeq_q, s11, bnd_some, nxt_nx, sSeq_q, s12, bnd_some, nxt_nx]
  exact h13
theorem st_sy {fs : List Str} {pr : D} {ins : List Int} {init : List Fr} {top : Fr} {n p1 a : Nat} {t : List Int} {ks ks' : List Key} {vs vs' : List Int} (hF : FOk fs (init ++ [top])) (hn : init.length ≤ n) (h100 : n ≤ 90) (ht : t.length ≤ n) (k1 : DK K3 ks vs) (k2 : DK C3 ks' vs') {e : Ex} (ho : dp e ≤ 5) : ∃ s', bnd (gR [some (pr, false), some (.tup (ins.map D.int), false), u2, some (.tup (init.map encF ++ [encF top]), false), u4, some (.tup (t.map D.int), false), some (iN a, false), some (.str top.name, false), u8, u9, some (top.wants, false), u11, some (dkI ks vs, true), some (dkI ks' vs', true), some (.tup [.str "say", enc e], false), some (iN p1, false), u16, u17, u18, u19, u20, u21] w) endP = some ((s', .fz), w) ∧ SOk fs (n + 1) s' := by
  obtain ⟨v, hv⟩ := w40 e ho ks ks' vs vs' w
  have s6 : g6 [some (pr, false), some (.tup (ins.map D.int), false), u2, some (.tup (init.map encF ++ [encF top]), false), u4, some (.tup (t.map D.int), false), some (iN a, false), some (.str top.name, false), u8, u9, some (top.wants, false), u11, some (dkI ks vs, true), some (dkI ks' vs', true), some (.tup [.str "say", enc e], false), some (iN p1, false), u16, u17, u18, u19, u20, u21] w = some (.nx [some (pr, false), some (.tup (ins.map D.int), false), u2, some (.tup (init.map encF ++ [encF top]), false), u4, some (.tup (t.map D.int), false), some (iN a, false), some (.str top.name, false), u8, u9, some (top.wants, false), u11, some (dkI ks vs, true), some (dkI ks' vs', true), some (.tup [.str "say", enc e], false), some (iN p1, false), u16, u17, u18, u19, u20, u21] w) := by
    unfold g6
    simp -implicitDefEqProofs
  have s7 : g7 [some (pr, false), some (.tup (ins.map D.int), false), u2, some (.tup (init.map encF ++ [encF top]), false), u4, some (.tup (t.map D.int), false), some (iN a, false), some (.str top.name, false), u8, u9, some (top.wants, false), u11, some (dkI ks vs, true), some (dkI ks' vs', true), some (.tup [.str "say", enc e], false), some (iN p1, false), u16, u17, u18, u19, u20, u21] w = some (.nx [some (pr, false), some (.tup (ins.map D.int), false), u2, some (.tup (init.map encF ++ [encF top]), false), u4, some (.tup (t.map D.int), false), some (iN a, false), some (.str top.name, false), u8, u9, some (top.wants, false), u11, some (dkI ks vs, true), some (dkI ks' vs', true), some (.tup [.str "say", enc e], false), some (iN p1, false), u16, u17, u18, u19, u20, u21] w) := by
    unfold g7
    simp -implicitDefEqProofs
  have s8 : g8 [some (pr, false), some (.tup (ins.map D.int), false), u2, some (.tup (init.map encF ++ [encF top]), false), u4, some (.tup (t.map D.int), false), some (iN a, false), some (.str top.name, false), u8, u9, some (top.wants, false), u11, some (dkI ks vs, true), some (dkI ks' vs', true), some (.tup [.str "say", enc e], false), some (iN p1, false), u16, u17, u18, u19, u20, u21] w = some (.nx [some (pr, false), some (.tup (ins.map D.int), false), u2, some (.tup (init.map encF ++ [encF top]), false), u4, some (.tup (t.map D.int), false), some (iN a, false), some (.str top.name, false), u8, u9, some (top.wants, false), u11, some (dkI ks vs, true), some (dkI ks' vs', true), some (.tup [.str "say", enc e], false), some (iN p1, false), u16, u17, u18, u19, u20, u21] w) := by
    unfold g8
    simp -implicitDefEqProofs
  have s9 : g9 [some (pr, false), some (.tup (ins.map D.int), false), u2, some (.tup (init.map encF ++ [encF top]), false), u4, some (.tup (t.map D.int), false), some (iN a, false), some (.str top.name, false), u8, u9, some (top.wants, false), u11, some (dkI ks vs, true), some (dkI ks' vs', true), some (.tup [.str "say", enc e], false), some (iN p1, false), u16, u17, u18, u19, u20, u21] w = some (.nx [some (pr, false), some (.tup (ins.map D.int), false), u2, some (.tup (init.map encF ++ [encF top]), false), u4, some (.tup (t.map D.int), false), some (iN a, false), some (.str top.name, false), u8, u9, some (top.wants, false), u11, some (dkI ks vs, true), some (dkI ks' vs', true), some (.tup [.str "say", enc e], false), some (iN p1, false), u16, u17, u18, u19, u20, u21] w) := by
    unfold g9
    simp -implicitDefEqProofs
  have s10 : g10 [some (pr, false), some (.tup (ins.map D.int), false), u2, some (.tup (init.map encF ++ [encF top]), false), u4, some (.tup (t.map D.int), false), some (iN a, false), some (.str top.name, false), u8, u9, some (top.wants, false), u11, some (dkI ks vs, true), some (dkI ks' vs', true), some (.tup [.str "say", enc e], false), some (iN p1, false), u16, u17, u18, u19, u20, u21] w = some (.nx [some (pr, false), some (.tup (ins.map D.int), false), u2, some (.tup (init.map encF ++ [encF top]), false), u4, some (.tup (t.map D.int), false), some (iN a, false), some (.str top.name, false), u8, u9, some (top.wants, false), u11, some (dkI ks vs, true), some (dkI ks' vs', true), some (.tup [.str "say", enc e], false), some (iN p1, false), u16, u17, u18, u19, u20, u21] w) := by
    unfold g10
    simp -implicitDefEqProofs
  have s11 : g11 [some (pr, false), some (.tup (ins.map D.int), false), u2, some (.tup (init.map encF ++ [encF top]), false), u4, some (.tup (t.map D.int), false), some (iN a, false), some (.str top.name, false), u8, u9, some (top.wants, false), u11, some (dkI ks vs, true), some (dkI ks' vs', true), some (.tup [.str "say", enc e], false), some (iN p1, false), u16, u17, u18, u19, u20, u21] w = some (.nx [some (pr, false), some (.tup (ins.map D.int), false), u2, some (.tup (init.map encF ++ [encF top]), false), u4, some (.tup (t.map D.int), false), some (iN a, false), some (.str top.name, false), u8, u9, some (top.wants, false), u11, some (dkI ks vs, true), some (dkI ks' vs', true), some (.tup [.str "say", enc e], false), some (iN p1, false), u16, u17, u18, u19, u20, u21] w) := by
    unfold g11
    simp -implicitDefEqProofs
  have s12 : g12 [some (pr, false), some (.tup (ins.map D.int), false), u2, some (.tup (init.map encF ++ [encF top]), false), u4, some (.tup (t.map D.int), false), some (iN a, false), some (.str top.name, false), u8, u9, some (top.wants, false), u11, some (dkI ks vs, true), some (dkI ks' vs', true), some (.tup [.str "say", enc e], false), some (iN p1, false), u16, u17, u18, u19, u20, u21] w = some (.nx [some (pr, false), some (.tup (ins.map D.int), false), u2, some (.tup (init.map encF ++ [encF top]), false), u4, some (.tup ((t ++ [v]).map D.int), false), some (iN a, false), some (.str top.name, false), u8, u9, some (top.wants, false), u11, some (dkI ks vs, true), some (dkI ks' vs', true), some (.tup [.str "say", enc e], false), some (iN p1, false), u16, u17, u18, u19, u20, u21] w) := by
    have ha : dAdd (.tup (t.map D.int)) (.tup [.int v]) = some (.tup ((t ++ [v]).map D.int), .fz) := by
      rw [List.map_append]
      exact dAdd_tt (le_lim (by simp; omega))
    generalize (t ++ [v]).map D.int = T2 at *
    unfold g12
    try simp -implicitDefEqProofs at ha
    simp -implicitDefEqProofs [hv, ha]
  obtain ⟨s', h13, o13⟩ := g13_ok (w := w) (u0 := some (pr, false)) (u1 := some (.tup (ins.map D.int), false)) (u14 := some (.tup [.str "say", enc e], false)) (t2 := p1) (t := t ++ [v]) hF hn (by omega) (by simp; omega) k1 k2
  refine ⟨s', ?_, o13⟩
  unfold gR
  rw [sSeq_q, s6, bnd_some, nxt_nx, sSeq_q, s7, bnd_some, nxt_nx, sSeq_q, s8, bnd_some, nxt_nx, sSeq_q, s9, bnd_some, nxt_nx, sSeq_q, s10, bnd_some, nxt_nx, sSeq_q, s11, bnd_some, nxt_nx, sSeq_q, s12, bnd_some, nxt_nx]
  exact h13
theorem st_go {fs : List Str} {pr : D} {ins : List Int} {init : List Fr} {top : Fr} {n p1 a : Nat} {t : List Int} {ks ks' : List Key} {vs vs' : List Int} (hF : FOk fs (init ++ [top])) (hn : init.length ≤ n) (h100 : n ≤ 90) (ht : t.length ≤ n) (k1 : DK K3 ks vs) (k2 : DK C3 ks' vs') {q : Nat} : ∃ s', bnd (gR [some (pr, false), some (.tup (ins.map D.int), false), u2, some (.tup (init.map encF ++ [encF top]), false), u4, some (.tup (t.map D.int), false), some (iN a, false), some (.str top.name, false), u8, u9, some (top.wants, false), u11, some (dkI ks vs, true), some (dkI ks' vs', true), some (.tup [.str "go", iN q], false), some (iN p1, false), u16, u17, u18, u19, u20, u21] w) endP = some ((s', .fz), w) ∧ SOk fs (n + 1) s' := by
  have s6 : g6 [some (pr, false), some (.tup (ins.map D.int), false), u2, some (.tup (init.map encF ++ [encF top]), false), u4, some (.tup (t.map D.int), false), some (iN a, false), some (.str top.name, false), u8, u9, some (top.wants, false), u11, some (dkI ks vs, true), some (dkI ks' vs', true), some (.tup [.str "go", iN q], false), some (iN p1, false), u16, u17, u18, u19, u20, u21] w = some (.nx [some (pr, false), some (.tup (ins.map D.int), false), u2, some (.tup (init.map encF ++ [encF top]), false), u4, some (.tup (t.map D.int), false), some (iN a, false), some (.str top.name, false), u8, u9, some (top.wants, false), u11, some (dkI ks vs, true), some (dkI ks' vs', true), some (.tup [.str "go", iN q], false), some (iN p1, false), u16, u17, u18, u19, u20, u21] w) := by
    unfold g6
    simp -implicitDefEqProofs
  have s7 : g7 [some (pr, false), some (.tup (ins.map D.int), false), u2, some (.tup (init.map encF ++ [encF top]), false), u4, some (.tup (t.map D.int), false), some (iN a, false), some (.str top.name, false), u8, u9, some (top.wants, false), u11, some (dkI ks vs, true), some (dkI ks' vs', true), some (.tup [.str "go", iN q], false), some (iN p1, false), u16, u17, u18, u19, u20, u21] w = some (.nx [some (pr, false), some (.tup (ins.map D.int), false), u2, some (.tup (init.map encF ++ [encF top]), false), u4, some (.tup (t.map D.int), false), some (iN a, false), some (.str top.name, false), u8, u9, some (top.wants, false), u11, some (dkI ks vs, true), some (dkI ks' vs', true), some (.tup [.str "go", iN q], false), some (iN p1, false), u16, u17, u18, u19, u20, u21] w) := by
    unfold g7
    simp -implicitDefEqProofs
  have s8 : g8 [some (pr, false), some (.tup (ins.map D.int), false), u2, some (.tup (init.map encF ++ [encF top]), false), u4, some (.tup (t.map D.int), false), some (iN a, false), some (.str top.name, false), u8, u9, some (top.wants, false), u11, some (dkI ks vs, true), some (dkI ks' vs', true), some (.tup [.str "go", iN q], false), some (iN p1, false), u16, u17, u18, u19, u20, u21] w = some (.nx [some (pr, false), some (.tup (ins.map D.int), false), u2, some (.tup (init.map encF ++ [encF top]), false), u4, some (.tup (t.map D.int), false), some (iN a, false), some (.str top.name, false), u8, u9, some (top.wants, false), u11, some (dkI ks vs, true), some (dkI ks' vs', true), some (.tup [.str "go", iN q], false), some (iN q, false), u16, u17, u18, u19, u20, u21] w) := by
    have l2 : ∀ (x z : D), atI [x, z] (-1) = some z := fun x z => atI_last [x] z
    unfold g8
    simp -implicitDefEqProofs [l2]
  have s9 : g9 [some (pr, false), some (.tup (ins.map D.int), false), u2, some (.tup (init.map encF ++ [encF top]), false), u4, some (.tup (t.map D.int), false), some (iN a, false), some (.str top.name, false), u8, u9, some (top.wants, false), u11, some (dkI ks vs, true), some (dkI ks' vs', true), some (.tup [.str "go", iN q], false), some (iN q, false), u16, u17, u18, u19, u20, u21] w = some (.nx [some (pr, false), some (.tup (ins.map D.int), false), u2, some (.tup (init.map encF ++ [encF top]), false), u4, some (.tup (t.map D.int), false), some (iN a, false), some (.str top.name, false), u8, u9, some (top.wants, false), u11, some (dkI ks vs, true), some (dkI ks' vs', true), some (.tup [.str "go", iN q], false), some (iN q, false), u16, u17, u18, u19, u20, u21] w) := by
    unfold g9
    simp -implicitDefEqProofs
  have s10 : g10 [some (pr, false), some (.tup (ins.map D.int), false), u2, some (.tup (init.map encF ++ [encF top]), false), u4, some (.tup (t.map D.int), false), some (iN a, false), some (.str top.name, false), u8, u9, some (top.wants, false), u11, some (dkI ks vs, true), some (dkI ks' vs', true), some (.tup [.str "go", iN q], false), some (iN q, false), u16, u17, u18, u19, u20, u21] w = some (.nx [some (pr, false), some (.tup (ins.map D.int), false), u2, some (.tup (init.map encF ++ [encF top]), false), u4, some (.tup (t.map D.int), false), some (iN a, false), some (.str top.name, false), u8, u9, some (top.wants, false), u11, some (dkI ks vs, true), some (dkI ks' vs', true), some (.tup [.str "go", iN q], false), some (iN q, false), u16, u17, u18, u19, u20, u21] w) := by
    unfold g10
    simp -implicitDefEqProofs
  have s11 : g11 [some (pr, false), some (.tup (ins.map D.int), false), u2, some (.tup (init.map encF ++ [encF top]), false), u4, some (.tup (t.map D.int), false), some (iN a, false), some (.str top.name, false), u8, u9, some (top.wants, false), u11, some (dkI ks vs, true), some (dkI ks' vs', true), some (.tup [.str "go", iN q], false), some (iN q, false), u16, u17, u18, u19, u20, u21] w = some (.nx [some (pr, false), some (.tup (ins.map D.int), false), u2, some (.tup (init.map encF ++ [encF top]), false), u4, some (.tup (t.map D.int), false), some (iN a, false), some (.str top.name, false), u8, u9, some (top.wants, false), u11, some (dkI ks vs, true), some (dkI ks' vs', true), some (.tup [.str "go", iN q], false), some (iN q, false), u16, u17, u18, u19, u20, u21] w) := by
    unfold g11
    simp -implicitDefEqProofs
  have s12 : g12 [some (pr, false), some (.tup (ins.map D.int), false), u2, some (.tup (init.map encF ++ [encF top]), false), u4, some (.tup (t.map D.int), false), some (iN a, false), some (.str top.name, false), u8, u9, some (top.wants, false), u11, some (dkI ks vs, true), some (dkI ks' vs', true), some (.tup [.str "go", iN q], false), some (iN q, false), u16, u17, u18, u19, u20, u21] w = some (.nx [some (pr, false), some (.tup (ins.map D.int), false), u2, some (.tup (init.map encF ++ [encF top]), false), u4, some (.tup (t.map D.int), false), some (iN a, false), some (.str top.name, false), u8, u9, some (top.wants, false), u11, some (dkI ks vs, true), some (dkI ks' vs', true), some (.tup [.str "go", iN q], false), some (iN q, false), u16, u17, u18, u19, u20, u21] w) := by
    unfold g12
    simp -implicitDefEqProofs
  obtain ⟨s', h13, o13⟩ := g13_ok (w := w) (u0 := some (pr, false)) (u1 := some (.tup (ins.map D.int), false)) (u14 := some (.tup [.str "go", iN q], false)) (t2 := q) (t := t) hF hn (by omega) (by omega) k1 k2
  refine ⟨s', ?_, o13⟩
  unfold gR
  rw [sSeq_q, s6, bnd_some, nxt_nx, sSeq_q, s7, bnd_some, nxt_nx, sSeq_q, s8, bnd_some, nxt_nx, sSeq_q, s9, bnd_some, nxt_nx, sSeq_q, s10, bnd_some, nxt_nx, sSeq_q, s11, bnd_some, nxt_nx, sSeq_q, s12, bnd_some, nxt_nx]
  exact h13
theorem st_fi {fs : List Str} {pr : D} {ins : List Int} {init : List Fr} {top : Fr} {n p1 a : Nat} {t : List Int} {ks ks' : List Key} {vs vs' : List Int} (hF : FOk fs (init ++ [top])) (hn : init.length ≤ n) (h100 : n ≤ 90) (ht : t.length ≤ n) (k1 : DK K3 ks vs) (k2 : DK C3 ks' vs') {e : Ex} {q : Nat} (ho : dp e ≤ 5) : ∃ s', bnd (gR [some (pr, false), some (.tup (ins.map D.int), false), u2, some (.tup (init.map encF ++ [encF top]), false), u4, some (.tup (t.map D.int), false), some (iN a, false), some (.str top.name, false), u8, u9, some (top.wants, false), u11, some (dkI ks vs, true), some (dkI ks' vs', true), some (.tup [.str "if", enc e, iN q], false), some (iN p1, false), u16, u17, u18, u19, u20, u21] w) endP = some ((s', .fz), w) ∧ SOk fs (n + 1) s' := by
  obtain ⟨v, hv⟩ := w40 e ho ks ks' vs vs' w
  have atI_l3 : ∀ (x y z : D), atI [x, y, z] (-1) = some z := fun x y z => atI_last [x, y] z
  have s6 : g6 [some (pr, false), some (.tup (ins.map D.int), false), u2, some (.tup (init.map encF ++ [encF top]), false), u4, some (.tup (t.map D.int), false), some (iN a, false), some (.str top.name, false), u8, u9, some (top.wants, false), u11, some (dkI ks vs, true), some (dkI ks' vs', true), some (.tup [.str "if", enc e, iN q], false), some (iN p1, false), u16, u17, u18, u19, u20, u21] w = some (.nx [some (pr, false), some (.tup (ins.map D.int), false), u2, some (.tup (init.map encF ++ [encF top]), false), u4, some (.tup (t.map D.int), false), some (iN a, false), some (.str top.name, false), u8, u9, some (top.wants, false), u11, some (dkI ks vs, true), some (dkI ks' vs', true), some (.tup [.str "if", enc e, iN q], false), some (iN p1, false), u16, u17, u18, u19, u20, u21] w) := by
    unfold g6
    simp -implicitDefEqProofs
  have s7 : g7 [some (pr, false), some (.tup (ins.map D.int), false), u2, some (.tup (init.map encF ++ [encF top]), false), u4, some (.tup (t.map D.int), false), some (iN a, false), some (.str top.name, false), u8, u9, some (top.wants, false), u11, some (dkI ks vs, true), some (dkI ks' vs', true), some (.tup [.str "if", enc e, iN q], false), some (iN p1, false), u16, u17, u18, u19, u20, u21] w = some (.nx [some (pr, false), some (.tup (ins.map D.int), false), u2, some (.tup (init.map encF ++ [encF top]), false), u4, some (.tup (t.map D.int), false), some (iN a, false), some (.str top.name, false), u8, u9, some (top.wants, false), u11, some (dkI ks vs, true), some (dkI ks' vs', true), some (.tup [.str "if", enc e, iN q], false), some (iN p1, false), u16, u17, u18, u19, u20, u21] w) := by
    unfold g7
    simp -implicitDefEqProofs
  obtain ⟨r, s8⟩ : ∃ r : Nat, g8 [some (pr, false), some (.tup (ins.map D.int), false), u2, some (.tup (init.map encF ++ [encF top]), false), u4, some (.tup (t.map D.int), false), some (iN a, false), some (.str top.name, false), u8, u9, some (top.wants, false), u11, some (dkI ks vs, true), some (dkI ks' vs', true), some (.tup [.str "if", enc e, iN q], false), some (iN p1, false), u16, u17, u18, u19, u20, u21] w = some (.nx [some (pr, false), some (.tup (ins.map D.int), false), u2, some (.tup (init.map encF ++ [encF top]), false), u4, some (.tup (t.map D.int), false), some (iN a, false), some (.str top.name, false), u8, u9, some (top.wants, false), u11, some (dkI ks vs, true), some (dkI ks' vs', true), some (.tup [.str "if", enc e, iN q], false), some (iN r, false), u16, u17, u18, u19, u20, u21] w) := by
    by_cases hz : v = 0
    · refine ⟨p1, ?_⟩
      unfold g8
      simp -implicitDefEqProofs [hv, hz]
    · refine ⟨q, ?_⟩
      unfold g8
      simp -implicitDefEqProofs [hv, hz, atI_l3]
  have s9 : g9 [some (pr, false), some (.tup (ins.map D.int), false), u2, some (.tup (init.map encF ++ [encF top]), false), u4, some (.tup (t.map D.int), false), some (iN a, false), some (.str top.name, false), u8, u9, some (top.wants, false), u11, some (dkI ks vs, true), some (dkI ks' vs', true), some (.tup [.str "if", enc e, iN q], false), some (iN r, false), u16, u17, u18, u19, u20, u21] w = some (.nx [some (pr, false), some (.tup (ins.map D.int), false), u2, some (.tup (init.map encF ++ [encF top]), false), u4, some (.tup (t.map D.int), false), some (iN a, false), some (.str top.name, false), u8, u9, some (top.wants, false), u11, some (dkI ks vs, true), some (dkI ks' vs', true), some (.tup [.str "if", enc e, iN q], false), some (iN r, false), u16, u17, u18, u19, u20, u21] w) := by
    unfold g9
    simp -implicitDefEqProofs
  have s10 : g10 [some (pr, false), some (.tup (ins.map D.int), false), u2, some (.tup (init.map encF ++ [encF top]), false), u4, some (.tup (t.map D.int), false), some (iN a, false), some (.str top.name, false), u8, u9, some (top.wants, false), u11, some (dkI ks vs, true), some (dkI ks' vs', true), some (.tup [.str "if", enc e, iN q], false), some (iN r, false), u16, u17, u18, u19, u20, u21] w = some (.nx [some (pr, false), some (.tup (ins.map D.int), false), u2, some (.tup (init.map encF ++ [encF top]), false), u4, some (.tup (t.map D.int), false), some (iN a, false), some (.str top.name, false), u8, u9, some (top.wants, false), u11, some (dkI ks vs, true), some (dkI ks' vs', true), some (.tup [.str "if", enc e, iN q], false), some (iN r, false), u16, u17, u18, u19, u20, u21] w) := by
    unfold g10
    simp -implicitDefEqProofs
  have s11 : g11 [some (pr, false), some (.tup (ins.map D.int), false), u2, some (.tup (init.map encF ++ [encF top]), false), u4, some (.tup (t.map D.int), false), some (iN a, false), some (.str top.name, false), u8, u9, some (top.wants, false), u11, some (dkI ks vs, true), some (dkI ks' vs', true), some (.tup [.str "if", enc e, iN q], false), some (iN r, false), u16, u17, u18, u19, u20, u21] w = some (.nx [some (pr, false), some (.tup (ins.map D.int), false), u2, some (.tup (init.map encF ++ [encF top]), false), u4, some (.tup (t.map D.int), false), some (iN a, false), some (.str top.name, false), u8, u9, some (top.wants, false), u11, some (dkI ks vs, true), some (dkI ks' vs', true), some (.tup [.str "if", enc e, iN q], false), some (iN r, false), u16, u17, u18, u19, u20, u21] w) := by
    unfold g11
    simp -implicitDefEqProofs
  have s12 : g12 [some (pr, false), some (.tup (ins.map D.int), false), u2, some (.tup (init.map encF ++ [encF top]), false), u4, some (.tup (t.map D.int), false), some (iN a, false), some (.str top.name, false), u8, u9, some (top.wants, false), u11, some (dkI ks vs, true), some (dkI ks' vs', true), some (.tup [.str "if", enc e, iN q], false), some (iN r, false), u16, u17, u18, u19, u20, u21] w = some (.nx [some (pr, false), some (.tup (ins.map D.int), false), u2, some (.tup (init.map encF ++ [encF top]), false), u4, some (.tup (t.map D.int), false), some (iN a, false), some (.str top.name, false), u8, u9, some (top.wants, false), u11, some (dkI ks vs, true), some (dkI ks' vs', true), some (.tup [.str "if", enc e, iN q], false), some (iN r, false), u16, u17, u18, u19, u20, u21] w) := by
    unfold g12
    simp -implicitDefEqProofs
  obtain ⟨s', h13, o13⟩ := g13_ok (w := w) (u0 := some (pr, false)) (u1 := some (.tup (ins.map D.int), false)) (u14 := some (.tup [.str "if", enc e, iN q], false)) (t2 := r) (t := t) hF hn (by omega) (by omega) k1 k2
  refine ⟨s', ?_, o13⟩
  unfold gR
  rw [sSeq_q, s6, bnd_some, nxt_nx, sSeq_q, s7, bnd_some, nxt_nx, sSeq_q, s8, bnd_some, nxt_nx, sSeq_q, s9, bnd_some, nxt_nx, sSeq_q, s10, bnd_some, nxt_nx, sSeq_q, s11, bnd_some, nxt_nx, sSeq_q, s12, bnd_some, nxt_nx]
  exact h13
theorem st_as {fs : List Str} {pr : D} {ins : List Int} {init : List Fr} {top : Fr} {n p1 a : Nat} {t : List Int} {ks ks' : List Key} {vs vs' : List Int} (hF : FOk fs (init ++ [top])) (hn : init.length ≤ n) (h100 : n ≤ 90) (ht : t.length ≤ n) (k1 : DK K3 ks vs) (k2 : DK C3 ks' vs') {x : Str} (ho : x ∈ N3) : ∃ s', bnd (gR [some (pr, false), some (.tup (ins.map D.int), false), u2, some (.tup (init.map encF ++ [encF top]), false), u4, some (.tup (t.map D.int), false), some (iN a, false), some (.str top.name, false), u8, u9, some (top.wants, false), u11, some (dkI ks vs, true), some (dkI ks' vs', true), some (.tup [.str "ask", .str x], false), some (iN p1, false), u16, u17, u18, u19, u20, u21] w) endP = some ((s', .fz), w) ∧ SOk fs (n + 1) s' := by
  have s6 : g6 [some (pr, false), some (.tup (ins.map D.int), false), u2, some (.tup (init.map encF ++ [encF top]), false), u4, some (.tup (t.map D.int), false), some (iN a, false), some (.str top.name, false), u8, u9, some (top.wants, false), u11, some (dkI ks vs, true), some (dkI ks' vs', true), some (.tup [.str "ask", .str x], false), some (iN p1, false), u16, u17, u18, u19, u20, u21] w = some (.nx [some (pr, false), some (.tup (ins.map D.int), false), u2, some (.tup (init.map encF ++ [encF top]), false), u4, some (.tup (t.map D.int), false), some (iN a, false), some (.str top.name, false), u8, u9, some (top.wants, false), u11, some (dkI ks vs, true), some (dkI ks' vs', true), some (.tup [.str "ask", .str x], false), some (iN p1, false), u16, u17, u18, u19, u20, u21] w) := by
    unfold g6
    simp -implicitDefEqProofs
  have s7 : g7 [some (pr, false), some (.tup (ins.map D.int), false), u2, some (.tup (init.map encF ++ [encF top]), false), u4, some (.tup (t.map D.int), false), some (iN a, false), some (.str top.name, false), u8, u9, some (top.wants, false), u11, some (dkI ks vs, true), some (dkI ks' vs', true), some (.tup [.str "ask", .str x], false), some (iN p1, false), u16, u17, u18, u19, u20, u21] w = some (.nx [some (pr, false), some (.tup (ins.map D.int), false), u2, some (.tup (init.map encF ++ [encF top]), false), u4, some (.tup (t.map D.int), false), some (iN a, false), some (.str top.name, false), u8, u9, some (top.wants, false), u11, some (dkI ks vs, true), some (dkI ks' vs', true), some (.tup [.str "ask", .str x], false), some (iN p1, false), u16, u17, u18, u19, u20, u21] w) := by
    unfold g7
    simp -implicitDefEqProofs
  have s8 : g8 [some (pr, false), some (.tup (ins.map D.int), false), u2, some (.tup (init.map encF ++ [encF top]), false), u4, some (.tup (t.map D.int), false), some (iN a, false), some (.str top.name, false), u8, u9, some (top.wants, false), u11, some (dkI ks vs, true), some (dkI ks' vs', true), some (.tup [.str "ask", .str x], false), some (iN p1, false), u16, u17, u18, u19, u20, u21] w = some (.nx [some (pr, false), some (.tup (ins.map D.int), false), u2, some (.tup (init.map encF ++ [encF top]), false), u4, some (.tup (t.map D.int), false), some (iN a, false), some (.str top.name, false), u8, u9, some (top.wants, false), u11, some (dkI ks vs, true), some (dkI ks' vs', true), some (.tup [.str "ask", .str x], false), some (iN p1, false), u16, u17, u18, u19, u20, u21] w) := by
    unfold g8
    simp -implicitDefEqProofs
  have s9 : g9 [some (pr, false), some (.tup (ins.map D.int), false), u2, some (.tup (init.map encF ++ [encF top]), false), u4, some (.tup (t.map D.int), false), some (iN a, false), some (.str top.name, false), u8, u9, some (top.wants, false), u11, some (dkI ks vs, true), some (dkI ks' vs', true), some (.tup [.str "ask", .str x], false), some (iN p1, false), u16, u17, u18, u19, u20, u21] w = some (.nx [some (pr, false), some (.tup (ins.map D.int), false), u2, some (.tup (init.map encF ++ [encF top]), false), u4, some (.tup (t.map D.int), false), some (iN a, false), some (.str top.name, false), u8, u9, some (top.wants, false), u11, some (dkI ks vs, true), some (dkI ks' vs', true), some (.tup [.str "ask", .str x], false), some (iN p1, false), u16, u17, u18, u19, u20, u21] w) := by
    unfold g9
    simp -implicitDefEqProofs
  obtain ⟨v, s10⟩ : ∃ v : Int, ∃ ks1 vs1, DK K3 ks1 vs1 ∧ g10 [some (pr, false), some (.tup (ins.map D.int), false), u2, some (.tup (init.map encF ++ [encF top]), false), u4, some (.tup (t.map D.int), false), some (iN a, false), some (.str top.name, false), u8, u9, some (top.wants, false), u11, some (dkI ks vs, true), some (dkI ks' vs', true), some (.tup [.str "ask", .str x], false), some (iN p1, false), u16, u17, u18, u19, u20, u21] w = some (.nx [some (pr, false), some (.tup (ins.map D.int), false), u2, some (.tup (init.map encF ++ [encF top]), false), u4, some (.tup (t.map D.int), false), some (iN (a + 1), false), some (.str top.name, false), u8, u9, some (top.wants, false), u11, some (dkI ks1 vs1, true), some (dkI ks' vs', true), some (.tup [.str "ask", .str x], false), some (iN p1, false), u16, u17, u18, u19, u20, u21] w) := by
    have hlim : ks.length < lim := lt_lim (by have := k1.le; simp at this; omega)
    have key : ∀ v : Int, eFz (eTup (aCons (eFz (eIf (tVal (eOp dLt (eVar 6) (eA dLen (aCons (eVar 1) aNil)))) (eOp dIxG (eVar 1) (eVar 6)) (eC (.int 0)))) (aCons (eFz (eOp dAdd (eVar 6) (eC (.int 1)))) aNil))) [some (pr, false), some (.tup (ins.map D.int), false), u2, some (.tup (init.map encF ++ [encF top]), false), u4, some (.tup (t.map D.int), false), some (iN a, false), some (.str top.name, false), u8, u9, some (top.wants, false), u11, some (dkI ks vs, true), some (dkI ks' vs', true), some (.tup [.str "ask", .str x], false), some (iN p1, false), u16, u17, u18, u19, u20, u21] w = some ((.tup [.int v, iN (a + 1)], .fz), w) → ∃ ks1 vs1, DK K3 ks1 vs1 ∧ g10 [some (pr, false), some (.tup (ins.map D.int), false), u2, some (.tup (init.map encF ++ [encF top]), false), u4, some (.tup (t.map D.int), false), some (iN a, false), some (.str top.name, false), u8, u9, some (top.wants, false), u11, some (dkI ks vs, true), some (dkI ks' vs', true), some (.tup [.str "ask", .str x], false), some (iN p1, false), u16, u17, u18, u19, u20, u21] w = some (.nx [some (pr, false), some (.tup (ins.map D.int), false), u2, some (.tup (init.map encF ++ [encF top]), false), u4, some (.tup (t.map D.int), false), some (iN (a + 1), false), some (.str top.name, false), u8, u9, some (top.wants, false), u11, some (dkI ks1 vs1, true), some (dkI ks' vs', true), some (.tup [.str "ask", .str x], false), some (iN p1, false), u16, u17, u18, u19, u20, u21] w) := fun v hv => by
      obtain ⟨ks1, vs1, e1, k1'⟩ := k1.put (n3_k ho) v
      refine ⟨ks1, vs1, k1', ?_⟩
      have hq := sUnpP_q (i := 12) (j := 6) (fk := (eOp dIxG (eVar 14) (eC (.int 1)))) hv (kd := .str x) (w2 := w) (s := .fz) (by simp -implicitDefEqProofs) rfl keyD_s hlim
      rw [e1] at hq
      unfold g10
      simp -implicitDefEqProofs
      exact hq
    by_cases h : a < ins.length
    · refine ⟨ins[a], key ins[a] ?_⟩
      have h1 : atI (ins.map D.int) (a : Int) = some (.int ins[a]) := by rw [atI_n, List.getElem?_map]; simp [h]
      generalize ins[a] = v at *
      simp -implicitDefEqProofs [h, h1]
    · refine ⟨0, key 0 ?_⟩
      simp -implicitDefEqProofs [h]
  obtain ⟨ks1, vs1, k1', s10⟩ := s10
  have s11 : g11 [some (pr, false), some (.tup (ins.map D.int), false), u2, some (.tup (init.map encF ++ [encF top]), false), u4, some (.tup (t.map D.int), false), some (iN (a + 1), false), some (.str top.name, false), u8, u9, some (top.wants, false), u11, some (dkI ks1 vs1, true), some (dkI ks' vs', true), some (.tup [.str "ask", .str x], false), some (iN p1, false), u16, u17, u18, u19, u20, u21] w = some (.nx [some (pr, false), some (.tup (ins.map D.int), false), u2, some (.tup (init.map encF ++ [encF top]), false), u4, some (.tup (t.map D.int), false), some (iN (a + 1), false), some (.str top.name, false), u8, u9, some (top.wants, false), u11, some (dkI ks1 vs1, true), some (dkI ks' vs', true), some (.tup [.str "ask", .str x], false), some (iN p1, false), u16, u17, u18, u19, u20, u21] w) := by
    unfold g11
    simp -implicitDefEqProofs
  have s12 : g12 [some (pr, false), some (.tup (ins.map D.int), false), u2, some (.tup (init.map encF ++ [encF top]), false), u4, some (.tup (t.map D.int), false), some (iN (a + 1), false), some (.str top.name, false), u8, u9, some (top.wants, false), u11, some (dkI ks1 vs1, true), some (dkI ks' vs', true), some (.tup [.str "ask", .str x], false), some (iN p1, false), u16, u17, u18, u19, u20, u21] w = some (.nx [some (pr, false), some (.tup (ins.map D.int), false), u2, some (.tup (init.map encF ++ [encF top]), false), u4, some (.tup (t.map D.int), false), some (iN (a + 1), false), some (.str top.name, false), u8, u9, some (top.wants, false), u11, some (dkI ks1 vs1, true), some (dkI ks' vs', true), some (.tup [.str "ask", .str x], false), some (iN p1, false), u16, u17, u18, u19, u20, u21] w) := by
    unfold g12
    simp -implicitDefEqProofs
  obtain ⟨s', h13, o13⟩ := g13_ok (w := w) (u0 := some (pr, false)) (u1 := some (.tup (ins.map D.int), false)) (u14 := some (.tup [.str "ask", .str x], false)) (t2 := p1) (t := t) (a := a + 1) hF hn (by omega) (by omega) k1' k2
  refine ⟨s', ?_, o13⟩
  unfold gR
  rw [sSeq_q, s6, bnd_some, nxt_nx, sSeq_q, s7, bnd_some, nxt_nx, sSeq_q, s8, bnd_some, nxt_nx, sSeq_q, s9, bnd_some, nxt_nx, sSeq_q, s10, bnd_some, nxt_nx, sSeq_q, s11, bnd_some, nxt_nx, sSeq_q, s12, bnd_some, nxt_nx]
  exact h13
end
end Kk42

set_option Elab.async false
set_option linter.all false
set_option maxRecDepth 100000
set_option maxHeartbeats 600000
namespace Kk42
open PySem PySem.Spec PyProof.Rows L2 Dl
theorem fine_VT {K : List Key} (hK : ∀ k ∈ K, fine 1 (keyV k) = true) {d : D} (h : VT K d) : fine 3 d = true := by
  obtain ⟨ps, rfl, _, hp⟩ := h
  rw [fine_tup]
  intro d hd
  obtain ⟨p, hpm, rfl⟩ := List.mem_map.mp hd
  rw [fine_tup]
  intro y hy
  rcases List.mem_cons.mp hy with e | hy
  · subst e; exact hK _ (hp p hpm)
  · rw [List.mem_singleton] at hy; subst hy; exact fine_int
theorem fine_K3 : ∀ k ∈ K3, fine 1 (keyV k) = true := by
  intro k hk
  simp only [List.mem_cons, List.mem_nil_iff, or_false] at hk
  rcases hk with h | h | h <;> subst h <;> decide +kernel
theorem fine_C3 : ∀ k ∈ C3, fine 1 (keyV k) = true := by
  intro k hk
  simp only [List.mem_cons, List.mem_nil_iff, or_false] at hk
  rcases hk with h | h | h <;> subst h <;> decide +kernel
def Ns (fs : List Str) : Prop := ∀ f ∈ fs, PyData.strOk f = true
theorem strOk_N3 : ∀ x ∈ N3, PyData.strOk x = true := by
  intro k hk
  simp only [List.mem_cons, List.mem_nil_iff, or_false] at hk
  rcases hk with h | h | h <;> subst h <;> decide +kernel
theorem strOk_main : PyData.strOk "main" = true := by decide +kernel
theorem fine_fr {fs : List Str} (hNs : Ns fs) {l : List Fr} (h : FOk fs l) : ∀ f ∈ l, fine 5 (encF f) = true := by
  intro f hf
  have key : PyData.strOk f.name = true → VT K3 f.vars → fine 4 f.wants = true → fine 5 (encF f) = true := fun h1 h2 h3 => by
    unfold encF
    rw [fine_tup]
    intro d hd
    simp only [List.mem_cons, List.mem_nil_iff, or_false] at hd
    rcases hd with e | e | e | e <;> subst e
    · rw [fine_str]; exact h1
    · exact fine_int
    · exact fine_mono 3 4 _ (by omega) (fine_VT fine_K3 h2)
    · exact h3
  cases l with
  | nil => cases hf
  | cons m r =>
    rcases List.mem_cons.mp hf with e | hf
    · subst e
      obtain ⟨h1, h2, h3⟩ := h.1
      exact key (by rw [h1]; exact strOk_main) h2 (by rw [h3]; exact fine_non)
    · obtain ⟨h1, h2, x, hx, h3⟩ := h.2 f hf
      exact key (hNs _ h1) h2 (by rw [h3, fine_str]; exact strOk_N3 x hx)
section
variable {w : Option Wd} {u0 u1 u2 u3 u4 u5 u6 u7 u8 u9 u10 u11 u12 u13 u14 u15 u16 u17 u18 u19 u20 u21 : O}
theorem st_ca {fs : List Str} {pr : D} {ins : List Int} {init : List Fr} {top : Fr} {n p1 a : Nat} {c : D} {t : List Int} {ks ks' : List Key} {vs vs' : List Int} (hNs : Ns fs) (hF : FOk fs (init ++ [top])) (hn : init.length ≤ n) (h100 : n ≤ 90) (ht : t.length ≤ n) (hc : VT C3 c) (k1 : DK K3 ks vs) (k2 : DK C3 ks' vs') {x f : Str} {e : Ex} (ho : x ∈ N3 ∧ f ∈ fs ∧ dp e ≤ 5) (hp : PrOk fs pr) : ∃ s', bnd (gR [some (pr, false), some (.tup (ins.map D.int), false), u2, some (.tup (init.map encF ++ [encF top]), false), some (c, false), some (.tup (t.map D.int), false), some (iN a, false), some (.str top.name, false), some (iN top.place, false), some (top.vars, false), some (top.wants, false), u11, some (dkI ks vs, true), some (dkI ks' vs', true), some (.tup [.str "call", .str x, .str f, .tup [enc e]], false), some (iN p1, false), u16, u17, u18, u19, u20, u21] w) endP = some ((s', .fz), w) ∧ SOk fs (n + 1) s' := by
  obtain ⟨v, hv⟩ := w40 e ho.2.2 ks ks' vs vs' w
  obtain ⟨kp, dp', rfl, _, hfs⟩ := hp
  obtain ⟨cd, hcd, _⟩ := hfs f ho.2.1
  have hx : (Sum.inr ("x" : Str) : Key) ∈ K3 := by simp
  obtain ⟨ks1, vs1, e1, k1'⟩ := (DK.nil K3).put hx v
  have hdict : dDict [.lst [.tup [.str "x", .int v]]] = some (dkI ks1 vs1, .ow) := by
    show (if [(.tup [.str "x", .int v] : D)].length ≤ lim then (dMerge [] [] [.tup [.str "x", .int v]]).map (fun r => (D.dk r.1 r.2, O3.ow)) else none) = _
    rw [if_pos len1_lim]
    have : dMerge [] [] [(.tup [.str "x", .int v] : D)] = some (ks1, vs1.map D.int) := by
      show dMerge (dPut [] ([] : List D) (.inr "x") (.int v)).1 (dPut [] ([] : List D) (.inr "x") (.int v)).2 [] = _
      have e1' : dPut [] ([] : List D) (.inr "x") (.int v) = (ks1, vs1.map D.int) := e1
      rw [e1']; rfl
    rw [this]; rfl
  obtain ⟨d1, h1, v1⟩ := frozen_ok rfl k1' (srt_K k1') w
  have ha : dAdd (.tup (init.map encF ++ [encF top])) (.tup [.tup [.str f, .int 0, d1, .str x]]) = some (.tup (init.map encF ++ [encF top] ++ [.tup [.str f, .int 0, d1, .str x]]), .fz) := dAdd_tt (le_lim (by simp; omega))
  have em : ((init ++ [top]) ++ [(⟨f, 0, d1, .str x⟩ : Fr)]).map encF = init.map encF ++ [encF top] ++ [.tup [.str f, .int 0, d1, .str x]] := by rw [List.map_append, List.map_append]; rfl
  have hU : FOk fs ((init ++ [top]) ++ [(⟨f, 0, d1, .str x⟩ : Fr)]) := FOk.push (by simp) hF ⟨ho.2.1, v1, x, ho.1, rfl⟩
  refine ⟨.tup [.tup (((init ++ [top]) ++ [(⟨f, 0, d1, .str x⟩ : Fr)]).map encF), c, .tup (t.map D.int), iN a], ?_, _, c, t, a, rfl, hU, by simp; omega, hc, by omega⟩
  rw [em]
  have s6 : g6 [some (.dk kp dp', false), some (.tup (ins.map D.int), false), u2, some (.tup (init.map encF ++ [encF top]), false), some (c, false), some (.tup (t.map D.int), false), some (iN a, false), some (.str top.name, false), some (iN top.place, false), some (top.vars, false), some (top.wants, false), u11, some (dkI ks vs, true), some (dkI ks' vs', true), some (.tup [.str "call", .str x, .str f, .tup [enc e]], false), some (iN p1, false), u16, u17, u18, u19, u20, u21] w = some (.nx [some (.dk kp dp', false), some (.tup (ins.map D.int), false), u2, some (.tup (init.map encF ++ [encF top]), false), some (c, false), some (.tup (t.map D.int), false), some (iN a, false), some (.str top.name, false), some (iN top.place, false), some (top.vars, false), some (top.wants, false), u11, some (dkI ks vs, true), some (dkI ks' vs', true), some (.tup [.str "call", .str x, .str f, .tup [enc e]], false), some (iN p1, false), u16, u17, u18, u19, u20, u21] w) := by
    unfold g6
    simp -implicitDefEqProofs
  have hr : ∀ w : Option Wd, rngK ([(.int (1 : Int), .fz)], w) = some ([.int 0], w) := fun w => by
    rw [rngK_1 (by omega)]; rfl
  have hl1 : ∀ d : D, [d].length ≤ lim := fun d => len1_lim
  generalize init.map encF ++ [encF top] = F at *
  generalize t.map D.int = T2 at *
  unfold gR
  rw [sSeq_q, s6, bnd_some, nxt_nx, sSeq_q]
  unfold g7
  try simp -implicitDefEqProofs at ha
  simp -implicitDefEqProofs [lcK_q (hl1 _), lcL_cons, hv, hcd, hr, hdict, h1, ha]
theorem st_gi {fs : List Str} {pr : D} {ins : List Int} {init : List Fr} {top : Fr} {n p1 a : Nat} {c : D} {t : List Int} {ks ks' : List Key} {vs vs' : List Int} (hNs : Ns fs) (hF : FOk fs (init ++ [top])) (hn : init.length ≤ n) (h100 : n ≤ 90) (ht : t.length ≤ n) (hc : VT C3 c) (k1 : DK K3 ks vs) (k2 : DK C3 ks' vs') {e : Ex} (ho : dp e ≤ 5) : ∃ s', bnd (gR [some (pr, false), some (.tup (ins.map D.int), false), u2, some (.tup (init.map encF ++ [encF top]), false), some (c, false), some (.tup (t.map D.int), false), some (iN a, false), some (.str top.name, false), some (iN top.place, false), some (top.vars, false), some (top.wants, false), u11, some (dkI ks vs, true), some (dkI ks' vs', true), some (.tup [.str "give", enc e], false), some (iN p1, false), u16, u17, u18, u19, u20, u21] w) endP = some ((s', .fz), w) ∧ SOk fs (n + 1) s' := by
  obtain ⟨v, hv⟩ := w40 e ho ks ks' vs vs' w
  have hcut := cut_init (init.map encF) (encF top)
  rcases hF.top.2 with ⟨h0, _⟩ | ⟨h0, hU⟩
  · subst h0
    refine ⟨.tup [.tup [], c, .tup (t.map D.int), iN a], ?_, [], c, t, a, rfl, trivial, by simp, hc, by omega⟩
    have hne := dNe_tnil (ds := []) rfl
    generalize t.map D.int = T2 at *
    rw [List.map_nil] at hcut
    unfold gR
    rw [sSeq_q]
    unfold g6
    try simp -implicitDefEqProofs at hcut hne
    simp -implicitDefEqProofs [hv, hcut, hne]
  · obtain ⟨i2, b2, rfl⟩ : ∃ i2 b2, init = i2 ++ [b2] := ⟨init.dropLast, init.getLast h0, (List.dropLast_concat_getLast h0).symm⟩
    obtain ⟨_, _, x, hx, hw⟩ := hU
    have hFi := hF.init
    obtain ⟨ks1, vs1, hd1, k1'⟩ := dict_VT hFi.top.1
    have hlim : ks1.length < lim := lt_lim (by have := k1'.le; simp at this; omega)
    obtain ⟨ks2, vs2, e2, k2'⟩ := k1'.put (n3_k hx) v
    obtain ⟨d1, h1, v1⟩ := frozen_ok rfl k2' (srt_K k2') w
    have hcut2 := cut_init (i2.map encF) (encF b2)
    have em0 : (i2 ++ [b2]).map encF = i2.map encF ++ [encF b2] := by rw [List.map_append]; rfl
    rw [em0] at hcut
    have hb : ∀ xs : List D, atI (xs ++ [encF b2]) (-1) = some (.tup [.str b2.name, iN b2.place, b2.vars, b2.wants]) := fun xs => atI_last xs _
    have ha : dAdd (.tup (i2.map encF)) (.tup [.tup [.str b2.name, .int ((b2.place : Int) + 1), d1, b2.wants]]) = some (.tup (i2.map encF ++ [.tup [.str b2.name, .int ((b2.place : Int) + 1), d1, b2.wants]]), .fz) := dAdd_tt (le_lim (by simp at hn ⊢; omega))
    have hFn := hFi.set (t' := ⟨b2.name, b2.place + 1, d1, b2.wants⟩) rfl rfl v1
    have em : (i2 ++ [(⟨b2.name, b2.place + 1, d1, b2.wants⟩ : Fr)]).map encF = i2.map encF ++ [.tup [.str b2.name, .int ((b2.place : Int) + 1), d1, b2.wants]] := by rw [List.map_append]; rfl
    refine ⟨.tup [.tup ((i2 ++ [(⟨b2.name, b2.place + 1, d1, b2.wants⟩ : Fr)]).map encF), c, .tup (t.map D.int), iN a], ?_, _, c, t, a, rfl, hFn, by simp at hn ⊢; omega, hc, by omega⟩
    rw [em, em0]
    have hfl : fine 64 (.tup (i2.map encF ++ [encF b2])) = true := by
      rw [fine_tup]
      intro d hd
      have hd' : d ∈ (i2 ++ [b2]).map encF := by rw [em0]; exact hd
      obtain ⟨fr, hfr, rfl⟩ := List.mem_map.mp hd'
      exact fine_mono 5 63 _ (by omega) (fine_fr hNs hFi fr hfr)
    have hne := dNe_tnil hfl
    have hie : (i2.map encF ++ [encF b2]).isEmpty = false := by cases i2 <;> rfl
    rw [hie] at hne
    have hput : ∀ env : En, env[17]? = some (some (dkI ks1 vs1, true)) → putK3 env 17 (.int v) (.str x) w = some (.nx (env.set 17 (some (dkI ks2 vs2, true))) w) := fun env he => by
      have hp := putK3_q (w := w) (i := 17) (env := env) (x := .int v) he (putD_dk (keyD_s (i := x)) hlim)
      rw [e2] at hp
      exact hp
    have hwt : top.wants = .str x := hw
    rw [hwt]
    have hb2 := hb (i2.map encF)
    generalize i2.map encF ++ [encF b2] = F2 at *
    generalize i2.map encF = F3 at *
    generalize t.map D.int = T2 at *
    unfold gR
    rw [sSeq_q]
    unfold g6
    try simp -implicitDefEqProofs at hcut hcut2 hne hb2 ha hd1 h1
    simp -implicitDefEqProofs [hv, hcut, hcut2, hne, hb2, hd1, hput, h1, ha]
end
end Kk42

set_option Elab.async false
set_option linter.all false
set_option maxRecDepth 100000
set_option maxHeartbeats 600000
namespace Kk42
open PySem PySem.Spec PyProof.Rows L2 Dl
theorem op_ok {fs : List Str} {cd : Cd} (h : COk fs cd) (j : Nat) (w : Option Wd) {env : En} {pl : Nat} (e11 : ∀ w, eVar 11 env w = some ((encC cd, .fz), w)) (e8 : ∀ w, eVar 8 env w = some ((iN pl, .fz), w)) :
    ∃ o : Op, OOk fs o ∧ (eIf (tVal (eOp dLt (eVar 8) (eA dLen (aCons (eVar 11) aNil)))) (eOp dIxG (eOp dIxG (eVar 11) (eVar 8)) (eC (.int 1))) (eTup (aCons (eFz (eC (.str "give"))) (aCons (eFz (eC (.int 0))) aNil)))) env w = some ((encO o, .fz), w) := by
  by_cases hp : pl < cd.length
  · refine ⟨cd[pl].2, h.2 _ (List.getElem_mem hp), ?_⟩
    have h1 : atI (cd.map fun p => D.tup [.int p.1, encO p.2]) (pl : Int) = some (.tup [.int cd[pl].1, encO cd[pl].2]) := by rw [atI_n, List.getElem?_map]; simp [hp]
    generalize cd[pl] = op at *
    unfold encC at e11
    simp -implicitDefEqProofs [e11, e8, hp, h1]
  · refine ⟨.gi (.num 0), Nat.zero_le _, ?_⟩
    unfold encC at e11
    simp -implicitDefEqProofs [e11, e8, hp]
    rfl
theorem step_ok {fs : List Str} {pr : D} (hp : PrOk fs pr) (hNs : Ns fs) {ins : List Int} {n : Nat} (hn90 : n ≤ 90) {s : D} (hs : SOk fs n s) (hne : ∀ r, s ≠ .tup (.tup [] :: r)) (w : Option Wd) : ∃ s', f__law_step [pr, .tup (ins.map D.int), s] w = some ((s', .fz), w) ∧ SOk fs (n + 1) s' := by
  obtain ⟨l, c, t, a, rfl, hF, hl, hc, ht⟩ := hs
  have h0 : l ≠ [] := fun e => by subst e; exact hne _ rfl
  obtain ⟨init, top, rfl⟩ : ∃ i b, l = i ++ [b] := ⟨l.dropLast, l.getLast h0, (List.dropLast_concat_getLast h0).symm⟩
  have hinit : init.length ≤ n := by simp at hl; omega
  have em : (init ++ [top]).map encF = init.map encF ++ [encF top] := by rw [List.map_append]; rfl
  rw [em]
  have hp0 := hp
  obtain ⟨kp, dp', rfl, hm, hfs⟩ := hp
  obtain ⟨pa, cd, hcd, hC⟩ : ∃ pa cd, dFind kp dp' (.inr top.name) = some (.tup [pa, encC cd]) ∧ COk fs cd := by
    rcases hF.top.2 with ⟨_, hb⟩ | ⟨_, hu⟩
    · obtain ⟨cd, h1, h2⟩ := hm
      exact ⟨_, cd, by rw [hb.1]; exact h1, h2⟩
    · obtain ⟨cd, h1, h2⟩ := hfs _ hu.1
      exact ⟨_, cd, h1, h2⟩
  obtain ⟨ks, vs, d1, k1⟩ := dict_VT hF.top.1
  obtain ⟨ks', vs', d2, k2⟩ := dict_VT hc
  have hb : ∀ xs : List D, atI (xs ++ [encF top]) (-1) = some (.tup [.str top.name, iN top.place, top.vars, top.wants]) := fun xs => atI_last xs _
  have s1 : g1 [some (.dk kp dp', false), some (.tup (ins.map D.int), false), some (.tup [.tup (init.map encF ++ [encF top]), c, .tup (t.map D.int), iN a], false), none, none, none, none, none, none, none, none, none, none, none, none, none, none, none, none, none, none, none] w = some (.nx [some (.dk kp dp', false), some (.tup (ins.map D.int), false), some (.tup [.tup (init.map encF ++ [encF top]), c, .tup (t.map D.int), iN a], false), some (.tup (init.map encF ++ [encF top]), false), some (c, false), some (.tup (t.map D.int), false), some (iN a, false), none, none, none, none, none, none, none, none, none, none, none, none, none, none, none] w) := by
    unfold g1
    generalize init.map encF ++ [encF top] = F at *
    simp -implicitDefEqProofs
  have s2 : g2 [some (.dk kp dp', false), some (.tup (ins.map D.int), false), some (.tup [.tup (init.map encF ++ [encF top]), c, .tup (t.map D.int), iN a], false), some (.tup (init.map encF ++ [encF top]), false), some (c, false), some (.tup (t.map D.int), false), some (iN a, false), none, none, none, none, none, none, none, none, none, none, none, none, none, none, none] w = some (.nx [some (.dk kp dp', false), some (.tup (ins.map D.int), false), some (.tup [.tup (init.map encF ++ [encF top]), c, .tup (t.map D.int), iN a], false), some (.tup (init.map encF ++ [encF top]), false), some (c, false), some (.tup (t.map D.int), false), some (iN a, false), some (.str top.name, false), some (iN top.place, false), some (top.vars, false), some (top.wants, false), none, none, none, none, none, none, none, none, none, none, none] w) := by
    have hb2 := hb (init.map encF)
    generalize init.map encF ++ [encF top] = F at *
    unfold g2
    simp -implicitDefEqProofs [hb2]
  have s3 : g3 [some (.dk kp dp', false), some (.tup (ins.map D.int), false), some (.tup [.tup (init.map encF ++ [encF top]), c, .tup (t.map D.int), iN a], false), some (.tup (init.map encF ++ [encF top]), false), some (c, false), some (.tup (t.map D.int), false), some (iN a, false), some (.str top.name, false), some (iN top.place, false), some (top.vars, false), some (top.wants, false), none, none, none, none, none, none, none, none, none, none, none] w = some (.nx [some (.dk kp dp', false), some (.tup (ins.map D.int), false), some (.tup [.tup (init.map encF ++ [encF top]), c, .tup (t.map D.int), iN a], false), some (.tup (init.map encF ++ [encF top]), false), some (c, false), some (.tup (t.map D.int), false), some (iN a, false), some (.str top.name, false), some (iN top.place, false), some (top.vars, false), some (top.wants, false), some (encC cd, false), some (dkI ks vs, true), some (dkI ks' vs', true), none, none, none, none, none, none, none, none] w) := by
    generalize init.map encF ++ [encF top] = F at *
    generalize encC cd = C at *
    unfold g3
    simp -implicitDefEqProofs [hcd, d1, d2]
  obtain ⟨o, ho, hop⟩ := op_ok hC 0 w (env := [some (.dk kp dp', false), some (.tup (ins.map D.int), false), some (.tup [.tup (init.map encF ++ [encF top]), c, .tup (t.map D.int), iN a], false), some (.tup (init.map encF ++ [encF top]), false), some (c, false), some (.tup (t.map D.int), false), some (iN a, false), some (.str top.name, false), some (iN top.place, false), some (top.vars, false), some (top.wants, false), some (encC cd, false), some (dkI ks vs, true), some (dkI ks' vs', true), none, none, none, none, none, none, none, none]) (pl := top.place) (fun w => rfl) (fun w => rfl)
  have s4 : g4 [some (.dk kp dp', false), some (.tup (ins.map D.int), false), some (.tup [.tup (init.map encF ++ [encF top]), c, .tup (t.map D.int), iN a], false), some (.tup (init.map encF ++ [encF top]), false), some (c, false), some (.tup (t.map D.int), false), some (iN a, false), some (.str top.name, false), some (iN top.place, false), some (top.vars, false), some (top.wants, false), some (encC cd, false), some (dkI ks vs, true), some (dkI ks' vs', true), none, none, none, none, none, none, none, none] w = some (.nx [some (.dk kp dp', false), some (.tup (ins.map D.int), false), some (.tup [.tup (init.map encF ++ [encF top]), c, .tup (t.map D.int), iN a], false), some (.tup (init.map encF ++ [encF top]), false), some (c, false), some (.tup (t.map D.int), false), some (iN a, false), some (.str top.name, false), some (iN top.place, false), some (top.vars, false), some (top.wants, false), some (encC cd, false), some (dkI ks vs, true), some (dkI ks' vs', true), some (encO o, false), none, none, none, none, none, none, none] w) := by
    unfold g4
    rw [sSet_q, hop]; rfl
  have s5 : g5 [some (.dk kp dp', false), some (.tup (ins.map D.int), false), some (.tup [.tup (init.map encF ++ [encF top]), c, .tup (t.map D.int), iN a], false), some (.tup (init.map encF ++ [encF top]), false), some (c, false), some (.tup (t.map D.int), false), some (iN a, false), some (.str top.name, false), some (iN top.place, false), some (top.vars, false), some (top.wants, false), some (encC cd, false), some (dkI ks vs, true), some (dkI ks' vs', true), some (encO o, false), none, none, none, none, none, none, none] w = some (.nx [some (.dk kp dp', false), some (.tup (ins.map D.int), false), some (.tup [.tup (init.map encF ++ [encF top]), c, .tup (t.map D.int), iN a], false), some (.tup (init.map encF ++ [encF top]), false), some (c, false), some (.tup (t.map D.int), false), some (iN a, false), some (.str top.name, false), some (iN top.place, false), some (top.vars, false), some (top.wants, false), some (encC cd, false), some (dkI ks vs, true), some (dkI ks' vs', true), some (encO o, false), some (iN (top.place + 1), false), none, none, none, none, none, none] w) := by
    generalize init.map encF ++ [encF top] = F at *
    generalize encC cd = C at *
    generalize encO o = OO at *
    unfold g5
    simp -implicitDefEqProofs
  have hend : ∃ s', bnd (gR [some (.dk kp dp', false), some (.tup (ins.map D.int), false), some (.tup [.tup (init.map encF ++ [encF top]), c, .tup (t.map D.int), iN a], false), some (.tup (init.map encF ++ [encF top]), false), some (c, false), some (.tup (t.map D.int), false), some (iN a, false), some (.str top.name, false), some (iN top.place, false), some (top.vars, false), some (top.wants, false), some (encC cd, false), some (dkI ks vs, true), some (dkI ks' vs', true), some (encO o, false), some (iN (top.place + 1), false), none, none, none, none, none, none] w) endP = some ((s', .fz), w) ∧ SOk fs (n + 1) s' := by
    cases o with
    | lt x e => exact st_lt hF hinit hn90 ht k1 k2 ho
    | pt cc e => exact st_pt hF hinit hn90 ht k1 k2 ho
    | fi e q => exact st_fi hF hinit hn90 ht k1 k2 ho
    | ca x f e => exact st_ca hNs hF hinit hn90 ht hc k1 k2 ho hp0
    | as x => exact st_as hF hinit hn90 ht k1 k2 ho
    | gi e => exact st_gi hNs hF hinit hn90 ht hc k1 k2 ho
    | go q => exact st_go hF hinit hn90 ht k1 k2
    | sy e => exact st_sy hF hinit hn90 ht k1 k2 ho
  obtain ⟨s', h1, h2⟩ := hend
  refine ⟨s', ?_, h2⟩
  show bnd (b__law_step f__law_frozen (f__law_worth 40) [some (.dk kp dp', false), some (.tup (ins.map D.int), false), some (.tup [.tup (init.map encF ++ [encF top]), c, .tup (t.map D.int), iN a], false), none, none, none, none, none, none, none, none, none, none, none, none, none, none, none, none, none, none, none] w) endP = _
  rw [step_eq, sSeq_q, s1, bnd_some, nxt_nx, sSeq_q, s2, bnd_some, nxt_nx, sSeq_q, s3, bnd_some, nxt_nx, sSeq_q, s4, bnd_some, nxt_nx, sSeq_q, s5, bnd_some, nxt_nx]
  exact h1
/-! runs -/
def cRn : ET := ((tAn (tVal (eOp dLe (eA dLen (aCons (eVar 3) aNil)) (eVar 2))) (tVal (eOp dNe (eOp dIx (eOp dIx (eVar 3) (eUn dNeg (eC (.int 1)))) (eC (.int 0))) (eTup aNil)))))
def bRn : Dl.SB := (sApp 3 (eCall f__law_step (aCons (eFz (eVar 0)) (aCons (eFz (eVar 1)) (aCons (eFz (eOp dIx (eVar 3) (eUn dNeg (eC (.int 1))))) aNil)))))
def RunOk (fs : List Str) (R : List D) : Prop := R ≠ [] ∧ R.length ≤ 30 ∧ ∀ s ∈ R, ∃ n, n ≤ 40 ∧ SOk fs n s
abbrev RE (pr : D) (ins : List Int) (most : Nat) (R : List D) : En := [some (pr, false), some (.tup (ins.map D.int), false), some (iN most, false), some (.lst R, true)]
theorem fine_SOk {fs : List Str} (hNs : Ns fs) {n : Nat} {s : D} (h : SOk fs n s) : fine 62 s = true := by
  obtain ⟨l, c, t, a, rfl, hF, hl, hc, ht⟩ := h
  rw [fine_tup]
  intro d hd
  simp only [List.mem_cons, List.mem_nil_iff, or_false] at hd
  rcases hd with e | e | e | e <;> subst e
  · rw [fine_tup]
    intro d hd
    obtain ⟨fr, hfr, rfl⟩ := List.mem_map.mp hd
    exact fine_mono 5 60 _ (by omega) (fine_fr hNs hF fr hfr)
  · exact fine_mono 3 61 _ (by omega) (fine_VT fine_C3 hc)
  · rw [fine_tup]
    intro d hd
    obtain ⟨i, _, rfl⟩ := List.mem_map.mp hd
    exact fine_int
  · exact fine_int
theorem loopR {fs : List Str} {pr : D} (hp : PrOk fs pr) (hNs : Ns fs) {ins : List Int} {most : Nat} (hm : most ≤ 28) (w : Option Wd) : ∀ (k m : Nat) (pre : List D) (s : D), SOk fs pre.length s → (∀ s ∈ pre, ∃ n, n ≤ 40 ∧ SOk fs n s) → pre.length + k = most →
    ∃ R, sWhile cRn bRn (m + k + 1) (RE pr ins most (pre ++ [s])) w = some (.nx (RE pr ins most R) w) ∧ RunOk fs R
  | 0, m, pre, s, hs, hpre, hk => by
    refine ⟨pre ++ [s], ?_, by simp, by simp; omega, fun q hq => ?_⟩
    · rw [sWhile_s]
      have hc : cRn (RE pr ins most (pre ++ [s])) w = some (false, w) := by
        have h1 : ¬ ((pre ++ [s]).length ≤ most) := by simp; omega
        have h2 : ¬ (((pre ++ [s]).length : Nat) : Int) ≤ most := by omega
        generalize pre ++ [s] = P at *
        unfold cRn
        simp -implicitDefEqProofs [h1, h2]
      rw [hc]; rfl
    · rcases List.mem_append.mp hq with hq | hq
      · exact hpre q hq
      · rw [List.mem_singleton] at hq; subst hq; exact ⟨pre.length, by omega, hs⟩
  | k + 1, m, pre, s, hs, hpre, hk => by
    have h1 : ((pre ++ [s]).length ≤ most) := by simp; omega
    have h2 : (((pre ++ [s]).length : Nat) : Int) ≤ most := by omega
    have h3 : atI (pre ++ [s]) (-1) = some s := atI_last pre s
    have hall : ∀ q ∈ pre ++ [s], ∃ n, n ≤ 40 ∧ SOk fs n q := fun q hq => by
      rcases List.mem_append.mp hq with hq | hq
      · exact hpre q hq
      · rw [List.mem_singleton] at hq; subst hq; exact ⟨pre.length, by omega, hs⟩
    obtain ⟨l, c, t, a, es, hF, hl, hc, ht⟩ := id hs
    have hfl : fine 64 (.tup (l.map encF)) = true := by
      rw [fine_tup]
      intro d hd
      obtain ⟨fr, hfr, rfl⟩ := List.mem_map.mp hd
      exact fine_mono 5 63 _ (by omega) (fine_fr hNs hF fr hfr)
    have hne := dNe_tnil hfl
    rw [List.isEmpty_map] at hne
    have hcv : cRn (RE pr ins most (pre ++ [s])) w = some (!l.isEmpty, w) := by
      subst es
      generalize hP : pre ++ [_] = P at *
      generalize l.map encF = F at *
      unfold cRn
      try simp -implicitDefEqProofs at hne
      simp -implicitDefEqProofs [h1, h2, h3, hne]
    rw [sWhile_s, hcv, bnd_some]
    cases hle : l.isEmpty with
    | true => exact ⟨pre ++ [s], rfl, by simp, by simp; omega, hall⟩
    | false =>
      have hl0 : l ≠ [] := fun e => by rw [e] at hle; cases hle
      obtain ⟨s', g1, g2⟩ := step_ok (ins := ins) hp hNs (by omega) hs (fun r e => by
        rw [es] at e
        injection e with e
        injection e with e _
        injection e with e
        exact hl0 (List.map_eq_nil_iff.mp e)) w
      have hlim : (pre ++ [s]).length < lim := lt_lim (by simp; omega)
      have hb : bRn (RE pr ins most (pre ++ [s])) w = some (.nx (RE pr ins most ((pre ++ [s]) ++ [s'])) w) := by
        generalize pre ++ [s] = P at *
        unfold bRn
        simp -implicitDefEqProofs [h3, g1, hlim]
      have hs2 : SOk fs (pre ++ [s]).length s' := by
        have : (pre ++ [s]).length = pre.length + 1 := by simp
        rw [this]; exact g2
      obtain ⟨R, r1, r2⟩ := loopR hp hNs hm w k m (pre ++ [s]) s' hs2 hall (by simp; omega)
      refine ⟨R, ?_, r2⟩
      show bnd (bRn _ w) (whP cRn bRn (m + k + 1)) = _
      rw [hb, bnd_some, whP_nx]
      exact r1
theorem run_ok {fs : List Str} {pr : D} (hp : PrOk fs pr) (hNs : Ns fs) {ins : List Int} {most : Nat} (hm : most ≤ 28) (w : Option Wd) : ∃ R, f__law_run [pr, .tup (ins.map D.int), iN most] w = some ((.tup R, .fz), w) ∧ RunOk fs R := by
  have hs0 : SOk fs 0 (.tup [.tup [.tup [.str "main", .int 0, .tup [], .non]], .tup [], .tup [], .int 0]) := ⟨[⟨"main", 0, .tup [], .non⟩], .tup [], [], 0, rfl, ⟨⟨rfl, VT.nil _, rfl⟩, fun f hf => nomatch hf⟩, by simp, VT.nil _, by simp⟩
  obtain ⟨R, h1, h2⟩ := loopR (ins := ins) hp hNs hm w most (100000 - (most + 1)) [] _ hs0 (fun s hs => nomatch hs) (by simp)
  rw [show 100000 - (most + 1) + most + 1 = 100000 by omega] at h1
  refine ⟨R, ?_, h2⟩
  have hr : f__law_run [pr, .tup (ins.map D.int), iN most] w = bnd (b__law_run f__law_step (startE 4 [pr, .tup (ins.map D.int), iN most]) w) endP := runFn_q rfl
  rw [hr]
  have hst : startE 4 [pr, .tup (ins.map D.int), iN most] = [some (pr, false), some (.tup (ins.map D.int), false), some (iN most, false), none] := rfl
  rw [hst]
  have h0 : sSet 3 (eLst (aCons (eFz (eTup (aCons (eFz (eTup (aCons (eFz (eTup (aCons (eFz (eC (.str "main"))) (aCons (eFz (eC (.int 0))) (aCons (eFz (eTup aNil)) (aCons (eFz (eC .non)) aNil)))))) aNil))) (aCons (eFz (eTup aNil)) (aCons (eFz (eTup aNil)) (aCons (eFz (eC (.int 0))) aNil)))))) aNil)) [some (pr, false), some (.tup (ins.map D.int), false), some (iN most, false), none] w = some (.nx (RE pr ins most ([] ++ [.tup [.tup [.tup [.str "main", .int 0, .tup [], .non]], .tup [], .tup [], .int 0]])) w) := by
    simp -implicitDefEqProofs
  unfold b__law_run
  rw [sSeq_q, h0]
  have hw : sWhile ((tAn (tVal (eOp dLe (eA dLen (aCons (eVar 3) aNil)) (eVar 2))) (tVal (eOp dNe (eOp dIx (eOp dIx (eVar 3) (eUn dNeg (eC (.int 1)))) (eC (.int 0))) (eTup aNil))))) (sApp 3 (eCall f__law_step (aCons (eFz (eVar 0)) (aCons (eFz (eVar 1)) (aCons (eFz (eOp dIx (eVar 3) (eUn dNeg (eC (.int 1))))) aNil))))) 100000 = sWhile cRn bRn 100000 := rfl
  rw [bnd_some, nxt_nx, sSeq_q, hw, h1, bnd_some, nxt_nx]
  simp -implicitDefEqProofs
end Kk42

set_option Elab.async false
set_option linter.all false
set_option maxRecDepth 100000
set_option maxHeartbeats 600000
namespace Kk42
open PySem PySem.Spec PyProof.Rows L2 Dl
theorem nx_e : f__law_next = fNext := rfl
theorem pk_e : f__law_pick = fPick := rfl
theorem pick_N3 {W : Wd} (hW : OkW W) : ∃ (x : Str) (W' : Wd), fPick [.w, .lst [.str "x", .str "y", .str "n"]] (some W) = some ((.str x, .fz), some W') ∧ x ∈ N3 ∧ OkW W' := by
  obtain ⟨d, W', h1, h2, h3⟩ := pick_ok hW (ds := [.str "x", .str "y", .str "n"]) (by simp)
  simp only [List.mem_cons, List.mem_nil_iff, or_false] at h2
  rcases h2 with h | h | h <;> subst h
  · exact ⟨"x", W', h1, by simp, h3⟩
  · exact ⟨"y", W', h1, by simp, h3⟩
  · exact ⟨"n", W', h1, by simp, h3⟩
theorem expr_s (k : Nat) : f__law_expr (k + 1) = runFn 3 2 (b__law_expr (f__law_expr k) f__law_pick f__law_next) := rfl
theorem expr_ok : ∀ (d k : Nat), d < k → ∀ W, OkW W → ∃ e W', f__law_expr k [.w, iN d] (some W) = some ((enc e, .fz), some W') ∧ dp e ≤ d ∧ OkW W' := by
  intro d
  induction d with
  | zero =>
    intro k hk W hW
    obtain ⟨k, rfl⟩ : ∃ m, k = m + 1 := ⟨k - 1, by omega⟩
    obtain ⟨q, W1, g1, g2, g3, g4⟩ := next_ok hW (m := 4) (by decide)
    by_cases h2 : q < 2
    · obtain ⟨r, W2, k1, k2, k3, k4⟩ := next_ok g4 (m := 5) (by decide)
      refine ⟨.num (r - 1), W2, ?_, Nat.le_refl _, k4⟩
      rw [expr_s]
      simp -implicitDefEqProofs [b__law_expr, nx_e, pk_e, g1, h2, k1, enc]
    · obtain ⟨x, W2, k1, k2, k3⟩ := pick_N3 g4
      refine ⟨.var x, W2, ?_, Nat.le_refl _, k3⟩
      rw [expr_s]
      simp -implicitDefEqProofs [b__law_expr, nx_e, pk_e, g1, h2, g3, k1, enc]
  | succ d ih =>
    intro k hk W hW
    obtain ⟨k, rfl⟩ : ∃ m, k = m + 1 := ⟨k - 1, by omega⟩
    have ih' := ih k (by omega)
    have ed : ((d + 1 : Nat) : Int) - 1 = (d : Int) := by omega
    have ed2 : ((d : Int) + 1) - 1 = (d : Int) := by omega
    have hp : (0 : Int) < (d : Int) + 1 := by omega
    obtain ⟨q, W1, g1, g2, g3, g4⟩ := next_ok hW (m := 9) (by decide)
    by_cases h2 : q < 2
    · obtain ⟨r, W2, k1, k2, k3, k4⟩ := next_ok g4 (m := 5) (by decide)
      refine ⟨.num (r - 1), W2, ?_, Nat.zero_le _, k4⟩
      rw [expr_s]
      simp -implicitDefEqProofs [b__law_expr, nx_e, pk_e, g1, h2, k1, enc, hp]
    · by_cases h4 : q < 4
      · obtain ⟨x, W2, k1, k2, k3⟩ := pick_N3 g4
        refine ⟨.var x, W2, ?_, Nat.zero_le _, k3⟩
        rw [expr_s]
        simp -implicitDefEqProofs [b__law_expr, nx_e, pk_e, g1, h2, h4, k1, enc, hp]
      · by_cases h6 : q < 6
        · obtain ⟨o, W2, k1, k2, k3⟩ := pick_ok g4 (ds := [.str "cell", .str "not"]) (by simp)
          obtain ⟨e, W3, l1, l2, l3⟩ := ih' W2 k3
          simp only [List.mem_cons, List.mem_nil_iff, or_false] at k2
          rcases k2 with h | h <;> subst h
          · refine ⟨.cell e, W3, ?_, by simp [dp]; exact l2, l3⟩
            rw [expr_s]
            simp -implicitDefEqProofs [b__law_expr, nx_e, pk_e, g1, h2, h4, h6, k1, enc, hp, ed2, l1]
          · refine ⟨.no e, W3, ?_, by simp [dp]; exact l2, l3⟩
            rw [expr_s]
            simp -implicitDefEqProofs [b__law_expr, nx_e, pk_e, g1, h2, h4, h6, k1, enc, hp, ed2, l1]
        · obtain ⟨o, W2, k1, k2, k3⟩ := pick_ok g4 (ds := [.str "add", .str "sub", .str "less", .str "same", .str "add", .str "sub"]) (by simp)
          obtain ⟨e, W3, l1, l2, l3⟩ := ih' W2 k3
          obtain ⟨e', W4, m1, m2, m3⟩ := ih' W3 l3
          have hmx : max (dp e) (dp e') + 1 ≤ d + 1 := by omega
          simp only [List.mem_cons, List.mem_nil_iff, or_false] at k2
          rcases k2 with h | h | h | h | h | h <;> subst h
          · refine ⟨.ad e e', W4, ?_, hmx, m3⟩
            rw [expr_s]
            simp -implicitDefEqProofs [b__law_expr, nx_e, pk_e, g1, h2, h4, h6, k1, enc, hp, ed2, l1, m1]
          · refine ⟨.su e e', W4, ?_, hmx, m3⟩
            rw [expr_s]
            simp -implicitDefEqProofs [b__law_expr, nx_e, pk_e, g1, h2, h4, h6, k1, enc, hp, ed2, l1, m1]
          · refine ⟨.le e e', W4, ?_, hmx, m3⟩
            rw [expr_s]
            simp -implicitDefEqProofs [b__law_expr, nx_e, pk_e, g1, h2, h4, h6, k1, enc, hp, ed2, l1, m1]
          · refine ⟨.sa e e', W4, ?_, hmx, m3⟩
            rw [expr_s]
            simp -implicitDefEqProofs [b__law_expr, nx_e, pk_e, g1, h2, h4, h6, k1, enc, hp, ed2, l1, m1]
          · refine ⟨.ad e e', W4, ?_, hmx, m3⟩
            rw [expr_s]
            simp -implicitDefEqProofs [b__law_expr, nx_e, pk_e, g1, h2, h4, h6, k1, enc, hp, ed2, l1, m1]
          · refine ⟨.su e e', W4, ?_, hmx, m3⟩
            rw [expr_s]
            simp -implicitDefEqProofs [b__law_expr, nx_e, pk_e, g1, h2, h4, h6, k1, enc, hp, ed2, l1, m1]
theorem expr1 {W : Wd} (hW : OkW W) : ∃ e W', f__law_expr 40 [.w, .int 1] (some W) = some ((enc e, .fz), some W') ∧ dp e ≤ 5 ∧ OkW W' := by
  obtain ⟨e, W', h1, h2, h3⟩ := expr_ok 1 40 (by decide) W hW
  exact ⟨e, W', h1, by omega, h3⟩
theorem expr2 {W : Wd} (hW : OkW W) : ∃ e W', f__law_expr 40 [.w, .int 2] (some W) = some ((enc e, .fz), some W') ∧ dp e ≤ 5 ∧ OkW W' := by
  obtain ⟨e, W', h1, h2, h3⟩ := expr_ok 2 40 (by decide) W hW
  exact ⟨e, W', h1, by omega, h3⟩
theorem drawOp_ok {fs : List Str} {nm : List Str} (hnm : ∀ n ∈ nm, n ∈ fs) (hNs : ∀ n ∈ nm, PyData.strOk n = true) {many : Nat} (hm : many ≤ 100) {W : Wd} (hW : OkW W) :
    ∃ o W', f__law_op [.w, iN many, .lst (nm.map D.str)] (some W) = some ((encO o, .fz), some W') ∧ OOk fs o ∧ OkW W' := by
  obtain ⟨q, W1, g1, g2, g3, g4⟩ := next_ok hW (m := 10) (by decide)
  obtain ⟨x, W2, k1, k2, k3⟩ := pick_N3 g4
  obtain ⟨e1, W3, a1, a2, a3⟩ := expr1 k3
  have fin : ¬ q < 3 → ¬ q = 3 → ¬ q = 4 → (¬ q = 5 ∨ nm = []) → ¬ q = 6 → ¬ q = 7 → ∃ o W', f__law_op [.w, iN many, .lst (nm.map D.str)] (some W) = some ((encO o, .fz), some W') ∧ OOk fs o ∧ OkW W' := fun n1 n2 n3 n4 n5 n6 => by
    refine ⟨.sy e1, W3, ?_, a2, a3⟩
    by_cases h5 : q = 5
    · have hnil : nm = [] := n4.elim (fun z => absurd h5 z) id
      subst hnil
      have hne := dNe_lnil (ds := []) rfl
      unfold f__law_op
      try simp -implicitDefEqProofs at hne
      simp -implicitDefEqProofs [b__law_op, nx_e, pk_e, g1, k1, n1, n2, n3, n5, n6, h5, hne, a1, encO]
    · unfold f__law_op
      simp -implicitDefEqProofs [b__law_op, nx_e, pk_e, g1, k1, n1, n2, n3, n5, n6, h5, a1, encO]
  by_cases n1 : q < 3
  · obtain ⟨e2, W4, b1, b2, b3⟩ := expr2 k3
    refine ⟨.lt x e2, W4, ?_, ⟨k2, b2⟩, b3⟩
    unfold f__law_op
    simp -implicitDefEqProofs [b__law_op, nx_e, pk_e, g1, k1, n1, b1, encO]
  · by_cases n2 : q = 3
    · obtain ⟨r, W4, b1, b2, b3, b4⟩ := next_ok k3 (m := 3) (by decide)
      obtain ⟨e, W5, c1, c2, c3⟩ := expr1 b4
      obtain ⟨c, rfl⟩ : ∃ c : Nat, r = c := ⟨r.toNat, by omega⟩
      refine ⟨.pt c e, W5, ?_, ⟨by omega, c2⟩, c3⟩
      unfold f__law_op
      simp -implicitDefEqProofs [b__law_op, nx_e, pk_e, g1, k1, n2, b1, c1, encO]
    · by_cases n3 : q = 4
      · obtain ⟨r, W4, b1, b2, b3, b4⟩ := next_ok a3 (m := (many : Int) + 1) (by omega)
        obtain ⟨c, rfl⟩ : ∃ c : Nat, r = c := ⟨r.toNat, by omega⟩
        refine ⟨.fi e1 c, W4, ?_, a2, b4⟩
        unfold f__law_op
        simp -implicitDefEqProofs [b__law_op, nx_e, pk_e, g1, k1, n3, a1, b1, encO]
      · by_cases n5 : q = 6
        · refine ⟨.as x, W2, ?_, k2, k3⟩
          unfold f__law_op
          simp -implicitDefEqProofs [b__law_op, nx_e, pk_e, g1, k1, n5, encO]
        · by_cases n6 : q = 7
          · obtain ⟨r, W4, b1, b2, b3, b4⟩ := next_ok a3 (m := (many : Int) + 1) (by omega)
            obtain ⟨c, rfl⟩ : ∃ c : Nat, r = c := ⟨r.toNat, by omega⟩
            obtain ⟨d, W5, c1, c2, c3⟩ := pick_ok b4 (ds := [.tup [.str "give", enc e1], .tup [.str "go", iN c]]) (by simp)
            have hop : ∃ o, d = encO o ∧ OOk fs o := by
              simp only [List.mem_cons, List.mem_nil_iff, or_false] at c2
              rcases c2 with h | h
              · exact ⟨.gi e1, h, a2⟩
              · exact ⟨.go c, h, trivial⟩
            obtain ⟨o, rfl, ho⟩ := hop
            refine ⟨o, W5, ?_, ho, c3⟩
            unfold f__law_op
            simp -implicitDefEqProofs [b__law_op, nx_e, pk_e, g1, k1, n6, a1, b1, c1]
          · by_cases n4 : q = 5
            · cases hnn : nm with
              | nil => rw [← hnn]; exact fin n1 n2 n3 (.inr hnn) n5 n6
              | cons f r =>
                have hf : f ∈ nm := by rw [hnn]; exact List.mem_cons_self
                have hfine : fine 64 (.lst (nm.map D.str)) = true := by
                  rw [fine_lst]
                  intro d hd
                  obtain ⟨s, hs, rfl⟩ := List.mem_map.mp hd
                  rw [fine_str]; exact hNs s hs
                have hne := dNe_lnil hfine
                rw [hnn] at hne
                refine ⟨.ca x f e1, W3, ?_, ⟨k2, hnm f hf, a2⟩, a3⟩
                unfold f__law_op
                try simp -implicitDefEqProofs at hne
                simp -implicitDefEqProofs [b__law_op, nx_e, pk_e, g1, k1, n4, hne, a1, encO]
            · exact fin n1 n2 n3 (.inl n4) n5 n6
theorem inputs_ok {W : Wd} (hW : OkW W) : ∃ (ins : List Int) (W' : Wd), f__law_inputs [.w] (some W) = some ((.tup (ins.map D.int), .fz), some W') ∧ OkW W' := by
  obtain ⟨q, W1, g1, g2, g3, g4⟩ := next_ok hW (m := 4) (by decide)
  have main : ∀ (L : List D) (W : Wd), OkW W → (∀ d ∈ L, True) → ∃ (ins : List Int) (W' : Wd), lcL (setN 1) tYesD (eOp dSub (eCall f__law_next (aCons (eFz (eVar 0)) (aCons (eFz (eC (.int 5))) aNil))) (eC (.int 1))) L [some (.w, false), none] (some W) = some (ins.map D.int, some W') ∧ OkW W' := by
    intro L
    induction L with
    | nil => intro W hW _; exact ⟨[], W, rfl, hW⟩
    | cons d L ih =>
      intro W hW _
      obtain ⟨r, W2, k1, k2, k3, k4⟩ := next_ok hW (m := 5) (by decide)
      obtain ⟨ins, W3, l1, l2⟩ := ih W2 k4 fun _ _ => trivial
      refine ⟨(r - 1) :: ins, W3, ?_, l2⟩
      rw [nx_e] at l1
      rw [lcL_cons]
      simp -implicitDefEqProofs [nx_e, k1, l1]
  obtain ⟨ins, W2, h1, h2⟩ := main (rangeD 0 q) W1 g4 fun _ _ => trivial
  refine ⟨ins, W2, ?_, h2⟩
  have hr : ∀ w : Option Wd, rngK ([(.int q, .fz)], w) = some (rangeD 0 q, w) := fun w => rngK_1 (by omega)
  have hl : (rangeD 0 q).length ≤ lim := le_lim (by rw [range_len]; omega)
  rw [nx_e] at h1
  unfold f__law_inputs b__law_inputs
  simp -implicitDefEqProofs [nx_e, g1, hr, lcK_q hl, h1]
end Kk42

set_option Elab.async false
set_option linter.all false
set_option maxRecDepth 100000
set_option maxHeartbeats 600000
namespace Kk42
open PySem PySem.Spec PyProof.Rows L2 Dl
def bInP : Dl.SB := (sSeq (sFrz [5, 6] (sApp 7 (eTup (aCons (eFz (eVar 6)) (aCons (eFz (eCall f__law_op (aCons (eFz (eVar 0)) (aCons (eFz (eVar 5)) (aCons (eFz (eIf (tVal (eOp dGt (eCall f__law_next (aCons (eFz (eVar 0)) (aCons (eFz (eC (.int 6))) aNil))) (eC (.int 0)))) (eSl dSl (eVar 2) (oSome (eOp dAdd (eVar 3) (eC (.int 1)))) oNone) (eSl dSl (eVar 2) (oSome (eA dMax2 (aCons (eVar 3) (aCons (eC (.int 1)) aNil)))) oNone))) aNil))))) aNil))))) (sAug 6 dAddI (eCall f__law_next (aCons (eFz (eVar 0)) (aCons (eFz (eC (.int 3))) aNil)))))
def bOutP : Dl.SB := (sSeq (sUnpO [5, 6, 7] (aCons (eOp dAdd (eC (.int 1)) (eCall f__law_next (aCons (eFz (eVar 0)) (aCons (eFz (eC (.int 6))) aNil)))) (aCons (eOp dAdd (eC (.int 1)) (eOp dMul (eC (.int 20)) (eVar 3))) (aCons (eLst aNil) aNil)))) (sSeq (sFor (setN 4) (iRange (aCons (eVar 5) aNil)) bInP) (sPut 1 (eOp dIx (eVar 2) (eVar 3)) (eTup (aCons (eFz (eIf (tVal (eOp dEq (eVar 3) (eC (.int 0)))) (eTup aNil) (eTup (aCons (eFz (eC (.str "x"))) aNil)))) (aCons (eFz (eA dTuple (aCons (eVar 7) aNil))) aNil))))))
def cdD (cd : Cd) : List D := cd.map fun p => .tup [.int p.1, encO p.2]
abbrev nmD (nm : List Str) : D := .lst (nm.map D.str)
abbrev PE (F : D) (nm : List Str) (k many : Nat) (row : Int) (cd : Cd) (s4 : O) : En := [some (.w, false), some (F, true), some (nmD nm, true), some (iN k, false), s4, some (iN many, false), some (.int row, false), some (.lst (cdD cd), true)]
theorem drop_sub (nm : List Str) (j : Nat) (hj : 1 ≤ j) : ∀ x ∈ nm.drop j, x ∈ nm.drop 1 := fun x hx => by
  obtain ⟨i, rfl⟩ : ∃ i, j = 1 + i := ⟨j - 1, by omega⟩
  rw [← List.drop_drop] at hx
  exact List.mem_of_mem_drop hx
theorem cut_nm (nm : List Str) (j : Nat) (i : Int) (h : i = (j : Int)) : Dl.cutD (nm.map D.str) (some i) none = (nm.drop j).map D.str := by
  subst h
  rw [cut_drop, List.map_drop]
theorem bInP_ok {F : D} {nm : List Str} (hNs : ∀ n ∈ nm, PyData.strOk n = true) {k many : Nat} (hm : many ≤ 100) {row : Int} {cd : Cd} (hc : COk (nm.drop 1) cd) (hl : cd.length < 90) {W : Wd} (hW : OkW W) (s4 : O) :
    ∃ row' cd' W', bInP (PE F nm k many row cd s4) (some W) = some (.nx (PE F nm k many row' cd' s4) (some W')) ∧ COk (nm.drop 1) cd' ∧ cd'.length = cd.length + 1 ∧ OkW W' := by
  obtain ⟨q, W1, g1, g2, g3, g4⟩ := next_ok hW (m := 6) (by decide)
  have main : ∃ o W2, (∀ env : En, env = PE F nm k many row cd s4 → eCall f__law_op (aCons (eFz (eVar 0)) (aCons (eFz (eVar 5)) (aCons (eFz (eIf (tVal (eOp dGt (eCall f__law_next (aCons (eFz (eVar 0)) (aCons (eFz (eC (.int 6))) aNil))) (eC (.int 0)))) (eSl dSl (eVar 2) (oSome (eOp dAdd (eVar 3) (eC (.int 1)))) oNone) (eSl dSl (eVar 2) (oSome (eA dMax2 (aCons (eVar 3) (aCons (eC (.int 1)) aNil)))) oNone))) aNil))) env (some W) = some ((encO o, .fz), some W2)) ∧ OOk (nm.drop 1) o ∧ OkW W2 := by
    by_cases h0 : 0 < q
    · obtain ⟨o, W2, h1, h2, h3⟩ := drawOp_ok (fs := nm.drop 1) (nm := nm.drop (k + 1)) (drop_sub nm (k + 1) (by omega)) (fun n hn => hNs n (List.mem_of_mem_drop hn)) hm g4
      refine ⟨o, W2, fun env he => ?_, h2, h3⟩
      subst he
      have hcut := cut_nm nm (k + 1) ((k : Int) + 1) (by omega)
      generalize (nm.drop (k + 1)).map D.str = N1 at *
      simp -implicitDefEqProofs [nx_e, g1, h0, hcut, h1]
    · obtain ⟨o, W2, h1, h2, h3⟩ := drawOp_ok (fs := nm.drop 1) (nm := nm.drop (max k 1)) (drop_sub nm (max k 1) (by omega)) (fun n hn => hNs n (List.mem_of_mem_drop hn)) hm g4
      refine ⟨o, W2, fun env he => ?_, h2, h3⟩
      subst he
      have hcut := cut_nm nm (max k 1) (if (1 : Int) > k then 1 else k) (by split <;> omega)
      generalize (nm.drop (max k 1)).map D.str = N1 at *
      by_cases hk : (1 : Int) > k
      · rw [if_pos hk] at hcut
        have hk' : k = 0 := by omega
        subst hk'
        try simp -implicitDefEqProofs at hcut
        simp -implicitDefEqProofs [nx_e, g1, h0, hcut, h1]
      · rw [if_neg hk] at hcut
        have hk' : ¬ k < 1 := by omega
        simp -implicitDefEqProofs [nx_e, g1, h0, hk, hk', hcut, h1]
  obtain ⟨o, W2, h1, h2, h3⟩ := main
  have h1' := h1 _ rfl
  obtain ⟨r, W3, k1, k2, k3, k4⟩ := next_ok h3 (m := 3) (by decide)
  refine ⟨row + r, cd ++ [(row, o)], W3, ?_, ⟨by simp; omega, fun p hp => ?_⟩, by simp, k4⟩
  · have hlim : (cdD cd).length < lim := lt_lim (by unfold cdD; rw [List.length_map]; omega)
    have em : cdD (cd ++ [(row, o)]) = cdD cd ++ [.tup [.int row, encO o]] := by unfold cdD; rw [List.map_append]; rfl
    have a1 : sFrz [5, 6] (sApp 7 (eTup (aCons (eFz (eVar 6)) (aCons (eFz (eCall f__law_op (aCons (eFz (eVar 0)) (aCons (eFz (eVar 5)) (aCons (eFz (eIf (tVal (eOp dGt (eCall f__law_next (aCons (eFz (eVar 0)) (aCons (eFz (eC (.int 6))) aNil))) (eC (.int 0)))) (eSl dSl (eVar 2) (oSome (eOp dAdd (eVar 3) (eC (.int 1)))) oNone) (eSl dSl (eVar 2) (oSome (eA dMax2 (aCons (eVar 3) (aCons (eC (.int 1)) aNil)))) oNone))) aNil))))) aNil)))) (PE F nm k many row cd s4) (some W) = some (.nx (PE F nm k many row (cd ++ [(row, o)]) s4) (some W2)) := by
      rw [sFrz_q]
      show sApp 7 _ (PE F nm k many row cd s4) (some W) = _
      rw [sApp_q]
      have ht : eFz (eTup (aCons (eFz (eVar 6)) (aCons (eFz (eCall f__law_op (aCons (eFz (eVar 0)) (aCons (eFz (eVar 5)) (aCons (eFz (eIf (tVal (eOp dGt (eCall f__law_next (aCons (eFz (eVar 0)) (aCons (eFz (eC (.int 6))) aNil))) (eC (.int 0)))) (eSl dSl (eVar 2) (oSome (eOp dAdd (eVar 3) (eC (.int 1)))) oNone) (eSl dSl (eVar 2) (oSome (eA dMax2 (aCons (eVar 3) (aCons (eC (.int 1)) aNil)))) oNone))) aNil))))) aNil))) (PE F nm k many row cd s4) (some W) = some ((.tup [.int row, encO o], .fz), some W2) := by
        rw [eFz_q, eTup_q, aCons_q]
        show bnd (bnd (bnd (some ((D.int row, O3.fz), some W)) _) _) _ = _
        rw [bnd_some, acK1_q, aCons_q, eFz_q, h1']
        rfl
      rw [ht]
      unfold PE
      rw [em]
      generalize cdD cd = C at *
      simp -implicitDefEqProofs [hlim]
    have a2 : sAug 6 dAddI (eCall f__law_next (aCons (eFz (eVar 0)) (aCons (eFz (eC (.int 3))) aNil))) (PE F nm k many row (cd ++ [(row, o)]) s4) (some W2) = some (.nx (PE F nm k many (row + r) (cd ++ [(row, o)]) s4) (some W3)) := by
      refine sAug_q (d := .int row) (x := .int r) (s := .fz) rfl ?_ rfl
      simp -implicitDefEqProofs [nx_e, k1]
    unfold bInP
    rw [sSeq_q, a1, bnd_some, nxt_nx]
    exact a2
  · rcases List.mem_append.mp hp with hp | hp
    · exact hc.2 p hp
    · rw [List.mem_singleton] at hp; subst hp; exact h2
def entry (k : Nat) (cd : Cd) : D := .tup [if k = 0 then .tup [] else .tup [.str "x"], encC cd]
theorem turnP {ks : List Key} {ds : List D} (hkl : ks.length ≤ 10) {nm : List Str} (hNs : ∀ n ∈ nm, PyData.strOk n = true) {k : Nat} (hk : k < nm.length) {W : Wd} (hW : OkW W) (s4 s5 s6 s7 : O) :
    ∃ cd t4 t5 t6 t7 W', bOutP [some (.w, false), some (.dk ks ds, true), some (nmD nm, true), some (iN k, false), s4, s5, s6, s7] (some W) = some (.nx [some (.w, false), some (.dk (dPut ks ds (.inr nm[k]) (entry k cd)).1 (dPut ks ds (.inr nm[k]) (entry k cd)).2, true), some (nmD nm, true), some (iN k, false), t4, t5, t6, t7] (some W')) ∧ COk (nm.drop 1) cd ∧ 0 < cd.length ∧ OkW W' := by
  obtain ⟨q, W1, g1, g2, g3, g4⟩ := next_ok hW (m := 6) (by decide)
  obtain ⟨many, hmany⟩ : ∃ many : Nat, 1 + q = many := ⟨(1 + q).toNat, by omega⟩
  have hm7 : many ≤ 7 := by omega
  have a1 : (sUnpO [5, 6, 7] (aCons (eOp dAdd (eC (.int 1)) (eCall f__law_next (aCons (eFz (eVar 0)) (aCons (eFz (eC (.int 6))) aNil)))) (aCons (eOp dAdd (eC (.int 1)) (eOp dMul (eC (.int 20)) (eVar 3))) (aCons (eLst aNil) aNil)))) [some (.w, false), some (.dk ks ds, true), some (nmD nm, true), some (iN k, false), s4, s5, s6, s7] (some W) = some (.nx (PE (.dk ks ds) nm k many (1 + 20 * (k : Int)) [] s4) (some W1)) := by
    unfold PE iN
    rw [← hmany]
    simp -implicitDefEqProofs [nx_e, g1, cdD]
  obtain ⟨env, w', h1, row', cd, j', W2, h2, h3, h4, h5, h6⟩ := forL_inv (set := setN 4) (sa := bInP)
    (fun i e w => ∃ row cd j W, e = PE (.dk ks ds) nm k many row cd j ∧ w = some W ∧ COk (nm.drop 1) cd ∧ cd.length = i ∧ OkW W) (rangeD 0 (many : Int)) 0 (PE (.dk ks ds) nm k many (1 + 20 * (k : Int)) [] s4) (some W1) ⟨_, [], s4, W1, rfl, rfl, ⟨by simp, fun p hp => nomatch hp⟩, rfl, g4⟩ fun i d env w hd hp => by
      obtain ⟨row, cd, j, W, he, hw, hc, hl, hW⟩ := hp
      subst he hw
      obtain ⟨hd1, hd2⟩ := range_at hd
      obtain ⟨row', cd', W', k1, k2, k3, k4⟩ := bInP_ok (F := .dk ks ds) (nm := nm) hNs (k := k) (many := many) (by omega) (row := row) hc (by omega) hW (some (d, false))
      exact ⟨PE (.dk ks ds) nm k many row cd (some (d, false)), _, _, _, rfl, k1, .inl rfl, row', cd', some (d, false), W', rfl, rfl, k2, by omega, k4⟩
  subst h2 h3
  refine ⟨cd, j', some (iN many, false), some (.int row', false), some (.lst (cdD cd), true), W2, ?_, h4, by rw [h5, range_len]; omega, h6⟩
  have hi : iRange (aCons (eVar 5) aNil) (PE (.dk ks ds) nm k many (1 + 20 * (k : Int)) [] s4) (some W1) = some (rangeD 0 (many : Int), some W1) := by
    have hr : ∀ w : Option Wd, rngK ([(.int (many : Int), .fz)], w) = some (rangeD 0 (many : Int), w) := fun w => rngK_1 (by omega)
    simp -implicitDefEqProofs [hr]
  have hnk : atI (nm.map D.str) (k : Int) = some (.str nm[k]) := by rw [atI_n, List.getElem?_map]; simp [hk]
  have hlim : ks.length < lim := lt_lim (by omega)
  have hput : ∀ v : D, putK3 (PE (.dk ks ds) nm k many row' cd j') 1 v (.str nm[k]) (some W2) = some (.nx ((PE (.dk ks ds) nm k many row' cd j').set 1 (some (.dk (dPut ks ds (.inr nm[k]) v).1 (dPut ks ds (.inr nm[k]) v).2, true))) (some W2)) := fun v => putK3_q rfl (putD_dk (keyD_s (i := nm[k])) hlim)
  have hen : encC cd = .tup (cdD cd) := rfl
  unfold bOutP
  rw [sSeq_q, a1, bnd_some, nxt_nx, sSeq_q, sFor_q, hi, bnd_some, forK_q, h1, bnd_some, nxt_nx]
  by_cases h0 : k = 0
  · have p := hput (entry k cd)
    unfold entry at p ⊢
    rw [hen] at p ⊢
    rw [if_pos h0] at p ⊢
    have h0' : (k : Int) = 0 := by omega
    have hz : ((k : Int) = 0) = True := eq_true h0'
    have hz2 : (k = 0) = True := eq_true h0
    simp -implicitDefEqProofs only [PE] at p ⊢
    generalize cdD cd = C at *
    generalize nm[k] = nk at *
    simp -implicitDefEqProofs [hz, hz2, hnk]
    exact p
  · have p := hput (entry k cd)
    unfold entry at p ⊢
    rw [hen] at p ⊢
    rw [if_neg h0] at p ⊢
    have h0' : ¬ (k : Int) = 0 := by omega
    have hz : ((k : Int) = 0) = False := eq_false h0'
    have hz2 : (k = 0) = False := eq_false h0
    simp -implicitDefEqProofs only [PE] at p ⊢
    generalize cdD cd = C at *
    generalize nm[k] = nk at *
    simp -implicitDefEqProofs [hz, hz2, hnk]
    exact p
end Kk42

set_option Elab.async false
set_option linter.all false
set_option maxRecDepth 100000
set_option maxHeartbeats 600000
namespace Kk42
open PySem PySem.Spec PyProof.Rows L2 Dl
def mainC : Cd := [(1, .as "n"), (2, .fi (.no (.var "n")) 6), (3, .lt "x" (.ad (.var "x") (.var "n"))), (4, .lt "n" (.su (.var "n") (.num 1))), (5, .pt 1 (.var "x")), (5, .go 1), (6, .sy (.var "x"))]
theorem mainC_ok (fs : List Str) : COk fs mainC := by
  refine ⟨by decide, fun p hp => ?_⟩
  simp only [mainC, List.mem_cons, List.mem_nil_iff, or_false] at hp
  rcases hp with h | h | h | h | h | h | h <;> subst h
  · show ("n" : Str) ∈ N3; simp
  · show dp (.no (.var "n")) ≤ 5; decide
  · exact ⟨by simp, by decide⟩
  · exact ⟨by simp, by decide⟩
  · exact ⟨by decide, by decide⟩
  · trivial
  · show dp (.var "x") ≤ 5; decide
def fgs (m : Nat) : List Str := (["f", "g"] : List Str).take m
/-- a program as it is drawn -/
def Sh (fs : List Str) (c0 : Cd) (pr : D) : Prop := COk fs c0 ∧ 0 < c0.length ∧
  ((fs = [] ∧ pr = .dk [.inr "main"] [entry 0 c0]) ∨ (fs = (["f"] : List Str) ∧ ∃ c1, COk fs c1 ∧ pr = .dk [.inr "main", .inr "f"] [entry 0 c0, entry 1 c1]) ∨ (fs = (["f", "g"] : List Str) ∧ ∃ c1 c2, COk fs c1 ∧ COk fs c2 ∧ pr = .dk [.inr "main", .inr "f", .inr "g"] [entry 0 c0, entry 1 c1, entry 1 c2]))
theorem Sh.ns {fs : List Str} {c0 : Cd} {pr : D} (h : Sh fs c0 pr) : Ns fs := by
  intro f hf
  rcases h.2.2 with ⟨e, _⟩ | ⟨e, _⟩ | ⟨e, _⟩ <;> subst e
  · cases hf
  · rw [List.mem_singleton] at hf; subst hf; decide +kernel
  · simp only [List.mem_cons, List.mem_nil_iff, or_false] at hf
    rcases hf with h | h <;> subst h <;> decide +kernel
theorem Sh.main {fs : List Str} {c0 : Cd} {pr : D} (h : Sh fs c0 pr) : ∃ ks ds, pr = .dk ks ds ∧ dFind ks ds (.inr "main") = some (entry 0 c0) := by
  rcases h.2.2 with ⟨_, e⟩ | ⟨_, c1, _, e⟩ | ⟨_, c1, c2, _, _, e⟩ <;> subst e <;> exact ⟨_, _, rfl, by simp [dFind]⟩
theorem Sh.pr {fs : List Str} {c0 : Cd} {pr : D} (h : Sh fs c0 pr) : PrOk fs pr := by
  obtain ⟨ks, ds, e, hm⟩ := h.main
  refine ⟨ks, ds, e, ⟨c0, hm, h.1⟩, fun f hf => ?_⟩
  rcases h.2.2 with ⟨e1, e2⟩ | ⟨e1, c1, h1, e2⟩ | ⟨e1, c1, c2, h1, h2, e2⟩
  · subst e1; cases hf
  · rw [e2] at e
    injection e with ea eb
    subst ea eb e1
    rw [List.mem_singleton] at hf; subst hf
    exact ⟨c1, by simp [dFind]; rfl, h1⟩
  · rw [e2] at e
    injection e with ea eb
    subst ea eb e1
    simp only [List.mem_cons, List.mem_nil_iff, or_false] at hf
    rcases hf with h | h <;> subst h
    · exact ⟨c1, by simp [dFind]; rfl, h1⟩
    · exact ⟨c2, by simp [dFind]; rfl, h2⟩
/-- main changed -/
theorem Sh.bent {fs : List Str} {c0 c' : Cd} {pr : D} (h : Sh fs c0 pr) (hc : COk fs c') (hl : 0 < c'.length) : ∃ ks ds pr', pr = .dk ks ds ∧ itemsD ks ds = itemsD ks ds ∧ (itemsD ks ds).length ≤ 3 ∧ dDict [.lst (itemsD ks ds ++ [.tup [.str "main", entry 0 c']])] = some (pr', .ow) ∧ Sh fs c' pr' := by
  have hd : ∀ L : List D, L.length ≤ 10 → dDict [.lst L] = (dMerge [] [] L).map fun r => (D.dk r.1 r.2, O3.ow) := fun L hL => if_pos (le_lim (by omega))
  rcases h.2.2 with ⟨e1, e⟩ | ⟨e1, c1, h1, e⟩ | ⟨e1, c1, c2, h1, h2, e⟩
  · refine ⟨_, _, .dk [.inr "main"] [entry 0 c'], e, rfl, by simp [itemsD], ?_, hc, hl, .inl ⟨e1, rfl⟩⟩
    rw [hd _ (by simp [itemsD])]
    simp [itemsD, dMerge, keyV, dPut, hasK, dUpd]
  · refine ⟨_, _, .dk [.inr "main", .inr "f"] [entry 0 c', entry 1 c1], e, rfl, by simp [itemsD], ?_, hc, hl, .inr (.inl ⟨e1, c1, h1, rfl⟩)⟩
    rw [hd _ (by simp [itemsD])]
    simp [itemsD, dMerge, keyV, dPut, hasK, dUpd]
  · refine ⟨_, _, .dk [.inr "main", .inr "f", .inr "g"] [entry 0 c', entry 1 c1, entry 1 c2], e, rfl, by simp [itemsD], ?_, hc, hl, .inr (.inr ⟨e1, c1, c2, h1, h2, rfl⟩)⟩
    rw [hd _ (by simp [itemsD])]
    simp [itemsD, dMerge, keyV, dPut, hasK, dUpd]
def bMainP : Dl.SB := (sIf (tVal (eOp dEq (eCall f__law_next (aCons (eFz (eVar 0)) (aCons (eFz (eC (.int 3))) aNil))) (eC (.int 0)))) (sPut 1 (eC (.str "main")) (eTup (aCons (eFz (eTup aNil)) (aCons (eFz (eTup (aCons (eFz (eTup (aCons (eFz (eC (.int 1))) (aCons (eFz (eTup (aCons (eFz (eC (.str "ask"))) (aCons (eFz (eC (.str "n"))) aNil)))) aNil)))) (aCons (eFz (eTup (aCons (eFz (eC (.int 2))) (aCons (eFz (eTup (aCons (eFz (eC (.str "if"))) (aCons (eFz (eTup (aCons (eFz (eC (.str "not"))) (aCons (eFz (eTup (aCons (eFz (eC (.str "var"))) (aCons (eFz (eC (.str "n"))) aNil)))) aNil)))) (aCons (eFz (eC (.int 6))) aNil))))) aNil)))) (aCons (eFz (eTup (aCons (eFz (eC (.int 3))) (aCons (eFz (eTup (aCons (eFz (eC (.str "let"))) (aCons (eFz (eC (.str "x"))) (aCons (eFz (eTup (aCons (eFz (eC (.str "add"))) (aCons (eFz (eTup (aCons (eFz (eC (.str "var"))) (aCons (eFz (eC (.str "x"))) aNil)))) (aCons (eFz (eTup (aCons (eFz (eC (.str "var"))) (aCons (eFz (eC (.str "n"))) aNil)))) aNil))))) aNil))))) aNil)))) (aCons (eFz (eTup (aCons (eFz (eC (.int 4))) (aCons (eFz (eTup (aCons (eFz (eC (.str "let"))) (aCons (eFz (eC (.str "n"))) (aCons (eFz (eTup (aCons (eFz (eC (.str "sub"))) (aCons (eFz (eTup (aCons (eFz (eC (.str "var"))) (aCons (eFz (eC (.str "n"))) aNil)))) (aCons (eFz (eC (.int 1))) aNil))))) aNil))))) aNil)))) (aCons (eFz (eTup (aCons (eFz (eC (.int 5))) (aCons (eFz (eTup (aCons (eFz (eC (.str "put"))) (aCons (eFz (eC (.int 1))) (aCons (eFz (eTup (aCons (eFz (eC (.str "var"))) (aCons (eFz (eC (.str "x"))) aNil)))) aNil))))) aNil)))) (aCons (eFz (eTup (aCons (eFz (eC (.int 5))) (aCons (eFz (eTup (aCons (eFz (eC (.str "go"))) (aCons (eFz (eC (.int 1))) aNil)))) aNil)))) (aCons (eFz (eTup (aCons (eFz (eC (.int 6))) (aCons (eFz (eTup (aCons (eFz (eC (.str "say"))) (aCons (eFz (eTup (aCons (eFz (eC (.str "var"))) (aCons (eFz (eC (.str "x"))) aNil)))) aNil)))) aNil)))) aNil))))))))) aNil)))) (sNil))
theorem lastP {fs : List Str} {c0 : Cd} {pr : D} (h : Sh fs c0 pr) {W : Wd} (hW : OkW W) (s2 s3 s4 s5 s6 s7 : O) : ∃ c0' pr' W', bMainP [some (.w, false), some (pr, true), s2, s3, s4, s5, s6, s7] (some W) = some (.nx [some (.w, false), some (pr', true), s2, s3, s4, s5, s6, s7] (some W')) ∧ Sh fs c0' pr' ∧ OkW W' := by
  obtain ⟨q, W1, g1, g2, g3, g4⟩ := next_ok hW (m := 3) (by decide)
  by_cases h0 : q = 0
  · have key : ∃ ks ds pr', pr = .dk ks ds ∧ ks.length ≤ 3 ∧ .dk (dPut ks ds (.inr "main") (entry 0 mainC)).1 (dPut ks ds (.inr "main") (entry 0 mainC)).2 = pr' ∧ Sh fs mainC pr' := by
      rcases h.2.2 with ⟨e1, e⟩ | ⟨e1, c1, h1, e⟩ | ⟨e1, c1, c2, h1, h2, e⟩
      · exact ⟨_, _, .dk [.inr "main"] [entry 0 mainC], e, by simp, by simp [dPut, hasK, dUpd], mainC_ok fs, by decide, .inl ⟨e1, rfl⟩⟩
      · exact ⟨_, _, .dk [.inr "main", .inr "f"] [entry 0 mainC, entry 1 c1], e, by simp, by simp [dPut, hasK, dUpd], mainC_ok fs, by decide, .inr (.inl ⟨e1, c1, h1, rfl⟩)⟩
      · exact ⟨_, _, .dk [.inr "main", .inr "f", .inr "g"] [entry 0 mainC, entry 1 c1, entry 1 c2], e, by simp, by simp [dPut, hasK, dUpd], mainC_ok fs, by decide, .inr (.inr ⟨e1, c1, c2, h1, h2, rfl⟩)⟩
    obtain ⟨ks, ds, pr', e, hl, e2, hS⟩ := key
    refine ⟨mainC, pr', W1, ?_, hS, g4⟩
    subst e
    have hlim : ks.length < lim := lt_lim (by omega)
    have p : putK3 [some (.w, false), some (.dk ks ds, true), s2, s3, s4, s5, s6, s7] 1 (entry 0 mainC) (.str "main") (some W1) = some (.nx ([some (.w, false), some (.dk ks ds, true), s2, s3, s4, s5, s6, s7].set 1 (some (.dk (dPut ks ds (.inr "main") (entry 0 mainC)).1 (dPut ks ds (.inr "main") (entry 0 mainC)).2, true))) (some W1)) := putK3_q rfl (putD_dk keyD_s hlim)
    rw [e2] at p
    have e3 : entry 0 mainC = .tup [.tup [], .tup [.tup [.int 1, .tup [.str "ask", .str "n"]], .tup [.int 2, .tup [.str "if", .tup [.str "not", .tup [.str "var", .str "n"]], .int 6]], .tup [.int 3, .tup [.str "let", .str "x", .tup [.str "add", .tup [.str "var", .str "x"], .tup [.str "var", .str "n"]]]], .tup [.int 4, .tup [.str "let", .str "n", .tup [.str "sub", .tup [.str "var", .str "n"], .int 1]]], .tup [.int 5, .tup [.str "put", .int 1, .tup [.str "var", .str "x"]]], .tup [.int 5, .tup [.str "go", .int 1]], .tup [.int 6, .tup [.str "say", .tup [.str "var", .str "x"]]]]] := rfl
    rw [e3] at p
    unfold bMainP
    simp -implicitDefEqProofs [nx_e, g1, h0]
    exact p
  · refine ⟨c0, pr, W1, ?_, h, g4⟩
    unfold bMainP
    simp -implicitDefEqProofs [nx_e, g1, h0]
theorem turnF {ks : List Key} {ds : List D} (hkl : ks.length ≤ 10) {nm : List Str} (hNs : ∀ n ∈ nm, PyData.strOk n = true) {k : Nat} (hk : k < nm.length) {W : Wd} (hW : OkW W) (s3 s4 s5 s6 s7 : O) :
    ∃ cd t4 t5 t6 t7 W', (∀ L, forL (setN 3) bOutP (iN k :: L) [some (.w, false), some (.dk ks ds, true), some (nmD nm, true), s3, s4, s5, s6, s7] (some W) = forL (setN 3) bOutP L [some (.w, false), some (.dk (dPut ks ds (.inr nm[k]) (entry k cd)).1 (dPut ks ds (.inr nm[k]) (entry k cd)).2, true), some (nmD nm, true), some (iN k, false), t4, t5, t6, t7] (some W')) ∧ COk (nm.drop 1) cd ∧ 0 < cd.length ∧ OkW W' := by
  obtain ⟨cd, t4, t5, t6, t7, W2, h1, h2, h3, h4⟩ := turnP (ks := ks) (ds := ds) hkl (nm := nm) hNs (k := k) hk hW s4 s5 s6 s7
  refine ⟨cd, t4, t5, t6, t7, W2, fun L => ?_, h2, h3, h4⟩
  rw [forL_cons, setN_q, bnd_some, forK2_q]
  have e : ([some (.w, false), some (.dk ks ds, true), some (nmD nm, true), s3, s4, s5, s6, s7] : En).set 3 (some (iN k, false)) = [some (.w, false), some (.dk ks ds, true), some (nmD nm, true), some (iN k, false), s4, s5, s6, s7] := rfl
  rw [e, h1, bnd_some, forP_nx]
theorem program_ok {W : Wd} (hW : OkW W) : ∃ fs c0 pr W', f__law_program [.w] (some W) = some ((pr, .ow), some W') ∧ Sh fs c0 pr ∧ OkW W' := by
  obtain ⟨q, W1, g1, g2, g3, g4⟩ := next_ok hW (m := 3) (by decide)
  have hst : ∀ w, f__law_program [.w] w = bnd (b__law_program f__law_next f__law_op [some (.w, false), none, none, none, none, none, none, none] w) endP := fun w => runFn_q rfl
  have fin : ∀ (nm : List Str), (0 < nm.length) → ((sPar 1 2 (aCons (eDk0) (aCons (eSl dSl (eLst (aCons (eFz (eC (.str "main"))) (aCons (eFz (eC (.str "f"))) (aCons (eFz (eC (.str "g"))) aNil)))) oNone (oSome (eOp dAdd (eC (.int 1)) (eCall f__law_next (aCons (eFz (eVar 0)) (aCons (eFz (eC (.int 3))) aNil)))))) aNil))) [some (.w, false), none, none, none, none, none, none, none] (some W) = some (.nx [some (.w, false), some (.dk [] [], true), some (nmD nm, true), none, none, none, none, none] (some W1))) →
      (∃ fs c0 pr s3 s4 s5 s6 s7 W2, forL (setN 3) bOutP (rangeD 0 (nm.length : Int)) [some (.w, false), some (.dk [] [], true), some (nmD nm, true), none, none, none, none, none] (some W1) = some (.nx [some (.w, false), some (pr, true), some (nmD nm, true), s3, s4, s5, s6, s7] (some W2)) ∧ Sh fs c0 pr ∧ OkW W2) → nm.length ≤ 3 → ∃ fs c0 pr W', f__law_program [.w] (some W) = some ((pr, .ow), some W') ∧ Sh fs c0 pr ∧ OkW W' := fun nm hn0 hp hf hn3 => by
    obtain ⟨fs, c0, pr, s3, s4, s5, s6, s7, W2, h1, h2, h3⟩ := hf
    obtain ⟨c0', pr', W3, k1, k2, k3⟩ := lastP h2 h3 (some (nmD nm, true)) s3 s4 s5 s6 s7
    refine ⟨fs, c0', pr', W3, ?_, k2, k3⟩
    rw [hst]
    have hi : iRange (aCons (eA dLen (aCons (eVar 2) aNil)) aNil) [some (.w, false), some (.dk [] [], true), some (nmD nm, true), none, none, none, none, none] (some W1) = some (rangeD 0 (nm.length : Int), some W1) := by
      have hr : ∀ w : Option Wd, rngK ([(.int (nm.length : Int), .fz)], w) = some (rangeD 0 (nm.length : Int), w) := fun w => rngK_1 (by omega)
      simp -implicitDefEqProofs [hr]
    have hb : b__law_program f__law_next f__law_op = sSeq (sPar 1 2 (aCons (eDk0) (aCons (eSl dSl (eLst (aCons (eFz (eC (.str "main"))) (aCons (eFz (eC (.str "f"))) (aCons (eFz (eC (.str "g"))) aNil)))) oNone (oSome (eOp dAdd (eC (.int 1)) (eCall f__law_next (aCons (eFz (eVar 0)) (aCons (eFz (eC (.int 3))) aNil)))))) aNil))) (sSeq (sFor (setN 3) (iRange (aCons (eA dLen (aCons (eVar 2) aNil)) aNil)) bOutP) (sSeq bMainP (sRet (eVar 1)))) := rfl
    rw [hb, sSeq_q, hp, bnd_some, nxt_nx, sSeq_q, sFor_q, hi, bnd_some, forK_q, h1, bnd_some, nxt_nx, sSeq_q, k1, bnd_some, nxt_nx]
    rfl
  have hq : q = 0 ∨ q = 1 ∨ q = 2 := by omega
  have s1 : PyData.strOk "main" = true := by decide +kernel
  have s2 : PyData.strOk "f" = true := by decide +kernel
  have s3 : PyData.strOk "g" = true := by decide +kernel
  have hc1 : Dl.cutD [(.str "main" : D), .str "f", .str "g"] none (some 1) = [.str "main"] := cut_take (n := 1)
  have hc2 : Dl.cutD [(.str "main" : D), .str "f", .str "g"] none (some 2) = [.str "main", .str "f"] := cut_take (n := 2)
  have hc3 : Dl.cutD [(.str "main" : D), .str "f", .str "g"] none (some 3) = [.str "main", .str "f", .str "g"] := cut_take (n := 3)
  rcases hq with h | h | h <;> subst h
  · refine fin ["main"] (by simp) (by simp -implicitDefEqProofs [nx_e, g1, hc1]) ?_ (by simp)
    obtain ⟨cd, t4, t5, t6, t7, W2, h1, h2, h3, h4⟩ := turnF (ks := []) (ds := []) (by simp) (nm := ["main"]) (fun n hn => by rw [List.mem_singleton] at hn; subst hn; exact s1) (k := 0) (by simp) g4 none none none none none
    have er : rangeD 0 ((["main"] : List Str).length : Int) = [iN 0] := rfl
    have e1 : dPut [] ([] : List D) (.inr (["main"] : List Str)[0]) (entry 0 cd) = ([.inr "main"], [entry 0 cd]) := rfl
    rw [e1] at h1
    have k := h1 []
    rw [← er] at k
    exact ⟨[], cd, .dk [.inr "main"] [entry 0 cd], some (iN 0, false), t4, t5, t6, t7, W2, k, ⟨h2, h3, .inl ⟨rfl, rfl⟩⟩, h4⟩
  · refine fin ["main", "f"] (by simp) (by simp -implicitDefEqProofs [nx_e, g1, hc2]) ?_ (by simp)
    have hs : ∀ n ∈ (["main", "f"] : List Str), PyData.strOk n = true := fun n hn => by
      simp only [List.mem_cons, List.mem_nil_iff, or_false] at hn
      rcases hn with h | h <;> subst h
      · exact s1
      · exact s2
    obtain ⟨cd, t4, t5, t6, t7, W2, h1, h2, h3, h4⟩ := turnF (ks := []) (ds := []) (by simp) (nm := ["main", "f"]) hs (k := 0) (by simp) g4 none none none none none
    have e1 : dPut [] ([] : List D) (.inr (["main", "f"] : List Str)[0]) (entry 0 cd) = ([.inr "main"], [entry 0 cd]) := rfl
    rw [e1] at h1
    obtain ⟨cd2, u4, u5, u6, u7, W3, k1, k2, k3, k4⟩ := turnF (ks := [.inr "main"]) (ds := [entry 0 cd]) (by simp) (nm := ["main", "f"]) hs (k := 1) (by simp) h4 (some (iN 0, false)) t4 t5 t6 t7
    have e2 : dPut [.inr "main"] [entry 0 cd] (.inr (["main", "f"] : List Str)[1]) (entry 1 cd2) = ([.inr "main", .inr "f"], [entry 0 cd, entry 1 cd2]) := by simp [dPut, hasK]
    rw [e2] at k1
    have er : rangeD 0 ((["main", "f"] : List Str).length : Int) = [iN 0, iN 1] := rfl
    have k := h1 [iN 1]
    rw [← er, k1 []] at k
    exact ⟨["f"], cd, .dk [.inr "main", .inr "f"] [entry 0 cd, entry 1 cd2], some (iN 1, false), u4, u5, u6, u7, W3, k, ⟨h2, h3, .inr (.inl ⟨rfl, cd2, k2, rfl⟩)⟩, k4⟩
  · refine fin ["main", "f", "g"] (by simp) (by simp -implicitDefEqProofs [nx_e, g1, hc3]) ?_ (by simp)
    have hs : ∀ n ∈ (["main", "f", "g"] : List Str), PyData.strOk n = true := fun n hn => by
      simp only [List.mem_cons, List.mem_nil_iff, or_false] at hn
      rcases hn with h | h | h <;> subst h
      · exact s1
      · exact s2
      · exact s3
    obtain ⟨cd, t4, t5, t6, t7, W2, h1, h2, h3, h4⟩ := turnF (ks := []) (ds := []) (by simp) (nm := ["main", "f", "g"]) hs (k := 0) (by simp) g4 none none none none none
    have e1 : dPut [] ([] : List D) (.inr (["main", "f", "g"] : List Str)[0]) (entry 0 cd) = ([.inr "main"], [entry 0 cd]) := rfl
    rw [e1] at h1
    obtain ⟨cd2, u4, u5, u6, u7, W3, k1, k2, k3, k4⟩ := turnF (ks := [.inr "main"]) (ds := [entry 0 cd]) (by simp) (nm := ["main", "f", "g"]) hs (k := 1) (by simp) h4 (some (iN 0, false)) t4 t5 t6 t7
    have e2 : dPut [.inr "main"] [entry 0 cd] (.inr (["main", "f", "g"] : List Str)[1]) (entry 1 cd2) = ([.inr "main", .inr "f"], [entry 0 cd, entry 1 cd2]) := by simp [dPut, hasK]
    rw [e2] at k1
    obtain ⟨cd3, v4, v5, v6, v7, W4, l1, l2, l3, l4⟩ := turnF (ks := [.inr "main", .inr "f"]) (ds := [entry 0 cd, entry 1 cd2]) (by simp) (nm := ["main", "f", "g"]) hs (k := 2) (by simp) k4 (some (iN 1, false)) u4 u5 u6 u7
    have e3 : dPut [.inr "main", .inr "f"] [entry 0 cd, entry 1 cd2] (.inr (["main", "f", "g"] : List Str)[2]) (entry 2 cd3) = ([.inr "main", .inr "f", .inr "g"], [entry 0 cd, entry 1 cd2, entry 1 cd3]) := by simp [dPut, hasK, entry]
    rw [e3] at l1
    have er : rangeD 0 ((["main", "f", "g"] : List Str).length : Int) = [iN 0, iN 1, iN 2] := rfl
    have k := h1 [iN 1, iN 2]
    rw [← er, k1 [iN 2], l1 []] at k
    exact ⟨["f", "g"], cd, .dk [.inr "main", .inr "f", .inr "g"] [entry 0 cd, entry 1 cd2, entry 1 cd3], some (iN 2, false), v4, v5, v6, v7, W4, k, ⟨h2, h3, .inr (.inr ⟨rfl, cd2, cd3, k2, l2, rfl⟩)⟩, l4⟩
end Kk42

set_option Elab.async false
set_option linter.all false
set_option maxRecDepth 100000
set_option maxHeartbeats 1000000
namespace Kk42
open PySem PySem.Spec PyProof.Rows L2 Dl
def oN : Option Nat → D
  | none => .non
  | some k => iN k
theorem rngN : ∀ (m lo : Nat), rangeD (lo : Int) ((lo + m : Nat) : Int) = (List.range' lo m).map iN
  | 0, lo => range_none (by omega)
  | m + 1, lo => by
    have ih := rngN m (lo + 1)
    have e1 : ((lo + 1 : Nat) : Int) = (lo : Int) + 1 := by omega
    have e2 : lo + 1 + m = lo + (m + 1) := by omega
    rw [e1, e2] at ih
    rw [range_cons (by omega), List.range'_succ, List.map_cons, ← ih]
theorem rng0 (m : Nat) : rangeD 0 (m : Int) = (List.range m).map iN := by
  have := rngN m 0
  rw [Nat.zero_add] at this
  rw [List.range_eq_range']; exact this
theorem find_loop {set : ESet} {sa : Dl.SB} {E : O → En} {w : Option Wd} (p : Nat → Bool) (g : Nat → D) : ∀ (l : List Nat), (∀ k ∈ l, ∀ o, set (iN k) (E o) = some (E (some (iN k, false)))) → (∀ k ∈ l, sa (E (some (iN k, false))) w = some (if p k = true then .rt (g k, .fz) w else .nx (E (some (iN k, false))) w)) →
    ∀ o, ∃ o', forL set sa (l.map iN) (E o) w = some (match l.find? p with | some k => .rt (g k, .fz) w | none => .nx (E o') w)
  | [], _, _, o => ⟨o, rfl⟩
  | k :: l, hs, hb, o => by
    rw [List.map_cons, forL_cons, hs k (List.mem_cons_self ..) o, bnd_some, forK2_q, hb k (List.mem_cons_self ..), bnd_some]
    by_cases h : p k = true
    · rw [if_pos h, List.find?_cons_of_pos h]
      exact ⟨o, rfl⟩
    · rw [if_neg h, List.find?_cons_of_neg h]
      obtain ⟨o', h'⟩ := find_loop p g l (fun k hk => hs k (List.mem_cons_of_mem _ hk)) (fun k hk => hb k (List.mem_cons_of_mem _ hk)) (some (iN k, false))
      exact ⟨o', by rw [forP_nx, h']⟩
/-- two runs at the same turn -/
def unl (R1 R2 : List D) (k : Nat) : Bool := !eqB (R1.getD k .non) (R2.getD k .non)
section
variable {w : Option Wd} {fs gs : List Str} {R1 R2 : List D}
theorem ne_at (hN : Ns fs) (hG : Ns gs) (h1 : RunOk fs R1) (h2 : RunOk gs R2) {k : Nat} (k1 : k < R1.length) (k2 : k < R2.length) : ∃ a b, atI R1 (k : Int) = some a ∧ atI R2 (k : Int) = some b ∧ els2 (dEqF true) (dEqD true) a b = some (.bl (unl R1 R2 k), .fz) := by
  refine ⟨R1[k], R2[k], by rw [atI_n]; simp [k1], by rw [atI_n]; simp [k2], ?_⟩
  obtain ⟨n, _, s1⟩ := h1.2.2 _ (List.getElem_mem k1)
  obtain ⟨m, _, s2⟩ := h2.2.2 _ (List.getElem_mem k2)
  have f1 := fine_mono 62 64 _ (by omega) (fine_SOk hN s1)
  have f2 := fine_mono 62 64 _ (by omega) (fine_SOk hG s2)
  have e : unl R1 R2 k = !eqB R1[k] R2[k] := by unfold unl; simp [k1, k2]
  rw [e]
  obtain ⟨l, c, t, a, e1, _⟩ := s1
  obtain ⟨l', c', t', a', e2, _⟩ := s2
  rw [e1] at f1 ⊢
  rw [e2] at f2 ⊢
  exact dNe_tt f1 f2
abbrev mn2 (a b : Nat) : Nat := min a b
theorem first_ok (hN : Ns fs) (hG : Ns gs) (h1 : RunOk fs R1) (h2 : RunOk gs R2) : f_first_parting [.tup R1, .tup R2] w = some ((oN ((List.range (min R1.length R2.length)).find? (unl R1 R2)), .fz), w) := by
  have l1 := h1.2.1
  have l2 := h2.2.1
  have hst : f_first_parting [.tup R1, .tup R2] w = bnd (b_first_parting [some (.tup R1, false), some (.tup R2, false), none] w) endP := runFn_q rfl
  obtain ⟨m, hm⟩ : ∃ m, min R1.length R2.length = m := ⟨_, rfl⟩
  have hi : iRange (aCons (eA dMin2 (aCons (eA dLen (aCons (eVar 0) aNil)) (aCons (eA dLen (aCons (eVar 1) aNil)) aNil))) aNil) [some (.tup R1, false), some (.tup R2, false), none] w = some ((List.range m).map iN, w) := by
    have hr : ∀ w : Option Wd, rngK ([(.int (m : Int), .fz)], w) = some (rangeD 0 (m : Int), w) := fun w => rngK_1 (by omega)
    by_cases h : R2.length < R1.length
    · have e : R2.length = m := by omega
      have hI : ((R2.length : Int) < (R1.length : Int)) = True := eq_true (by omega)
      rw [← rng0]
      rw [← e] at hr ⊢
      simp -implicitDefEqProofs [h, hr, hI]
    · have e : R1.length = m := by omega
      have hI : ((R2.length : Int) < (R1.length : Int)) = False := eq_false (by omega)
      rw [← rng0]
      rw [← e] at hr ⊢
      simp -implicitDefEqProofs [h, hr, hI]
  obtain ⟨o', hf⟩ := find_loop (set := setN 2) (sa := (sIf (tVal (eOp dNe (eOp dIx (eVar 0) (eVar 2)) (eOp dIx (eVar 1) (eVar 2)))) (sRet (eVar 2)) (sNil))) (E := fun o => [some (.tup R1, false), some (.tup R2, false), o]) (w := w) (unl R1 R2) iN (List.range m) (fun _ _ _ => rfl) (fun k hk => by
    have hk := List.mem_range.mp hk
    obtain ⟨a, b, g1, g2, g3⟩ := ne_at hN hG h1 h2 (k := k) (by omega) (by omega)
    cases hu : unl R1 R2 k with
    | true =>
      rw [hu] at g3
      try simp -implicitDefEqProofs at g3
      simp -implicitDefEqProofs [g1, g2, g3]
    | false =>
      rw [hu] at g3
      try simp -implicitDefEqProofs at g3
      simp -implicitDefEqProofs [g1, g2, g3]) none
  have hb : b_first_parting = sSeq (sFor (setN 2) (iRange (aCons (eA dMin2 (aCons (eA dLen (aCons (eVar 0) aNil)) (aCons (eA dLen (aCons (eVar 1) aNil)) aNil))) aNil)) (sIf (tVal (eOp dNe (eOp dIx (eVar 0) (eVar 2)) (eOp dIx (eVar 1) (eVar 2)))) (sRet (eVar 2)) (sNil))) (sRet (eC .non)) := rfl
  rw [hst, hb, sSeq_q, sFor_q, hi, bnd_some, forK_q, hf, bnd_some, hm]
  cases (List.range m).find? (unl R1 R2) <;> rfl
/-- the law's list of turns -/
theorem lc_range {set : ESet} {t : ET} {env : En} {fe : EF} (p : Nat → Bool) (m : Nat) (h : ∀ j, j < m → ∃ e1, set (iN j) env = some e1 ∧ t e1 w = some (p j, w) ∧ fe e1 w = some ((iN j, .fz), w)) : lcL set t fe (rangeD 0 (m : Int)) env w = some (((List.range m).filter p).map iN, w) := by
  rw [rng0]
  exact lcL_gen iN p iN (List.range m) fun j hj => by
    obtain ⟨e1, h1, h2, h3⟩ := h j (List.mem_range.mp hj)
    exact ⟨e1, h1, h2, fun _ => by rw [eFz_q, h3]; rfl⟩
theorem fine_ns (S : List Nat) : fine 64 (.lst (S.map iN)) = true := by
  rw [fine_lst]
  intro d hd
  obtain ⟨i, _, rfl⟩ := List.mem_map.mp hd
  exact fine_int
theorem first_of (p : Nat → Bool) (l : List Nat) : (l.filter p = [] ∧ l.find? p = none) ∨ (∃ k r, l.filter p = k :: r ∧ l.find? p = some k) := by
  have : (l.filter p).head? = l.find? p := List.head?_filter
  cases h : l.filter p with
  | nil => exact .inl ⟨rfl, by rw [← this, h]; rfl⟩
  | cons k r => exact .inr ⟨k, r, rfl, by rw [← this, h]; rfl⟩
/-- when the k-th number was told -/
def toldN : D → Nat
  | .tup [_, _, .tup t, _] => t.length
  | _ => 0
def whenN (R : List D) (k : Nat) : Option Nat := (List.range R.length).find? fun j => decide (k < toldN (R.getD j .non))
theorem when_ok (h1 : RunOk fs R1) (k : Nat) : f_when_told [.tup R1, iN k] w = some ((oN (whenN R1 k), .fz), w) := by
  have l1 := h1.2.1
  have hlen : (rangeD 0 (R1.length : Int)).length ≤ lim := le_lim (by rw [range_len]; omega)
  have hlc := fun (w : Option Wd) (o : O) => lc_range (w := w) (set := setN 3) (t := (tVal (eOp dGt (eA dLen (aCons (eOp dIx (eOp dIx (eVar 0) (eVar 3)) (eC (.int 2))) aNil)) (eVar 1)))) (env := [some (.tup R1, false), some (iN k, false), o, none]) (fe := eVar 3) (fun j => decide (k < toldN (R1.getD j .non))) R1.length fun j hj => by
    refine ⟨[some (.tup R1, false), some (iN k, false), o, some (iN j, false)], rfl, ?_, rfl⟩
    have ha : atI R1 (j : Int) = some R1[j] := by rw [atI_n]; simp [hj]
    obtain ⟨n, _, l, c, t, a, e, _⟩ := h1.2.2 _ (List.getElem_mem hj)
    have e2 : R1.getD j .non = R1[j] := by simp [hj]
    rw [e2, e]
    rw [e] at ha
    have e3 : toldN (.tup [.tup (l.map encF), c, .tup (t.map D.int), iN a]) = (t.map D.int).length := rfl
    rw [e3]
    generalize t.map D.int = X at *
    generalize l.map encF = Y at *
    simp -implicitDefEqProofs [ha]
  have hr : ∀ w : Option Wd, rngK ([(.int (R1.length : Int), .fz)], w) = some (rangeD 0 (R1.length : Int), w) := fun w => rngK_1 (by omega)
  have hst : f_when_told [.tup R1, iN k] w = bnd (b_when_told [some (.tup R1, false), some (iN k, false), none, none] w) endP := runFn_q rfl
  rw [hst]
  unfold b_when_told whenN
  rcases first_of (fun j => decide (k < toldN (R1.getD j .non))) (List.range R1.length) with ⟨g1, g2⟩ | ⟨k', r, g1, g2⟩
  · rw [g2]
    rw [g1] at hlc
    have hne := dNe_lnil (fine_ns [])
    simp only [List.map_nil] at hlc hne
    try simp -implicitDefEqProofs at hne
    simp -implicitDefEqProofs [hr, lcK_q hlen, hlc, hne, oN]
  · rw [g2]
    rw [g1] at hlc
    have hne := dNe_lnil (fine_ns (k' :: r))
    simp only [List.map_cons] at hlc hne
    generalize r.map iN = X at *
    try simp -implicitDefEqProofs at hne
    simp -implicitDefEqProofs [hr, lcK_q hlen, hlc, hne, oN]
theorem when_same : f__law_when = f_when_told := rfl
end
end Kk42

set_option Elab.async false
set_option linter.all false
set_option maxRecDepth 100000
set_option maxHeartbeats 1000000
namespace Kk42
open PySem PySem.Spec PyProof.Rows L2 Dl
section
variable {w : Option Wd} {fs gs : List Str} {R1 R2 R : List D}
def toldA (R : List D) : List D := match R.getLast? with
  | some (.tup [_, _, .tup A, _]) => A
  | _ => []
theorem last_told (h : RunOk fs R) : ∃ x y z, atI R (-1) = some (.tup [x, y, .tup (toldA R), z]) ∧ (∀ d ∈ toldA R, fine 1 d = true) ∧ (toldA R).length ≤ 40 := by
  obtain ⟨hne, hl, hs⟩ := h
  obtain ⟨i, s, rfl⟩ : ∃ i s, R = i ++ [s] := ⟨R.dropLast, R.getLast hne, (List.dropLast_concat_getLast hne).symm⟩
  obtain ⟨n, hn, l, c, t, a, e, _, _, _, ht⟩ := hs s (by simp)
  have e2 : toldA (i ++ [s]) = t.map D.int := by unfold toldA; rw [List.getLast?_concat, e]
  refine ⟨.tup (l.map encF), c, iN a, by rw [atI_end, e2, e], fun d hd => ?_, by rw [e2, List.length_map]; omega⟩
  rw [e2] at hd
  obtain ⟨j, _, rfl⟩ := List.mem_map.mp hd
  exact fine_int
/-- two lists unlike at one place -/
def unT (A B : List D) (k : Nat) : Bool := !eqB (.tup (Dl.cutD A (some (k : Int)) (some ((k : Int) + 1)))) (.tup (Dl.cutD B (some (k : Int)) (some ((k : Int) + 1))))
theorem cut_fine {A : List D} (h : ∀ d ∈ A, fine 1 d = true) (lo hi : Option Int) : fine 64 (.tup (Dl.cutD A lo hi)) = true := by
  rw [fine_tup]
  intro d hd
  exact fine_mono 1 63 _ (by omega) (h d (List.mem_of_mem_drop (List.mem_of_mem_take hd)))
theorem unT_ne {A B : List D} (ha : ∀ d ∈ A, fine 1 d = true) (hb : ∀ d ∈ B, fine 1 d = true) (k : Nat) : els2 (dEqF true) (dEqD true) (.tup (Dl.cutD A (some (k : Int)) (some ((k : Int) + 1)))) (.tup (Dl.cutD B (some (k : Int)) (some ((k : Int) + 1)))) = some (.bl (unT A B k), .fz) := dNe_tt (cut_fine ha _ _) (cut_fine hb _ _)
def partT (R1 R2 : List D) : Option Nat := (List.range (max (toldA R1).length (toldA R2).length)).find? (unT (toldA R1) (toldA R2))
def partV (R1 R2 : List D) : D := match partT R1 R2 with
  | some k => .tup [oN (whenN R1 k), oN (whenN R2 k)]
  | none => .non
theorem told_ok (h1 : RunOk fs R1) (h2 : RunOk gs R2) : f_told_parting [.tup R1, .tup R2] w = some ((partV R1 R2, .fz), w) := by
  obtain ⟨x1, y1, z1, a1, ha, la⟩ := last_told h1
  obtain ⟨x2, y2, z2, a2, hb, lb⟩ := last_told h2
  have hw1 := fun (w : Option Wd) (k : Nat) => when_ok (w := w) h1 k
  have hw2 := fun (w : Option Wd) (k : Nat) => when_ok (w := w) h2 k
  have hu := unT_ne ha hb
  have hst : f_told_parting [.tup R1, .tup R2] w = bnd (b_told_parting f_when_told [some (.tup R1, false), some (.tup R2, false), none, none, none] w) endP := runFn_q rfl
  unfold partV partT
  generalize toldA R1 = A at *
  generalize toldA R2 = B at *
  obtain ⟨m, hm⟩ : ∃ m, max A.length B.length = m := ⟨_, rfl⟩
  have h0 : (sPar 2 3 (aCons (eOp dIx (eOp dIx (eVar 0) (eUn dNeg (eC (.int 1)))) (eC (.int 2))) (aCons (eOp dIx (eOp dIx (eVar 1) (eUn dNeg (eC (.int 1)))) (eC (.int 2))) aNil))) [some (.tup R1, false), some (.tup R2, false), none, none, none] w = some (.nx [some (.tup R1, false), some (.tup R2, false), some (.tup A, false), some (.tup B, false), none] w) := by
    simp -implicitDefEqProofs [a1, a2]
  have hi : iRange (aCons (eA dMax2 (aCons (eA dLen (aCons (eVar 2) aNil)) (aCons (eA dLen (aCons (eVar 3) aNil)) aNil))) aNil) [some (.tup R1, false), some (.tup R2, false), some (.tup A, false), some (.tup B, false), none] w = some ((List.range m).map iN, w) := by
    have hr : ∀ w : Option Wd, rngK ([(.int (m : Int), .fz)], w) = some (rangeD 0 (m : Int), w) := fun w => rngK_1 (by omega)
    by_cases h : A.length < B.length
    · have e : B.length = m := by omega
      have hI : ((A.length : Int) < (B.length : Int)) = True := eq_true (by omega)
      rw [← rng0]
      rw [← e] at hr ⊢
      simp -implicitDefEqProofs [h, hr, hI]
    · have e : A.length = m := by omega
      have hI : ((A.length : Int) < (B.length : Int)) = False := eq_false (by omega)
      rw [← rng0]
      rw [← e] at hr ⊢
      simp -implicitDefEqProofs [h, hr, hI]
  obtain ⟨o', hf⟩ := find_loop (set := setN 4) (sa := (sIf (tVal (eOp dNe (eSl dSl (eVar 2) (oSome (eVar 4)) (oSome (eOp dAdd (eVar 4) (eC (.int 1))))) (eSl dSl (eVar 3) (oSome (eVar 4)) (oSome (eOp dAdd (eVar 4) (eC (.int 1))))))) (sRet (eTup (aCons (eFz (eCall f_when_told (aCons (eFz (eVar 0)) (aCons (eFz (eVar 4)) aNil)))) (aCons (eFz (eCall f_when_told (aCons (eFz (eVar 1)) (aCons (eFz (eVar 4)) aNil)))) aNil)))) (sNil))) (E := fun o => [some (.tup R1, false), some (.tup R2, false), some (.tup A, false), some (.tup B, false), o]) (w := w) (unT A B) (fun k => .tup [oN (whenN R1 k), oN (whenN R2 k)]) (List.range m) (fun _ _ _ => rfl) (fun k hk => by
    have g3 := hu k
    have k1 := fun w => hw1 w k
    have k2 := fun w => hw2 w k
    cases hc : unT A B k with
    | true =>
      rw [hc] at g3
      try simp -implicitDefEqProofs at g3
      simp -implicitDefEqProofs [g3, k1, k2]
    | false =>
      rw [hc] at g3
      try simp -implicitDefEqProofs at g3
      simp -implicitDefEqProofs [g3]) none
  have hbd : b_told_parting f_when_told = sSeq (sPar 2 3 (aCons (eOp dIx (eOp dIx (eVar 0) (eUn dNeg (eC (.int 1)))) (eC (.int 2))) (aCons (eOp dIx (eOp dIx (eVar 1) (eUn dNeg (eC (.int 1)))) (eC (.int 2))) aNil))) (sSeq (sFor (setN 4) (iRange (aCons (eA dMax2 (aCons (eA dLen (aCons (eVar 2) aNil)) (aCons (eA dLen (aCons (eVar 3) aNil)) aNil))) aNil)) (sIf (tVal (eOp dNe (eSl dSl (eVar 2) (oSome (eVar 4)) (oSome (eOp dAdd (eVar 4) (eC (.int 1))))) (eSl dSl (eVar 3) (oSome (eVar 4)) (oSome (eOp dAdd (eVar 4) (eC (.int 1))))))) (sRet (eTup (aCons (eFz (eCall f_when_told (aCons (eFz (eVar 0)) (aCons (eFz (eVar 4)) aNil)))) (aCons (eFz (eCall f_when_told (aCons (eFz (eVar 1)) (aCons (eFz (eVar 4)) aNil)))) aNil)))) (sNil))) (sRet (eC .non))) := rfl
  rw [hst, hbd, sSeq_q, h0, bnd_some, nxt_nx, sSeq_q, sFor_q, hi, bnd_some, forK_q, hf, bnd_some, hm]
  cases (List.range m).find? (unT A B) <;> rfl
/-! the spots -/
def alive : D → Bool
  | .tup (.tup l :: _) => !l.isEmpty
  | _ => false
def spot : D → D
  | .tup (.tup l :: _) => match l.getLast? with
    | some (.tup f) => .tup (f.take 2)
    | _ => .non
  | _ => .non
def spotsL (R : List D) : List D := (R.filter alive).map spot
theorem spot_of {l : List D} {f rest : List D} : spot (.tup (.tup (l ++ [.tup f]) :: rest)) = .tup (f.take 2) := by
  show (match (l ++ [D.tup f]).getLast? with
    | some (.tup f) => D.tup (f.take 2)
    | _ => .non) = _
  rw [List.getLast?_concat]
theorem spots_sp (hN : Ns fs) (h : RunOk fs R) : Sp (spotsL R) := by
  refine ⟨?_, fun x hx => ?_⟩
  · unfold spotsL
    rw [List.length_map]
    exact Nat.le_trans (List.length_filter_le _ _) h.2.1
  · obtain ⟨s, hs, rfl⟩ := List.mem_map.mp hx
    obtain ⟨hs, ha⟩ := List.mem_filter.mp hs
    obtain ⟨n, _, l, c, t, a, e, hF, _⟩ := h.2.2 s hs
    subst e
    rcases List.eq_nil_or_concat l with e | ⟨i, f, e⟩
    · subst e; exact absurd ha (by simp [alive])
    · rw [List.concat_eq_append] at e
      subst e
      have ff := fine_fr hN hF f (by simp)
      rw [List.map_append, List.map_singleton]
      have e4 : encF f = .tup [.str f.name, iN f.place, f.vars, f.wants] := rfl
      rw [e4] at ff ⊢
      rw [spot_of]
      refine ⟨_, rfl, ?_⟩
      rw [fine_tup] at ff ⊢
      exact fun d hd => fine_mono 4 63 _ (by omega) (ff d (List.mem_of_mem_take hd))
/-- the test and the element -/
theorem spot_at (hN : Ns fs) (h : RunOk fs R) {s : D} (hs : s ∈ R) : ∃ L rest, s = .tup (.tup L :: rest) ∧ els2 (dEqF true) (dEqD true) (.tup L) (.tup []) = some (.bl (alive s), .fz) ∧ (alive s = true → ∃ f, atI L (-1) = some (.tup f) ∧ Dl.cutD f none (some 2) = f.take 2 ∧ spot s = .tup (f.take 2)) := by
  obtain ⟨n, _, hS⟩ := h.2.2 s hs
  have hf := fine_SOk hN hS
  obtain ⟨l, c, t, a, e, hF, _⟩ := hS
  subst e
  refine ⟨l.map encF, _, rfl, dNe_tnil ?_, fun ha => ?_⟩
  · rw [fine_tup] at hf
    exact fine_mono 61 64 _ (by omega) (hf _ (by simp))
  · rcases List.eq_nil_or_concat l with e | ⟨i, f, e⟩
    · subst e; exact absurd ha (by simp [alive])
    · rw [List.concat_eq_append] at e
      subst e
      rw [List.map_append, List.map_singleton]
      have e4 : encF f = .tup [.str f.name, iN f.place, f.vars, f.wants] := rfl
      rw [e4]
      exact ⟨_, atI_end, cut_take (n := 2), spot_of⟩
theorem spots_ok (hN : Ns fs) (h : RunOk fs R) : f_spots_of [.tup R] w = some ((.lst (spotsL R), .ow), w) := by
  have hlen : R.length ≤ lim := le_lim (by have := h.2.1; omega)
  have hst : f_spots_of [.tup R] w = bnd (b_spots_of [some (.tup R, false), none] w) endP := runFn_q rfl
  have hlc := lcL_genD (set := setN 1) (t := (tVal (eOp dNe (eOp dIx (eVar 1) (eC (.int 0))) (eTup aNil)))) (fe := (eSl dSl (eOp dIx (eOp dIx (eVar 1) (eC (.int 0))) (eUn dNeg (eC (.int 1)))) oNone (oSome (eC (.int 2))))) (env := [some (.tup R, false), none]) (w := w) alive spot R fun s hs => by
    obtain ⟨L, rest, e, h1, h2⟩ := spot_at hN h hs
    refine ⟨[some (.tup R, false), some (s, false)], rfl, ?_, fun ha => ?_⟩
    · cases hb : alive s with
      | true =>
        rw [hb] at h1
        subst e
        try simp -implicitDefEqProofs at h1
        simp -implicitDefEqProofs [h1]
      | false =>
        rw [hb] at h1
        subst e
        try simp -implicitDefEqProofs at h1
        simp -implicitDefEqProofs [h1]
    · obtain ⟨f, g1, g2, g3⟩ := h2 ha
      rw [g3]
      generalize f.take 2 = F at *
      clear h1 h2 ha g3
      subst e
      simp -implicitDefEqProofs [g1, g2]
  rw [hst]
  unfold b_spots_of
  have e : (R.filter alive).map spot = spotsL R := rfl
  rw [e] at hlc
  generalize spotsL R = X at *
  simp -implicitDefEqProofs [lcK_q hlen, hlc]
def bForS : Dl.SB := (sFor (setN 5) (iRange (aCons (eA dLen (aCons (eVar 2) aNil)) (aCons (eUn dNeg (eC (.int 1))) (aCons (eUn dNeg (eC (.int 1))) aNil)))) (sFor (setN 6) (iRange (aCons (eA dLen (aCons (eVar 3) aNil)) (aCons (eUn dNeg (eC (.int 1))) (aCons (eUn dNeg (eC (.int 1))) aNil)))) (sIf ((tOrr (tVal (eOp dEq (eVar 5) (eA dLen (aCons (eVar 2) aNil)))) (tVal (eOp dEq (eVar 6) (eA dLen (aCons (eVar 3) aNil)))))) (sPut 4 (eTup (aCons (eFz (eVar 5)) (aCons (eFz (eVar 6)) aNil))) (eC (.int 0))) (sIf (tVal (eOp dEq (eOp dIxG (eVar 2) (eVar 5)) (eOp dIxG (eVar 3) (eVar 6)))) (sPut 4 (eTup (aCons (eFz (eVar 5)) (aCons (eFz (eVar 6)) aNil))) (eOp dAdd (eC (.int 1)) (eOp dIxG (eVar 4) (eTup (aCons (eFz (eOp dAdd (eVar 5) (eC (.int 1)))) (aCons (eFz (eOp dAdd (eVar 6) (eC (.int 1)))) aNil)))))) (sPut 4 (eTup (aCons (eFz (eVar 5)) (aCons (eFz (eVar 6)) aNil))) (eA dMax2 (aCons (eOp dIxG (eVar 4) (eTup (aCons (eFz (eOp dAdd (eVar 5) (eC (.int 1)))) (aCons (eFz (eVar 6)) aNil)))) (aCons (eOp dIxG (eVar 4) (eTup (aCons (eFz (eVar 5)) (aCons (eFz (eOp dAdd (eVar 6) (eC (.int 1)))) aNil)))) aNil))))))))
theorem side_ok (hN : Ns fs) (hG : Ns gs) (h1 : RunOk fs R1) (h2 : RunOk gs R2) : f_side_by_side [.tup R1, .tup R2] w = some ((.tup (due (spotsL R1) (spotsL R2)), .fz), w) := by
  have p1 := fun w => spots_ok (w := w) hN h1
  have p2 := fun w => spots_ok (w := w) hG h2
  have q1 := spots_sp hN h1
  have q2 := spots_sp hG h2
  generalize spotsL R1 = xs at *
  generalize spotsL R2 = ys at *
  have hx1 := q1.1
  obtain ⟨ks, ds, t5, t6, hf, I⟩ := tabS (w := w) (s0 := some (.tup R1, false)) (s1 := some (.tup R2, false)) (s5 := none) (s6 := none) q1 q2
  have hwt := walkTable_ok (w := w) q1 q2 (tb := .dt ks ds) ⟨ks, ds, rfl, I⟩
  have hst : f_side_by_side [.tup R1, .tup R2] w = bnd (b_side_by_side f_walk_table f_spots_of [some (.tup R1, false), some (.tup R2, false), none, none, none, none, none] w) endP := runFn_q rfl
  have hb : b_side_by_side f_walk_table f_spots_of = sSeq (sPar 2 3 (aCons (eCall f_spots_of (aCons (eFz (eVar 0)) aNil)) (aCons (eCall f_spots_of (aCons (eFz (eVar 1)) aNil)) aNil))) (sSeq (sSet 4 (eDt0)) (sSeq bForS (sFrz [2, 3, 4] (sRet (eCall f_walk_table (aCons (eFz (eVar 2)) (aCons (eFz (eVar 3)) (aCons (eFz (eVar 4)) aNil)))))))) := rfl
  have a1 : (sPar 2 3 (aCons (eCall f_spots_of (aCons (eFz (eVar 0)) aNil)) (aCons (eCall f_spots_of (aCons (eFz (eVar 1)) aNil)) aNil))) [some (.tup R1, false), some (.tup R2, false), none, none, none, none, none] w = some (.nx [some (.tup R1, false), some (.tup R2, false), some (.lst xs, true), some (.lst ys, true), none, none, none] w) := by
    simp -implicitDefEqProofs [p1, p2]
  have hr : ∀ w : Option Wd, rngK ([(.int (xs.length : Int), .fz), (.int (-1), .fz), (.int (-1), .fz)], w) = some (downD (xs.length : Int) (-1), w) := fun w => rngK_3 (by omega)
  have hi3 : iRange (aCons (eA dLen (aCons (eVar 2) aNil)) (aCons (eUn dNeg (eC (.int 1))) (aCons (eUn dNeg (eC (.int 1))) aNil))) (SE xs ys [] [] (some (.tup R1, false)) (some (.tup R2, false)) none none) w = some (downD (xs.length : Int) (-1), w) := by
    simp -implicitDefEqProofs [hr]
  have hbf : bForS = sFor (setN 5) (iRange (aCons (eA dLen (aCons (eVar 2) aNil)) (aCons (eUn dNeg (eC (.int 1))) (aCons (eUn dNeg (eC (.int 1))) aNil)))) (sFor (setN 6) (iRange (aCons (eA dLen (aCons (eVar 3) aNil)) (aCons (eUn dNeg (eC (.int 1))) (aCons (eUn dNeg (eC (.int 1))) aNil)))) bInS) := rfl
  rw [hst, hb, sSeq_q, a1, bnd_some, nxt_nx, sSeq_q]
  show bnd (bnd (some (Out.nx (SE xs ys [] [] (some (.tup R1, false)) (some (.tup R2, false)) none none) w)) _) endP = _
  rw [bnd_some, nxt_nx, sSeq_q, hbf, sFor_q, hi3, bnd_some, forK_q, hf, bnd_some, nxt_nx]
  unfold SE
  generalize due xs ys = Q at *
  simp -implicitDefEqProofs [hwt]
end
end Kk42

set_option Elab.async false
set_option linter.all false
set_option maxRecDepth 100000
set_option maxHeartbeats 1000000
namespace Kk42
open PySem PySem.Spec PyProof.Rows L2 Dl
abbrev bT1 : SB := (sFrz [1] (sPar 9 10 (aCons (eCall f__law_program (aCons (eFz (eVar 1)) aNil)) (aCons (eCall f__law_inputs (aCons (eFz (eVar 1)) aNil)) aNil))))
abbrev bT2 : SB := (sUnp (setT [11, 12]) (eOp dIxG (eVar 9) (eC (.str "main"))))
abbrev bT3 : SB := (sFrz [1] (sSet 3 (eCall f__law_next (aCons (eFz (eVar 1)) (aCons (eFz (eA dLen (aCons (eVar 12) aNil))) aNil)))))
abbrev bT4 : SB := (sFrz [1] (sSet 4 (eA dDict (aCons (eOp dAdd (eItm (eVar 9)) (eLst (aCons (eFz (eTup (aCons (eFz (eC (.str "main"))) (aCons (eFz (eTup (aCons (eFz (eVar 11)) (aCons (eFz (eOp dAdd (eOp dAdd (eSl dSl (eVar 12) oNone (oSome (eVar 3))) (eTup (aCons (eFz (eTup (aCons (eFz (eC (.int 9))) (aCons (eFz (eCall f__law_pick (aCons (eFz (eVar 1)) (aCons (eFz (eLst (aCons (eFz (eTup (aCons (eFz (eC (.str "say"))) (aCons (eFz (eC (.int 1))) aNil)))) (aCons (eFz (eTup (aCons (eFz (eC (.str "let"))) (aCons (eFz (eC (.str "x"))) (aCons (eFz (eC (.int 2))) aNil))))) (aCons (eFz (eTup (aCons (eFz (eC (.str "go"))) (aCons (eFz (eOp dAdd (eVar 3) (eC (.int 1)))) aNil)))) aNil))))) aNil)))) aNil)))) aNil))) (eSl dSl (eVar 12) (oSome (eOp dAdd (eVar 3) (eC (.int 1)))) oNone))) aNil)))) aNil)))) aNil))) aNil))))
abbrev bT5 : SB := (sFrz [1, 9, 10] (sSet 5 (eCall f__law_run (aCons (eFz (eVar 9)) (aCons (eFz (eVar 10)) (aCons (eFz (eOp dAdd (eC (.int 3)) (eCall f__law_next (aCons (eFz (eVar 1)) (aCons (eFz (eC (.int 22))) aNil))))) aNil))))))
abbrev bT6 : SB := (sFrz [1, 4, 9, 10] (sSet 6 (eCall f__law_run (aCons (eFz (eCall f__law_pick (aCons (eFz (eVar 1)) (aCons (eFz (eLst (aCons (eFz (eVar 9)) (aCons (eFz (eVar 4)) aNil)))) aNil)))) (aCons (eFz (eCall f__law_pick (aCons (eFz (eVar 1)) (aCons (eFz (eLst (aCons (eFz (eVar 10)) (aCons (eFz (eCall f__law_inputs (aCons (eFz (eVar 1)) aNil))) aNil)))) aNil)))) (aCons (eFz (eOp dAdd (eC (.int 3)) (eCall f__law_next (aCons (eFz (eVar 1)) (aCons (eFz (eC (.int 22))) aNil))))) aNil))))))
abbrev bT7 : SB := (sFrz [8] (sSet 7 (eLC [8] (setN 8) (iRange (aCons (eA dMin2 (aCons (eA dLen (aCons (eVar 5) aNil)) (aCons (eA dLen (aCons (eVar 6) aNil)) aNil))) aNil)) (tVal (eOp dNe (eOp dIxG (eVar 5) (eVar 8)) (eOp dIxG (eVar 6) (eVar 8)))) (eVar 8))))
abbrev bT8 : SB := (sFrz [5, 6] (sIf (tNo (tTru (eCall (f__law_alike 40) (aCons (eFz (eCall f_first_parting (aCons (eFz (eVar 5)) (aCons (eFz (eVar 6)) aNil)))) (aCons (eFz (eIf (tVal (eOp dNe (eVar 7) (eLst aNil))) (eOp dIxG (eVar 7) (eC (.int 0))) (eC .non))) aNil))))) (sRet (eC (.bl false))) (sNil)))
abbrev bT9 : SB := (sUnp (setT [13, 14]) (eTup (aCons (eFz (eOp dIxG (eOp dIxG (eVar 5) (eUn dNeg (eC (.int 1)))) (eC (.int 2)))) (aCons (eFz (eOp dIxG (eOp dIxG (eVar 6) (eUn dNeg (eC (.int 1)))) (eC (.int 2)))) aNil))))
abbrev bT10 : SB := (sFrz [8] (sSet 7 (eLC [8] (setN 8) (iRange (aCons (eA dMax2 (aCons (eA dLen (aCons (eVar 13) aNil)) (aCons (eA dLen (aCons (eVar 14) aNil)) aNil))) aNil)) (tVal (eOp dNe (eSl dSl (eVar 13) (oSome (eVar 8)) (oSome (eOp dAdd (eVar 8) (eC (.int 1))))) (eSl dSl (eVar 14) (oSome (eVar 8)) (oSome (eOp dAdd (eVar 8) (eC (.int 1))))))) (eVar 8))))
abbrev bT11 : SB := (sFrz [5, 6] (sIf (tNo (tTru (eCall (f__law_alike 40) (aCons (eFz (eCall f_told_parting (aCons (eFz (eVar 5)) (aCons (eFz (eVar 6)) aNil)))) (aCons (eFz (eIf (tVal (eOp dNe (eVar 7) (eLst aNil))) (eTup (aCons (eFz (eCall f__law_when (aCons (eFz (eVar 5)) (aCons (eFz (eOp dIxG (eVar 7) (eC (.int 0)))) aNil)))) (aCons (eFz (eCall f__law_when (aCons (eFz (eVar 6)) (aCons (eFz (eOp dIxG (eVar 7) (eC (.int 0)))) aNil)))) aNil))) (eC .non))) aNil))))) (sRet (eC (.bl false))) (sNil)))
abbrev bT12 : SB := (sFrz [1] (sSet 8 (eCall f__law_next (aCons (eFz (eVar 1)) (aCons (eFz (eC (.int 4))) aNil)))))
abbrev bT13 : SB := (sFrz [5, 8] (sIf (tNo (tTru (eCall (f__law_alike 40) (aCons (eFz (eCall f_when_told (aCons (eFz (eVar 5)) (aCons (eFz (eVar 8)) aNil)))) (aCons (eFz (eCall f__law_when (aCons (eFz (eVar 5)) (aCons (eFz (eVar 8)) aNil)))) aNil))))) (sRet (eC (.bl false))) (sNil)))
abbrev bT14 : SB := (sPar 15 16 (aCons (eLC [21] (setN 21) (iSeq (eVar 5)) (tVal (eOp dNe (eOp dIxG (eVar 21) (eC (.int 0))) (eTup aNil))) (eSl dSl (eOp dIxG (eOp dIxG (eVar 21) (eC (.int 0))) (eUn dNeg (eC (.int 1)))) oNone (oSome (eC (.int 2))))) (aCons (eLC [21] (setN 21) (iSeq (eVar 6)) (tVal (eOp dNe (eOp dIxG (eVar 21) (eC (.int 0))) (eTup aNil))) (eSl dSl (eOp dIxG (eOp dIxG (eVar 21) (eC (.int 0))) (eUn dNeg (eC (.int 1)))) oNone (oSome (eC (.int 2))))) aNil)))
abbrev bT15 : SB := (sFrz [15, 16] (sUnpO [17, 18, 19, 20] (aCons (eCall f__law_most (aCons (eFz (eVar 15)) (aCons (eFz (eVar 16)) aNil))) (aCons (eC (.int 0)) (aCons (eC (.int 0)) (aCons (eLst aNil) aNil))))))
abbrev bT16 : SB := (sWhile ((tAn (tVal (eOp dLt (eVar 18) (eA dLen (aCons (eVar 15) aNil)))) (tVal (eOp dLt (eVar 19) (eA dLen (aCons (eVar 16) aNil)))))) (sIf (tVal (eOp dEq (eOp dIxG (eVar 15) (eVar 18)) (eOp dIxG (eVar 16) (eVar 19)))) (sFrz [18, 19] (sUnpO [18, 19, 20] (aCons (eOp dAdd (eVar 18) (eC (.int 1))) (aCons (eOp dAdd (eVar 19) (eC (.int 1))) (aCons (eOp dAdd (eVar 20) (eLst (aCons (eFz (eTup (aCons (eFz (eVar 18)) (aCons (eFz (eVar 19)) aNil)))) aNil))) aNil))))) (sFrz [18, 19] (sIf (tVal (eOp dGe (eOp dIxG (eVar 17) (eTup (aCons (eFz (eOp dAdd (eVar 18) (eC (.int 1)))) (aCons (eFz (eVar 19)) aNil)))) (eOp dIxG (eVar 17) (eTup (aCons (eFz (eVar 18)) (aCons (eFz (eOp dAdd (eVar 19) (eC (.int 1)))) aNil)))))) (sAug 18 dAddI (eC (.int 1))) (sAug 19 dAddI (eC (.int 1)))))) 100000)
abbrev bT17 : SB := (sFrz [5, 6] (sIf ((tOrr (tVal (eOp dNe (eA dLen (aCons (eVar 20) aNil)) (eOp dIxG (eVar 17) (eTup (aCons (eFz (eC (.int 0))) (aCons (eFz (eC (.int 0))) aNil)))))) (tNo (tTru (eCall (f__law_alike 40) (aCons (eFz (eCall f_side_by_side (aCons (eFz (eVar 5)) (aCons (eFz (eVar 6)) aNil)))) (aCons (eFz (eA dTuple (aCons (eVar 20) aNil))) aNil))))))) (sRet (eC (.bl false))) (sNil)))
abbrev bT : SB := (sSeq bT1 (sSeq bT2 (sSeq bT3 (sSeq bT4 (sSeq bT5 (sSeq bT6 (sSeq bT7 (sSeq bT8 (sSeq bT9 (sSeq bT10 (sSeq bT11 (sSeq bT12 (sSeq bT13 (sSeq bT14 (sSeq bT15 (sSeq bT16 bT17))))))))))))))))
section
variable {s0 s2 s3 s4 s5 s6 s7 s8 s9 s10 s11 s12 s13 s14 s15 s16 s17 s18 s19 s20 s21 : O} {fs : List Str} {c0 : Cd} {pr bent : D} {ins : List Int}
theorem pr_e : f__law_inputs = f__law_inputs := rfl
theorem t1_ok {W : Wd} (hW : OkW W) : ∃ fs c0 pr, ∃ (ins : List Int) (W' : Wd), bT1 [s0, some (.w, false), s2, s3, s4, s5, s6, s7, s8, s9, s10, s11, s12, s13, s14, s15, s16, s17, s18, s19, s20, s21] (some W) = some (.nx [s0, some (.w, false), s2, s3, s4, s5, s6, s7, s8, some (pr, true), some (.tup (ins.map D.int), false), s11, s12, s13, s14, s15, s16, s17, s18, s19, s20, s21] (some W')) ∧ Sh fs c0 pr ∧ OkW W' := by
  obtain ⟨fs, c0, pr, W1, h1, h2, h3⟩ := program_ok hW
  obtain ⟨ins, W2, k1, k2⟩ := inputs_ok h3
  refine ⟨fs, c0, pr, ins, W2, ?_, h2, k2⟩
  unfold bT1
  generalize ins.map D.int = I at *
  simp -implicitDefEqProofs [h1, k1]
theorem t2_ok (h : Sh fs c0 pr) (w : Option Wd) : bT2 [s0, some (.w, false), s2, s3, s4, s5, s6, s7, s8, some (pr, true), s10, s11, s12, s13, s14, s15, s16, s17, s18, s19, s20, s21] w = some (.nx [s0, some (.w, false), s2, s3, s4, s5, s6, s7, s8, some (pr, true), s10, some (.tup [], false), some (.tup (cdD c0), false), s13, s14, s15, s16, s17, s18, s19, s20, s21] w) := by
  obtain ⟨ks, ds, e, hm⟩ := h.main
  have e2 : entry 0 c0 = .tup [.tup [], .tup (cdD c0)] := rfl
  rw [e2] at hm
  subst e
  unfold bT2
  generalize cdD c0 = C at *
  simp -implicitDefEqProofs [hm]
theorem t3_ok (h : Sh fs c0 pr) {W : Wd} (hW : OkW W) : ∃ (at_ : Nat) (W' : Wd), bT3 [s0, some (.w, false), s2, s3, s4, s5, s6, s7, s8, s9, s10, s11, some (.tup (cdD c0), false), s13, s14, s15, s16, s17, s18, s19, s20, s21] (some W) = some (.nx [s0, some (.w, false), s2, some (iN at_, false), s4, s5, s6, s7, s8, s9, s10, s11, some (.tup (cdD c0), false), s13, s14, s15, s16, s17, s18, s19, s20, s21] (some W')) ∧ at_ < c0.length ∧ OkW W' := by
  have hl : (cdD c0).length = c0.length := List.length_map ..
  have hp := h.2.1
  obtain ⟨q, W1, g1, g2, g3, g4⟩ := next_ok hW (m := ((cdD c0).length : Int)) (by omega)
  obtain ⟨at_, rfl⟩ : ∃ n : Nat, q = (n : Int) := ⟨q.toNat, by omega⟩
  refine ⟨at_, W1, ?_, by omega, g4⟩
  unfold bT3
  generalize cdD c0 = C at *
  simp -implicitDefEqProofs [nx_e, g1]
theorem t4_ok (h : Sh fs c0 pr) {at_ : Nat} (hat : at_ < c0.length) {W : Wd} (hW : OkW W) : ∃ (c1 : Cd) (bent : D) (W' : Wd), bT4 [s0, some (.w, false), s2, some (iN at_, false), s4, s5, s6, s7, s8, some (pr, true), s10, some (.tup [], false), some (.tup (cdD c0), false), s13, s14, s15, s16, s17, s18, s19, s20, s21] (some W) = some (.nx [s0, some (.w, false), s2, some (iN at_, false), some (bent, true), s5, s6, s7, s8, some (pr, true), s10, some (.tup [], false), some (.tup (cdD c0), false), s13, s14, s15, s16, s17, s18, s19, s20, s21] (some W')) ∧ Sh fs c1 bent ∧ OkW W' := by
  have hpk : ∃ o W1, fPick [.w, .lst [.tup [.str "say", .int 1], .tup [.str "let", .str "x", .int 2], .tup [.str "go", .int ((at_ : Int) + 1)]]] (some W) = some ((encO o, .fz), some W1) ∧ OOk fs o ∧ OkW W1 := by
    obtain ⟨d, W1, h1, h2, h3⟩ := pick_ok hW (ds := [.tup [.str "say", .int 1], .tup [.str "let", .str "x", .int 2], .tup [.str "go", .int ((at_ : Int) + 1)]]) (by simp)
    simp only [List.mem_cons, List.mem_nil_iff, or_false] at h2
    rcases h2 with h | h | h <;> subst h
    · exact ⟨.sy (.num 1), W1, h1, (show dp (.num 1) ≤ 5 by decide), h3⟩
    · exact ⟨.lt "x" (.num 2), W1, h1, ⟨by simp, (show dp (.num 2) ≤ 5 by decide)⟩, h3⟩
    · exact ⟨.go (at_ + 1), W1, h1, trivial, h3⟩
  obtain ⟨o, W1, g1, g2, g3⟩ := hpk
  have hC := h.1
  have hlC : (cdD c0).length = c0.length := List.length_map ..
  have hc1 : COk fs (c0.take at_ ++ [(9, o)] ++ c0.drop (at_ + 1)) := by
    refine ⟨by have := hC.1; simp; omega, fun p hp => ?_⟩
    rcases List.mem_append.mp hp with hp | hp
    · rcases List.mem_append.mp hp with hp | hp
      · exact hC.2 p (List.mem_of_mem_take hp)
      · rw [List.mem_singleton] at hp; subst hp; exact g2
    · exact hC.2 p (List.mem_of_mem_drop hp)
  have hc2 : 0 < (c0.take at_ ++ [(9, o)] ++ c0.drop (at_ + 1)).length := by simp; omega
  have e1 : cdD (c0.take at_ ++ [(9, o)] ++ c0.drop (at_ + 1)) = (cdD c0).take at_ ++ [.tup [.int 9, encO o]] ++ (cdD c0).drop (at_ + 1) := by unfold cdD; simp
  obtain ⟨ks, ds, pr', e, _, hil, hd, hS⟩ := h.bent hc1 hc2
  refine ⟨_, pr', W1, ?_, hS, g3⟩
  have e2 : entry 0 (c0.take at_ ++ [(9, o)] ++ c0.drop (at_ + 1)) = .tup [.tup [], .tup (cdD (c0.take at_ ++ [(9, o)] ++ c0.drop (at_ + 1)))] := rfl
  rw [e2, e1] at hd
  have hle := hC.1
  have k1 : Dl.cutD (cdD c0) none (some (at_ : Int)) = (cdD c0).take at_ := cut_take
  have k2 : Dl.cutD (cdD c0) (some ((at_ : Int) + 1)) none = (cdD c0).drop (at_ + 1) := cut_drop (n := at_ + 1)
  have k3 : dAdd (.tup ((cdD c0).take at_)) (.tup [.tup [.int 9, encO o]]) = some (.tup ((cdD c0).take at_ ++ [.tup [.int 9, encO o]]), .fz) := dAdd_tt (le_lim (by simp; omega))
  have k4 : dAdd (.tup ((cdD c0).take at_ ++ [.tup [.int 9, encO o]])) (.tup ((cdD c0).drop (at_ + 1))) = some (.tup ((cdD c0).take at_ ++ [.tup [.int 9, encO o]] ++ (cdD c0).drop (at_ + 1)), .fz) := dAdd_tt (le_lim (by simp; omega))
  generalize hF : (cdD c0).take at_ ++ [.tup [.int 9, encO o]] ++ (cdD c0).drop (at_ + 1) = F at *
  generalize hE : (cdD c0).take at_ ++ [.tup [.int 9, encO o]] = E at *
  have k5 : dAdd (.lst (itemsD ks ds)) (.lst [.tup [.str "main", .tup [.tup [], .tup F]]]) = some (.lst (itemsD ks ds ++ [.tup [.str "main", .tup [.tup [], .tup F]]]), .ow) := dAdd_ll (le_lim (by simp; omega))
  generalize (itemsD ks ds ++ [.tup [.str "main", .tup [.tup [], .tup F]]]) = Z at *
  subst e
  clear hS hc1 hc2 e1 e2 hF hE hil h hC
  generalize (cdD c0).take at_ = A at *
  generalize (cdD c0).drop (at_ + 1) = B at *
  generalize cdD c0 = C at *
  generalize encO o = oo at *
  unfold bT4
  try simp -implicitDefEqProofs at k3 k4 k5
  simp -implicitDefEqProofs [pk_e, g1, k1, k2, k3, k4, k5, hd]
theorem t5_ok (h : Sh fs c0 pr) {W : Wd} (hW : OkW W) : ∃ (R1 : List D) (W' : Wd), bT5 [s0, some (.w, false), s2, s3, s4, s5, s6, s7, s8, some (pr, true), some (.tup (ins.map D.int), false), s11, s12, s13, s14, s15, s16, s17, s18, s19, s20, s21] (some W) = some (.nx [s0, some (.w, false), s2, s3, s4, some (.tup R1, false), s6, s7, s8, some (pr, false), some (.tup (ins.map D.int), false), s11, s12, s13, s14, s15, s16, s17, s18, s19, s20, s21] (some W')) ∧ RunOk fs R1 ∧ OkW W' := by
  obtain ⟨q, W1, g1, g2, g3, g4⟩ := next_ok hW (m := 22) (by decide)
  obtain ⟨m, hm⟩ : ∃ m : Nat, 3 + q = (m : Int) := ⟨(3 + q).toNat, by omega⟩
  obtain ⟨R, h1, h2⟩ := run_ok h.pr h.ns (ins := ins) (most := m) (by omega) (some W1)
  refine ⟨R, W1, ?_, h2, g4⟩
  unfold iN at h1
  rw [← hm] at h1
  unfold bT5
  generalize ins.map D.int = I at *
  simp -implicitDefEqProofs [nx_e, g1, h1]
theorem t6_ok {c1 : Cd} (h : Sh fs c0 pr) (hb : Sh fs c1 bent) {W : Wd} (hW : OkW W) : ∃ (R2 : List D) (W' : Wd), bT6 [s0, some (.w, false), s2, s3, some (bent, true), s5, s6, s7, s8, some (pr, false), some (.tup (ins.map D.int), false), s11, s12, s13, s14, s15, s16, s17, s18, s19, s20, s21] (some W) = some (.nx [s0, some (.w, false), s2, s3, some (bent, false), s5, some (.tup R2, false), s7, s8, some (pr, false), some (.tup (ins.map D.int), false), s11, s12, s13, s14, s15, s16, s17, s18, s19, s20, s21] (some W')) ∧ RunOk fs R2 ∧ OkW W' := by
  obtain ⟨p, W0, p1, p2, p3⟩ := pick_ok hW (ds := [pr, bent]) (by simp)
  have hp : ∃ c, Sh fs c p := by
    simp only [List.mem_cons, List.mem_nil_iff, or_false] at p2
    rcases p2 with e | e <;> subst e
    · exact ⟨_, h⟩
    · exact ⟨_, hb⟩
  obtain ⟨c, hp⟩ := hp
  obtain ⟨ins2, Wa, a1, a2⟩ := inputs_ok p3
  obtain ⟨i, Wb, b1, b2, b3⟩ := pick_ok a2 (ds := [.tup (ins.map D.int), .tup (ins2.map D.int)]) (by simp)
  have hi : ∃ is : List Int, i = .tup (is.map D.int) := by
    simp only [List.mem_cons, List.mem_nil_iff, or_false] at b2
    rcases b2 with e | e <;> subst e <;> exact ⟨_, rfl⟩
  obtain ⟨is, rfl⟩ := hi
  obtain ⟨q, W1, g1, g2, g3, g4⟩ := next_ok b3 (m := 22) (by decide)
  obtain ⟨m, hm⟩ : ∃ m : Nat, 3 + q = (m : Int) := ⟨(3 + q).toNat, by omega⟩
  obtain ⟨R, h1, h2⟩ := run_ok hp.pr hp.ns (ins := is) (most := m) (by omega) (some W1)
  refine ⟨R, W1, ?_, h2, g4⟩
  unfold iN at h1
  rw [← hm] at h1
  unfold bT6
  clear b2
  generalize ins.map D.int = I at *
  generalize ins2.map D.int = J at *
  generalize is.map D.int = K at *
  simp -implicitDefEqProofs [pk_e, nx_e, p1, a1, b1, g1, h1]
end
end Kk42

set_option Elab.async false
set_option linter.all false
set_option maxRecDepth 100000
set_option maxHeartbeats 1000000
namespace Kk42
open PySem PySem.Spec PyProof.Rows L2 Dl
/-! alike -/
def al : Nat → D → Prop
  | _, .non => True
  | _, .bl _ => True
  | _, .int _ => True
  | _, .str _ => True
  | n + 1, .tup ds => (∀ d ∈ ds, al n d) ∧ ds.length ≤ 900
  | _, _ => False
theorem alike_s (n : Nat) : f__law_alike (n + 1) = runFn 3 2 (b__law_alike (f__law_alike n)) := rfl
theorem lc_alike (n : Nat) (ds : List D) (w : Option Wd) (h : ∀ d ∈ ds, ∀ w, f__law_alike n [d, d] w = some ((.bl true, .fz), w)) (s2 : Option (D × Bool)) : ∀ (m lo : Nat), lo + m = ds.length → lcL (setN 2) (tNo (tTru (eCall (f__law_alike n) (aCons (eFz (eOp dIx (eVar 0) (eVar 2))) (aCons (eFz (eOp dIx (eVar 1) (eVar 2))) aNil))))) (eVar 2) (rangeD lo ds.length) [some (.tup ds, false), some (.tup ds, false), s2] w = some ([], w)
  | 0, lo, hl => by rw [range_none (by omega)]; rfl
  | m + 1, lo, hl => by
    have ih := lc_alike n ds w h s2 m (lo + 1) (by omega)
    have e : ((lo + 1 : Nat) : Int) = (lo : Int) + 1 := by omega
    rw [e] at ih
    have hlo : lo < ds.length := by omega
    have h1 := fun w => h ds[lo] (List.getElem_mem _) w
    rw [range_cons (by omega), lcL_cons]
    simp -implicitDefEqProofs [atI_n, hlo, h1, ih]
theorem alike_ok : ∀ (n : Nat) (d : D), al n d → ∀ k, n < k → ∀ w, f__law_alike k [d, d] w = some ((.bl true, .fz), w) := by
  intro n
  induction n with
  | zero =>
    intro d h k hk w
    obtain ⟨k, rfl⟩ : ∃ m, k = m + 1 := ⟨k - 1, by omega⟩
    cases d <;> first | (simp -implicitDefEqProofs [alike_s, b__law_alike]; done) | exact absurd h (by simp [al])
  | succ n ih =>
    intro d h k hk w
    obtain ⟨k, rfl⟩ : ∃ m, k = m + 1 := ⟨k - 1, by omega⟩
    cases d with
    | tup ds =>
      have h' : (∀ d ∈ ds, al n d) ∧ ds.length ≤ 900 := h
      have hlc := fun s2 w => lc_alike k ds w (fun d hd w => ih d (h'.1 d hd) k (by omega) w) s2 ds.length 0 (by omega)
      simp only [Int.natCast_zero] at hlc
      have hr1 : ∀ w, rngK ([(.int (ds.length : Int), .fz)], w) = some (rangeD 0 ds.length, w) := fun w => rngK_1 (by omega)
      have l1 : (rangeD 0 ds.length).length ≤ lim := le_lim (by rw [range_len]; omega)
      have hq := dEq_self (d := .lst []) rfl
      simp only [dEq] at hq
      rw [alike_s]
      simp -implicitDefEqProofs [b__law_alike, hr1, lcK_q l1, hlc, hq]
    | _ => first | (simp -implicitDefEqProofs [alike_s, b__law_alike]; done) | exact absurd h (by simp [al])
theorem alike_40 (d : D) (h : al 6 d) (w : Option Wd) : f__law_alike 40 [d, d] w = some ((.bl true, .fz), w) := alike_ok 6 d h 40 (by decide) w
theorem al_oN (n : Nat) (o : Option Nat) : al n (oN o) := by cases o <;> cases n <;> trivial
theorem al_part (R1 R2 : List D) : al 6 (partV R1 R2) := by
  unfold partV
  cases partT R1 R2 with
  | none => trivial
  | some k =>
    refine ⟨fun d hd => ?_, by simp⟩
    simp only [List.mem_cons, List.mem_nil_iff, or_false] at hd
    rcases hd with e | e <;> subst e <;> exact al_oN 5 _
theorem al_due {xs ys : List D} (h : (due xs ys).length ≤ 900) : al 6 (.tup (due xs ys)) := ⟨fun d hd => by
  obtain ⟨p, _, rfl⟩ := List.mem_map.mp hd
  refine ⟨fun d hd => ?_, by simp⟩
  simp only [List.mem_cons, List.mem_nil_iff, or_false] at hd
  rcases hd with e | e <;> subst e <;> trivial, h⟩
def Cln (s : O) : Prop := ∀ r, clr1 0 (s :: r) = s :: r
section
variable {s0 s2 s3 s4 s5 s6 s7 s8 s9 s10 s11 s12 s13 s14 s15 s16 s17 s18 s19 s20 s21 : O} {w : Option Wd} {fs : List Str} {R1 R2 : List D}
theorem t7_ok (h8 : Cln s8) (hN : Ns fs) (h1 : RunOk fs R1) (h2 : RunOk fs R2) : bT7 [s0, some (.w, false), s2, s3, s4, some (.tup R1, false), some (.tup R2, false), s7, s8, s9, s10, s11, s12, s13, s14, s15, s16, s17, s18, s19, s20, s21] w = some (.nx [s0, some (.w, false), s2, s3, s4, some (.tup R1, false), some (.tup R2, false), some (.lst (((List.range (min R1.length R2.length)).filter (unl R1 R2)).map iN), true), s8, s9, s10, s11, s12, s13, s14, s15, s16, s17, s18, s19, s20, s21] w) := by
  have l1 := h1.2.1
  have l2 := h2.2.1
  obtain ⟨m, hm⟩ : ∃ m, min R1.length R2.length = m := ⟨_, rfl⟩
  rw [hm]
  have hlen : (rangeD 0 (m : Int)).length ≤ lim := le_lim (by rw [range_len]; omega)
  have hr : ∀ w : Option Wd, rngK ([(.int (m : Int), .fz)], w) = some (rangeD 0 (m : Int), w) := fun w => rngK_1 (by omega)
  have hlc := fun (w : Option Wd) => lc_range (w := w) (set := setN 8) (t := (tVal (eOp dNe (eOp dIxG (eVar 5) (eVar 8)) (eOp dIxG (eVar 6) (eVar 8))))) (env := [s0, some (.w, false), s2, s3, s4, some (.tup R1, false), some (.tup R2, false), s7, none, s9, s10, s11, s12, s13, s14, s15, s16, s17, s18, s19, s20, s21]) (fe := eVar 8) (unl R1 R2) m fun k hk => by
    refine ⟨[s0, some (.w, false), s2, s3, s4, some (.tup R1, false), some (.tup R2, false), s7, some (iN k, false), s9, s10, s11, s12, s13, s14, s15, s16, s17, s18, s19, s20, s21], rfl, ?_, rfl⟩
    obtain ⟨a, b, g1, g2, g3⟩ := ne_at hN hN h1 h2 (k := k) (by omega) (by omega)
    cases hu : unl R1 R2 k with
    | true =>
      rw [hu] at g3
      try simp -implicitDefEqProofs at g3
      simp -implicitDefEqProofs [g1, g2, g3]
    | false =>
      rw [hu] at g3
      try simp -implicitDefEqProofs at g3
      simp -implicitDefEqProofs [g1, g2, g3]
  unfold bT7
  unfold Cln at h8
  generalize ((List.range m).filter (unl R1 R2)).map iN = L at *
  by_cases h : R2.length < R1.length
  · have e : R2.length = m := by omega
    have hI : ((R2.length : Int) < (R1.length : Int)) = True := eq_true (by omega)
    rw [← e] at hr hlc hlen
    simp -implicitDefEqProofs [h8, h, hr, hI, lcK_q hlen, hlc]
  · have e : R1.length = m := by omega
    have hI : ((R2.length : Int) < (R1.length : Int)) = False := eq_false (by omega)
    rw [← e] at hr hlc hlen
    simp -implicitDefEqProofs [h8, h, hr, hI, lcK_q hlen, hlc]
theorem t8_ok (hN : Ns fs) (h1 : RunOk fs R1) (h2 : RunOk fs R2) : bT8 [s0, some (.w, false), s2, s3, s4, some (.tup R1, false), some (.tup R2, false), some (.lst (((List.range (min R1.length R2.length)).filter (unl R1 R2)).map iN), true), s8, s9, s10, s11, s12, s13, s14, s15, s16, s17, s18, s19, s20, s21] w = some (.nx [s0, some (.w, false), s2, s3, s4, some (.tup R1, false), some (.tup R2, false), some (.lst (((List.range (min R1.length R2.length)).filter (unl R1 R2)).map iN), true), s8, s9, s10, s11, s12, s13, s14, s15, s16, s17, s18, s19, s20, s21] w) := by
  have hf := fun (w : Option Wd) => first_ok (w := w) hN hN h1 h2
  rcases first_of (unl R1 R2) (List.range (min R1.length R2.length)) with ⟨g1, g2⟩ | ⟨k', r, g1, g2⟩
  · rw [g2] at hf
    rw [g1]
    have hne := dNe_lnil (fine_ns [])
    have h3 := fun w => alike_40 (oN none) (al_oN 6 _) w
    unfold oN at hf h3
    unfold bT8
    simp only [List.map_nil] at hne ⊢
    try simp -implicitDefEqProofs at hne
    simp -implicitDefEqProofs [hf, hne, h3]
  · rw [g2] at hf
    rw [g1]
    have hne := dNe_lnil (fine_ns (k' :: r))
    have h3 := fun w => alike_40 (oN (some k')) (al_oN 6 _) w
    unfold oN at hf h3
    unfold bT8
    simp only [List.map_cons] at hne ⊢
    generalize r.map iN = X at *
    try simp -implicitDefEqProofs at hne
    simp -implicitDefEqProofs [hf, hne, h3]
theorem t9_ok (h1 : RunOk fs R1) (h2 : RunOk fs R2) : bT9 [s0, some (.w, false), s2, s3, s4, some (.tup R1, false), some (.tup R2, false), s7, s8, s9, s10, s11, s12, s13, s14, s15, s16, s17, s18, s19, s20, s21] w = some (.nx [s0, some (.w, false), s2, s3, s4, some (.tup R1, false), some (.tup R2, false), s7, s8, s9, s10, s11, s12, some (.tup (toldA R1), false), some (.tup (toldA R2), false), s15, s16, s17, s18, s19, s20, s21] w) := by
  obtain ⟨x1, y1, z1, a1, _, _⟩ := last_told h1
  obtain ⟨x2, y2, z2, a2, _, _⟩ := last_told h2
  generalize toldA R1 = A at *
  generalize toldA R2 = B at *
  unfold bT9
  simp -implicitDefEqProofs [a1, a2]
theorem t10_ok (h8 : Cln s8) {A B : List D} (ha : ∀ d ∈ A, fine 1 d = true) (la : A.length ≤ 40) (hb : ∀ d ∈ B, fine 1 d = true) (lb : B.length ≤ 40) : bT10 [s0, some (.w, false), s2, s3, s4, s5, s6, s7, s8, s9, s10, s11, s12, some (.tup A, false), some (.tup B, false), s15, s16, s17, s18, s19, s20, s21] w = some (.nx [s0, some (.w, false), s2, s3, s4, s5, s6, some (.lst (((List.range (max A.length B.length)).filter (unT A B)).map iN), true), s8, s9, s10, s11, s12, some (.tup A, false), some (.tup B, false), s15, s16, s17, s18, s19, s20, s21] w) := by
  obtain ⟨m, hm⟩ : ∃ m, max A.length B.length = m := ⟨_, rfl⟩
  rw [hm]
  have hlen : (rangeD 0 (m : Int)).length ≤ lim := le_lim (by rw [range_len]; omega)
  have hr : ∀ w : Option Wd, rngK ([(.int (m : Int), .fz)], w) = some (rangeD 0 (m : Int), w) := fun w => rngK_1 (by omega)
  have hlc := fun (w : Option Wd) => lc_range (w := w) (set := setN 8) (t := (tVal (eOp dNe (eSl dSl (eVar 13) (oSome (eVar 8)) (oSome (eOp dAdd (eVar 8) (eC (.int 1))))) (eSl dSl (eVar 14) (oSome (eVar 8)) (oSome (eOp dAdd (eVar 8) (eC (.int 1)))))))) (env := [s0, some (.w, false), s2, s3, s4, s5, s6, s7, none, s9, s10, s11, s12, some (.tup A, false), some (.tup B, false), s15, s16, s17, s18, s19, s20, s21]) (fe := eVar 8) (unT A B) m fun k hk => by
    refine ⟨[s0, some (.w, false), s2, s3, s4, s5, s6, s7, some (iN k, false), s9, s10, s11, s12, some (.tup A, false), some (.tup B, false), s15, s16, s17, s18, s19, s20, s21], rfl, ?_, rfl⟩
    have g3 := unT_ne ha hb k
    cases hu : unT A B k with
    | true =>
      rw [hu] at g3
      try simp -implicitDefEqProofs at g3
      simp -implicitDefEqProofs [g3]
    | false =>
      rw [hu] at g3
      try simp -implicitDefEqProofs at g3
      simp -implicitDefEqProofs [g3]
  unfold bT10
  unfold Cln at h8
  generalize ((List.range m).filter (unT A B)).map iN = L at *
  by_cases h : A.length < B.length
  · have e : B.length = m := by omega
    have hI : ((A.length : Int) < (B.length : Int)) = True := eq_true (by omega)
    rw [← e] at hr hlc hlen
    simp -implicitDefEqProofs [h8, h, hr, hI, lcK_q hlen, hlc]
  · have e : A.length = m := by omega
    have hI : ((A.length : Int) < (B.length : Int)) = False := eq_false (by omega)
    rw [← e] at hr hlc hlen
    simp -implicitDefEqProofs [h8, h, hr, hI, lcK_q hlen, hlc]
theorem t11_ok (h1 : RunOk fs R1) (h2 : RunOk fs R2) : bT11 [s0, some (.w, false), s2, s3, s4, some (.tup R1, false), some (.tup R2, false), some (.lst (((List.range (max (toldA R1).length (toldA R2).length)).filter (unT (toldA R1) (toldA R2))).map iN), true), s8, s9, s10, s11, s12, s13, s14, s15, s16, s17, s18, s19, s20, s21] w = some (.nx [s0, some (.w, false), s2, s3, s4, some (.tup R1, false), some (.tup R2, false), some (.lst (((List.range (max (toldA R1).length (toldA R2).length)).filter (unT (toldA R1) (toldA R2))).map iN), true), s8, s9, s10, s11, s12, s13, s14, s15, s16, s17, s18, s19, s20, s21] w) := by
  have hf := fun (w : Option Wd) => told_ok (w := w) h1 h2
  have h3 := fun w => alike_40 _ (al_part R1 R2) w
  have hw1 := fun (w : Option Wd) (k : Nat) => when_ok (w := w) h1 k
  have hw2 := fun (w : Option Wd) (k : Nat) => when_ok (w := w) h2 k
  unfold partV partT at hf h3
  rcases first_of (unT (toldA R1) (toldA R2)) (List.range (max (toldA R1).length (toldA R2).length)) with ⟨g1, g2⟩ | ⟨k', r, g1, g2⟩
  · rw [g2] at hf h3
    rw [g1]
    have hne := dNe_lnil (fine_ns [])
    unfold bT11
    simp only [List.map_nil] at hne hf h3 ⊢
    try simp -implicitDefEqProofs at hne
    simp -implicitDefEqProofs [hf, hne, h3]
  · rw [g2] at hf h3
    rw [g1]
    have hne := dNe_lnil (fine_ns (k' :: r))
    have k1 := fun w => hw1 w k'
    have k2 := fun w => hw2 w k'
    unfold bT11
    rw [when_same]
    simp only [List.map_cons] at hne hf h3 ⊢
    generalize r.map iN = X at *
    generalize oN (whenN R1 k') = v1 at *
    generalize oN (whenN R2 k') = v2 at *
    try simp -implicitDefEqProofs at hne
    simp -implicitDefEqProofs [hf, hne, h3, k1, k2]
theorem t12_ok {W : Wd} (hW : OkW W) : ∃ (k : Nat) (W' : Wd), bT12 [s0, some (.w, false), s2, s3, s4, s5, s6, s7, s8, s9, s10, s11, s12, s13, s14, s15, s16, s17, s18, s19, s20, s21] (some W) = some (.nx [s0, some (.w, false), s2, s3, s4, s5, s6, s7, some (iN k, false), s9, s10, s11, s12, s13, s14, s15, s16, s17, s18, s19, s20, s21] (some W')) ∧ OkW W' := by
  obtain ⟨q, W1, g1, g2, g3, g4⟩ := next_ok hW (m := 4) (by decide)
  obtain ⟨k, rfl⟩ : ∃ n : Nat, q = (n : Int) := ⟨q.toNat, by omega⟩
  refine ⟨k, W1, ?_, g4⟩
  unfold bT12
  simp -implicitDefEqProofs [nx_e, g1]
theorem t13_ok (h1 : RunOk fs R1) {k : Nat} : bT13 [s0, some (.w, false), s2, s3, s4, some (.tup R1, false), s6, s7, some (iN k, false), s9, s10, s11, s12, s13, s14, s15, s16, s17, s18, s19, s20, s21] w = some (.nx [s0, some (.w, false), s2, s3, s4, some (.tup R1, false), s6, s7, some (iN k, false), s9, s10, s11, s12, s13, s14, s15, s16, s17, s18, s19, s20, s21] w) := by
  have k1 := fun (w : Option Wd) => when_ok (w := w) h1 k
  have h3 := fun w => alike_40 (oN (whenN R1 k)) (al_oN 6 _) w
  unfold bT13
  rw [when_same]
  generalize oN (whenN R1 k) = v1 at *
  simp -implicitDefEqProofs [k1, h3]
end
end Kk42

set_option Elab.async false
set_option linter.all false
set_option maxRecDepth 100000
set_option maxHeartbeats 1000000
namespace Kk42
open PySem PySem.Spec PyProof.Rows L2 Dl
section
variable {s0 s2 s3 s4 s5 s6 s7 s8 s9 s10 s11 s12 s13 s14 s15 s16 s17 s18 s19 s20 s21 : O} {w : Option Wd} {fs : List Str} {R1 R2 xs ys : List D}
theorem lc14 (hN : Ns fs) {R : List D} (h : RunOk fs R) : lcL (setN 21) (tVal (eOp dNe (eOp dIxG (eVar 21) (eC (.int 0))) (eTup aNil))) (eSl dSl (eOp dIxG (eOp dIxG (eVar 21) (eC (.int 0))) (eUn dNeg (eC (.int 1)))) oNone (oSome (eC (.int 2)))) R [s0, some (.w, false), s2, s3, s4, some (.tup R1, false), some (.tup R2, false), s7, s8, s9, s10, s11, s12, s13, s14, s15, s16, s17, s18, s19, s20, none] w = some (spotsL R, w) :=
  lcL_genD (set := setN 21) (t := (tVal (eOp dNe (eOp dIxG (eVar 21) (eC (.int 0))) (eTup aNil)))) (fe := (eSl dSl (eOp dIxG (eOp dIxG (eVar 21) (eC (.int 0))) (eUn dNeg (eC (.int 1)))) oNone (oSome (eC (.int 2))))) (env := [s0, some (.w, false), s2, s3, s4, some (.tup R1, false), some (.tup R2, false), s7, s8, s9, s10, s11, s12, s13, s14, s15, s16, s17, s18, s19, s20, none]) (w := w) alive spot R fun s hs => by
    obtain ⟨L, rest, e, h1, h2⟩ := spot_at hN h hs
    refine ⟨[s0, some (.w, false), s2, s3, s4, some (.tup R1, false), some (.tup R2, false), s7, s8, s9, s10, s11, s12, s13, s14, s15, s16, s17, s18, s19, s20, some (s, false)], rfl, ?_, fun ha => ?_⟩
    · cases hb : alive s with
      | true =>
        rw [hb] at h1
        subst e
        try simp -implicitDefEqProofs at h1
        simp -implicitDefEqProofs [h1]
      | false =>
        rw [hb] at h1
        subst e
        try simp -implicitDefEqProofs at h1
        simp -implicitDefEqProofs [h1]
    · obtain ⟨f, g1, g2, g3⟩ := h2 ha
      rw [g3]
      generalize f.take 2 = F at *
      clear h1 h2 ha g3
      subst e
      simp -implicitDefEqProofs [g1, g2]
theorem t14_ok (hN : Ns fs) (h1 : RunOk fs R1) (h2 : RunOk fs R2) : bT14 [s0, some (.w, false), s2, s3, s4, some (.tup R1, false), some (.tup R2, false), s7, s8, s9, s10, s11, s12, s13, s14, s15, s16, s17, s18, s19, s20, s21] w = some (.nx [s0, some (.w, false), s2, s3, s4, some (.tup R1, false), some (.tup R2, false), s7, s8, s9, s10, s11, s12, s13, s14, some (.lst (spotsL R1), true), some (.lst (spotsL R2), true), s17, s18, s19, s20, s21] w) := by
  have l1 : R1.length ≤ lim := le_lim (by have := h1.2.1; omega)
  have l2 : R2.length ≤ lim := le_lim (by have := h2.2.1; omega)
  have c1 := fun (w : Option Wd) => lc14 (w := w) (R1 := R1) (R2 := R2) (s0 := s0) (s2 := s2) (s3 := s3) (s4 := s4) (s7 := s7) (s8 := s8) (s9 := s9) (s10 := s10) (s11 := s11) (s12 := s12) (s13 := s13) (s14 := s14) (s15 := s15) (s16 := s16) (s17 := s17) (s18 := s18) (s19 := s19) (s20 := s20) hN h1
  have c2 := fun (w : Option Wd) => lc14 (w := w) (R1 := R1) (R2 := R2) (s0 := s0) (s2 := s2) (s3 := s3) (s4 := s4) (s7 := s7) (s8 := s8) (s9 := s9) (s10 := s10) (s11 := s11) (s12 := s12) (s13 := s13) (s14 := s14) (s15 := s15) (s16 := s16) (s17 := s17) (s18 := s18) (s19 := s19) (s20 := s20) hN h2
  unfold bT14
  generalize spotsL R1 = X at *
  generalize spotsL R2 = Y at *
  simp -implicitDefEqProofs [lcK_q l1, lcK_q l2, c1, c2]
theorem t15_ok (hx : Sp xs) (hy : Sp ys) : ∃ tb, bT15 [s0, some (.w, false), s2, s3, s4, s5, s6, s7, s8, s9, s10, s11, s12, s13, s14, some (.lst xs, true), some (.lst ys, true), s17, s18, s19, s20, s21] w = some (.nx [s0, some (.w, false), s2, s3, s4, s5, s6, s7, s8, s9, s10, s11, s12, s13, s14, some (.lst xs, false), some (.lst ys, false), some (tb, true), some (iN 0, false), some (iN 0, false), some (.lst [], true), s21] w) ∧ TabOk xs ys tb := by
  obtain ⟨tb, h1, h2⟩ := lawMost_ok (w := w) hx hy
  refine ⟨tb, ?_, h2⟩
  unfold bT15
  simp -implicitDefEqProofs [h1]
def cLw : ET := ((tAn (tVal (eOp dLt (eVar 18) (eA dLen (aCons (eVar 15) aNil)))) (tVal (eOp dLt (eVar 19) (eA dLen (aCons (eVar 16) aNil))))))
def bLw : Dl.SB := (sIf (tVal (eOp dEq (eOp dIxG (eVar 15) (eVar 18)) (eOp dIxG (eVar 16) (eVar 19)))) (sFrz [18, 19] (sUnpO [18, 19, 20] (aCons (eOp dAdd (eVar 18) (eC (.int 1))) (aCons (eOp dAdd (eVar 19) (eC (.int 1))) (aCons (eOp dAdd (eVar 20) (eLst (aCons (eFz (eTup (aCons (eFz (eVar 18)) (aCons (eFz (eVar 19)) aNil)))) aNil))) aNil))))) (sFrz [18, 19] (sIf (tVal (eOp dGe (eOp dIxG (eVar 17) (eTup (aCons (eFz (eOp dAdd (eVar 18) (eC (.int 1)))) (aCons (eFz (eVar 19)) aNil)))) (eOp dIxG (eVar 17) (eTup (aCons (eFz (eVar 18)) (aCons (eFz (eOp dAdd (eVar 19) (eC (.int 1)))) aNil)))))) (sAug 18 dAddI (eC (.int 1))) (sAug 19 dAddI (eC (.int 1))))))
theorem bT16_e : bT16 = sWhile cLw bLw 100000 := rfl
theorem cLw_ok {tb : D} {f : List (Nat × Nat)} {i j : Nat} : cLw [s0, some (.w, false), s2, s3, s4, s5, s6, s7, s8, s9, s10, s11, s12, s13, s14, some (.lst xs, false), some (.lst ys, false), some (tb, true), some (iN i, false), some (iN j, false), some (.lst (f.map fun p => ij p.1 p.2), true), s21] w = some (decide (i < xs.length ∧ j < ys.length), w) := by
  unfold cLw
  generalize (f.map fun p => ij p.1 p.2) = F
  by_cases h1 : i < xs.length
  · by_cases h2 : j < ys.length
    · simp -implicitDefEqProofs [h1, h2]
    · simp -implicitDefEqProofs [h1, h2]
  · simp -implicitDefEqProofs [h1]
theorem bLw_ok (hx : Sp xs) (hy : Sp ys) {tb : D} (ht : TabOk xs ys tb) {f : List (Nat × Nat)} (hf : f.length ≤ 1000) {i j : Nat} (hi : i < xs.length) (hj : j < ys.length) :
    bLw [s0, some (.w, false), s2, s3, s4, s5, s6, s7, s8, s9, s10, s11, s12, s13, s14, some (.lst xs, false), some (.lst ys, false), some (tb, true), some (iN i, false), some (iN j, false), some (.lst (f.map fun p => ij p.1 p.2), true), s21] w = some (.nx (if eqB xs[i] ys[j] = true then [s0, some (.w, false), s2, s3, s4, s5, s6, s7, s8, s9, s10, s11, s12, s13, s14, some (.lst xs, false), some (.lst ys, false), some (tb, true), some (iN (i + 1), false), some (iN (j + 1), false), some (.lst ((f ++ [(i, j)]).map fun p => ij p.1 p.2), true), s21] else if T xs ys i (j + 1) ≤ T xs ys (i + 1) j then [s0, some (.w, false), s2, s3, s4, s5, s6, s7, s8, s9, s10, s11, s12, s13, s14, some (.lst xs, false), some (.lst ys, false), some (tb, true), some (iN (i + 1), false), some (iN j, false), some (.lst (f.map fun p => ij p.1 p.2), true), s21] else [s0, some (.w, false), s2, s3, s4, s5, s6, s7, s8, s9, s10, s11, s12, s13, s14, some (.lst xs, false), some (.lst ys, false), some (tb, true), some (iN i, false), some (iN (j + 1), false), some (.lst (f.map fun p => ij p.1 p.2), true), s21]) w) := by
  obtain ⟨ks, ds, rfl, I⟩ := ht
  have a1 := at_x hi
  have a2 := at_x hj
  have q := sp_eq hx hy hi hj
  have g2 := ixG_ij (I.get (i + 1) j ⟨by omega, by omega⟩)
  have g3 := ixG_ij (I.get i (j + 1) ⟨by omega, by omega⟩)
  have e1 : ((i + 1 : Nat) : Int) = (i : Int) + 1 := by omega
  have e2 : ((j + 1 : Nat) : Int) = (j : Int) + 1 := by omega
  have em : (f ++ [(i, j)]).map (fun p => ij p.1 p.2) = (f.map fun p => ij p.1 p.2) ++ [ij i j] := by rw [List.map_append]; rfl
  have hadd : dAdd (.lst (f.map fun p => ij p.1 p.2)) (.lst [ij i j]) = some (.lst ((f.map fun p => ij p.1 p.2) ++ [ij i j]), .ow) := dAdd_ll (le_lim (by rw [List.length_map]; simp; omega))
  rw [em]
  generalize T xs ys (i + 1) j = t2 at *
  generalize T xs ys i (j + 1) = t3 at *
  generalize xs[i] = x at *
  generalize ys[j] = y at *
  generalize (f.map fun p => ij p.1 p.2) = F at *
  generalize hG : F ++ [ij i j] = G at *
  unfold ij iN at g2 g3 hadd
  rw [e1] at g2
  rw [e2] at g3
  have ag4 : ∀ (F : List D) (a b : Int), sAug 18 dAddI (eC (.int 1)) [s0, some (.w, false), s2, s3, s4, s5, s6, s7, s8, s9, s10, s11, s12, s13, s14, some (.lst xs, false), some (.lst ys, false), some (.dt ks ds, true), some (.int a, false), some (.int b, false), some (.lst F, true), s21] w = some (.nx [s0, some (.w, false), s2, s3, s4, s5, s6, s7, s8, s9, s10, s11, s12, s13, s14, some (.lst xs, false), some (.lst ys, false), some (.dt ks ds, true), some (.int (a + 1), false), some (.int b, false), some (.lst F, true), s21] w) := fun F a b => sAug_q rfl rfl rfl
  have ag5 : ∀ (F : List D) (a b : Int), sAug 19 dAddI (eC (.int 1)) [s0, some (.w, false), s2, s3, s4, s5, s6, s7, s8, s9, s10, s11, s12, s13, s14, some (.lst xs, false), some (.lst ys, false), some (.dt ks ds, true), some (.int a, false), some (.int b, false), some (.lst F, true), s21] w = some (.nx [s0, some (.w, false), s2, s3, s4, s5, s6, s7, s8, s9, s10, s11, s12, s13, s14, some (.lst xs, false), some (.lst ys, false), some (.dt ks ds, true), some (.int a, false), some (.int (b + 1), false), some (.lst F, true), s21] w) := fun F a b => sAug_q rfl rfl rfl
  unfold bLw
  cases hq : eqB x y with
  | true =>
    rw [hq] at q
    rw [if_pos rfl]
    clear hG
    try simp -implicitDefEqProofs at q hadd
    simp -implicitDefEqProofs [a1, a2, q, hadd]
  | false =>
    rw [hq] at q
    rw [if_neg (by simp)]
    by_cases h' : t3 ≤ t2
    · rw [if_pos h']
      have h : (t3 : Int) ≤ t2 := by omega
      try simp -implicitDefEqProofs at q
      simp -implicitDefEqProofs [a1, a2, q, g2, g3, h, h', ag4]
    · rw [if_neg h']
      have h : ¬ (t3 : Int) ≤ t2 := by omega
      try simp -implicitDefEqProofs at q
      simp -implicitDefEqProofs [a1, a2, q, g2, g3, h, h', ag5]
theorem loopLw (hx : Sp xs) (hy : Sp ys) {tb : D} (ht : TabOk xs ys tb) : ∀ (n m : Nat) (f : List (Nat × Nat)) (i j : Nat), i ≤ xs.length → j ≤ ys.length → (xs.length - i) + (ys.length - j) ≤ n → f.length + n ≤ 1000 →
    ∃ i' j', sWhile cLw bLw (m + n + 1) [s0, some (.w, false), s2, s3, s4, s5, s6, s7, s8, s9, s10, s11, s12, s13, s14, some (.lst xs, false), some (.lst ys, false), some (tb, true), some (iN i, false), some (iN j, false), some (.lst (f.map fun p => ij p.1 p.2), true), s21] w = some (.nx [s0, some (.w, false), s2, s3, s4, s5, s6, s7, s8, s9, s10, s11, s12, s13, s14, some (.lst xs, false), some (.lst ys, false), some (tb, true), some (iN i', false), some (iN j', false), some (.lst ((f ++ wlk eqB (xs.drop i) (ys.drop j) i j).map fun p => ij p.1 p.2), true), s21] w)
  | 0, m, f, i, j, hi, hj, hn, hf => by
    have h1 : i = xs.length := by omega
    refine ⟨i, j, ?_⟩
    rw [sWhile_s, cLw_ok, bnd_some, decide_eq_false (by omega), h1, List.drop_length, wlk_nil', List.append_nil]; rfl
  | n + 1, m, f, i, j, hi, hj, hn, hf => by
    rw [sWhile_s, cLw_ok, bnd_some]
    by_cases h : i < xs.length ∧ j < ys.length
    · obtain ⟨h1, h2⟩ := h
      rw [decide_eq_true (⟨h1, h2⟩ : i < xs.length ∧ j < ys.length), whK_t, bLw_ok hx hy ht (by omega) h1 h2, bnd_some, whP_nx, List.drop_eq_getElem_cons h1, List.drop_eq_getElem_cons h2, wlk_cons, ← List.drop_eq_getElem_cons h1, ← List.drop_eq_getElem_cons h2]
      by_cases hq : eqB xs[i] ys[j] = true
      · rw [if_pos hq, if_pos hq]
        obtain ⟨i', j', ih⟩ := loopLw hx hy ht n m (f ++ [(i, j)]) (i + 1) (j + 1) (by omega) (by omega) (by omega) (by simp; omega)
        refine ⟨i', j', ?_⟩
        show sWhile cLw bLw (m + n + 1) _ w = _
        rw [ih, List.append_assoc]; rfl
      · rw [if_neg hq, if_neg hq]
        show ∃ i' j', sWhile cLw bLw (m + n + 1) (if lcs eqB (xs.drop i) (ys.drop (j + 1)) ≤ lcs eqB (xs.drop (i + 1)) (ys.drop j) then _ else _) w = _
        by_cases hc : lcs eqB (xs.drop i) (ys.drop (j + 1)) ≤ lcs eqB (xs.drop (i + 1)) (ys.drop j)
        · rw [if_pos hc, if_pos hc]
          exact loopLw hx hy ht n m f (i + 1) j (by omega) (by omega) (by omega) (by omega)
        · rw [if_neg hc, if_neg hc]
          exact loopLw hx hy ht n m f i (j + 1) (by omega) (by omega) (by omega) (by omega)
    · rw [decide_eq_false h]
      refine ⟨i, j, ?_⟩
      have : wlk eqB (xs.drop i) (ys.drop j) i j = [] := by
        by_cases h1 : i < xs.length
        · have h2 : j = ys.length := by omega
          rw [h2, List.drop_length, wlk_nil]
        · have h2 : i = xs.length := by omega
          rw [h2, List.drop_length, wlk_nil']
      rw [this, List.append_nil]; rfl
theorem t16_ok (hx : Sp xs) (hy : Sp ys) {tb : D} (ht : TabOk xs ys tb) : ∃ i' j', bT16 [s0, some (.w, false), s2, s3, s4, s5, s6, s7, s8, s9, s10, s11, s12, s13, s14, some (.lst xs, false), some (.lst ys, false), some (tb, true), some (iN 0, false), some (iN 0, false), some (.lst [], true), s21] w = some (.nx [s0, some (.w, false), s2, s3, s4, s5, s6, s7, s8, s9, s10, s11, s12, s13, s14, some (.lst xs, false), some (.lst ys, false), some (tb, true), some (iN i', false), some (iN j', false), some (.lst (due xs ys), true), s21] w) := by
  have hx1 := hx.1
  have hy1 := hy.1
  obtain ⟨i', j', h1⟩ := loopLw (w := w) (s0 := s0) (s2 := s2) (s3 := s3) (s4 := s4) (s5 := s5) (s6 := s6) (s7 := s7) (s8 := s8) (s9 := s9) (s10 := s10) (s11 := s11) (s12 := s12) (s13 := s13) (s14 := s14) (s21 := s21) hx hy ht 60 (100000 - 61) [] 0 0 (by omega) (by omega) (by omega) (by simp)
  rw [show 100000 - 61 + 60 + 1 = 100000 from rfl, List.nil_append] at h1
  exact ⟨i', j', by rw [bT16_e]; exact h1⟩
theorem t17_ok (hN : Ns fs) (h1 : RunOk fs R1) (h2 : RunOk fs R2) {tb : D} (ht : TabOk (spotsL R1) (spotsL R2) tb) : bT17 [s0, some (.w, false), s2, s3, s4, some (.tup R1, false), some (.tup R2, false), s7, s8, s9, s10, s11, s12, s13, s14, s15, s16, some (tb, true), s18, s19, some (.lst (due (spotsL R1) (spotsL R2)), true), s21] w = some (.nx [s0, some (.w, false), s2, s3, s4, some (.tup R1, false), some (.tup R2, false), s7, s8, s9, s10, s11, s12, s13, s14, s15, s16, some (tb, true), s18, s19, some (.lst (due (spotsL R1) (spotsL R2)), true), s21] w) := by
  have q1 := spots_sp hN h1
  have q2 := spots_sp hN h2
  have hs := fun (w : Option Wd) => side_ok (w := w) hN hN h1 h2
  have hl : (due (spotsL R1) (spotsL R2)).length = T (spotsL R1) (spotsL R2) 0 0 := by
    unfold due T
    rw [List.length_map, List.drop_zero, List.drop_zero]
    exact wlk_len eqB _ _ _ 0 0 (Nat.le_refl _)
  have hl2 : (due (spotsL R1) (spotsL R2)).length ≤ 900 := by
    unfold due
    rw [List.length_map]
    have := wlk_le eqB _ (spotsL R1) (spotsL R2) 0 0 (Nat.le_refl _)
    have := q1.1
    have := q2.1
    omega
  have h3 := fun w => alike_40 _ (al_due hl2) w
  obtain ⟨ks, ds, rfl, I⟩ := ht
  have g := ixG_ij (I.get 0 0 ⟨Nat.zero_le _, Nat.zero_le _⟩)
  rw [← hl] at g
  clear hl I q1 q2
  generalize due (spotsL R1) (spotsL R2) = L at *
  unfold ij iN at g
  try simp -implicitDefEqProofs at g
  unfold bT17
  simp -implicitDefEqProofs [g, hs, h3]
end
end Kk42

set_option Elab.async false
set_option linter.all false
set_option maxRecDepth 100000
set_option maxHeartbeats 1000000
namespace Kk42
open PySem PySem.Spec PyProof.Rows L2 Dl
section
variable {s0 s2 s3 s4 s5 s6 s7 s8 s9 s10 s11 s12 s13 s14 s15 s16 s17 s18 s19 s20 s21 : O}
theorem turn_ok {W : Wd} (hW : OkW W) (h8 : Cln s8) : ∃ t3 t4 t5 t6 t7 t8 t9 t10 t11 t12 t13 t14 t15 t16 t17 t18 t19 t20 t21 W', bT [s0, some (.w, false), s2, s3, s4, s5, s6, s7, s8, s9, s10, s11, s12, s13, s14, s15, s16, s17, s18, s19, s20, s21] (some W) = some (.nx [s0, some (.w, false), s2, t3, t4, t5, t6, t7, t8, t9, t10, t11, t12, t13, t14, t15, t16, t17, t18, t19, t20, t21] (some W')) ∧ OkW W' ∧ Cln t8 := by
  obtain ⟨fs, c0, pr, ins, W1, e1, hS, w1⟩ := t1_ok (s0 := s0) (s2 := s2) (s3 := s3) (s4 := s4) (s5 := s5) (s6 := s6) (s7 := s7) (s8 := s8) (s9 := s9) (s10 := s10) (s11 := s11) (s12 := s12) (s13 := s13) (s14 := s14) (s15 := s15) (s16 := s16) (s17 := s17) (s18 := s18) (s19 := s19) (s20 := s20) (s21 := s21) hW
  have e2 := t2_ok (s0 := s0) (s2 := s2) (s3 := s3) (s4 := s4) (s5 := s5) (s6 := s6) (s7 := s7) (s8 := s8) (s10 := some (.tup (ins.map D.int), false)) (s11 := s11) (s12 := s12) (s13 := s13) (s14 := s14) (s15 := s15) (s16 := s16) (s17 := s17) (s18 := s18) (s19 := s19) (s20 := s20) (s21 := s21) hS (some W1)
  obtain ⟨at_, W2, e3, hat, w2⟩ := t3_ok (s0 := s0) (s2 := s2) (s3 := s3) (s4 := s4) (s5 := s5) (s6 := s6) (s7 := s7) (s8 := s8) (s9 := some (pr, true)) (s10 := some (.tup (ins.map D.int), false)) (s11 := some (.tup [], false)) (s13 := s13) (s14 := s14) (s15 := s15) (s16 := s16) (s17 := s17) (s18 := s18) (s19 := s19) (s20 := s20) (s21 := s21) hS w1
  obtain ⟨c1, bent, W3, e4, hB, w3⟩ := t4_ok (s0 := s0) (s2 := s2) (s4 := s4) (s5 := s5) (s6 := s6) (s7 := s7) (s8 := s8) (s10 := some (.tup (ins.map D.int), false)) (s13 := s13) (s14 := s14) (s15 := s15) (s16 := s16) (s17 := s17) (s18 := s18) (s19 := s19) (s20 := s20) (s21 := s21) hS hat w2
  obtain ⟨R1, W4, e5, r1, w4⟩ := t5_ok (s0 := s0) (s2 := s2) (s3 := some (iN at_, false)) (s4 := some (bent, true)) (s5 := s5) (s6 := s6) (s7 := s7) (s8 := s8) (s11 := some (.tup [], false)) (s12 := some (.tup (cdD c0), false)) (s13 := s13) (s14 := s14) (s15 := s15) (s16 := s16) (s17 := s17) (s18 := s18) (s19 := s19) (s20 := s20) (s21 := s21) (ins := ins) hS w3
  obtain ⟨R2, W5, e6, r2, w5⟩ := t6_ok (s0 := s0) (s2 := s2) (s3 := some (iN at_, false)) (s5 := some (.tup R1, false)) (s6 := s6) (s7 := s7) (s8 := s8) (s11 := some (.tup [], false)) (s12 := some (.tup (cdD c0), false)) (s13 := s13) (s14 := s14) (s15 := s15) (s16 := s16) (s17 := s17) (s18 := s18) (s19 := s19) (s20 := s20) (s21 := s21) (ins := ins) hS hB w4
  have hN := hS.ns
  have e7 := t7_ok (s0 := s0) (s2 := s2) (s3 := some (iN at_, false)) (s4 := some (bent, false)) (s7 := s7) (s8 := s8) (s9 := some (pr, false)) (s10 := some (.tup (ins.map D.int), false)) (s11 := some (.tup [], false)) (s12 := some (.tup (cdD c0), false)) (s13 := s13) (s14 := s14) (s15 := s15) (s16 := s16) (s17 := s17) (s18 := s18) (s19 := s19) (s20 := s20) (s21 := s21) (w := some W5) h8 hN r1 r2
  have e8 := t8_ok (s0 := s0) (s2 := s2) (s3 := some (iN at_, false)) (s4 := some (bent, false)) (s8 := s8) (s9 := some (pr, false)) (s10 := some (.tup (ins.map D.int), false)) (s11 := some (.tup [], false)) (s12 := some (.tup (cdD c0), false)) (s13 := s13) (s14 := s14) (s15 := s15) (s16 := s16) (s17 := s17) (s18 := s18) (s19 := s19) (s20 := s20) (s21 := s21) (w := some W5) hN r1 r2
  have e9 := t9_ok (s0 := s0) (s2 := s2) (s3 := some (iN at_, false)) (s4 := some (bent, false)) (s7 := some (.lst (((List.range (min R1.length R2.length)).filter (unl R1 R2)).map iN), true)) (s8 := s8) (s9 := some (pr, false)) (s10 := some (.tup (ins.map D.int), false)) (s11 := some (.tup [], false)) (s12 := some (.tup (cdD c0), false)) (s13 := s13) (s14 := s14) (s15 := s15) (s16 := s16) (s17 := s17) (s18 := s18) (s19 := s19) (s20 := s20) (s21 := s21) (w := some W5) r1 r2
  obtain ⟨_, _, _, _, fa, la⟩ := last_told r1
  obtain ⟨_, _, _, _, fb, lb⟩ := last_told r2
  have e10 := t10_ok (s0 := s0) (s2 := s2) (s3 := some (iN at_, false)) (s4 := some (bent, false)) (s5 := some (.tup R1, false)) (s6 := some (.tup R2, false)) (s7 := some (.lst (((List.range (min R1.length R2.length)).filter (unl R1 R2)).map iN), true)) (s8 := s8) (s9 := some (pr, false)) (s10 := some (.tup (ins.map D.int), false)) (s11 := some (.tup [], false)) (s12 := some (.tup (cdD c0), false)) (s15 := s15) (s16 := s16) (s17 := s17) (s18 := s18) (s19 := s19) (s20 := s20) (s21 := s21) (w := some W5) h8 fa la fb lb
  have e11 := t11_ok (s0 := s0) (s2 := s2) (s3 := some (iN at_, false)) (s4 := some (bent, false)) (s8 := s8) (s9 := some (pr, false)) (s10 := some (.tup (ins.map D.int), false)) (s11 := some (.tup [], false)) (s12 := some (.tup (cdD c0), false)) (s13 := some (.tup (toldA R1), false)) (s14 := some (.tup (toldA R2), false)) (s15 := s15) (s16 := s16) (s17 := s17) (s18 := s18) (s19 := s19) (s20 := s20) (s21 := s21) (w := some W5) r1 r2
  obtain ⟨k, W6, e12, w6⟩ := t12_ok (s0 := s0) (s2 := s2) (s3 := some (iN at_, false)) (s4 := some (bent, false)) (s5 := some (.tup R1, false)) (s6 := some (.tup R2, false)) (s7 := some (.lst (((List.range (max (toldA R1).length (toldA R2).length)).filter (unT (toldA R1) (toldA R2))).map iN), true)) (s8 := s8) (s9 := some (pr, false)) (s10 := some (.tup (ins.map D.int), false)) (s11 := some (.tup [], false)) (s12 := some (.tup (cdD c0), false)) (s13 := some (.tup (toldA R1), false)) (s14 := some (.tup (toldA R2), false)) (s15 := s15) (s16 := s16) (s17 := s17) (s18 := s18) (s19 := s19) (s20 := s20) (s21 := s21) w5
  have e13 := t13_ok (s0 := s0) (s2 := s2) (s3 := some (iN at_, false)) (s4 := some (bent, false)) (s6 := some (.tup R2, false)) (s7 := some (.lst (((List.range (max (toldA R1).length (toldA R2).length)).filter (unT (toldA R1) (toldA R2))).map iN), true)) (s9 := some (pr, false)) (s10 := some (.tup (ins.map D.int), false)) (s11 := some (.tup [], false)) (s12 := some (.tup (cdD c0), false)) (s13 := some (.tup (toldA R1), false)) (s14 := some (.tup (toldA R2), false)) (s15 := s15) (s16 := s16) (s17 := s17) (s18 := s18) (s19 := s19) (s20 := s20) (s21 := s21) (w := some W6) r1 (k := k)
  have e14 := t14_ok (s0 := s0) (s2 := s2) (s3 := some (iN at_, false)) (s4 := some (bent, false)) (s7 := some (.lst (((List.range (max (toldA R1).length (toldA R2).length)).filter (unT (toldA R1) (toldA R2))).map iN), true)) (s8 := some (iN k, false)) (s9 := some (pr, false)) (s10 := some (.tup (ins.map D.int), false)) (s11 := some (.tup [], false)) (s12 := some (.tup (cdD c0), false)) (s13 := some (.tup (toldA R1), false)) (s14 := some (.tup (toldA R2), false)) (s15 := s15) (s16 := s16) (s17 := s17) (s18 := s18) (s19 := s19) (s20 := s20) (s21 := s21) (w := some W6) hN r1 r2
  have hx := spots_sp hN r1
  have hy := spots_sp hN r2
  obtain ⟨tb, e15, ht⟩ := t15_ok (s0 := s0) (s2 := s2) (s3 := some (iN at_, false)) (s4 := some (bent, false)) (s5 := some (.tup R1, false)) (s6 := some (.tup R2, false)) (s7 := some (.lst (((List.range (max (toldA R1).length (toldA R2).length)).filter (unT (toldA R1) (toldA R2))).map iN), true)) (s8 := some (iN k, false)) (s9 := some (pr, false)) (s10 := some (.tup (ins.map D.int), false)) (s11 := some (.tup [], false)) (s12 := some (.tup (cdD c0), false)) (s13 := some (.tup (toldA R1), false)) (s14 := some (.tup (toldA R2), false)) (s17 := s17) (s18 := s18) (s19 := s19) (s20 := s20) (s21 := s21) (w := some W6) hx hy
  obtain ⟨i', j', e16⟩ := t16_ok (s0 := s0) (s2 := s2) (s3 := some (iN at_, false)) (s4 := some (bent, false)) (s5 := some (.tup R1, false)) (s6 := some (.tup R2, false)) (s7 := some (.lst (((List.range (max (toldA R1).length (toldA R2).length)).filter (unT (toldA R1) (toldA R2))).map iN), true)) (s8 := some (iN k, false)) (s9 := some (pr, false)) (s10 := some (.tup (ins.map D.int), false)) (s11 := some (.tup [], false)) (s12 := some (.tup (cdD c0), false)) (s13 := some (.tup (toldA R1), false)) (s14 := some (.tup (toldA R2), false)) (s21 := s21) (w := some W6) hx hy ht
  have e17 := t17_ok (s0 := s0) (s2 := s2) (s3 := some (iN at_, false)) (s4 := some (bent, false)) (s7 := some (.lst (((List.range (max (toldA R1).length (toldA R2).length)).filter (unT (toldA R1) (toldA R2))).map iN), true)) (s8 := some (iN k, false)) (s9 := some (pr, false)) (s10 := some (.tup (ins.map D.int), false)) (s11 := some (.tup [], false)) (s12 := some (.tup (cdD c0), false)) (s13 := some (.tup (toldA R1), false)) (s14 := some (.tup (toldA R2), false)) (s15 := some (.lst (spotsL R1), false)) (s16 := some (.lst (spotsL R2), false)) (s18 := some (iN i', false)) (s19 := some (iN j', false)) (s21 := s21) (w := some W6) hN r1 r2 ht
  refine ⟨some (iN at_, false), some (bent, false), some (.tup R1, false), some (.tup R2, false), some (.lst (((List.range (max (toldA R1).length (toldA R2).length)).filter (unT (toldA R1) (toldA R2))).map iN), true), some (iN k, false), some (pr, false), some (.tup (ins.map D.int), false), some (.tup [], false), some (.tup (cdD c0), false), some (.tup (toldA R1), false), some (.tup (toldA R2), false), some (.lst (spotsL R1), false), some (.lst (spotsL R2), false), some (tb, true), some (iN i', false), some (iN j', false), some (.lst (due (spotsL R1) (spotsL R2)), true), s21, W6, ?_, w6, fun _ => rfl⟩
  unfold bT
  rw [sSeq_q, e1, bnd_some, nxt_nx, sSeq_q, e2, bnd_some, nxt_nx, sSeq_q, e3, bnd_some, nxt_nx, sSeq_q, e4, bnd_some, nxt_nx, sSeq_q, e5, bnd_some, nxt_nx, sSeq_q, e6, bnd_some, nxt_nx, sSeq_q, e7, bnd_some, nxt_nx, sSeq_q, e8, bnd_some, nxt_nx, sSeq_q, e9, bnd_some, nxt_nx, sSeq_q, e10, bnd_some, nxt_nx, sSeq_q, e11, bnd_some, nxt_nx, sSeq_q, e12, bnd_some, nxt_nx, sSeq_q, e13, bnd_some, nxt_nx, sSeq_q, e14, bnd_some, nxt_nx, sSeq_q, e15, bnd_some, nxt_nx, sSeq_q, e16, bnd_some, nxt_nx]
  exact e17
end
theorem math : MathT := by
  intro ns hn
  obtain ⟨ds, hd⟩ := draws_ok ns hn 700 (by decide) none
  refine ⟨ds, hd, ?_⟩
  obtain ⟨e, w', h1, u2, u3, u4, u5, u6, u7, u8, u9, u10, u11, u12, u13, u14, u15, u16, u17, u18, u19, u20, u21, W', h2, h3, h4, h5⟩ := forL_inv (set := setN 2) (sa := bT)
    (fun i e w => ∃ s2 s3 s4 s5 s6 s7 s8 s9 s10 s11 s12 s13 s14 s15 s16 s17 s18 s19 s20 s21 W, e = [some (.scr ns, false), some (.w, false), s2, s3, s4, s5, s6, s7, s8, s9, s10, s11, s12, s13, s14, s15, s16, s17, s18, s19, s20, s21] ∧ w = some W ∧ OkW W ∧ Cln s8) (rangeD 0 5) 0 [some (.scr ns, false), some (.w, false), none, none, none, none, none, none, none, none, none, none, none, none, none, none, none, none, none, none, none, none] (some ⟨ds, 0⟩) ⟨none, none, none, none, none, none, none, none, none, none, none, none, none, none, none, none, none, none, none, none, ⟨ds, 0⟩, rfl, rfl, Int.le_refl 0, fun _ => rfl⟩ fun j d env w hd hp => by
      obtain ⟨s2, s3, s4, s5, s6, s7, s8, s9, s10, s11, s12, s13, s14, s15, s16, s17, s18, s19, s20, s21, W, he, hw, hW, h8⟩ := hp
      subst he hw
      obtain ⟨t3, t4, t5, t6, t7, t8, t9, t10, t11, t12, t13, t14, t15, t16, t17, t18, t19, t20, t21, W', g1, g2, g3⟩ := turn_ok (s0 := some (.scr ns, false)) (s2 := some (d, false)) (s3 := s3) (s4 := s4) (s5 := s5) (s6 := s6) (s7 := s7) (s8 := s8) (s9 := s9) (s10 := s10) (s11 := s11) (s12 := s12) (s13 := s13) (s14 := s14) (s15 := s15) (s16 := s16) (s17 := s17) (s18 := s18) (s19 := s19) (s20 := s20) (s21 := s21) hW h8
      exact ⟨_, _, _, _, rfl, g1, .inl rfl, _, t3, t4, t5, t6, t7, t8, t9, t10, t11, t12, t13, t14, t15, t16, t17, t18, t19, t20, t21, W', rfl, rfl, g2, g3⟩
  subst h2 h3
  have hr5 : ∀ w, rngK ([(.int 5, .fz)], w) = some (rangeD 0 5, w) := fun w => rngK_1 (by decide)
  refine ⟨some W', ?_⟩
  have hb : b_law f_side_by_side (f__law_alike 40) f__law_most f__law_when f_when_told f__law_next f_told_parting f_first_parting f__law_inputs f__law_pick f__law_run f__law_program = sSeq (sFor (setN 2) (iRange (aCons (eC (.int 5)) aNil)) bT) (sRet (eC (.bl true))) := rfl
  rw [hb, sSeq_q, sFor_q]
  have hi : ∀ env w, iRange (aCons (eC (.int 5)) aNil) env w = some (rangeD 0 5, w) := fun env w => by
    simp -implicitDefEqProofs [hr5]
  rw [hi, bnd_some, forK_q]
  show bnd (forL (setN 2) bT (rangeD 0 5) [some (.scr ns, false), some (.w, false), none, none, none, none, none, none, none, none, none, none, none, none, none, none, none, none, none, none, none, none] (some ⟨ds, 0⟩)) _ = _
  rw [h1]
  rfl
end Kk42

set_option Elab.async false
set_option linter.all false
set_option maxRecDepth 100000
set_option maxHeartbeats 4000000
namespace Kk42
open PySem PySem.Spec PyProof.Rows L2 Dl
end Kk42
open PySem PySem.W PyProof.Rows
set_option maxHeartbeats 0 in
theorem PySem.Challenge.cw_stepswatched_k42_runs_side_by_side_holds : PySem.Challenge.rw_stepswatched_k42_runs_side_by_side.Holds := by
  w_on; o_law; k_head; (case hw => w_witness2)
  k_fill
  refine L2.walk_of (l := PySem.Challenge.rw_stepswatched_k42_runs_side_by_side) (n := 63) (k := 45) (x := "script") (CX := fun _ => L2.CX0) (sp := fun w => Dl.spLaw _) rfl (by decide) rfl ⟨rfl, by decide, by decide⟩ (fun w h Y => PySem.W.kIn_of Y) ?F (fun _ _ a ns hl _ hS => ⟨a, ns, rfl, hS, hl, fun _ => rfl⟩) (fun _ _ _ _ _ h => h)
  case F =>
    intro w mg fa h KX G hmg
    refine' Kk42.all_mk Kk42.math KX G hmg ?q0a ?q0b ?q0c ?q0d ?q1a ?q1b ?q1c ?q1d ?q2a ?q2b ?q2c ?q2d ?q3a ?q3b ?q3c ?q3d ?q4a ?q4b ?q4c ?q4d ?q5a ?q5b ?q5c ?q5d ?q6a ?q6b ?q6c ?q6d ?q7a ?q7b ?q7c ?q7d ?q8a ?q8b ?q8c ?q8d ?q9a ?q9b ?q9c ?q9d ?q10a ?q10b ?q10c ?q10d ?q11a ?q11b ?q11c ?q11d ?q12a ?q12b ?q12c ?q12d ?q13a ?q13b ?q13c ?q13d ?q14a ?q14b ?q14c ?q14d ?q15a ?q15b ?q15c ?q15d ?q16a ?q16b ?q16c ?q16d ?q17a ?q17b ?q17c ?q17d ?q18a ?q18b ?q18c ?q18d ?q19a ?q19b ?q19c ?q19d ?q20a ?q20b ?q20c ?q20d ?z0 ?z1 ?z2 ?z3 ?z4 ?z5 ?z6 ?z7 ?z8 ?z9 ?z10 ?z11 ?z12
    (case q0a => k_is); (case q0b => k_is); (case q0c => k_is); (case q0d => k_is); (case q1a => k_is); (case q1b => k_is); (case q1c => k_is); (case q1d => k_is); (case q2a => k_is); (case q2b => k_is); (case q2c => k_is); (case q2d => k_is); (case q3a => k_is); (case q3b => k_is); (case q3c => k_is); (case q3d => k_is); (case q4a => k_is); (case q4b => k_is); (case q4c => k_is); (case q4d => k_is); (case q5a => k_is); (case q5b => k_is); (case q5c => k_is); (case q5d => k_is); (case q6a => k_is); (case q6b => k_is); (case q6c => k_is); (case q6d => k_is); (case q7a => k_is); (case q7b => k_is); (case q7c => k_is); (case q7d => k_is); (case q8a => k_is); (case q8b => k_is); (case q8c => k_is); (case q8d => k_is); (case q9a => k_is); (case q9b => k_is); (case q9c => k_is); (case q9d => k_is); (case q10a => k_is); (case q10b => k_is); (case q10c => k_is); (case q10d => k_is); (case q11a => k_is); (case q11b => k_is); (case q11c => k_is); (case q11d => k_is); (case q12a => k_is); (case q12b => k_is); (case q12c => k_is); (case q12d => k_is); (case q13a => k_is); (case q13b => k_is); (case q13c => k_is); (case q13d => k_is); (case q14a => k_is); (case q14b => k_is); (case q14c => k_is); (case q14d => k_is); (case q15a => k_is); (case q15b => k_is); (case q15c => k_is); (case q15d => k_is); (case q16a => k_is); (case q16b => k_is); (case q16c => k_is); (case q16d => k_is); (case q17a => k_is); (case q17b => k_is); (case q17c => k_is); (case q17d => k_is); (case q18a => k_is); (case q18b => k_is); (case q18c => k_is); (case q18d => k_is); (case q19a => k_is); (case q19b => k_is); (case q19c => k_is); (case q19d => k_is); (case q20a => k_is); (case q20b => k_is); (case q20c => k_is); (case q20d => k_is); (case z0 => k_is); (case z1 => k_is); (case z2 => k_is); (case z3 => k_is); (case z4 => k_is); (case z5 => k_is); (case z6 => k_is); (case z7 => k_is); (case z8 => k_is); (case z9 => k_is); (case z10 => k_is); (case z11 => k_is); (case z12 => k_is)
