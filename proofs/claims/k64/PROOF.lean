import PyProof.Rows.All
import Wide.All
import OpenK.AllK
import Wide.FinOn
import HandS.ForMost
import HandS.Flow
import HandS.IsInst
import HandS.More
import HandS.TupAny
import HandS.EndBits
import KE.KeyNested
import KE.KDictKeyed
import HandS.Style
import KE.KDictPairs
import KE.DataCmp
import KE.SortData
import KE.DatumOrd
import KE.DataMinMax
import HandS.Conv
import PySem.Challenge.RW_stepswatched_k64_whole_asks_that_find_a
set_option Elab.async false
set_option linter.all false
set_option maxRecDepth 100000
set_option maxHeartbeats 4000000
/-! A layer of plain data over the hand layer: values as trees (D), a state of slots (En), judgements Snd.. that say
which function of the slots an expression, a statement, a def is. -/
namespace Dl
open PySem PySem.Spec PyProof.Rows L2
/-- a length that lines can have; not to be reckoned with -/
@[irreducible] def lim : Nat := 1000000
theorem lim_eq : lim = 1000000 := by unfold lim; rfl
theorem lt_lim {n : Nat} (h : n ≤ 900000) : n < lim := by rw [lim_eq]; omega
theorem le_lim {n : Nat} (h : n ≤ 900000) : n ≤ lim := by rw [lim_eq]; omega

/-- what the readings lean on: the standing objects, the world -/
structure KW where
  k : PySem.W.Frag
  w : World
instance : CoeOut KW PySem.W.Frag := ⟨KW.k⟩
abbrev kwOf (X : Cx) : KW := ⟨X.K, X.w⟩

/-- data -/
inductive D where
  | non | bl (b : Bool) | int (i : Int) | str (x : Str)
  | tup (ds : List D) | lst (ds : List D)
  | dk (ks : List Key) (ds : List D)
  | dt (ks : List D) (ds : List D)
  | scr (ns : List Int)
  | ty (n : String)
  | w
mutual
/-- a datum as a key -/
def nkD : D → Option NestedKey
  | .non => some .none
  | .bl b => some (.num (if b = true then 1 else 0))
  | .int i => some (.num i)
  | .str x => some (.text x)
  | .tup ds => (nkDs ds).map .tup
  | _ => none
def nkDs : List D → Option (List NestedKey)
  | [] => some []
  | d :: ds => (nkD d).bind fun k => (nkDs ds).map fun r => k :: r
end
/-- a dict whose keys are tuples: its entries -/
abbrev DEs := List (NestedKey × Addr × Value)
def DtRaw (w : World) (a : Addr) (xs : DEs) (h : Heap) : Prop :=
  ∃ o es ep, h.get? a = some o ∧ o.ExactDict ∧ o.data = .dict es ep ∧ es.toList = xs.map (fun x => (⟨x.1.hash w, .ref x.2.1, x.2.2⟩ : DictEntry)) ∧ (xs.map (·.1)).Nodup ∧ (a == sysModules) = false ∧ xs.length ≤ sizeLine
def DTO (w : World) (a : Addr) (xs : DEs) : HO := .ext (DtRaw w a xs)
def DtOk (ks : List D) (xs : DEs) : Prop := Paired (fun (k : D) (x : NestedKey × Addr × Value) => nkD k = some x.1 ∧ x.1.depth ≤ 8) ks xs
def dtV (xs : DEs) : List V := xs.map fun x => .ref x.2.1
def dtU (xs : DEs) : List Value := xs.map fun x => x.2.2
/-- frozen (never changes again), one's own and new, one's own and held by a slot -/
inductive O3 where
  | fz | ow | bo
  deriving DecidableEq
abbrev DS := D × O3
/-- the law's draws -/
structure Wd where
  draws : List Int
  ix : Int
abbrev En := List (Option (D × Bool))
abbrev EF := En → Option Wd → Option (DS × Option Wd)
abbrev EA := En → Option Wd → Option (List DS × Option Wd)
abbrev ET := En → Option Wd → Option (Bool × Option Wd)
abbrev EI := En → Option Wd → Option (List D × Option Wd)
abbrev Fn := List D → Option Wd → Option (DS × Option Wd)

def KL (K : KW) (a : Addr) (xs : List V) : Prop :=
  ∃ (o : Obj) (its : Array Value) (n : Nat), K.k.lookup a = some o ∧ o.cls = .type "list" ∧ o.dict = none ∧ o.data = .seq its n ∧ its.size ≤ sizeLine ∧ Vals xs its.toList
theorem sqL_iff {K : KW} {H : Hp} {a : Addr} {xs : List V} : SqL K H a xs ↔ (Rd H a (.lst xs) ∨ KL K a xs) := Iff.rfl

/-- how a tuple stands -/
def TupO (u : HO) (vs : List V) : Prop := ∃ o : Obj, o.cls = .type "tuple" ∧ o.dict = none ∧ u = .frz o (.tup vs)
theorem TupO.sq {K : KW} {H : Hp} {a : Addr} {u : HO} {vs : List V} (t : TupO u vs) (h : H a = some u) : SqT K H a vs := by
  obtain ⟨o, _, _, e⟩ := t
  subst e
  exact .inl (.inr ⟨o, h⟩)
mutual
/-- the value v is the data d, all of it frozen -/
def Rep (K : KW) (F : Addr → Prop) (wa : Option Addr) (H : Hp) : D → V → Prop
  | .non, v => v = .non
  | .bl b, v => v = .bl b
  | .int i, v => v = .int i
  | .str x, v => v = .str x
  | .tup ds, v => ∃ a u vs, v = .ref a ∧ F a ∧ H a = some u ∧ TupO u vs ∧ Reps K F wa H ds vs
  | .lst ds, v => ∃ a vs, v = .ref a ∧ F a ∧ H a = some (.lst vs) ∧ Reps K F wa H ds vs
  | .scr ns, v => ∃ a, v = .ref a ∧ ((F a ∧ Rd H a (.lst (ns.map V.int))) ∨ KL K a (ns.map V.int))
  | .ty n, v => v = .ty n
  | .dk ks ds, v => ∃ a vs, v = .ref a ∧ F a ∧ H a = some (.dK (ks.zip vs)) ∧ ks.length = vs.length ∧ Reps K F wa H ds vs
  | .dt ks ds, v => ∃ a xs vs, v = .ref a ∧ F a ∧ H a = some (DTO K.w a xs) ∧ DtOk ks xs ∧ Vals vs (dtU xs) ∧ Reps K F wa H ks (dtV xs) ∧ Reps K F wa H ds vs
  | .w, v => ∃ a, wa = some a ∧ v = .ref a
def Reps (K : KW) (F : Addr → Prop) (wa : Option Addr) (H : Hp) : List D → List V → Prop
  | [], vs => vs = []
  | d :: ds, vs => ∃ v r, vs = v :: r ∧ Rep K F wa H d v ∧ Reps K F wa H ds r
end
section
variable {K : KW} {F F' : Addr → Prop} {wa : Option Addr} {H H' : Hp}
mutual
theorem Rep.mono (hF : ∀ a, F a → F' a) (hH : ∀ a o, F a → H a = some o → H' a = some o) : ∀ (d : D) (v : V), Rep K F wa H d v → Rep K F' wa H' d v
  | .non, v, h => h
  | .bl b, v, h => h
  | .int b, v, h => h
  | .str b, v, h => h
  | .tup ds, v, h => by
    obtain ⟨a, u, vs, h1, h2, h3, ht, h4⟩ := h
    exact ⟨a, u, vs, h1, hF a h2, hH a _ h2 h3, ht, Reps.mono hF hH ds vs h4⟩
  | .lst ds, v, h => by
    obtain ⟨a, vs, h1, h2, h3, h4⟩ := h
    exact ⟨a, vs, h1, hF a h2, hH a _ h2 h3, Reps.mono hF hH ds vs h4⟩
  | .ty n, v, h => h
  | .scr ns, v, h => by
    obtain ⟨a, h1, h2⟩ := h
    refine ⟨a, h1, ?_⟩
    rcases h2 with ⟨h2, h3⟩ | h2
    · refine .inl ⟨hF a h2, ?_⟩
      rcases h3 with h3 | ⟨o, h3⟩
      · exact .inl (hH a _ h2 h3)
      · exact .inr ⟨o, hH a _ h2 h3⟩
    · exact .inr h2
  | .dk ks ds, v, h => by
    obtain ⟨a, vs, h1, h2, h3, h5, h4⟩ := h
    exact ⟨a, vs, h1, hF a h2, hH a _ h2 h3, h5, Reps.mono hF hH ds vs h4⟩
  | .dt ks ds, v, h => by
    obtain ⟨a, xs, vs, h1, h2, h3, h5, h6, h7, h4⟩ := h
    exact ⟨a, xs, vs, h1, hF a h2, hH a _ h2 h3, h5, h6, Reps.mono hF hH ks _ h7, Reps.mono hF hH ds vs h4⟩
  | .w, v, h => h
theorem Reps.mono (hF : ∀ a, F a → F' a) (hH : ∀ a o, F a → H a = some o → H' a = some o) : ∀ (ds : List D) (vs : List V), Reps K F wa H ds vs → Reps K F' wa H' ds vs
  | [], vs, h => h
  | d :: ds, vs, h => by
    obtain ⟨v, r, h1, h2, h3⟩ := h
    exact ⟨v, r, h1, Rep.mono hF hH d v h2, Reps.mono hF hH ds r h3⟩
end
theorem Reps.len : ∀ {ds : List D} {vs : List V}, Reps K F wa H ds vs → ds.length = vs.length
  | [], vs, h => by
    have e : vs = [] := h
    rw [e]; rfl
  | d :: ds, vs, h => by
    obtain ⟨v, r, h1, _, h3⟩ := h
    rw [h1, List.length_cons, List.length_cons, Reps.len h3]
theorem Reps.at : ∀ {ds : List D} {vs : List V} {i : Nat} {d : D}, Reps K F wa H ds vs → ds[i]? = some d → ∃ v, vs[i]? = some v ∧ Rep K F wa H d v
  | [], _, _, _, _, e => by simp at e
  | d' :: ds, vs, 0, d, h, e => by
    obtain ⟨v, r, h1, h2, _⟩ := h
    simp at e; subst e; subst h1
    exact ⟨v, rfl, h2⟩
  | d' :: ds, vs, i + 1, d, h, e => by
    obtain ⟨v, r, h1, _, h3⟩ := h
    subst h1
    obtain ⟨v', e1, e2⟩ := Reps.at (i := i) h3 (by simpa using e)
    exact ⟨v', by simpa using e1, e2⟩
theorem Reps.at' : ∀ {ds : List D} {vs : List V} {i : Nat} {v : V}, Reps K F wa H ds vs → vs[i]? = some v → ∃ d, ds[i]? = some d ∧ Rep K F wa H d v := fun {ds vs i v} h e => by
  have hl := h.len
  have hi : i < vs.length := (List.getElem?_eq_some_iff.mp e).1
  obtain ⟨v', e1, r⟩ := h.at (i := i) (d := ds[i]'(by omega)) (by simp [show i < ds.length by omega])
  rw [e] at e1; cases e1
  exact ⟨_, by simp [show i < ds.length by omega], r⟩
theorem Reps.app : ∀ {ds es : List D} {vs us : List V}, Reps K F wa H ds vs → Reps K F wa H es us → Reps K F wa H (ds ++ es) (vs ++ us)
  | [], _, vs, _, h, g => by
    have e : vs = [] := h
    rw [e]; exact g
  | d :: ds, es, vs, us, h, g => by
    obtain ⟨v, r, h1, h2, h3⟩ := h
    subst h1
    exact ⟨v, r ++ us, rfl, h2, Reps.app h3 g⟩
theorem Reps.one {d : D} {v : V} (h : Rep K F wa H d v) : Reps K F wa H [d] [v] := ⟨v, [], rfl, h, rfl⟩
theorem Reps.take : ∀ {ds : List D} {vs : List V} (n : Nat), Reps K F wa H ds vs → Reps K F wa H (ds.take n) (vs.take n)
  | _, _, 0, _ => rfl
  | [], vs, n + 1, h => by
    have e : vs = [] := h
    rw [e]; rfl
  | d :: ds, vs, n + 1, h => by
    obtain ⟨v, r, h1, h2, h3⟩ := h
    subst h1
    exact ⟨v, r.take n, rfl, h2, Reps.take n h3⟩
theorem Reps.drop : ∀ {ds : List D} {vs : List V} (n : Nat), Reps K F wa H ds vs → Reps K F wa H (ds.drop n) (vs.drop n)
  | _, _, 0, h => h
  | [], vs, n + 1, h => by
    have e : vs = [] := h
    rw [e]; rfl
  | d :: ds, vs, n + 1, h => by
    obtain ⟨v, r, h1, h2, h3⟩ := h
    subst h1
    exact Reps.drop n h3
theorem Reps.ints : ∀ {ns : List Int}, Reps K F wa H (ns.map D.int) (ns.map V.int)
  | [] => rfl
  | n :: ns => ⟨.int n, ns.map V.int, rfl, rfl, Reps.ints⟩
theorem Reps.cons {d : D} {ds : List D} {v : V} {vs : List V} (h : Rep K F wa H d v) (t : Reps K F wa H ds vs) : Reps K F wa H (d :: ds) (v :: vs) := ⟨v, vs, rfl, h, t⟩
end

/-- as it stands now -/
def Cur (K : KW) (F : Addr → Prop) (wa : Option Addr) (H : Hp) : D → V → Prop
  | .lst ds, v => ∃ a vs, v = .ref a ∧ H a = some (.lst vs) ∧ Reps K F wa H ds vs
  | .scr ns, v => ∃ a, v = .ref a ∧ SqL K H a (ns.map V.int)
  | .dk ks ds, v => ∃ a vs, v = .ref a ∧ H a = some (.dK (ks.zip vs)) ∧ ks.length = vs.length ∧ Reps K F wa H ds vs
  | .dt ks ds, v => ∃ a xs vs, v = .ref a ∧ H a = some (DTO K.w a xs) ∧ DtOk ks xs ∧ Vals vs (dtU xs) ∧ Reps K F wa H ks (dtV xs) ∧ Reps K F wa H ds vs
  | d, v => Rep K F wa H d v
/-- the object o at a is the changeable datum d -/
def OwnO (K : KW) (F : Addr → Prop) (wa : Option Addr) (H : Hp) (a : Addr) : D → HO → Prop
  | .lst ds, o => ∃ vs, o = .lst vs ∧ Reps K F wa H ds vs
  | .dk ks ds, o => ∃ vs, o = .dK (ks.zip vs) ∧ ks.length = vs.length ∧ Reps K F wa H ds vs
  | .dt ks ds, o => ∃ xs vs, o = DTO K.w a xs ∧ DtOk ks xs ∧ Vals vs (dtU xs) ∧ Reps K F wa H ks (dtV xs) ∧ Reps K F wa H ds vs
  | _, _ => False
theorem OwnO.mono {K : KW} {F F' : Addr → Prop} {wa : Option Addr} {H H' : Hp} {a : Addr} {d : D} {o : HO} (h : OwnO K F wa H a d o) (hF : ∀ a, F a → F' a) (hH : ∀ a o, F a → H a = some o → H' a = some o) : OwnO K F' wa H' a d o := by
  cases d with
  | lst ds => obtain ⟨vs, e, r⟩ := h; exact ⟨vs, e, Reps.mono hF hH _ _ r⟩
  | dk ks ds => obtain ⟨vs, e, l, r⟩ := h; exact ⟨vs, e, l, Reps.mono hF hH _ _ r⟩
  | dt ks ds => obtain ⟨xs, vs, e, l, l2, r, r2⟩ := h; exact ⟨xs, vs, e, l, l2, Reps.mono hF hH _ _ r, Reps.mono hF hH _ _ r2⟩
  | _ => exact h.elim
theorem OwnO.cur {K : KW} {F : Addr → Prop} {wa : Option Addr} {H : Hp} {a : Addr} {d : D} {o : HO} (h : OwnO K F wa H a d o) (e : H a = some o) : Cur K F wa H d (.ref a) := by
  cases d with
  | lst ds => obtain ⟨vs, q, r⟩ := h; subst q; exact ⟨a, vs, rfl, e, r⟩
  | dk ks ds => obtain ⟨vs, q, l, r⟩ := h; subst q; exact ⟨a, vs, rfl, e, l, r⟩
  | dt ks ds => obtain ⟨xs, vs, q, l, l2, r, r2⟩ := h; subst q; exact ⟨a, xs, vs, rfl, e, l, l2, r, r2⟩
  | _ => exact h.elim
theorem OwnO.rep {K : KW} {F F' : Addr → Prop} {wa : Option Addr} {H : Hp} {a : Addr} {d : D} {o : HO} (h : OwnO K F wa H a d o) (e : H a = some o) (hF : ∀ a, F a → F' a) (ha : F' a) : Rep K F' wa H d (.ref a) := by
  have h := h.mono (H' := H) hF fun _ _ _ z => z
  cases d with
  | lst ds => obtain ⟨vs, q, r⟩ := h; subst q; exact ⟨a, vs, rfl, ha, e, r⟩
  | dk ks ds => obtain ⟨vs, q, l, r⟩ := h; subst q; exact ⟨a, vs, rfl, ha, e, l, r⟩
  | dt ks ds => obtain ⟨xs, vs, q, l, l2, r, r2⟩ := h; subst q; exact ⟨a, xs, vs, rfl, ha, e, l, l2, r, r2⟩
  | _ => exact h.elim
/-- one's own object at a -/
def OwnAt (K : KW) (F : Addr → Prop) (wa : Option Addr) (H : Hp) (d : D) (a : Addr) : Prop := ¬ F a ∧ wa ≠ some a ∧ ∃ o, H a = some o ∧ OwnO K F wa H a d o
theorem OwnAt.mkL {K : KW} {F : Addr → Prop} {wa : Option Addr} {H : Hp} {a : Addr} {ds : List D} {vs : List V} (h1 : ¬ F a) (h2 : wa ≠ some a) (h : H a = some (.lst vs)) (r : Reps K F wa H ds vs) : OwnAt K F wa H (.lst ds) a := ⟨h1, h2, _, h, vs, rfl, r⟩
theorem OwnAt.lst {K : KW} {F : Addr → Prop} {wa : Option Addr} {H : Hp} {a : Addr} {ds : List D} (h : OwnAt K F wa H (.lst ds) a) : ∃ vs, H a = some (.lst vs) ∧ Reps K F wa H ds vs := by
  obtain ⟨_, _, o, e, vs, q, r⟩ := h
  subst q; exact ⟨vs, e, r⟩
def RS (K : KW) (B F : Addr → Prop) (wa : Option Addr) (H0 H : Hp) (d : D) (st : O3) (v : V) : Prop := match st with
  | .fz => Rep K F wa H d v
  | .ow => ∃ a, v = .ref a ∧ OwnAt K F wa H d a ∧ H0 a = none
  | .bo => ∃ a, v = .ref a ∧ OwnAt K F wa H d a ∧ ¬ B a
def kDraws : Key := .inr "draws"
def kAt : Key := .inr "at"
def WOk (F : Addr → Prop) (wa : Option Addr) (H : Hp) (w : Option Wd) : Prop := match wa, w with
  | none, none => True
  | some a, some W => ¬ F a ∧ ∃ da, F da ∧ H a = some (.dK [(kDraws, .ref da), (kAt, .int W.ix)]) ∧ H da = some (.lst (W.draws.map V.int))
  | _, _ => False
structure Aft (K : KW) (wa : Option Addr) (F : Addr → Prop) (H : Hp) (w' : Option Wd) (F' : Addr → Prop) (H' : Hp) : Prop where
  sub : ∀ a, F a → F' a
  new : ∀ a, F' a → F a ∨ H a = none
  keep : ∀ a o, H a = some o → wa ≠ some a → H' a = some o
  kf : ∀ a o, F a → H a = some o → H' a = some o
  dom : ∀ a, H' a = none → H a = none
  wk : WOk F' wa H' w'
  fd : ∀ a, F' a → H' a ≠ none
structure AftS (K : KW) (B : Addr → Prop) (wa : Option Addr) (F : Addr → Prop) (H : Hp) (w' : Option Wd) (F' : Addr → Prop) (H' : Hp) : Prop where
  sub : ∀ a, F a → F' a
  new : ∀ a, F' a → F a ∨ ¬ B a
  keep : ∀ a o, H a = some o → B a → wa ≠ some a → H' a = some o
  kf : ∀ a o, F a → H a = some o → H' a = some o
  dom : ∀ a, H' a = none → H a = none
  wk : WOk F' wa H' w'
  fd : ∀ a, F' a → H' a ≠ none
structure SI (K : KW) (B F : Addr → Prop) (wa : Option Addr) (H : Hp) (w : Option Wd) (σ : L2.St) (env : En) : Prop where
  len : env.length = σ.length
  fz : ∀ (i : Nat) d, env[i]? = some (some (d, false)) → ∃ v, σ[i]? = some (some v) ∧ Rep K F wa H d v
  ow : ∀ (i : Nat) d, env[i]? = some (some (d, true)) → ∃ a, σ[i]? = some (some (.ref a)) ∧ OwnAt K F wa H d a ∧ ¬ B a
  ne : ∀ (i j : Nat) d e a, i ≠ j → env[i]? = some (some (d, true)) → env[j]? = some (some (e, true)) → σ[i]? = some (some (.ref a)) → σ[j]? ≠ some (some (.ref a))
  wk : WOk F wa H w
  fd : ∀ a, F a → H a ≠ none
  bd : ∀ a, B a → H a ≠ none
section
variable {K : KW} {B F F' F1 F2 : Addr → Prop} {wa : Option Addr} {H0 H H' H1 H2 : Hp} {w w' w1 w2 : Option Wd} {σ : L2.St} {env : En} {d : D} {st : O3} {v : V} {a : Addr}
theorem WOk.nf (h : WOk F wa H w) (e : wa = some a) : ¬ F a ∧ H a ≠ none := by
  subst e
  cases w with
  | none => exact h.elim
  | some W =>
    obtain ⟨h1, da, _, h2, _⟩ := h
    exact ⟨h1, by rw [h2]; simp⟩
theorem WOk.ne (h : WOk F wa H w) (e : H a = none) : wa ≠ some a := fun z => (h.nf z).2 e
theorem Aft.refl (wk : WOk F wa H w) (fd : ∀ a, F a → H a ≠ none) : Aft K wa F H w F H := ⟨fun _ h => h, fun _ h => .inl h, fun _ _ h _ => h, fun _ _ _ h => h, fun _ h => h, wk, fd⟩
theorem Aft.trans (a : Aft K wa F H w1 F1 H1) (b : Aft K wa F1 H1 w2 F2 H2) : Aft K wa F H w2 F2 H2 where
  sub := fun x h => b.sub x (a.sub x h)
  new := fun x h => by
    rcases b.new x h with h | h
    · exact a.new x h
    · exact .inr (a.dom x h)
  keep := fun x o h e => b.keep x o (a.keep x o h e) e
  kf := fun x o f h => b.kf x o (a.sub x f) (a.kf x o f h)
  dom := fun x h => a.dom x (b.dom x h)
  wk := b.wk
  fd := b.fd
theorem Aft.rep (a : Aft K wa F H w1 F1 H1) (h : Rep K F wa H d v) : Rep K F1 wa H1 d v := Rep.mono a.sub a.kf d v h
theorem Aft.reps {ds : List D} {vs : List V} (a : Aft K wa F H w1 F1 H1) (h : Reps K F wa H ds vs) : Reps K F1 wa H1 ds vs := Reps.mono a.sub a.kf ds vs h
theorem OwnAt.some (h : OwnAt K F wa H d a) : ∃ o, H a = some o := by
  obtain ⟨_, _, o, e, _⟩ := h
  exact ⟨o, e⟩
theorem OwnAt.aft (A : Aft K wa F H w1 F1 H1) (h : OwnAt K F wa H d a) : OwnAt K F1 wa H1 d a := by
  obtain ⟨h1, h2, o, ho, h3⟩ := h
  refine ⟨fun z => ?_, h2, o, A.keep a _ ho h2, h3.mono A.sub A.kf⟩
  rcases A.new a z with z | z
  · exact h1 z
  · rw [ho] at z; cases z
theorem RS.aft (A : Aft K wa F H w1 F1 H1) (h : RS K B F wa H0 H d st v) : RS K B F1 wa H0 H1 d st v := by
  cases st with
  | fz => exact A.rep h
  | ow => obtain ⟨a, e, o, z⟩ := h; exact ⟨a, e, o.aft A, z⟩
  | bo => obtain ⟨a, e, o, z⟩ := h; exact ⟨a, e, o.aft A, z⟩
/-- the earlier start -/
theorem RS.back (A : Aft K wa F' H' w1 F1 H1) (h : RS K B F2 wa H1 H2 d st v) : RS K B F2 wa H' H2 d st v := by
  cases st with
  | fz => exact h
  | ow => obtain ⟨a, e, o, z⟩ := h; exact ⟨a, e, o, A.dom a z⟩
  | bo => exact h
theorem Rep.cur (h : Rep K F wa H d v) : Cur K F wa H d v := by
  cases d with
  | lst ds => obtain ⟨a, vs, e, _, h, r⟩ := h; exact ⟨a, vs, e, h, r⟩
  | scr ns =>
    obtain ⟨a, e, h⟩ := h
    refine ⟨a, e, ?_⟩
    rcases h with ⟨_, h⟩ | h
    · exact .inl h
    · exact .inr h
  | dk ks ds => obtain ⟨a, vs, e, _, h, l, r⟩ := h; exact ⟨a, vs, e, h, l, r⟩
  | dt ks ds => obtain ⟨a, xs, vs, e, _, h⟩ := h; exact ⟨a, xs, vs, e, h⟩
  | _ => exact h
theorem OwnAt.cur (h : OwnAt K F wa H d a) : Cur K F wa H d (.ref a) := by
  obtain ⟨_, _, o, e, h⟩ := h
  exact h.cur e
theorem RS.cur (h : RS K B F wa H0 H d st v) : Cur K F wa H d v := by
  cases st with
  | fz => exact Rep.cur h
  | ow => obtain ⟨a, e, o, z⟩ := h; subst e; exact o.cur
  | bo => obtain ⟨a, e, o, z⟩ := h; subst e; exact o.cur
/-- a new object at p; F' with p or without -/
theorem Aft.new1 {p : Addr} {o : HO} (wk : WOk F wa H w) (fd : ∀ a, F a → H a ≠ none) (hp : H p = none) : Aft K wa F H w (fun a => F a ∨ a = p) (upd H p o) where
  sub := fun _ h => .inl h
  new := fun a h => by
    rcases h with h | h
    · exact .inl h
    · subst h; exact .inr hp
  keep := fun a u h _ => by rw [upd_ne (ne_of_none h hp)]; exact h
  kf := fun a u _ h => by rw [upd_ne (ne_of_none h hp)]; exact h
  dom := fun a h => by
    by_cases e : a = p
    · subst e; exact hp
    · rw [upd_ne e] at h; exact h
  wk := by
    cases wa with
    | none => cases w with
      | none => trivial
      | some W => exact wk
    | some x => cases w with
      | none => exact wk
      | some W =>
        obtain ⟨h1, da, h2, h3, h4⟩ := wk
        refine ⟨fun z => ?_, da, .inl h2, ?_, ?_⟩
        · rcases z with z | z
          · exact h1 z
          · subst z; rw [hp] at h3; cases h3
        · rw [upd_ne (ne_of_none h3 hp)]; exact h3
        · rw [upd_ne (ne_of_none h4 hp)]; exact h4
  fd := fun a h => by
    by_cases e : a = p
    · subst e; rw [upd_same]; simp
    · rw [upd_ne e]
      rcases h with h | h
      · exact fd a h
      · exact absurd h e
theorem Aft.new0 {p : Addr} {o : HO} (wk : WOk F wa H w) (fd : ∀ a, F a → H a ≠ none) (hp : H p = none) : Aft K wa F H w F (upd H p o) := by
  have A := Aft.new1 (K := K) (o := o) wk fd hp
  refine ⟨fun _ h => h, fun _ h => .inl h, A.keep, A.kf, A.dom, ?_, fun a h => A.fd a (.inl h)⟩
  cases wa with
  | none => cases w with
    | none => trivial
    | some W => exact wk
  | some x => cases w with
    | none => exact wk
    | some W =>
      obtain ⟨h1, da, h2, h3, h4⟩ := wk
      refine ⟨h1, da, h2, ?_, ?_⟩
      · rw [upd_ne (ne_of_none h3 hp)]; exact h3
      · rw [upd_ne (ne_of_none h4 hp)]; exact h4
theorem SI.aft (S : SI K B F wa H w σ env) (A : Aft K wa F H w1 F1 H1) : SI K B F1 wa H1 w1 σ env where
  len := S.len
  fz := fun i d e => by
    obtain ⟨v, h, r⟩ := S.fz i d e
    exact ⟨v, h, A.rep r⟩
  ow := fun i d e => by
    obtain ⟨a, h, o, b⟩ := S.ow i d e
    exact ⟨a, h, o.aft A, b⟩
  ne := S.ne
  wk := A.wk
  fd := A.fd
  bd := fun a b e => S.bd a b (A.dom a e)
theorem Aft.toS (A : Aft K wa F H w1 F1 H1) (bd : ∀ a, B a → H a ≠ none) : AftS K B wa F H w1 F1 H1 :=
  ⟨A.sub, fun a h => (A.new a h).elim .inl fun z => .inr fun b => bd a b z, fun a o h _ e => A.keep a o h e, A.kf, A.dom, A.wk, A.fd⟩
theorem AftS.refl (wk : WOk F wa H w) (fd : ∀ a, F a → H a ≠ none) : AftS K B wa F H w F H := ⟨fun _ h => h, fun _ h => .inl h, fun _ _ h _ _ => h, fun _ _ _ h => h, fun _ h => h, wk, fd⟩
theorem AftS.trans (a : AftS K B wa F H w1 F1 H1) (b : AftS K B wa F1 H1 w2 F2 H2) : AftS K B wa F H w2 F2 H2 where
  sub := fun x h => b.sub x (a.sub x h)
  new := fun x h => (b.new x h).elim (a.new x) .inr
  keep := fun x o h e z => b.keep x o (a.keep x o h e z) e z
  kf := fun x o f h => b.kf x o (a.sub x f) (a.kf x o f h)
  dom := fun x h => a.dom x (b.dom x h)
  wk := b.wk
  fd := b.fd
/-- one's own new object is frozen -/
theorem OwnAt.freeze (wk : WOk F wa H w) (fd : ∀ a, F a → H a ≠ none) (h : OwnAt K F wa H d a) : WOk (fun b => F b ∨ b = a) wa H w ∧ (∀ b, F b ∨ b = a → H b ≠ none) ∧ Rep K (fun b => F b ∨ b = a) wa H d (.ref a) := by
  obtain ⟨h1, h2, o, ho, h3⟩ := h
  refine ⟨?_, fun b z => ?_, ?_⟩
  · cases wa with
    | none => cases w with
      | none => trivial
      | some W => exact wk
    | some x => cases w with
      | none => exact wk
      | some W =>
        obtain ⟨g1, da, g2, g3, g4⟩ := wk
        exact ⟨fun z => z.elim g1 fun e => h2 (by rw [e]), da, .inl g2, g3, g4⟩
  · rcases z with z | z
    · exact fd b z
    · subst z; rw [ho]; simp
  · exact h3.rep ho (fun _ z => .inl z) (.inr rfl)
theorem RS.freeze (A : Aft K wa F H w1 F1 H1) (h : RS K B F1 wa H H1 d .ow v) : ∃ F2, Aft K wa F H w1 F2 H1 ∧ Rep K F2 wa H1 d v := by
  obtain ⟨a, e, o, z⟩ := h
  subst e
  obtain ⟨k, f, r⟩ := o.freeze A.wk A.fd
  exact ⟨_, ⟨fun x h => .inl (A.sub x h), fun x h => h.elim (A.new x) fun e => .inr (by rw [e]; exact z), A.keep, A.kf, A.dom, k, f⟩, r⟩
end

/-! ### expressions -/
def rd (K : KW) (f : EF) : TE := fun σ H Q => ∃ B F wa w env, SI K B F wa H w σ env ∧ ∃ d st w', f env w = some ((d, st), w') ∧ ∀ v F' H', Aft K wa F H w' F' H' → RS K B F' wa H H' d st v → Q v H'
def Snd (X : Cx) (e : Expr) (f : EF) : Prop := PE X e (rd (kwOf X) f)
def RSp (K : KW) (B F : Addr → Prop) (wa : Option Addr) (H0 H : Hp) (ds : List DS) (vs : List V) : Prop := Paired (fun (p : DS) v => RS K B F wa H0 H p.1 p.2 v) ds vs
/-- new objects are not one and the same -/
def Apart : List DS → List V → Prop
  | (_, st) :: ds, v :: vs => (st = .ow → ∀ p ∈ ds.zip vs, p.1.2 = .ow → p.2 ≠ v) ∧ Apart ds vs
  | _, _ => True
def RSs (K : KW) (B F : Addr → Prop) (wa : Option Addr) (H0 H : Hp) (ds : List DS) (vs : List V) : Prop := RSp K B F wa H0 H ds vs ∧ Apart ds vs
def rdA (K : KW) (f : EA) : TA := fun σ H Q => ∃ B F wa w env, SI K B F wa H w σ env ∧ ∃ ds w', f env w = some (ds, w') ∧ ∀ vs F' H', Aft K wa F H w' F' H' → RSs K B F' wa H H' ds vs → Q vs H'
def SndA (X : Cx) (es : List Expr) (f : EA) : Prop := PA X es (rdA (kwOf X) f)
def rdT (K : KW) (f : ET) : TT := fun σ H Q => ∃ B F wa w env, SI K B F wa H w σ env ∧ ∃ b w', f env w = some (b, w') ∧ ∀ F' H', Aft K wa F H w' F' H' → Q b H'
def SndT (X : Cx) (e : Expr) (f : ET) : Prop := PT X e (rdT (kwOf X) f)
def SndW (X : Cx) (e : Expr) (f : ET) : Prop := PW X e (rdT (kwOf X) f)
theorem pe_imp {X : Cx} {e : Expr} {t t' : TE} (h : PE X e t) (k : ∀ σ H Q, t' σ H Q → t σ H Q) : PE X e t' := ⟨fun pins s σ H Q I q => h.run pins s σ H Q I (k _ _ _ q)⟩
theorem pa_imp {X : Cx} {es : List Expr} {t t' : TA} (h : PA X es t) (k : ∀ σ H Q, t' σ H Q → t σ H Q) : PA X es t' := ⟨fun pos pins s σ H Q I q => h.run pos pins s σ H Q I (k _ _ _ q)⟩
theorem pt_imp {X : Cx} {e : Expr} {t t' : TT} (h : PT X e t) (k : ∀ σ H Q, t' σ H Q → t σ H Q) : PT X e t' := ⟨fun pins s σ H Q I q => h.run pins s σ H Q I (k _ _ _ q)⟩
theorem pw_imp {X : Cx} {e : Expr} {t t' : TT} (h : PW X e t) (k : ∀ σ H Q, t' σ H Q → t σ H Q) : PW X e t' := ⟨fun wh pins s σ H Q I q => h.run wh pins s σ H Q I (k _ _ _ q)⟩
theorem ps_imp {X : Cx} {st : Stmt} {t t' : TS} (h : PS X st t) (k : ∀ D σ H, t' D σ H → t D σ H) : PS X st t' := ⟨fun pins s σ H D I q => h.run pins s σ H D I (k _ _ _ q)⟩
theorem pss_imp {X : Cx} {st : List Stmt} {t t' : TS} (h : PSs X st t) (k : ∀ D σ H, t' D σ H → t D σ H) : PSs X st t' := ⟨fun pins s σ H D I q => h.run pins s σ H D I (k _ _ _ q)⟩
theorem pi_imp {X : Cx} {tg e : Expr} {t t' : TI} (h : PI X tg e t) (k : ∀ σ H R, t' σ H R → t σ H R) : PI X tg e t' := ⟨fun pins s σ H R I q => h.run pins s σ H R I (k _ _ _ q)⟩
end Dl

set_option Elab.async false
set_option linter.all false
set_option maxRecDepth 100000
set_option maxHeartbeats 4000000
namespace Dl
open PySem PySem.Spec PyProof.Rows L2
/-! ### the forms of expressions -/
def eVar (i : Nat) : EF := fun env w => match env[i]? with
  | some (some (d, false)) => some ((d, .fz), w)
  | some (some (d, true)) => some ((d, .bo), w)
  | _ => none
def eC (d : D) : EF := fun _ w => some ((d, .fz), w)
def eFz (f : EF) : EF := fun env w => (f env w).bind fun p => match p.1.2 with
  | .bo => none
  | _ => some ((p.1.1, .fz), p.2)
def eOp (g : D → D → Option DS) (f1 f2 : EF) : EF := fun env w => (f1 env w).bind fun p => (f2 env p.2).bind fun q => (g p.1.1 q.1.1).map fun r => (r, q.2)
def eUn (g : D → Option DS) (f1 : EF) : EF := fun env w => (f1 env w).bind fun p => (g p.1.1).map fun r => (r, p.2)
def aNil : EA := fun _ w => some ([], w)
def aCons (f : EF) (g : EA) : EA := fun env w => (f env w).bind fun p => (g env p.2).bind fun q => some (p.1 :: q.1, q.2)
def eA (g : List D → Option DS) (f : EA) : EF := fun env w => (f env w).bind fun p => (g (p.1.map (·.1))).map fun r => (r, p.2)
def allFz (ds : List DS) : Bool := ds.all fun p => p.2 == .fz
def eTup (f : EA) : EF := fun env w => (f env w).bind fun p => if allFz p.1 = true ∧ p.1.length ≤ 1000 then some ((.tup (p.1.map (·.1)), .fz), p.2) else none
def eLst (f : EA) : EF := fun env w => (f env w).bind fun p => if allFz p.1 = true ∧ p.1.length ≤ 1000 then some ((.lst (p.1.map (·.1)), .ow), p.2) else none
def eCall (F : Fn) (f : EA) : EF := fun env w => (f env w).bind fun p => if allFz p.1 = true then F (p.1.map (·.1)) p.2 else none
def eIf (t : ET) (f g : EF) : EF := fun env w => (t env w).bind fun p => if p.1 = true then f env p.2 else g env p.2
def truD : D → Option Bool
  | .non => some false
  | .bl b => some b
  | .int i => some (i != 0)
  | .str x => if x.length ≤ 100000 then some ((x.length : Int) != 0) else none
  | .tup ds => some (!ds.isEmpty)
  | .lst ds => some (!ds.isEmpty)
  | .dk _ ds => some (!ds.isEmpty)
  | _ => none
def eNot (f : EF) : EF := fun env w => (f env w).bind fun p => (truD p.1.1).map fun b => ((.bl (!b), .fz), p.2)
def eAnd (f g : EF) : EF := fun env w => (f env w).bind fun p => (truD p.1.1).bind fun b => if b = true then g env p.2 else some p
def eOr (f g : EF) : EF := fun env w => (f env w).bind fun p => (truD p.1.1).bind fun b => if b = true then some p else g env p.2
def tVal (f : EF) : ET := fun env w => (f env w).bind fun p => match p.1.1 with
  | .bl b => some (b, p.2)
  | _ => none
def tTru (f : EF) : ET := fun env w => (f env w).bind fun p => (truD p.1.1).map fun b => (b, p.2)
def tAn (f g : ET) : ET := fun env w => (f env w).bind fun p => if p.1 = true then g env p.2 else some (false, p.2)
def tOrr (f g : ET) : ET := fun env w => (f env w).bind fun p => if p.1 = true then some (true, p.2) else g env p.2
def tNo (f : ET) : ET := fun env w => (f env w).bind fun p => some (!p.1, p.2)
def oNone : En → Option Wd → Option (Option Int × Option Wd) := fun _ w => some (none, w)
def oSome (f : EF) : En → Option Wd → Option (Option Int × Option Wd) := fun env w => (f env w).bind fun p => match p.1.1 with
  | .int i => some (some i, p.2)
  | _ => none
def eSl (g : D → Option Int → Option Int → Option DS) (f : EF) (l h : En → Option Wd → Option (Option Int × Option Wd)) : EF := fun env w =>
  (f env w).bind fun p => (l env p.2).bind fun q => (h env q.2).bind fun r => (g p.1.1 q.1 r.1).map fun d => (d, r.2)

/-! ### what an operation's reading must do over data -/
def Res (K : KW) (wa : Option Addr) (w : Option Wd) (F : Addr → Prop) (H : Hp) (d : D) (st : O3) (Q : VK) : Prop := ∀ v F' H', Aft K wa F H w F' H' → RS K (fun _ => True) F' wa H H' d st v → Q v H'
def OpS (K : KW) (r : R2) (g : D → D → Option DS) : Prop := ∀ wa w F H x y d st v1 v2, WOk F wa H w → (∀ a, F a → H a ≠ none) → Cur K F wa H x v1 → Cur K F wa H y v2 → g x y = some (d, st) → ∀ Q : VK, Res K wa w F H d st Q → r v1 v2 H Q
def UnS (K : KW) (r : V → Hp → VK → Prop) (g : D → Option DS) : Prop := ∀ wa w F H x d st v1, WOk F wa H w → (∀ a, F a → H a ≠ none) → Cur K F wa H x v1 → g x = some (d, st) → ∀ Q : VK, Res K wa w F H d st Q → r v1 H Q
def CurS (K : KW) (F : Addr → Prop) (wa : Option Addr) (H : Hp) (ds : List D) (vs : List V) : Prop := Paired (Cur K F wa H) ds vs
def CallS (K : KW) (r : List V → Hp → VK → Prop) (g : List D → Option DS) : Prop := ∀ wa w F H ds d st vs, WOk F wa H w → (∀ a, F a → H a ≠ none) → CurS K F wa H ds vs → g ds = some (d, st) → ∀ Q : VK, Res K wa w F H d st Q → r vs H Q
def SlS (K : KW) (r : V → Option Int → Option Int → Hp → VK → Prop) (g : D → Option Int → Option Int → Option DS) : Prop := ∀ wa w F H x lo hi d st v1, WOk F wa H w → (∀ a, F a → H a ≠ none) → Cur K F wa H x v1 → g x lo hi = some (d, st) → ∀ Q : VK, Res K wa w F H d st Q → r v1 lo hi H Q

section
variable {K : KW} {B F F' F1 F2 : Addr → Prop} {wa : Option Addr} {H0 H H' H1 H2 : Hp} {w w' w1 w2 : Option Wd} {σ : L2.St} {env : En} {d : D} {st : O3} {v : V} {a : Addr} {Q : VK}
theorem RS.anyB (h : RS K (fun _ => True) F wa H0 H d st v) : RS K B F wa H0 H d st v := by
  cases st with
  | fz => exact h
  | ow => exact h
  | bo => obtain ⟨_, _, _, z⟩ := h; exact (z trivial).elim
theorem Res.fz (wk : WOk F wa H w) (fd : ∀ a, F a → H a ≠ none) (h : Res K wa w F H d .fz Q) (r : Rep K F wa H d v) : Q v H := h v F H (Aft.refl wk fd) r
theorem Res.tup (wk : WOk F wa H w) (fd : ∀ a, F a → H a ≠ none) {ds : List D} {vs : List V} (h : Res K wa w F H (.tup ds) .fz Q) (r : Reps K F wa H ds vs) {p : Addr} {u : HO} (hp : H p = none) (ht : TupO u vs) : Q (.ref p) (upd H p u) := by
  have A := Aft.new1 (K := K) (o := u) wk fd hp
  exact h _ _ _ A ⟨p, u, vs, rfl, .inr rfl, upd_same, ht, A.reps r⟩
theorem Res.lst (wk : WOk F wa H w) (fd : ∀ a, F a → H a ≠ none) {ds : List D} {vs : List V} (h : Res K wa w F H (.lst ds) .ow Q) (r : Reps K F wa H ds vs) {p : Addr} (hp : H p = none) : Q (.ref p) (upd H p (.lst vs)) := by
  have A := Aft.new0 (K := K) (o := .lst vs) wk fd hp
  exact h _ _ _ A ⟨p, rfl, .mkL (fun z => fd p z hp) (wk.ne hp) upd_same (A.reps r), hp⟩
theorem Res.dk (wk : WOk F wa H w) (fd : ∀ a, F a → H a ≠ none) {ks : List Key} {ds : List D} {vs : List V} (h : Res K wa w F H (.dk ks ds) .ow Q) (r : Reps K F wa H ds vs) (hl : ks.length = vs.length) {p : Addr} (hp : H p = none) : Q (.ref p) (upd H p (.dK (ks.zip vs))) := by
  have A := Aft.new0 (K := K) (o := .dK (ks.zip vs)) wk fd hp
  exact h _ _ _ A ⟨p, rfl, ⟨fun z => fd p z hp, wk.ne hp, _, upd_same, vs, rfl, hl, A.reps r⟩, hp⟩
/-- what comes behind what came -/
theorem Res.behind (S : SI K B F wa H w σ env) (A : Aft K wa F H w1 F1 H1) (k : ∀ v F' H', Aft K wa F H w1 F' H' → RS K B F' wa H H' d st v → Q v H') : Res K wa w1 F1 H1 d st Q := fun v F' H' A' r => k v F' H' (A.trans A') (r.anyB.back A)
end

section
variable {X : Cx} {e e1 e2 a b c : Expr} {es : List Expr} {f f1 f2 fa fb fc : EF} {g : D → D → Option DS} {pos : Pos}
theorem e_var (i : Nat) {x : Str} {pos : Pos} (hN : X.N[i]? = some x := by rfl) (hv : Vis X.env.scope x := by first | exact Or.inl rfl | exact Or.inr (Or.inl rfl) | exact Or.inr (Or.inr rfl)) (hd : (x == ("__debug__" : Str)) = false := by decide)
    (hcd : (x == ("__classdict__" : Str)) = false := by decide) : Snd X (.Name x pos) (eVar i) := by
  refine pe_imp (pe_var hN hv hd hcd) fun σ H Q q => ?_
  obtain ⟨B, F, wa, w, env, S, d, st, w', hf, k⟩ := q
  unfold eVar at hf
  split at hf
  · rename_i d' e
    cases hf
    obtain ⟨v, h1, r⟩ := S.fz i _ e
    exact ⟨v, h1, k v F H (Aft.refl S.wk S.fd) r⟩
  · rename_i d' e
    cases hf
    obtain ⟨a, h1, o, nb⟩ := S.ow i _ e
    exact ⟨.ref a, h1, k _ F H (Aft.refl S.wk S.fd) ⟨a, rfl, o, nb⟩⟩
  · cases hf
theorem e_c {e : Expr} {v : V} {d : D} (h : PE X e (tC v)) (r : ∀ F wa H, Rep (kwOf X) F wa H d v) : Snd X e (eC d) := by
  refine pe_imp h fun σ H Q q => ?_
  obtain ⟨B, F, wa, w, env, S, d, st, w', hf, k⟩ := q
  cases hf
  exact k v F H (Aft.refl S.wk S.fd) (r _ _ _)
theorem e_int {i j pos} : Snd X (.Constant (.int i) j pos) (eC (.int i)) := e_c pe_int fun _ _ _ => rfl
theorem e_bl {i j pos} : Snd X (.Constant (.bool i) j pos) (eC (.bl i)) := e_c pe_bl fun _ _ _ => rfl
theorem e_non {j pos} : Snd X (.Constant .none j pos) (eC .non) := e_c pe_non fun _ _ _ => rfl
theorem e_str {i j pos} : Snd X (.Constant (.str i) j pos) (eC (.str i)) := e_c pe_str fun _ _ _ => rfl
theorem e_fz (h : Snd X e f) : Snd X e (eFz f) := by
  refine pe_imp h fun σ H Q q => ?_
  obtain ⟨B, F, wa, w, env, S, d, st, w', hf, k⟩ := q
  unfold eFz at hf
  obtain ⟨⟨⟨d1, st1⟩, w1⟩, h1, h2⟩ := Option.bind_eq_some_iff.mp hf
  refine ⟨B, F, wa, w, env, S, d1, st1, w1, h1, fun v F' H' A r => ?_⟩
  cases st1 with
  | fz => cases h2; exact k v F' H' A r
  | ow =>
    cases h2
    obtain ⟨F2, A2, r2⟩ := RS.freeze A r
    exact k v F2 H' A2 r2
  | bo => cases h2
theorem tOp_of {K : KW} {r : R2} (hg : OpS K r g) {σ : L2.St} {H : Hp} {Q : VK} (q : rd K (eOp g f1 f2) σ H Q) : tOp r (rd K f1) (rd K f2) σ H Q := by
  obtain ⟨B, F, wa, w, env, S, d, st, w', hf, k⟩ := q
  unfold eOp at hf
  obtain ⟨⟨⟨d1, st1⟩, w1⟩, h1, h2⟩ := Option.bind_eq_some_iff.mp hf
  obtain ⟨⟨⟨d2, st2⟩, w2⟩, h3, h4⟩ := Option.bind_eq_some_iff.mp h2
  obtain ⟨⟨d3, st3⟩, h5, h6⟩ := Option.map_eq_some_iff.mp h4
  cases h6
  refine ⟨B, F, wa, w, env, S, d1, st1, w1, h1, fun v1 F1 H1 A1 r1 => ?_⟩
  refine ⟨B, F1, wa, w1, env, S.aft A1, d2, st2, _, h3, fun v2 F2 H2 A2 r2 => ?_⟩
  exact hg wa _ F2 H2 d1 d2 d st v1 v2 A2.wk A2.fd (r1.aft A2).cur r2.cur h5 Q (Res.behind S (A1.trans A2) k)
theorem e_op {op : Operator} {r : R2} (ho : OpR X (binaryOp op) r) (hg : OpS (kwOf X) r g) (ha : Snd X a fa) (hb : Snd X b fb) : Snd X (.BinOp a op b pos) (eOp g fa fb) := pe_imp (pe_op ho ha hb) fun _ _ _ q => tOp_of hg q
theorem e_cmp {op : CmpOp} {r : R2} (ho : OpR X (compareOp op) r) (hg : OpS (kwOf X) r g) (hm : behindInMarks op b = false) (ha : Snd X a fa) (hb : Snd X b fb) : Snd X (.Compare a [op] [b] pos) (eOp g fa fb) := pe_imp (pe_cmpR ho ha hb hm) fun _ _ _ q => tOp_of hg q
theorem e_ix {r : R2} (hr : IxR X r) (hg : OpS (kwOf X) r g) (ha : Snd X a fa) (hb : Snd X b fb) (hs : PlainIx b := by exact fun _ _ => rfl) : Snd X (.Subscript a b pos) (eOp g fa fb) := pe_imp (pe_ix hr ha hb hs) fun _ _ _ q => tOp_of hg q
theorem e_un {op : UnaryOp} {r : V → Hp → VK → Prop} {g : D → Option DS} (ho : UnR X (unaryOp op) r) (hg : UnS (kwOf X) r g) (ha : Snd X a fa) : Snd X (.UnaryOp op a pos) (eUn g fa) := by
  refine pe_imp (pe_un ho ha) fun σ H Q q => ?_
  obtain ⟨B, F, wa, w, env, S, d, st, w', hf, k⟩ := q
  unfold eUn at hf
  obtain ⟨⟨⟨d1, st1⟩, w1⟩, h1, h2⟩ := Option.bind_eq_some_iff.mp hf
  obtain ⟨⟨d3, st3⟩, h5, h6⟩ := Option.map_eq_some_iff.mp h2
  cases h6
  refine ⟨B, F, wa, w, env, S, d1, st1, _, h1, fun v1 F1 H1 A1 r1 => ?_⟩
  exact hg wa _ F1 H1 d1 d st v1 A1.wk A1.fd r1.cur h5 Q (Res.behind S A1 k)
theorem a_nil : SndA X [] aNil := by
  refine pa_imp pa_nil fun σ H Q q => ?_
  obtain ⟨B, F, wa, w, env, S, ds, w', hf, k⟩ := q
  cases hf
  exact k [] F H (Aft.refl S.wk S.fd) ⟨.nil, trivial⟩
theorem Apart.nil : Apart [] [] := trivial
theorem RSs.aft0 {K : KW} {B F F1 : Addr → Prop} {wa : Option Addr} {H0 H H1 : Hp} {w1 : Option Wd} (A : Aft K wa F H w1 F1 H1) : ∀ {ds : List DS} {vs : List V}, RSp K B F wa H0 H ds vs → RSp K B F1 wa H0 H1 ds vs
  | _, _, .nil => .nil
  | _, _, .cons r t => .cons (r.aft A) (RSs.aft0 A t)
theorem RSs.back0 {K : KW} {B F1 F' F2 : Addr → Prop} {wa : Option Addr} {H' H1 H2 : Hp} {w1 : Option Wd} (A : Aft K wa F' H' w1 F1 H1) : ∀ {ds : List DS} {vs : List V}, RSp K B F2 wa H1 H2 ds vs → RSp K B F2 wa H' H2 ds vs
  | _, _, .nil => .nil
  | _, _, .cons r t => .cons (r.back A) (RSs.back0 A t)
theorem RSp.cur {K : KW} {B F : Addr → Prop} {wa : Option Addr} {H0 H : Hp} : ∀ {ds : List DS} {vs : List V}, RSp K B F wa H0 H ds vs → CurS K F wa H (ds.map (·.1)) vs
  | _, _, .nil => .nil
  | _, _, .cons r t => .cons r.cur (RSp.cur t)
theorem RSp.reps {K : KW} {B F : Addr → Prop} {wa : Option Addr} {H0 H : Hp} : ∀ {ds : List DS} {vs : List V}, RSp K B F wa H0 H ds vs → allFz ds = true → Reps K F wa H (ds.map (·.1)) vs
  | _, _, .nil, _ => rfl
  | ⟨d, st⟩ :: ds, v :: vs, .cons r t, h => by
    have h' : (st == O3.fz) = true ∧ allFz ds = true := by simpa [allFz] using h
    have e : st = .fz := by simpa using h'.1
    subst e
    exact ⟨v, vs, rfl, r, RSp.reps t h'.2⟩
theorem RSs.len {K : KW} {B F : Addr → Prop} {wa : Option Addr} {H0 H : Hp} {ds : List DS} {vs : List V} (h : RSs K B F wa H0 H ds vs) : ds.length = vs.length := Paired.length h.1
theorem RSs.cur {K : KW} {B F : Addr → Prop} {wa : Option Addr} {H0 H : Hp} {ds : List DS} {vs : List V} (h : RSs K B F wa H0 H ds vs) : CurS K F wa H (ds.map (·.1)) vs := h.1.cur
theorem RSs.reps {K : KW} {B F : Addr → Prop} {wa : Option Addr} {H0 H : Hp} {ds : List DS} {vs : List V} (h : RSs K B F wa H0 H ds vs) (ha : allFz ds = true) : Reps K F wa H (ds.map (·.1)) vs := h.1.reps ha
theorem RSp.new {K : KW} {B F : Addr → Prop} {wa : Option Addr} {H0 H : Hp} : ∀ {ds : List DS} {vs : List V}, RSp K B F wa H0 H ds vs → ∀ p ∈ ds.zip vs, p.1.2 = .ow → ∃ b, p.2 = .ref b ∧ H0 b = none
  | _, _, .nil, p, hp, _ => by cases hp
  | ⟨d, st⟩ :: ds, v :: vs, .cons r t, p, hp, e => by
    rcases List.mem_cons.mp hp with rfl | hp
    · cases (show st = .ow from e)
      obtain ⟨a, e, _, z⟩ := r
      exact ⟨a, e, z⟩
    · exact RSp.new t p hp e
theorem a_cons {ga : EA} (ha : Snd X e f) (hr : SndA X es ga) (hs : starEach (e :: es) X.env = (false, eval e X.env) :: starEach es X.env := by rfl) : SndA X (e :: es) (aCons f ga) := by
  refine pa_imp (pa_cons ha hr hs) fun σ H Q q => ?_
  obtain ⟨B, F, wa, w, env, S, ds, w', hf, k⟩ := q
  unfold aCons at hf
  obtain ⟨⟨⟨d1, st1⟩, w1⟩, h1, h2⟩ := Option.bind_eq_some_iff.mp hf
  obtain ⟨⟨ds2, w2⟩, h3, h4⟩ := Option.bind_eq_some_iff.mp h2
  cases h4
  refine ⟨B, F, wa, w, env, S, d1, st1, w1, h1, fun v1 F1 H1 A1 r1 => ?_⟩
  refine ⟨B, F1, wa, w1, env, S.aft A1, ds2, _, h3, fun vs F2 H2 A2 r2 => ?_⟩
  refine k _ F2 H2 (A1.trans A2) ⟨.cons (r1.aft A2) (RSs.back0 A1 r2.1), ?_, r2.2⟩
  intro e p hp ep
  subst e
  obtain ⟨b, eb, zb⟩ := r2.1.new p hp ep
  obtain ⟨a, ea, oa, _⟩ := r1
  obtain ⟨u, hu⟩ := oa.some
  subst ea
  rw [eb]
  intro z
  cases z
  rw [hu] at zb; cases zb
/-- a new tuple, as it stands -/
def tTupF (t : TA) : TE := fun σ H Q => t σ H fun xs H1 => xs.length ≤ sizeLine ∧ ∀ p u, H1 p = none → TupO u xs → Q (.ref p) (upd H1 p u)
theorem tup_laid {pins : List (Addr × Obj)} {σ : L2.St} {H : Hp} {s : Shared} {t' : Nat} {xs : List V} {us : List Value} (I : Inv X pins σ H s) (r : Vals xs us) (z : xs.length ≤ sizeLine) :
    Inv X pins σ (upd H s.heap.objs.size (.frz { cls := .type "tuple", data := .seq us.toArray } (.tup xs))) { s with heap := s.heap.push { cls := .type "tuple", data := .seq us.toArray }, toks := t' } :=
  I.laid (t' := t') (fun b u e => Heap.get?_push_of_some _ e) (Nat.le_refl _) ⟨Heap.get?_push_size _ rfl, z, us, r, ⟨_, Heap.get?_push_size _ rfl, rfl, _, rfl⟩⟩
theorem pe_tupF {x1} {t : TA} (h : PA X es t) : PE X (.Tuple es x1 pos) (tTupF t) := by
  refine ⟨fun pins s σ H Q I hq => ?_⟩
  refine wpAny_Tuple_spliced (thn (h.run pos pins s σ H _ I hq) fun us s1 ⟨xs, H1, I1, r, z, q⟩ => ⟨by rw [← r.length]; exact z, ?_⟩)
  have hf : H1 s1.heap.objs.size = none := I1.hok.fresh (Nat.le_refl _)
  exact ⟨.ref s1.heap.objs.size, _, tup_laid (t' := s1.toks) I1 r z, rfl, q _ _ hf ⟨_, rfl, rfl, rfl⟩⟩
theorem small1 {n : Nat} (h : n ≤ 1000) : n ≤ sizeLine := Nat.le_trans h (by decide)
theorem e_tup {x1} {ga : EA} (h : SndA X es ga) : Snd X (.Tuple es x1 pos) (eTup ga) := by
  refine pe_imp (pe_tupF h) fun σ H Q q => ?_
  obtain ⟨B, F, wa, w, env, S, d, st, w', hf, k⟩ := q
  unfold eTup at hf
  obtain ⟨⟨ds, w1⟩, h1, h2⟩ := Option.bind_eq_some_iff.mp hf
  dsimp only at h2
  split at h2
  · rename_i hc
    cases h2
    refine ⟨B, F, wa, w, env, S, ds, _, h1, fun vs F1 H1 A1 r1 => ⟨?_, fun p u hp ht => ?_⟩⟩
    · rw [← r1.len]; exact small1 hc.2
    · exact Res.tup A1.wk A1.fd (Res.behind S A1 k) (r1.reps hc.1) hp ht
  · cases h2
theorem e_lst {ga : EA} (h : SndA X es ga) : Snd X (.List es pos) (eLst ga) := by
  refine pe_imp (pe_lst h) fun σ H Q q => ?_
  obtain ⟨B, F, wa, w, env, S, d, st, w', hf, k⟩ := q
  unfold eLst at hf
  obtain ⟨⟨ds, w1⟩, h1, h2⟩ := Option.bind_eq_some_iff.mp hf
  dsimp only at h2
  split at h2
  · rename_i hc
    cases h2
    refine ⟨B, F, wa, w, env, S, ds, _, h1, fun vs F1 H1 A1 r1 => ⟨?_, fun p hp => ?_⟩⟩
    · rw [← r1.len]; exact small1 hc.2
    · exact Res.lst A1.wk A1.fd (Res.behind S A1 k) (r1.reps hc.1) hp
  · cases h2
theorem tCB_of {K : KW} {r : List V → Hp → VK → Prop} {g : List D → Option DS} {ga : EA} (hg : CallS K r g) {σ : L2.St} {H : Hp} {Q : VK} (q : rd K (eA g ga) σ H Q) : tCB r (rdA K ga) σ H Q := by
  obtain ⟨B, F, wa, w, env, S, d, st, w', hf, k⟩ := q
  unfold eA at hf
  obtain ⟨⟨ds, w1⟩, h1, h2⟩ := Option.bind_eq_some_iff.mp hf
  obtain ⟨⟨d3, st3⟩, h5, h6⟩ := Option.map_eq_some_iff.mp h2
  cases h6
  refine ⟨B, F, wa, w, env, S, ds, _, h1, fun vs F1 H1 A1 r1 => ?_⟩
  exact hg wa _ F1 H1 _ d st vs A1.wk A1.fd r1.cur h5 Q (Res.behind S A1 k)
theorem e_callB {r : List V → Hp → VK → Prop} {g : List D → Option DS} {ga : EA} {x : Str} {id : String} {p : Pos} (hc : CallR X (.builtin id) r) (hg : CallS (kwOf X) r g) (hgl : Gl X x) (hm : X.mg x = none) (hv : bootBuiltins x = some (.builtin id)) (ha : SndA X (e :: es) ga) (hn : x ≠ "__name__" := by decide) (hdb : (x == ("__debug__" : Str)) = false := by decide) (hse : starEach (e :: es) X.env = (false, eval e X.env) :: starEach es X.env := by rfl) (hpl : (backTo pos (starEach es X.env)).any (·.1) = false := by rfl) :
    Snd X (.Call (.Name x p) (e :: es) [] pos) (eA g ga) := pe_imp (pe_callB hc hgl hm hv ha hn hdb hse hpl) fun _ _ _ q => tCB_of hg q
theorem e_callTy {r : List V → Hp → VK → Prop} {g : List D → Option DS} {ga : EA} {x : Str} {T : String} {p : Pos} (hc : CallR X (.type T) r) (hg : CallS (kwOf X) r g) (hgl : Gl X x) (hm : X.mg x = none) (hv : bootBuiltins x = some (.type T)) (ha : SndA X (e :: es) ga) (hn : x ≠ "__name__" := by decide) (hdb : (x == ("__debug__" : Str)) = false := by decide) (hse : starEach (e :: es) X.env = (false, eval e X.env) :: starEach es X.env := by rfl) (hpl : (backTo pos (starEach es X.env)).any (·.1) = false := by rfl) :
    Snd X (.Call (.Name x p) (e :: es) [] pos) (eA g ga) := pe_imp (pe_callTy hc hgl hm hv ha hn hdb hse hpl) fun _ _ _ q => tCB_of hg q

/-! ### defs -/
def spD (K : KW) (G : Fn) : Sp := fun vs H Q _ => ∃ F wa w ds, WOk F wa H w ∧ (∀ a, F a → H a ≠ none) ∧ Reps K F wa H ds vs ∧ ∃ d st w', G ds w = some ((d, st), w') ∧ ∀ v F' H', Aft K wa F H w' F' H' → RS K (fun _ => True) F' wa H H' d st v → Q v H'
theorem e_call {k : Nat} {ff : Addr} {fd : FuncData} {ps : List Str} {G : Fn} {ga : EA} {x : Str} {p : Pos} (hG : FnOk X.prog X.w (kwOf X) X.mg X.base CX0 k ff fd ps (spD (kwOf X) G)) (hr : Room k X.A) (hg : Gl X x) (hm : X.mg x = some (.ref ff)) (hk : PySem.W.keepIn (kwOf X) (.ref ff) = true) (hb : Binds (kwOf X) fd ps [])
    (ha : SndA X (e :: es) ga) (hdb : (x == ("__debug__" : Str)) = false := by decide) (hse : starEach (e :: es) X.env = (false, eval e X.env) :: starEach es X.env := by rfl) (hpl : (backTo pos (starEach es X.env)).any (·.1) = false := by rfl) : Snd X (.Call (.Name x p) (e :: es) [] pos) (eCall G ga) := by
  refine pe_imp (pe_call hG hr hg hm hk hb .nil pass0 ha hdb hse hpl) fun σ H Q q => ?_
  obtain ⟨B, F, wa, w, env, S, d, st, w', hf, k⟩ := q
  unfold eCall at hf
  obtain ⟨⟨ds, w1⟩, h1, h2⟩ := Option.bind_eq_some_iff.mp hf
  dsimp only at h2
  split at h2
  · rename_i hc
    refine ⟨B, F, wa, w, env, S, ds, _, h1, fun vs F1 H1 A1 r1 => ?_⟩
    show spD (kwOf X) G (vs ++ []) H1 Q E0
    rw [List.append_nil]
    exact ⟨F1, wa, w1, ds.map (·.1), A1.wk, A1.fd, r1.reps hc, d, st, w', h2, fun v F' H' A' r => k v F' H' (A1.trans A') (r.anyB.back A1)⟩
  · cases h2

/-! ### tests and choices -/
theorem t_val (h : Snd X e f) (he : ∀ whole, isTrue e X.env whole = (do let v ← whole; standAt e.pos; holding [v] (truthy v)) := by intro _; rfl) : SndT X e (tVal f) := by
  refine pt_imp (pt_val h he) fun σ H Q q => ?_
  obtain ⟨B, F, wa, w, env, S, b, w', hf, k⟩ := q
  unfold tVal at hf
  obtain ⟨⟨⟨d1, st1⟩, w1⟩, h1, h2⟩ := Option.bind_eq_some_iff.mp hf
  refine ⟨B, F, wa, w, env, S, d1, st1, w1, h1, fun v F' H' A r => ?_⟩
  cases d1 with
  | bl c => cases h2; exact ⟨b, RS.cur r, k F' H' A⟩
  | _ => cases h2
theorem t_cmp {op : CmpOp} {r : R2} (ho : OpR X (compareOp op) r) (hg : OpS (kwOf X) r g) (hm : behindInMarks op b = false) (ha : Snd X a fa) (hb : Snd X b fb) : SndT X (.Compare a [op] [b] pos) (tVal (eOp g fa fb)) := by
  refine pt_imp (pt_cmpR ho ha hb hm) fun σ H Q q => ?_
  refine tOp_of hg ?_
  obtain ⟨B, F, wa, w, env, S, b, w', hf, k⟩ := q
  unfold tVal at hf
  obtain ⟨⟨⟨d1, st1⟩, w1⟩, h1, h2⟩ := Option.bind_eq_some_iff.mp hf
  refine ⟨B, F, wa, w, env, S, d1, st1, w1, h1, fun v F' H' A r => ?_⟩
  cases d1 with
  | bl c => cases h2; exact ⟨b, RS.cur r, k F' H' A⟩
  | _ => cases h2
theorem zip_emp {ks : List Key} {ds : List D} {vs : List V} (hl : ks.length = vs.length) (h2 : ds.length = vs.length) : (!(ks.zip vs).isEmpty) = !ds.isEmpty := by
  cases ks with
  | nil => cases vs with
    | nil => cases ds with
      | nil => rfl
      | cons d r => cases h2
    | cons v r => cases hl
  | cons k r => cases vs with
    | nil => cases hl
    | cons v q => cases ds with
      | nil => cases h2
      | cons d s => rfl
theorem emp_len {ds : List D} {vs : List V} (h2 : ds.length = vs.length) : ds.isEmpty = vs.isEmpty := by
  cases ds <;> cases vs <;> first | rfl | cases h2
theorem truV_of {K : KW} {F : Addr → Prop} {wa : Option Addr} {H : Hp} {d : D} {v : V} {b : Bool} (r : Cur K F wa H d v) (h : truD d = some b) : TruV K v H b := by
  cases d with
  | non => cases h; cases (show v = .non from r); rfl
  | bl c => cases h; cases (show v = .bl b from r); rfl
  | int i => cases h; cases (show v = .int i from r); rfl
  | str x =>
    cases (show v = .str x from r)
    have h' : (if x.length ≤ 100000 then some ((x.length : Int) != 0) else none) = some b := h
    split at h'
    · cases h'; exact ⟨Nat.le_trans (by assumption) (by decide), rfl⟩
    · cases h'
  | tup ds =>
    obtain ⟨a, u, vs, e, _, h1, ht, r1⟩ := r
    cases h; subst e
    exact .inr (.inl ⟨vs, ht.sq h1, by rw [emp_len r1.len]⟩)
  | lst ds =>
    obtain ⟨a, vs, e, h1, r1⟩ := r
    cases h; subst e
    exact .inl ⟨vs, .inl (.inl h1), by rw [emp_len r1.len]⟩
  | scr ns => cases h
  | ty n => cases h
  | dk ks ds =>
    obtain ⟨a, vs, e, h1, hl, r1⟩ := r
    cases h; subst e
    exact .inr (.inr ⟨_, h1, by rw [zip_emp hl r1.len]⟩)
  | dt ks ds => cases h
  | w => cases h
theorem t_tru (h : Snd X e f) (he : ∀ whole, isTrue e X.env whole = (do let v ← whole; standAt e.pos; holding [v] (truthy v)) := by intro _; rfl) : SndT X e (tTru f) := by
  refine pt_imp (pt_truth h he) fun σ H Q q => ?_
  obtain ⟨B, F, wa, w, env, S, b, w', hf, k⟩ := q
  unfold tTru at hf
  obtain ⟨⟨⟨d1, st1⟩, w1⟩, h1, h2⟩ := Option.bind_eq_some_iff.mp hf
  obtain ⟨c, h3, h4⟩ := Option.map_eq_some_iff.mp h2
  cases h4
  exact ⟨B, F, wa, w, env, S, d1, st1, _, h1, fun v F' H' A r => ⟨b, truV_of r.cur h3, k F' H' A⟩⟩
theorem w_and1 {t : ET} (h : SndT X a t) : SndW X (.BoolOp .And [a] pos) t := pw_and1 h
theorem w_or1 {t : ET} (h : SndT X a t) : SndW X (.BoolOp .Or [a] pos) t := pw_or1 h
theorem w_and {t u : ET} {rest : List Expr} (h : SndT X a t) (hb : SndW X (.BoolOp .And (b :: rest) pos) u) : SndW X (.BoolOp .And (a :: b :: rest) pos) (tAn t u) := by
  refine pw_imp (pw_and h hb) fun σ H Q q => ?_
  obtain ⟨B, F, wa, w, env, S, b, w', hf, k⟩ := q
  unfold tAn at hf
  obtain ⟨⟨c, w1⟩, h1, h2⟩ := Option.bind_eq_some_iff.mp hf
  refine ⟨B, F, wa, w, env, S, c, w1, h1, fun F1 H1 A => ?_⟩
  cases c with
  | true => exact ⟨B, F1, wa, w1, env, S.aft A, b, w', h2, fun F2 H2 A2 => k F2 H2 (A.trans A2)⟩
  | false => cases h2; exact k F1 H1 A
theorem w_or {t u : ET} {rest : List Expr} (h : SndT X a t) (hb : SndW X (.BoolOp .Or (b :: rest) pos) u) : SndW X (.BoolOp .Or (a :: b :: rest) pos) (tOrr t u) := by
  refine pw_imp (pw_or h hb) fun σ H Q q => ?_
  obtain ⟨B, F, wa, w, env, S, b, w', hf, k⟩ := q
  unfold tOrr at hf
  obtain ⟨⟨c, w1⟩, h1, h2⟩ := Option.bind_eq_some_iff.mp hf
  refine ⟨B, F, wa, w, env, S, c, w1, h1, fun F1 H1 A => ?_⟩
  cases c with
  | false => exact ⟨B, F1, wa, w1, env, S.aft A, b, w', h2, fun F2 H2 A2 => k F2 H2 (A.trans A2)⟩
  | true => cases h2; exact k F1 H1 A
theorem t_w {t : ET} (h : SndW X e t) : SndT X e t := PW.pt h
theorem t_not {t : ET} (h : SndT X a t) : SndT X (.UnaryOp .Not a pos) (tNo t) := by
  refine pt_imp (pt_not h) fun σ H Q q => ?_
  obtain ⟨B, F, wa, w, env, S, b, w', hf, k⟩ := q
  unfold tNo at hf
  obtain ⟨⟨c, w1⟩, h1, h2⟩ := Option.bind_eq_some_iff.mp hf
  cases h2
  exact ⟨B, F, wa, w, env, S, c, _, h1, fun F1 H1 A => k F1 H1 A⟩
theorem e_if {t : ET} (hc : SndT X c t) (ha : Snd X a fa) (hb : Snd X b fb) : Snd X (.IfExp c a b pos) (eIf t fa fb) := by
  refine pe_imp (pe_ifExp hc ha hb) fun σ H Q q => ?_
  obtain ⟨B, F, wa, w, env, S, d, st, w', hf, k⟩ := q
  unfold eIf at hf
  obtain ⟨⟨c, w1⟩, h1, h2⟩ := Option.bind_eq_some_iff.mp hf
  refine ⟨B, F, wa, w, env, S, c, w1, h1, fun F1 H1 A => ?_⟩
  cases c with
  | true => exact ⟨B, F1, wa, w1, env, S.aft A, d, st, w', h2, fun v F2 H2 A2 r => k v F2 H2 (A.trans A2) (r.back A)⟩
  | false => exact ⟨B, F1, wa, w1, env, S.aft A, d, st, w', h2, fun v F2 H2 A2 r => k v F2 H2 (A.trans A2) (r.back A)⟩
theorem e_not (ha : Snd X a fa) : Snd X (.UnaryOp .Not a pos) (eNot fa) := by
  refine pe_imp (pe_notT ha) fun σ H Q q => ?_
  obtain ⟨B, F, wa, w, env, S, d, st, w', hf, k⟩ := q
  unfold eNot at hf
  obtain ⟨⟨⟨d1, st1⟩, w1⟩, h1, h2⟩ := Option.bind_eq_some_iff.mp hf
  obtain ⟨c, h3, h4⟩ := Option.map_eq_some_iff.mp h2
  cases h4
  exact ⟨B, F, wa, w, env, S, d1, st1, _, h1, fun v F1 H1 A r => ⟨c, truV_of r.cur h3, k _ F1 H1 A rfl⟩⟩
theorem e_one {op} (h : Snd X a f) : Snd X (.BoolOp op [a] pos) f := pe_one h
theorem e_and {rest : List Expr} (ha : Snd X a fa) (hb : Snd X (.BoolOp .And (b :: rest) pos) fb) : Snd X (.BoolOp .And (a :: b :: rest) pos) (eAnd fa fb) := by
  refine pe_imp (pe_andT ha hb) fun σ H Q q => ?_
  obtain ⟨B, F, wa, w, env, S, d, st, w', hf, k⟩ := q
  unfold eAnd at hf
  obtain ⟨⟨⟨d1, st1⟩, w1⟩, h1, h2⟩ := Option.bind_eq_some_iff.mp hf
  obtain ⟨c, h3, h4⟩ := Option.bind_eq_some_iff.mp h2
  refine ⟨B, F, wa, w, env, S, d1, st1, w1, h1, fun v F1 H1 A r => ⟨c, truV_of r.cur h3, ?_⟩⟩
  cases c with
  | true => exact ⟨B, F1, wa, w1, env, S.aft A, d, st, w', h4, fun v F2 H2 A2 r => k v F2 H2 (A.trans A2) (r.back A)⟩
  | false => cases h4; exact k v F1 H1 A r
theorem e_or {rest : List Expr} (ha : Snd X a fa) (hb : Snd X (.BoolOp .Or (b :: rest) pos) fb) : Snd X (.BoolOp .Or (a :: b :: rest) pos) (eOr fa fb) := by
  refine pe_imp (pe_orT ha hb) fun σ H Q q => ?_
  obtain ⟨B, F, wa, w, env, S, d, st, w', hf, k⟩ := q
  unfold eOr at hf
  obtain ⟨⟨⟨d1, st1⟩, w1⟩, h1, h2⟩ := Option.bind_eq_some_iff.mp hf
  obtain ⟨c, h3, h4⟩ := Option.bind_eq_some_iff.mp h2
  refine ⟨B, F, wa, w, env, S, d1, st1, w1, h1, fun v F1 H1 A r => ⟨c, truV_of r.cur h3, ?_⟩⟩
  cases c with
  | false => exact ⟨B, F1, wa, w1, env, S.aft A, d, st, w', h4, fun v F2 H2 A2 r => k v F2 H2 (A.trans A2) (r.back A)⟩
  | true => cases h4; exact k v F1 H1 A r
/-! ### slices -/
abbrev EO := En → Option Wd → Option (Option Int × Option Wd)
def rdO (K : KW) (f : EO) : TO := fun σ H Q => ∃ B F wa w env, SI K B F wa H w σ env ∧ ∃ o w', f env w = some (o, w') ∧ ∀ F' H', Aft K wa F H w' F' H' → Q o H'
def SndO (X : Cx) (e : Option Expr) (f : EO) : Prop := PO X e (rdO (kwOf X) f)
theorem po_imp {e : Option Expr} {t t' : TO} (h : PO X e t) (k : ∀ σ H Q, t' σ H Q → t σ H Q) : PO X e t' := by
  obtain ⟨h⟩ := h
  exact ⟨fun pins s σ H Q I q => h pins s σ H Q I (k _ _ _ q)⟩
theorem o_none : SndO X none oNone := by
  refine po_imp po_none fun σ H Q q => ?_
  obtain ⟨B, F, wa, w, env, S, o, w', hf, k⟩ := q
  cases hf
  exact k F H (Aft.refl S.wk S.fd)
theorem o_some (h : Snd X e f) : SndO X (some e) (oSome f) := by
  refine po_imp (po_some h) fun σ H Q q => ?_
  obtain ⟨B, F, wa, w, env, S, o, w', hf, k⟩ := q
  unfold oSome at hf
  obtain ⟨⟨⟨d1, st1⟩, w1⟩, h1, h2⟩ := Option.bind_eq_some_iff.mp hf
  refine ⟨B, F, wa, w, env, S, d1, st1, w1, h1, fun v F' H' A r => ?_⟩
  cases d1 with
  | int c => cases h2; exact ⟨c, RS.cur r, k F' H' A⟩
  | _ => cases h2
theorem e_sl {r : V → Option Int → Option Int → Hp → VK → Prop} {g : D → Option Int → Option Int → Option DS} {lo hi : Option Expr} {tl th : EO} {p2 : Pos} (hr : SlR X r) (hg : SlS (kwOf X) r g) (he : Snd X e f) (hl : SndO X lo tl) (hu : SndO X hi th) : Snd X (.Subscript e (.Slice lo hi none p2) pos) (eSl g f tl th) := by
  refine pe_imp (pe_slice hr he hl hu) fun σ H Q q => ?_
  obtain ⟨B, F, wa, w, env, S, d, st, w', hf, k⟩ := q
  unfold eSl at hf
  obtain ⟨⟨⟨d1, st1⟩, w1⟩, h1, h2⟩ := Option.bind_eq_some_iff.mp hf
  obtain ⟨⟨o2, w2⟩, h3, h4⟩ := Option.bind_eq_some_iff.mp h2
  obtain ⟨⟨o3, w3⟩, h5, h6⟩ := Option.bind_eq_some_iff.mp h4
  obtain ⟨⟨d4, st4⟩, h7, h8⟩ := Option.map_eq_some_iff.mp h6
  cases h8
  refine ⟨B, F, wa, w, env, S, d1, st1, w1, h1, fun v1 F1 H1 A1 r1 => ?_⟩
  refine ⟨B, F1, wa, w1, env, S.aft A1, o2, w2, h3, fun F2 H2 A2 => ?_⟩
  refine ⟨B, F2, wa, w2, env, (S.aft A1).aft A2, o3, _, h5, fun F3 H3 A3 => ?_⟩
  exact hg wa _ F3 H3 d1 o2 o3 d st v1 A3.wk A3.fd ((r1.aft A2).aft A3).cur h7 Q (Res.behind S ((A1.trans A2).trans A3) k)
end
end Dl

set_option Elab.async false
set_option linter.all false
set_option maxRecDepth 100000
set_option maxHeartbeats 4000000
namespace Dl
open PySem PySem.Spec PyProof.Rows L2
/-! ### statements -/
inductive Out where
  | nx (e : En) (w : Option Wd) | rt (p : DS) (w : Option Wd) | bk (e : En) (w : Option Wd) | ct (e : En) (w : Option Wd)
abbrev SB := En → Option Wd → Option Out
def RSr (K : KW) (B F : Addr → Prop) (wa : Option Addr) (H : Hp) (d : D) (st : O3) (v : V) : Prop := match st with
  | .fz => Rep K F wa H d v
  | _ => ∃ a, v = .ref a ∧ OwnAt K F wa H d a ∧ ¬ B a
def Fin (K : KW) (B F : Addr → Prop) (wa : Option Addr) (H : Hp) (Dn : Ends) : Out → Prop
  | .nx env' w' => ∀ σ' F' H', AftS K B wa F H w' F' H' → SI K B F' wa H' w' σ' env' → Dn.nx σ' H'
  | .bk env' w' => ∀ σ' F' H', AftS K B wa F H w' F' H' → SI K B F' wa H' w' σ' env' → Dn.bk σ' H'
  | .ct env' w' => ∀ σ' F' H', AftS K B wa F H w' F' H' → SI K B F' wa H' w' σ' env' → Dn.ct σ' H'
  | .rt p w' => ∀ v F' H', AftS K B wa F H w' F' H' → RSr K B F' wa H' p.1 p.2 v → Dn.rt v H'
def rdS (K : KW) (g : SB) : TS := fun Dn σ H => ∃ B F wa w env, SI K B F wa H w σ env ∧ ∃ out, g env w = some out ∧ Fin K B F wa H Dn out
def SndS (X : Cx) (st : Stmt) (g : SB) : Prop := PS X st (rdS (kwOf X) g)
def SndSs (X : Cx) (sts : List Stmt) (g : SB) : Prop := PSs X sts (rdS (kwOf X) g)
section
variable {K : KW} {B F F' F1 F2 : Addr → Prop} {wa : Option Addr} {H0 H H' H1 H2 : Hp} {w w' w1 w2 : Option Wd} {σ σ' : L2.St} {env env' : En} {d : D} {st : O3} {v : V} {a : Addr} {Dn : Ends} {out : Out}
theorem Fin.behind (A : AftS K B wa F H w1 F1 H1) (h : Fin K B F wa H Dn out) : Fin K B F1 wa H1 Dn out := by
  cases out with
  | nx e w => exact fun σ' F' H' A' S => h σ' F' H' (A.trans A') S
  | bk e w => exact fun σ' F' H' A' S => h σ' F' H' (A.trans A') S
  | ct e w => exact fun σ' F' H' A' S => h σ' F' H' (A.trans A') S
  | rt p w => exact fun v F' H' A' r => h v F' H' (A.trans A') r
theorem RS.ret (bd : ∀ a, B a → H0 a ≠ none) (h : RS K B F wa H0 H d st v) : RSr K B F wa H d st v := by
  cases st with
  | fz => exact h
  | ow => obtain ⟨a, e, o, z⟩ := h; exact ⟨a, e, o, fun b => bd a b z⟩
  | bo => exact h
/-- a slot takes a frozen value -/
theorem SI.set (S : SI K B F wa H w σ env) (i : Nat) (r : Rep K F wa H d v) : SI K B F wa H w (σ.set i (some v)) (env.set i (some (d, false))) where
  len := by rw [List.length_set, List.length_set]; exact S.len
  fz := fun j e h => by
    by_cases hj : i = j
    · subst hj
      by_cases hl : i < env.length
      · rw [List.getElem?_set_self hl] at h
        cases h
        exact ⟨v, by rw [List.getElem?_set_self (by rw [← S.len]; exact hl)], r⟩
      · rw [List.getElem?_eq_none (by rw [List.length_set]; omega)] at h; cases h
    · rw [List.getElem?_set_ne hj] at h ⊢
      exact S.fz j e h
  ow := fun j e h => by
    by_cases hj : i = j
    · subst hj
      by_cases hl : i < env.length
      · rw [List.getElem?_set_self hl] at h; cases h
      · rw [List.getElem?_eq_none (by rw [List.length_set]; omega)] at h; cases h
    · rw [List.getElem?_set_ne hj] at h ⊢
      exact S.ow j e h
  ne := fun j k d1 d2 a hjk h1 h2 g => by
    have hj : i ≠ j := fun z => by
      subst z
      by_cases hl : i < env.length
      · rw [List.getElem?_set_self hl] at h1; cases h1
      · rw [List.getElem?_eq_none (by rw [List.length_set]; omega)] at h1; cases h1
    have hk : i ≠ k := fun z => by
      subst z
      by_cases hl : i < env.length
      · rw [List.getElem?_set_self hl] at h2; cases h2
      · rw [List.getElem?_eq_none (by rw [List.length_set]; omega)] at h2; cases h2
    rw [List.getElem?_set_ne hj] at h1 g
    rw [List.getElem?_set_ne hk] at h2 ⊢
    exact S.ne j k d1 d2 a hjk h1 h2 g
  wk := S.wk
  fd := S.fd
  bd := S.bd
/-- a slot takes one's own object that no other slot has -/
theorem SI.setOw (S : SI K B F wa H w σ env) (i : Nat) (o : OwnAt K F wa H d a) (nb : ¬ B a) (hn : ∀ j e, j ≠ i → env[j]? = some (some (e, true)) → σ[j]? ≠ some (some (.ref a))) : SI K B F wa H w (σ.set i (some (.ref a))) (env.set i (some (d, true))) where
  len := by rw [List.length_set, List.length_set]; exact S.len
  fz := fun j e h => by
    by_cases hj : i = j
    · subst hj
      by_cases hl : i < env.length
      · rw [List.getElem?_set_self hl] at h; cases h
      · rw [List.getElem?_eq_none (by rw [List.length_set]; omega)] at h; cases h
    · rw [List.getElem?_set_ne hj] at h ⊢
      exact S.fz j e h
  ow := fun j e h => by
    by_cases hj : i = j
    · subst hj
      by_cases hl : i < env.length
      · rw [List.getElem?_set_self hl] at h
        cases h
        exact ⟨a, by rw [List.getElem?_set_self (by rw [← S.len]; exact hl)], o, nb⟩
      · rw [List.getElem?_eq_none (by rw [List.length_set]; omega)] at h; cases h
    · rw [List.getElem?_set_ne hj] at h ⊢
      exact S.ow j e h
  ne := fun j k d1 d2 b hjk h1 h2 g => by
    by_cases hj : i = j
    · subst hj
      have hk : i ≠ k := hjk
      rw [List.getElem?_set_ne hk] at h2 ⊢
      by_cases hl : i < σ.length
      · rw [List.getElem?_set_self hl] at g
        cases g
        exact hn k d2 (Ne.symm hk) h2
      · rw [List.getElem?_eq_none (by rw [List.length_set]; omega)] at g; cases g
    · rw [List.getElem?_set_ne hj] at h1 g
      by_cases hk : i = k
      · subst hk
        by_cases hl : i < σ.length
        · rw [List.getElem?_set_self hl]
          intro z
          cases z
          exact hn j d1 (Ne.symm hj) h1 g
        · rw [List.getElem?_eq_none (by rw [List.length_set]; omega)]; simp
      · rw [List.getElem?_set_ne hk] at h2 ⊢
        exact S.ne j k d1 d2 b hjk h1 h2 g
  wk := S.wk
  fd := S.fd
  bd := S.bd
/-- the slot's object is none of the others', being new -/
theorem SI.newer (S : SI K B F wa H w σ env) (h : H a = none) : ∀ (j : Nat) (e : D), env[j]? = some (some (e, true)) → σ[j]? ≠ some (some (V.ref a)) := fun j e g z => by
  obtain ⟨b, h1, o, _⟩ := S.ow j e g
  rw [h1] at z
  cases z
  obtain ⟨u, hu⟩ := o.some
  rw [h] at hu; cases hu
end
def sNil : SB := fun env w => some (.nx env w)
def sSeq (g h : SB) : SB := fun env w => (g env w).bind fun o => match o with
  | .nx e w' => h e w'
  | o => some o
def sSet (i : Nat) (f : EF) : SB := fun env w => (f env w).bind fun p => match p.1.2 with
  | .fz => some (.nx (env.set i (some (p.1.1, false))) p.2)
  | .ow => some (.nx (env.set i (some (p.1.1, true))) p.2)
  | .bo => none
def sRet (f : EF) : SB := fun env w => (f env w).bind fun p => some (.rt p.1 p.2)
def sDrop (f : EF) : SB := fun env w => (f env w).bind fun p => some (.nx env p.2)
def sIf (t : ET) (g h : SB) : SB := fun env w => (t env w).bind fun p => if p.1 = true then g env p.2 else h env p.2
def sBrk : SB := fun env w => some (.bk env w)
def sCnt : SB := fun env w => some (.ct env w)
def clr (is : List Nat) (env : En) : En := is.foldl (fun e i => match e[i]? with
  | some (some (d, _)) => e.set i (some (d, false))
  | _ => e) env
/-- some slots' own objects are given away -/
def sFrz (is : List Nat) (g : SB) : SB := fun env w => g (clr is env) w
def sAug (i : Nat) (g : D → D → Option DS) (f : EF) : SB := fun env w => match env[i]? with
  | some (some (d, false)) => (f env w).bind fun p => (g d p.1.1).bind fun r => match r.2 with
    | .fz => some (.nx (env.set i (some (r.1, false))) p.2)
    | _ => none
  | _ => none
def sApp (i : Nat) (f : EF) : SB := fun env w => (eFz f env w).bind fun p => match env[i]? with
  | some (some (.lst ds, true)) => if ds.length < lim then some (.nx (env.set i (some (.lst (ds ++ [p.1.1]), true))) p.2) else none
  | _ => none
def sExt (i : Nat) (f : EF) : SB := fun env w => (f env w).bind fun p => match env[i]?, p.1 with
  | some (some (.lst ds, true)), (.lst es, .ow) => if ds.length + es.length < lim then some (.nx (env.set i (some (.lst (ds ++ es), true))) p.2) else none
  | _, _ => none
def sIns0 (i : Nat) (f : EF) : SB := fun env w => (eFz f env w).bind fun p => match env[i]? with
  | some (some (.lst ds, true)) => if ds.length < lim then some (.nx (env.set i (some (.lst (p.1.1 :: ds), true))) p.2) else none
  | _ => none
/-- w['at'] += 1 -/
def sTick (i : Nat) : SB := fun env w => match env[i]?, w with
  | some (some (.w, false)), some W => some (.nx env (some ⟨W.draws, W.ix + 1⟩))
  | _, _ => none
def sWhile (t : ET) (g : SB) : Nat → SB
  | 0 => fun _ _ => none
  | n + 1 => fun env w => (t env w).bind fun p => if p.1 = true then (g env p.2).bind fun o => match o with
      | .nx e w' => sWhile t g n e w'
      | .ct e w' => sWhile t g n e w'
      | .bk e w' => some (.nx e w')
      | .rt r w' => some (.rt r w')
    else some (.nx env p.2)
abbrev ESet := D → En → Option En
def setN (i : Nat) : ESet := fun d env => some (env.set i (some (d, false)))
def setL : List Nat → List D → En → Option En
  | [], [], env => some env
  | i :: is, d :: ds, env => setL is ds (env.set i (some (d, false)))
  | _, _, _ => none
def setT (is : List Nat) : ESet := fun d env => match d with
  | .tup ds => setL is ds env
  | _ => none
def forL (set : ESet) (g : SB) : List D → SB
  | [] => fun env w => some (.nx env w)
  | d :: ds => fun env w => (set d env).bind fun env1 => (g env1 w).bind fun o => match o with
      | .nx e w' => forL set g ds e w'
      | .ct e w' => forL set g ds e w'
      | .bk e w' => some (.nx e w')
      | .rt r w' => some (.rt r w')
def sFor (set : ESet) (f : EI) (g : SB) : SB := fun env w => (f env w).bind fun p => forL set g p.1 env p.2
def sUnp (set : ESet) (f : EF) : SB := fun env w => (eFz f env w).bind fun p => (set p.1.1 env).map fun e => .nx e p.2
def sPar (i j : Nat) (f : EA) : SB := fun env w => (f env w).bind fun p => match p.1 with
  | [(d, s), (e, t)] => if s ≠ .bo ∧ t ≠ .bo then some (.nx ((env.set i (some (d, s == .ow))).set j (some (e, t == .ow))) p.2) else none
  | _ => none

section
variable {X : Cx} {st : Stmt} {sts : List Stmt} {e e1 a b c : Expr} {es : List Expr} {f fa : EF} {g h : SB} {t : ET} {pos pos' : Pos}
theorem ss_nil : SndSs X [] sNil := by
  refine pss_imp pss_nil fun Dn σ H q => ?_
  obtain ⟨B, F, wa, w, env, S, out, hf, k⟩ := q
  cases hf
  exact k σ F H (AftS.refl S.wk S.fd) S
theorem s_pass : SndS X (.Pass pos) sNil := by
  refine ps_imp ps_pass fun Dn σ H q => ?_
  obtain ⟨B, F, wa, w, env, S, out, hf, k⟩ := q
  cases hf
  exact k σ F H (AftS.refl S.wk S.fd) S
theorem s_brk : SndS X (.Break pos) sBrk := by
  refine ps_imp ps_break fun Dn σ H q => ?_
  obtain ⟨B, F, wa, w, env, S, out, hf, k⟩ := q
  cases hf
  exact k σ F H (AftS.refl S.wk S.fd) S
theorem s_cnt : SndS X (.Continue pos) sCnt := by
  refine ps_imp ps_continue fun Dn σ H q => ?_
  obtain ⟨B, F, wa, w, env, S, out, hf, k⟩ := q
  cases hf
  exact k σ F H (AftS.refl S.wk S.fd) S
theorem seq_of {K : KW} {Dn : Ends} {σ : L2.St} {H : Hp} (q : rdS K (sSeq g h) Dn σ H) : rdS K g { Dn with nx := rdS K h Dn } σ H := by
  obtain ⟨B, F, wa, w, env, S, out, hf, k⟩ := q
  unfold sSeq at hf
  obtain ⟨o, h1, h2⟩ := Option.bind_eq_some_iff.mp hf
  refine ⟨B, F, wa, w, env, S, o, h1, ?_⟩
  cases o with
  | nx e w1 => exact fun σ' F' H' A S' => ⟨B, F', wa, w1, e, S', out, h2, k.behind A⟩
  | bk e w1 => cases h2; exact k
  | ct e w1 => cases h2; exact k
  | rt p w1 => cases h2; exact k
theorem ss_cons (h1 : SndS X st g) (h2 : SndSs X sts h) : SndSs X (st :: sts) (sSeq g h) := pss_imp (pss_cons h1 h2) fun _ _ _ q => seq_of q
theorem ss_one (h1 : SndS X st g) : SndSs X [st] g := pss_one h1
theorem set_of {K : KW} {i : Nat} {Dn : Ends} {σ : L2.St} {H : Hp} (q : rdS K (sSet i f) Dn σ H) : rd K f σ H fun x H1 => Dn.nx (σ.set i (some x)) H1 := by
  obtain ⟨B, F, wa, w, env, S, out, hf, k⟩ := q
  unfold sSet at hf
  obtain ⟨⟨⟨d1, st1⟩, w1⟩, h1, h2⟩ := Option.bind_eq_some_iff.mp hf
  refine ⟨B, F, wa, w, env, S, d1, st1, w1, h1, fun v F1 H1 A r => ?_⟩
  have S1 := S.aft A
  cases st1 with
  | fz => cases h2; exact k _ F1 H1 (A.toS S.bd) (S1.set i r)
  | ow =>
    cases h2
    obtain ⟨a, e, o, z⟩ := r
    subst e
    exact k _ F1 H1 (A.toS S.bd) (S1.setOw i o (fun b => S.bd a b z) fun j e _ g => S.newer z j e g)
  | bo => cases h2
theorem s_set (i : Nat) {x : Str} (hN : X.N.Nodup) (hi : X.N[i]? = some x) (hx : Loc X.env.scope x) (he : Snd X e f) (hs : swapsWith e (some (.Name x pos')) pos.line X.env = pure false := by rfl) (hf : X.fn x = true ∨ X.env.scope.names.lookup x = some .local := by first | exact .inl rfl | exact .inr rfl | assumption) :
    SndS X (.Assign [.Name x pos'] e pos) (sSet i f) := ps_imp (ps_set hN hi hx he hs hf) fun _ _ _ q => set_of q
theorem s_ret (he : Snd X e f) : SndS X (.Return (some e) pos) (sRet f) := by
  refine ps_imp (ps_ret he) fun Dn σ H q => ?_
  obtain ⟨B, F, wa, w, env, S, out, hf, k⟩ := q
  unfold sRet at hf
  obtain ⟨⟨⟨d1, st1⟩, w1⟩, h1, h2⟩ := Option.bind_eq_some_iff.mp hf
  cases h2
  exact ⟨B, F, wa, w, env, S, d1, st1, _, h1, fun v F1 H1 A r => k v F1 H1 (A.toS S.bd) (r.ret S.bd)⟩
theorem s_drop (he : Snd X e f) (hs : swapsWith e none pos.line X.env = pure false := by rfl) : SndS X (.Expr e pos) (sDrop f) := by
  refine ps_imp (ps_expr he hs) fun Dn σ H q => ?_
  obtain ⟨B, F, wa, w, env, S, out, hf, k⟩ := q
  unfold sDrop at hf
  obtain ⟨⟨⟨d1, st1⟩, w1⟩, h1, h2⟩ := Option.bind_eq_some_iff.mp hf
  cases h2
  exact ⟨B, F, wa, w, env, S, d1, st1, _, h1, fun v F1 H1 A r => k σ F1 H1 (A.toS S.bd) (S.aft A)⟩
theorem s_if {p q : List Stmt} (hc : SndT X c t) (ha : SndSs X p g) (hb : SndSs X q h) : SndS X (.If c p q pos) (sIf t g h) := by
  refine ps_imp (ps_if hc ha hb) fun Dn σ H q => ?_
  obtain ⟨B, F, wa, w, env, S, out, hf, k⟩ := q
  unfold sIf at hf
  obtain ⟨⟨b1, w1⟩, h1, h2⟩ := Option.bind_eq_some_iff.mp hf
  refine ⟨B, F, wa, w, env, S, b1, w1, h1, fun F1 H1 A => ?_⟩
  cases b1 with
  | true => exact ⟨B, F1, wa, w1, env, S.aft A, out, h2, k.behind (A.toS S.bd)⟩
  | false => exact ⟨B, F1, wa, w1, env, S.aft A, out, h2, k.behind (A.toS S.bd)⟩
/-- a slot's own object is given away -/
theorem SI.clr1 {K : KW} {B F : Addr → Prop} {wa : Option Addr} {H : Hp} {w : Option Wd} {σ : L2.St} {env : En} (S : SI K B F wa H w σ env) (i : Nat) :
    ∃ F', AftS K B wa F H w F' H ∧ SI K B F' wa H w σ (clr [i] env) := by
  show ∃ F', AftS K B wa F H w F' H ∧ SI K B F' wa H w σ (match env[i]? with
    | some (some (d, _)) => env.set i (some (d, false))
    | _ => env)
  split
  · rename_i d fl e
    cases fl with
    | false =>
      obtain ⟨v, h1, r⟩ := S.fz i d e
      have S1 := S.set i r
      have e1 : σ.set i (some v) = σ := by
        obtain ⟨hl, e2⟩ := List.getElem?_eq_some_iff.mp h1
        rw [← e2, List.set_getElem_self]
      rw [e1] at S1
      exact ⟨F, AftS.refl S.wk S.fd, S1⟩
    | true =>
      obtain ⟨a, h1, o, nb⟩ := S.ow i d e
      obtain ⟨k, fd, r⟩ := o.freeze S.wk S.fd
      refine ⟨fun b => F b ∨ b = a, ⟨fun x h => .inl h, fun x h => h.elim .inl fun e => .inr (by rw [e]; exact nb), fun _ _ h _ _ => h, fun _ _ _ h => h, fun _ h => h, k, fd⟩, ?_⟩
      have m : ∀ d v, Rep K F wa H d v → Rep K (fun b => F b ∨ b = a) wa H d v := fun d v r => Rep.mono (fun _ z => .inl z) (fun _ _ _ z => z) d v r
      have ms : ∀ d v, Reps K F wa H d v → Reps K (fun b => F b ∨ b = a) wa H d v := fun d v r => Reps.mono (fun _ z => .inl z) (fun _ _ _ z => z) d v r
      have hil : i < env.length := (List.getElem?_eq_some_iff.mp e).1
      refine ⟨by rw [List.length_set]; exact S.len, fun j d' h => ?_, fun j d' h => ?_, fun j l d1 d2 b hjl g1 g2 g3 => ?_, k, fd, S.bd⟩
      · by_cases hj : i = j
        · subst hj
          rw [List.getElem?_set_self hil] at h
          cases h
          exact ⟨.ref a, h1, r⟩
        · rw [List.getElem?_set_ne hj] at h
          obtain ⟨v', h2, r2⟩ := S.fz j d' h
          exact ⟨v', h2, m _ _ r2⟩
      · by_cases hj : i = j
        · subst hj
          rw [List.getElem?_set_self hil] at h
          cases h
        · rw [List.getElem?_set_ne hj] at h
          obtain ⟨a', h2, ⟨q1, q2, q3⟩, nb2⟩ := S.ow j d' h
          obtain ⟨o3, h3, r3⟩ := q3
          refine ⟨a', h2, ⟨fun z => z.elim q1 fun ea => ?_, q2, o3, h3, r3.mono (fun _ z => .inl z) (fun _ _ _ z => z)⟩, nb2⟩
          subst ea
          exact S.ne i j _ _ a' hj e h h1 h2
      · have hj : i ≠ j := fun z => by subst z; rw [List.getElem?_set_self hil] at g1; cases g1
        have hl : i ≠ l := fun z => by subst z; rw [List.getElem?_set_self hil] at g2; cases g2
        rw [List.getElem?_set_ne hj] at g1
        rw [List.getElem?_set_ne hl] at g2
        exact S.ne j l d1 d2 b hjl g1 g2 g3
  · exact ⟨F, AftS.refl S.wk S.fd, S⟩
theorem SI.clr {K : KW} {B : Addr → Prop} {wa : Option Addr} {H : Hp} {w : Option Wd} {σ : L2.St} : ∀ (is : List Nat) {F : Addr → Prop} {env : En}, SI K B F wa H w σ env →
    ∃ F', AftS K B wa F H w F' H ∧ SI K B F' wa H w σ (clr is env)
  | [], F, env, S => ⟨F, AftS.refl S.wk S.fd, S⟩
  | i :: is, F, env, S => by
    obtain ⟨F1, A1, S1⟩ := S.clr1 i
    obtain ⟨F2, A2, S2⟩ := SI.clr is S1
    exact ⟨F2, A1.trans A2, S2⟩
theorem s_frz (is : List Nat) (hs : SndS X st g) : SndS X st (sFrz is g) := by
  refine ps_imp hs fun Dn σ H q => ?_
  obtain ⟨B, F, wa, w, env, S, out, hf, k⟩ := q
  obtain ⟨F1, A1, S1⟩ := SI.clr is S
  exact ⟨B, F1, wa, w, _, S1, out, hf, k.behind A1⟩
theorem s_aug (i : Nat) {x : Str} {op : Operator} {r : R2} {gg : D → D → Option DS} (hN : X.N.Nodup) (hi : X.N[i]? = some x) (hx : Loc X.env.scope x) (he : Snd X e f) (ho : PIp X op r) (hg : OpS (kwOf X) r gg) (hf : X.fn x = true ∨ X.env.scope.names.lookup x = some .local := by first | exact .inl rfl | exact .inr rfl | assumption) :
    SndS X (.AugAssign (.Name x pos') op e pos) (sAug i gg f) := by
  refine ps_imp (ps_aug hN hi hx he ho hf) fun Dn σ H q => ?_
  obtain ⟨B, F, wa, w, env, S, out, hf, k⟩ := q
  unfold sAug at hf
  split at hf
  · rename_i d hd
    obtain ⟨v0, h0, r0⟩ := S.fz i d hd
    obtain ⟨⟨⟨d1, st1⟩, w1⟩, h1, h2⟩ := Option.bind_eq_some_iff.mp hf
    obtain ⟨⟨d2, st2⟩, h3, h4⟩ := Option.bind_eq_some_iff.mp h2
    refine ⟨v0, h0, B, F, wa, w, env, S, d1, st1, w1, h1, fun v F1 H1 A r => ?_⟩
    refine hg wa w1 F1 H1 d d1 d2 st2 v0 v A.wk A.fd (A.rep r0).cur r.cur h3 _ fun v2 F2 H2 A2 r2 => ?_
    cases st2 with
    | fz => cases h4; exact k _ F2 H2 ((A.trans A2).toS S.bd) ((S.aft (A.trans A2)).set i r2)
    | _ => cases h4
  · cases hf
/-- one's own object is changed -/
theorem SI.write {K : KW} {B F : Addr → Prop} {wa : Option Addr} {H : Hp} {w : Option Wd} {σ : L2.St} {env : En} (S : SI K B F wa H w σ env) {i : Nat} {d d' : D} {a : Addr} {o : HO} (hd : env[i]? = some (some (d, true))) (ha : σ[i]? = some (some (.ref a)))
    (hn : OwnO K F wa H a d' o) :
    AftS K B wa F H w F (upd H a o) ∧ SI K B F wa (upd H a o) w σ (env.set i (some (d', true))) := by
  obtain ⟨a', h1, ⟨o1, o2, o3⟩, nb⟩ := S.ow i d hd
  rw [ha] at h1; cases h1
  have ex : ∃ u, H a = some u := OwnAt.some ⟨o1, o2, o3⟩
  have kf : ∀ b u, F b → H b = some u → upd H a o b = some u := fun b u fb h => by rw [upd_ne fun z => o1 (by rw [← z]; exact fb)]; exact h
  have mr : ∀ {d v}, Rep K F wa H d v → Rep K F wa (upd H a o) d v := fun {d v} r => Rep.mono (fun _ z => z) kf d v r
  have mrs : ∀ {ds vs}, Reps K F wa H ds vs → Reps K F wa (upd H a o) ds vs := fun {ds vs} r => Reps.mono (fun _ z => z) kf ds vs r
  have hdom : ∀ b, upd H a o b = none → H b = none := fun b h => by
    by_cases e : b = a
    · subst e; rw [upd_same] at h; cases h
    · rw [upd_ne e] at h; exact h
  have fd : ∀ b, F b → upd H a o b ≠ none := fun b fb h => S.fd b fb (hdom b h)
  have wk : WOk F wa (upd H a o) w := by
    have k := S.wk
    cases wa with
    | none => cases w with
      | none => trivial
      | some W => exact k
    | some x => cases w with
      | none => exact k
      | some W =>
        obtain ⟨g1, da, g2, g3, g4⟩ := k
        exact ⟨g1, da, g2, by rw [upd_ne fun z => o2 (by rw [z])]; exact g3, kf _ _ g2 g4⟩
  have hil : i < env.length := (List.getElem?_eq_some_iff.mp hd).1
  refine ⟨⟨fun _ h => h, fun _ h => .inl h, fun b u h hb _ => by rw [upd_ne fun z => nb (by rw [← z]; exact hb)]; exact h, kf, hdom, wk, fd⟩, ⟨by rw [List.length_set]; exact S.len, fun j d1 h => ?_, fun j d1 h => ?_, fun j l d1 d2 b hjl g1 g2 g3 => ?_, wk, fd, fun b hb h => S.bd b hb (hdom b h)⟩⟩
  · have hj : i ≠ j := fun z => by subst z; rw [List.getElem?_set_self hil] at h; cases h
    rw [List.getElem?_set_ne hj] at h
    obtain ⟨v, h2, r⟩ := S.fz j d1 h
    exact ⟨v, h2, mr r⟩
  · by_cases hj : i = j
    · subst hj
      rw [List.getElem?_set_self hil] at h
      cases h
      refine ⟨a, ha, ⟨o1, o2, ?_⟩, nb⟩
      exact ⟨o, upd_same, hn.mono (fun _ z => z) kf⟩
    · rw [List.getElem?_set_ne hj] at h
      obtain ⟨a2, h2, ⟨p1, p2, p3⟩, nb2⟩ := S.ow j d1 h
      have na : a2 ≠ a := fun z => by subst z; exact S.ne i j _ _ a2 hj hd h ha h2
      refine ⟨a2, h2, ⟨p1, p2, ?_⟩, nb2⟩
      obtain ⟨o4, e4, p4⟩ := p3
      exact ⟨o4, by rw [upd_ne na]; exact e4, p4.mono (fun _ z => z) kf⟩
  · have g1' : ∃ e, env[j]? = some (some (e, true)) := by
      by_cases hj : i = j
      · subst hj; exact ⟨d, hd⟩
      · rw [List.getElem?_set_ne hj] at g1; exact ⟨d1, g1⟩
    have g2' : ∃ e, env[l]? = some (some (e, true)) := by
      by_cases hj : i = l
      · subst hj; exact ⟨d, hd⟩
      · rw [List.getElem?_set_ne hj] at g2; exact ⟨d2, g2⟩
    obtain ⟨q1, g1'⟩ := g1'
    obtain ⟨q2, g2'⟩ := g2'
    exact S.ne j l q1 q2 b hjl g1' g2' g3
theorem lineN {n : Nat} (h : n < lim) : n < sizeLine := Nat.lt_of_lt_of_le h (by rw [sizeLine_eq, lim_eq]; decide)
/-- the slot's own list, to be changed -/
theorem own_lst {K : KW} {B F : Addr → Prop} {wa : Option Addr} {H : Hp} {w : Option Wd} {σ : L2.St} {env : En} (S : SI K B F wa H w σ env) {i : Nat} {ds : List D} (hd : env[i]? = some (some (.lst ds, true))) :
    ∃ a vs, σ[i]? = some (some (.ref a)) ∧ H a = some (.lst vs) ∧ Reps K F wa H ds vs ∧ wa ≠ some a := by
  obtain ⟨a, h1, o, _⟩ := S.ow i _ hd
  obtain ⟨vs, h, r⟩ := o.lst
  exact ⟨a, vs, h1, h, r, o.2.1⟩
theorem s_app (i : Nat) {x apos cpos : Pos} {nm : Str} (ho : PE X (.Name nm x) (tVar i)) (he : Snd X e f) (hs : starEach [e] X.env = (false, eval e X.env) :: starEach [] X.env := by rfl)
    (hpe : ∀ {to : TE} {ta : TA}, PE X (.Name nm x) to → PA X [e] ta → PE X (.Call (.Attribute (.Name nm x) "append" apos) [e] [] cpos) (tBM (kwOf X) "list" rAppend to ta) := by
      intro to ta h1 h2; exact pe_bm PySem.F.plainAttrs_list PySem.F.slot_list_append PySem.F.type_list_append mt_append h1 h2)
    (hsw : swapsWith (.Call (.Attribute (.Name nm x) "append" apos) [e] [] cpos) none pos.line X.env = pure false := by rfl) :
    SndS X (.Expr (.Call (.Attribute (.Name nm x) "append" apos) [e] [] cpos) pos) (sApp i f) := by
  refine ps_imp (ps_expr (hpe ho (pa_cons (e_fz he) pa_nil hs)) hsw) fun Dn σ H q => ?_
  obtain ⟨B, F, wa, w, env, S, out, hf, k⟩ := q
  unfold sApp at hf
  obtain ⟨⟨⟨d1, st1⟩, w1⟩, h1, h2⟩ := Option.bind_eq_some_iff.mp hf
  have e1 : st1 = .fz := by
    unfold eFz at h1
    obtain ⟨⟨⟨d3, st3⟩, w3⟩, h4, h5⟩ := Option.bind_eq_some_iff.mp h1
    cases st3 <;> cases h5 <;> rfl
  subst e1
  dsimp only at h2
  split at h2
  · rename_i ds hd
    split at h2
    · rename_i hz
      cases h2
      obtain ⟨a, vs, g1, g2, g3, g4⟩ := own_lst S hd
      refine ⟨.ref a, g1, .inl ⟨rfl, vs, .inl (.inl g2)⟩, ?_⟩
      refine ⟨B, F, wa, w, env, S, d1, .fz, _, h1, fun v F1 H1 A r => ?_⟩
      have S1 := S.aft A
      have h3 := A.keep a _ g2 g4
      have hl := g3.len
      refine ⟨a, vs, v, rfl, rfl, h3, by rw [← hl]; exact lineN hz, ?_⟩
      obtain ⟨A2, S2⟩ := S1.write (d' := .lst (ds ++ [d1])) (o := .lst (vs ++ [v])) hd g1 ⟨_, rfl, (A.reps g3).app (.one r)⟩
      exact k _ F1 _ ((A.toS S.bd).trans A2) S2
    · cases h2
  · cases h2
theorem s_ext (i : Nat) {x apos cpos : Pos} {nm : Str} (ho : PE X (.Name nm x) (tVar i)) (he : Snd X e f) (hs : starEach [e] X.env = (false, eval e X.env) :: starEach [] X.env := by rfl)
    (hpe : ∀ {to : TE} {ta : TA}, PE X (.Name nm x) to → PA X [e] ta → PE X (.Call (.Attribute (.Name nm x) "extend" apos) [e] [] cpos) (tBM (kwOf X) "list" rExtend to ta) := by
      intro to ta h1 h2; exact pe_bm PySem.F.plainAttrs_list PySem.F.slot_list_extend PySem.F.type_list_extend mt_extend h1 h2)
    (hsw : swapsWith (.Call (.Attribute (.Name nm x) "extend" apos) [e] [] cpos) none pos.line X.env = pure false := by rfl) :
    SndS X (.Expr (.Call (.Attribute (.Name nm x) "extend" apos) [e] [] cpos) pos) (sExt i f) := by
  refine ps_imp (ps_expr (hpe ho (pa_cons he pa_nil hs)) hsw) fun Dn σ H q => ?_
  obtain ⟨B, F, wa, w, env, S, out, hf, k⟩ := q
  unfold sExt at hf
  obtain ⟨⟨⟨d1, st1⟩, w1⟩, h1, h2⟩ := Option.bind_eq_some_iff.mp hf
  dsimp only at h2
  split at h2
  · rename_i ds es hd he2
    split at h2
    · rename_i hz
      cases h2
      cases he2
      obtain ⟨a, vs, g1, g2, g3, g4⟩ := own_lst S hd
      refine ⟨.ref a, g1, .inl ⟨rfl, vs, .inl (.inl g2)⟩, ?_⟩
      refine ⟨B, F, wa, w, env, S, _, .ow, _, h1, fun v F1 H1 A r => ?_⟩
      obtain ⟨b, eb, ob, nb⟩ := r
      subst eb
      obtain ⟨us, hb, rb⟩ := ob.lst
      have S1 := S.aft A
      have h3 := A.keep a _ g2 g4
      have hl := g3.len
      have hl2 := rb.len
      refine ⟨a, b, vs, us, rfl, rfl, h3, hb, by rw [← hl, ← hl2]; exact Nat.le_of_lt (lineN hz), ?_⟩
      obtain ⟨A2, S2⟩ := S1.write (d' := .lst (ds ++ es)) (o := .lst (vs ++ us)) hd g1 ⟨_, rfl, (A.reps g3).app rb⟩
      exact k _ F1 _ ((A.toS S.bd).trans A2) S2
    · cases h2
  · cases h2
theorem s_while (n : Nat) {body : List Stmt} (hp : PassesOwn (model X.prog X.w) X.A X.env X.xe) (hc : SndT X c t) (hb : SndSs X body g) : SndS X (.While c body [] pos) (sWhile t g n) := by
  refine ps_imp (ps_while hp hc hb) fun Dn σ H q => ?_
  obtain ⟨B, F, wa, w, env, S, out, hf, k⟩ := q
  refine ⟨fun m σ' H' => ∃ F' w' env', AftS (kwOf X) B wa F H w' F' H' ∧ SI (kwOf X) B F' wa H' w' σ' env' ∧ sWhile t g m env' w' = some out, ⟨n, F, w, env, AftS.refl S.wk S.fd, S, hf⟩, ?_⟩
  rintro m σ1 H1 ⟨F1, w1, env1, A1, S1, h1⟩
  cases m with
  | zero => cases h1
  | succ m =>
    have h1' : ((t env1 w1).bind fun p => if p.1 = true then (g env1 p.2).bind fun o => match o with
      | .nx e w' => sWhile t g m e w'
      | .ct e w' => sWhile t g m e w'
      | .bk e w' => some (.nx e w')
      | .rt r w' => some (.rt r w')
      else some (.nx env1 p.2)) = some out := h1
    obtain ⟨⟨b2, w2⟩, h2, h3⟩ := Option.bind_eq_some_iff.mp h1'
    refine ⟨B, F1, wa, w1, env1, S1, b2, w2, h2, fun F2 H2 A2 => ?_⟩
    have S2 := S1.aft A2
    have A12 := A1.trans (A2.toS S1.bd)
    cases b2 with
    | true =>
      refine iteT ?_
      have h3' : ((g env1 w2).bind fun o => match o with
        | .nx e w' => sWhile t g m e w'
        | .ct e w' => sWhile t g m e w'
        | .bk e w' => some (.nx e w')
        | .rt r w' => some (.rt r w')) = some out := h3
      obtain ⟨o, h4, h5⟩ := Option.bind_eq_some_iff.mp h3'
      refine ⟨fun σ' H' => ∃ F' w' env', AftS (kwOf X) B wa F H w' F' H' ∧ SI (kwOf X) B F' wa H' w' σ' env' ∧ sWhile t g m env' w' = some out, fun σ' H' hN => ⟨m, Nat.lt_succ_self m, hN⟩, B, F2, wa, w2, env1, S2, o, h4, ?_⟩
      cases o with
      | nx e w3 => exact fun σ' F' H' A' S' => ⟨F', w3, e, A12.trans A', S', h5⟩
      | ct e w3 => exact fun σ' F' H' A' S' => ⟨F', w3, e, A12.trans A', S', h5⟩
      | bk e w3 => cases h5; exact fun σ' F' H' A' S' => k σ' F' H' (A12.trans A') S'
      | rt r w3 => cases h5; exact fun v F' H' A' r => k v F' H' (A12.trans A') r
    | false =>
      refine iteF ?_
      have h3' : some (Out.nx env1 w2) = some out := h3
      cases h3'
      exact k σ1 F2 H2 A12 S2
end
end Dl

set_option Elab.async false
set_option linter.all false
set_option maxRecDepth 100000
set_option maxHeartbeats 4000000
namespace Dl
open PySem PySem.Spec PyProof.Rows L2
/-! ### what is walked -/
/-- an item: all of it frozen; or (u) a tuple that is only unpacked -/
def RepX (u : Bool) (K : KW) (F : Addr → Prop) (wa : Option Addr) (H : Hp) (d : D) (v : V) : Prop := Rep K F wa H d v ∨ (u = true ∧ ∃ ds a vs, d = .tup ds ∧ v = .ref a ∧ SqT K H a vs ∧ Reps K F wa H ds vs)
def ItOk (u : Bool) (K : KW) (wa : Option Addr) (Z : Addr → Prop) (F1 : Addr → Prop) (H1 : Hp) (J : It) (ds : List D) : Prop := ∀ (F2 : Addr → Prop) (H2 : Hp), (∀ a, F1 a → F2 a) → (∀ a o, F1 a → H1 a = some o → H2 a = some o) → (∀ a o, Z a → H1 a = some o → H2 a = some o) →
  (∀ (i : Nat) d, ds[i]? = some d → J.go i H2 ∧ ∀ x H3, J.yld i H2 x H3 → ∃ F3, (∀ w2, WOk F2 wa H2 w2 → (∀ a, F2 a → H2 a ≠ none) → Aft K wa F2 H2 w2 F3 H3) ∧ RepX u K F3 wa H3 d x) ∧ J.stop ds.length H2
abbrev ZF := Option Addr → (Addr → Prop) → Addr → Prop
def zF : ZF := fun _ F a => F a
def zC : ZF := fun wa _ a => wa ≠ some a
def rdI (u : Bool) (K : KW) (z : ZF) (f : EI) : TI := fun σ H R => ∃ B F wa w env, SI K B F wa H w σ env ∧ ∃ ds w', f env w = some (ds, w') ∧ ∀ J F' H', Aft K wa F H w' F' H' → ItOk u K wa (z wa F') F' H' J ds → R J H'
def SndI (u : Bool) (X : Cx) (tg e : Expr) (f : EI) : Prop := PI X tg e (rdI u (kwOf X) zF f)
def SndC (u : Bool) (X : Cx) (tg e : Expr) (f : EI) : Prop := PI X tg e (rdI u (kwOf X) zC f)
theorem SndI.c {u : Bool} {X : Cx} {tg e : Expr} {f : EI} (h : SndI u X tg e f) : SndC u X tg e f := by
  refine pi_imp h fun σ H R q => ?_
  obtain ⟨B, F, wa, w, env, S, ds, w', hf, k⟩ := q
  exact ⟨B, F, wa, w, env, S, ds, w', hf, fun J F' H' A ok => k J F' H' A fun F2 H2 h1 h2 h3 => ok F2 H2 h1 h2 h2⟩
theorem ItOk.x {K : KW} {wa : Option Addr} {Z F1 : Addr → Prop} {H1 : Hp} {J : It} {ds : List D} (h : ItOk false K wa Z F1 H1 J ds) (u : Bool) : ItOk u K wa Z F1 H1 J ds := fun F2 H2 a b c => by
  obtain ⟨h1, h2⟩ := h F2 H2 a b c
  refine ⟨fun i d hd => ?_, h2⟩
  obtain ⟨g, y⟩ := h1 i d hd
  refine ⟨g, fun x H3 hy => ?_⟩
  obtain ⟨F3, h4, h5⟩ := y x H3 hy
  exact ⟨F3, h4, .inl (h5.elim id fun z => nomatch z.1)⟩
theorem SndI.x {X : Cx} {tg e : Expr} {f : EI} (h : SndI false X tg e f) {u : Bool} : SndI u X tg e f := by
  refine pi_imp h fun σ H R q => ?_
  obtain ⟨B, F, wa, w, env, S, ds, w', hf, k⟩ := q
  exact ⟨B, F, wa, w, env, S, ds, w', hf, fun J F' H' A ok => k J F' H' A (ok.x u)⟩
theorem SndC.x {X : Cx} {tg e : Expr} {f : EI} (h : SndC false X tg e f) {u : Bool} : SndC u X tg e f := by
  refine pi_imp h fun σ H R q => ?_
  obtain ⟨B, F, wa, w, env, S, ds, w', hf, k⟩ := q
  exact ⟨B, F, wa, w, env, S, ds, w', hf, fun J F' H' A ok => k J F' H' A (ok.x u)⟩
/-- a target -/
def rdG (u : Bool) (K : KW) (is : List Nat) (set : ESet) : TG := fun v σ H Q => ∃ B F wa w env d, SI K B F wa H w σ env ∧ RepX u K F wa H d v ∧ ∃ env', set d env = some env' ∧ ∀ σ', SI K B F wa H w σ' env' → σ'.length = σ.length → (∀ i, i ∉ is → σ'[i]? = σ[i]?) → Q σ' H
def SndG (u : Bool) (X : Cx) (tg : Expr) (is : List Nat) (set : ESet) : Prop := PG X tg (rdG u (kwOf X) is set)
def rdGs (K : KW) (is : List Nat) : TGs := fun vs σ H Q => ∃ B F wa w env ds, SI K B F wa H w σ env ∧ Reps K F wa H ds vs ∧ ∃ env', setL is ds env = some env' ∧ ∀ σ', SI K B F wa H w σ' env' → σ'.length = σ.length → (∀ i, i ∉ is → σ'[i]? = σ[i]?) → Q σ' H
def SndGs (X : Cx) (tgs : List Expr) (is : List Nat) : Prop := PGs X tgs (rdGs (kwOf X) is)
section
variable {X : Cx} {tg e e1 e2 iter : Expr} {es : List Expr} {f fa : EF} {ga : EA} {g h : SB} {pos pos' : Pos} {set : ESet} {is : List Nat}
theorem pg_imp {t t' : TG} (h : PG X tg t) (k : ∀ v σ H Q, t' v σ H Q → t v σ H Q) : PG X tg t' := by
  obtain ⟨h⟩ := h
  exact ⟨fun pins s σ H v u Q I r q => h pins s σ H v u Q I r (k _ _ _ _ q)⟩
theorem pgs_imp {t t' : TGs} (h : PGs X es t) (k : ∀ v σ H Q, t' v σ H Q → t v σ H Q) : PGs X es t' := by
  obtain ⟨h⟩ := h
  exact ⟨fun pins s σ H v u Q I r q => h pins s σ H v u Q I r (k _ _ _ _ q)⟩
theorem g_name (i : Nat) {x : Str} (hN : X.N.Nodup) (hi : X.N[i]? = some x) (hx : Loc X.env.scope x) (hf : X.fn x = true ∨ X.env.scope.names.lookup x = some .local := by first | exact .inl rfl | exact .inr rfl | assumption) : SndG false X (.Name x pos) [i] (setN i) := by
  refine pg_imp (pg_name hN hi hx hf) fun v σ H Q q => ?_
  obtain ⟨B, F, wa, w, env, d, S, r, env', he, k⟩ := q
  cases he
  have r := r.elim id fun z => nomatch z.1
  exact k _ (S.set i r) (by rw [List.length_set]) fun j hj => by rw [List.getElem?_set_ne]; exact fun z => hj (by simp [z])
theorem gs_nil : SndGs X [] [] := by
  refine pgs_imp pgs_nil fun v σ H Q q => ?_
  obtain ⟨B, F, wa, w, env, ds, S, r, env', he, k⟩ := q
  cases ds with
  | nil => cases he; exact ⟨r, k σ S rfl fun _ _ => rfl⟩
  | cons d ds => cases he
theorem gs_cons {i : Nat} (h1 : SndG false X e [i] (setN i)) (h2 : SndGs X es is) (hs : (assignEach (e :: es) X.env).map (·.2) = assign e X.env :: (assignEach es X.env).map (·.2) := by rfl) : SndGs X (e :: es) (i :: is) := by
  refine pgs_imp (pgs_cons h1 h2 hs) fun v σ H Q q => ?_
  obtain ⟨B, F, wa, w, env, ds, S, r, env', he, k⟩ := q
  cases ds with
  | nil => cases he
  | cons d ds =>
    obtain ⟨v1, vs, e, r1, r2⟩ := r
    refine ⟨v1, vs, e, B, F, wa, w, env, d, S, .inl r1, _, rfl, fun σ' S' hl ha => ?_⟩
    refine ⟨B, F, wa, w, _, ds, S', r2, env', he, fun σ2 S2 hl2 ha2 => k σ2 S2 (hl2.trans hl) fun j hj => ?_⟩
    rw [ha2 j fun z => hj (List.mem_cons_of_mem _ z), ha j fun z => hj (by simp at z; simp [z])]
theorem g_tup {k : Nat} {n : Nat} (hc : X.calm = true) (h : SndGs X es is) (hl : is.length = n) (hn : (assignEach es X.env).length = n := by rfl) (hst : (assignEach es X.env).findIdx? (·.1) = none := by rfl) : SndG true X (.Tuple es k pos) is (setT is) := by
  refine pg_imp (pg_tup hc h hn hst) fun v σ H Q q => ?_
  obtain ⟨B, F, wa, w, env, d, S, r, env', he, k⟩ := q
  cases d with
  | tup ds =>
    obtain ⟨a, vs, e, hq, rr⟩ : ∃ a vs, v = .ref a ∧ SqT (kwOf X) H a vs ∧ Reps (kwOf X) F wa H ds vs := by
      rcases r with ⟨a, u, vs, e, hF, hH, ht, rr⟩ | ⟨_, ds', a, vs, e1, e, hq, rr⟩
      · exact ⟨a, vs, e, ht.sq hH, rr⟩
      · cases e1; exact ⟨a, vs, e, hq, rr⟩
    have hlen : ∀ (is : List Nat) (ds : List D) (env env' : En), setL is ds env = some env' → is.length = ds.length := by
      intro is
      induction is with
      | nil => intro ds env env' h; cases ds with
        | nil => rfl
        | cons d r => cases h
      | cons i is ih => intro ds env env' h; cases ds with
        | nil => cases h
        | cons d r => exact congrArg (· + 1) (ih r _ _ h)
    refine ⟨a, vs, e, hq, ?_, B, F, wa, w, env, ds, S, rr, env', he, k⟩
    rw [← rr.len, ← hlen is ds env env' he, hl]
  | _ => cases he
/-! ### sources -/
def itemsOf : D → Option (List D)
  | .lst ds => some ds
  | .tup ds => some ds
  | _ => none
def iSeq (f : EF) : EI := fun env w => (f env w).bind fun p => (itemsOf p.1.1).map fun ds => (ds, p.2)
def rangeD (lo hi : Int) : List D := (List.range (hi - lo).toNat).map fun (k : Nat) => .int (lo + k)
def downD (hi lo : Int) : List D := (List.range (hi - lo).toNat).map fun (k : Nat) => .int (hi - k)
def iRange (f : EA) : EI := fun env w => (f env w).bind fun p => match p.1 with
  | [(.int j, _)] => if -1000000 ≤ j ∧ j ≤ 1000000 then some (rangeD 0 j, p.2) else none
  | [(.int i, _), (.int j, _)] => if (-1000000 ≤ i ∧ i ≤ 1000000) ∧ -1000000 ≤ j ∧ j ≤ 1000000 then some (rangeD i j, p.2) else none
  | [(.int i, _), (.int j, _), (.int c, _)] => if ((-1000000 ≤ i ∧ i ≤ 1000000) ∧ -1000000 ≤ j ∧ j ≤ 1000000) ∧ c = -1 then some (downD i j, p.2) else none
  | _ => none
def iZipD (f : EA) : EI := fun env w => (f env w).bind fun p => match p.1 with
  | [(.lst xs, _), (.lst ys, _)] => some (List.zipWith (fun a b => .tup [a, b]) xs ys, p.2)
  | _ => none
def enumD : Int → List D → List D
  | _, [] => []
  | i, d :: ds => .tup [.int i, d] :: enumD (i + 1) ds
def iEnumD (f : EA) : EI := fun env w => (f env w).bind fun p => match p.1 with
  | [(.lst xs, _)] => some (enumD 0 xs, p.2)
  | _ => none
def iAny (K : KW) (tl : TE) : TI := fun σ H R => tl σ H fun x H1 => ∃ a, x = .ref a ∧ (((∃ xs, SqL K H1 a xs) ∧ R (Itl K a) H1) ∨ ((∃ xs, SqT K H1 a xs) ∧ R (Itt K a) H1))
theorem pi_any {l : Expr} {tl : TE} (hl : PE X l tl) : PI X tg l (iAny (kwOf X) tl) := by
  refine ⟨fun pins s σ H R I h => ?_⟩
  refine thn (hl.run pins s σ H _ I h) fun v s1 ⟨x, H1, I1, r1, q1⟩ => ?_
  obtain ⟨a, e, q⟩ := q1
  subst e
  cases r1
  rcases q with ⟨⟨xs, hq⟩, q⟩ | ⟨⟨xs, hq⟩, q⟩
  · obtain ⟨its, rv, p, hz⟩ := I1.list hq
    refine wpAny_pyIter_list p.isList ?_
    refine ⟨s1.heap.objs.size, [s1.heap.objs.size], _, _, H1, rfl, I1.kept (t' := s1.toks) fun b o e => Heap.get?_push_of_some _ e, turn_list a _, ⟨_, Heap.get?_push_size _ rfl, rfl, rfl⟩, fun b hb => ?_, q⟩
    have e : b = s1.heap.objs.size := by simpa using hb
    subst e
    exact I1.fpOk (Nat.le_refl _) (I1.hok.fresh (Nat.le_refl _))
  · obtain ⟨its, rv, p, hz⟩ := I1.tuple hq
    refine wpAny_pyIter_tuple (show s1.heap.IsTuple a its.toArray from p) ?_
    refine ⟨s1.heap.objs.size, [s1.heap.objs.size], _, _, H1, rfl, I1.kept (t' := s1.toks) fun b o e => Heap.get?_push_of_some _ e, turn_tuple a _, ⟨_, Heap.get?_push_size _ rfl, rfl, rfl⟩, fun b hb => ?_, q⟩
    have e : b = s1.heap.objs.size := by simpa using hb
    subst e
    exact I1.fpOk (Nat.le_refl _) (I1.hok.fresh (Nat.le_refl _))
theorem Reps.mono' {K : KW} {F F' : Addr → Prop} {wa : Option Addr} {H H' : Hp} {ds : List D} {vs : List V} (h : Reps K F wa H ds vs) (hF : ∀ a, F a → F' a) (hH : ∀ a o, F a → H a = some o → H' a = some o) : Reps K F' wa H' ds vs := Reps.mono hF hH ds vs h
theorem itOk_list {K : KW} {wa : Option Addr} {Z F1 : Addr → Prop} {H1 : Hp} {a : Addr} {ds : List D} {vs : List V} (hs : ∀ (F2 : Addr → Prop) (H2 : Hp), (∀ a, F1 a → F2 a) → (∀ a o, F1 a → H1 a = some o → H2 a = some o) → (∀ a o, Z a → H1 a = some o → H2 a = some o) → SqL K H2 a vs) (r : Reps K F1 wa H1 ds vs) : ItOk false K wa Z F1 H1 (Itl K a) ds := by
  intro F2 H2 h1 h2 h3
  have q : SqL K H2 a vs := hs F2 H2 h1 h2 h3
  have r2 : Reps K F2 wa H2 ds vs := r.mono' h1 h2
  refine ⟨fun i d hd => ?_, ⟨vs, q, by rw [← r.len]; exact Nat.le_refl _⟩⟩
  obtain ⟨v, e1, e2⟩ := r2.at hd
  refine ⟨⟨vs, v, q, e1⟩, fun x H3 y => ?_⟩
  obtain ⟨e3, y⟩ := y
  subst e3
  have e4 := (y vs q).symm.trans e1
  cases e4
  exact ⟨F2, fun w2 wk fd => Aft.refl wk fd, .inl e2⟩
theorem itOk_tup {K : KW} {wa : Option Addr} {Z F1 : Addr → Prop} {H1 : Hp} {a : Addr} {u : HO} {ds : List D} {vs : List V} (hF : F1 a) (hH : H1 a = some u) (ht : TupO u vs) (r : Reps K F1 wa H1 ds vs) : ItOk false K wa Z F1 H1 (Itt K a) ds := by
  intro F2 H2 h1 h2 h3
  have q : SqT K H2 a vs := ht.sq (h2 _ _ hF hH)
  have r2 : Reps K F2 wa H2 ds vs := r.mono' h1 h2
  refine ⟨fun i d hd => ?_, ⟨vs, q, by rw [← r.len]; exact Nat.le_refl _⟩⟩
  obtain ⟨v, e1, e2⟩ := r2.at hd
  refine ⟨⟨vs, v, q, e1⟩, fun x H3 y => ?_⟩
  obtain ⟨e3, y⟩ := y
  subst e3
  have e4 := (y vs q).symm.trans e1
  cases e4
  exact ⟨F2, fun w2 wk fd => Aft.refl wk fd, .inl e2⟩
theorem seq_fz {K : KW} {wa : Option Addr} {Z F1 : Addr → Prop} {H1 : Hp} {d : D} {v : V} {ds : List D} (r : Rep K F1 wa H1 d v) (hi : itemsOf d = some ds) : ∃ a, v = .ref a ∧ (((∃ xs, SqL K H1 a xs) ∧ ItOk false K wa Z F1 H1 (Itl K a) ds) ∨ ((∃ xs, SqT K H1 a xs) ∧ ItOk false K wa Z F1 H1 (Itt K a) ds)) := by
  cases d with
  | lst es =>
    cases hi
    obtain ⟨a, vs, e, hF, h, rr⟩ := r
    exact ⟨a, e, .inl ⟨⟨vs, .inl (.inl h)⟩, itOk_list (vs := vs) (fun F2 H2 h1 h2 h3 => .inl (.inl (h2 _ _ hF h))) rr⟩⟩
  | tup es =>
    cases hi
    obtain ⟨a, u, vs, e, hF, hH, ht, rr⟩ := r
    exact ⟨a, e, .inr ⟨⟨vs, ht.sq hH⟩, itOk_tup hF hH ht rr⟩⟩
  | _ => cases hi
theorem i_seq (he : Snd X e f) : SndI false X tg e (iSeq (eFz f)) := by
  refine pi_imp (pi_any (e_fz he)) fun σ H R q => ?_
  obtain ⟨B, F, wa, w, env, S, ds, w', hf, k⟩ := q
  unfold iSeq at hf
  obtain ⟨⟨⟨d1, st1⟩, w1⟩, h1, h2⟩ := Option.bind_eq_some_iff.mp hf
  obtain ⟨es, h3, h4⟩ := Option.map_eq_some_iff.mp h2
  cases h4
  have e1 : st1 = .fz := by
    unfold eFz at h1
    obtain ⟨⟨⟨d3, st3⟩, w3⟩, h4, h5⟩ := Option.bind_eq_some_iff.mp h1
    cases st3 <;> cases h5 <;> rfl
  subst e1
  refine ⟨B, F, wa, w, env, S, d1, .fz, _, h1, fun v F1 H1 A r => ?_⟩
  obtain ⟨a, ev, hh⟩ := seq_fz (Z := zF wa F1) r h3
  exact ⟨a, ev, hh.imp (fun z => ⟨z.1, k _ F1 H1 A z.2⟩) fun z => ⟨z.1, k _ F1 H1 A z.2⟩⟩
theorem i_seqC (he : Snd X e f) : SndC false X tg e (iSeq f) := by
  refine pi_imp (pi_any he) fun σ H R q => ?_
  obtain ⟨B, F, wa, w, env, S, ds, w', hf, k⟩ := q
  unfold iSeq at hf
  obtain ⟨⟨⟨d1, st1⟩, w1⟩, h1, h2⟩ := Option.bind_eq_some_iff.mp hf
  obtain ⟨es, h3, h4⟩ := Option.map_eq_some_iff.mp h2
  cases h4
  refine ⟨B, F, wa, w, env, S, d1, st1, _, h1, fun v F1 H1 A r => ?_⟩
  have ownc : ∀ a, OwnAt (kwOf X) F1 wa H1 d1 a → ∃ xs, SqL (kwOf X) H1 a xs ∧ ItOk false (kwOf X) wa (zC wa F1) F1 H1 (Itl (kwOf X) a) ds := fun a o => by
    have o2 := o.2.1
    cases d1 with
    | lst es =>
      obtain ⟨vs, h, rr⟩ := o.lst
      cases h3
      exact ⟨vs, .inl (.inl h), itOk_list (fun F2 H2 _ _ h3 => .inl (.inl (h3 a _ o2 h))) rr⟩
    | tup es => obtain ⟨_, _, _, _, ho⟩ := o; exact ho.elim
    | _ => cases h3
  cases st1 with
  | fz =>
    obtain ⟨a, ev, hh⟩ := seq_fz (Z := zC wa F1) r h3
    exact ⟨a, ev, hh.imp (fun z => ⟨z.1, k _ F1 H1 A z.2⟩) fun z => ⟨z.1, k _ F1 H1 A z.2⟩⟩
  | ow =>
    obtain ⟨a, ev, o, _⟩ := r
    obtain ⟨xs, h5, h6⟩ := ownc a o
    exact ⟨a, ev, .inl ⟨⟨xs, h5⟩, k _ F1 H1 A h6⟩⟩
  | bo =>
    obtain ⟨a, ev, o, _⟩ := r
    obtain ⟨xs, h5, h6⟩ := ownc a o
    exact ⟨a, ev, .inl ⟨⟨xs, h5⟩, k _ F1 H1 A h6⟩⟩
theorem itOk_range {K : KW} {wa : Option Addr} {Z F1 : Addr → Prop} {H1 : Hp} {lo hi : Int} : ItOk false K wa Z F1 H1 (Itr lo (hi - lo).toNat) (rangeD lo hi) := by
  intro F2 H2 h1 h2 h3
  have hlen : (rangeD lo hi).length = (hi - lo).toNat := by unfold rangeD; simp
  refine ⟨fun i d hd => ?_, by rw [hlen]; exact Nat.le_refl _⟩
  have hi' : i < (hi - lo).toNat := by rw [← hlen]; exact (List.getElem?_eq_some_iff.mp hd).1
  refine ⟨hi', fun x H3 y => ?_⟩
  obtain ⟨e3, y⟩ := y
  subst e3 y
  have e4 : d = .int (lo + i) := by
    unfold rangeD at hd
    rw [List.getElem?_map, List.getElem?_range hi'] at hd
    cases hd; rfl
  subst e4
  exact ⟨F2, fun w2 wk fd => Aft.refl wk fd, .inl rfl⟩
theorem itOk_down {K : KW} {wa : Option Addr} {Z F1 : Addr → Prop} {H1 : Hp} {hi lo : Int} : ItOk false K wa Z F1 H1 (Itc hi (-1) (hi - lo).toNat) (downD hi lo) := by
  intro F2 H2 h1 h2 h3
  have hlen : (downD hi lo).length = (hi - lo).toNat := by unfold downD; simp
  refine ⟨fun i d hd => ?_, by rw [hlen]; exact Nat.le_refl _⟩
  have hi' : i < (hi - lo).toNat := by rw [← hlen]; exact (List.getElem?_eq_some_iff.mp hd).1
  refine ⟨hi', fun x H3 y => ?_⟩
  obtain ⟨e3, y⟩ := y
  subst e3 y
  have e4 : d = .int (hi + (i : Nat) * -1) := by
    unfold downD at hd
    rw [List.getElem?_map, List.getElem?_range hi'] at hd
    have e5 : some (D.int (hi - (i : Nat))) = some d := hd
    have e6 : hi + ((i : Nat) : Int) * -1 = hi - (i : Nat) := by omega
    rw [e6]
    exact (Option.some.inj e5).symm
  subst e4
  exact ⟨F2, fun w2 wk fd => Aft.refl wk fd, .inl rfl⟩
theorem curs1 {K : KW} {F : Addr → Prop} {wa : Option Addr} {H : Hp} {d : D} {vs : List V} (h : CurS K F wa H [d] vs) : ∃ v, vs = [v] ∧ Cur K F wa H d v := by
  cases h with
  | cons r t => cases t; exact ⟨_, rfl, r⟩
theorem curs2 {K : KW} {F : Addr → Prop} {wa : Option Addr} {H : Hp} {d e : D} {vs : List V} (h : CurS K F wa H [d, e] vs) : ∃ v u, vs = [v, u] ∧ Cur K F wa H d v ∧ Cur K F wa H e u := by
  cases h with
  | cons r t =>
    obtain ⟨u, rfl, r2⟩ := curs1 t
    exact ⟨_, u, rfl, r, r2⟩
theorem curs3 {K : KW} {F : Addr → Prop} {wa : Option Addr} {H : Hp} {d e f : D} {vs : List V} (h : CurS K F wa H [d, e, f] vs) : ∃ v u t, vs = [v, u, t] ∧ Cur K F wa H d v ∧ Cur K F wa H e u ∧ Cur K F wa H f t := by
  cases h with
  | cons r t =>
    obtain ⟨u, t', rfl, r2, r3⟩ := curs2 t
    exact ⟨_, u, t', rfl, r, r2, r3⟩
theorem i_range1 {p : Pos} (hg : Gl X "range") (hm : X.mg "range" = none) (ha : SndA X [e] ga) (hs : starEach [e] X.env = [(false, eval e X.env)] := by rfl) (hone : ∀ env w ds w', ga env w = some (ds, w') → ds.length = 1) : SndI false X tg (.Call (.Name "range" p) [e] [] pos) (iRange ga) := by
  refine pi_imp (pi_range1 hg hm ha hs) fun σ H R q => ?_
  obtain ⟨B, F, wa, w, env, S, ds, w', hf, k⟩ := q
  unfold iRange at hf
  obtain ⟨⟨ps, w1⟩, h1, h2⟩ := Option.bind_eq_some_iff.mp hf
  have h0 := hone _ _ _ _ h1
  refine ⟨B, F, wa, w, env, S, ps, w1, h1, fun vs F1 H1 A r => ?_⟩
  have rc := r.cur
  match ps, h0 with
  | [(d, st)], _ =>
    obtain ⟨v, rfl, c⟩ := curs1 rc
    cases d with
    | int j =>
      dsimp only at h2
      split at h2
      · rename_i hb
        cases h2
        refine ⟨j, by rw [show v = .int j from c], by omega, by omega, ?_⟩
        have := k (Itr 0 j.toNat) F1 H1 A (by
          have e : j.toNat = (j - 0).toNat := by omega
          rw [e]
          exact itOk_range)
        exact this
      · cases h2
    | _ => cases h2
theorem i_range2 {p : Pos} (hg : Gl X "range") (hm : X.mg "range" = none) (ha : SndA X [e, e1] ga) (hone : ∀ env w ds w', ga env w = some (ds, w') → ds.length = 2) (hs : starEach [e, e1] X.env = [(false, eval e X.env), (false, eval e1 X.env)] := by rfl) (hs2 : starEach [e1] X.env = [(false, eval e1 X.env)] := by rfl) : SndI false X tg (.Call (.Name "range" p) [e, e1] [] pos) (iRange ga) := by
  refine pi_imp (pi_range2 hg hm ha hs hs2) fun σ H R q => ?_
  obtain ⟨B, F, wa, w, env, S, ds, w', hf, k⟩ := q
  unfold iRange at hf
  obtain ⟨⟨ps, w1⟩, h1, h2⟩ := Option.bind_eq_some_iff.mp hf
  have h0 := hone _ _ _ _ h1
  refine ⟨B, F, wa, w, env, S, ps, w1, h1, fun vs F1 H1 A r => ?_⟩
  have rc := r.cur
  match ps, h0 with
  | [(d, st), (d2, st2)], _ =>
    obtain ⟨v, u, rfl, c, c2⟩ := curs2 rc
    cases d with
    | int j => cases d2 with
      | int l =>
        dsimp only at h2
        split at h2
        · rename_i hb
          cases h2
          exact ⟨j, l, by rw [show v = .int j from c, show u = .int l from c2], ⟨by omega, by omega, by omega, by omega⟩, k _ F1 H1 A itOk_range⟩
        · cases h2
      | _ => cases h2
    | _ => cases h2
theorem i_range3 {p : Pos} (hg : Gl X "range") (hm : X.mg "range" = none) (ha : SndA X [e, e1, e2] ga) (hone : ∀ env w ds w', ga env w = some (ds, w') → ds.length = 3) (hs : starEach [e, e1, e2] X.env = (false, eval e X.env) :: starEach [e1, e2] X.env := by rfl) (hpl : (backTo pos (starEach [e1, e2] X.env)).any (·.1) = false := by rfl) : SndI false X tg (.Call (.Name "range" p) [e, e1, e2] [] pos) (iRange ga) := by
  refine pi_imp (pi_range3 hg hm ha hs hpl) fun σ H R q => ?_
  obtain ⟨B, F, wa, w, env, S, ds, w', hf, k⟩ := q
  unfold iRange at hf
  obtain ⟨⟨ps, w1⟩, h1, h2⟩ := Option.bind_eq_some_iff.mp hf
  have h0 := hone _ _ _ _ h1
  refine ⟨B, F, wa, w, env, S, ps, w1, h1, fun vs F1 H1 A r => ?_⟩
  have rc := r.cur
  match ps, h0 with
  | [(d, st), (d2, st2), (d3, st3)], _ =>
    obtain ⟨v, u, t, rfl, c, c2, c3⟩ := curs3 rc
    cases d with
    | int j => cases d2 with
      | int l => cases d3 with
        | int m =>
          dsimp only at h2
          split at h2
          · rename_i hb
            obtain ⟨hb, hm⟩ := hb
            subst hm
            cases h2
            exact ⟨j, l, -1, _, by rw [show v = .int j from c, show u = .int l from c2, show t = .int (-1) from c3], RgC.neg (by omega) (by omega) (by omega) (by omega), k _ F1 H1 A itOk_down⟩
          · cases h2
        | _ => cases h2
      | _ => cases h2
    | _ => cases h2
theorem a1_len {f : EF} : ∀ env w ds w', aCons f aNil env w = some (ds, w') → ds.length = 1 := fun env w ds w' h => by
  unfold aCons aNil at h
  obtain ⟨p, _, h2⟩ := Option.bind_eq_some_iff.mp h
  cases h2; rfl
theorem a2_len {f g : EF} : ∀ env w ds w', aCons f (aCons g aNil) env w = some (ds, w') → ds.length = 2 := fun env w ds w' h => by
  unfold aCons at h
  obtain ⟨p, _, h2⟩ := Option.bind_eq_some_iff.mp h
  obtain ⟨⟨q, w2⟩, h3, h4⟩ := Option.bind_eq_some_iff.mp h2
  cases h4
  show q.length + 1 = 2
  rw [a1_len _ _ _ _ h3]
theorem a3_len {f g h : EF} : ∀ env w ds w', aCons f (aCons g (aCons h aNil)) env w = some (ds, w') → ds.length = 3 := fun env w ds w' h => by
  rw [aCons] at h
  obtain ⟨p, _, h2⟩ := Option.bind_eq_some_iff.mp h
  obtain ⟨⟨q, w2⟩, h3, h4⟩ := Option.bind_eq_some_iff.mp h2
  cases h4
  show q.length + 1 = 3
  rw [a2_len _ _ _ _ h3]
theorem zipW_at {xs ys : List D} {i : Nat} {d : D} (h : (List.zipWith (fun a b => D.tup [a, b]) xs ys)[i]? = some d) : ∃ a b, xs[i]? = some a ∧ ys[i]? = some b ∧ d = .tup [a, b] := by
  rw [List.getElem?_zipWith] at h
  split at h
  · rename_i a b h1 h2
    cases h
    exact ⟨a, b, h1, h2, rfl⟩
  · cases h
/-- zip of two lists -/
theorem i_zip {p tpos : Pos} {elts : List Expr} {kk : Nat} (hg : Gl X "zip") (hm : X.mg "zip" = none) (ha : SndA X [e, e1] ga) (hone : ∀ env w ds w', ga env w = some (ds, w') → ds.length = 2) (hs : starEach [e, e1] X.env = (false, eval e X.env) :: starEach [e1] X.env := by rfl) (hpl : (backTo pos (starEach [e1] X.env)).any (·.1) = false := by rfl) :
    SndC true X (.Tuple elts kk tpos) (.Call (.Name "zip" p) [e, e1] [] pos) (iZipD ga) := by
  refine pi_imp (pi_zip hg hm ha hs hpl) fun σ H R q => ?_
  obtain ⟨B, F, wa, w, env, S, ds, w', hf, k⟩ := q
  unfold iZipD at hf
  obtain ⟨⟨ps, w1⟩, h1, h2⟩ := Option.bind_eq_some_iff.mp hf
  have h0 := hone _ _ _ _ h1
  refine ⟨B, F, wa, w, env, S, ps, w1, h1, fun vs F1 H1 A r => ?_⟩
  have stab : ∀ {st : O3} {xs : List D} {v : V}, RS (kwOf X) B F1 wa H H1 (.lst xs) st v → ∃ a us, v = .ref a ∧ Reps (kwOf X) F1 wa H1 xs us ∧ ∀ H2, (∀ a o, F1 a → H1 a = some o → H2 a = some o) → (∀ a o, wa ≠ some a → H1 a = some o → H2 a = some o) → SqL (kwOf X) H2 a us := by
    intro st xs v r
    have own : ∀ a, OwnAt (kwOf X) F1 wa H1 (.lst xs) a → ∃ us, Reps (kwOf X) F1 wa H1 xs us ∧ ∀ H2, (∀ a o, F1 a → H1 a = some o → H2 a = some o) → (∀ a o, wa ≠ some a → H1 a = some o → H2 a = some o) → SqL (kwOf X) H2 a us := fun a o => by
      have o2 := o.2.1
      obtain ⟨vs, h, rr⟩ := o.lst
      exact ⟨vs, rr, fun H2 _ g => .inl (.inl (g _ _ o2 h))⟩
    cases st with
    | fz =>
      obtain ⟨a, vs, e, hF, h, rr⟩ := r
      exact ⟨a, vs, e, rr, fun H2 g _ => .inl (.inl (g _ _ hF h))⟩
    | ow => obtain ⟨a, e, o, _⟩ := r; obtain ⟨us, q1, q2⟩ := own a o; exact ⟨a, us, e, q1, q2⟩
    | bo => obtain ⟨a, e, o, _⟩ := r; obtain ⟨us, q1, q2⟩ := own a o; exact ⟨a, us, e, q1, q2⟩
  match ps, h0 with
  | [(d, st), (d2, st2)], _ =>
    obtain ⟨r, _⟩ := r
    cases r with
    | @cons _ v1 _ _ r1 rr => cases rr with
      | @cons _ v2 _ _ r2 rrr =>
        cases rrr
        cases d with
        | lst xs => cases d2 with
          | lst ys =>
            cases h2
            obtain ⟨a, us, e1, p1, p2⟩ := stab r1
            obtain ⟨b, ts, e2, p3, p4⟩ := stab r2
            refine ⟨a, b, us, ts, by rw [show v1 = .ref a from e1, show v2 = .ref b from e2], p2 H1 (fun _ _ _ h => h) (fun _ _ _ h => h), p4 H1 (fun _ _ _ h => h) (fun _ _ _ h => h), k _ F1 H1 A fun F2 H2 g1 g2 g3 => ?_⟩
            have q1 := p2 H2 g2 g3
            have q2 := p4 H2 g2 g3
            have s1 := p1.mono' g1 g2
            have s2 := p3.mono' g1 g2
            refine ⟨fun i d hd => ?_, ⟨us, ts, q1, q2, ?_⟩⟩
            · obtain ⟨x, y, z1, z2, rfl⟩ := zipW_at hd
              obtain ⟨vx, y1, y2⟩ := s1.at z1
              obtain ⟨vy, y3, y4⟩ := s2.at z2
              refine ⟨⟨us, ts, vx, vy, q1, q2, y1, y3⟩, fun x' H3 yl => ?_⟩
              obtain ⟨T, a1, b1, e5, nT, e6, f1, f2⟩ := yl
              have ex : a1 = vx := Option.some.inj ((f1 _ q1).symm.trans y1)
              have ey : b1 = vy := Option.some.inj ((f2 _ q2).symm.trans y3)
              subst ex ey e5 e6
              refine ⟨F2, fun w2 wk fd => Aft.new0 wk fd nT, .inr ⟨rfl, _, T, [a1, b1], rfl, rfl, .inl (.inl upd_same), ?_⟩⟩
              have m : ∀ d v, Rep (kwOf X) F2 wa H2 d v → Rep (kwOf X) F2 wa (upd H2 T (.tup [a1, b1])) d v := fun d v r => Rep.mono (fun _ z => z) (fun c o _ h => by rw [upd_ne (ne_of_none h nT)]; exact h) d v r
              exact ⟨a1, [b1], rfl, m _ _ y2, b1, [], rfl, m _ _ y4, rfl⟩
            · rw [List.length_zipWith, ← p1.len, ← p3.len]
              omega
          | _ => cases h2
        | _ => cases h2
/-! ### for -/
theorem s_for {u : Bool} {body : List Stmt} {fi : EI} (hp : PassesOwn (model X.prog X.w) X.A X.env X.xe) (hc : X.calm = true) (hi : SndI u X tg iter fi) (hg : SndG u X tg is set) (hb : SndSs X body g) (hs : ∀ x, foldedSetIterable iter X.env x = pure x := by intro _; rfl) : SndS X (.For tg iter body [] pos) (sFor set fi g) := by
  refine ps_imp (ps_for hp hc hi hg hb hs) fun Dn σ H q => ?_
  obtain ⟨B, F, wa, w, env, S, out, hf, k⟩ := q
  unfold sFor at hf
  obtain ⟨⟨ds, w1⟩, h1, h2⟩ := Option.bind_eq_some_iff.mp hf
  refine ⟨B, F, wa, w, env, S, ds, w1, h1, fun J F1 H1 A ok => ?_⟩
  have A0 := A.toS S.bd
  have S1 := S.aft A
  refine ⟨fun i m σ' H' => i ≤ ds.length ∧ m = ds.length - i ∧ ∃ F' w' env', AftS (kwOf X) B wa F1 H1 w' F' H' ∧ SI (kwOf X) B F' wa H' w' σ' env' ∧ forL set g (ds.drop i) env' w' = some out, ⟨ds.length, Nat.zero_le _, by simp, F1, w1, env, AftS.refl S1.wk S1.fd, S1, h2⟩, ?_⟩
  rintro i m σ' H' ⟨hle, hm, F', w', env', A', S', h3⟩
  subst hm
  obtain ⟨okI, okS⟩ := ok F' H' A'.sub A'.kf A'.kf
  by_cases hlt : i < ds.length
  · have hd : ds[i]? = some ds[i] := by simp [hlt]
    obtain ⟨go, yl⟩ := okI i _ hd
    have e1 : ds.drop i = ds[i] :: ds.drop (i + 1) := List.drop_eq_getElem_cons hlt
    rw [e1] at h3
    have h3' : ((set ds[i] env').bind fun env1 => (g env1 w').bind fun o => match o with
      | .nx e w' => forL set g (ds.drop (i + 1)) e w'
      | .ct e w' => forL set g (ds.drop (i + 1)) e w'
      | .bk e w' => some (.nx e w')
      | .rt r w' => some (.rt r w')) = some out := h3
    obtain ⟨env1, h4, h5⟩ := Option.bind_eq_some_iff.mp h3'
    obtain ⟨o, h6, h7⟩ := Option.bind_eq_some_iff.mp h5
    refine .inr ⟨go, fun σ2 H2 => ∃ F2 w2 env2, AftS (kwOf X) B wa F1 H1 w2 F2 H2 ∧ SI (kwOf X) B F2 wa H2 w2 σ2 env2 ∧ forL set g (ds.drop (i + 1)) env2 w2 = some out, fun σ2 H2 hN => ⟨ds.length - (i + 1), by omega, by omega, rfl, hN⟩, fun x H3 y => ?_⟩
    obtain ⟨F3, A3, r3⟩ := yl x H3 y
    have A3' := A3 w' S'.wk S'.fd
    have S3 := S'.aft A3'
    have A13 := A'.trans (A3'.toS S'.bd)
    refine ⟨B, F3, wa, w', env', _, S3, r3, env1, h4, fun σ2 S2 _ _ => ?_⟩
    refine ⟨B, F3, wa, w', env1, S2, o, h6, ?_⟩
    cases o with
    | nx e w3 => exact fun σ4 F4 H4 A4 S4 => ⟨F4, w3, e, A13.trans A4, S4, h7⟩
    | ct e w3 => exact fun σ4 F4 H4 A4 S4 => ⟨F4, w3, e, A13.trans A4, S4, h7⟩
    | bk e w3 => cases h7; exact fun σ4 F4 H4 A4 S4 => k σ4 F4 H4 (A0.trans (A13.trans A4)) S4
    | rt r w3 => cases h7; exact fun v F4 H4 A4 r => k v F4 H4 (A0.trans (A13.trans A4)) r
  · have e : i = ds.length := by omega
    subst e
    rw [List.drop_length] at h3
    have h3' : some (Out.nx env' w') = some out := h3
    cases h3'
    exact .inl ⟨okS, k σ' F' H' (A0.trans A') S'⟩
theorem s_unp {u : Bool} {tg : Expr} (he : Snd X e f) (hg : SndG u X tg is set) (hs : swapsWithSole [tg] e pos.line X.env = pure false := by rfl) (hw : swappedStores [tg] e X.env = pure none := by rfl) (h1 : (assignEach [tg] X.env).map (·.2) = [assign tg X.env] := by rfl) : SndS X (.Assign [tg] e pos) (sUnp set f) := by
  refine ps_imp (ps_asg (e_fz he) hg hs hw h1) fun Dn σ H q => ?_
  obtain ⟨B, F, wa, w, env, S, out, hf, k⟩ := q
  unfold sUnp at hf
  obtain ⟨⟨⟨d1, st1⟩, w1⟩, h1, h2⟩ := Option.bind_eq_some_iff.mp hf
  obtain ⟨env2, h3, h4⟩ := Option.map_eq_some_iff.mp h2
  cases h4
  have e1 : st1 = .fz := by
    unfold eFz at h1
    obtain ⟨⟨⟨d3, st3⟩, w3⟩, h4, h5⟩ := Option.bind_eq_some_iff.mp h1
    cases st3 <;> cases h5 <;> rfl
  subst e1
  exact ⟨B, F, wa, w, env, S, d1, .fz, _, h1, fun v F1 H1 A r => ⟨B, F1, wa, w1, env, d1, S.aft A, .inl r, env2, h3, fun σ' S' _ _ => k σ' F1 H1 (A.toS S.bd) S'⟩⟩
theorem s_par (i j : Nat) {x y : Str} {a b : Expr} {px py pt : Pos} {kt k2 pt2} (hc : X.calm = true) (hN : X.N.Nodup) (hi : X.N[i]? = some x) (hj : X.N[j]? = some y) (hij : i ≠ j)
    (hx : X.env.scope.names.lookup x = some .local) (hy : X.env.scope.names.lookup y = some .local) (ha : SndA X [a, b] ga)
    (hw : swappedStores [.Tuple [.Name x px, .Name y py] kt pt] (.Tuple [a, b] k2 pt2) X.env = pure (some [x, y]) := by rfl)
    (hs : swapsWithSole [.Tuple [.Name x px, .Name y py] kt pt] (.Tuple [a, b] k2 pt2) pos.line X.env = pure false := by rfl) :
    SndS X (.Assign [.Tuple [.Name x px, .Name y py] kt pt] (.Tuple [a, b] k2 pt2) pos) (sPar i j ga) := by
  refine ps_imp (ps_par hc hN hi hj hij hx hy ha hw hs) fun Dn σ H q => ?_
  obtain ⟨B, F, wa, w, env, S, out, hf, k⟩ := q
  unfold sPar at hf
  obtain ⟨⟨ps, w1⟩, h1, h2⟩ := Option.bind_eq_some_iff.mp hf
  refine ⟨B, F, wa, w, env, S, ps, w1, h1, fun vs F1 H1 A r => ?_⟩
  dsimp only at h2
  split at h2
  · rename_i d s e t
    split at h2
    · rename_i hst
      cases h2
      obtain ⟨r, ap⟩ := r
      cases r with
      | @cons _ v1 _ _ r1 rr => cases rr with
        | @cons _ v2 _ _ r2 rrr =>
          cases rrr
          refine ⟨v1, v2, rfl, ?_⟩
          have S1 := S.aft A
          have A1 := A.toS S.bd
          have step1 : SI (kwOf X) B F1 wa H1 w1 (σ.set i (some v1)) (env.set i (some (d, s == .ow))) := by
            cases s with
            | fz => exact S1.set i r1
            | ow =>
              obtain ⟨a, ea, o, z⟩ := r1
              have ea' : v1 = .ref a := ea
              subst ea'
              exact S1.setOw i o (fun b => S.bd a b z) fun j e _ g => S.newer z j e g
            | bo => exact absurd rfl hst.1
          cases t with
          | fz => exact k _ F1 H1 A1 (step1.set j r2)
          | ow =>
            obtain ⟨b, eb, o2, z2⟩ := r2
            have eb' : v2 = .ref b := eb
            subst eb'
            refine k _ F1 H1 A1 (step1.setOw j o2 (fun bb => S.bd b bb z2) fun l e' hl g => ?_)
            by_cases hil : i = l
            · subst hil
              cases s with
              | ow =>
                have ne : V.ref b ≠ v1 := ap.1 rfl ((e, O3.ow), V.ref b) (List.mem_cons_self ..) rfl
                by_cases hlen : i < σ.length
                · rw [List.getElem?_set_self hlen]
                  exact fun z => ne (Option.some.inj (Option.some.inj z)).symm
                · rw [List.getElem?_eq_none (by rw [List.length_set]; omega)]; simp
              | fz => by_cases hlen : i < env.length
                      · rw [List.getElem?_set_self hlen] at g; cases g
                      · rw [List.getElem?_eq_none (by rw [List.length_set]; omega)] at g; cases g
              | bo => exact absurd rfl hst.1
            · rw [List.getElem?_set_ne hil] at g ⊢
              exact S.newer z2 l e' g
          | bo => exact absurd rfl hst.2
    · cases h2
  · cases h2
end
end Dl

set_option Elab.async false
set_option linter.all false
set_option maxRecDepth 100000
set_option maxHeartbeats 4000000
namespace Dl
open PySem PySem.Spec PyProof.Rows L2
/-! ### comprehensions -/
def wipeE (env : En) : List Nat → En
  | [] => env
  | v :: vs => (wipeE env vs).set v none
def lcL (set : ESet) (t : ET) (fe : EF) : List D → En → Option Wd → Option (List D × Option Wd)
  | [], _, w => some ([], w)
  | d :: ds, env, w => (set d env).bind fun env1 => (t env1 w).bind fun p => if p.1 = true then (eFz fe env1 p.2).bind fun q => (lcL set t fe ds env q.2).map fun r => (q.1.1 :: r.1, r.2) else lcL set t fe ds env p.2
def eLC (vs : List Nat) (set : ESet) (fi : EI) (t : ET) (fe : EF) : EF := fun env w => (fi env w).bind fun p => if p.1.length ≤ lim then (lcL set t fe p.1 (wipeE env vs) p.2).map fun r => ((.lst r.1, .ow), r.2) else none
def tYesD : ET := fun _ w => some (true, w)
def SndTs (X : Cx) (ifs : List Expr) (f : ET) : Prop := PTs X ifs (rdT (kwOf X) f)
theorem SI.none {K : KW} {B F : Addr → Prop} {wa : Option Addr} {H : Hp} {w : Option Wd} {σ : L2.St} {env : En} (S : SI K B F wa H w σ env) (i : Nat) : SI K B F wa H w (σ.set i Option.none) (env.set i Option.none) where
  len := by rw [List.length_set, List.length_set]; exact S.len
  fz := fun j e h => by
    by_cases hj : i = j
    · subst hj
      by_cases hl : i < env.length
      · rw [List.getElem?_set_self hl] at h; cases h
      · rw [List.getElem?_eq_none (by rw [List.length_set]; omega)] at h; cases h
    · rw [List.getElem?_set_ne hj] at h ⊢
      exact S.fz j e h
  ow := fun j e h => by
    by_cases hj : i = j
    · subst hj
      by_cases hl : i < env.length
      · rw [List.getElem?_set_self hl] at h; cases h
      · rw [List.getElem?_eq_none (by rw [List.length_set]; omega)] at h; cases h
    · rw [List.getElem?_set_ne hj] at h ⊢
      exact S.ow j e h
  ne := fun j k d1 d2 a hjk h1 h2 g => by
    have hj : i ≠ j := fun z => by
      subst z
      by_cases hl : i < env.length
      · rw [List.getElem?_set_self hl] at h1; cases h1
      · rw [List.getElem?_eq_none (by rw [List.length_set]; omega)] at h1; cases h1
    have hk : i ≠ k := fun z => by
      subst z
      by_cases hl : i < env.length
      · rw [List.getElem?_set_self hl] at h2; cases h2
      · rw [List.getElem?_eq_none (by rw [List.length_set]; omega)] at h2; cases h2
    rw [List.getElem?_set_ne hj] at h1 g
    rw [List.getElem?_set_ne hk] at h2 ⊢
    exact S.ne j k d1 d2 a hjk h1 h2 g
  wk := S.wk
  fd := S.fd
  bd := S.bd
theorem SI.wipe {K : KW} {B F : Addr → Prop} {wa : Option Addr} {H : Hp} {w : Option Wd} {σ : L2.St} {env : En} (S : SI K B F wa H w σ env) : ∀ vs : List Nat, SI K B F wa H w (wipe σ vs) (wipeE env vs)
  | [] => S
  | v :: vs => (S.wipe vs).none v
theorem wipe_at (σ : L2.St) {i : Nat} : ∀ {vs : List Nat}, i ∈ vs → (wipe σ vs)[i]? = if i < σ.length then some none else none
  | v :: vs, h => by
    unfold wipe
    by_cases e : v = i
    · subst e
      by_cases hl : v < σ.length
      · rw [List.getElem?_set_self (by rw [wipe_length]; exact hl), if_pos hl]
      · rw [List.getElem?_eq_none (by rw [List.length_set, wipe_length]; omega), if_neg hl]
    · rw [List.getElem?_set_ne e]
      exact wipe_at σ (by
        rcases List.mem_cons.mp h with z | z
        · exact absurd z.symm e
        · exact z)
theorem wipe_same {σ σ2 : L2.St} {vs is : List Nat} (hl : σ2.length = (wipe σ vs).length) (ha : ∀ i, i ∉ is → σ2[i]? = (wipe σ vs)[i]?) (hi : ∀ i ∈ is, i ∈ vs) : wipe σ2 vs = wipe σ vs := by
  apply List.ext_getElem?
  intro i
  by_cases h : i ∈ vs
  · rw [wipe_at σ2 h, wipe_at σ h, hl, wipe_length]
  · rw [wipe_out h, ha i fun z => h (hi i z)]
theorem pts_imp {X : Cx} {ifs : List Expr} {t t' : TT} (h : PTs X ifs t) (k : ∀ σ H Q, t' σ H Q → t σ H Q) : PTs X ifs t' := ⟨fun pins s σ H Q I q => h.run pins s σ H Q I (k _ _ _ q)⟩
section
variable {X : Cx} {tg e elt iter : Expr} {ifs : List Expr} {f fe : EF} {fi : EI} {t : ET} {pos pos' : Pos} {set : ESet} {is vs : List Nat}
theorem ts_nil : SndTs X [] tYesD := by
  refine pts_imp pts_nil fun σ H Q q => ?_
  obtain ⟨B, F, wa, w, env, S, b, w', hf, k⟩ := q
  cases hf
  exact k F H (Aft.refl S.wk S.fd)
theorem ts_one {c : Expr} (h : SndT X c t) : SndTs X [c] t := pts_one h
/-- the new list's object is changed while it is made -/
theorem Aft.over {K : KW} {F F1 : Addr → Prop} {wa : Option Addr} {H H1 : Hp} {w1 : Option Wd} {p : Addr} {o : HO} (A : Aft K wa F H w1 F1 H1) (hp : H p = none) (nf : ¬ F1 p) (nw : wa ≠ some p) : Aft K wa F H w1 F1 (upd H1 p o) where
  sub := A.sub
  new := A.new
  keep := fun a u h e => by rw [upd_ne (ne_of_none h hp)]; exact A.keep a u h e
  kf := fun a u f h => by rw [upd_ne (ne_of_none h hp)]; exact A.kf a u f h
  dom := fun a h => by
    by_cases e : a = p
    · subst e; exact hp
    · rw [upd_ne e] at h; exact A.dom a h
  wk := by
    have k := A.wk
    cases wa with
    | none => cases w1 with
      | none => trivial
      | some W => exact k
    | some x => cases w1 with
      | none => exact k
      | some W =>
        obtain ⟨g1, da, g2, g3, g4⟩ := k
        exact ⟨g1, da, g2, by rw [upd_ne fun z => nw (by rw [z])]; exact g3, by rw [upd_ne fun z => nf (by rw [← z]; exact g2)]; exact g4⟩
  fd := fun a f => by
    by_cases e : a = p
    · subst e; exact absurd f nf
    · rw [upd_ne e]; exact A.fd a f
theorem lc_of {u : Bool} {K : KW} {σ : L2.St} {H : Hp} {Q : VK} (hiv : ∀ i ∈ is, i ∈ vs) (q : rd K (eLC vs set fi t fe) σ H Q) : tLc (rdI u K zC fi) (rdG u K is set) (rdT K t) (rd K (eFz fe)) vs σ H Q := by
  obtain ⟨B, F, wa, w, env, S, d, st, w', hf, k⟩ := q
  unfold eLC at hf
  obtain ⟨⟨ds, w1⟩, h1, h2⟩ := Option.bind_eq_some_iff.mp hf
  dsimp only at h2
  split at h2
  · rename_i hlen
    obtain ⟨⟨xs, w9⟩, h3, h4⟩ := Option.map_eq_some_iff.mp h2
    cases h4
    refine ⟨B, F, wa, w, env, S, ds, w1, h1, fun J F1 H1 A ok => fun Da nD => ?_⟩
    have nw : wa ≠ some Da := A.wk.ne nD
    refine ⟨fun i m H' => i ≤ ds.length ∧ m = ds.length - i ∧ ∃ F' w2 av ad rest, Aft K wa F1 H1 w2 F' H' ∧ ¬ F' Da ∧ H' Da = some (.lst av) ∧ Reps K F' wa H' ad av ∧ ad.length ≤ i ∧ lcL set t fe (ds.drop i) (wipeE env vs) w2 = some (rest, w9) ∧ ad ++ rest = xs, ⟨ds.length, Nat.zero_le _, by simp, F1, w1, [], [], xs, Aft.new0 A.wk A.fd nD, fun z => A.fd Da z nD, upd_same, rfl, Nat.zero_le _, h3, rfl⟩, ?_⟩
    rintro i m H' ⟨hle, hm, F', w2, av, ad, rest, A', nF, hD, ra, hal, h5, h6⟩
    subst hm
    obtain ⟨okI, okS⟩ := ok F' H' A'.sub A'.kf fun a o z h => A'.keep a o h z
    by_cases hlt : i < ds.length
    · have hd : ds[i]? = some ds[i] := by simp [hlt]
      obtain ⟨go, yl⟩ := okI i _ hd
      rw [List.drop_eq_getElem_cons hlt] at h5
      have h5' : ((set ds[i] (wipeE env vs)).bind fun env1 => (t env1 w2).bind fun p => if p.1 = true then (eFz fe env1 p.2).bind fun q => (lcL set t fe (ds.drop (i + 1)) (wipeE env vs) q.2).map fun r => (q.1.1 :: r.1, r.2) else lcL set t fe (ds.drop (i + 1)) (wipeE env vs) p.2) = some (rest, w9) := h5
      obtain ⟨env1, h7, h8⟩ := Option.bind_eq_some_iff.mp h5'
      obtain ⟨⟨b, w3⟩, h9, h10⟩ := Option.bind_eq_some_iff.mp h8
      refine .inr ⟨go, fun H2 => i + 1 ≤ ds.length ∧ ∃ F2 w2 av ad rest, Aft K wa F1 H1 w2 F2 H2 ∧ ¬ F2 Da ∧ H2 Da = some (.lst av) ∧ Reps K F2 wa H2 ad av ∧ ad.length ≤ i + 1 ∧ lcL set t fe (ds.drop (i + 1)) (wipeE env vs) w2 = some (rest, w9) ∧ ad ++ rest = xs, fun H2 hN => ⟨ds.length - (i + 1), by omega, hN.1, rfl, hN.2⟩, fun x H3 y => ?_⟩
      obtain ⟨F3, A3, r3⟩ := yl x H3 y
      have S' : SI K B F' wa H' w2 (wipe σ vs) (wipeE env vs) := (S.aft (A.trans A')).wipe vs
      have A3' := A3 w2 S'.wk S'.fd
      refine ⟨B, F3, wa, w2, wipeE env vs, _, S'.aft A3', r3, env1, h7, fun σ2 S2 hl ha => ⟨wipe_same hl ha hiv, ?_⟩⟩
      have nf3 : ¬ F3 Da := fun z => by
        rcases A3'.new Da z with z | z
        · exact nF z
        · rw [hD] at z; cases z
      have hD3 : H3 Da = some (.lst av) := A3'.keep Da _ hD nw
      refine ⟨B, F3, wa, w2, env1, S2, b, w3, h9, fun F4 H4 A4 => ?_⟩
      have nf4 : ¬ F4 Da := fun z => by
        rcases A4.new Da z with z | z
        · exact nf3 z
        · rw [hD3] at z; cases z
      have hD4 : H4 Da = some (.lst av) := A4.keep Da _ hD3 nw
      have A14 := A'.trans (A3'.trans A4)
      have ra4 : Reps K F4 wa H4 ad av := (A3'.trans A4).reps ra
      cases b with
      | true =>
        refine iteT ?_
        have h10' : ((eFz fe env1 w3).bind fun q => (lcL set t fe (ds.drop (i + 1)) (wipeE env vs) q.2).map fun r => (q.1.1 :: r.1, r.2)) = some (rest, w9) := h10
        obtain ⟨⟨⟨d5, st5⟩, w5⟩, h11, h12⟩ := Option.bind_eq_some_iff.mp h10'
        obtain ⟨⟨rest2, w6⟩, h13, h14⟩ := Option.map_eq_some_iff.mp h12
        cases h14
        have e5 : st5 = .fz := by
          unfold eFz at h11
          obtain ⟨⟨⟨d6, st6⟩, w7⟩, g4, g5⟩ := Option.bind_eq_some_iff.mp h11
          cases st6 <;> cases g5 <;> rfl
        subst e5
        refine ⟨B, F4, wa, w3, env1, S2.aft A4, d5, .fz, w5, h11, fun v F5 H5 A5 r5 => ?_⟩
        have nf5 : ¬ F5 Da := fun z => by
          rcases A5.new Da z with z | z
          · exact nf4 z
          · rw [hD4] at z; cases z
        have hD5 : H5 Da = some (.lst av) := A5.keep Da _ hD4 nw
        have hal2 := ra.len
        refine ⟨av, hD5, by rw [← hal2]; exact Nat.lt_of_le_of_lt (Nat.le_trans hal (Nat.le_trans hle hlen)) (by rw [sizeLine_eq, lim_eq]; decide), by omega, F5, w5, av ++ [v], ad ++ [d5], rest2, (A14.trans A5).over nD nf5 nw, nf5, upd_same, ?_, by rw [List.length_append]; exact Nat.add_le_add_right hal 1, h13, by rw [List.append_assoc]; exact h6⟩
        have ra5 : Reps K F5 wa H5 (ad ++ [d5]) (av ++ [v]) := (A5.reps ra4).app (.one r5)
        exact ra5.mono' (fun _ z => z) fun c o f h => by rw [upd_ne fun z => nf5 (by rw [← z]; exact f)]; exact h
      | false =>
        refine iteF ?_
        exact ⟨by omega, F4, w3, av, ad, rest, A14, nf4, hD4, ra4, by omega, h10, h6⟩
    · have e : i = ds.length := by omega
      subst e
      rw [List.drop_length] at h5
      have h5' : some ([], w2) = some (rest, w9) := h5
      cases h5'
      rw [List.append_nil] at h6
      subst h6
      refine .inl ⟨okS, k _ F' H' (A.trans A') ?_⟩
      exact ⟨Da, rfl, OwnAt.mkL nF nw hD ra, A.dom Da nD⟩
  · cases h2
theorem e_lc {u : Bool} {scope : Scope} {own : List (Str × Nat)} (hc : X.calm = true) (hN : X.N.Nodup) (hi : SndC u X tg iter fi) (ok : BlkOk X.N X.env.scope scope own) (hiv : ∀ i ∈ is, i ∈ own.map (·.2))
    (hg : ∀ (s : Shared) (H : Hp) (C : Addr) (cl : List (Str × Addr)) (fp : List Addr), SndG u (X.blk s H scope (compEnvC scope cl C X.env) fp) tg is set) (ht : ∀ (s : Shared) (H : Hp) (C : Addr) (cl : List (Str × Addr)) (fp : List Addr), SndTs (X.blk s H scope (compEnvC scope cl C X.env) fp) ifs t)
    (he : ∀ (s : Shared) (H : Hp) (C : Addr) (cl : List (Str × Addr)) (fp : List Addr), Snd (X.blk s H scope (compEnvC scope cl C X.env) fp) elt fe) (hs : ∀ x, foldedSetIterable iter X.env x = pure x := by intro _; rfl) :
    Snd X (.ListComp elt [⟨tg, iter, ifs, 0⟩] scope pos) (eLC (own.map (·.2)) set fi t fe) :=
  pe_imp (pe_lc (g := rdG u (kwOf X) is set) (tt := rdT (kwOf X) t) (te := rd (kwOf X) (eFz fe)) hc hN hi ok hg ht (fun s H C cl fp => e_fz (he s H C cl fp)) hs) fun _ _ _ q => lc_of hiv q
theorem s_setLc {u : Bool} (i : Nat) {y : Str} {py spos : Pos} {scope : Scope} {own : List (Str × Nat)} (hc : X.calm = true) (hN : X.N.Nodup) (hy : X.N[i]? = some y) (hyl : X.env.scope.names.lookup y = some .local)
    (hsw : swapsWith (.ListComp elt [⟨tg, iter, ifs, 0⟩] scope pos) (some (.Name y py)) spos.line X.env = pure true) (hi : SndC u X tg iter fi) (ok : BlkOk X.N X.env.scope scope own) (hiv : ∀ i ∈ is, i ∈ own.map (·.2))
    (hg : ∀ (s : Shared) (H : Hp) (C : Addr) (cl : List (Str × Addr)) (fp : List Addr), SndG u (X.blk s H scope (compEnvC scope cl C X.env) fp) tg is set) (ht : ∀ (s : Shared) (H : Hp) (C : Addr) (cl : List (Str × Addr)) (fp : List Addr), SndTs (X.blk s H scope (compEnvC scope cl C X.env) fp) ifs t)
    (he : ∀ (s : Shared) (H : Hp) (C : Addr) (cl : List (Str × Addr)) (fp : List Addr), Snd (X.blk s H scope (compEnvC scope cl C X.env) fp) elt fe) (hs : ∀ x, foldedSetIterable iter X.env x = pure x := by intro _; rfl) :
    SndS X (.Assign [.Name y py] (.ListComp elt [⟨tg, iter, ifs, 0⟩] scope pos) spos) (sSet i (eLC (own.map (·.2)) set fi t fe)) :=
  ps_imp (ps_setLc (g := rdG u (kwOf X) is set) (tt := rdT (kwOf X) t) (te := rd (kwOf X) (eFz fe)) hc hN hy hyl hsw hi ok hg ht (fun s H C cl fp => e_fz (he s H C cl fp)) hs) fun _ _ _ q => lc_of hiv (set_of q)
end

/-! ### defs by their bodies -/
def startE (n : Nat) (ds : List D) : En := ds.map (fun d => some (d, false)) ++ List.replicate (n - ds.length) none
def retD (p : DS) : DS := (p.1, match p.2 with
  | .fz => .fz
  | _ => .ow)
def runFn (n p : Nat) (g : SB) : Fn := fun ds w => if ds.length = p then (g (startE n ds) w).bind fun o => match o with
  | .rt r w' => some (retD r, w')
  | .nx _ w' => some ((.non, .fz), w')
  | _ => none
  else none
theorem Reps.start {K : KW} {F : Addr → Prop} {wa : Option Addr} {H : Hp} : ∀ {ds : List D} {vs : List V}, Reps K F wa H ds vs → ∀ (m : Nat) (i : Nat) d fl, (ds.map (fun d => some (d, false)) ++ List.replicate m (none : Option (D × Bool)))[i]? = some (some (d, fl)) → fl = false ∧ ∃ v, (vs.map some ++ List.replicate m (none : Option V))[i]? = some (some v) ∧ Rep K F wa H d v
  | [], vs, h, m, i, d, fl, e => by
    rw [List.map_nil, List.nil_append, List.getElem?_replicate] at e
    split at e <;> cases e
  | d' :: ds, vs, h, m, 0, d, fl, e => by
    obtain ⟨v, r, h1, h2, h3⟩ := h
    subst h1
    cases e
    exact ⟨rfl, v, rfl, h2⟩
  | d' :: ds, vs, h, m, i + 1, d, fl, e => by
    obtain ⟨v, r, h1, h2, h3⟩ := h
    subst h1
    exact Reps.start h3 m i d fl e
theorem fn_d {P : Program} {ww : World} {K : PySem.W.Frag} {mg : Str → Option Value} {base : Heap} {x qual : Str} {st : Stmt} {f : Addr} {fd : FuncData} {N ps : List Str} {k : Nat} {g : SB} (Fu : Fun K x qual st f fd) (S : FnScope N ps (defScope st)) (hps : ps.length ≤ N.length)
    (hbody : ∀ (cdv : Value) (A : Around) (outer : List Env) (s : Shared) (H : Hp) (E : XK), Room k (A.deeper (envOfC qual (defScope st) s.heap.objs.size f cdv)) → SndSs (cxOf CX0 P ww K mg base N qual (defScope st) f cdv A outer s H E).nox (defBody st) g) :
    FnOk P ww K mg base CX0 (k + 1) f fd ps (spD (KW.mk K ww) (runFn N.length ps.length g)) := by
  have hlen : ∀ vs H Q E, spD (KW.mk K ww) (runFn N.length ps.length g) vs H Q E → vs.length = ps.length := fun vs H Q E h => by
    obtain ⟨F, wa, w, ds, wk, fd, r, d, st, w', hf, _⟩ := h
    rw [← r.len]
    unfold runFn at hf
    split at hf
    · assumption
    · cases hf
  refine Fu.ok S hlen (fun cdv A outer s H vs Q E hr h => ?_)
  have hl := hlen _ _ _ _ h
  obtain ⟨F, wa, w, ds, wk, fd, r, d, st, w', hf, k⟩ := h
  refine ⟨_, hbody cdv A outer s H E hr, ?_⟩
  unfold runFn at hf
  split at hf
  · rename_i hdl
    obtain ⟨out, h1, h2⟩ := Option.bind_eq_some_iff.mp hf
    have hst := r.start (N.length - ds.length)
    refine ⟨fun a => H a ≠ none, F, wa, w, startE N.length ds, ⟨?_, fun i d e => ?_, fun i d e => ?_, fun i j d e a _ e1 _ _ => ?_, wk, fd, fun a h => h⟩, out, h1, ?_⟩
    · unfold startE L2.start
      rw [List.length_append, List.length_append, List.length_map, List.length_map, List.length_replicate, List.length_replicate, r.len]
    · obtain ⟨_, v, e2, r2⟩ := hst i d false e
      refine ⟨v, ?_, r2⟩
      unfold L2.start
      rw [← r.len]
      exact e2
    · exact absurd (hst i d true e).1 (by decide)
    · exact absurd (hst i d true e1).1 (by decide)
    · have conv : ∀ {w2 F' H'}, AftS (KW.mk K ww) (fun a => H a ≠ none) wa F H w2 F' H' → Aft (KW.mk K ww) wa F H w2 F' H' := fun {w2 F' H'} A => ⟨A.sub, fun a h => (A.new a h).imp id fun z => Classical.not_not.mp z, fun a o h e => A.keep a o h (by rw [h]; simp) e, A.kf, A.dom, A.wk, A.fd⟩
      cases out with
      | nx e w2 =>
        cases h2
        exact fun σ' F' H' A S' => k .non F' H' (conv A) rfl
      | rt p w2 =>
        cases h2
        intro v F' H' A rr
        refine k v F' H' (conv A) ?_
        obtain ⟨d0, st0⟩ := p
        cases st0 with
        | fz => exact rr
        | ow => obtain ⟨a, e, o, z⟩ := rr; exact ⟨a, e, o, Classical.not_not.mp z⟩
        | bo => obtain ⟨a, e, o, z⟩ := rr; exact ⟨a, e, o, Classical.not_not.mp z⟩
      | bk e w2 => cases h2
      | ct e w2 => cases h2
  · cases hf
/-- no promise at all -/
theorem fn_0 {P : Program} {ww : World} {K : PySem.W.Frag} {mg : Str → Option Value} {base : Heap} {f : Addr} {fd : FuncData} {ps : List Str} {k : Nat} : FnOk P ww K mg base CX0 k f fd ps (spD (KW.mk K ww) fun _ _ => none) :=
  ⟨fun vs H Q E h => (by obtain ⟨_, _, _, _, _, _, _, _, _, _, hf, _⟩ := h; cases hf), fun A outer s H args us vs Q E _ _ _ _ h => (by obtain ⟨_, _, _, _, _, _, _, _, _, _, hf, _⟩ := h; cases hf)⟩
end Dl

set_option Elab.async false
set_option linter.all false
set_option maxRecDepth 100000
set_option maxHeartbeats 4000000
namespace Dl
open PySem PySem.Spec PyProof.Rows L2
/-! ### operations over data -/
abbrev fzO (d : D) : Option DS := some (d, .fz)
section
variable {K : KW} {F : Addr → Prop} {wa : Option Addr} {H : Hp} {w : Option Wd} {d : D} {v : V} {Q : VK}
theorem cur_int {i : Int} (h : Cur K F wa H (.int i) v) : v = .int i := h
theorem cur_bl {i : Bool} (h : Cur K F wa H (.bl i) v) : v = .bl i := h
theorem cur_str {i : Str} (h : Cur K F wa H (.str i) v) : v = .str i := h
theorem cur_non (h : Cur K F wa H .non v) : v = .non := h
theorem OpS.or1 {r r' : R2} {g : D → D → Option DS} (h : OpS K r g) : OpS K (fun x y H Q => r x y H Q ∨ r' x y H Q) g := fun wa w F H x y d st v1 v2 a b c e f Q q => .inl (h wa w F H x y d st v1 v2 a b c e f Q q)
theorem OpS.or2 {r r' : R2} {g : D → D → Option DS} (h : OpS K r' g) : OpS K (fun x y H Q => r x y H Q ∨ r' x y H Q) g := fun wa w F H x y d st v1 v2 a b c e f Q q => .inr (h wa w F H x y d st v1 v2 a b c e f Q q)
/-- the first that answers -/
def els2 (g h : D → D → Option DS) : D → D → Option DS := fun x y => match g x y with
  | some r => some r
  | none => h x y
theorem OpS.els {r r' : R2} {g g' : D → D → Option DS} (h : OpS K r g) (h' : OpS K r' g') : OpS K (fun x y H Q => r x y H Q ∨ r' x y H Q) (els2 g g') := fun wa w F H x y d st v1 v2 a b c e f Q q => by
  unfold els2 at f
  cases hg : g x y with
  | some r => rw [hg] at f; cases f; exact .inl (h wa w F H x y d st v1 v2 a b c e hg Q q)
  | none => rw [hg] at f; exact .inr (h' wa w F H x y d st v1 v2 a b c e f Q q)
/-- two ints -/
def dII (c : Int → Int → Bool) (f : Int → Int → D) : D → D → Option DS
  | .int i, .int j => if c i j = true then fzO (f i j) else none
  | _, _ => none
def dII0 (f : Int → Int → D) : D → D → Option DS
  | .int i, .int j => fzO (f i j)
  | _, _ => none
theorem sII0 {f : Int → Int → D} {g : Int → Int → V} (h : ∀ i j F wa H, Rep K F wa H (f i j) (g i j)) : OpS K (rI0 g) (dII0 f) := fun wa w F H x y d st v1 v2 wk fd c1 c2 e Q q => by
  cases x with
  | int i => cases y with
    | int j =>
      cases e
      exact ⟨i, j, cur_int c1, cur_int c2, q.fz wk fd (h i j _ _ _)⟩
    | _ => cases e
  | _ => cases e
theorem sII {C : Int → Int → Prop} {c : Int → Int → Bool} {f : Int → Int → D} {g : Int → Int → V} (hc : ∀ i j, c i j = true → C i j) (h : ∀ i j F wa H, Rep K F wa H (f i j) (g i j)) : OpS K (rI C g) (dII c f) := fun wa w F H x y d st v1 v2 wk fd c1 c2 e Q q => by
  cases x with
  | int i => cases y with
    | int j =>
      have e' : (if c i j = true then fzO (f i j) else none) = some (d, st) := e
      split at e'
      · rename_i hc'
        cases e'
        exact ⟨i, j, cur_int c1, cur_int c2, hc _ _ hc', q.fz wk fd (h i j _ _ _)⟩
      · cases e'
    | _ => cases e
  | _ => cases e
abbrev dAddI := dII0 fun i j => .int (i + j)
abbrev dSub := dII0 fun i j => .int (i - j)
abbrev dLt := dII0 fun i j => .bl (decide (i < j))
abbrev dLe := dII0 fun i j => .bl (decide (i ≤ j))
abbrev dGt := dII0 fun i j => .bl (decide (j < i))
abbrev dGe := dII0 fun i j => .bl (decide (j ≤ i))
abbrev dMul := dII (fun i j => decide (i.natAbs < 1000000000000) || decide (j.natAbs < 1000000000000)) fun i j => .int (i * j)
abbrev dMod := dII (fun _ j => decide (0 < j)) fun i j => .int (i % j)
abbrev dFdiv := dII (fun _ j => decide (0 < j) && decide (j < 1073741824)) fun i j => .int (i / j)
abbrev dPow := dII (fun i j => decide (0 ≤ j) && decide (j ≤ 1000) && decide (i.natAbs < 1000)) fun i j => .int (i ^ j.toNat)
abbrev dShl := dII (fun i j => decide (0 ≤ j) && decide (j ≤ 1000) && decide (i.natAbs < 1000)) fun i j => .int (i * 2 ^ j.toNat)
theorem sAddI : OpS K (rI0 fun i j => .int (i + j)) dAddI := sII0 fun _ _ _ _ _ => rfl
theorem sSub : OpS K (rI0 fun i j => .int (i - j)) dSub := sII0 fun _ _ _ _ _ => rfl
theorem sLt : OpS K (rI0 fun i j => .bl (decide (i < j))) dLt := sII0 fun _ _ _ _ _ => rfl
theorem sLe : OpS K (rI0 fun i j => .bl (decide (i ≤ j))) dLe := sII0 fun _ _ _ _ _ => rfl
theorem sGt : OpS K (rI0 fun i j => .bl (decide (j < i))) dGt := sII0 fun _ _ _ _ _ => rfl
theorem sGe : OpS K (rI0 fun i j => .bl (decide (j ≤ i))) dGe := sII0 fun _ _ _ _ _ => rfl
theorem sMul : OpS K (rI CMul fun i j => .int (i * j)) dMul := sII (fun i j h => by
  simp only [Bool.or_eq_true, decide_eq_true_eq] at h
  unfold CMul
  omega) fun _ _ _ _ _ => rfl
theorem sMod : OpS K (rI (fun _ j => 0 < j) fun i j => .int (i % j)) dMod := sII (fun i j h => of_decide_eq_true h) fun _ _ _ _ _ => rfl
theorem sFdiv : OpS K (rI CDiv fun i j => .int (i / j)) dFdiv := sII (fun i j h => by
  simp only [Bool.and_eq_true, decide_eq_true_eq] at h
  exact h) fun _ _ _ _ _ => rfl
theorem sPow : OpS K (rI CPow fun i j => .int (i ^ j.toNat)) dPow := sII (fun i j h => by
  simp only [Bool.and_eq_true, decide_eq_true_eq] at h
  unfold CPow
  omega) fun _ _ _ _ _ => rfl
theorem sShl : OpS K (rI CPow fun i j => .int (i * 2 ^ j.toNat)) dShl := sII (fun i j h => by
  simp only [Bool.and_eq_true, decide_eq_true_eq] at h
  unfold CPow
  omega) fun _ _ _ _ _ => rfl
/-- + of lists, of tuples, of texts -/
def dCatL : D → D → Option DS
  | .lst xs, .lst ys => if xs.length + ys.length ≤ lim then some (.lst (xs ++ ys), .ow) else none
  | _, _ => none
theorem line16 {n : Nat} (h : n ≤ lim) : n ≤ sizeLine := Nat.le_trans h (by rw [sizeLine_eq, lim_eq]; decide)
theorem sCatL : OpS K rCat dCatL := fun wa w F H x y d st v1 v2 wk fd c1 c2 e Q q => by
  cases x with
  | lst xs => cases y with
    | lst ys =>
      have e' : (if xs.length + ys.length ≤ lim then some (D.lst (xs ++ ys), O3.ow) else none) = some (d, st) := e
      split at e'
      · rename_i hz
        cases e'
        obtain ⟨a, us, e1, h1, r1⟩ := c1
        obtain ⟨b, ts, e2, h2, r2⟩ := c2
        exact ⟨a, b, us, ts, e1, e2, h1, h2, by rw [← r1.len, ← r2.len]; exact line16 hz, fun p hp => q.lst wk fd (r1.app r2) hp⟩
      · cases e'
    | _ => cases e
  | _ => cases e
def dCatT : D → D → Option DS
  | .tup xs, .tup ys => if xs.length + ys.length ≤ lim then some (.tup (xs ++ ys), .fz) else none
  | _, _ => none
/-- t + u -/
def rCatF (K : KW) : R2 := fun x y H Q => ∃ a b xs ys, x = .ref a ∧ y = .ref b ∧ SqT K H a xs ∧ SqT K H b ys ∧ xs.length + ys.length ≤ sizeLine ∧
  (xs = [] → Q (.ref b) H) ∧ (xs ≠ [] → ys = [] → Q (.ref a) H) ∧ (xs ≠ [] → ys ≠ [] → ∀ p u, H p = none → TupO u (xs ++ ys) → Q (.ref p) (upd H p u))
theorem op_catF {X : Cx} : OpR X (binaryOp .Add) (rCatF (kwOf X)) := by
  intro pins s σ H x y v u Q I rx ry h
  obtain ⟨a, b, xs, ys, rfl, rfl, ha, hb, hz, q0, q1, q2⟩ := h
  cases rx
  cases ry
  obtain ⟨its, r1, p1, _⟩ := I.tuple ha
  obtain ⟨its2, r2, p2, _⟩ := I.tuple hb
  by_cases hx : xs = []
  · subst hx
    cases r1
    exact cat_tup0 p1 p2 ⟨.ref b, H, I, rfl, q0 rfl⟩
  · have l1 := r1.length
    have l2 := r2.length
    refine HT.cat_tup p1 p2 (fun z => hx ((Vals.nil_iff r1).mp z)) (fun z => ⟨.ref a, H, I, rfl, q1 hx ((Vals.nil_iff r2).mp z)⟩) (fun z => ?_) (by rw [← l1, ← l2]; exact hz)
    exact ⟨.ref s.heap.objs.size, _, tup_laid (t' := s.toks) I (r1.append r2) (by rw [List.length_append]; exact hz), rfl, q2 hx (fun e => z ((Vals.nil_iff r2).mpr e)) _ _ (I.hok.fresh (Nat.le_refl _)) ⟨_, rfl, rfl, rfl⟩⟩
theorem sCatT : OpS K (rCatF K) dCatT := fun wa w F H x y d st v1 v2 wk fd c1 c2 e Q q => by
  cases x with
  | tup xs => cases y with
    | tup ys =>
      have e' : (if xs.length + ys.length ≤ lim then some (D.tup (xs ++ ys), O3.fz) else none) = some (d, st) := e
      split at e'
      · rename_i hz
        cases e'
        obtain ⟨a, u1, us, e1, f1, h1, t1, r1⟩ := c1
        obtain ⟨b, u2, ts, e2, f2, h2, t2, r2⟩ := c2
        refine ⟨a, b, us, ts, e1, e2, t1.sq h1, t2.sq h2, by rw [← r1.len, ← r2.len]; exact line16 hz, fun hx => ?_, fun hx hy => ?_, fun _ _ p u hp ht => q.tup wk fd (r1.app r2) hp ht⟩
        · subst hx
          have e3 : xs = [] := by
            have := r1.len
            cases xs with
            | nil => rfl
            | cons _ _ => cases this
          subst e3
          exact q.fz wk fd ⟨b, u2, ts, rfl, f2, h2, t2, r2⟩
        · subst hy
          have e3 : ys = [] := by
            have := r2.len
            cases ys with
            | nil => rfl
            | cons _ _ => cases this
          subst e3
          rw [List.append_nil] at q
          exact q.fz wk fd ⟨a, u1, us, rfl, f1, h1, t1, r1⟩
      · cases e'
    | _ => cases e
  | _ => cases e
def dCatS : D → D → Option DS
  | .str x, .str y => if x.length + y.length ≤ 100000 then some (.str (x ++ y), .fz) else none
  | _, _ => none
theorem sCatS : OpS K (fun x y H Q => ∃ i j, x = .str i ∧ y = .str j ∧ i.length + j.length ≤ sizeLine ∧ Q (.str (i ++ j)) H) dCatS := fun wa w F H x y d st v1 v2 wk fd c1 c2 e Q q => by
  cases x with
  | str i => cases y with
    | str j =>
      have e' : (if i.length + j.length ≤ 100000 then some (D.str (i ++ j), O3.fz) else none) = some (d, st) := e
      split at e'
      · rename_i hz
        cases e'
        exact ⟨i, j, cur_str c1, cur_str c2, Nat.le_trans hz (by decide), q.fz wk fd rfl⟩
      · cases e'
    | _ => cases e
  | _ => cases e

/-! ### equality -/
def eqFl : D → D → Option Bool
  | .int i, .int j => some (i == j)
  | .str x, .str y => some (x == y)
  | .bl a, .bl b => some (a == b)
  | .non, .non => some true
  | .non, .int _ => some false
  | .int _, .non => some false
  | .non, .bl _ => some false
  | .bl _, .non => some false
  | .non, .str _ => some false
  | .str _, .non => some false
  | .int _, .str _ => some false
  | .str _, .int _ => some false
  | .bl _, .str _ => some false
  | .str _, .bl _ => some false
  | _, _ => none
def dEqF (neg : Bool) : D → D → Option DS := fun x y => (eqFl x y).map fun b => (.bl (if neg then !b else b), .fz)
theorem eqFl_ok {x y : D} {b : Bool} {v u : V} (h : eqFl x y = some b) (c1 : Cur K F wa H x v) (c2 : Cur K F wa H y u) : scal v u = true ∧ decide (v = u) = b := by
  cases x <;> cases y <;> first
    | (cases h; done)
    | (cases c1; cases c2; cases h; refine ⟨rfl, ?_⟩; first | exact dec_int | exact dec_str | exact dec_bl | rfl)
theorem sEqF : OpS K rEq (dEqF false) := fun wa w F H x y d st v1 v2 wk fd c1 c2 e Q q => by
  obtain ⟨b, h1, h2⟩ := Option.map_eq_some_iff.mp e
  cases h2
  obtain ⟨g1, g2⟩ := eqFl_ok h1 c1 c2
  exact ⟨g1, q.fz wk fd (by rw [g2]; rfl)⟩
theorem sNeF : OpS K rNe (dEqF true) := fun wa w F H x y d st v1 v2 wk fd c1 c2 e Q q => by
  obtain ⟨b, h1, h2⟩ := Option.map_eq_some_iff.mp e
  cases h2
  obtain ⟨g1, g2⟩ := eqFl_ok h1 c1 c2
  exact ⟨g1, q.fz wk fd (by rw [g2]; rfl)⟩
mutual
def dPy : D → Option PyData
  | .non => some .none
  | .bl b => some (.bool b)
  | .int i => some (.int i)
  | .str x => some (.str x)
  | .tup ds => (dPys ds).map .tuple
  | .lst ds => (dPys ds).map .list
  | _ => none
def dPys : List D → Option (List PyData)
  | [] => some []
  | d :: ds => (dPy d).bind fun a => (dPys ds).map fun b => a :: b
end
mutual
theorem dPy_ok : ∀ (d : D) (v : V) (p : PyData), dPy d = some p → Rep K F wa H d v → Dp K H v p
  | .non, v, p, h, r => by cases h; cases (show v = .non from r); exact .non
  | .bl b, v, p, h, r => by cases h; cases (show v = .bl b from r); exact .bl b
  | .int i, v, p, h, r => by cases h; cases (show v = .int i from r); exact .int i
  | .str x, v, p, h, r => by cases h; cases (show v = .str x from r); exact .str x
  | .tup ds, v, p, h, r => by
    have h' : (dPys ds).map PyData.tuple = some p := h
    obtain ⟨ps, h1, h2⟩ := Option.map_eq_some_iff.mp h'
    obtain ⟨a, u, vs, e, _, hh, ht, rr⟩ := r
    subst e h2
    exact .tup (ht.sq hh) (dPys_ok ds vs ps h1 rr)
  | .lst ds, v, p, h, r => by
    have h' : (dPys ds).map PyData.list = some p := h
    obtain ⟨ps, h1, h2⟩ := Option.map_eq_some_iff.mp h'
    obtain ⟨a, vs, e, _, hh, rr⟩ := r
    subst e h2
    exact .lst (.inl (.inl hh)) (dPys_ok ds vs ps h1 rr)
  | .dk _ _, v, p, h, r => by cases h
  | .scr _, v, p, h, r => by cases h
  | .ty _, v, p, h, r => by cases h
  | .w, v, p, h, r => by cases h
theorem dPys_ok : ∀ (ds : List D) (vs : List V) (ps : List PyData), dPys ds = some ps → Reps K F wa H ds vs → DpAll K H vs ps
  | [], vs, ps, h, r => by
    cases h
    have e : vs = [] := r
    subst e
    exact .nil
  | d :: ds, vs, ps, h, r => by
    have h' : ((dPy d).bind fun a => (dPys ds).map fun b => a :: b) = some ps := h
    obtain ⟨a, h1, h2⟩ := Option.bind_eq_some_iff.mp h'
    obtain ⟨b, h3, h4⟩ := Option.map_eq_some_iff.mp h2
    obtain ⟨v, vr, e, r1, r2⟩ := r
    subst e h4
    exact .cons (dPy_ok d v a h1 r1) (dPys_ok ds vr b h3 r2)
end
theorem dPy_cur {d : D} {v : V} {p : PyData} (h : dPy d = some p) (r : Cur K F wa H d v) : Dp K H v p := by
  cases d with
  | tup ds =>
    have h' : (dPys ds).map PyData.tuple = some p := h
    obtain ⟨ps, h1, h2⟩ := Option.map_eq_some_iff.mp h'
    obtain ⟨a, u, vs, e, _, hh, ht, rr⟩ := r
    subst e h2
    exact .tup (ht.sq hh) (dPys_ok ds vs ps h1 rr)
  | lst ds =>
    have h' : (dPys ds).map PyData.list = some p := h
    obtain ⟨ps, h1, h2⟩ := Option.map_eq_some_iff.mp h'
    obtain ⟨a, vs, e, hh, rr⟩ := r
    subst e h2
    exact .lst (.inl (.inl hh)) (dPys_ok ds vs ps h1 rr)
  | non => exact dPy_ok (F := F) (wa := wa) _ v p h r
  | bl b => exact dPy_ok (F := F) (wa := wa) _ v p h r
  | int b => exact dPy_ok (F := F) (wa := wa) _ v p h r
  | str b => exact dPy_ok (F := F) (wa := wa) _ v p h r
  | _ => cases h
def dEqD (neg : Bool) : D → D → Option DS := fun x y => match dPy x, dPy y with
  | some a, some b => if (SeqAt.shaped a && SeqAt.shaped b) = true then some (.bl (if neg then !PyData.eqv a b else PyData.eqv a b), .fz) else none
  | _, _ => none
theorem dEqD_of {neg : Bool} {x y d : D} {st : O3} (h : dEqD neg x y = some (d, st)) : ∃ a b, dPy x = some a ∧ dPy y = some b ∧ SeqAt.shaped a = true ∧ SeqAt.shaped b = true ∧ d = .bl (if neg then !PyData.eqv a b else PyData.eqv a b) ∧ st = .fz := by
  unfold dEqD at h
  split at h
  · rename_i a b h1 h2
    split at h
    · rename_i hs
      cases h
      rw [Bool.and_eq_true] at hs
      exact ⟨a, b, h1, h2, hs.1, hs.2, rfl, rfl⟩
    · cases h
  · cases h
theorem sEqD : OpS K (rEqD K) (dEqD false) := fun wa w F H x y d st v1 v2 wk fd c1 c2 e Q q => by
  obtain ⟨a, b, h1, h2, s1, s2, e1, e2⟩ := dEqD_of e
  subst e1 e2
  exact ⟨a, b, dPy_cur h1 c1, dPy_cur h2 c2, s1, s2, q.fz wk fd rfl⟩
theorem sNeD : OpS K (rNeD K) (dEqD true) := fun wa w F H x y d st v1 v2 wk fd c1 c2 e Q q => by
  obtain ⟨a, b, h1, h2, s1, s2, e1, e2⟩ := dEqD_of e
  subst e1 e2
  exact ⟨a, b, dPy_cur h1 c1, dPy_cur h2 c2, s1, s2, q.fz wk fd rfl⟩
abbrev dEq : D → D → Option DS := els2 (dEqF false) (dEqD false)
abbrev dNe : D → D → Option DS := els2 (dEqF true) (dEqD true)
/-- in -/
def flatD : D → Bool
  | .non => true
  | .bl _ => true
  | .int _ => true
  | .str _ => true
  | _ => false
def eqF : D → D → Bool
  | .non, .non => true
  | .bl a, .bl b => a == b
  | .bl a, .int b => (if a then 1 else 0) == b
  | .int a, .bl b => a == (if b then 1 else 0)
  | .int a, .int b => a == b
  | .str a, .str b => a == b
  | _, _ => false
def dIn (neg : Bool) : D → D → Option DS := fun x y => (itemsOf y).bind fun ys => if flatD x = true ∧ ys.all flatD = true then fzO (.bl (if neg then !ys.any (fun z => eqF z x) else ys.any fun z => eqF z x)) else none
theorem flat_cur {d : D} {v : V} (h : flatD d = true) (r : Rep K F wa H d v) : flatV v = true := by
  cases d <;> first | (cases h; done) | (cases r; rfl)
theorem flat_reps : ∀ {ds : List D} {vs : List V}, Reps K F wa H ds vs → ds.all flatD = true → vs.all flatV = true
  | [], vs, r, _ => by
    have e : vs = [] := r
    subst e; rfl
  | d :: ds, vs, r, h => by
    obtain ⟨v, vr, e, r1, r2⟩ := r
    subst e
    rw [List.all_cons, Bool.and_eq_true] at h ⊢
    exact ⟨flat_cur h.1 r1, flat_reps r2 h.2⟩
theorem eqF_cur {x y : D} {v u : V} (hx : flatD x = true) (hy : flatD y = true) (r : Rep K F wa H x v) (r2 : Rep K F wa H y u) : eqV v u = eqF x y := by
  cases x <;> first | (cases hx; done) | (cases y <;> first | (cases hy; done) | (cases r; cases r2; rfl))
theorem any_reps {x : D} {v : V} (hx : flatD x = true) (r : Rep K F wa H x v) : ∀ {ds : List D} {vs : List V}, Reps K F wa H ds vs → ds.all flatD = true → inV v vs = ds.any fun z => eqF z x
  | [], vs, rr, _ => by
    have e : vs = [] := rr
    subst e; rfl
  | d :: ds, vs, rr, h => by
    obtain ⟨u, vr, e, r1, r2⟩ := rr
    subst e
    rw [List.all_cons, Bool.and_eq_true] at h
    show (eqV u v || inV v vr) = (eqF d x || ds.any fun z => eqF z x)
    rw [eqF_cur h.1 hx r1 r, any_reps hx r r2 h.2]
theorem flatD_rep {x : D} {v : V} (hx : flatD x = true) (r : Cur K F wa H x v) : Rep K F wa H x v := by
  cases x <;> first | (cases hx; done) | exact r
theorem sIn (neg : Bool) : OpS K (rIn K neg) (dIn neg) := fun wa w F H x y d st v1 v2 wk fd c1 c2 e Q q => by
  unfold dIn at e
  obtain ⟨ys, h1, h2⟩ := Option.bind_eq_some_iff.mp e
  split at h2
  · rename_i hf
    cases h2
    have rx := flatD_rep hf.1 c1
    cases y with
    | lst ds =>
      cases h1
      obtain ⟨a, vs, e1, hh, rr⟩ := c2
      exact ⟨a, vs, e1, .inl (.inl (.inl hh)), flat_cur hf.1 rx, flat_reps rr hf.2, q.fz wk fd (by rw [any_reps hf.1 rx rr hf.2]; rfl)⟩
    | tup ds =>
      cases h1
      obtain ⟨a, u, vs, e1, _, hh, ht, rr⟩ := c2
      exact ⟨a, vs, e1, .inr (ht.sq hh), flat_cur hf.1 rx, flat_reps rr hf.2, q.fz wk fd (by rw [any_reps hf.1 rx rr hf.2]; rfl)⟩
    | _ => cases h1
  · cases h2
/-- is, is not, of None, True, False -/
def isC : D → D → Option Bool
  | .non, .non => some true
  | .bl a, .bl b => some (a == b)
  | .non, .bl _ => some false
  | .bl _, .non => some false
  | .int _, .non => some false
  | .str _, .non => some false
  | .tup _, .non => some false
  | .lst _, .non => some false
  | .dk _ _, .non => some false
  | _, _ => none
def dIs (neg : Bool) : D → D → Option DS := fun x y => (isC x y).map fun b => (.bl (if neg then !b else b), .fz)
def rIsC : R2 := fun x y H Q => (∃ b, y = .bl b ∧ (x = .non ∨ ∃ a, x = .bl a) ∧ Q (.bl (decide (x = y))) H) ∨ (y = .non ∧ Q (.bl (decide (x = .non))) H)
def rNotC : R2 := fun x y H Q => (∃ b, y = .bl b ∧ (x = .non ∨ ∃ a, x = .bl a) ∧ Q (.bl (!decide (x = y))) H) ∨ (y = .non ∧ Q (.bl (!decide (x = .non))) H)
theorem op_isC {X : Cx} : OpR X (compareOp .Is) rIsC := by
  intro pins s σ H x y v u Q I rx ry h
  rcases h with ⟨b, e, hx, q⟩ | h
  · subst e
    cases (show u = Value.bool b from ry)
    rcases hx with e | ⟨a, e⟩
    · subst e
      cases (show v = Value.none from rx)
      exact wpAny_is_other rfl (fun z => nomatch z) ⟨.bl false, H, I, rfl, by simpa using q⟩
    · subst e
      exact op_isBl pins s σ H _ _ v _ Q I rx ry ⟨a, b, rfl, rfl, by simpa using q⟩
  · exact op_isN pins s σ H x y v u Q I rx ry h
theorem op_notC {X : Cx} : OpR X (compareOp .IsNot) rNotC := by
  intro pins s σ H x y v u Q I rx ry h
  rcases h with ⟨b, e, hx, q⟩ | h
  · subst e
    cases (show u = Value.bool b from ry)
    rcases hx with e | ⟨a, e⟩
    · subst e
      cases (show v = Value.none from rx)
      exact wpAny_isNot_other rfl (fun z => nomatch z) ⟨.bl true, H, I, rfl, by simpa using q⟩
    · subst e
      exact op_notBl pins s σ H _ _ v _ Q I rx ry ⟨a, b, rfl, rfl, by simpa using q⟩
  · exact op_notN pins s σ H x y v u Q I rx ry h
theorem isC_ok {x y : D} {b : Bool} {v u : V} (h : isC x y = some b) (c1 : Cur K F wa H x v) (c2 : Cur K F wa H y u) : ((∃ c, u = .bl c ∧ (v = .non ∨ ∃ a, v = .bl a)) ∨ u = .non) ∧ decide (v = u) = b := by
  cases y with
  | non =>
    cases (show u = .non from c2)
    refine ⟨.inr rfl, ?_⟩
    cases x with
    | non => cases c1; cases h; rfl
    | bl a => cases c1; cases h; rfl
    | int a => cases c1; cases h; rfl
    | str a => cases c1; cases h; rfl
    | tup ds => obtain ⟨a, u, vs, e, _⟩ := c1; subst e; cases h; rfl
    | lst ds => obtain ⟨a, vs, e, _⟩ := c1; subst e; cases h; rfl
    | dk ks ds => obtain ⟨a, vs, e, _⟩ := c1; subst e; cases h; rfl
    | _ => cases h
  | bl c =>
    cases (show u = .bl c from c2)
    cases x with
    | non => cases c1; cases h; exact ⟨.inl ⟨c, rfl, .inl rfl⟩, rfl⟩
    | bl a => cases c1; cases h; exact ⟨.inl ⟨c, rfl, .inr ⟨a, rfl⟩⟩, dec_bl⟩
    | _ => cases h
  | _ => cases x <;> cases h
theorem sIs : OpS K rIsC (dIs false) := fun wa w F H x y d st v1 v2 wk fd c1 c2 e Q q => by
  obtain ⟨b, h1, h2⟩ := Option.map_eq_some_iff.mp e
  cases h2
  obtain ⟨g1, g2⟩ := isC_ok h1 c1 c2
  have q' := q.fz wk fd (show Rep K F wa H (.bl b) (.bl (decide (v1 = v2))) by rw [g2]; rfl)
  rcases g1 with ⟨c, e1, e2⟩ | e1
  · exact .inl ⟨c, e1, e2, q'⟩
  · subst e1; exact .inr ⟨rfl, q'⟩
theorem sIsN : OpS K rNotC (dIs true) := fun wa w F H x y d st v1 v2 wk fd c1 c2 e Q q => by
  obtain ⟨b, h1, h2⟩ := Option.map_eq_some_iff.mp e
  cases h2
  obtain ⟨g1, g2⟩ := isC_ok h1 c1 c2
  have q' := q.fz wk fd (show Rep K F wa H (.bl (!b)) (.bl (!decide (v1 = v2))) by rw [g2]; rfl)
  rcases g1 with ⟨c, e1, e2⟩ | e1
  · exact .inl ⟨c, e1, e2, q'⟩
  · subst e1; exact .inr ⟨rfl, q'⟩
/-! ### subscripts -/
def dIx : D → D → Option DS
  | .tup ds, .int i => (atI ds i).map fun d => (d, .fz)
  | .lst ds, .int i => (atI ds i).map fun d => (d, .fz)
  | .scr ns, .int i => (atI ns i).map fun n => (.int n, .fz)
  | .str z, .int i => if z.length ≤ lim then (atI z.cps.toList i).map fun c => (.str ⟨#[c]⟩, .fz) else none
  | _, _ => none
theorem atI_reps {ds : List D} {vs : List V} {i : Int} {d : D} (r : Reps K F wa H ds vs) (h : atI ds i = some d) : ∃ v, atI vs i = some v ∧ Rep K F wa H d v := by
  unfold atI at h ⊢
  rw [← r.len]
  obtain ⟨j, h1, h2⟩ := Option.bind_eq_some_iff.mp h
  rw [h1]
  exact r.at h2
theorem sIx : OpS K (rIx K) dIx := fun wa w F H x y d st v1 v2 wk fd c1 c2 e Q q => by
  cases y with
  | int i =>
    cases (show v2 = .int i from c2)
    cases x with
    | tup ds =>
      obtain ⟨d', h1, h2⟩ := Option.map_eq_some_iff.mp e
      cases h2
      obtain ⟨a, u, vs, e1, _, hh, ht, rr⟩ := c1
      obtain ⟨v, h3, h4⟩ := atI_reps rr h1
      exact .inr (.inl ⟨a, vs, i, v, e1, rfl, ht.sq hh, h3, q.fz wk fd h4⟩)
    | lst ds =>
      obtain ⟨d', h1, h2⟩ := Option.map_eq_some_iff.mp e
      cases h2
      obtain ⟨a, vs, e1, hh, rr⟩ := c1
      obtain ⟨v, h3, h4⟩ := atI_reps rr h1
      exact .inl ⟨a, vs, i, v, e1, rfl, .inl (.inl hh), h3, q.fz wk fd h4⟩
    | scr ns =>
      obtain ⟨n, h1, h2⟩ := Option.map_eq_some_iff.mp e
      cases h2
      obtain ⟨a, e1, hh⟩ := c1
      refine .inl ⟨a, _, i, .int n, e1, rfl, hh, ?_, q.fz wk fd rfl⟩
      unfold atI at h1 ⊢
      obtain ⟨j, h3, h4⟩ := Option.bind_eq_some_iff.mp h1
      rw [List.length_map, h3]
      show (ns.map V.int)[j]? = some (.int n)
      rw [List.getElem?_map, h4]; rfl
    | str z =>
      have e' : (if z.length ≤ lim then (atI z.cps.toList i).map fun c => (D.str ⟨#[c]⟩, O3.fz) else none) = some (d, st) := e
      split at e'
      · rename_i hz
        obtain ⟨c, h1, h2⟩ := Option.map_eq_some_iff.mp e'
        cases h2
        exact .inr (.inr ⟨z, i, c, c1, rfl, line16 hz, h1, q.fz wk fd rfl⟩)
      · cases e'
    | _ => cases e
  | _ => cases x <;> cases e
/-! ### slices -/
def cutD (xs : List D) (lo hi : Option Int) : List D := (xs.drop (HT.sIx xs.length 0 lo)).take (HT.sIx xs.length xs.length hi - HT.sIx xs.length 0 lo)
def dSl : D → Option Int → Option Int → Option DS := fun x lo hi => match x with
  | .tup ds => some (.tup (cutD ds lo hi), .fz)
  | .lst ds => some (.lst (cutD ds lo hi), .ow)
  | _ => none
theorem cut_reps {ds : List D} {vs : List V} (r : Reps K F wa H ds vs) (lo hi : Option Int) : Reps K F wa H (cutD ds lo hi) (cutV vs lo hi) := by
  unfold cutD cutV
  rw [← r.len]
  exact (r.drop _).take _
/-- t[lo:hi]: the whole of it is t itself -/
def rSlF (K : KW) : V → Option Int → Option Int → Hp → VK → Prop := fun x lo hi H Q => ∃ a xs, x = .ref a ∧ SqT K H a xs ∧
  (HT.sIx xs.length 0 lo = 0 ∧ HT.sIx xs.length xs.length hi = xs.length → Q (.ref a) H) ∧ (¬ (HT.sIx xs.length 0 lo = 0 ∧ HT.sIx xs.length xs.length hi = xs.length) → ∀ p u, H p = none → TupO u (cutV xs lo hi) → Q (.ref p) (upd H p u))
theorem sl_tupF {X : Cx} : SlR X (rSlF (kwOf X)) := by
  intro pins s σ H x v vl vu lo hi sl Q I rx hs pl pu h
  obtain ⟨a, xs, rfl, hx, q1, q2⟩ := h
  cases rx
  obtain ⟨its, r, ht, hz⟩ := I.tuple hx
  have hlen : its.toArray.size = xs.length := by rw [List.size_toArray]; exact r.length.symm
  refine ⟨"tuple", _, PyProof.Rows.slot_tuple_getitem.lookup, ht.typeIs, ?_⟩
  by_cases hw : HT.sIx xs.length 0 lo = 0 ∧ HT.sIx xs.length xs.length hi = xs.length
  · exact getItem_tuple_whole ht hs pl pu (by rw [hlen]; exact hw) ⟨.ref a, H, I, rfl, q1 hw⟩
  · refine HT.getItem_tuple_cut ht hs pl pu (by rw [hlen]; exact hw) ?_ (by rw [hlen]; exact hz)
    rw [hlen]
    exact ⟨.ref s.heap.objs.size, _, tup_laid (t' := s.toks) I ((r.drop (HT.sIx xs.length 0 lo)).take (HT.sIx xs.length xs.length hi - HT.sIx xs.length 0 lo)) (Nat.le_trans (cutV_length xs lo hi) hz), rfl, q2 hw _ _ (I.hok.fresh (Nat.le_refl _)) ⟨_, rfl, rfl, rfl⟩⟩
def rSlAny (K : KW) : V → Option Int → Option Int → Hp → VK → Prop := fun x lo hi H Q => rSlL K x lo hi H Q ∨ rSlF K x lo hi H Q
theorem sl_any {X : Cx} : SlR X (rSlAny (kwOf X)) := sl_list.or sl_tupF
theorem sSl : SlS K (rSlAny K) dSl := fun wa w F H x lo hi d st v1 wk fd c1 e Q q => by
  cases x with
  | lst ds =>
    cases e
    obtain ⟨a, vs, e1, hh, rr⟩ := c1
    exact .inl ⟨a, vs, e1, .inl (.inl hh), fun p hp => q.lst wk fd (cut_reps rr lo hi) hp⟩
  | tup ds =>
    cases e
    obtain ⟨a, u, vs, e1, hF, hh, ht, rr⟩ := c1
    refine .inr ⟨a, vs, e1, ht.sq hh, fun hw => ?_, fun hw p u hp ht => q.tup wk fd (cut_reps rr lo hi) hp ht⟩
    have e2 : cutD ds lo hi = ds := by
      unfold cutD
      rw [rr.len, hw.1, hw.2, List.drop_zero, Nat.sub_zero, ← rr.len, List.take_length]
    rw [e2] at q
    exact q.fz wk fd ⟨a, u, vs, rfl, hF, hh, ht, rr⟩
  | _ => cases e
end
end Dl

set_option Elab.async false
set_option linter.all false
set_option maxRecDepth 100000
set_option maxHeartbeats 4000000
namespace Dl
open PySem PySem.Spec PyProof.Rows L2
section
variable {K : KW} {F : Addr → Prop} {wa : Option Addr} {H : Hp} {w : Option Wd} {d : D} {v : V} {Q : VK}
/-! ### built-in calls -/
def dLen : List D → Option DS
  | [.tup ds] => fzO (.int (ds.length : Nat))
  | [.lst ds] => fzO (.int (ds.length : Nat))
  | [.scr ns] => fzO (.int (ns.length : Nat))
  | [.str x] => if x.length ≤ 100000 then fzO (.int (x.length : Nat)) else none
  | _ => none
abbrev rLen (K : KW) : List V → Hp → VK → Prop := fun xs H Q => ∃ x n, xs = [x] ∧ LenV K x H n ∧ Q (.int n) H
theorem sLen : CallS K (rLen K) dLen := fun wa w F H ds d st vs wk fd c e Q q => by
  unfold dLen at e
  split at e
  · rename_i ds
    cases e
    obtain ⟨v, rfl, a, u, us, e1, _, hh, ht, rr⟩ := curs1 c
    exact ⟨v, _, rfl, (by subst e1; exact .inr ⟨us, ht.sq hh, rr.len⟩), q.fz wk fd rfl⟩
  · rename_i ds
    cases e
    obtain ⟨v, rfl, a, us, e1, hh, rr⟩ := curs1 c
    exact ⟨v, _, rfl, (by subst e1; exact .inl ⟨us, .inl (.inl hh), rr.len⟩), q.fz wk fd rfl⟩
  · rename_i ns
    cases e
    obtain ⟨v, rfl, a, e1, hh⟩ := curs1 c
    exact ⟨v, _, rfl, (by subst e1; exact .inl ⟨_, hh, by simp⟩), q.fz wk fd rfl⟩
  · split at e
    · cases e
      obtain ⟨v, rfl, e1⟩ := curs1 c
      cases e1
      exact ⟨_, _, rfl, ⟨Nat.le_trans (by assumption) (by decide), rfl⟩, q.fz wk fd rfl⟩
    · cases e
  · cases e
def dAbs : List D → Option DS
  | [.int i] => fzO (.int (if i < 0 then -i else i))
  | _ => none
theorem sAbs : CallS K (fun xs H Q => ∃ i, xs = [.int i] ∧ Q (.int (if i < 0 then -i else i)) H) dAbs := fun wa w F H ds d st vs wk fd c e Q q => by
  unfold dAbs at e
  split at e
  · cases e
    obtain ⟨v, rfl, e1⟩ := curs1 c
    cases e1
    exact ⟨_, rfl, q.fz wk fd rfl⟩
  · cases e
def dInt : List D → Option DS
  | [.int i] => fzO (.int i)
  | [.bl k] => fzO (.int (if k then 1 else 0))
  | _ => none
theorem sInt : CallS K (fun xs H Q => (∃ i, xs = [.int i] ∧ Q (.int i) H) ∨ ∃ k, xs = [.bl k] ∧ Q (.int (if k then 1 else 0)) H) dInt := fun wa w F H ds d st vs wk fd c e Q q => by
  unfold dInt at e
  split at e
  · cases e
    obtain ⟨v, rfl, e1⟩ := curs1 c
    cases e1
    exact .inl ⟨_, rfl, q.fz wk fd rfl⟩
  · cases e
    obtain ⟨v, rfl, e1⟩ := curs1 c
    cases e1
    exact .inr ⟨_, rfl, q.fz wk fd rfl⟩
  · cases e
def dMax2 : List D → Option DS
  | [.int i, .int j] => fzO (.int (if j > i then j else i))
  | _ => none
def dMin2 : List D → Option DS
  | [.int i, .int j] => fzO (.int (if j < i then j else i))
  | _ => none
theorem sMax2 : CallS K (fun xs H Q => ∃ i j, xs = [.int i, .int j] ∧ Q (.int (if j > i then j else i)) H) dMax2 := fun wa w F H ds d st vs wk fd c e Q q => by
  unfold dMax2 at e
  split at e
  · cases e
    obtain ⟨v, u, rfl, e1, e2⟩ := curs2 c
    cases e1; cases e2
    exact ⟨_, _, rfl, q.fz wk fd rfl⟩
  · cases e
theorem sMin2 : CallS K (fun xs H Q => ∃ i j, xs = [.int i, .int j] ∧ Q (.int (if j < i then j else i)) H) dMin2 := fun wa w F H ds d st vs wk fd c e Q q => by
  unfold dMin2 at e
  split at e
  · cases e
    obtain ⟨v, u, rfl, e1, e2⟩ := curs2 c
    cases e1; cases e2
    exact ⟨_, _, rfl, q.fz wk fd rfl⟩
  · cases e
def dTuple : List D → Option DS
  | [.lst ds] => fzO (.tup ds)
  | [.tup ds] => fzO (.tup ds)
  | _ => none
def rTupF (K : KW) : List V → Hp → VK → Prop := fun xs H Q => ∃ p ys, xs = [.ref p] ∧ ((SqL K H p ys ∧ ∀ l u, H l = none → TupO u ys → Q (.ref l) (upd H l u)) ∨ (SqT K H p ys ∧ Q (.ref p) H))
theorem call_tupF {X : Cx} : CallR X (.type "tuple") (rTupF (kwOf X)) := by
  intro pins s σ H xs us Q I r h
  obtain ⟨p, ys, rfl, h⟩ := h
  obtain ⟨u, rfl, rx⟩ := vals1 r
  cases rx
  rcases h with ⟨hq, q⟩ | ⟨hq, q⟩
  · obtain ⟨its, r', pl, hz⟩ := I.list hq
    have hlen := r'.length
    refine call_tuple_list pl.isList (fun h' kp => ?_) (by simp only [List.size_toArray] <;> omega)
    have I1 : Inv X pins σ H { s with heap := h' } := I.kept (t' := s.toks) kp
    exact ⟨.ref h'.objs.size, _, tup_laid (t' := s.toks) I1 r' hz, rfl, q _ _ (I1.hok.fresh (Nat.le_refl _)) ⟨_, rfl, rfl, rfl⟩⟩
  · obtain ⟨its, r', pl, hz⟩ := I.tuple hq
    exact call_tuple_same pl ⟨.ref p, H, I, rfl, q⟩
theorem sTuple : CallS K (rTupF K) dTuple := fun wa w F H ds d st vs wk fd c e Q q => by
  unfold dTuple at e
  split at e
  · cases e
    obtain ⟨v, rfl, a, us, e1, hh, rr⟩ := curs1 c
    subst e1
    exact ⟨a, us, rfl, .inl ⟨.inl (.inl hh), fun l u hl ht => q.tup wk fd rr hl ht⟩⟩
  · cases e
    obtain ⟨v, rfl, a, u, us, e1, hF, hh, ht, rr⟩ := curs1 c
    subst e1
    exact ⟨a, us, rfl, .inr ⟨ht.sq hh, q.fz wk fd ⟨a, u, us, rfl, hF, hh, ht, rr⟩⟩⟩
  · cases e
def dList : List D → Option DS
  | [.lst ds] => some (.lst ds, .ow)
  | [.tup ds] => some (.lst ds, .ow)
  | _ => none
abbrev rList (K : KW) : List V → Hp → VK → Prop := fun xs H Q => ∃ p ys, xs = [.ref p] ∧ (SqL K H p ys ∨ SqT K H p ys) ∧ ∀ l, H l = none → Q (.ref l) (upd H l (.lst ys))
theorem sList : CallS K (rList K) dList := fun wa w F H ds d st vs wk fd c e Q q => by
  unfold dList at e
  split at e
  · cases e
    obtain ⟨v, rfl, a, us, e1, hh, rr⟩ := curs1 c
    subst e1
    exact ⟨a, us, rfl, .inl (.inl (.inl hh)), fun l hl => q.lst wk fd rr hl⟩
  · cases e
    obtain ⟨v, rfl, a, u, us, e1, hF, hh, ht, rr⟩ := curs1 c
    subst e1
    exact ⟨a, us, rfl, .inr (ht.sq hh), fun l hl => q.lst wk fd rr hl⟩
  · cases e
/-! ### isinstance -/
def tyN : D → Option String
  | .non => some "NoneType"
  | .bl _ => some "bool"
  | .int _ => some "int"
  | .str _ => some "str"
  | .tup _ => some "tuple"
  | .lst _ => some "list"
  | .dk _ _ => some "dict"
  | _ => none
def isiT (a b : String) : Option Bool :=
  if (["int", "str", "tuple", "list", "bool", "dict"] : List String).contains b && (["NoneType", "bool", "int", "str", "tuple", "list", "dict"] : List String).contains a then some (a == b || (a == "bool" && b == "int")) else none
theorem isiT_ok : ∀ a ∈ (["NoneType", "bool", "int", "str", "tuple", "list", "dict"] : List String), ∀ b ∈ (["int", "str", "tuple", "list", "bool", "dict"] : List String), kitB a b = some (a == b || (a == "bool" && b == "int")) := by decide +kernel
theorem isiT_kit {K : KW} {a b : String} {r : Bool} (h : isiT a b = some r) : PySem.W.kitOne K (.type a) (.type b) = some r := by
  unfold isiT at h
  split at h
  · rename_i hc
    cases h
    rw [Bool.and_eq_true, List.contains_iff_mem, List.contains_iff_mem] at hc
    exact kit_ty (isiT_ok a hc.2 b hc.1)
  · cases h
def dIsi : List D → Option DS
  | [x, .ty T] => (tyN x).bind fun a => (isiT a T).map fun b => (.bl b, .fz)
  | _ => none
theorem tyN_ok {x : D} {a : String} (h : tyN x = some a) (c : Cur K F wa H x v) : TyX K H v (.type a) := by
  cases x with
  | non => cases h; cases c; exact .base .non
  | bl b => cases h; cases c; exact .base (.bl b)
  | int b => cases h; cases c; exact .base (.int b)
  | str b => cases h; cases c; exact .base (.str b)
  | tup ds =>
    cases h
    obtain ⟨a, u, vs, e, _, hh, ⟨o, _, _, e2⟩, _⟩ := c
    subst e e2
    exact .fTuple hh
  | lst ds =>
    cases h
    obtain ⟨a, vs, e, hh, _⟩ := c
    subst e
    exact .base (.lst hh)
  | dk ks ds =>
    cases h
    obtain ⟨a, vs, e, hh, _⟩ := c
    subst e
    exact .base (.dK hh)
  | _ => cases h
theorem sIsi : CallS K (rIsi K) dIsi := fun wa w F H ds d st vs wk fd c e Q q => by
  unfold dIsi at e
  split at e
  · obtain ⟨a, h1, h2⟩ := Option.bind_eq_some_iff.mp e
    obtain ⟨b, h3, h4⟩ := Option.map_eq_some_iff.mp h2
    cases h4
    obtain ⟨v, u, rfl, e1, e2⟩ := curs2 c
    cases e2
    exact ⟨v, _, _, _, b, rfl, .ty _, tyN_ok h1 e1, isiT_kit h3, q.fz wk fd rfl⟩
  · cases e
/-! ### dicts -/
def dFind : List Key → List D → Key → Option D
  | k :: ks, d :: ds, j => if k = j then some d else dFind ks ds j
  | _, _, _ => none
def dUpd : List Key → List D → Key → D → List D
  | k :: ks, d :: ds, j, x => (if k = j then x else d) :: dUpd ks ds j x
  | _, ds, _, _ => ds
/-- a key stored -/
def hasK (ks : List Key) (k : Key) : Bool := ks.any fun j => decide (j = k)
theorem hasK_mem {ks : List Key} {k : Key} : hasK ks k = true ↔ k ∈ ks := by
  unfold hasK
  rw [List.any_eq_true]
  exact ⟨fun ⟨x, h, e⟩ => of_decide_eq_true e ▸ h, fun h => ⟨k, h, decide_eq_true rfl⟩⟩
def dPut (ks : List Key) (ds : List D) (k : Key) (x : D) : List Key × List D := if hasK ks k = true then (ks, dUpd ks ds k x) else (ks ++ [k], ds ++ [x])
def keyD : D → Option Key
  | .int i => some (.inl i)
  | .str x => some (.inr x)
  | _ => none
theorem keyD_ok {d : D} {k : Key} (h : keyD d = some k) (c : Cur K F wa H d v) : v = kV k := by
  cases d with
  | int i => cases h; exact c
  | str i => cases h; exact c
  | _ => cases h
theorem dFind_ok {k : Key} : ∀ {ks : List Key} {ds : List D} {vs : List V}, Reps K F wa H ds vs → (∀ x, dFind ks ds k = some x → ∃ u, valV (ks.zip vs) k = some u ∧ Rep K F wa H x u) ∧ (ks.length = vs.length → dFind ks ds k = none → valV (ks.zip vs) k = none)
  | [], ds, vs, r => ⟨fun x h => (by cases h), fun _ _ => rfl⟩
  | j :: ks, [], vs, r => by
    have e : vs = [] := r
    subst e
    exact ⟨fun x h => (by cases h), fun h => (by cases h)⟩
  | j :: ks, d :: ds, vs, r => by
    obtain ⟨u, vr, e, r1, r2⟩ := r
    subst e
    obtain ⟨g1, g2⟩ := dFind_ok (k := k) (ks := ks) r2
    have hv : valV ((j :: ks).zip (u :: vr)) k = if j = k then some u else valV (ks.zip vr) k := by
      unfold valV
      rw [List.zip_cons_cons, List.find?_cons]
      by_cases e : j = k
      · simp [e]
      · simp [e]
    rw [hv]
    show (∀ x, (if j = k then some d else dFind ks ds k) = some x → _) ∧ (_ → (if j = k then some d else dFind ks ds k) = none → _)
    by_cases e : j = k
    · rw [if_pos e, if_pos e]
      exact ⟨fun x h => (by cases h; exact ⟨u, rfl, r1⟩), fun _ h => (by cases h)⟩
    · rw [if_neg e, if_neg e]
      exact ⟨g1, fun h => g2 (Nat.succ.inj h)⟩
theorem dUpd_ok {k : Key} {x : D} {u : V} (rx : Rep K F wa H x u) : ∀ {ks : List Key} {ds : List D} {vs : List V}, ks.length = vs.length → Reps K F wa H ds vs → ∃ vs', vs'.length = vs.length ∧ Reps K F wa H (dUpd ks ds k x) vs' ∧ (ks.zip vs).map (fun kv => if kv.1 = k then (kv.1, u) else kv) = ks.zip vs'
  | [], ds, vs, hl, r => by
    cases vs with
    | nil => exact ⟨[], rfl, by cases ds <;> exact r, rfl⟩
    | cons _ _ => cases hl
  | j :: ks, [], vs, hl, r => by
    have e : vs = [] := r
    subst e
    cases hl
  | j :: ks, d :: ds, vs, hl, r => by
    obtain ⟨y, vr, e, r1, r2⟩ := r
    subst e
    obtain ⟨vs', l, rr, e⟩ := dUpd_ok rx (ks := ks) (Nat.succ.inj hl) r2
    refine ⟨(if j = k then u else y) :: vs', by rw [List.length_cons, l, List.length_cons], ?_, ?_⟩
    · refine ⟨_, vs', rfl, ?_, rr⟩
      by_cases ej : j = k
      · rw [if_pos ej, if_pos ej]; exact rx
      · rw [if_neg ej, if_neg ej]; exact r1
    · rw [List.zip_cons_cons, List.map_cons, List.zip_cons_cons, e]
      by_cases ej : j = k
      · rw [if_pos ej, if_pos ej]
      · rw [if_neg ej, if_neg ej]
theorem zip_any {k : Key} : ∀ {ks : List Key} {vs : List V}, ks.length = vs.length → ((ks.zip vs).any fun kv => decide (kv.1 = k)) = hasK ks k
  | [], _, _ => rfl
  | j :: ks, [], h => by cases h
  | j :: ks, v :: vs, h => by
    rw [List.zip_cons_cons, List.any_cons, zip_any (Nat.succ.inj h)]
    rfl
theorem dPut_ok {k : Key} {x : D} {u : V} {ks : List Key} {ds : List D} {vs : List V} (rx : Rep K F wa H x u) (hl : ks.length = vs.length) (r : Reps K F wa H ds vs) :
    ∃ vs', (dPut ks ds k x).1.length = vs'.length ∧ Reps K F wa H (dPut ks ds k x).2 vs' ∧ putK (ks.zip vs) k u = (dPut ks ds k x).1.zip vs' := by
  unfold dPut putK
  rw [zip_any hl]
  by_cases hk : hasK ks k = true
  · rw [if_pos hk, if_pos hk]
    obtain ⟨vs', l, rr, e⟩ := dUpd_ok rx hl r
    exact ⟨vs', hl.trans l.symm, rr, e⟩
  · rw [if_neg hk, if_neg hk]
    refine ⟨vs ++ [u], by simp [hl], r.app (.one rx), ?_⟩
    rw [List.zip_append hl]; rfl
/-- dict of pairs -/
def dMerge : List Key → List D → List D → Option (List Key × List D)
  | ks, ds, [] => some (ks, ds)
  | ks, ds, .tup [k, x] :: r => (keyD k).bind fun k => dMerge (dPut ks ds k x).1 (dPut ks ds k x).2 r
  | _, _, _ => none
def dDict : List D → Option DS
  | [.tup ps] => if ps.length ≤ lim then (dMerge [] [] ps).map fun r => (.dk r.1 r.2, .ow) else none
  | [.lst ps] => if ps.length ≤ lim then (dMerge [] [] ps).map fun r => (.dk r.1 r.2, .ow) else none
  | _ => none
end
end Dl

set_option Elab.async false
set_option linter.all false
set_option maxRecDepth 100000
set_option maxHeartbeats 4000000
namespace Dl
open PySem PySem.Spec PyProof.Rows L2
/-! ### dict(pairs) -/
section
variable {K : KW} {F : Addr → Prop} {wa : Option Addr} {H : Hp} {w : Option Wd} {d : D} {v : V} {Q : VK}
theorem merge_ok : ∀ {items : List D} {vs : List V} {ks ks' : List Key} {ds ds' : List D} {us : List V}, Reps K F wa H items vs → ks.length = us.length → Reps K F wa H ds us → dMerge ks ds items = some (ks', ds') →
    ∃ (ps : List Addr) (kvs : List (Key × V)) (us' : List V), vs = ps.map V.ref ∧ Paired (fun p kv => SqT K H p [kV kv.1, kv.2]) ps kvs ∧ mergeK (ks.zip us) kvs = ks'.zip us' ∧ ks'.length = us'.length ∧ Reps K F wa H ds' us'
  | [], vs, ks, ks', ds, ds', us, r, hl, rr, h => by
    have e : vs = [] := r
    subst e
    cases h
    exact ⟨[], [], us, rfl, .nil, rfl, hl, rr⟩
  | it :: items, vs, ks, ks', ds, ds', us, r, hl, rr, h => by
    obtain ⟨v, vr, e, r1, r2⟩ := r
    subst e
    unfold dMerge at h
    split at h
    · rename_i e; cases e
    · rename_i k x q e
      cases e
      obtain ⟨ke, hk, h2⟩ := Option.bind_eq_some_iff.mp h
      obtain ⟨a, u, vs2, e1, hF, hh, ht, v1, vr1, e2, rk, v2, vr2, e3, rx, e4⟩ := r1
      have e4' : vr2 = [] := e4
      subst e4' e3 e2 e1
      obtain ⟨us1, l1, rr1, m1⟩ := dPut_ok (k := ke) rx hl rr
      obtain ⟨ps, kvs, us', g1, g2, g3, g4, g5⟩ := merge_ok r2 l1 rr1 h2
      refine ⟨a :: ps, (ke, v2) :: kvs, us', by rw [g1]; rfl, .cons ?_ g2, ?_, g4, g5⟩
      · have := keyD_ok hk (Rep.cur rk)
        subst this
        exact ht.sq hh
      · refine Eq.trans ?_ g3
        rw [← m1]; rfl
    · cases h
end
section
variable {X : Cx}
theorem pairs_of2 {pins : List (Addr × Obj)} {σ : L2.St} {H : Hp} {s : Shared} (I : Inv X pins σ H s) : ∀ {ps : List Addr} {kvs : List (Key × V)}, Paired (fun p kv => SqT (kwOf X) H p [kV kv.1, kv.2]) ps kvs →
    ∃ (prs : List (Key × Value)) (zs : List (Value × Value)), KV kvs prs ∧ prs.length = ps.length ∧ zs.length = ps.length ∧ ∀ (j : Nat) (z : Value × Value), zs[j]? = some z → ∃ (b : Addr) (k : Key), ps[j]? = some b ∧ prs[j]? = some (k, z.2) ∧ IsTup s.heap b #[z.1, z.2] ∧ keyIs k z.1 = true
  | _, _, .nil => ⟨[], [], .nil, rfl, rfl, fun j q e => by simp at e⟩
  | _, _, .cons (a := p) (b := kv) h t => by
    obtain ⟨prs, zs, r, hl, hl2, hp⟩ := pairs_of2 I t
    obtain ⟨its, rv, ht, _⟩ := I.tuple h
    obtain ⟨u, y, ei, ru, ry⟩ := vals2 rv
    subst ei
    refine ⟨(kv.1, y) :: prs, (u, y) :: zs, .cons ⟨rfl, ry⟩ r, by rw [List.length_cons, List.length_cons, hl], by rw [List.length_cons, List.length_cons, hl2], fun j q e => ?_⟩
    cases j with
    | zero =>
      have e' : (u, y) = q := Option.some.inj e
      subst e'
      exact ⟨p, kv.1, rfl, rfl, ht, kV_is (P := X.prog) (w := X.w) ru⟩
    | succ j =>
      obtain ⟨b, k, e1, e2, e3⟩ := hp j q (by simpa using e)
      exact ⟨b, k, by simpa using e1, by simpa using e2, e3⟩
/-- dict(a tuple of pairs) -/
theorem call_dictT (hcalm : X.calm = true) : CallR X (.type "dict") (fun xs H Q => ∃ (a : Addr) (u : HO) (ps : List Addr) (kvs : List (Key × V)), xs = [.ref a] ∧ H a = some u ∧ TupO u (ps.map V.ref) ∧ Paired (fun p kv => SqT (kwOf X) H p [kV kv.1, kv.2]) ps kvs ∧
    ∀ p, H p = none → Q (.ref p) (upd H p (.dK (mergeK [] kvs)))) := by
  intro pins s σ H xs us Q I r q
  obtain ⟨a, u0, ps, kvs, ex, hq, ⟨ob, hcls, hdict, eu⟩, hp, q⟩ := q
  subst ex eu
  obtain ⟨u, eu, rx⟩ := vals1 r
  subst eu
  cases rx
  obtain ⟨hget, hz, its, rv, o2, ho2, hc2, n2, hd2⟩ := (show ObjOk X.prog X.w H s.heap a (.frz ob (.tup (ps.map V.ref))) from I.hok a _ hq)
  rw [hget] at ho2
  cases ho2
  have ei := refs_at rv
  subst ei
  rw [List.length_map] at hz
  obtain ⟨prs, zs, rel, hl, hl2, hpr⟩ := pairs_of2 I hp
  refine PySem.call_dict_pairs (knd := mixKind X.prog X.w) (kvs := prs) (PairArg.tuple (prog := X.prog) (w := X.w) a (ps.map Value.ref).toArray (fun j => ps.getD j 0) zs) (I.ok.hd hcalm) ⟨⟨ob, n2, hget, hcls, hdict, hd2⟩, ?_, fun j k v e => ?_⟩ ⟨by rw [hl, hl2], fun i key v e => ?_⟩ (by rw [hl2]; exact hz) fun h' tk hd' kp => ?_
  · simp [hl2]
  · obtain ⟨b, k', e1, e2, e3, e4⟩ := hpr j (k, v) e
    refine ⟨by simp [e1], .inl ?_⟩
    have : ps.getD j 0 = b := by rw [List.getD_eq_getElem?_getD, e1]; rfl
    show s.heap.IsTuple (ps.getD j 0) #[k, v]
    rw [this]
    exact e3
  · obtain ⟨b, k', e1, e2, e3, e4⟩ := hpr i (key, v) e
    exact ⟨k', e2, e4⟩
  · have hm : (s.heap.objs.size == sysModules) = false := beq_eq_false_iff_ne.mpr (Nat.ne_of_gt I.big)
    have hlen : (mergeK [] kvs).length ≤ sizeLine := by
      refine Nat.le_trans (length_mergeK kvs []) ?_
      rw [List.length_nil, Nat.zero_add, rel.length, hl]
      exact hz
    exact ⟨.ref s.heap.objs.size, upd H s.heap.objs.size (.dK (mergeK [] kvs)), I.laid (t' := tk) (fun b o e => kp b o (by simp) e) (Nat.le_refl _) (show ObjOk X.prog X.w _ _ _ (.dK (mergeK [] kvs)) from ⟨hlen, hm, merged [] prs, KV.merge rel .nil, hd'⟩), rfl, q _ (I.hok.fresh (Nat.le_refl _))⟩
abbrev rDictP (K : KW) : List V → Hp → VK → Prop := fun xs H Q => ∃ (a : Addr) (ps : List Addr) (kvs : List (Key × V)), xs = [.ref a] ∧ SqL K H a (ps.map V.ref) ∧ Paired (fun p kv => SqT K H p [kV kv.1, kv.2]) ps kvs ∧
    ∀ p, H p = none → Q (.ref p) (upd H p (.dK (mergeK [] kvs)))
abbrev rDictT (K : KW) : List V → Hp → VK → Prop := fun xs H Q => ∃ (a : Addr) (u : HO) (ps : List Addr) (kvs : List (Key × V)), xs = [.ref a] ∧ H a = some u ∧ TupO u (ps.map V.ref) ∧ Paired (fun p kv => SqT K H p [kV kv.1, kv.2]) ps kvs ∧
    ∀ p, H p = none → Q (.ref p) (upd H p (.dK (mergeK [] kvs)))
theorem call_dict (hcalm : X.calm = true) : CallR X (.type "dict") (fun xs H Q => rDictP (kwOf X) xs H Q ∨ rDictT (kwOf X) xs H Q) := (call_dictP hcalm).or (call_dictT hcalm)
end
section
variable {K : KW} {F : Addr → Prop} {wa : Option Addr} {H : Hp} {w : Option Wd} {d : D} {v : V} {Q : VK}
theorem sDict : CallS K (fun xs H Q => rDictP K xs H Q ∨ rDictT K xs H Q) dDict := fun wa w F H ds d st vs wk fd c e Q q => by
  unfold dDict at e
  split at e
  · split at e
    · obtain ⟨⟨ks, es⟩, h1, h2⟩ := Option.map_eq_some_iff.mp e
      cases h2
      obtain ⟨v, rfl, a, u, us, e1, hF, hh, ht, rr⟩ := curs1 c
      subst e1
      obtain ⟨ps, kvs, us', g1, g2, g3, g4, g5⟩ := merge_ok rr (ks := []) (ds := []) (us := []) rfl rfl h1
      subst g1
      refine .inr ⟨a, u, ps, kvs, rfl, hh, ht, g2, fun p hp => ?_⟩
      rw [show mergeK [] kvs = ks.zip us' from g3]
      exact q.dk wk fd g5 g4 hp
    · cases e
  · split at e
    · obtain ⟨⟨ks, es⟩, h1, h2⟩ := Option.map_eq_some_iff.mp e
      cases h2
      obtain ⟨v, rfl, a, us, e1, hh, rr⟩ := curs1 c
      subst e1
      obtain ⟨ps, kvs, us', g1, g2, g3, g4, g5⟩ := merge_ok rr (ks := []) (ds := []) (us := []) rfl rfl h1
      subst g1
      refine .inl ⟨a, ps, kvs, rfl, .inl (.inl hh), g2, fun p hp => ?_⟩
      rw [show mergeK [] kvs = ks.zip us' from g3]
      exact q.dk wk fd g5 g4 hp
    · cases e
  · cases e
theorem sNeg {K : KW} : UnS K (rU fun i => .int (-i)) (fun x => match x with | .int i => fzO (.int (-i)) | _ => none) := fun wa w F H x d st v1 wk fd c e Q q => by
  cases x with
  | int i => cases e; exact ⟨i, c, q.fz wk fd rfl⟩
  | _ => cases e
end
/-! ### more expressions -/
def dNeg : D → Option DS := fun x => match x with | .int i => fzO (.int (-i)) | _ => none
def eGet2 (f g h : EF) : EF := fun env w => (f env w).bind fun p => match p.1.1 with
  | .dk ks ds => (g env p.2).bind fun q => (keyD q.1.1).bind fun k => (eFz h env q.2).bind fun r => some (match dFind ks ds k with
      | some x => (x, .fz)
      | none => r.1, r.2)
  | _ => none
def eWget (i : Nat) (a : Bool) : EF := fun env w => match env[i]?, w with
  | some (some (.w, false)), some W => some ((if a = true then .int W.ix else .lst (W.draws.map D.int), .fz), w)
  | _, _ => none
section
variable {X : Cx} {e o e1 e2 : Expr} {f g h : EF} {pos pos' : Pos}
theorem e_neg (he : Snd X e f) : Snd X (.UnaryOp .USub e pos) (eUn dNeg f) := e_un un_neg sNeg he
theorem e_ty {x : Str} {n : String} (hg : Gl X x) (hm : X.mg x = none) (hv : bootBuiltins x = some (.type n)) (hn : x ≠ "__name__" := by decide) (hd : (x == ("__debug__" : Str)) = false := by decide) : Snd X (.Name x pos) (eC (.ty n)) :=
  e_c (pe_bltn (v := .ty n) hg hm hv rfl hn hd) fun _ _ _ => rfl
theorem e_dict0 : Snd X (.Dict [] [] pos) (fun _ w => some ((.dk [] [], .ow), w)) := by
  refine pe_imp pe_dnewK fun σ H Q q => ?_
  obtain ⟨B, F, wa, w, env, S, d, st, w', hf, k⟩ := q
  cases hf
  intro p hp
  exact Res.dk (ks := []) (vs := []) S.wk S.fd (Res.behind S (Aft.refl S.wk S.fd) k) rfl rfl hp
theorem e_get2 {apos cpos : Pos} (hu : X.A.units + 1 < cLine) (ho : Snd X o f) (he : Snd X e1 g) (hf : Snd X e2 h) (m : M2 X o "get" apos e1 e2 cpos) : Snd X (.Call (.Attribute o "get" apos) [e1, e2] [] cpos) (eGet2 f g h) := by
  refine pe_imp (pe_dget2 hu ho he (e_fz hf) m) fun σ H Q q => ?_
  obtain ⟨B, F, wa, w, env, S, d, st, w', hf, k⟩ := q
  unfold eGet2 at hf
  obtain ⟨⟨⟨d1, st1⟩, w1⟩, h1, h2⟩ := Option.bind_eq_some_iff.mp hf
  refine ⟨B, F, wa, w, env, S, d1, st1, w1, h1, fun v F1 H1 A1 r1 => ?_⟩
  cases d1 with
  | dk ks ds =>
    have h2' : ((g env w1).bind fun q => (keyD q.1.1).bind fun k => (eFz h env q.2).bind fun r => some (match dFind ks ds k with
      | some x => (x, O3.fz)
      | none => r.1, r.2)) = some ((d, st), w') := h2
    obtain ⟨⟨⟨d2, st2⟩, w2⟩, h3, h4⟩ := Option.bind_eq_some_iff.mp h2'
    obtain ⟨ke, h5, h6⟩ := Option.bind_eq_some_iff.mp h4
    obtain ⟨⟨⟨d3, st3⟩, w3⟩, h7, h8⟩ := Option.bind_eq_some_iff.mp h6
    obtain ⟨a, vs, ea, hh, hl, rr⟩ := r1.cur
    refine ⟨a, ea, .inl ⟨_, .inl hh⟩, ?_⟩
    refine ⟨B, F1, wa, w1, env, S.aft A1, d2, st2, w2, h3, fun v2 F2 H2 A2 r2 => ?_⟩
    refine ⟨B, F2, wa, w2, env, (S.aft A1).aft A2, d3, st3, w3, h7, fun v3 F3 H3 A3 r3 => ?_⟩
    have c1 := ((r1.aft A2).aft A3).cur
    obtain ⟨a', vs', ea', hh', hl', rr'⟩ := c1
    rw [ea] at ea'
    cases ea'
    have ek := keyD_ok h5 (r2.aft A3).cur
    have e3 : st3 = .fz := by
      unfold eFz at h7
      obtain ⟨⟨⟨d6, st6⟩, w7⟩, g4, g5⟩ := Option.bind_eq_some_iff.mp h7
      cases st6 <;> cases g5 <;> rfl
    subst e3
    obtain ⟨q1, q2⟩ := dFind_ok (k := ke) (ks := ks) rr'
    refine ⟨valV (ks.zip vs') ke, .inl ⟨_, ke, .inl hh', ek, rfl⟩, ?_⟩
    cases hfd : dFind ks ds ke with
    | some x =>
      rw [hfd] at h8
      cases h8
      obtain ⟨u, h9, r9⟩ := q1 _ hfd
      rw [h9]
      exact k u F3 H3 ((A1.trans A2).trans A3) r9
    | none =>
      rw [hfd] at h8
      cases h8
      rw [q2 hl' hfd]
      exact k v3 F3 H3 ((A1.trans A2).trans A3) r3
  | _ => cases h2
theorem kv_ne : (kDraws = kAt) = False := by
  apply eq_false
  unfold kDraws kAt
  intro h
  cases h
theorem e_wget (i : Nat) {c : Str} {j : Nat} {wpos cpos : Pos} {nm : Str} (a : Bool) (hu : X.A.units + 1 < cLine) (ho : PE X (.Name nm wpos) (tVar i)) (hc : c = if a = true then "at" else "draws") (hs : NoSl (.Constant (.str c) j cpos) := by exact fun _ _ => rfl) : Snd X (.Subscript (.Name nm wpos) (.Constant (.str c) j cpos) pos) (eWget i a) := by
  refine pe_imp (pe_dget hu ho pe_str hs) fun σ H Q q => ?_
  obtain ⟨B, F, wa, w, env, S, d, st, w', hf, k⟩ := q
  unfold eWget at hf
  split at hf
  · rename_i W hd
    cases hf
    obtain ⟨v, h1, x, hw, e⟩ := S.fz i _ hd
    subst hw e
    obtain ⟨g1, da, g2, g3, g4⟩ := S.wk
    refine ⟨.ref x, h1, x, if a = true then .int W.ix else .ref da, rfl, ?_, k _ F H (Aft.refl S.wk S.fd) ?_⟩
    · refine .inl ⟨_, .inr c, .inl g3, rfl, ?_⟩
      cases a with
      | true =>
        subst hc
        show some (V.int W.ix) = valV [(kDraws, .ref da), (kAt, .int W.ix)] kAt
        unfold valV
        simp [kv_ne]
      | false =>
        subst hc
        show some (V.ref da) = valV [(kDraws, .ref da), (kAt, .int W.ix)] kDraws
        unfold valV
        simp
    · cases a with
      | true => exact rfl
      | false => exact ⟨da, _, rfl, g2, g4, Reps.ints⟩
  · cases hf
theorem s_tick (i : Nat) {j j2 : Nat} {wpos cpos tpos npos : Pos} {nm : Str} (hu : X.A.units + 1 < cLine) (ho : PE X (.Name nm wpos) (tVar i))
    (ha : ∀ ov iv new, augStore (.Constant (.str "at") j cpos) ov iv new = (do holding [new, ov, iv] (setItem ov iv new); release [new, ov, iv] []; pure .next) := by exact fun _ _ _ => rfl) : SndS X (.AugAssign (.Subscript (.Name nm wpos) (.Constant (.str "at") j cpos) tpos) .Add (.Constant (.int 1) j2 npos) pos) (sTick i) := by
  refine ps_imp (ps_daug hu ho pe_str pe_int in_add ha) fun Dn σ H q => ?_
  obtain ⟨B, F, wa, w, env, S, out, hf, k⟩ := q
  unfold sTick at hf
  split at hf
  · rename_i W hd
    cases hf
    obtain ⟨v, h1, x, hw, e⟩ := S.fz i _ hd
    subst hw e
    obtain ⟨g1, da, g2, g3, g4⟩ := S.wk
    refine ⟨.ref x, h1, x, .int W.ix, rfl, .inl ⟨_, .inr "at", .inl g3, rfl, ?_⟩, W.ix, 1, rfl, rfl, _, DPut.k (k := .inr "at") g3 (by show 2 < sizeLine; rw [sizeLine_eq]; decide), ?_⟩
    · show some (V.int W.ix) = valV [(kDraws, .ref da), (kAt, .int W.ix)] kAt
      unfold valV
      simp [kv_ne]
    · have ep : putK [(kDraws, V.ref da), (kAt, .int W.ix)] kAt (.int (W.ix + 1)) = [(kDraws, .ref da), (kAt, .int (W.ix + 1))] := by
        unfold putK
        simp [kv_ne]
      show Dn.nx σ (upd H x (.dK (putK [(kDraws, V.ref da), (kAt, .int W.ix)] kAt (.int (W.ix + 1)))))
      rw [ep]
      have kf : ∀ b u, F b → H b = some u → upd H x (.dK [(kDraws, .ref da), (kAt, .int (W.ix + 1))]) b = some u := fun b u fb h => by rw [upd_ne fun z => g1 (by rw [← z]; exact fb)]; exact h
      have hdom : ∀ b, upd H x (.dK [(kDraws, .ref da), (kAt, .int (W.ix + 1))]) b = none → H b = none := fun b h => by
        by_cases e : b = x
        · subst e; rw [upd_same] at h; cases h
        · rw [upd_ne e] at h; exact h
      have wk : WOk F (some x) (upd H x (.dK [(kDraws, .ref da), (kAt, .int (W.ix + 1))])) (some ⟨W.draws, W.ix + 1⟩) := ⟨g1, da, g2, upd_same, kf _ _ g2 g4⟩
      have fd : ∀ b, F b → upd H x (.dK [(kDraws, .ref da), (kAt, .int (W.ix + 1))]) b ≠ none := fun b fb h => S.fd b fb (hdom b h)
      have mrs : ∀ {ds vs}, Reps (kwOf X) F (some x) H ds vs → Reps (kwOf X) F (some x) (upd H x (.dK [(kDraws, .ref da), (kAt, .int (W.ix + 1))])) ds vs := fun {ds vs} r => Reps.mono (fun _ z => z) kf ds vs r
      refine k σ F _ ⟨fun _ h => h, fun _ h => .inl h, fun b u h hb hx => by rw [upd_ne fun z => hx (by rw [z])]; exact h, kf, hdom, wk, fd⟩ ⟨S.len, fun j d h => ?_, fun j d h => ?_, S.ne, wk, fd, fun b hb h => S.bd b hb (hdom b h)⟩
      · obtain ⟨v, h2, r⟩ := S.fz j d h
        exact ⟨v, h2, Rep.mono (fun _ z => z) kf d v r⟩
      · obtain ⟨a, h2, ⟨p1, p2, p3⟩, nb⟩ := S.ow j d h
        refine ⟨a, h2, ⟨p1, p2, ?_⟩, nb⟩
        have na : a ≠ x := fun z => p2 (by rw [z])
        obtain ⟨o4, e4, p4⟩ := p3
        exact ⟨o4, by rw [upd_ne na]; exact e4, p4.mono (fun _ z => z) kf⟩
  · cases hf
theorem s_ins0 (i : Nat) {x apos cpos zpos : Pos} {j : Nat} {nm : Str} (ho : PE X (.Name nm x) (tVar i)) (he : Snd X e f) (hs : starEach [e] X.env = (false, eval e X.env) :: starEach [] X.env := by rfl)
    (hs2 : starEach [.Constant (.int 0) j zpos, e] X.env = (false, eval (.Constant (.int 0) j zpos) X.env) :: starEach [e] X.env := by rfl)
    (hpe : ∀ {to : TE} {ta : TA} {r : V → List V → Hp → VK → Prop}, MtR X "list.insert" r → PE X (.Name nm x) to → PA X [.Constant (.int 0) j zpos, e] ta → PE X (.Call (.Attribute (.Name nm x) "insert" apos) [.Constant (.int 0) j zpos, e] [] cpos) (tBM (kwOf X) "list" r to ta) := by
      intro to ta r h0 h1 h2; exact pe_bm PySem.F.plainAttrs_list PySem.F.slot_list_insert PySem.F.type_list_insert h0 h1 h2)
    (hsw : swapsWith (.Call (.Attribute (.Name nm x) "insert" apos) [.Constant (.int 0) j zpos, e] [] cpos) none pos.line X.env = pure false := by rfl) :
    SndS X (.Expr (.Call (.Attribute (.Name nm x) "insert" apos) [.Constant (.int 0) j zpos, e] [] cpos) pos) (sIns0 i f) := by
  refine ps_imp (ps_expr (hpe mt_insert ho (pa_cons pe_int (pa_cons (e_fz he) pa_nil hs) hs2)) hsw) fun Dn σ H q => ?_
  obtain ⟨B, F, wa, w, env, S, out, hf, k⟩ := q
  unfold sIns0 at hf
  obtain ⟨⟨⟨d1, st1⟩, w1⟩, h1, h2⟩ := Option.bind_eq_some_iff.mp hf
  have e1 : st1 = .fz := by
    unfold eFz at h1
    obtain ⟨⟨⟨d3, st3⟩, w3⟩, h4, h5⟩ := Option.bind_eq_some_iff.mp h1
    cases st3 <;> cases h5 <;> rfl
  subst e1
  dsimp only at h2
  split at h2
  · rename_i ds hd
    split at h2
    · rename_i hz
      cases h2
      obtain ⟨a, vs, g1, g2, g3, g4⟩ := own_lst S hd
      refine ⟨.ref a, g1, .inl ⟨rfl, vs, .inl (.inl g2)⟩, ?_⟩
      refine ⟨B, F, wa, w, env, S, d1, .fz, _, h1, fun v F1 H1 A r => ?_⟩
      have S1 := S.aft A
      have h3 := A.keep a _ g2 g4
      have hl := g3.len
      refine ⟨a, vs, 0, v, rfl, rfl, h3, by rw [← hl]; exact lineN hz, by decide, by decide, ?_⟩
      obtain ⟨A2, S2⟩ := S1.write (d' := .lst (d1 :: ds)) (o := .lst (v :: vs)) hd g1 ⟨_, rfl, ⟨v, vs, rfl, r, A.reps g3⟩⟩
      exact k _ F1 _ ((A.toS S.bd).trans A2) S2
    · cases h2
  · cases h2
end
/-! ### the law -/
def spLaw (K : PySem.W.Frag) : Sp := fun vs H Q _ => ∃ (a : Addr) (ns : List Int), vs = [.ref a] ∧ SqL K H a (ns.map V.int) ∧ ns.length ≤ 63 ∧ ∀ H', Q (.bl true) H'
/-- w = {"draws": F(script, n), "at": 0} -/
def tMkw (K : KW) (Gd : Fn) (n : Int) (iw : Nat) : TS := tAsg (tDisp [(tC (.str "draws"), rd K (eCall Gd (aCons (eVar 0) (aCons (eC (.int n)) aNil)))), (tC (.str "at"), tC (.int 0))]) (gName iw)
theorem law_d {P : Program} {ww : World} {K : PySem.W.Frag} {mg : Str → Option Value} {base : Heap} {st : Stmt} {f : Addr} {fd : FuncData} {N : List Str} {k : Nat} {s1 : Stmt} {rest : List Stmt} {g : SB} {Gd : Fn} {n : Int} {iw : Nat} (Fu : Fun K "law" "law" st f fd) (S : FnScope N ["script"] (defScope st)) (hN : 0 < iw ∧ iw < N.length)
    (hb : defBody st = s1 :: rest)
    (hbody : ∀ (cdv : Value) (A : Around) (outer : List Env) (s : Shared) (H : Hp) (E : XK), Room k (A.deeper (envOfC "law" (defScope st) s.heap.objs.size f cdv)) →
      PS (cxOf CX0 P ww K mg base N "law" (defScope st) f cdv A outer s H E).nox s1 (tMkw (KW.mk K ww) Gd n iw) ∧ SndSs (cxOf CX0 P ww K mg base N "law" (defScope st) f cdv A outer s H E).nox rest g)
    (math : ∀ ns : List Int, ns.length ≤ 63 → ∃ ds : List Int, Gd [.scr ns, .int n] none = some ((.lst (ds.map D.int), .ow), none) ∧ ∃ w', g ((startE N.length [.scr ns]).set iw (some (.w, false))) (some ⟨ds, 0⟩) = some (.rt (.bl true, .fz) w')) :
    FnOk P ww K mg base CX0 (k + 1) f fd ["script"] (spLaw K) := by
  refine Fu.ok S (fun vs H Q E h => ?_) (fun cdv A outer s H vs Q E hr h => ?_)
  · obtain ⟨a, ns, rfl, _⟩ := h; rfl
  · obtain ⟨a, ns, rfl, hS, hlen, q⟩ := h
    obtain ⟨h1, h2⟩ := hbody cdv A outer s H E hr
    obtain ⟨ds, m1, w', m2⟩ := math ns hlen
    rw [hb]
    refine ⟨_, pss_cons h1 h2, ?_⟩
    intro p hp
    -- the frozen: all that stands
    have np : ∀ a, H a ≠ none → a ≠ p := fun a h e => h (by rw [e]; exact hp)
    have rs : Rep (KW.mk K ww) (fun a => H a ≠ none) none H (.scr ns) (.ref a) := by
      refine ⟨a, rfl, ?_⟩
      rcases hS with hS | hS
      · refine .inl ⟨?_, hS⟩
        rcases hS with hS | ⟨o, hS⟩ <;> (show H a ≠ none; rw [hS]; simp)
      · exact .inr hS
    have wk0 : WOk (fun a => H a ≠ none) none H none := trivial
    have A0 := Aft.new0 (K := KW.mk K ww) (o := .dK []) wk0 (fun a h => h) hp
    have S0 : SI (KW.mk K ww) (fun a => H a ≠ none) (fun a => H a ≠ none) none H none (L2.start N [.ref a]) (startE N.length [.scr ns]) := by
      have hst := Reps.start (K := KW.mk K ww) (F := fun a => H a ≠ none) (wa := none) (H := H) (ds := [.scr ns]) (vs := [.ref a]) (.one rs) (N.length - 1)
      refine ⟨by unfold startE L2.start; simp, fun i d e => ?_, fun i d e => ?_, fun i j d e a _ e1 _ _ => ?_, trivial, fun a h => h, fun a h => h⟩
      · obtain ⟨_, v, e2, r2⟩ := hst i d false e
        exact ⟨v, e2, r2⟩
      · exact absurd (hst i d true e).1 (by decide)
      · exact absurd (hst i d true e1).1 (by decide)
    refine ⟨_, _, none, none, _, S0.aft A0, .lst (ds.map D.int), .ow, none, ?_, fun v F1 H1 A1 r1 => ?_⟩
    · show eCall Gd (aCons (eVar 0) (aCons (eC (.int n)) aNil)) (startE N.length [.scr ns]) none = _
      have hv : eVar 0 (startE N.length [.scr ns]) none = some ((.scr ns, .fz), none) := rfl
      unfold eCall aCons
      rw [hv]
      exact m1
    · -- the list of the draws is frozen
      obtain ⟨da, ea, ho, hn⟩ := r1
      subst ea
      have nF := ho.1
      obtain ⟨us, hu, ru⟩ := ho.lst
      have eus : us = ds.map V.int := by
        have : ∀ (ds : List Int) (us : List V), Reps (KW.mk K ww) F1 none H1 (ds.map D.int) us → us = ds.map V.int := by
          intro ds
          induction ds with
          | nil => intro us r; exact r
          | cons d r ih => intro us rr; obtain ⟨v, vr, e, r1, r2⟩ := rr; rw [e, show v = .int d from r1, ih vr r2]; rfl
        exact this ds us ru
      subst eus
      have hp1 : H1 p = some (.dK []) := A1.keep p _ upd_same (by simp)
      have nda : da ≠ p := fun e => by subst e; rw [upd_same] at hn; cases hn
      have nF1p : ¬ F1 p := fun z => by
        rcases A1.new p z with z | z
        · exact z hp
        · rw [upd_same] at z; cases z
      refine ⟨hp1, [(.inr "draws", .ref da), (.inr "at", .int 0)], rfl, by show 2 ≤ 15; decide, ?_⟩
      have hm : mergeK [] [((.inr "draws" : Key), V.ref da), (.inr "at", .int 0)] = [(kDraws, .ref da), (kAt, .int 0)] := by
        show putK (putK [] kDraws (.ref da)) kAt (.int 0) = _
        unfold putK
        simp [kv_ne]
      rw [hm]
      -- from here on with w
      have hk : ∀ b o, H b = some o → upd H1 p (.dK [(kDraws, .ref da), (kAt, .int 0)]) b = some o := fun b o h => by
        rw [upd_ne (np b (by rw [h]; simp))]
        exact A1.keep b o (by rw [upd_ne (np b (by rw [h]; simp))]; exact h) (by simp)
      have rs' : Rep (KW.mk K ww) (fun a => H a ≠ none ∨ a = da) (some p) (upd H1 p (.dK [(kDraws, .ref da), (kAt, .int 0)])) (.scr ns) (.ref a) := by
        obtain ⟨a', e, h⟩ := rs
        refine ⟨a', e, ?_⟩
        rcases h with ⟨h1, h2 | ⟨o, h2⟩⟩ | h
        · exact .inl ⟨.inl h1, .inl (hk _ _ h2)⟩
        · exact .inl ⟨.inl h1, .inr ⟨o, hk _ _ h2⟩⟩
        · exact .inr h
      have wk : WOk (fun a => H a ≠ none ∨ a = da) (some p) (upd H1 p (.dK [(kDraws, .ref da), (kAt, .int 0)])) (some ⟨ds, 0⟩) := by
        refine ⟨fun z => z.elim (fun z => z hp) fun z => nda z.symm, da, .inr rfl, upd_same, ?_⟩
        rw [upd_ne nda]; exact hu
      have fd : ∀ b, (H b ≠ none ∨ b = da) → upd H1 p (.dK [(kDraws, .ref da), (kAt, .int 0)]) b ≠ none := fun b z => by
        rcases z with z | z
        · cases hb : H b with
          | none => exact absurd hb z
          | some o => rw [hk b o hb]; simp
        · subst z; rw [upd_ne nda, hu]; simp
      refine ⟨fun a => H a ≠ none, _, some p, some ⟨ds, 0⟩, (startE N.length [.scr ns]).set iw (some (.w, false)), ⟨?_, fun i d e => ?_, fun i d e => ?_, fun i j d e a _ e1 _ _ => ?_, wk, fd, fun b hb z => ?_⟩, _, m2, ?_⟩
      · unfold startE L2.start; simp
      · by_cases hi : iw = i
        · subst hi
          rw [List.getElem?_set_self (by unfold startE; simp; omega)] at e
          cases e
          refine ⟨.ref p, ?_, p, rfl, rfl⟩
          rw [List.getElem?_set_self (by unfold L2.start; simp; omega)]
        · rw [List.getElem?_set_ne hi] at e
          obtain ⟨_, v, e2, r2⟩ := Reps.start (K := KW.mk K ww) (F := fun a => H a ≠ none ∨ a = da) (wa := some p) (H := upd H1 p (.dK [(kDraws, .ref da), (kAt, .int 0)])) (ds := [.scr ns]) (vs := [.ref a]) (.one rs') (N.length - 1) i d false e
          exact ⟨v, by rw [List.getElem?_set_ne hi]; exact e2, r2⟩
      · exfalso
        by_cases hi : iw = i
        · subst hi
          rw [List.getElem?_set_self (by unfold startE; simp; omega)] at e
          cases e
        · rw [List.getElem?_set_ne hi] at e
          exact absurd (Reps.start (K := KW.mk K ww) (F := fun a => H a ≠ none) (wa := none) (H := H) (ds := [.scr ns]) (vs := [.ref a]) (.one rs) (N.length - 1) i d true e).1 (by decide)
      · exfalso
        by_cases hi : iw = i
        · subst hi
          rw [List.getElem?_set_self (by unfold startE; simp; omega)] at e1
          cases e1
        · rw [List.getElem?_set_ne hi] at e1
          rename_i b _ _ _
          exact absurd (Reps.start (K := KW.mk K ww) (F := fun a => H a ≠ none) (wa := none) (H := H) (ds := [.scr ns]) (vs := [V.ref _]) (.one rs) (N.length - 1) i d true e1).1 (by decide)
      · exact fd b (.inl hb) z
      · intro v F2 H2 A2 rr
        have ev : v = .bl true := rr
        rw [ev]
        exact q H2
end Dl

set_option Elab.async false
set_option linter.all false
set_option maxRecDepth 100000
set_option maxHeartbeats 4000000
namespace Dl
open PySem PySem.Spec PyProof.Rows L2
abbrev dAdd : D → D → Option DS := els2 dAddI (els2 dCatL (els2 dCatT dCatS))
abbrev rAddG (K : KW) : R2 := fun x y H Q => rI0 (fun i j => .int (i + j)) x y H Q ∨ rCat x y H Q ∨ rCatF K x y H Q ∨ ∃ i j, x = .str i ∧ y = .str j ∧ i.length + j.length ≤ sizeLine ∧ Q (.str (i ++ j)) H
abbrev rEqG (K : KW) : R2 := fun x y H Q => rEq x y H Q ∨ rEqD K x y H Q
abbrev rNeG (K : KW) : R2 := fun x y H Q => rNe x y H Q ∨ rNeD K x y H Q
section
variable {X : Cx} {K : KW}
theorem op_addG : OpR X (binaryOp .Add) (rAddG (kwOf X)) := op_add.or (op_cat.or (op_catF.or op_add_str))
theorem sAdd : OpS K (rAddG K) dAdd := sAddI.els (sCatL.els (sCatT.els sCatS))
theorem op_eqG (hu : X.A.units + 64 < cLine) : OpR X (compareOp .Eq) (rEqG (kwOf X)) := op_eq.or (op_eqD hu)
theorem op_neG (hu : X.A.units + 64 < cLine) : OpR X (compareOp .NotEq) (rNeG (kwOf X)) := op_ne.or (op_neD hu)
theorem sEq : OpS K (rEqG K) dEq := sEqF.els sEqD
theorem sNe : OpS K (rNeG K) dNe := sNeF.els sNeD
theorem sIpAdd : OpS K (ipI fun i j => i + j) dAddI := fun wa w F H x y d st v1 v2 wk fd c1 c2 e Q q => by
  cases x with
  | int i => cases y with
    | int j => cases e; exact ⟨i, j, c1, c2, q.fz wk fd rfl⟩
    | _ => cases e
  | _ => cases e
theorem sIpSub : OpS K (ipI fun i j => i - j) dSub := fun wa w F H x y d st v1 v2 wk fd c1 c2 e Q q => by
  cases x with
  | int i => cases y with
    | int j => cases e; exact ⟨i, j, c1, c2, q.fz wk fd rfl⟩
    | _ => cases e
  | _ => cases e
end
def eDk0 : EF := fun _ w => some ((.dk [] [], .ow), w)
/-- a < b < c -/
def eCh (g g' : D → D → Option DS) (f1 f2 f3 : EF) : EF := fun env w => (f1 env w).bind fun p => (f2 env p.2).bind fun q => (g p.1.1 q.1.1).bind fun r => match r with
  | (.bl true, _) => (f3 env q.2).bind fun s => (g' q.1.1 s.1.1).map fun t => (t, s.2)
  | (.bl false, _) => some ((.bl false, .fz), q.2)
  | _ => none
end Dl

set_option Elab.async false
set_option linter.all false
set_option maxRecDepth 100000
set_option maxHeartbeats 4000000
namespace Dl
open PySem PySem.Spec PyProof.Rows L2
/-! ### more operations: sum, all, any, index, signs of texts, enumerate, pop -/
def intsD : List D → Option (List Int)
  | [] => some []
  | .int i :: r => (intsD r).map fun l => i :: l
  | _ => none
def bolsD : List D → Option (List Bool)
  | [] => some []
  | .bl i :: r => (bolsD r).map fun l => i :: l
  | _ => none
def dSum : List D → Option DS
  | [.lst ds] => (intsD ds).map fun ns => (.int ns.sum, .fz)
  | _ => none
def dAll : List D → Option DS
  | [.lst ds] => (bolsD ds).map fun ns => (.bl (ns.all id), .fz)
  | _ => none
def dAny : List D → Option DS
  | [.lst ds] => (bolsD ds).map fun ns => (.bl (ns.any id), .fz)
  | _ => none
def dInS (neg : Bool) : D → D → Option DS := fun x y => match x, y with
  | .str a, .str z => match a.cps.toList with
    | [c] => some (.bl (if neg then !decide (c ∈ z.cps.toList) else decide (c ∈ z.cps.toList)), .fz)
    | _ => none
  | _, _ => none
abbrev dInG (neg : Bool) : D → D → Option DS := els2 (dIn neg) (dInS neg)
def dIdx : D → D → Option DS := fun x y => match x with
  | .lst ds => if flatD y = true ∧ ds.all flatD = true then (ds.findIdx? fun z => eqF z y).map fun j => (.int (j : Nat), .fz) else none
  | _ => none
def signs (z : Str) : List D := z.cps.toList.map fun c => .str ⟨#[c]⟩
def iStrD (f : EF) : EI := fun env w => (f env w).bind fun p => match p.1.1 with
  | .str z => some (signs z, p.2)
  | _ => none
/-- x = y.pop(): y's slot is i, x's is j -/
def sPop (i j : Nat) : SB := fun env w => match env[i]? with
  | some (some (.lst ds, true)) => match ds[ds.length - 1]? with
    | some d => some (.nx ((env.set i (some (.lst ds.dropLast, true))).set j (some (d, false))) w)
    | none => none
  | _ => none
section
variable {K : KW} {F : Addr → Prop} {wa : Option Addr} {H : Hp}
theorem ints_reps : ∀ {ds : List D} {ns : List Int} {vs : List V}, intsD ds = some ns → Reps K F wa H ds vs → vs = ns.map V.int
  | [], ns, vs, h, r => by cases h; exact r
  | .int i :: ds, ns, vs, h, r => by
    obtain ⟨l, h1, h2⟩ := Option.map_eq_some_iff.mp (show (intsD ds).map (fun l => i :: l) = some ns from h)
    subst h2
    obtain ⟨v, t, e, r1, r2⟩ := r
    subst e
    rw [ints_reps h1 r2, show v = .int i from r1]; rfl
theorem bols_reps : ∀ {ds : List D} {ns : List Bool} {vs : List V}, bolsD ds = some ns → Reps K F wa H ds vs → vs = ns.map V.bl
  | [], ns, vs, h, r => by cases h; exact r
  | .bl i :: ds, ns, vs, h, r => by
    obtain ⟨l, h1, h2⟩ := Option.map_eq_some_iff.mp (show (bolsD ds).map (fun l => i :: l) = some ns from h)
    subst h2
    obtain ⟨v, t, e, r1, r2⟩ := r
    subst e
    rw [bols_reps h1 r2, show v = .bl i from r1]; rfl
theorem sSum : CallS K (rSum K) dSum := fun wa w F H ds d st vs wk fd c e Q q => by
  unfold dSum at e
  split at e
  · obtain ⟨ns, h1, h2⟩ := Option.map_eq_some_iff.mp e
    cases h2
    obtain ⟨v, rfl, a, us, e1, hh, rr⟩ := curs1 c
    subst e1
    have := ints_reps h1 rr
    subst this
    exact ⟨a, ns, rfl, .inl (.inl hh), q.fz wk fd rfl⟩
  · cases e
theorem sAll : CallS K (rAll K) dAll := fun wa w F H ds d st vs wk fd c e Q q => by
  unfold dAll at e
  split at e
  · obtain ⟨ns, h1, h2⟩ := Option.map_eq_some_iff.mp e
    cases h2
    obtain ⟨v, rfl, a, us, e1, hh, rr⟩ := curs1 c
    subst e1
    have := bols_reps h1 rr
    subst this
    exact ⟨a, ns, rfl, .inl (.inl hh), q.fz wk fd rfl⟩
  · cases e
theorem sAny : CallS K (rAny K) dAny := fun wa w F H ds d st vs wk fd c e Q q => by
  unfold dAny at e
  split at e
  · obtain ⟨ns, h1, h2⟩ := Option.map_eq_some_iff.mp e
    cases h2
    obtain ⟨v, rfl, a, us, e1, hh, rr⟩ := curs1 c
    subst e1
    have := bols_reps h1 rr
    subst this
    exact ⟨a, ns, rfl, .inl (.inl hh), q.fz wk fd rfl⟩
  · cases e
abbrev rInSG (neg : Bool) : R2 := fun x y H Q => ∃ (c : Nat) (z : Str), x = .str ⟨#[c]⟩ ∧ y = .str z ∧ Q (.bl (if neg then !decide (c ∈ z.cps.toList) else decide (c ∈ z.cps.toList))) H
theorem sInS (neg : Bool) : OpS K (rInSG neg) (dInS neg) := fun wa w F H x y d st v1 v2 wk fd c1 c2 e Q q => by
  unfold dInS at e
  split at e
  · rename_i a z
    split at e
    · rename_i c hc
      cases e
      cases c1
      cases c2
      exact ⟨c, z, by obtain ⟨⟨l⟩⟩ := a; simp at hc; subst hc; rfl, rfl, q.fz wk fd rfl⟩
    · cases e
  · cases e
abbrev rInG (K : KW) (neg : Bool) : R2 := fun x y H Q => rIn K neg x y H Q ∨ rInSG neg x y H Q
theorem sInG (neg : Bool) : OpS K (rInG K neg) (dInG neg) := (sIn neg).els (sInS neg)
theorem op_inG {X : Cx} : OpR X (compareOp .In) (rInG (kwOf X) false) := op_in_seq.or op_in_sign
theorem op_notInG {X : Cx} : OpR X (compareOp .NotIn) (rInG (kwOf X) true) := op_notIn_seq.or op_notIn_sign
end
section
variable {X : Cx} {e e1 e2 a b tg : Expr} {f g : EF} {pos p : Pos}
/-- x in C, C a tuple of the module -/
def dInK (neg : Bool) (C : List D) : D → Option DS := fun x => dIn neg x (.tup C)
theorem e_inK {x : Str} {neg : Bool} {op : CmpOp} {C : List D} {cp : Pos} {A : Addr} (ho : OpR X (compareOp op) (rIn (kwOf X) neg)) (hg : Gl X x) (hm : X.mg x = some (.ref A)) (hC : ∀ F wa H, ∃ vs, SqT (kwOf X) H A vs ∧ Reps (kwOf X) F wa H C vs) (hmk : behindInMarks op (.Name x cp) = false) (hd : (x == ("__debug__" : Str)) = false := by decide) (ha : Snd X a f) :
    Snd X (.Compare a [op] [.Name x cp] pos) (eUn (dInK neg C) f) := by
  refine pe_imp (pe_cmpR ho ha (pe_glob (v := .ref A) hg hm rfl hd) hmk) fun σ H Q q => ?_
  obtain ⟨B, F, wa, w, env, S, d, st, w', hf, k⟩ := q
  unfold eUn at hf
  obtain ⟨⟨⟨d1, st1⟩, w1⟩, h1, h2⟩ := Option.bind_eq_some_iff.mp hf
  obtain ⟨⟨d3, st3⟩, h5, h6⟩ := Option.map_eq_some_iff.mp h2
  cases h6
  refine ⟨B, F, wa, w, env, S, d1, st1, _, h1, fun v1 F1 H1 A1 r1 => ?_⟩
  obtain ⟨vs, q1, q2⟩ := hC F1 wa H1
  show rIn (kwOf X) neg v1 (.ref A) H1 Q
  unfold dInK dIn at h5
  obtain ⟨ys, h7, h8⟩ := Option.bind_eq_some_iff.mp h5
  cases h7
  by_cases hc : flatD d1 = true ∧ C.all flatD = true
  · rw [if_pos hc] at h8
    cases h8
    have rx := flatD_rep hc.1 r1.cur
    exact ⟨A, vs, rfl, .inr q1, flat_cur hc.1 rx, flat_reps q2 hc.2, (Res.behind S A1 k).fz A1.wk A1.fd (by rw [any_reps hc.1 rx q2 hc.2]; rfl)⟩
  · rw [if_neg hc] at h8; cases h8
theorem e_gs {x z : Str} (hg : Gl X x) (h : ∃ t, X.mg x = some (.str z t)) (hd : (x == ("__debug__" : Str)) = false := by decide) : Snd X (.Name x pos) (eC (.str z)) := by
  obtain ⟨t, h⟩ := h
  exact e_c (pe_glob (v := .str z) hg h ⟨t, rfl⟩ hd) fun _ _ _ => rfl
theorem e_inKx {x : Str} {neg : Bool} {op : CmpOp} {C : List D} {cp : Pos} (ho : OpR X (compareOp op) (rIn (kwOf X) neg)) (hg : Gl X x) (h : ∃ A, X.mg x = some (.ref A) ∧ ∃ vs, ∀ F wa H, SqT (kwOf X) H A vs ∧ Reps (kwOf X) F wa H C vs) (hmk : behindInMarks op (.Name x cp) = false) (hd : (x == ("__debug__" : Str)) = false) (ha : Snd X a f) :
    Snd X (.Compare a [op] [.Name x cp] pos) (eUn (dInK neg C) f) := by
  obtain ⟨A, hm, vs, hC⟩ := h
  exact e_inK ho hg hm (fun F wa H => ⟨vs, hC F wa H⟩) hmk hd ha
theorem t_inKx {x : Str} {neg : Bool} {op : CmpOp} {C : List D} {cp : Pos} (ho : OpR X (compareOp op) (rIn (kwOf X) neg)) (hg : Gl X x) (h : ∃ A, X.mg x = some (.ref A) ∧ ∃ vs, ∀ F wa H, SqT (kwOf X) H A vs ∧ Reps (kwOf X) F wa H C vs) (hmk : behindInMarks op (.Name x cp) = false) (hd : (x == ("__debug__" : Str)) = false) (ha : Snd X a f) :
    SndT X (.Compare a [op] [.Name x cp] pos) (tVal (eUn (dInK neg C) f)) := by
  obtain ⟨A, hm, vs, hC⟩ := h
  refine pt_imp (pt_cmpR ho ha (pe_glob (v := .ref A) hg hm rfl hd) hmk) fun σ H Q q => ?_
  obtain ⟨B, F, wa, w, env, S, b, w', hf, k⟩ := q
  unfold tVal eUn at hf
  obtain ⟨⟨⟨d0, st0⟩, w0⟩, hf0, hf1⟩ := Option.bind_eq_some_iff.mp hf
  obtain ⟨⟨⟨d1, st1⟩, w1⟩, h1, h2⟩ := Option.bind_eq_some_iff.mp hf0
  obtain ⟨⟨d3, st3⟩, h5, h6⟩ := Option.map_eq_some_iff.mp h2
  cases h6
  refine ⟨B, F, wa, w, env, S, d1, st1, _, h1, fun v1 F1 H1 A1 r1 => ?_⟩
  obtain ⟨q1, q2⟩ := hC F1 wa H1
  unfold dInK dIn at h5
  obtain ⟨ys, h7, h8⟩ := Option.bind_eq_some_iff.mp h5
  cases h7
  by_cases hc : flatD d1 = true ∧ C.all flatD = true
  · rw [if_pos hc] at h8
    cases h8
    cases hf1
    have rx := flatD_rep hc.1 r1.cur
    refine ⟨A, vs, rfl, .inr q1, flat_cur hc.1 rx, flat_reps q2 hc.2, ?_⟩
    rw [any_reps hc.1 rx q2 hc.2]
    exact ⟨_, rfl, k F1 H1 A1⟩
  · rw [if_neg hc] at h8; cases h8
theorem e_idx {apos cpos : Pos} (he : Snd X e f) (ha : Snd X a g) (hs : starEach [a] X.env = (false, eval a X.env) :: starEach [] X.env := by rfl)
    (hpe : ∀ {to : TE} {ta : TA}, PE X e to → PA X [a] ta → PE X (.Call (.Attribute e "index" apos) [a] [] cpos) (tBM (kwOf X) "list" (rIndex (kwOf X)) to ta) := by
      intro to ta h1 h2; exact pe_bm PySem.F.plainAttrs_list PySem.F.slot_list_index PySem.F.type_list_index mt_index h1 h2) :
    Snd X (.Call (.Attribute e "index" apos) [a] [] cpos) (eOp dIdx f g) := by
  refine pe_imp (hpe he (pa_cons ha pa_nil hs)) fun σ H Q q => ?_
  obtain ⟨B, F, wa, w, env, S, d, st, w', hf, k⟩ := q
  unfold eOp at hf
  obtain ⟨⟨⟨d1, st1⟩, w1⟩, h1, h2⟩ := Option.bind_eq_some_iff.mp hf
  obtain ⟨⟨⟨d2, st2⟩, w2⟩, h3, h4⟩ := Option.bind_eq_some_iff.mp h2
  obtain ⟨⟨d3, st3⟩, h5, h6⟩ := Option.map_eq_some_iff.mp h4
  cases h6
  refine ⟨B, F, wa, w, env, S, d1, st1, w1, h1, fun v1 F1 H1 A1 r1 => ?_⟩
  unfold dIdx at h5
  dsimp only at h5
  split at h5
  · rename_i ds
    split at h5
    · rename_i hfl
      obtain ⟨j, h7, h8⟩ := Option.map_eq_some_iff.mp h5
      cases h8
      obtain ⟨a0, vs0, ea0, hh0, _⟩ := r1.cur
      subst ea0
      refine ⟨.inl ⟨rfl, vs0, .inl (.inl hh0)⟩, ?_⟩
      refine ⟨B, F1, wa, w1, env, S.aft A1, d2, st2, _, h3, fun v2 F2 H2 A2 r2 => ?_⟩
      obtain ⟨a1, vs, ea1, hh, rr⟩ := (r1.aft A2).cur
      cases ea1
      have rx := flatD_rep hfl.1 r2.cur
      obtain ⟨hj, hp, hlt⟩ := List.findIdx?_eq_some_iff_getElem.mp h7
      have rj := rr.at (List.getElem?_eq_getElem hj)
      obtain ⟨z, hz, rz⟩ := rj
      have fl : ∀ (m : Nat) (z' : V), vs[m]? = some z' → ∃ dm, ds[m]? = some dm ∧ flatD dm = true ∧ Rep (kwOf X) F2 wa H2 dm z' := fun m z' hz' => by
        obtain ⟨dm, e1, e2⟩ := rr.at' hz'
        exact ⟨dm, e1, List.all_eq_true.mp hfl.2 dm (List.mem_of_getElem? e1), e2⟩
      refine ⟨a0, vs, v2, j, z, rfl, rfl, .inl (.inl hh), flat_cur hfl.1 rx, flat_reps rr hfl.2, hz, ?_, ?_, (Res.behind S (A1.trans A2) k).fz A2.wk A2.fd rfl⟩
      · obtain ⟨dm, e1, e2, e3⟩ := fl j z hz
        rw [eqF_cur e2 hfl.1 e3 rx]
        rw [List.getElem?_eq_getElem hj] at e1
        cases e1
        exact hp
      · intro m z' hm hz'
        obtain ⟨dm, e1, e2, e3⟩ := fl m z' hz'
        rw [eqF_cur e2 hfl.1 e3 rx]
        have := hlt m hm
        rw [List.getElem?_eq_getElem (Nat.lt_trans hm hj)] at e1
        cases e1
        simpa using this
    · cases h5
  · cases h5
theorem i_str (he : Snd X e f) : SndC false X tg e (iStrD f) := by
  refine pi_imp (pi_str he) fun σ H R q => ?_
  obtain ⟨B, F, wa, w, env, S, ds, w', hf, k⟩ := q
  unfold iStrD at hf
  obtain ⟨⟨⟨d1, st1⟩, w1⟩, h1, h2⟩ := Option.bind_eq_some_iff.mp hf
  refine ⟨B, F, wa, w, env, S, d1, st1, w1, h1, fun v F1 H1 A r => ?_⟩
  dsimp only at h2
  split at h2
  · rename_i z
    cases h2
    refine ⟨z, r.cur, k _ F1 H1 A fun F2 H2 g1 g2 g3 => ⟨fun i d hd => ?_, ?_⟩⟩
    · unfold signs at hd
      rw [List.getElem?_map] at hd
      obtain ⟨c, h5, h6⟩ := Option.map_eq_some_iff.mp hd
      subst h6
      have hc : z.cps[i]? = some c := by rw [← h5]; simp
      refine ⟨(Array.getElem?_eq_some_iff.mp hc).1, fun x H3 y => ?_⟩
      obtain ⟨e3, c', h7, h8⟩ := y
      subst e3
      rw [hc] at h7
      cases h7
      exact ⟨F2, fun w2 wk fd => Aft.refl wk fd, .inl h8⟩
    · show z.cps.size ≤ (signs z).length
      unfold signs; simp
  · cases h2
theorem s_pop (i j : Nat) {x apos cpos pos' : Pos} {nm y : Str} (hN : X.N.Nodup) (hj : X.N[j]? = some y) (hx : Loc X.env.scope y) (ho : PE X (.Name nm x) (tVar i))
    (hpe : ∀ {to : TE}, PE X (.Name nm x) to → PE X (.Call (.Attribute (.Name nm x) "pop" apos) [] [] cpos) (tBM0 (kwOf X) "list" rPop to) := by
      intro to h1; exact pe_bm0 PySem.F.plainAttrs_list PySem.F.slot_list_pop PySem.F.type_list_pop mt_pop h1)
    (hs : swapsWith (.Call (.Attribute (.Name nm x) "pop" apos) [] [] cpos) (some (.Name y pos')) pos.line X.env = pure false := by rfl) (hf : X.fn y = true ∨ X.env.scope.names.lookup y = some .local := by first | exact .inl rfl | exact .inr rfl | assumption) :
    SndS X (.Assign [.Name y pos'] (.Call (.Attribute (.Name nm x) "pop" apos) [] [] cpos) pos) (sPop i j) := by
  refine ps_imp (ps_set hN hj hx (hpe ho) hs hf) fun Dn σ H q => ?_
  obtain ⟨B, F, wa, w, env, S, out, hf, k⟩ := q
  unfold sPop at hf
  split at hf
  · rename_i ds hd
    split at hf
    · rename_i d hl
      cases hf
      obtain ⟨a, vs, g1, g2, g3, g4⟩ := own_lst S hd
      obtain ⟨v, hv, rv⟩ := g3.at hl
      refine ⟨.ref a, g1, .inl ⟨rfl, vs, .inl (.inl g2)⟩, ?_⟩
      refine ⟨a, vs, v, rfl, rfl, g2, by rw [← g3.len]; exact hv, ?_⟩
      have g5 : Reps (kwOf X) F wa H ds.dropLast vs.dropLast := by
        rw [List.dropLast_eq_take, List.dropLast_eq_take, ← g3.len]; exact g3.take _
      obtain ⟨A2, S2⟩ := S.write (d' := .lst ds.dropLast) (o := .lst vs.dropLast) hd g1 ⟨_, rfl, g5⟩
      exact k _ F _ A2 (S2.set j (Rep.mono A2.sub A2.kf _ _ rv))
    · cases hf
  · cases hf
theorem enum_at : ∀ {xs : List D} {k : Int} {i : Nat} {d : D}, (enumD k xs)[i]? = some d → ∃ a, xs[i]? = some a ∧ d = .tup [.int (k + i), a]
  | [], _, _, _, h => nomatch h
  | x :: xs, k, 0, d, h => by
    simp [enumD] at h
    exact ⟨x, rfl, by rw [← h]; simp⟩
  | x :: xs, k, i + 1, d, h => by
    have h' : (enumD (k + 1) xs)[i]? = some d := h
    obtain ⟨a, h1, h2⟩ := enum_at h'
    refine ⟨a, by simpa using h1, ?_⟩
    rw [h2]
    have : k + 1 + (i : Int) = k + ((i + 1 : Nat) : Int) := by omega
    rw [this]
theorem enum_len : ∀ {xs : List D} {k : Int}, (enumD k xs).length = xs.length
  | [], _ => rfl
  | x :: xs, k => by simp [enumD, enum_len (xs := xs)]
theorem i_enum {p tpos : Pos} {elts : List Expr} {kk : Nat} {ga : EA} (hg : Gl X "enumerate") (hm : X.mg "enumerate" = none) (ha : SndA X [e] ga) (hone : ∀ env w ds w', ga env w = some (ds, w') → ds.length = 1) (hs : starEach [e] X.env = [(false, eval e X.env)] := by rfl) :
    SndC true X (.Tuple elts kk tpos) (.Call (.Name "enumerate" p) [e] [] pos) (iEnumD ga) := by
  refine pi_imp (pi_enum hg hm ha hs) fun σ H R q => ?_
  obtain ⟨B, F, wa, w, env, S, ds, w', hf, k⟩ := q
  unfold iEnumD at hf
  obtain ⟨⟨ps, w1⟩, h1, h2⟩ := Option.bind_eq_some_iff.mp hf
  have h0 := hone _ _ _ _ h1
  refine ⟨B, F, wa, w, env, S, ps, w1, h1, fun vs F1 H1 A r => ?_⟩
  have stab : ∀ {st : O3} {xs : List D} {v : V}, RS (kwOf X) B F1 wa H H1 (.lst xs) st v → ∃ a us, v = .ref a ∧ Reps (kwOf X) F1 wa H1 xs us ∧ ∀ H2, (∀ a o, F1 a → H1 a = some o → H2 a = some o) → (∀ a o, wa ≠ some a → H1 a = some o → H2 a = some o) → SqL (kwOf X) H2 a us := by
    intro st xs v r
    have own : ∀ a, OwnAt (kwOf X) F1 wa H1 (.lst xs) a → ∃ us, Reps (kwOf X) F1 wa H1 xs us ∧ ∀ H2, (∀ a o, F1 a → H1 a = some o → H2 a = some o) → (∀ a o, wa ≠ some a → H1 a = some o → H2 a = some o) → SqL (kwOf X) H2 a us := fun a o => by
      have o2 := o.2.1
      obtain ⟨vs, h, rr⟩ := o.lst
      exact ⟨vs, rr, fun H2 _ g => .inl (.inl (g _ _ o2 h))⟩
    cases st with
    | fz =>
      obtain ⟨a, vs, e, hF, h, rr⟩ := r
      exact ⟨a, vs, e, rr, fun H2 g _ => .inl (.inl (g _ _ hF h))⟩
    | ow => obtain ⟨a, e, o, _⟩ := r; obtain ⟨us, q1, q2⟩ := own a o; exact ⟨a, us, e, q1, q2⟩
    | bo => obtain ⟨a, e, o, _⟩ := r; obtain ⟨us, q1, q2⟩ := own a o; exact ⟨a, us, e, q1, q2⟩
  match ps, h0 with
  | [(d, st)], _ =>
    obtain ⟨r, _⟩ := r
    cases r with
    | @cons _ v1 _ _ r1 rr =>
      cases rr
      cases d with
      | lst xs =>
        cases h2
        obtain ⟨a, us, e1, p1, p2⟩ := stab r1
        refine ⟨a, us, by rw [show v1 = .ref a from e1], p2 H1 (fun _ _ _ h => h) (fun _ _ _ h => h), k _ F1 H1 A fun F2 H2 g1 g2 g3 => ?_⟩
        have q1 := p2 H2 g2 g3
        have s1 := p1.mono' g1 g2
        refine ⟨fun i d hd => ?_, ⟨us, q1, ?_⟩⟩
        · obtain ⟨x, z1, rfl⟩ := enum_at hd
          obtain ⟨vx, y1, y2⟩ := s1.at z1
          refine ⟨⟨us, vx, q1, y1⟩, fun x' H3 yl => ?_⟩
          obtain ⟨T, a1, e5, nT, e6, f1⟩ := yl
          have ex : a1 = vx := Option.some.inj ((f1 _ q1).symm.trans y1)
          subst ex e5 e6
          refine ⟨F2, fun w2 wk fd => Aft.new0 wk fd nT, .inr ⟨rfl, _, T, [.int (i : Nat), a1], rfl, rfl, .inl (.inl upd_same), ?_⟩⟩
          have m : ∀ d v, Rep (kwOf X) F2 wa H2 d v → Rep (kwOf X) F2 wa (upd H2 T (.tup [.int (i : Nat), a1])) d v := fun d v r => Rep.mono (fun _ z => z) (fun c o _ h => by rw [upd_ne (ne_of_none h nT)]; exact h) d v r
          exact ⟨.int (i : Nat), [a1], rfl, (by show V.int _ = V.int _; rw [Int.zero_add]), a1, [], rfl, m _ _ y2, rfl⟩
        · rw [enum_len, ← p1.len]
          exact Nat.le_refl _
      | _ => cases h2
end
end Dl

set_option Elab.async false
set_option linter.all false
set_option maxRecDepth 100000
set_option maxHeartbeats 4000000
namespace Dl
open PySem PySem.Spec PyProof.Rows L2
/-! ### order -/
/-- two data that can be compared -/
def cmpOk (a b : PyData) : Bool := PySem.W.alike a b && decide (min a.depth b.depth ≤ 60) && (match a with
  | .none => false
  | _ => true)
def rCmpD (K : KW) (f : PyData → PyData → Bool) : R2 := fun x y H Q => ∃ d e, Dp K H x d ∧ Dp K H y e ∧ cmpOk d e = true ∧ Q (.bl (f d e)) H
theorem cmpOk_of {a b : PyData} (h : cmpOk a b = true) : PySem.W.alike a b = true ∧ min a.depth b.depth ≤ 60 ∧ a ≠ .none := by
  unfold cmpOk at h
  simp only [Bool.and_eq_true, decide_eq_true_eq] at h
  exact ⟨h.1.1, h.1.2, fun e => by subst e; exact absurd h.2 (by simp)⟩
section
variable {X : Cx} {K : KW}
theorem op_ltD (hu : X.A.units + 64 < cLine) : OpR X (compareOp .Lt) (rCmpD (kwOf X) fun a b => PySem.W.dataLt a b) := by
  intro pins s σ H x y v u Q I rx ry h
  obtain ⟨d, e, hd, he, ok, q⟩ := h
  obtain ⟨o1, o2, o3⟩ := cmpOk_of ok
  obtain ⟨as, r1⟩ := Dp.reads I d x v hd rx
  obtain ⟨bs, r2⟩ := Dp.reads I e y u he ry
  exact PySem.W.lt_data r1 r2 o1 o3 (by omega) ⟨.bl _, H, I, rfl, q⟩
theorem op_gtD (hu : X.A.units + 64 < cLine) : OpR X (compareOp .Gt) (rCmpD (kwOf X) fun a b => PySem.W.dataLt b a) := by
  intro pins s σ H x y v u Q I rx ry h
  obtain ⟨d, e, hd, he, ok, q⟩ := h
  obtain ⟨o1, o2, o3⟩ := cmpOk_of ok
  obtain ⟨as, r1⟩ := Dp.reads I d x v hd rx
  obtain ⟨bs, r2⟩ := Dp.reads I e y u he ry
  exact PySem.W.gt_data r1 r2 o1 o3 (by omega) ⟨.bl _, H, I, rfl, q⟩
theorem op_leD (hu : X.A.units + 64 < cLine) : OpR X (compareOp .LtE) (rCmpD (kwOf X) fun a b => !PySem.W.dataLt b a) := by
  intro pins s σ H x y v u Q I rx ry h
  obtain ⟨d, e, hd, he, ok, q⟩ := h
  obtain ⟨o1, o2, o3⟩ := cmpOk_of ok
  obtain ⟨as, r1⟩ := Dp.reads I d x v hd rx
  obtain ⟨bs, r2⟩ := Dp.reads I e y u he ry
  exact PySem.W.le_data r1 r2 o1 o3 (by omega) ⟨.bl _, H, I, rfl, q⟩
theorem op_geD (hu : X.A.units + 64 < cLine) : OpR X (compareOp .GtE) (rCmpD (kwOf X) fun a b => !PySem.W.dataLt a b) := by
  intro pins s σ H x y v u Q I rx ry h
  obtain ⟨d, e, hd, he, ok, q⟩ := h
  obtain ⟨o1, o2, o3⟩ := cmpOk_of ok
  obtain ⟨as, r1⟩ := Dp.reads I d x v hd rx
  obtain ⟨bs, r2⟩ := Dp.reads I e y u he ry
  exact PySem.W.ge_data r1 r2 o1 o3 (by omega) ⟨.bl _, H, I, rfl, q⟩
/-- an order's answer over data -/
def dCmp (f : PyData → PyData → Bool) : D → D → Option DS := fun x y => match dPy x, dPy y with
  | some a, some b => if cmpOk a b = true then some (.bl (f a b), .fz) else none
  | _, _ => none
theorem sCmp (f : PyData → PyData → Bool) : OpS K (rCmpD K f) (dCmp f) := fun wa w F H x y d st v1 v2 wk fd c1 c2 e Q q => by
  unfold dCmp at e
  split at e
  · rename_i a b h1 h2
    split at e
    · rename_i hs
      cases e
      exact ⟨a, b, dPy_cur h1 c1, dPy_cur h2 c2, hs, q.fz wk fd rfl⟩
    · cases e
  · cases e
def dLtG : D → D → Option DS := dCmp fun a b => PySem.W.dataLt a b
def dGtG : D → D → Option DS := dCmp fun a b => PySem.W.dataLt b a
def dLeG : D → D → Option DS := dCmp fun a b => !PySem.W.dataLt b a
def dGeG : D → D → Option DS := dCmp fun a b => !PySem.W.dataLt a b
theorem sLtG : OpS K (rCmpD K fun a b => PySem.W.dataLt a b) dLtG := sCmp _
theorem sGtG : OpS K (rCmpD K fun a b => PySem.W.dataLt b a) dGtG := sCmp _
theorem sLeG : OpS K (rCmpD K fun a b => !PySem.W.dataLt b a) dLeG := sCmp _
theorem sGeG : OpS K (rCmpD K fun a b => !PySem.W.dataLt a b) dGeG := sCmp _
theorem dLtG_ii {i j : Int} : dLtG (.int i) (.int j) = some (.bl (decide (i < j)), .fz) := by
  show (if cmpOk (.int i) (.int j) = true then some (D.bl (PySem.W.dataLt (.int i) (.int j)), O3.fz) else none) = _
  rw [PySem.W.dataLt_int, if_pos (by simp [cmpOk, PySem.W.alike, PyData.depth])]
theorem dGtG_ii {i j : Int} : dGtG (.int i) (.int j) = some (.bl (decide (j < i)), .fz) := by
  show (if cmpOk (.int i) (.int j) = true then some (D.bl (PySem.W.dataLt (.int j) (.int i)), O3.fz) else none) = _
  rw [PySem.W.dataLt_int, if_pos (by simp [cmpOk, PySem.W.alike, PyData.depth])]
theorem dLeG_ii {i j : Int} : dLeG (.int i) (.int j) = some (.bl (decide (i ≤ j)), .fz) := by
  show (if cmpOk (.int i) (.int j) = true then some (D.bl (!PySem.W.dataLt (.int j) (.int i)), O3.fz) else none) = _
  rw [PySem.W.dataLt_int, if_pos (by simp [cmpOk, PySem.W.alike, PyData.depth]), PySem.W.not_lt_int]
theorem dGeG_ii {i j : Int} : dGeG (.int i) (.int j) = some (.bl (decide (j ≤ i)), .fz) := by
  show (if cmpOk (.int i) (.int j) = true then some (D.bl (!PySem.W.dataLt (.int i) (.int j)), O3.fz) else none) = _
  rw [PySem.W.dataLt_int, if_pos (by simp [cmpOk, PySem.W.alike, PyData.depth]), PySem.W.not_lt_int]
theorem dLtG_ss {i j : Str} : dLtG (.str i) (.str j) = some (.bl (decide (i.cps.toList < j.cps.toList)), .fz) := by
  show (if cmpOk (.str i) (.str j) = true then some (D.bl (PySem.W.dataLt (.str i) (.str j)), O3.fz) else none) = _
  rw [PySem.W.dataLt_str, if_pos (by simp [cmpOk, PySem.W.alike, PyData.depth])]
theorem dLeG_ss {i j : Str} : dLeG (.str i) (.str j) = some (.bl (decide (i.cps.toList ≤ j.cps.toList)), .fz) := by
  show (if cmpOk (.str i) (.str j) = true then some (D.bl (!PySem.W.dataLt (.str j) (.str i)), O3.fz) else none) = _
  rw [PySem.W.dataLt_str, if_pos (by simp [cmpOk, PySem.W.alike, PyData.depth]), PySem.W.not_lt_str]
theorem dGtG_ss {i j : Str} : dGtG (.str i) (.str j) = some (.bl (decide (j.cps.toList < i.cps.toList)), .fz) := by
  show (if cmpOk (.str i) (.str j) = true then some (D.bl (PySem.W.dataLt (.str j) (.str i)), O3.fz) else none) = _
  rw [PySem.W.dataLt_str, if_pos (by simp [cmpOk, PySem.W.alike, PyData.depth])]
theorem dGeG_ss {i j : Str} : dGeG (.str i) (.str j) = some (.bl (decide (j.cps.toList ≤ i.cps.toList)), .fz) := by
  show (if cmpOk (.str i) (.str j) = true then some (D.bl (!PySem.W.dataLt (.str i) (.str j)), O3.fz) else none) = _
  rw [PySem.W.dataLt_str, if_pos (by simp [cmpOk, PySem.W.alike, PyData.depth]), PySem.W.not_lt_str]
end
end Dl

set_option Elab.async false
set_option linter.all false
set_option maxRecDepth 100000
set_option maxHeartbeats 400000
namespace Dl
open PySem PySem.Spec PyProof.Rows L2
/-! ### reckoning with the forms: rows for simp that look at a part only when the part ahead is known -/
def bnd {α β : Type} (o : Option α) (f : α → Option β) : Option β := o.bind f
def cnd {β : Type} (c : Bool) (a b : Option β) : Option β := if c = true then a else b
@[simp] theorem bnd_some {α β : Type} (a : α) (f : α → Option β) : bnd (some a) f = f a := rfl
@[simp] theorem bnd_none {α β : Type} (f : α → Option β) : bnd none f = none := rfl
@[simp] theorem cnd_true {β : Type} (a b : Option β) : cnd true a b = a := rfl
@[simp] theorem cnd_false {β : Type} (a b : Option β) : cnd false a b = b := rfl
section
variable {env r : En} {w : Option Wd} {f g h f1 f2 f3 : EF} {t u : ET} {fa ga : EA} {sa sb : SB} {x : Option (D × Bool)} {d : D} {i : Nat}
@[simp] theorem eVar_0f : eVar 0 (some (d, false) :: r) w = some ((d, .fz), w) := rfl
@[simp] theorem eVar_0t : eVar 0 (some (d, true) :: r) w = some ((d, .bo), w) := rfl
@[simp] theorem eVar_s : eVar (i + 1) (x :: r) w = eVar i r w := rfl
@[simp] theorem eC_q : eC d env w = some ((d, .fz), w) := rfl
@[simp] theorem eDk0_q : eDk0 env w = some ((.dk [] [], .ow), w) := rfl
def fzP (p : DS × Option Wd) : Option (DS × Option Wd) := match p.1.2 with
  | .bo => none
  | _ => some ((p.1.1, .fz), p.2)
@[simp] theorem fzP_fz : fzP ((d, .fz), w) = some ((d, .fz), w) := rfl
@[simp] theorem fzP_ow : fzP ((d, .ow), w) = some ((d, .fz), w) := rfl
@[simp] theorem eFz_q : eFz f env w = bnd (f env w) fzP := rfl
def pairK {α : Type} (w : Option Wd) (r : α) : Option (α × Option Wd) := some (r, w)
@[simp] theorem pairK_q {α : Type} {r : α} : pairK w r = some (r, w) := rfl
theorem map_pair {α : Type} {o : Option α} {w : Option Wd} : (o.map fun r => (r, w)) = bnd o (pairK w) := by cases o <;> rfl
def opK2 (G : D → D → Option DS) (x : D) (q : DS × Option Wd) : Option (DS × Option Wd) := bnd (G x q.1.1) (pairK q.2)
@[simp] theorem opK2_q {G : D → D → Option DS} {x y : D} {s : O3} : opK2 G x ((y, s), w) = bnd (G x y) (pairK w) := rfl
def opK1 (G : D → D → Option DS) (g : EF) (env : En) (p : DS × Option Wd) : Option (DS × Option Wd) := bnd (g env p.2) (opK2 G p.1.1)
@[simp] theorem opK1_q {G : D → D → Option DS} {x : D} {s : O3} : opK1 G g env ((x, s), w) = bnd (g env w) (opK2 G x) := rfl
@[simp] theorem eOp_q {G : D → D → Option DS} : eOp G f g env w = bnd (f env w) (opK1 G g env) := by
  show (f env w).bind (fun p => (g env p.2).bind fun q => (G p.1.1 q.1.1).map fun r => (r, q.2)) = _
  refine congrArg (Option.bind _) (funext fun p => ?_)
  unfold opK1 bnd
  refine congrArg (Option.bind _) (funext fun q => ?_)
  exact map_pair
def unK (G : D → Option DS) (p : DS × Option Wd) : Option (DS × Option Wd) := bnd (G p.1.1) (pairK p.2)
@[simp] theorem unK_q {G : D → Option DS} {x : D} {s : O3} : unK G ((x, s), w) = bnd (G x) (pairK w) := rfl
@[simp] theorem eUn_q {G : D → Option DS} : eUn G f env w = bnd (f env w) (unK G) := by
  show (f env w).bind (fun p => (G p.1.1).map fun r => (r, p.2)) = _
  refine congrArg (Option.bind _) (funext fun p => ?_)
  exact map_pair
@[simp] theorem aNil_q : aNil env w = some ([], w) := rfl
def acK2 (x : DS) (q : List DS × Option Wd) : Option (List DS × Option Wd) := some (x :: q.1, q.2)
@[simp] theorem acK2_q {x : DS} {l : List DS} : acK2 x (l, w) = some (x :: l, w) := rfl
def acK1 (fa : EA) (env : En) (p : DS × Option Wd) : Option (List DS × Option Wd) := bnd (fa env p.2) (acK2 p.1)
@[simp] theorem acK1_q {x : DS} : acK1 fa env (x, w) = bnd (fa env w) (acK2 x) := rfl
@[simp] theorem aCons_q : aCons f fa env w = bnd (f env w) (acK1 fa env) := rfl
def eAK (G : List D → Option DS) (p : List DS × Option Wd) : Option (DS × Option Wd) := bnd (G (p.1.map (·.1))) (pairK p.2)
@[simp] theorem eAK_q {G : List D → Option DS} {l : List DS} : eAK G (l, w) = bnd (G (l.map (·.1))) (pairK w) := rfl
@[simp] theorem eA_q {G : List D → Option DS} : eA G fa env w = bnd (fa env w) (eAK G) := by
  show (fa env w).bind (fun p => (G (p.1.map (·.1))).map fun r => (r, p.2)) = _
  refine congrArg (Option.bind _) (funext fun p => ?_)
  exact map_pair
@[simp] theorem allFz_nil : allFz [] = true := rfl
@[simp] theorem allFz_cons {l : List DS} : allFz ((d, .fz) :: l) = allFz l := rfl
def eTupK (p : List DS × Option Wd) : Option (DS × Option Wd) := cnd (allFz p.1 && decide (p.1.length ≤ 1000)) (some ((.tup (p.1.map (·.1)), .fz), p.2)) none
@[simp] theorem eTupK_q {l : List DS} : eTupK (l, w) = cnd (allFz l && decide (l.length ≤ 1000)) (some ((.tup (l.map (·.1)), .fz), w)) none := rfl
@[simp] theorem eTup_q : eTup fa env w = bnd (fa env w) eTupK := by
  show (fa env w).bind (fun p => if allFz p.1 = true ∧ p.1.length ≤ 1000 then _ else none) = _
  refine congrArg (Option.bind _) (funext fun p => ?_)
  show (if allFz p.1 = true ∧ p.1.length ≤ 1000 then _ else none) = if (allFz p.1 && decide (p.1.length ≤ 1000)) = true then _ else none
  simp only [Bool.and_eq_true, decide_eq_true_eq]
def eLstK (p : List DS × Option Wd) : Option (DS × Option Wd) := cnd (allFz p.1 && decide (p.1.length ≤ 1000)) (some ((.lst (p.1.map (·.1)), .ow), p.2)) none
@[simp] theorem eLstK_q {l : List DS} : eLstK (l, w) = cnd (allFz l && decide (l.length ≤ 1000)) (some ((.lst (l.map (·.1)), .ow), w)) none := rfl
@[simp] theorem eLst_q : eLst fa env w = bnd (fa env w) eLstK := by
  show (fa env w).bind (fun p => if allFz p.1 = true ∧ p.1.length ≤ 1000 then _ else none) = _
  refine congrArg (Option.bind _) (funext fun p => ?_)
  show (if allFz p.1 = true ∧ p.1.length ≤ 1000 then _ else none) = if (allFz p.1 && decide (p.1.length ≤ 1000)) = true then _ else none
  simp only [Bool.and_eq_true, decide_eq_true_eq]
def callK (F : Fn) (p : List DS × Option Wd) : Option (DS × Option Wd) := cnd (allFz p.1) (F (p.1.map (·.1)) p.2) none
@[simp] theorem callK_q {F : Fn} {l : List DS} : callK F (l, w) = cnd (allFz l) (F (l.map (·.1)) w) none := rfl
@[simp] theorem eCall_q {F : Fn} : eCall F fa env w = bnd (fa env w) (callK F) := rfl
def ifK (f g : EF) (env : En) (p : Bool × Option Wd) : Option (DS × Option Wd) := if p.1 = true then f env p.2 else g env p.2
@[simp] theorem ifK_t : ifK f g env (true, w) = f env w := rfl
@[simp] theorem ifK_f : ifK f g env (false, w) = g env w := rfl
@[simp] theorem eIf_q : eIf t f g env w = bnd (t env w) (ifK f g env) := rfl
def notK (w : Option Wd) (b : Bool) : Option (DS × Option Wd) := some ((.bl (!b), .fz), w)
@[simp] theorem notK_q {b : Bool} : notK w b = some ((.bl (!b), .fz), w) := rfl
def notK1 (p : DS × Option Wd) : Option (DS × Option Wd) := bnd (truD p.1.1) (notK p.2)
@[simp] theorem notK1_q {x : D} {s : O3} : notK1 ((x, s), w) = bnd (truD x) (notK w) := rfl
@[simp] theorem eNot_q : eNot f env w = bnd (f env w) notK1 := by
  show (f env w).bind (fun p => (truD p.1.1).map fun b => ((D.bl (!b), O3.fz), p.2)) = _
  refine congrArg (Option.bind _) (funext fun p => ?_)
  show Option.map _ (truD p.1.1) = (truD p.1.1).bind _
  cases truD p.1.1 <;> rfl
def andK2 (g : EF) (env : En) (p : DS × Option Wd) (b : Bool) : Option (DS × Option Wd) := if b = true then g env p.2 else some p
@[simp] theorem andK2_t {x : DS} : andK2 g env (x, w) true = g env w := rfl
@[simp] theorem andK2_f {x : DS} : andK2 g env (x, w) false = some (x, w) := rfl
def andK1 (g : EF) (env : En) (p : DS × Option Wd) : Option (DS × Option Wd) := bnd (truD p.1.1) (andK2 g env p)
@[simp] theorem andK1_q {x : D} {s : O3} : andK1 g env ((x, s), w) = bnd (truD x) (andK2 g env ((x, s), w)) := rfl
@[simp] theorem eAnd_q : eAnd f g env w = bnd (f env w) (andK1 g env) := rfl
def orK2 (g : EF) (env : En) (p : DS × Option Wd) (b : Bool) : Option (DS × Option Wd) := if b = true then some p else g env p.2
@[simp] theorem orK2_f {x : DS} : orK2 g env (x, w) false = g env w := rfl
@[simp] theorem orK2_t {x : DS} : orK2 g env (x, w) true = some (x, w) := rfl
def orK1 (g : EF) (env : En) (p : DS × Option Wd) : Option (DS × Option Wd) := bnd (truD p.1.1) (orK2 g env p)
@[simp] theorem orK1_q {x : D} {s : O3} : orK1 g env ((x, s), w) = bnd (truD x) (orK2 g env ((x, s), w)) := rfl
@[simp] theorem eOr_q : eOr f g env w = bnd (f env w) (orK1 g env) := rfl
def valP (p : DS × Option Wd) : Option (Bool × Option Wd) := match p.1.1 with
  | .bl b => some (b, p.2)
  | _ => none
@[simp] theorem valP_bl {b : Bool} {s : O3} : valP ((.bl b, s), w) = some (b, w) := rfl
@[simp] theorem tVal_q : tVal f env w = bnd (f env w) valP := rfl
def truK (p : DS × Option Wd) : Option (Bool × Option Wd) := bnd (truD p.1.1) (pairK p.2)
@[simp] theorem truK_q {x : D} {s : O3} : truK ((x, s), w) = bnd (truD x) (pairK w) := rfl
@[simp] theorem tTru_q : tTru f env w = bnd (f env w) truK := by
  show (f env w).bind (fun p => (truD p.1.1).map fun b => (b, p.2)) = _
  refine congrArg (Option.bind _) (funext fun p => ?_)
  exact map_pair
def anK (u : ET) (env : En) (p : Bool × Option Wd) : Option (Bool × Option Wd) := if p.1 = true then u env p.2 else some (false, p.2)
@[simp] theorem anK_t : anK u env (true, w) = u env w := rfl
@[simp] theorem anK_f : anK u env (false, w) = some (false, w) := rfl
@[simp] theorem tAn_q : tAn t u env w = bnd (t env w) (anK u env) := rfl
def orK (u : ET) (env : En) (p : Bool × Option Wd) : Option (Bool × Option Wd) := if p.1 = true then some (true, p.2) else u env p.2
@[simp] theorem orK_f : orK u env (false, w) = u env w := rfl
@[simp] theorem orK_t : orK u env (true, w) = some (true, w) := rfl
@[simp] theorem tOrr_q : tOrr t u env w = bnd (t env w) (orK u env) := rfl
def noK (p : Bool × Option Wd) : Option (Bool × Option Wd) := some (!p.1, p.2)
@[simp] theorem noK_q {b : Bool} : noK (b, w) = some (!b, w) := rfl
@[simp] theorem tNo_q : tNo t env w = bnd (t env w) noK := rfl
@[simp] theorem tYes_q : tYesD env w = some (true, w) := rfl
@[simp] theorem oNone_q : oNone env w = some (none, w) := rfl
def intP (p : DS × Option Wd) : Option (Option Int × Option Wd) := match p.1.1 with
  | .int i => some (some i, p.2)
  | _ => none
@[simp] theorem intP_int {j : Int} {s : O3} : intP ((.int j, s), w) = some (some j, w) := rfl
@[simp] theorem oSome_q : oSome f env w = bnd (f env w) intP := rfl
def slK3 (G : D → Option Int → Option Int → Option DS) (x : D) (l : Option Int) (p : Option Int × Option Wd) : Option (DS × Option Wd) := bnd (G x l p.1) (pairK p.2)
@[simp] theorem slK3_q {G : D → Option Int → Option Int → Option DS} {x : D} {l h : Option Int} : slK3 G x l (h, w) = bnd (G x l h) (pairK w) := rfl
def slK2 (G : D → Option Int → Option Int → Option DS) (h : EO) (env : En) (x : D) (p : Option Int × Option Wd) : Option (DS × Option Wd) := bnd (h env p.2) (slK3 G x p.1)
@[simp] theorem slK2_q {G : D → Option Int → Option Int → Option DS} {h : EO} {x : D} {l : Option Int} : slK2 G h env x (l, w) = bnd (h env w) (slK3 G x l) := rfl
def slK1 (G : D → Option Int → Option Int → Option DS) (l h : EO) (env : En) (p : DS × Option Wd) : Option (DS × Option Wd) := bnd (l env p.2) (slK2 G h env p.1.1)
@[simp] theorem slK1_q {G : D → Option Int → Option Int → Option DS} {l h : EO} {x : D} {s : O3} : slK1 G l h env ((x, s), w) = bnd (l env w) (slK2 G h env x) := rfl
@[simp] theorem eSl_q {G : D → Option Int → Option Int → Option DS} {l h : EO} : eSl G f l h env w = bnd (f env w) (slK1 G l h env) := by
  show (f env w).bind (fun p => (l env p.2).bind fun q => (h env q.2).bind fun r => (G p.1.1 q.1 r.1).map fun d => (d, r.2)) = _
  refine congrArg (Option.bind _) (funext fun p => ?_)
  unfold slK1 bnd
  refine congrArg (Option.bind _) (funext fun q => ?_)
  unfold slK2 bnd
  refine congrArg (Option.bind _) (funext fun r => ?_)
  exact map_pair
/-! statements -/
@[simp] theorem sNil_q : sNil env w = some (.nx env w) := rfl
@[simp] theorem sBrk_q : sBrk env w = some (.bk env w) := rfl
@[simp] theorem sCnt_q : sCnt env w = some (.ct env w) := rfl
def nxt (h : SB) : Out → Option Out
  | .nx e w' => h e w'
  | o => some o
@[simp] theorem nxt_nx : nxt sb (.nx env w) = sb env w := rfl
@[simp] theorem nxt_rt {p : DS} : nxt sb (.rt p w) = some (.rt p w) := rfl
@[simp] theorem nxt_bk : nxt sb (.bk env w) = some (.bk env w) := rfl
@[simp] theorem nxt_ct : nxt sb (.ct env w) = some (.ct env w) := rfl
@[simp] theorem sSeq_q : sSeq sa sb env w = bnd (sa env w) (nxt sb) := by
  show (sa env w).bind _ = _
  refine congrArg (Option.bind _) (funext fun o => ?_)
  cases o <;> rfl
def setP (i : Nat) (env : En) (p : DS × Option Wd) : Option Out := match p.1.2 with
  | .fz => some (.nx (env.set i (some (p.1.1, false))) p.2)
  | .ow => some (.nx (env.set i (some (p.1.1, true))) p.2)
  | .bo => none
@[simp] theorem setP_fz : setP i env ((d, .fz), w) = some (.nx (env.set i (some (d, false))) w) := rfl
@[simp] theorem setP_ow : setP i env ((d, .ow), w) = some (.nx (env.set i (some (d, true))) w) := rfl
@[simp] theorem sSet_q : sSet i f env w = bnd (f env w) (setP i env) := rfl
def retK (p : DS × Option Wd) : Option Out := some (.rt p.1 p.2)
@[simp] theorem retK_q {x : DS} : retK (x, w) = some (.rt x w) := rfl
@[simp] theorem sRet_q : sRet f env w = bnd (f env w) retK := rfl
def drpK (env : En) (p : DS × Option Wd) : Option Out := some (.nx env p.2)
@[simp] theorem drpK_q {x : DS} : drpK env (x, w) = some (.nx env w) := rfl
@[simp] theorem sDrop_q : sDrop f env w = bnd (f env w) (drpK env) := rfl
def sifK (sa sb : SB) (env : En) (p : Bool × Option Wd) : Option Out := if p.1 = true then sa env p.2 else sb env p.2
@[simp] theorem sifK_t : sifK sa sb env (true, w) = sa env w := rfl
@[simp] theorem sifK_f : sifK sa sb env (false, w) = sb env w := rfl
@[simp] theorem sIf_q : sIf t sa sb env w = bnd (t env w) (sifK sa sb env) := rfl
@[simp] theorem clr_nil : clr [] env = env := rfl
def clr1 : Nat → En → En
  | 0, some (d, _) :: r => some (d, false) :: r
  | i + 1, x :: r => x :: clr1 i r
  | _, e => e
theorem clr1_ok : ∀ (i : Nat) (env : En), (match env[i]? with
  | some (some (d, _)) => env.set i (some (d, false))
  | _ => env) = clr1 i env
  | i, [] => by cases i <;> rfl
  | 0, none :: r => rfl
  | 0, some (d, b) :: r => rfl
  | i + 1, x :: r => by
    have ih := clr1_ok i r
    show (match r[i]? with
      | some (some (d, _)) => x :: r.set i (some (d, false))
      | _ => x :: r) = x :: clr1 i r
    rw [← ih]
    cases r[i]? with
    | none => rfl
    | some y => cases y with
      | none => rfl
      | some z => rfl
@[simp] theorem clr_cons {is : List Nat} : clr (i :: is) env = clr is (clr1 i env) := by
  rw [← clr1_ok]; rfl
@[simp] theorem clr1_0 {b : Bool} : clr1 0 (some (d, b) :: r) = some (d, false) :: r := rfl
@[simp] theorem clr1_0n : clr1 0 (none :: r) = none :: r := rfl
@[simp] theorem clr1_s : clr1 (i + 1) (x :: r) = x :: clr1 i r := rfl
@[simp] theorem sFrz_q {is : List Nat} : sFrz is sa env w = sa (clr is env) w := rfl
def getE : Nat → En → Option (D × Bool)
  | 0, x :: _ => x
  | i + 1, _ :: r => getE i r
  | _, [] => none
@[simp] theorem getE_0 : getE 0 (x :: r) = x := rfl
@[simp] theorem getE_s : getE (i + 1) (x :: r) = getE i r := rfl
theorem getE_ok : ∀ (i : Nat) (env : En), getE i env = (env[i]?).bind id
  | i, [] => by cases i <;> rfl
  | 0, x :: r => rfl
  | i + 1, x :: r => by
    show getE i r = _
    rw [getE_ok i r]; rfl
theorem get_id {i : Nat} {env : En} {d : D} {b : Bool} : env[i]? = some (some (d, b)) ↔ getE i env = some (d, b) := by
  rw [getE_ok]
  cases env[i]? with
  | none => simp
  | some x => simp
theorem sAug_q {G : D → D → Option DS} {d x : D} {w1 : Option Wd} {s : O3} {y : D} (h1 : getE i env = some (d, false)) (h2 : f env w = some ((x, s), w1)) (h3 : G d x = some (y, .fz)) : sAug i G f env w = some (.nx (env.set i (some (y, false))) w1) := by
  unfold sAug
  rw [get_id.mpr h1]
  show (f env w).bind _ = _
  rw [h2]
  show (G d x).bind _ = _
  rw [h3]; rfl
def appP (i : Nat) (env : En) (p : DS × Option Wd) : Option (D × Bool) → Option Out
  | some (.lst ds, true) => cnd (decide (ds.length < lim)) (some (.nx (env.set i (some (.lst (ds ++ [p.1.1]), true))) p.2)) none
  | _ => none
@[simp] theorem appP_q {p : DS × Option Wd} {ds : List D} : appP i env p (some (.lst ds, true)) = cnd (decide (ds.length < lim)) (some (.nx (env.set i (some (.lst (ds ++ [p.1.1]), true))) p.2)) none := rfl
theorem ite_cnd {β : Type} {c : Prop} [Decidable c] {a b : Option β} : (if c then a else b) = cnd (decide c) a b := by
  unfold cnd
  by_cases h : c <;> simp [h]
def appK (i : Nat) (env : En) (x : Option (D × Bool)) (p : DS × Option Wd) : Option Out := appP i env p x
@[simp] theorem appK_q {x : Option (D × Bool)} {y : DS} : appK i env x (y, w) = appP i env (y, w) x := rfl
@[simp] theorem sApp_q : sApp i f env w = bnd (eFz f env w) (appK i env (getE i env)) := by
  show (eFz f env w).bind _ = (eFz f env w).bind _
  refine congrArg (Option.bind _) (funext fun p => ?_)
  split
  · rename_i ds h
    rw [get_id.mp h, ite_cnd]; rfl
  · rename_i h
    cases hg : getE i env with
    | none => rfl
    | some x =>
      obtain ⟨d, b⟩ := x
      have := get_id.mpr hg
      cases d with
      | lst ds => cases b with
        | true => exact absurd this (h ds)
        | false => rfl
      | _ => rfl
def insP (i : Nat) (env : En) (p : DS × Option Wd) : Option (D × Bool) → Option Out
  | some (.lst ds, true) => cnd (decide (ds.length < lim)) (some (.nx (env.set i (some (.lst (p.1.1 :: ds), true))) p.2)) none
  | _ => none
@[simp] theorem insP_q {p : DS × Option Wd} {ds : List D} : insP i env p (some (.lst ds, true)) = cnd (decide (ds.length < lim)) (some (.nx (env.set i (some (.lst (p.1.1 :: ds), true))) p.2)) none := rfl
def insK (i : Nat) (env : En) (x : Option (D × Bool)) (p : DS × Option Wd) : Option Out := insP i env p x
@[simp] theorem insK_q {x : Option (D × Bool)} {y : DS} : insK i env x (y, w) = insP i env (y, w) x := rfl
@[simp] theorem sIns0_q : sIns0 i f env w = bnd (eFz f env w) (insK i env (getE i env)) := by
  show (eFz f env w).bind _ = (eFz f env w).bind _
  refine congrArg (Option.bind _) (funext fun p => ?_)
  split
  · rename_i ds h
    rw [get_id.mp h, ite_cnd]; rfl
  · rename_i h
    cases hg : getE i env with
    | none => rfl
    | some x =>
      obtain ⟨d, b⟩ := x
      have := get_id.mpr hg
      cases d with
      | lst ds => cases b with
        | true => exact absurd this (h ds)
        | false => rfl
      | _ => rfl
def extP (i : Nat) (env : En) (p : DS × Option Wd) : Option (D × Bool) → Option Out
  | some (.lst ds, true) => match p.1 with
    | (.lst es, .ow) => cnd (decide (ds.length + es.length < lim)) (some (.nx (env.set i (some (.lst (ds ++ es), true))) p.2)) none
    | _ => none
  | _ => none
@[simp] theorem extP_q {ds es : List D} : extP i env ((.lst es, .ow), w) (some (.lst ds, true)) = cnd (decide (ds.length + es.length < lim)) (some (.nx (env.set i (some (.lst (ds ++ es), true))) w)) none := rfl
theorem sExt_q {ds es : List D} {w1 : Option Wd} (h1 : getE i env = some (.lst ds, true)) (h2 : f env w = some ((.lst es, .ow), w1)) (h3 : ds.length + es.length < lim) : sExt i f env w = some (.nx (env.set i (some (.lst (ds ++ es), true))) w1) := by
  unfold sExt
  rw [h2, get_id.mpr h1]
  show (if ds.length + es.length < lim then _ else _) = _
  rw [if_pos h3]
@[simp] theorem sTick_q {W : Wd} : sTick 0 (some (.w, false) :: r) (some W) = some (.nx (some (.w, false) :: r) (some ⟨W.draws, W.ix + 1⟩)) := rfl
@[simp] theorem eWget_0 {W : Wd} {a : Bool} : eWget 0 a (some (.w, false) :: r) (some W) = some ((if a = true then .int W.ix else .lst (W.draws.map D.int), .fz), some W) := rfl
@[simp] theorem eWget_s {a : Bool} : eWget (i + 1) a (x :: r) w = eWget i a r w := rfl
def getP (ks : List Key) (ds : List D) (k : Key) (p : DS × Option Wd) : Option (DS × Option Wd) := some (match dFind ks ds k with
  | some x => (x, .fz)
  | none => p.1, p.2)
def getK3 (h : EF) (env : En) (ks : List Key) (ds : List D) (w : Option Wd) (k : Key) : Option (DS × Option Wd) := bnd (eFz h env w) (getP ks ds k)
@[simp] theorem getK3_q {ks : List Key} {ds : List D} {k : Key} : getK3 h env ks ds w k = bnd (eFz h env w) (getP ks ds k) := rfl
def getK2 (h : EF) (env : En) (ks : List Key) (ds : List D) (q : DS × Option Wd) : Option (DS × Option Wd) := bnd (keyD q.1.1) (getK3 h env ks ds q.2)
@[simp] theorem getK2_q {ks : List Key} {ds : List D} {x : D} {s : O3} : getK2 h env ks ds ((x, s), w) = bnd (keyD x) (getK3 h env ks ds w) := rfl
def get2P (g h : EF) (env : En) (p : DS × Option Wd) : Option (DS × Option Wd) := match p.1.1 with
  | .dk ks ds => bnd (g env p.2) (getK2 h env ks ds)
  | _ => none
@[simp] theorem get2P_q {ks : List Key} {ds : List D} {s : O3} : get2P g h env ((.dk ks ds, s), w) = bnd (g env w) (getK2 h env ks ds) := rfl
@[simp] theorem eGet2_q : eGet2 f g h env w = bnd (f env w) (get2P g h env) := by
  show (f env w).bind _ = _
  refine congrArg (Option.bind _) (funext fun p => ?_)
  obtain ⟨⟨d, s⟩, w'⟩ := p
  cases d <;> rfl
def nxK (w : Option Wd) (e : En) : Option Out := some (.nx e w)
@[simp] theorem nxK_q : nxK w env = some (.nx env w) := rfl
def unpK (set : ESet) (env : En) (p : DS × Option Wd) : Option Out := bnd (set p.1.1 env) (nxK p.2)
@[simp] theorem unpK_q {set : ESet} {x : D} {s : O3} : unpK set env ((x, s), w) = bnd (set x env) (nxK w) := rfl
@[simp] theorem sUnp_q {set : ESet} : sUnp set f env w = bnd (eFz f env w) (unpK set env) := by
  show (eFz f env w).bind (fun p => (set p.1.1 env).map fun e => Out.nx e p.2) = _
  refine congrArg (Option.bind _) (funext fun p => ?_)
  show Option.map _ (set p.1.1 env) = (set p.1.1 env).bind _
  cases set p.1.1 env <;> rfl
@[simp] theorem setN_q : setN i d env = some (env.set i (some (d, false))) := rfl
@[simp] theorem setT_q {is : List Nat} {ds : List D} : setT is (.tup ds) env = setL is ds env := rfl
@[simp] theorem setL_nil : setL [] [] env = some env := rfl
@[simp] theorem setL_cons {is : List Nat} {ds : List D} : setL (i :: is) (d :: ds) env = setL is ds (env.set i (some (d, false))) := rfl
def parP (i j : Nat) (env : En) (p : List DS × Option Wd) : Option Out := match p.1 with
  | [(d, s), (e, t)] => if s ≠ .bo ∧ t ≠ .bo then some (.nx ((env.set i (some (d, s == .ow))).set j (some (e, t == .ow))) p.2) else none
  | _ => none
@[simp] theorem parP_ff {j : Nat} {e : D} : parP i j env ([(d, .fz), (e, .fz)], w) = some (.nx ((env.set i (some (d, false))).set j (some (e, false))) w) := rfl
@[simp] theorem parP_fo {j : Nat} {e : D} : parP i j env ([(d, .fz), (e, .ow)], w) = some (.nx ((env.set i (some (d, false))).set j (some (e, true))) w) := rfl
@[simp] theorem parP_of {j : Nat} {e : D} : parP i j env ([(d, .ow), (e, .fz)], w) = some (.nx ((env.set i (some (d, true))).set j (some (e, false))) w) := rfl
@[simp] theorem parP_oo {j : Nat} {e : D} : parP i j env ([(d, .ow), (e, .ow)], w) = some (.nx ((env.set i (some (d, true))).set j (some (e, true))) w) := rfl
@[simp] theorem sPar_q {j : Nat} : sPar i j fa env w = bnd (fa env w) (parP i j env) := rfl
/-! sources, loops, comprehensions -/
@[simp] theorem itemsOf_lst {ds : List D} : itemsOf (.lst ds) = some ds := rfl
@[simp] theorem itemsOf_tup {ds : List D} : itemsOf (.tup ds) = some ds := rfl
def seqK (p : DS × Option Wd) : Option (List D × Option Wd) := bnd (itemsOf p.1.1) (pairK p.2)
@[simp] theorem seqK_q {x : D} {s : O3} : seqK ((x, s), w) = bnd (itemsOf x) (pairK w) := rfl
@[simp] theorem iSeq_q : iSeq f env w = bnd (f env w) seqK := by
  show (f env w).bind (fun p => (itemsOf p.1.1).map fun ds => (ds, p.2)) = _
  refine congrArg (Option.bind _) (funext fun p => ?_)
  exact map_pair
def rngK (p : List DS × Option Wd) : Option (List D × Option Wd) := match p.1 with
  | [(.int j, _)] => if -1000000 ≤ j ∧ j ≤ 1000000 then some (rangeD 0 j, p.2) else none
  | [(.int i, _), (.int j, _)] => if (-1000000 ≤ i ∧ i ≤ 1000000) ∧ -1000000 ≤ j ∧ j ≤ 1000000 then some (rangeD i j, p.2) else none
  | [(.int i, _), (.int j, _), (.int c, _)] => if ((-1000000 ≤ i ∧ i ≤ 1000000) ∧ -1000000 ≤ j ∧ j ≤ 1000000) ∧ c = -1 then some (downD i j, p.2) else none
  | _ => none
@[simp] theorem iRange_q : iRange fa env w = bnd (fa env w) rngK := rfl
theorem rngK_1 {j : Int} {s : O3} (h : -1000000 ≤ j ∧ j ≤ 1000000) : rngK ([(.int j, s)], w) = some (rangeD 0 j, w) := if_pos h
theorem rngK_2 {i j : Int} {s t : O3} (h : (-1000000 ≤ i ∧ i ≤ 1000000) ∧ -1000000 ≤ j ∧ j ≤ 1000000) : rngK ([(.int i, s), (.int j, t)], w) = some (rangeD i j, w) := if_pos h
theorem rngK_3 {i j : Int} {s t u : O3} (h : (-1000000 ≤ i ∧ i ≤ 1000000) ∧ -1000000 ≤ j ∧ j ≤ 1000000) : rngK ([(.int i, s), (.int j, t), (.int (-1), u)], w) = some (downD i j, w) := if_pos ⟨h, rfl⟩
def forK (set : ESet) (sa : SB) (env : En) (p : List D × Option Wd) : Option Out := forL set sa p.1 env p.2
@[simp] theorem forK_q {set : ESet} {l : List D} : forK set sa env (l, w) = forL set sa l env w := rfl
@[simp] theorem sFor_q {set : ESet} {fi : EI} : sFor set fi sa env w = bnd (fi env w) (forK set sa env) := rfl
@[simp] theorem forL_nil {set : ESet} : forL set sa [] env w = some (.nx env w) := rfl
def forP (set : ESet) (sa : SB) (ds : List D) : Out → Option Out
  | .nx e w' => forL set sa ds e w'
  | .ct e w' => forL set sa ds e w'
  | .bk e w' => some (.nx e w')
  | .rt r w' => some (.rt r w')
@[simp] theorem forP_nx {set : ESet} {ds : List D} : forP set sa ds (.nx env w) = forL set sa ds env w := rfl
@[simp] theorem forP_ct {set : ESet} {ds : List D} : forP set sa ds (.ct env w) = forL set sa ds env w := rfl
@[simp] theorem forP_bk {set : ESet} {ds : List D} : forP set sa ds (.bk env w) = some (.nx env w) := rfl
@[simp] theorem forP_rt {set : ESet} {ds : List D} {p : DS} : forP set sa ds (.rt p w) = some (.rt p w) := rfl
def forK2 (set : ESet) (sa : SB) (ds : List D) (w : Option Wd) (e1 : En) : Option Out := bnd (sa e1 w) (forP set sa ds)
@[simp] theorem forK2_q {set : ESet} {ds : List D} : forK2 set sa ds w env = bnd (sa env w) (forP set sa ds) := rfl
theorem forL_cons {set : ESet} {ds : List D} : forL set sa (d :: ds) env w = bnd (set d env) (forK2 set sa ds w) := by
  show (set d env).bind _ = (set d env).bind _
  refine congrArg (Option.bind _) (funext fun e1 => ?_)
  show (sa e1 w).bind _ = (sa e1 w).bind _
  refine congrArg (Option.bind _) (funext fun o => ?_)
  cases o <;> rfl
@[simp] theorem wipeE_nil : wipeE env [] = env := rfl
@[simp] theorem wipeE_cons {vs : List Nat} : wipeE env (i :: vs) = (wipeE env vs).set i none := rfl
def lcK2 (r : List D × Option Wd) : Option (DS × Option Wd) := some ((.lst r.1, .ow), r.2)
@[simp] theorem lcK2_q {l : List D} : lcK2 (l, w) = some ((.lst l, .ow), w) := rfl
def lcK (vs : List Nat) (set : ESet) (t : ET) (f : EF) (env : En) (p : List D × Option Wd) : Option (DS × Option Wd) := if p.1.length ≤ lim then bnd (lcL set t f p.1 (wipeE env vs) p.2) lcK2 else none
theorem lcK_q {vs : List Nat} {set : ESet} {l : List D} (h : l.length ≤ lim) : lcK vs set t f env (l, w) = bnd (lcL set t f l (wipeE env vs) w) lcK2 := if_pos h
@[simp] theorem eLC_q {vs : List Nat} {set : ESet} {fi : EI} : eLC vs set fi t f env w = bnd (fi env w) (lcK vs set t f env) := by
  show (fi env w).bind _ = (fi env w).bind _
  refine congrArg (Option.bind _) (funext fun p => ?_)
  show (if _ then _ else _) = if _ then _ else _
  congr 1
  show (lcL set t f p.1 (wipeE env vs) p.2).map _ = (lcL set t f p.1 (wipeE env vs) p.2).bind _
  cases lcL set t f p.1 (wipeE env vs) p.2 <;> rfl
@[simp] theorem lcL_nil {set : ESet} : lcL set t f [] env w = some ([], w) := rfl
def lcC (x : D) (r : List D × Option Wd) : Option (List D × Option Wd) := some (x :: r.1, r.2)
@[simp] theorem lcC_q {x : D} {l : List D} : lcC x (l, w) = some (x :: l, w) := rfl
def lcC3 (set : ESet) (t : ET) (f : EF) (ds : List D) (env : En) (q : DS × Option Wd) : Option (List D × Option Wd) := bnd (lcL set t f ds env q.2) (lcC q.1.1)
@[simp] theorem lcC3_q {set : ESet} {ds : List D} {x : D} {s : O3} : lcC3 set t f ds env ((x, s), w) = bnd (lcL set t f ds env w) (lcC x) := rfl
def lcC2 (set : ESet) (t : ET) (f : EF) (ds : List D) (env e1 : En) (p : Bool × Option Wd) : Option (List D × Option Wd) := if p.1 = true then bnd (eFz f e1 p.2) (lcC3 set t f ds env) else lcL set t f ds env p.2
@[simp] theorem lcC2_t {set : ESet} {ds : List D} {e1 : En} : lcC2 set t f ds env e1 (true, w) = bnd (eFz f e1 w) (lcC3 set t f ds env) := rfl
@[simp] theorem lcC2_f {set : ESet} {ds : List D} {e1 : En} : lcC2 set t f ds env e1 (false, w) = lcL set t f ds env w := rfl
def lcC1 (set : ESet) (t : ET) (f : EF) (ds : List D) (env : En) (w : Option Wd) (e1 : En) : Option (List D × Option Wd) := bnd (t e1 w) (lcC2 set t f ds env e1)
@[simp] theorem lcC1_q {set : ESet} {ds : List D} {e1 : En} : lcC1 set t f ds env w e1 = bnd (t e1 w) (lcC2 set t f ds env e1) := rfl
theorem lcL_cons {set : ESet} {ds : List D} : lcL set t f (d :: ds) env w = bnd (set d env) (lcC1 set t f ds env w) := by
  show (set d env).bind _ = (set d env).bind _
  refine congrArg (Option.bind _) (funext fun e1 => ?_)
  show (t e1 w).bind _ = (t e1 w).bind _
  refine congrArg (Option.bind _) (funext fun p => ?_)
  show (if p.1 = true then _ else _) = if p.1 = true then _ else _
  split
  · show (eFz f e1 p.2).bind _ = (eFz f e1 p.2).bind _
    refine congrArg (Option.bind _) (funext fun q => ?_)
    show (lcL set t f ds env q.2).map _ = (lcL set t f ds env q.2).bind _
    cases lcL set t f ds env q.2 <;> rfl
  · rfl
def whP (t : ET) (sa : SB) (n : Nat) : Out → Option Out
  | .nx e w' => sWhile t sa n e w'
  | .ct e w' => sWhile t sa n e w'
  | .bk e w' => some (.nx e w')
  | .rt r w' => some (.rt r w')
@[simp] theorem whP_nx {n : Nat} : whP t sa n (.nx env w) = sWhile t sa n env w := rfl
@[simp] theorem whP_ct {n : Nat} : whP t sa n (.ct env w) = sWhile t sa n env w := rfl
@[simp] theorem whP_bk {n : Nat} : whP t sa n (.bk env w) = some (.nx env w) := rfl
@[simp] theorem whP_rt {n : Nat} {p : DS} : whP t sa n (.rt p w) = some (.rt p w) := rfl
def whK (t : ET) (sa : SB) (n : Nat) (env : En) (p : Bool × Option Wd) : Option Out := if p.1 = true then bnd (sa env p.2) (whP t sa n) else some (.nx env p.2)
@[simp] theorem whK_t {n : Nat} : whK t sa n env (true, w) = bnd (sa env w) (whP t sa n) := rfl
@[simp] theorem whK_f {n : Nat} : whK t sa n env (false, w) = some (.nx env w) := rfl
theorem sWhile_s {n : Nat} : sWhile t sa (n + 1) env w = bnd (t env w) (whK t sa n env) := by
  show (t env w).bind _ = (t env w).bind _
  refine congrArg (Option.bind _) (funext fun p => ?_)
  show (if p.1 = true then _ else _) = if p.1 = true then _ else _
  split
  · show (sa env p.2).bind _ = (sa env p.2).bind _
    refine congrArg (Option.bind _) (funext fun o => ?_)
    cases o <;> rfl
  · rfl
def endP : Out → Option (DS × Option Wd)
  | .rt r w' => some (retD r, w')
  | .nx _ w' => some ((.non, .fz), w')
  | _ => none
@[simp] theorem endP_fz : endP (.rt (d, .fz) w) = some ((d, .fz), w) := rfl
@[simp] theorem endP_ow : endP (.rt (d, .ow) w) = some ((d, .ow), w) := rfl
@[simp] theorem endP_bo : endP (.rt (d, .bo) w) = some ((d, .ow), w) := rfl
@[simp] theorem endP_nx : endP (.nx env w) = some ((.non, .fz), w) := rfl
@[simp] theorem runFn_q {n p : Nat} {ds : List D} (hl : ds.length = p) : runFn n p sa ds w = bnd (sa (startE n ds) w) endP := by
  unfold runFn
  rw [if_pos hl]
  show (sa (startE n ds) w).bind _ = _
  refine congrArg (Option.bind _) (funext fun o => ?_)
  cases o <;> rfl
end
/-! values -/
@[simp] theorem truD_non : truD .non = some false := rfl
@[simp] theorem truD_bl {b : Bool} : truD (.bl b) = some b := rfl
@[simp] theorem truD_int {i : Int} : truD (.int i) = some (i != 0) := rfl
@[simp] theorem truD_lst {ds : List D} : truD (.lst ds) = some (!ds.isEmpty) := rfl
@[simp] theorem truD_tup {ds : List D} : truD (.tup ds) = some (!ds.isEmpty) := rfl
@[simp] theorem dII0_q {f : Int → Int → D} {i j : Int} : dII0 f (.int i) (.int j) = some (f i j, .fz) := rfl
@[simp] theorem dII_q {c : Int → Int → Bool} {f : Int → Int → D} {i j : Int} : dII c f (.int i) (.int j) = cnd (c i j) (some (f i j, .fz)) none := rfl
@[simp] theorem dAdd_ii {i j : Int} : els2 dAddI (els2 dCatL (els2 dCatT dCatS)) (.int i) (.int j) = some (.int (i + j), .fz) := rfl
theorem dAdd_ll {xs ys : List D} (h : xs.length + ys.length ≤ lim) : els2 dAddI (els2 dCatL (els2 dCatT dCatS)) (.lst xs) (.lst ys) = some (.lst (xs ++ ys), .ow) := by
  have e : dCatL (.lst xs) (.lst ys) = some (.lst (xs ++ ys), .ow) := if_pos h
  show (match dCatL (.lst xs) (.lst ys) with
    | some r => some r
    | none => _) = _
  rw [e]
theorem dAdd_tt {xs ys : List D} (h : xs.length + ys.length ≤ lim) : els2 dAddI (els2 dCatL (els2 dCatT dCatS)) (.tup xs) (.tup ys) = some (.tup (xs ++ ys), .fz) := by
  have e : dCatT (.tup xs) (.tup ys) = some (.tup (xs ++ ys), .fz) := if_pos h
  show (match dCatT (.tup xs) (.tup ys) with
    | some r => some r
    | none => _) = _
  rw [e]
def fzK (d : D) : Option DS := some (d, .fz)
@[simp] theorem fzK_q {d : D} : fzK d = some (d, .fz) := rfl
def fzKi (n : Int) : Option DS := some (.int n, .fz)
@[simp] theorem fzKi_q {n : Int} : fzKi n = some (.int n, .fz) := rfl
@[simp] theorem dIx_tup {ds : List D} {i : Int} : dIx (.tup ds) (.int i) = bnd (atI ds i) fzK := by
  show (atI ds i).map _ = (atI ds i).bind _
  cases atI ds i <;> rfl
@[simp] theorem dIx_lst {ds : List D} {i : Int} : dIx (.lst ds) (.int i) = bnd (atI ds i) fzK := by
  show (atI ds i).map _ = (atI ds i).bind _
  cases atI ds i <;> rfl
@[simp] theorem dIx_str {z : Str} {i : Int} : dIx (.str z) (.int i) = if z.length ≤ lim then (atI z.cps.toList i).map (fun c => (D.str ⟨#[c]⟩, O3.fz)) else none := rfl
@[simp] theorem dIx_scr {ns : List Int} {i : Int} : dIx (.scr ns) (.int i) = bnd (atI ns i) fzKi := by
  show (atI ns i).map _ = (atI ns i).bind _
  cases atI ns i <;> rfl
theorem atI_n {α : Type} {xs : List α} {j : Nat} : atI xs (j : Int) = xs[j]? := by
  unfold atI ixN
  rw [if_pos (Int.natCast_nonneg j)]
  by_cases h : (j : Int) < xs.length
  · rw [if_pos h]; simp
  · rw [if_neg h]
    show none = _
    rw [List.getElem?_eq_none (by omega)]
@[simp] theorem atI_0 {α : Type} {a : α} {xs : List α} : atI (a :: xs) 0 = some a := atI_n (j := 0)
@[simp] theorem atI_1 {α : Type} {a b : α} {xs : List α} : atI (a :: b :: xs) 1 = some b := atI_n (j := 1)
@[simp] theorem atI_2 {α : Type} {a b c : α} {xs : List α} : atI (a :: b :: c :: xs) 2 = some c := atI_n (j := 2)
@[simp] theorem atI_3 {α : Type} {a b c d : α} {xs : List α} : atI (a :: b :: c :: d :: xs) 3 = some d := atI_n (j := 3)
@[simp] theorem atI_end {α : Type} {a : α} {xs : List α} : atI (xs ++ [a]) (-1) = some a := atI_last xs a
@[simp] theorem atI_m1 {α : Type} {a : α} : atI [a] (-1) = some a := atI_last [] a
@[simp] theorem dLen_tup {ds : List D} : dLen [.tup ds] = some (.int (ds.length : Nat), .fz) := rfl
@[simp] theorem dLen_lst {ds : List D} : dLen [.lst ds] = some (.int (ds.length : Nat), .fz) := rfl
@[simp] theorem dLen_scr {ds : List Int} : dLen [.scr ds] = some (.int (ds.length : Nat), .fz) := rfl
@[simp] theorem dAbs_q {i : Int} : dAbs [.int i] = some (.int (if i < 0 then -i else i), .fz) := rfl
@[simp] theorem dInt_q {i : Int} : dInt [.int i] = some (.int i, .fz) := rfl
@[simp] theorem dInt_b {i : Bool} : dInt [.bl i] = some (.int (if i then 1 else 0), .fz) := rfl
@[simp] theorem dMax2_q {i j : Int} : dMax2 [.int i, .int j] = some (.int (if j > i then j else i), .fz) := rfl
@[simp] theorem dMin2_q {i j : Int} : dMin2 [.int i, .int j] = some (.int (if j < i then j else i), .fz) := rfl
@[simp] theorem dTuple_l {ds : List D} : dTuple [.lst ds] = some (.tup ds, .fz) := rfl
@[simp] theorem dTuple_t {ds : List D} : dTuple [.tup ds] = some (.tup ds, .fz) := rfl
@[simp] theorem dList_l {ds : List D} : dList [.lst ds] = some (.lst ds, .ow) := rfl
@[simp] theorem dList_t {ds : List D} : dList [.tup ds] = some (.lst ds, .ow) := rfl
@[simp] theorem dNeg_q {i : Int} : dNeg (.int i) = some (.int (-i), .fz) := rfl
@[simp] theorem keyD_i {i : Int} : keyD (.int i) = some (.inl i) := rfl
@[simp] theorem keyD_s {i : Str} : keyD (.str i) = some (.inr i) := rfl
@[simp] theorem dSl_t {ds : List D} {l h : Option Int} : dSl (.tup ds) l h = some (.tup (cutD ds l h), .fz) := rfl
@[simp] theorem dSl_l {ds : List D} {l h : Option Int} : dSl (.lst ds) l h = some (.lst (cutD ds l h), .ow) := rfl
theorem cut_take {ds : List D} {n : Nat} : cutD ds none (some (n : Int)) = ds.take n := by
  unfold cutD
  rw [HT.sIx_none, HT.sIx_nat, List.drop_zero, Nat.sub_zero, ← List.take_eq_take_min]
theorem cut_drop {ds : List D} {n : Nat} : cutD ds (some (n : Int)) none = ds.drop n := by
  unfold cutD
  rw [HT.sIx_none, HT.sIx_nat]
  by_cases h : n ≤ ds.length
  · rw [Nat.min_eq_left h, ← List.length_drop, List.take_length]
  · rw [Nat.min_eq_right (by omega), List.drop_length, List.drop_eq_nil_of_le (by omega)]; simp
@[simp] theorem cut_tail {d : D} {ds : List D} : cutD (d :: ds) (some 1) none = ds := cut_drop (n := 1)
@[simp] theorem cut_tail0 : cutD [] (some 1) none = [] := cut_drop (n := 1)
/-! comparisons -/
@[simp] theorem dEq_ii {i j : Int} : els2 (dEqF false) (dEqD false) (.int i) (.int j) = some (.bl (decide (i = j)), .fz) := rfl
@[simp] theorem dEq_ss {i j : Str} : els2 (dEqF false) (dEqD false) (.str i) (.str j) = some (.bl (decide (i = j)), .fz) := rfl
@[simp] theorem dEq_bb {i j : Bool} : els2 (dEqF false) (dEqD false) (.bl i) (.bl j) = some (.bl (i == j), .fz) := rfl
@[simp] theorem dEq_nn : els2 (dEqF false) (dEqD false) .non .non = some (.bl true, .fz) := rfl
@[simp] theorem dEq_ni {i : Int} : els2 (dEqF false) (dEqD false) .non (.int i) = some (.bl false, .fz) := rfl
@[simp] theorem dEq_in {i : Int} : els2 (dEqF false) (dEqD false) (.int i) .non = some (.bl false, .fz) := rfl
@[simp] theorem dNe_ii {i j : Int} : els2 (dEqF true) (dEqD true) (.int i) (.int j) = some (.bl (!(decide (i = j))), .fz) := rfl
@[simp] theorem dNe_ss {i j : Str} : els2 (dEqF true) (dEqD true) (.str i) (.str j) = some (.bl (!(decide (i = j))), .fz) := rfl
@[simp] theorem dNe_bb {i j : Bool} : els2 (dEqF true) (dEqD true) (.bl i) (.bl j) = some (.bl (!(i == j)), .fz) := rfl
@[simp] theorem dNe_nn : els2 (dEqF true) (dEqD true) .non .non = some (.bl false, .fz) := rfl
@[simp] theorem dNe_ni {i : Int} : els2 (dEqF true) (dEqD true) .non (.int i) = some (.bl true, .fz) := rfl
@[simp] theorem dNe_in {i : Int} : els2 (dEqF true) (dEqD true) (.int i) .non = some (.bl true, .fz) := rfl
def isK (neg b : Bool) : Option DS := some (.bl (if neg then !b else b), .fz)
@[simp] theorem isK_q {neg b : Bool} : isK neg b = some (.bl (if neg then !b else b), .fz) := rfl
@[simp] theorem dIs_q {neg : Bool} {x y : D} : dIs neg x y = bnd (isC x y) (isK neg) := by
  show (isC x y).map _ = (isC x y).bind _
  cases isC x y <;> rfl
@[simp] theorem isC_nn : isC .non .non = some true := rfl
@[simp] theorem isC_bb {a b : Bool} : isC (.bl a) (.bl b) = some (a == b) := rfl
@[simp] theorem isC_nb {b : Bool} : isC .non (.bl b) = some false := rfl
@[simp] theorem isC_bn {b : Bool} : isC (.bl b) .non = some false := rfl
@[simp] theorem isC_in {b : Int} : isC (.int b) .non = some false := rfl
@[simp] theorem isC_sn {b : Str} : isC (.str b) .non = some false := rfl
@[simp] theorem isC_tn {b : List D} : isC (.tup b) .non = some false := rfl
@[simp] theorem isC_ln {b : List D} : isC (.lst b) .non = some false := rfl
/-! == of data that is the same -/
mutual
def fine : Nat → D → Bool
  | _, .non => true
  | _, .bl _ => true
  | _, .int _ => true
  | _, .str x => PyData.strOk x
  | n + 1, .tup ds => fines n ds
  | n + 1, .lst ds => fines n ds
  | _, _ => false
def fines : Nat → List D → Bool
  | _, [] => true
  | n, d :: ds => fine n d && fines n ds
end
mutual
theorem fine_py : ∀ (n : Nat) (d : D), fine n d = true → ∃ p, dPy d = some p ∧ p.canLay0 = true ∧ p.depth ≤ n
  | n, .non, _ => ⟨_, rfl, by simp [PyData.canLay0], by simp [PyData.depth]⟩
  | n, .bl b, _ => ⟨_, rfl, by simp [PyData.canLay0], by simp [PyData.depth]⟩
  | n, .int b, _ => ⟨_, rfl, by simp [PyData.canLay0], by simp [PyData.depth]⟩
  | n, .str b, h => ⟨_, rfl, by
      have h' : PyData.strOk b = true := by simpa [fine] using h
      simp [PyData.canLay0, h'], by simp [PyData.depth]⟩
  | n + 1, .tup ds, h => by
    obtain ⟨ps, h1, h2, h3⟩ := fines_py n ds (by simpa [fine] using h)
    exact ⟨.tuple ps, by simp [dPy, h1], by simp [PyData.canLay0, h2], by simp [PyData.depth]; exact h3⟩
  | n + 1, .lst ds, h => by
    obtain ⟨ps, h1, h2, h3⟩ := fines_py n ds (by simpa [fine] using h)
    exact ⟨.list ps, by simp [dPy, h1], by simp [PyData.canLay0, h2], by simp [PyData.depth]; exact h3⟩
  | 0, .tup ds, h => by simp [fine] at h
  | 0, .lst ds, h => by simp [fine] at h
  | n, .dk _ _, h => by simp [fine] at h
  | n, .scr _, h => by simp [fine] at h
  | n, .ty _, h => by simp [fine] at h
  | n, .w, h => by simp [fine] at h
theorem fines_py : ∀ (n : Nat) (ds : List D), fines n ds = true → ∃ ps, dPys ds = some ps ∧ PyData.canLayAll0 ps = true ∧ PyData.depthAll ps ≤ n
  | n, [], _ => ⟨[], rfl, by simp [PyData.canLayAll0], by simp [PyData.depthAll]⟩
  | n, d :: ds, h => by
    have h' : fine n d = true ∧ fines n ds = true := by simpa [fines] using h
    obtain ⟨p, h1, h2, h3⟩ := fine_py n d h'.1
    obtain ⟨ps, h4, h5, h6⟩ := fines_py n ds h'.2
    exact ⟨p :: ps, by simp [dPys, h1, h4], by simp [PyData.canLayAll0, h2, h5], by simp [PyData.depthAll]; omega⟩
end
mutual
theorem eqv_self : ∀ p : PyData, p.canLay0 = true → PyData.eqv p p = true
  | .none, _ => by simp [PyData.eqv]
  | .bool b, _ => by simp [PyData.eqv]
  | .int b, _ => by simp [PyData.eqv]
  | .str b, _ => by simp [PyData.eqv]
  | .list ps, h => by simp only [PyData.eqv]; exact eqvAll_self ps (by simpa [PyData.canLay0] using h)
  | .tuple ps, h => by simp only [PyData.eqv]; exact eqvAll_self ps (by simpa [PyData.canLay0] using h)
  | .dict _, h => by simp [PyData.canLay0] at h
theorem eqvAll_self : ∀ ps : List PyData, PyData.canLayAll0 ps = true → PyData.eqvAll ps ps = true
  | [], _ => by simp [PyData.eqvAll]
  | p :: ps, h => by
    have h' : p.canLay0 = true ∧ PyData.canLayAll0 ps = true := by simpa [PyData.canLayAll0] using h
    simp [PyData.eqvAll, eqv_self p h'.1, eqvAll_self ps h'.2]
end
theorem dEqD_self {d : D} (h : fine 64 d = true) (neg : Bool) : dEqD neg d d = some (.bl (!neg), .fz) := by
  obtain ⟨p, h1, h2, h3⟩ := fine_py 64 d h
  unfold dEqD
  have hs : SeqAt.shaped p = true := by unfold SeqAt.shaped; simp [h2, h3]
  rw [h1]
  simp [hs, eqv_self p h2]
theorem dNe_self {d : D} (h : fine 64 d = true) : dNe d d = some (.bl false, .fz) := by
  cases d with
  | tup ds => exact dEqD_self h true
  | lst ds => exact dEqD_self h true
  | non => rfl
  | bl b => cases b <;> rfl
  | int i => show some (D.bl (!(i == i)), O3.fz) = _; simp
  | str i => show some (D.bl (!(i == i)), O3.fz) = _; simp
  | _ => simp [fine] at h
theorem dEq_self {d : D} (h : fine 64 d = true) : dEq d d = some (.bl true, .fz) := by
  cases d with
  | tup ds => exact dEqD_self h false
  | lst ds => exact dEqD_self h false
  | non => rfl
  | bl b => cases b <;> rfl
  | int i => show some (D.bl (i == i), O3.fz) = _; simp
  | str i => show some (D.bl (i == i), O3.fz) = _; simp
  | _ => simp [fine] at h
end Dl

set_option Elab.async false
set_option linter.all false
set_option maxRecDepth 100000
set_option maxHeartbeats 1000000
namespace Dl
open PySem PySem.Spec PyProof.Rows L2
@[simp] theorem startE_q {n : Nat} {ds : List D} : startE n ds = ds.map (fun d => some (d, false)) ++ List.replicate (n - ds.length) none := rfl
/-- a for that ends by itself, with what holds at each turn -/
theorem forL_inv {set : ESet} {sa : SB} (P : Nat → En → Option Wd → Prop) : ∀ (ds : List D) (i : Nat) (env : En) (w : Option Wd), P i env w →
    (∀ j d env w, ds[j]? = some d → P (i + j) env w → ∃ e1 o e w', set d env = some e1 ∧ sa e1 w = some o ∧ (o = .nx e w' ∨ o = .ct e w') ∧ P (i + j + 1) e w') → ∃ e w', forL set sa ds env w = some (.nx e w') ∧ P (i + ds.length) e w'
  | [], i, env, w, h, _ => ⟨env, w, rfl, h⟩
  | d :: ds, i, env, w, h, hs => by
    obtain ⟨e1, o, e, w', h1, h2, h3, h4⟩ := hs 0 d env w rfl h
    obtain ⟨e2, w2, h5, h6⟩ := forL_inv P ds (i + 1) e w' h4 fun j d' env w hd hp => by
      have e : i + 1 + j = i + (j + 1) := by omega
      rw [e] at hp ⊢
      exact hs (j + 1) d' env w hd hp
    refine ⟨e2, w2, ?_, by rw [List.length_cons]; have e : i + (ds.length + 1) = i + 1 + ds.length := by omega
                           rw [e]; exact h6⟩
    rw [forL_cons, h1, bnd_some, forK2_q, h2, bnd_some]
    rcases h3 with h3 | h3 <;> (subst h3; exact h5)
theorem range_at {lo hi : Int} {j : Nat} {d : D} (h : (rangeD lo hi)[j]? = some d) : d = .int (lo + j) ∧ (j : Int) < hi - lo := by
  unfold rangeD at h
  rw [List.getElem?_map] at h
  cases hr : (List.range (hi - lo).toNat)[j]? with
  | none => rw [hr] at h; cases h
  | some k =>
    obtain ⟨h1, h2⟩ := List.getElem?_eq_some_iff.mp hr
    rw [List.length_range] at h1
    rw [List.getElem_range] at h2
    subst h2
    rw [hr] at h
    cases h
    exact ⟨rfl, by omega⟩
theorem range_len {lo hi : Int} : (rangeD lo hi).length = (hi - lo).toNat := by unfold rangeD; simp
def bDraws : SB := (sSeq (sSet 2 (eLst aNil)) (sSeq (sSet 3 (eC (.int 7))) (sSeq (sFor (setN 4) (iRange (aCons (eA dLen (aCons (eVar 0) aNil)) aNil)) (sSeq (sSet 5 (eA dAbs (aCons (eA dInt (aCons (eOp dIx (eVar 0) (eVar 4)) aNil)) aNil))) (sSeq (sSet 3 (eOp dMod (eA dInt (aCons (eOp dAdd (eOp dAdd (eOp dMul (eVar 3) (eC (.int 48271))) (eOp dMod (eVar 5) (eC (.int 1000003)))) (eVar 4)) aNil)) (eC (.int 65537)))) (sSeq (sSet 6 (eC (.int 0))) (sSeq (sIf (tVal (eOp dGe (eVar 5) (eOp dPow (eC (.int 10)) (eC (.int 18))))) (sSet 6 (eVar 5)) (sSeq (sApp 2 (eOp dMod (eA dInt (aCons (eVar 5) aNil)) (eC (.int 997)))) (sApp 2 (eOp dMod (eOp dMod (eA dInt (aCons (eOp dAdd (eOp dMul (eVar 3) (eC (.int 69621))) (eC (.int 5))) aNil)) (eC (.int 65521))) (eC (.int 997)))))) (sFor (setN 7) (iRange (aCons (eC (.int 60)) aNil)) (sIf (tVal (eOp dGt (eVar 6) (eC (.int 0)))) (sSeq (sApp 2 (eOp dMod (eA dInt (aCons (eVar 6) aNil)) (eC (.int 997)))) (sSet 6 (eOp dFdiv (eVar 6) (eC (.int 997))))) (sNil)))))))) (sSeq (sFor (setN 4) (iRange (aCons (eVar 1) aNil)) (sSeq (sSet 3 (eOp dMod (eA dInt (aCons (eOp dAdd (eOp dAdd (eOp dMul (eVar 3) (eC (.int 16807))) (eVar 4)) (eC (.int 1))) aNil)) (eC (.int 65537)))) (sApp 2 (eOp dMod (eA dInt (aCons (eVar 3) aNil)) (eC (.int 997)))))) (sRet (eSl dSl (eVar 2) oNone (oSome (eVar 1))))))))
def fDraws : Fn := runFn 8 2 bDraws
/-- the slots of the draws' def -/
def DrE (ns : List Int) (m : Int) (xs : List Int) (mx : Int) (s4 s5 s6 s7 : Option (D × Bool)) : En := [some (.scr ns, false), some (.int m, false), some (.lst (xs.map D.int), true), some (.int mx, false), s4, s5, s6, s7]
theorem map_int_app (xs : List Int) (y : Int) : xs.map D.int ++ [D.int y] = (xs ++ [y]).map D.int := by simp
theorem drw_inner (ns : List Int) (m : Int) (w : Option Wd) (xs : List Int) (mx r : Int) (s4 s5 s7 : Option (D × Bool)) (hl : xs.length ≤ 10000) :
    ∃ xs' r' s7', forL (setN 7) (sIf (tVal (eOp dGt (eVar 6) (eC (.int 0)))) (sSeq (sApp 2 (eOp dMod (eA dInt (aCons (eVar 6) aNil)) (eC (.int 997)))) (sSet 6 (eOp dFdiv (eVar 6) (eC (.int 997))))) (sNil)) (rangeD 0 60) (DrE ns m xs mx s4 s5 (some (.int r, false)) s7) w
      = some (.nx (DrE ns m xs' mx s4 s5 (some (.int r', false)) s7') w) ∧ xs'.length ≤ xs.length + 60 := by
  obtain ⟨e, w', h1, xs', r', s7', h2, h3, h4⟩ := forL_inv (set := setN 7) (sa := sIf (tVal (eOp dGt (eVar 6) (eC (.int 0)))) (sSeq (sApp 2 (eOp dMod (eA dInt (aCons (eVar 6) aNil)) (eC (.int 997)))) (sSet 6 (eOp dFdiv (eVar 6) (eC (.int 997))))) (sNil))
    (fun i e w1 => ∃ xs' r' s7', e = DrE ns m xs' mx s4 s5 (some (.int r', false)) s7' ∧ w1 = w ∧ xs'.length ≤ xs.length + i) (rangeD 0 60) 0 _ w ⟨xs, r, s7, rfl, rfl, by omega⟩ fun j d env w1 hd hp => by
      obtain ⟨xs', r', s7', he, hw, hx⟩ := hp
      subst he hw
      obtain ⟨hd1, hd2⟩ := range_at hd
      subst hd1
      by_cases hr : 0 < r'
      · refine ⟨_, .nx (DrE ns m (xs' ++ [r' % 997]) mx s4 s5 (some (.int (r' / 997), false)) (some (.int (0 + (j : Int)), false))) w1, _, _, rfl, ?_, .inl rfl, _, _, _, rfl, rfl, by rw [List.length_append]; show xs'.length + 1 ≤ _; omega⟩
        have hlen : xs'.length < lim := lt_lim (by omega)
        simp -implicitDefEqProofs [DrE, hr, hlen]
      · refine ⟨_, .nx (DrE ns m xs' mx s4 s5 (some (.int r', false)) (some (.int (0 + (j : Int)), false))) w1, _, _, rfl, ?_, .inl rfl, _, _, _, rfl, rfl, by omega⟩
        simp -implicitDefEqProofs [DrE, hr]
  rw [range_len] at h4
  subst h2 h3
  exact ⟨xs', r', s7', h1, by simpa using h4⟩
abbrev bDrIn : SB := (sIf (tVal (eOp dGt (eVar 6) (eC (.int 0)))) (sSeq (sApp 2 (eOp dMod (eA dInt (aCons (eVar 6) aNil)) (eC (.int 997)))) (sSet 6 (eOp dFdiv (eVar 6) (eC (.int 997))))) (sNil))
abbrev bDr1 : SB := (sSeq (sSet 5 (eA dAbs (aCons (eA dInt (aCons (eOp dIx (eVar 0) (eVar 4)) aNil)) aNil))) (sSeq (sSet 3 (eOp dMod (eA dInt (aCons (eOp dAdd (eOp dAdd (eOp dMul (eVar 3) (eC (.int 48271))) (eOp dMod (eVar 5) (eC (.int 1000003)))) (eVar 4)) aNil)) (eC (.int 65537)))) (sSeq (sSet 6 (eC (.int 0))) (sSeq (sIf (tVal (eOp dGe (eVar 5) (eOp dPow (eC (.int 10)) (eC (.int 18))))) (sSet 6 (eVar 5)) (sSeq (sApp 2 (eOp dMod (eA dInt (aCons (eVar 5) aNil)) (eC (.int 997)))) (sApp 2 (eOp dMod (eOp dMod (eA dInt (aCons (eOp dAdd (eOp dMul (eVar 3) (eC (.int 69621))) (eC (.int 5))) aNil)) (eC (.int 65521))) (eC (.int 997)))))) (sFor (setN 7) (iRange (aCons (eC (.int 60)) aNil)) bDrIn)))))
abbrev bDr2 : SB := (sSeq (sSet 3 (eOp dMod (eA dInt (aCons (eOp dAdd (eOp dAdd (eOp dMul (eVar 3) (eC (.int 16807))) (eVar 4)) (eC (.int 1))) aNil)) (eC (.int 65537)))) (sApp 2 (eOp dMod (eA dInt (aCons (eVar 3) aNil)) (eC (.int 997)))))
theorem drw_turn (ns : List Int) (m : Int) (w : Option Wd) (xs : List Int) (mx : Int) (s5 s6 s7 : Option (D × Bool)) (j : Nat) (hj : j < ns.length) (hl : xs.length ≤ 9000) :
    ∃ xs' mx' s5' s6' s7', bDr1 (DrE ns m xs mx (some (.int (j : Int), false)) s5 s6 s7) w = some (.nx (DrE ns m xs' mx' (some (.int (j : Int), false)) s5' s6' s7') w) ∧ xs'.length ≤ xs.length + 62 := by
  have hix : atI ns (j : Int) = some ns[j] := by rw [atI_n]; simp [hj]
  have hp : ((10 : Int) ^ (18 : Int).toNat) = 1000000000000000000 := by decide
  generalize hc : (if ns[j] < 0 then -ns[j] else ns[j]) = cell
  have hl1 : xs.length < lim := lt_lim (by omega)
  have hl2 : xs.length + 1 < lim := lt_lim (by omega)
  by_cases hg : (1000000000000000000 : Int) ≤ cell
  · obtain ⟨xs', r', s7', h1, h2⟩ := drw_inner ns m w xs ((mx * 48271 + cell % 1000003 + j) % 65537) cell (some (.int (j : Int), false)) (some (.int cell, false)) s7 (by omega)
    refine ⟨xs', (mx * 48271 + cell % 1000003 + j) % 65537, some (.int cell, false), some (.int r', false), s7', ?_, by omega⟩
    simp only [DrE] at h1
    simp -implicitDefEqProofs [DrE, hix, hc, hp, hg, rngK_1, h1]
  · obtain ⟨xs', r', s7', h1, h2⟩ := drw_inner ns m w (xs ++ [cell % 997] ++ [(((mx * 48271 + cell % 1000003 + j) % 65537) * 69621 + 5) % 65521 % 997]) ((mx * 48271 + cell % 1000003 + j) % 65537) 0 (some (.int (j : Int), false)) (some (.int cell, false)) s7 (by simp; omega)
    refine ⟨xs', (mx * 48271 + cell % 1000003 + j) % 65537, some (.int cell, false), some (.int r', false), s7', ?_, by simp at h2; omega⟩
    simp -implicitDefEqProofs [DrE] at h1
    simp -implicitDefEqProofs [DrE, hix, hc, hp, hg, hl1, hl2, rngK_1, h1]
theorem draws_ok (ns : List Int) (hn : ns.length ≤ 63) (m : Int) (hm : 0 ≤ m ∧ m ≤ 100000) (w : Option Wd) : ∃ ds : List Int, fDraws [.scr ns, .int m] w = some ((.lst (ds.map D.int), .ow), w) := by
  obtain ⟨e, w', h1, xs, mx, s4, s5, s6, s7, h2, h3, h4⟩ := forL_inv (set := setN 4) (sa := bDr1)
    (fun i e w1 => ∃ xs mx s4 s5 s6 s7, e = DrE ns m xs mx s4 s5 s6 s7 ∧ w1 = w ∧ xs.length ≤ 62 * i) (rangeD 0 (ns.length : Int)) 0 (DrE ns m [] 7 none none none none) w ⟨[], 7, none, none, none, none, rfl, rfl, by simp⟩ fun j d env w1 hd hp => by
      obtain ⟨xs, mx, s4, s5, s6, s7, he, hw, hx⟩ := hp
      subst he hw
      obtain ⟨hd1, hd2⟩ := range_at hd
      subst hd1
      obtain ⟨xs', mx', s5', s6', s7', h1, h2⟩ := drw_turn ns m w1 xs mx s5 s6 s7 j (by omega) (by omega)
      refine ⟨DrE ns m xs mx (some (.int (j : Int), false)) s5 s6 s7, _, _, _, ?_, h1, .inl rfl, _, _, _, _, _, _, rfl, rfl, by omega⟩
      simp -implicitDefEqProofs [DrE]
  rw [range_len] at h4
  subst h2 h3
  obtain ⟨e2, w2, g1, xs2, mx2, t4, g2, g3, g4⟩ := forL_inv (set := setN 4) (sa := bDr2)
    (fun i e w1 => ∃ xs2 mx2 t4, e = DrE ns m xs2 mx2 t4 s5 s6 s7 ∧ w1 = w' ∧ xs2.length ≤ xs.length + i) (rangeD 0 m) 0 (DrE ns m xs mx s4 s5 s6 s7) w' ⟨xs, mx, s4, rfl, rfl, by simp⟩ fun j d env w1 hd hp => by
      obtain ⟨xs2, mx2, t4, he, hw, hx⟩ := hp
      subst he hw
      obtain ⟨hd1, hd2⟩ := range_at hd
      subst hd1
      have hl : xs2.length < lim := lt_lim (by omega)
      refine ⟨DrE ns m xs2 mx2 (some (.int (0 + (j : Int)), false)) s5 s6 s7, .nx (DrE ns m (xs2 ++ [((mx2 * 16807 + (0 + (j : Int)) + 1) % 65537) % 997]) ((mx2 * 16807 + (0 + (j : Int)) + 1) % 65537) (some (.int (0 + (j : Int)), false)) s5 s6 s7) w1, _, _, by simp -implicitDefEqProofs [DrE], ?_, .inl rfl, _, _, _, rfl, rfl, by rw [List.length_append]; show xs2.length + 1 ≤ _; omega⟩
      simp -implicitDefEqProofs [DrE, hl]
  subst g2 g3
  obtain ⟨mn, hmn⟩ : ∃ mn : Nat, m = mn := ⟨m.toNat, by omega⟩
  refine ⟨xs2.take mn, ?_⟩
  have hr1 : ∀ w, rngK ([(.int (ns.length : Int), .fz)], w) = some (rangeD 0 (ns.length : Int), w) := fun w => rngK_1 (by omega)
  have hr2 : ∀ w, rngK ([(.int m, .fz)], w) = some (rangeD 0 m, w) := fun w => rngK_1 (by omega)
  simp only [DrE, List.map_nil] at h1 g1
  have hc : cutD (xs2.map D.int) none (some m) = (xs2.take mn).map D.int := by rw [hmn, cut_take, List.map_take]
  simp [fDraws, bDraws, hr1, hr2, h1, g1, hc]
end Dl

set_option Elab.async false
set_option linter.all false
set_option maxRecDepth 100000
set_option maxHeartbeats 1000000
namespace Dl
open PySem PySem.Spec PyProof.Rows L2
/-! what the laws share: the next draw, a pick -/
def OkW (W : Wd) : Prop := 0 ≤ W.ix
def bNext : SB := (sSeq (sTick 0) (sSeq (sIf (tVal (eOp dGt (eWget 0 true) (eA dLen (aCons (eWget 0 false) aNil)))) (sRet (eC (.int 0))) (sNil)) (sRet (eOp dMod (eA dInt (aCons (eOp dIx (eWget 0 false) (eOp dSub (eWget 0 true) (eC (.int 1)))) aNil)) (eVar 1)))))
def fNext : Fn := runFn 2 2 bNext
theorem next_ok {W : Wd} (h0 : OkW W) {m : Int} (hm : 0 < m) : ∃ (r : Int) (W' : Wd), fNext [.w, .int m] (some W) = some ((.int r, .fz), some W') ∧ 0 ≤ r ∧ r < m ∧ OkW W' := by
  unfold OkW at h0
  refine (?_ : ∃ r : Int, fNext [.w, .int m] (some W) = some ((.int r, .fz), some ⟨W.draws, W.ix + 1⟩) ∧ 0 ≤ r ∧ r < m).elim fun r h => ⟨r, _, h.1, h.2.1, h.2.2, by unfold OkW; show 0 ≤ W.ix + 1; omega⟩
  by_cases h : (W.draws.length : Int) < W.ix + 1
  · exact ⟨0, by simp -implicitDefEqProofs [fNext, bNext, h], by omega, hm⟩
  · obtain ⟨j, hj⟩ : ∃ j : Nat, W.ix = j := ⟨W.ix.toNat, by omega⟩
    have hjl : j < W.draws.length := by omega
    refine ⟨W.draws[j] % m, ?_, Int.emod_nonneg _ (by omega), Int.emod_lt_of_pos _ hm⟩
    rw [hj] at h ⊢
    have e : (j : Int) + 1 - 1 = j := by omega
    simp -implicitDefEqProofs [fNext, bNext, hj, h, e, atI_n, hjl, hm]
def bPick (f : Fn) : SB := (sRet (eOp dIx (eVar 1) (eCall f (aCons (eFz (eVar 0)) (aCons (eFz (eA dLen (aCons (eVar 1) aNil))) aNil)))))
def fPick : Fn := runFn 2 2 (bPick fNext)
theorem pick_ok {W : Wd} (h0 : OkW W) {ds : List D} (hm : 0 < ds.length) : ∃ (d : D) (W' : Wd), fPick [.w, .lst ds] (some W) = some ((d, .fz), some W') ∧ d ∈ ds ∧ OkW W' := by
  obtain ⟨r, W', h1, h2, h3, h4⟩ := next_ok h0 (m := (ds.length : Int)) (by omega)
  obtain ⟨j, hj⟩ : ∃ j : Nat, r = j := ⟨r.toNat, by omega⟩
  subst hj
  have hjl : j < ds.length := by omega
  refine ⟨ds[j], W', ?_, List.getElem_mem _, h4⟩
  simp -implicitDefEqProofs [fPick, bPick, h1, atI_n, hjl]
/-! zip, more rows -/
def zipK (p : List DS × Option Wd) : Option (List D × Option Wd) := match p.1 with
  | [(.lst xs, _), (.lst ys, _)] => some (List.zipWith (fun a b => .tup [a, b]) xs ys, p.2)
  | _ => none
@[simp] theorem zipK_q {w : Option Wd} {xs ys : List D} {s t : O3} : zipK ([(.lst xs, s), (.lst ys, t)], w) = some (List.zipWith (fun a b => .tup [a, b]) xs ys, w) := rfl
@[simp] theorem iZipD_q {fa : EA} {env : En} {w : Option Wd} : iZipD fa env w = bnd (fa env w) zipK := rfl
theorem atI_m {α : Type} {xs : List α} {j : Int} (h : 0 ≤ j) : atI xs j = xs[j.toNat]? := by
  obtain ⟨n, hn⟩ : ∃ n : Nat, j = n := ⟨j.toNat, by omega⟩
  subst hn
  rw [atI_n]; simp
def dicK (r : List Key × List D) : Option DS := some (.dk r.1 r.2, .ow)
@[simp] theorem dicK_q {ks : List Key} {ds : List D} : dicK (ks, ds) = some (.dk ks ds, .ow) := rfl
theorem dDict_t {ps : List D} (h : ps.length ≤ lim) : dDict [.tup ps] = bnd (dMerge [] [] ps) dicK := by
  show (if ps.length ≤ lim then (dMerge [] [] ps).map _ else none) = _
  rw [if_pos h]
  cases dMerge [] [] ps <;> rfl
def findI : List Key → List Int → Key → Option Int
  | k :: ks, d :: ds, j => if k = j then some d else findI ks ds j
  | _, _, _ => none
theorem dFind_int : ∀ (ks : List Key) (ds : List Int) (k : Key), dFind ks (ds.map D.int) k = (findI ks ds k).map D.int
  | [], _, _ => by cases ‹List Int› <;> rfl
  | _ :: _, [], _ => rfl
  | k :: ks, d :: ds, j => by
    show (if k = j then some (D.int d) else dFind ks (ds.map D.int) j) = Option.map D.int (if k = j then some d else findI ks ds j)
    rw [dFind_int ks ds j]
    split <;> rfl
def updI : List Key → List Int → Key → Int → List Int
  | k :: ks, d :: ds, j, x => (if k = j then x else d) :: updI ks ds j x
  | _, ds, _, _ => ds
theorem dUpd_int : ∀ (ks : List Key) (ds : List Int) (k : Key) (x : Int), dUpd ks (ds.map D.int) k (.int x) = (updI ks ds k x).map D.int
  | [], [], _, _ => rfl
  | [], _ :: _, _, _ => rfl
  | _ :: _, [], _, _ => rfl
  | k :: ks, d :: ds, j, x => by
    show (if k = j then D.int x else D.int d) :: dUpd ks (ds.map D.int) j (.int x) = ((if k = j then x else d) :: updI ks ds j x).map D.int
    rw [dUpd_int ks ds j x]
    split <;> rfl
theorem dPut_int (ks : List Key) (ds : List Int) (k : Key) (x : Int) : ∃ ks' ds', dPut ks (ds.map D.int) k (.int x) = (ks', List.map D.int ds') := by
  unfold dPut
  split
  · exact ⟨ks, updI ks ds k x, by rw [dUpd_int]⟩
  · exact ⟨ks ++ [k], ds ++ [x], by simp⟩
theorem dMerge_int : ∀ (ps : List (D × Int)) (ks : List Key) (ds : List Int), (∀ p ∈ ps, ∃ k, keyD p.1 = some k) → ∃ ks' ds', dMerge ks (ds.map D.int) (ps.map fun p => .tup [p.1, .int p.2]) = some (ks', List.map D.int ds')
  | [], ks, ds, _ => ⟨ks, ds, rfl⟩
  | p :: ps, ks, ds, h => by
    obtain ⟨k, hk⟩ := h p List.mem_cons_self
    obtain ⟨ks1, ds1, e1⟩ := dPut_int ks ds k p.2
    obtain ⟨ks2, ds2, e2⟩ := dMerge_int ps ks1 ds1 fun q hq => h q (List.mem_cons_of_mem _ hq)
    refine ⟨ks2, ds2, ?_⟩
    show (keyD p.1).bind _ = _
    rw [hk]
    show dMerge (dPut ks (ds.map D.int) k (.int p.2)).1 (dPut ks (ds.map D.int) k (.int p.2)).2 _ = _
    rw [e1]; exact e2
theorem dEqD_nil {ds : List D} (h : fine 64 (.tup ds) = true) (neg : Bool) : dEqD neg (.tup ds) (.tup []) = some (.bl (if neg then !ds.isEmpty else ds.isEmpty), .fz) := by
  obtain ⟨p, h1, h2, h3⟩ := fine_py 64 _ h
  obtain ⟨q, g1, g2, g3⟩ := fine_py 64 (.tup []) rfl
  unfold dEqD
  have hs : SeqAt.shaped p = true := by unfold SeqAt.shaped; simp [h2, h3]
  have gs : SeqAt.shaped q = true := by unfold SeqAt.shaped; simp [g2, g3]
  rw [h1, g1]
  cases g1
  have : ∃ ps, p = .tuple ps ∧ PyData.eqvAll ps [] = ds.isEmpty := by
    cases ds with
    | nil => cases h1; exact ⟨_, rfl, by simp [PyData.eqvAll]⟩
    | cons d ds =>
      simp only [dPy, dPys] at h1
      cases e : dPy d with
      | none => simp [e] at h1
      | some a =>
        cases e2 : dPys ds with
        | none => simp [e, e2] at h1
        | some b => simp [e, e2] at h1; subst h1; exact ⟨_, rfl, by simp [PyData.eqvAll]⟩
  obtain ⟨ps, e, e2⟩ := this
  subst e
  simp [hs, gs, PyData.eqv, e2]
theorem dEq_tnil {ds : List D} (h : fine 64 (.tup ds) = true) : els2 (dEqF false) (dEqD false) (.tup ds) (.tup []) = some (.bl ds.isEmpty, .fz) := dEqD_nil h false
theorem dNe_tnil {ds : List D} (h : fine 64 (.tup ds) = true) : els2 (dEqF true) (dEqD true) (.tup ds) (.tup []) = some (.bl (!ds.isEmpty), .fz) := dEqD_nil h true
@[simp] theorem dIsi_ii {i : Int} : dIsi [.int i, .ty "int"] = some (.bl true, .fz) := rfl
@[simp] theorem dIsi_ib {i : Int} : dIsi [.int i, .ty "bool"] = some (.bl false, .fz) := rfl
@[simp] theorem dIsi_ti {ds : List D} : dIsi [.tup ds, .ty "int"] = some (.bl false, .fz) := rfl
@[simp] theorem dIsi_bb {b : Bool} : dIsi [.bl b, .ty "bool"] = some (.bl true, .fz) := rfl
@[simp] theorem dIsi_nb : dIsi [.non, .ty "bool"] = some (.bl false, .fz) := rfl
mutual
theorem fine_mono : ∀ (n m : Nat) (d : D), n ≤ m → fine n d = true → fine m d = true
  | _, _, .non, _, _ => by simp [fine]
  | _, _, .bl _, _, _ => by simp [fine]
  | _, _, .int _, _, _ => by simp [fine]
  | _, _, .str _, _, h => by simp [fine] at h ⊢; exact h
  | n + 1, m + 1, .tup ds, hl, h => by
    have h' : fines n ds = true := by simpa [fine] using h
    have := fines_mono n m ds (by omega) h'
    simpa [fine] using this
  | n + 1, m + 1, .lst ds, hl, h => by
    have h' : fines n ds = true := by simpa [fine] using h
    have := fines_mono n m ds (by omega) h'
    simpa [fine] using this
  | n + 1, 0, .tup ds, hl, h => by omega
  | n + 1, 0, .lst ds, hl, h => by omega
  | 0, _, .tup ds, _, h => by simp [fine] at h
  | 0, _, .lst ds, _, h => by simp [fine] at h
  | n, _, .dk _ _, _, h => by simp [fine] at h
  | n, _, .scr _, _, h => by simp [fine] at h
  | n, _, .ty _, _, h => by simp [fine] at h
  | n, _, .w, _, h => by simp [fine] at h
theorem fines_mono : ∀ (n m : Nat) (ds : List D), n ≤ m → fines n ds = true → fines m ds = true
  | _, _, [], _, _ => by simp [fines]
  | n, m, d :: ds, hl, h => by
    have h' : fine n d = true ∧ fines n ds = true := by simpa [fines] using h
    simp [fines, fine_mono n m d hl h'.1, fines_mono n m ds hl h'.2]
end
theorem fines_all (n : Nat) : ∀ ds : List D, fines n ds = true ↔ ∀ d ∈ ds, fine n d = true
  | [] => by simp [fines]
  | d :: ds => by simp [fines, fines_all n ds]
@[simp] theorem fine_tup {n : Nat} {ds : List D} : fine (n + 1) (.tup ds) = true ↔ ∀ d ∈ ds, fine n d = true := by
  simp only [fine]; exact fines_all n ds
@[simp] theorem fine_lst {n : Nat} {ds : List D} : fine (n + 1) (.lst ds) = true ↔ ∀ d ∈ ds, fine n d = true := by
  simp only [fine]; exact fines_all n ds
/-! texts of the program -/
theorem map_toNat_inj : ∀ (a b : List Char), a.map Char.toNat = b.map Char.toNat → a = b
  | [], [], _ => rfl
  | [], _ :: _, h => by cases h
  | _ :: _, [], h => by cases h
  | x :: a, y :: b, h => by
    have h1 : x.toNat = y.toNat := (List.cons.inj h).1
    have h2 := map_toNat_inj a b (List.cons.inj h).2
    have h3 : x = y := Char.ext (UInt32.toNat_inj.mp h1)
    rw [h2, h3]
theorem ofS_inj {a b : String} (h : Str.ofString a = Str.ofString b) : a = b := by
  rw [Str.ofString_eq_toList, Str.ofString_eq_toList] at h
  have h1 : (a.toList.map Char.toNat) = b.toList.map Char.toNat := by injection h with h; exact (Array.mk.inj h)
  exact String.toList_inj.mp (map_toNat_inj _ _ h1)
@[simp] theorem ofS_eq {a b : String} : (Str.ofString a = Str.ofString b) ↔ a = b := ⟨ofS_inj, fun h => by rw [h]⟩
@[simp] theorem ofS_beq {a b : String} : (Str.ofString a == Str.ofString b) = (a == b) := by
  by_cases h : a = b
  · subst h; simp
  · have h' : Str.ofString a ≠ Str.ofString b := fun e => h (ofS_inj e)
    rw [beq_eq_false_iff_ne.mpr h, beq_eq_false_iff_ne.mpr h']
/-! in -/
@[simp] theorem flatD_non : flatD .non = true := rfl
@[simp] theorem flatD_bl {b : Bool} : flatD (.bl b) = true := rfl
@[simp] theorem flatD_int {b : Int} : flatD (.int b) = true := rfl
@[simp] theorem flatD_str {b : Str} : flatD (.str b) = true := rfl
@[simp] theorem eqF_nn : eqF .non .non = true := rfl
@[simp] theorem eqF_ii {a b : Int} : eqF (.int a) (.int b) = decide (a = b) := rfl
@[simp] theorem eqF_ss {a b : Str} : eqF (.str a) (.str b) = decide (a = b) := rfl
@[simp] theorem eqF_ni {b : Int} : eqF .non (.int b) = false := rfl
@[simp] theorem eqF_in {b : Int} : eqF (.int b) .non = false := rfl
@[simp] theorem eqF_ns {b : Str} : eqF .non (.str b) = false := rfl
@[simp] theorem eqF_sn {b : Str} : eqF (.str b) .non = false := rfl
theorem dIn_tup {neg : Bool} {x : D} {ys : List D} (h : flatD x = true) (h2 : ys.all flatD = true) : dIn neg x (.tup ys) = some (.bl (if neg then !ys.any (fun z => eqF z x) else ys.any fun z => eqF z x), .fz) := by
  show (some ys).bind _ = _
  show (if flatD x = true ∧ ys.all flatD = true then fzO _ else none) = _
  rw [if_pos ⟨h, h2⟩]
theorem dIn_lst {neg : Bool} {x : D} {ys : List D} (h : flatD x = true) (h2 : ys.all flatD = true) : dIn neg x (.lst ys) = some (.bl (if neg then !ys.any (fun z => eqF z x) else ys.any fun z => eqF z x), .fz) := by
  show (some ys).bind _ = _
  show (if flatD x = true ∧ ys.all flatD = true then fzO _ else none) = _
  rw [if_pos ⟨h, h2⟩]
@[simp] theorem dIn_t2 {x b c : D} (h : flatD x = true) (hb : flatD b = true) (hc : flatD c = true) : dIn false x (.tup [b, c]) = some (.bl (eqF b x || eqF c x), .fz) := by
  rw [dIn_tup h (by simp [hb, hc])]; simp
/-! a value at each suffix -/
def tm {α β : Type} (f : List α → β) : List α → List β
  | [] => []
  | a :: r => f (a :: r) :: tm f r
@[simp] theorem tm_nil {α β : Type} (f : List α → β) : tm f [] = [] := rfl
@[simp] theorem tm_cons {α β : Type} (f : List α → β) (a : α) (r : List α) : tm f (a :: r) = f (a :: r) :: tm f r := rfl
@[simp] theorem tm_length {α β : Type} (f : List α → β) : ∀ l : List α, (tm f l).length = l.length
  | [] => rfl
  | a :: r => by simp [tm_length f r]
theorem tm_map {α β γ : Type} (f : List α → β) (g : β → γ) : ∀ l : List α, (tm f l).map g = tm (fun x => g (f x)) l
  | [] => rfl
  | a :: r => by simp [tm_map f g r]
theorem tm_zip {α β γ δ : Type} (f : List α → β) (g : List α → γ) (h : β → γ → δ) : ∀ l : List α, List.zipWith h (tm f l) (tm g l) = tm (fun x => h (f x) (g x)) l
  | [] => rfl
  | a :: r => by simp [tm_zip f g h r]
theorem tm_congr {α β : Type} (f g : List α → β) : ∀ l : List α, (∀ a r, f (a :: r) = g (a :: r)) → tm f l = tm g l
  | [], _ => rfl
  | a :: r, h => by simp [h, tm_congr f g r h]
theorem tm_tail {α β : Type} (f : List α → β) (b : β) : ∀ (a : α) (r : List α), tm f r ++ [b] = tm (fun x => if x.tail.isEmpty then b else f x.tail) (a :: r)
  | a, [] => by simp
  | a, c :: r => by
    have := tm_tail f b c r
    simp at this ⊢
    exact this
theorem tm_get {α β : Type} (f : List α → β) : ∀ (l : List α) (k : Nat), k < l.length → (tm f l)[k]? = some (f (l.drop k))
  | a :: r, 0, _ => rfl
  | a :: r, k + 1, h => by simp; exact tm_get f r k (by simpa using h)
theorem tm_at {α β : Type} (f : α → β) : ∀ l : List α, (∀ g : List α → β, (∀ a r, g (a :: r) = f a) → tm g l = l.map f)
  | [], g, h => rfl
  | a :: r, g, h => by simp [h, tm_at f r g h]
end Dl

set_option Elab.async false
set_option linter.all false
set_option maxRecDepth 100000
set_option maxHeartbeats 1000000
namespace Dl
open PySem PySem.Spec PyProof.Rows L2
/-! rows for the further operations -/
theorem els2_some {g h : D → D → Option DS} {x y : D} {r : DS} (e : g x y = some r) : els2 g h x y = some r := by
  unfold els2; rw [e]
theorem dInG_tup {neg : Bool} {x : D} {ys : List D} (h : flatD x = true) (h2 : ys.all flatD = true) : els2 (dIn neg) (dInS neg) x (.tup ys) = some (.bl (if neg then !ys.any (fun z => eqF z x) else ys.any fun z => eqF z x), .fz) := els2_some (dIn_tup h h2)
theorem dInG_lst {neg : Bool} {x : D} {ys : List D} (h : flatD x = true) (h2 : ys.all flatD = true) : els2 (dIn neg) (dInS neg) x (.lst ys) = some (.bl (if neg then !ys.any (fun z => eqF z x) else ys.any fun z => eqF z x), .fz) := els2_some (dIn_lst h h2)
@[simp] theorem dInG_t2 {neg : Bool} {x b c : D} (h : flatD x = true) (hb : flatD b = true) (hc : flatD c = true) : els2 (dIn neg) (dInS neg) x (.tup [b, c]) = some (.bl (if neg then !(eqF b x || eqF c x) else (eqF b x || eqF c x)), .fz) := by
  rw [dInG_tup h (by simp [hb, hc])]; simp
@[simp] theorem dInK_q {neg : Bool} {C : List D} {x : D} (h : flatD x = true) (h2 : C.all flatD = true) : dInK neg C x = some (.bl (if neg then !C.any (fun z => eqF z x) else C.any fun z => eqF z x), .fz) := dIn_tup h h2
@[simp] theorem intsD_nil : intsD [] = some [] := rfl
theorem intsD_map : ∀ ns : List Int, intsD (ns.map D.int) = some ns
  | [] => rfl
  | n :: ns => by show (intsD (ns.map D.int)).map _ = _; rw [intsD_map ns]; rfl
theorem bolsD_map : ∀ ns : List Bool, bolsD (ns.map D.bl) = some ns
  | [] => rfl
  | n :: ns => by show (bolsD (ns.map D.bl)).map _ = _; rw [bolsD_map ns]; rfl
theorem dSum_q {ns : List Int} : dSum [.lst (ns.map D.int)] = some (.int ns.sum, .fz) := by
  show (intsD (ns.map D.int)).map _ = _; rw [intsD_map]; rfl
theorem dAll_q {ns : List Bool} : dAll [.lst (ns.map D.bl)] = some (.bl (ns.all id), .fz) := by
  show (bolsD (ns.map D.bl)).map _ = _; rw [bolsD_map]; rfl
def strK (p : DS × Option Wd) : Option (List D × Option Wd) := match p.1.1 with
  | .str z => some (signs z, p.2)
  | _ => none
@[simp] theorem strK_q {z : Str} {s : O3} {w : Option Wd} : strK ((.str z, s), w) = some (signs z, w) := rfl
@[simp] theorem iStrD_q {f : EF} {env : En} {w : Option Wd} : iStrD f env w = bnd (f env w) strK := rfl
def enumK (p : List DS × Option Wd) : Option (List D × Option Wd) := match p.1 with
  | [(.lst xs, _)] => some (enumD 0 xs, p.2)
  | _ => none
@[simp] theorem enumK_q {xs : List D} {s : O3} {w : Option Wd} : enumK ([(.lst xs, s)], w) = some (enumD 0 xs, w) := rfl
@[simp] theorem iEnumD_q {fa : EA} {env : En} {w : Option Wd} : iEnumD fa env w = bnd (fa env w) enumK := rfl
@[simp] theorem enumD_nil {k : Int} : enumD k [] = [] := rfl
@[simp] theorem enumD_cons {k : Int} {x : D} {xs : List D} : enumD k (x :: xs) = .tup [.int k, x] :: enumD (k + 1) xs := rfl
@[simp] theorem dIsi_st {z : Str} : dIsi [.str z, .ty "str"] = some (.bl true, .fz) := rfl
@[simp] theorem dIsi_si {z : Str} : dIsi [.str z, .ty "int"] = some (.bl false, .fz) := rfl
@[simp] theorem dIsi_sb {z : Str} : dIsi [.str z, .ty "bool"] = some (.bl false, .fz) := rfl
@[simp] theorem dIsi_stu {z : Str} : dIsi [.str z, .ty "tuple"] = some (.bl false, .fz) := rfl
@[simp] theorem dIsi_is {i : Int} : dIsi [.int i, .ty "str"] = some (.bl false, .fz) := rfl
@[simp] theorem dIsi_it {i : Int} : dIsi [.int i, .ty "tuple"] = some (.bl false, .fz) := rfl
@[simp] theorem dIsi_tt {ds : List D} : dIsi [.tup ds, .ty "tuple"] = some (.bl true, .fz) := rfl
@[simp] theorem dIsi_ts {ds : List D} : dIsi [.tup ds, .ty "str"] = some (.bl false, .fz) := rfl
@[simp] theorem dIsi_tb {ds : List D} : dIsi [.tup ds, .ty "bool"] = some (.bl false, .fz) := rfl
@[simp] theorem dIsi_lt {ds : List D} : dIsi [.lst ds, .ty "tuple"] = some (.bl false, .fz) := rfl
@[simp] theorem dIsi_ll {ds : List D} : dIsi [.lst ds, .ty "list"] = some (.bl true, .fz) := rfl
@[simp] theorem dIsi_li {ds : List D} : dIsi [.lst ds, .ty "int"] = some (.bl false, .fz) := rfl
@[simp] theorem dIsi_ls {ds : List D} : dIsi [.lst ds, .ty "str"] = some (.bl false, .fz) := rfl
@[simp] theorem dIsi_nt : dIsi [.non, .ty "tuple"] = some (.bl false, .fz) := rfl
@[simp] theorem dIsi_ni : dIsi [.non, .ty "int"] = some (.bl false, .fz) := rfl
@[simp] theorem dIsi_ns : dIsi [.non, .ty "str"] = some (.bl false, .fz) := rfl
@[simp] theorem dIsi_bt {b : Bool} : dIsi [.bl b, .ty "tuple"] = some (.bl false, .fz) := rfl
@[simp] theorem dIsi_bi {b : Bool} : dIsi [.bl b, .ty "int"] = some (.bl true, .fz) := rfl
@[simp] theorem dIsi_bs {b : Bool} : dIsi [.bl b, .ty "str"] = some (.bl false, .fz) := rfl
theorem dSl_str : True := trivial
end Dl

set_option Elab.async false
set_option linter.all false
set_option maxRecDepth 100000
set_option maxHeartbeats 1000000
namespace Dl
open PySem PySem.Spec PyProof.Rows L2
/-! loops and comprehensions at once -/
theorem lcL_gen {α : Type} {set : ESet} {t : ET} {fe : EF} {env : En} {w : Option Wd} (φ : α → D) (p : α → Bool) (g : α → D) : ∀ (xs : List α),
    (∀ x ∈ xs, ∃ e1, set (φ x) env = some e1 ∧ t e1 w = some (p x, w) ∧ (p x = true → eFz fe e1 w = some ((g x, .fz), w))) → lcL set t fe (xs.map φ) env w = some ((xs.filter p).map g, w)
  | [], _ => rfl
  | x :: xs, h => by
    obtain ⟨e1, h1, h2, h3⟩ := h x List.mem_cons_self
    have ih := lcL_gen φ p g xs fun y hy => h y (List.mem_cons_of_mem _ hy)
    rw [List.map_cons, lcL_cons, h1, bnd_some, lcC1_q, h2, bnd_some]
    cases hp : p x with
    | true => rw [lcC2_t, h3 hp, bnd_some, lcC3_q, ih, List.filter_cons_of_pos hp]; rfl
    | false => rw [lcC2_f, ih, List.filter_cons_of_neg (by simp [hp])]
theorem lcL_all {α : Type} {set : ESet} {fe : EF} {env : En} {w : Option Wd} (φ : α → D) (g : α → D) (xs : List α)
    (h : ∀ x ∈ xs, ∃ e1, set (φ x) env = some e1 ∧ eFz fe e1 w = some ((g x, .fz), w)) : lcL set tYesD fe (xs.map φ) env w = some (xs.map g, w) := by
  have := lcL_gen (set := set) (t := tYesD) (fe := fe) (env := env) (w := w) φ (fun _ => true) g xs fun x hx => by
    obtain ⟨e1, h1, h2⟩ := h x hx
    exact ⟨e1, h1, rfl, fun _ => h2⟩
  rw [this, List.filter_eq_self.mpr fun _ _ => rfl]
/-- the same where the list stands as data -/
theorem lcL_genD {set : ESet} {t : ET} {fe : EF} {env : En} {w : Option Wd} (p : D → Bool) (g : D → D) (xs : List D)
    (h : ∀ x ∈ xs, ∃ e1, set x env = some e1 ∧ t e1 w = some (p x, w) ∧ (p x = true → eFz fe e1 w = some ((g x, .fz), w))) : lcL set t fe xs env w = some ((xs.filter p).map g, w) := by
  have := lcL_gen (set := set) (t := t) (fe := fe) (env := env) (w := w) id p g xs h
  rw [List.map_id] at this
  exact this
theorem range_map {n : Nat} : rangeD 0 (n : Int) = (List.range n).map fun k : Nat => .int (k : Int) := by
  unfold rangeD
  simp
theorem range_map2 {lo hi : Nat} : rangeD (lo : Int) (hi : Int) = (List.range' lo (hi - lo)).map fun k : Nat => .int (k : Int) := by
  unfold rangeD
  rw [show ((hi : Int) - (lo : Int)).toNat = hi - lo by omega, List.range'_eq_map_range, List.map_map]
  refine List.map_congr_left fun k _ => ?_
  show D.int _ = D.int _
  congr 1
theorem range_cons {lo hi : Int} (h : lo < hi) : rangeD lo hi = .int lo :: rangeD (lo + 1) hi := by
  unfold rangeD
  have e : (hi - lo).toNat = (hi - (lo + 1)).toNat + 1 := by omega
  rw [e, List.range_succ_eq_map, List.map_cons, List.map_map]
  refine congr (congrArg List.cons (by simp)) (List.map_congr_left fun k _ => ?_)
  show D.int _ = D.int _
  congr 1
  simp; omega
theorem range_none {lo hi : Int} (h : hi ≤ lo) : rangeD lo hi = [] := by
  unfold rangeD
  rw [show (hi - lo).toNat = 0 by omega]; rfl
/-- a for whose turns change the slots as a function of a state -/
theorem forL_fold {α σ : Type} {set : ESet} {sa : SB} {w : Option Wd} (φ : α → D) (E : σ → En) (f : σ → α → σ) (I : σ → Prop) : ∀ (xs : List α) (s : σ), I s →
    (∀ s, I s → ∀ x ∈ xs, I (f s x) ∧ ∃ e1, set (φ x) (E s) = some e1 ∧ sa e1 w = some (.nx (E (f s x)) w)) → forL set sa (xs.map φ) (E s) w = some (.nx (E (xs.foldl f s)) w)
  | [], _, _, _ => rfl
  | x :: xs, s, hi, h => by
    obtain ⟨hi2, e1, h1, h2⟩ := h s hi x List.mem_cons_self
    have ih := forL_fold (set := set) (sa := sa) (w := w) φ E f I xs (f s x) hi2 fun s hs y hy => h s hs y (List.mem_cons_of_mem _ hy)
    rw [List.map_cons, forL_cons, h1, bnd_some, forK2_q, h2, bnd_some, forP_nx, ih]; rfl
/-- a for that only looks, and never leaves -/
theorem forL_look {α : Type} {set : ESet} {sa : SB} {w : Option Wd} (φ : α → D) (P : En → Prop) : ∀ (xs : List α) (env : En), P env →
    (∀ env, P env → ∀ x ∈ xs, ∃ e1 e2, set (φ x) env = some e1 ∧ sa e1 w = some (.nx e2 w) ∧ P e2) → ∃ env', forL set sa (xs.map φ) env w = some (.nx env' w) ∧ P env'
  | [], env, hp, _ => ⟨env, rfl, hp⟩
  | x :: xs, env, hp, h => by
    obtain ⟨e1, e2, h1, h2, h3⟩ := h env hp x List.mem_cons_self
    obtain ⟨e3, h4, h5⟩ := forL_look (set := set) (sa := sa) (w := w) φ P xs e2 h3 fun e he y hy => h e he y (List.mem_cons_of_mem _ hy)
    exact ⟨e3, by rw [List.map_cons, forL_cons, h1, bnd_some, forK2_q, h2, bnd_some, forP_nx, h4], h5⟩
theorem head_tm {β : Type} (f : List D → β) (φ : β → D) {l : List D} (h : 0 < l.length) : atI ((tm f l).map φ) 0 = some (φ (f l)) := by
  match l, h with
  | a :: r, _ => simp
theorem tm_atI {β : Type} (f : List D → β) (φ : β → D) (run : List D) (j : Nat) (h : j < run.length) : atI ((tm f run).map φ) (j : Int) = some (φ (f (run.drop j))) := by
  rw [atI_n, List.getElem?_map, tm_get f run j h]; rfl
theorem tm_drop {α β : Type} (f : List α → β) : ∀ (l : List α) (k : Nat), (tm f l).drop k = tm f (l.drop k)
  | [], k => by simp
  | a :: r, 0 => rfl
  | a :: r, k + 1 => by simp [tm_drop f r k]
theorem tm_range {α β : Type} (g : List α → β) : ∀ (l : List α) (run : List α) (lo : Nat), run.drop lo = l → (List.range' lo l.length).map (fun k => g (run.drop k)) = tm g l
  | [], run, lo, h => rfl
  | a :: r, run, lo, h => by
    have h2 : run.drop (lo + 1) = r := by
      have := congrArg List.tail h
      simpa using this
    have ih := tm_range g r run (lo + 1) h2
    rw [List.length_cons, List.range'_succ, List.map_cons, h, ih]
    rfl
theorem tm_range0 {α β : Type} (g : List α → β) (run : List α) : (List.range run.length).map (fun k => g (run.drop k)) = tm g run := by
  rw [List.range_eq_range']; exact tm_range g run run 0 rfl
theorem any_t (L : List Bool) : (L.map D.bl).any (fun z => eqF z (.bl true)) = L.any id := by
  induction L with
  | nil => rfl
  | cons b L ih => rw [List.map_cons, List.any_cons, List.any_cons, ih]; cases b <;> rfl
theorem any_f (L : List Bool) : (L.map D.bl).any (fun z => eqF z (.bl false)) = !L.all id := by
  induction L with
  | nil => rfl
  | cons b L ih => rw [List.map_cons, List.any_cons, List.all_cons, ih]; cases b <;> simp [eqF]
theorem all_flat (L : List Bool) : (L.map D.bl).all flatD = true := by simp
theorem dEqD_lnil {ds : List D} (h : fine 64 (.lst ds) = true) (neg : Bool) : dEqD neg (.lst ds) (.lst []) = some (.bl (if neg then !ds.isEmpty else ds.isEmpty), .fz) := by
  obtain ⟨p, h1, h2, h3⟩ := fine_py 64 _ h
  obtain ⟨q, g1, g2, g3⟩ := fine_py 64 (.lst []) rfl
  unfold dEqD
  have hs : SeqAt.shaped p = true := by unfold SeqAt.shaped; simp [h2, h3]
  have gs : SeqAt.shaped q = true := by unfold SeqAt.shaped; simp [g2, g3]
  rw [h1, g1]
  cases g1
  have : ∃ ps, p = .list ps ∧ PyData.eqvAll ps [] = ds.isEmpty := by
    cases ds with
    | nil => cases h1; exact ⟨_, rfl, by simp [PyData.eqvAll]⟩
    | cons d ds =>
      simp only [dPy, dPys] at h1
      cases e : dPy d with
      | none => simp [e] at h1
      | some a =>
        cases e2 : dPys ds with
        | none => simp [e, e2] at h1
        | some b => simp [e, e2] at h1; subst h1; exact ⟨_, rfl, by simp [PyData.eqvAll]⟩
  obtain ⟨ps, e, e2⟩ := this
  subst e
  simp [hs, gs, PyData.eqv, e2]
theorem dNe_lnil {ds : List D} (h : fine 64 (.lst ds) = true) : els2 (dEqF true) (dEqD true) (.lst ds) (.lst []) = some (.bl (!ds.isEmpty), .fz) := dEqD_lnil h true
theorem dEq_lnil {ds : List D} (h : fine 64 (.lst ds) = true) : els2 (dEqF false) (dEqD false) (.lst ds) (.lst []) = some (.bl ds.isEmpty, .fz) := dEqD_lnil h false
theorem fine_str {n : Nat} {x : Str} : fine n (.str x) = PyData.strOk x := by cases n <;> simp [fine]
theorem fine_int {n : Nat} {x : Int} : fine n (.int x) = true := by cases n <;> simp [fine]
theorem fine_non {n : Nat} : fine n .non = true := by cases n <;> simp [fine]
theorem fine_bl {n : Nat} {b : Bool} : fine n (.bl b) = true := by cases n <;> simp [fine]
theorem len1_lim {a : D} : [a].length ≤ lim := le_lim (by simp)
theorem len2_lim {a b : D} : [a, b].length ≤ lim := le_lim (by simp)
end Dl

set_option Elab.async false
set_option linter.all false
set_option maxRecDepth 100000
set_option maxHeartbeats 1000000
namespace Dl
open PySem PySem.Spec PyProof.Rows L2
@[simp] theorem dLtG_q {i j : Int} : dLtG (.int i) (.int j) = some (.bl (decide (i < j)), .fz) := dLtG_ii
@[simp] theorem dLeG_q {i j : Int} : dLeG (.int i) (.int j) = some (.bl (decide (i ≤ j)), .fz) := dLeG_ii
@[simp] theorem dGtG_q {i j : Int} : dGtG (.int i) (.int j) = some (.bl (decide (j < i)), .fz) := dGtG_ii
@[simp] theorem dGeG_q {i j : Int} : dGeG (.int i) (.int j) = some (.bl (decide (j ≤ i)), .fz) := dGeG_ii
/-! names -/
def bIsName : SB := (sSeq (sIf ((tOrr (tNo (tTru (eA dIsi (aCons (eVar 0) (aCons (eC (.ty "str")) aNil))))) (tOrr (tVal (eOp dEq (eVar 0) (eC (.str "")))) (tVal (eOp (dInG true) (eOp dIx (eVar 0) (eC (.int 0))) (eC (.str "abcdefghijklmnopqrstuvwxyz"))))))) (sRet (eC (.bl false))) (sNil)) (sRet (eA dAll (aCons (eLC [1] (setN 1) (iStrD (eVar 0)) tYesD ((eOr (eOp (dInG false) (eVar 1) (eC (.str "abcdefghijklmnopqrstuvwxyz"))) (eOp (dInG false) (eVar 1) (eC (.str "0123456789")))))) aNil))))
def fIsName : Fn := runFn 2 1 bIsName
def bLawIsName : SB := (sSeq (sIf ((tOrr (tNo (tTru (eA dIsi (aCons (eVar 0) (aCons (eC (.ty "str")) aNil))))) (tOrr (tVal (eOp dEq (eVar 0) (eC (.str "")))) (tNo ((tAn (tVal (eOp dLeG (eC (.str "a")) (eOp dIx (eVar 0) (eC (.int 0))))) (tVal (eOp dLeG (eOp dIx (eVar 0) (eC (.int 0))) (eC (.str "z")))))))))) (sRet (eC (.bl false))) (sNil)) (sRet (eOp dEq (eLC [1] (setN 1) (iStrD (eVar 0)) (tNo ((tOrr ((tAn (tVal (eOp dLeG (eC (.str "a")) (eVar 1))) (tVal (eOp dLeG (eVar 1) (eC (.str "z")))))) ((tAn (tVal (eOp dLeG (eC (.str "0")) (eVar 1))) (tVal (eOp dLeG (eVar 1) (eC (.str "9"))))))))) (eVar 1)) (eLst aNil))))
def fLawIsName : Fn := runFn 2 1 bLawIsName
def isLet (c : Nat) : Bool := decide (97 ≤ c) && decide (c ≤ 122)
def isDig (c : Nat) : Bool := decide (48 ≤ c) && decide (c ≤ 57)
def nmL : List Nat → Bool
  | [] => false
  | c :: r => isLet c && (c :: r).all fun c => isLet c || isDig c
def nmOk (x : Str) : Bool := nmL x.cps.toList
abbrev sgn (c : Nat) : D := .str ⟨#[c]⟩
theorem let_in (c : Nat) : decide (c ∈ (Str.ofString "abcdefghijklmnopqrstuvwxyz").cps.toList) = isLet c := by
  have e : (Str.ofString "abcdefghijklmnopqrstuvwxyz").cps.toList = (List.range' 97 26) := by decide +kernel
  rw [e, isLet, Bool.eq_iff_iff]
  simp only [List.mem_range'_1, decide_eq_true_eq, Bool.and_eq_true]
  omega
theorem dig_in (c : Nat) : decide (c ∈ (Str.ofString "0123456789").cps.toList) = isDig c := by
  have e : (Str.ofString "0123456789").cps.toList = (List.range' 48 10) := by decide +kernel
  rw [e, isDig, Bool.eq_iff_iff]
  simp only [List.mem_range'_1, decide_eq_true_eq, Bool.and_eq_true]
  omega
theorem inS_let (neg : Bool) (c : Nat) : els2 (dIn neg) (dInS neg) (sgn c) (.str "abcdefghijklmnopqrstuvwxyz") = some (.bl (if neg then !isLet c else isLet c), .fz) := by
  show some (D.bl (if neg then !decide (c ∈ (Str.ofString "abcdefghijklmnopqrstuvwxyz").cps.toList) else decide (c ∈ (Str.ofString "abcdefghijklmnopqrstuvwxyz").cps.toList)), O3.fz) = _
  rw [let_in]
theorem inS_dig (neg : Bool) (c : Nat) : els2 (dIn neg) (dInS neg) (sgn c) (.str "0123456789") = some (.bl (if neg then !isDig c else isDig c), .fz) := by
  show some (D.bl (if neg then !decide (c ∈ (Str.ofString "0123456789").cps.toList) else decide (c ∈ (Str.ofString "0123456789").cps.toList)), O3.fz) = _
  rw [dig_in]
theorem one_le (a c : Nat) : decide ([a] ≤ [c]) = decide (a ≤ c) := by
  rw [Bool.eq_iff_iff]; simp
  constructor
  · intro h
    by_cases hc : a ≤ c
    · exact hc
    · exact absurd (List.Lex.rel (show c < a by omega) : [c] < [a]) (by exact h)
  · intro h hl
    cases hl with
    | rel h2 => omega
    | cons h2 => cases h2
theorem sg_a : (Str.ofString "a").cps.toList = [97] := by decide +kernel
theorem sg_z : (Str.ofString "z").cps.toList = [122] := by decide +kernel
theorem sg_0 : (Str.ofString "0").cps.toList = [48] := by decide +kernel
theorem sg_9 : (Str.ofString "9").cps.toList = [57] := by decide +kernel
theorem leS_a (c : Nat) : dLeG (.str "a") (sgn c) = some (.bl (decide (97 ≤ c)), .fz) := by rw [dLeG_ss, sg_a, one_le]
theorem leS_z (c : Nat) : dLeG (sgn c) (.str "z") = some (.bl (decide (c ≤ 122)), .fz) := by rw [dLeG_ss, sg_z, one_le]
theorem leS_0 (c : Nat) : dLeG (.str "0") (sgn c) = some (.bl (decide (48 ≤ c)), .fz) := by rw [dLeG_ss, sg_0, one_le]
theorem leS_9 (c : Nat) : dLeG (sgn c) (.str "9") = some (.bl (decide (c ≤ 57)), .fz) := by rw [dLeG_ss, sg_9, one_le]
theorem isName_ok (x : Str) (h : x.length ≤ 1000) (w) : fIsName [.str x] w = some ((.bl (nmOk x), .fz), w) := by
  obtain ⟨⟨l⟩⟩ := x
  show _ = some ((D.bl (nmL l), O3.fz), w)
  have hl : l.length ≤ 1000 := h
  cases l with
  | nil => 
    have e : (⟨#[]⟩ : Str) = Str.ofString "" := by decide +kernel
    simp -implicitDefEqProofs [fIsName, bIsName, e, nmL]
  | cons c r =>
    have e : (⟨⟨c :: r⟩⟩ : Str) ≠ Str.ofString "" := fun e => by
      have : (Str.ofString "") = ⟨#[]⟩ := by decide +kernel
      rw [this] at e; cases e
    have h1 : (⟨⟨c :: r⟩⟩ : Str).length ≤ lim := le_lim (Nat.le_trans hl (by decide))
    have hs := fun w s0 s1 => lcL_all (set := setN 1) (fe := (eOr (eOp (dInG false) (eVar 1) (eC (.str "abcdefghijklmnopqrstuvwxyz"))) (eOp (dInG false) (eVar 1) (eC (.str "0123456789"))))) (env := [s0, s1]) (w := w) sgn (fun c => .bl (isLet c || isDig c)) (c :: r) fun x _ => ⟨_, rfl, by
      have a1 := inS_let false x
      have a2 := inS_dig false x
      simp -implicitDefEqProofs at a1 a2
      cases hx : isLet x <;> rw [hx] at a1 <;> simp -implicitDefEqProofs [a1, a2]⟩
    have hsg : Dl.signs ⟨⟨c :: r⟩⟩ = (c :: r).map sgn := rfl
    have hll : ((c :: r).map sgn).length ≤ lim := le_lim (by rw [List.length_map]; omega)
    have hd := dAll_q (ns := (c :: r).map fun c => isLet c || isDig c)
    have e3 : ((c :: r).map fun c => isLet c || isDig c).map D.bl = (c :: r).map fun c => D.bl (isLet c || isDig c) := by rw [List.map_map]; rfl
    rw [e3] at hd
    have a0 := inS_let true c
    have e4 : (((c :: r).map fun c => isLet c || isDig c).all id) = (c :: r).all fun c => isLet c || isDig c := by rw [List.all_map]; rfl
    rw [e4] at hd
    show _ = some ((D.bl (isLet c && (c :: r).all fun c => isLet c || isDig c), O3.fz), w)
    generalize hA : (c :: r).map sgn = A at hs hsg hll
    generalize hB : ((c :: r).map fun c => D.bl (isLet c || isDig c)) = B at hs hd
    generalize hC : ((c :: r).all fun c => isLet c || isDig c) = C at hd ⊢
    cases hx : isLet c <;> rw [hx] at a0 <;> simp -implicitDefEqProofs at a0 <;> simp -implicitDefEqProofs [fIsName, bIsName, e, h1, a0, hsg, hs, lcK_q hll, hd]
theorem lawIsName_ok (x : Str) (h : x.length ≤ 1000) (hf : PyData.strOk x = true) (w) : fLawIsName [.str x] w = some ((.bl (nmOk x), .fz), w) := by
  obtain ⟨⟨l⟩⟩ := x
  show _ = some ((D.bl (nmL l), O3.fz), w)
  have hl : l.length ≤ 1000 := h
  have hf' : ∀ c ∈ l, c < 0x110000 := by
    intro c hc
    have : (l.toArray.all (· < 0x110000)) = true := hf
    rw [List.all_toArray, List.all_eq_true] at this
    simpa using this c hc
  cases l with
  | nil => 
    have e : (⟨#[]⟩ : Str) = Str.ofString "" := by decide +kernel
    simp -implicitDefEqProofs [fLawIsName, bLawIsName, e, nmL]
  | cons c r =>
    have e : (⟨⟨c :: r⟩⟩ : Str) ≠ Str.ofString "" := fun e => by
      have : (Str.ofString "") = ⟨#[]⟩ := by decide +kernel
      rw [this] at e; cases e
    have h1 : (⟨⟨c :: r⟩⟩ : Str).length ≤ lim := le_lim (Nat.le_trans hl (by decide))
    have tst : ∀ (x : Nat) (s0 : Option (D × Bool)) (w : Option Wd), (tNo ((tOrr ((tAn (tVal (eOp dLeG (eC (.str "a")) (eVar 1))) (tVal (eOp dLeG (eVar 1) (eC (.str "z")))))) ((tAn (tVal (eOp dLeG (eC (.str "0")) (eVar 1))) (tVal (eOp dLeG (eVar 1) (eC (.str "9"))))))))) [s0, some (sgn x, false)] w = some (!(isLet x || isDig x), w) := by
      intro x s0 w
      have b1 := leS_a x
      have b2 := leS_z x
      have b3 := leS_0 x
      have b4 := leS_9 x
      unfold isLet isDig
      by_cases g1 : 97 ≤ x <;> by_cases g2 : x ≤ 122 <;> by_cases g3 : 48 ≤ x <;> by_cases g4 : x ≤ 57 <;> simp only [g1, g2, g3, g4, decide_true, decide_false] at b1 b2 b3 b4 <;> simp -implicitDefEqProofs [b1, b2, b3, b4, g1, g2, g3, g4]
    have hs := fun w s0 s1 => lcL_gen (set := setN 1) (t := (tNo ((tOrr ((tAn (tVal (eOp dLeG (eC (.str "a")) (eVar 1))) (tVal (eOp dLeG (eVar 1) (eC (.str "z")))))) ((tAn (tVal (eOp dLeG (eC (.str "0")) (eVar 1))) (tVal (eOp dLeG (eVar 1) (eC (.str "9")))))))))) (fe := eVar 1) (env := [s0, s1]) (w := w) sgn (fun c => !(isLet c || isDig c)) sgn (c :: r) fun x _ => ⟨_, rfl, tst x s0 w, fun _ => by simp⟩
    have hsg : Dl.signs ⟨⟨c :: r⟩⟩ = (c :: r).map sgn := rfl
    have hll : ((c :: r).map sgn).length ≤ lim := le_lim (by rw [List.length_map]; omega)
    have hfi : fine 64 (.lst (((c :: r).filter fun c => !(isLet c || isDig c)).map sgn)) = true := by
      show fine (63 + 1) _ = true
      rw [fine_lst]
      intro d hd
      obtain ⟨y, hy, rfl⟩ := List.mem_map.mp hd
      rw [fine_str]
      have := hf' y (List.mem_filter.mp hy).1
      show ((#[y] : Array Nat).all (· < 0x110000)) = true
      simpa using this
    have hq := dEq_lnil hfi
    have e4 : (((c :: r).filter fun c => !(isLet c || isDig c)).map sgn).isEmpty = (c :: r).all fun c => isLet c || isDig c := by
      rw [List.isEmpty_map]
      generalize c :: r = l
      induction l with
      | nil => rfl
      | cons y l ih =>
        rw [List.all_cons, ← ih, List.filter_cons]
        cases (isLet y || isDig y) <;> rfl
    rw [e4] at hq
    have b1 := leS_a c
    have b2 := leS_z c
    show _ = some ((D.bl (isLet c && (c :: r).all fun c => isLet c || isDig c), O3.fz), w)
    generalize hA : (c :: r).map sgn = A at hs hsg hll
    generalize hB : (((c :: r).filter fun c => !(isLet c || isDig c)).map sgn) = B at hs hq
    generalize hC : ((c :: r).all fun c => isLet c || isDig c) = C at hq ⊢
    have hx : isLet c = (decide (97 ≤ c) && decide (c ≤ 122)) := rfl
    rw [hx]
    clear hx
    by_cases g1 : 97 ≤ c <;> by_cases g2 : c ≤ 122 <;> simp only [g1, g2, decide_true, decide_false] at b1 b2 <;> simp -implicitDefEqProofs [fLawIsName, bLawIsName, e, h1, b1, b2, g1, g2, hsg, hs, lcK_q hll, hq]
end Dl

set_option Elab.async false
set_option linter.all false
set_option maxRecDepth 100000
set_option maxHeartbeats 4000000
namespace Dl
open PySem PySem.Spec PyProof.Rows L2
/-! ### dicts whose keys are tuples -/
section
variable {X : Cx} {pins : List (Addr × Obj)} {σ : L2.St} {H : Hp} {s : Shared} {F : Addr → Prop} {wa : Option Addr}
mutual
theorem nis (I : Inv X pins σ H s) : ∀ (d : D) (v : V) (u : Value) (k : NestedKey), Rep (kwOf X) F wa H d v → RelV v u → nkD d = some k → NestedIs s.heap k u
  | .non, v, u, k, r, rv, e => by
    cases (show v = .non from r); cases rv; cases e; exact .none
  | .bl b, v, u, k, r, rv, e => by
    cases (show v = .bl b from r); cases rv; cases e; exact .bool rfl
  | .int i, v, u, k, r, rv, e => by
    cases (show v = .int i from r)
    obtain ⟨t, rfl⟩ := rv
    cases e; exact .int i t
  | .str x, v, u, k, r, rv, e => by
    cases (show v = .str x from r)
    obtain ⟨t, rfl⟩ := rv
    cases e; exact .text x t
  | .tup ds, v, u, k, r, rv, e => by
    obtain ⟨a, o, vs, e1, _, hh, ht, rr⟩ := r
    subst e1
    cases (show u = Value.ref a from rv)
    have e' : (nkDs ds).map NestedKey.tup = some k := e
    obtain ⟨ks, h1, h2⟩ := Option.map_eq_some_iff.mp e'
    subst h2
    obtain ⟨its, rvs, ⟨ob, g1, g2, n, g3⟩, _⟩ := I.tuple (ht.sq (K := kwOf X) hh)
    exact .tup g1 g2 g3 (by simpa using nisAll I ds vs its ks rr rvs h1)
  | .lst _, _, _, _, _, _, e => nomatch e
  | .dk _ _, _, _, _, _, _, e => nomatch e
  | .dt _ _, _, _, _, _, _, e => nomatch e
  | .scr _, _, _, _, _, _, e => nomatch e
  | .ty _, _, _, _, _, _, e => nomatch e
  | .w, _, _, _, _, _, e => nomatch e
theorem nisAll (I : Inv X pins σ H s) : ∀ (ds : List D) (vs : List V) (us : List Value) (ks : List NestedKey), Reps (kwOf X) F wa H ds vs → Vals vs us → nkDs ds = some ks → NestedAll s.heap ks us
  | [], vs, us, ks, r, rv, e => by
    have q : vs = [] := r
    subst q
    cases rv; cases e; exact .nil
  | d :: ds, vs, us, ks, r, rv, e => by
    obtain ⟨v, t, e1, r1, r2⟩ := r
    subst e1
    cases rv with
    | @cons _ u _ us' rv1 rv2 =>
      have e' : ((nkD d).bind fun k => (nkDs ds).map fun r => k :: r) = some ks := e
      obtain ⟨k, h1, h2⟩ := Option.bind_eq_some_iff.mp e'
      obtain ⟨kr, h3, h4⟩ := Option.map_eq_some_iff.mp h2
      subst h4
      exact .cons (nis I d v u k r1 rv1 h1) (nisAll I ds t us' kr r2 rv2 h3)
end
theorem isAll (I : Inv X pins σ H s) : ∀ {ks : List D} {xs : DEs}, DtOk ks xs → Reps (kwOf X) F wa H ks (dtV xs) → ∀ x ∈ xs, (nestedKind X.prog X.w).is s.heap x.1 x.2.1
  | _, _, .nil, _, x, hx => nomatch hx
  | k :: ks, y :: xs, .cons h t, r, x, hx => by
    obtain ⟨v, tl, e1, r1, r2⟩ := r
    have e2 : dtV (y :: xs) = .ref y.2.1 :: dtV xs := rfl
    rw [e2] at e1
    injection e1 with e3 e4
    subst e3 e4
    rcases List.mem_cons.mp hx with e | hx
    · subst e
      exact ⟨nis I k _ _ _ r1 rfl h.1, h.2⟩
    · exact isAll I t r2 x hx
theorem dt_raw (I : Inv X pins σ H s) {a : Addr} {xs : DEs} (h : H a = some (DTO X.w a xs)) : DtRaw X.w a xs s.heap := (show ObjOk X.prog X.w H s.heap a (DTO X.w a xs) from I.hok a _ h).1
theorem dt_of {a : Addr} {ks : List D} {xs : DEs} (I : Inv X pins σ H s) (h : H a = some (DTO X.w a xs)) (ok : DtOk ks xs) (rk : Reps (kwOf X) F wa H ks (dtV xs)) :
    s.heap.DictOfH (nestedKind X.prog X.w) a xs ∧ (a == sysModules) = false ∧ xs.length ≤ sizeLine := by
  obtain ⟨o, es, ep, h1, h2, h3, h4, h5, h6, h7⟩ := dt_raw I h
  exact ⟨⟨o, es, ep, h1, h2, h3, h4, isAll I ok rk, h5⟩, h6, h7⟩
theorem dto_new {P : Program} {H' : Hp} {h' : Heap} {a : Addr} {xs : DEs} (dd : h'.DictOfH (nestedKind P X.w) a xs) (hd : (a == sysModules) = false) (hl : xs.length ≤ sizeLine) : ObjOk P X.w H' h' a (DTO X.w a xs) := by
  obtain ⟨o, es, ep, h1, h2, h3, h4, _, h5⟩ := dd
  refine ⟨⟨o, es, ep, h1, h2, h3, h4, h5, hd, hl⟩, ⟨o, h1⟩, fun g1 g2 q k => ?_⟩
  obtain ⟨o', es', ep', q1, q⟩ := q
  exact ⟨o', es', ep', k _ q1, q⟩
theorem room8 {A : Around} (hu : A.units + 64 < cLine) : (nestedKind X.prog X.w).room A.in1 := by
  show A.units + 1 + 8 < cLine
  omega
end
def dtFind : List D → List D → NestedKey → Option D
  | k :: ks, d :: ds, j => if nkD k = some j then some d else dtFind ks ds j
  | _, _, _ => none
def dtUpd : List D → List D → NestedKey → D → List D
  | k :: ks, d :: ds, j, x => (if nkD k = some j then x else d) :: dtUpd ks ds j x
  | _, ds, _, _ => ds
def dtPut (ks ds : List D) (kd : D) (j : NestedKey) (x : D) : List D × List D := if (dtFind ks ds j).isSome = true then (ks, dtUpd ks ds j x) else (ks ++ [kd], ds ++ [x])
section
variable {K : KW} {F : Addr → Prop} {wa : Option Addr} {H : Hp}
theorem atKey_cons (y : NestedKey × Addr × Value) (xs : DEs) (j : NestedKey) : atKey (y :: xs) j = if y.1 = j then some y.2 else atKey xs j := by
  unfold atKey
  rw [List.find?_cons]
  by_cases h : y.1 = j <;> simp [h]
theorem dtFind_ok (j : NestedKey) : ∀ {ks ds : List D} {xs : DEs} {vs : List V}, DtOk ks xs → Vals vs (dtU xs) → Reps K F wa H ds vs →
    (∀ d, dtFind ks ds j = some d → ∃ p v, atKey xs j = some p ∧ RelV v p.2 ∧ Rep K F wa H d v) ∧ (dtFind ks ds j = none → atKey xs j = none)
  | _, ds, _, vs, .nil, rv, r => by
    cases rv
    have e : ds = [] := by
      cases ds with
      | nil => rfl
      | cons d t => obtain ⟨_, _, e, _⟩ := r; cases e
    subst e
    exact ⟨fun d h => (nomatch h), fun _ => rfl⟩
  | k :: ks, ds, y :: xs, vs, .cons h t, rv, r => by
    cases rv with
    | @cons v _ vs' _ rv1 rv2 =>
      cases ds with
      | nil => have e : (v :: vs') = [] := r; cases e
      | cons d ds =>
        obtain ⟨v', t', e, r1, r2⟩ := r
        cases e
        obtain ⟨g1, g2⟩ := dtFind_ok j t rv2 r2
        rw [atKey_cons]
        show (∀ d', (if nkD k = some j then some d else dtFind ks ds j) = some d' → _) ∧ ((if nkD k = some j then some d else dtFind ks ds j) = none → _)
        rw [h.1]
        by_cases hj : y.1 = j
        · rw [if_pos (by rw [hj]), if_pos hj]
          exact ⟨fun d' e => (by cases e; exact ⟨_, v, rfl, rv1, r1⟩), fun e => (nomatch e)⟩
        · rw [if_neg (fun e => hj (Option.some.inj e)), if_neg hj]
          exact ⟨g1, g2⟩
theorem dtUpd_ok {j : NestedKey} {x : D} {v : V} {u : Value} (rx : Rep K F wa H x v) (rv : RelV v u) : ∀ {ks ds : List D} {xs : DEs} {vs : List V}, DtOk ks xs → Vals vs (dtU xs) → Reps K F wa H ds vs →
    ∃ vs', DtOk ks (xs.map (putAt j u)) ∧ Vals vs' (dtU (xs.map (putAt j u))) ∧ Reps K F wa H (dtUpd ks ds j x) vs' ∧ dtV (xs.map (putAt j u)) = dtV xs
  | _, ds, _, vs, .nil, rv, r => ⟨vs, .nil, rv, by cases ds <;> exact r, rfl⟩
  | k :: ks, ds, y :: xs, vs, .cons h t, rvs, r => by
    cases rvs with
    | @cons v0 _ vs0 _ rv1 rv2 =>
      cases ds with
      | nil => have e : (v0 :: vs0) = [] := r; cases e
      | cons d ds =>
        obtain ⟨v', t', e, r1, r2⟩ := r
        cases e
        obtain ⟨vs', g1, g2, g3, g4⟩ := dtUpd_ok (j := j) rx rv t rv2 r2
        have e0 : (y :: xs).map (putAt j u) = putAt j u y :: xs.map (putAt j u) := rfl
        have e1 : (putAt j u y).1 = y.1 := by unfold putAt; split <;> rfl
        have e2 : (putAt j u y).2.1 = y.2.1 := by unfold putAt; split <;> rfl
        refine ⟨(if y.1 = j then v else v0) :: vs', ?_, ?_, ?_, ?_⟩
        · rw [e0]
          exact .cons ⟨by rw [e1]; exact h.1, by rw [e1]; exact h.2⟩ g1
        · rw [e0]
          refine .cons ?_ g2
          show RelV _ (putAt j u y).2.2
          unfold putAt
          by_cases hj : y.1 = j
          · rw [if_pos hj, if_pos hj]; exact rv
          · rw [if_neg hj, if_neg hj]; exact rv1
        · show Reps K F wa H ((if nkD k = some j then x else d) :: dtUpd ks ds j x) _
          refine ⟨_, _, rfl, ?_, g3⟩
          rw [h.1]
          by_cases hj : y.1 = j
          · rw [if_pos (by rw [hj]), if_pos hj]; exact rx
          · rw [if_neg (fun e => hj (Option.some.inj e)), if_neg hj]; exact r1
        · rw [e0]
          show V.ref (putAt j u y).2.1 :: dtV (xs.map (putAt j u)) = .ref y.2.1 :: dtV xs
          rw [e2, g4]
theorem dtV_app (xs ys : DEs) : dtV (xs ++ ys) = dtV xs ++ dtV ys := List.map_append
theorem dtU_app (xs ys : DEs) : dtU (xs ++ ys) = dtU xs ++ dtU ys := List.map_append
theorem Paired.app {α β : Type} {R : α → β → Prop} : ∀ {as bs : List α} {cs ds : List β}, Paired R as cs → Paired R bs ds → Paired R (as ++ bs) (cs ++ ds)
  | _, _, _, _, .nil, h => h
  | _, _, _, _, .cons r t, h => .cons r (Paired.app t h)
theorem dtPut_ok {j : NestedKey} {kd x : D} {b : Addr} {v : V} {u : Value} (hk : nkD kd = some j) (hj : j.depth ≤ 8) (rk : Rep K F wa H kd (.ref b)) (rx : Rep K F wa H x v) (rv : RelV v u) {ks ds : List D} {xs : DEs} {vs : List V} (ok : DtOk ks xs) (rvs : Vals vs (dtU xs)) (rks : Reps K F wa H ks (dtV xs)) (rds : Reps K F wa H ds vs) :
    ∃ vs', DtOk (dtPut ks ds kd j x).1 (storedH xs j b u) ∧ Vals vs' (dtU (storedH xs j b u)) ∧ Reps K F wa H (dtPut ks ds kd j x).1 (dtV (storedH xs j b u)) ∧ Reps K F wa H (dtPut ks ds kd j x).2 vs' := by
  obtain ⟨g1, g2⟩ := dtFind_ok (K := K) (F := F) (wa := wa) (H := H) j ok rvs rds
  unfold dtPut
  cases e : dtFind ks ds j with
  | some d =>
    obtain ⟨p, _, h1, _⟩ := g1 d e
    rw [storedH_old h1]
    simp only [Option.isSome_some, if_true]
    obtain ⟨vs', q1, q2, q3, q4⟩ := dtUpd_ok (j := j) rx rv ok rvs rds
    exact ⟨vs', q1, q2, by rw [q4]; exact rks, q3⟩
  | none =>
    rw [storedH_new (g2 e)]
    simp only [Option.isSome_none, Bool.false_eq_true, if_false]
    refine ⟨vs ++ [v], Paired.app ok (.cons ⟨hk, hj⟩ .nil), ?_, ?_, rds.app (.one rx)⟩
    · rw [dtU_app]; exact rvs.append (.cons rv .nil)
    · rw [dtV_app]; exact rks.app (.one rk)
theorem storedH_len (xs : DEs) (j : NestedKey) (b : Addr) (u : Value) : (storedH xs j b u).length ≤ xs.length + 1 := by
  unfold storedH
  split <;> simp
end
/-! the rules -/
def tkD (d : D) : Option NestedKey := match d with
  | .tup _ => (nkD d).bind fun k => if k.depth ≤ 8 then some k else none
  | _ => none
theorem tkD_of {d : D} {j : NestedKey} (h : tkD d = some j) : nkD d = some j ∧ j.depth ≤ 8 ∧ ∃ ds, d = .tup ds := by
  unfold tkD at h
  split at h
  · obtain ⟨k, h1, h2⟩ := Option.bind_eq_some_iff.mp h
    split at h2
    · cases h2; exact ⟨h1, by assumption, _, rfl⟩
    · cases h2
  · cases h
/-- x stands for the dict, y for the key -/
def DGt (X : Cx) (H : Hp) (x y : V) (F : Addr → Prop) (wa : Option Addr) (ks ds : List D) (kd : D) : Prop := Cur (kwOf X) F wa H (.dt ks ds) x ∧ Rep (kwOf X) F wa H kd y
section
variable {X : Cx} {K : KW} {F : Addr → Prop} {wa : Option Addr} {H : Hp}
def rIxDt (X : Cx) : R2 := fun x y H Q => ∃ F wa ks ds kd j d, Cur (kwOf X) F wa H (.dt ks ds) x ∧ Rep (kwOf X) F wa H kd y ∧ tkD kd = some j ∧ dtFind ks ds j = some d ∧ ∀ v, Rep (kwOf X) F wa H d v → Q v H
theorem ix_dt (hu : X.A.units + 64 < cLine) : IxR X (rIxDt X) := by
  intro value slice pins s σ H x y v u Q I rx ry h hs
  obtain ⟨F, wa, ks, ds, kd, j, d, c, rk, hk, hf, q⟩ := h
  obtain ⟨a, xs, vs, e, hh, ok, rvs, rks, rds⟩ := c
  subst e
  cases (show v = Value.ref a from rx)
  obtain ⟨h1, h2, kds, rfl⟩ := tkD_of hk
  obtain ⟨b, o, kvs, e2, _⟩ := id rk
  subst e2
  cases (show u = Value.ref b from ry)
  obtain ⟨dd, hd, hl⟩ := dt_of I hh ok rks
  obtain ⟨p, v, p1, p2, p3⟩ := (dtFind_ok j ok rvs rds).1 d hf
  refine subscriptTail_builtinR (x := p.2) dd.typeIs PySem.F.slot_dict_getitem.lookup (wpAny_getItem_heap (room8 hu) ⟨nis I _ _ _ _ rk rfl h1, h2⟩ dd p1 ⟨rfl, ?_⟩) hs
  exact ⟨v, H, I.tok _, p2, q v p3⟩
end
end Dl

set_option Elab.async false
set_option linter.all false
set_option maxRecDepth 100000
set_option maxHeartbeats 4000000
namespace Dl
open PySem PySem.Spec PyProof.Rows L2
/-! ### dicts: look, member, store -/
def dIxK : D → D → Option DS := fun x y => match x with
  | .dk ks ds => (keyD y).bind fun k => (dFind ks ds k).map fun d => (d, .fz)
  | .dt ks ds => (tkD y).bind fun k => (dtFind ks ds k).map fun d => (d, .fz)
  | _ => none
def rIxDk (X : Cx) : R2 := fun x y H Q => ∃ a v, x = .ref a ∧ DGet H a y (some v) ∧ Q v H
section
variable {X : Cx} {K : KW} {F : Addr → Prop} {wa : Option Addr} {H : Hp}
theorem ix_dk (hu : X.A.units + 64 < cLine) : IxR X (rIxDk X) := by
  intro value slice pins s σ H x y v u Q I rx ry h hs
  obtain ⟨a, w, e, g, q⟩ := h
  subst e
  cases (show v = Value.ref a from rx)
  have hg : wpAny (model X.prog X.w) X.A (getItem (.ref a) u) (EP X pins σ Q) X.xe s := d_getItem (by omega) I g ry fun w' s3 I3 rw' => ⟨w, H, I3, rw', q⟩
  have st := dict_typeIs I g
  have after : wpAny (model X.prog X.w) X.A (subscripted slice false (.ref a) u) (fun r z => wpAny (model X.prog X.w) X.A (letTemporaryGo value (.ref a) r >>= fun _ => pure r) (EP X pins σ Q) X.xe z) X.xe s := by
    rw [hs]; exact wpAny_operating (wpAny_mono hg (fun _ _ z => wpAny_bind (wpAny_letTemporaryGo (wpAny_pure z))) fun _ _ z => z)
  unfold subscriptTail
  refine wpAny_bind (?_ : wpAny _ _ _ _ _ _); rw [getitemInPython_of_ne st.not_modules]
  refine wpAny_bind (wpAny_specialOf st PySem.F.slot_dict_getitem.lookup ?_)
  first | exact wpAny_pure (wpAny_bind after) | exact wpAny_bind (wpAny_pure (wpAny_bind after)) | exact wpAny_bind after
theorem sIxDk : OpS (kwOf X) (fun x y H Q => rIxDk X x y H Q ∨ rIxDt X x y H Q) dIxK := fun wa w F H x y d st v1 v2 wk fd c1 c2 e Q q => by
  unfold dIxK at e
  split at e
  · obtain ⟨k, h1, h2⟩ := Option.bind_eq_some_iff.mp e
    obtain ⟨d', h3, h4⟩ := Option.map_eq_some_iff.mp h2
    cases h4
    obtain ⟨a, vs, e1, hh, hl, rr⟩ := c1
    subst e1
    obtain ⟨u, g1, g2⟩ := (dFind_ok (k := k) rr).1 _ h3
    refine .inl ⟨a, u, rfl, ?_, q.fz wk fd g2⟩
    rw [keyD_ok h1 c2]
    exact .inl ⟨_, k, .inl hh, rfl, g1.symm⟩
  · obtain ⟨k, h1, h2⟩ := Option.bind_eq_some_iff.mp e
    obtain ⟨d', h3, h4⟩ := Option.map_eq_some_iff.mp h2
    cases h4
    obtain ⟨_, _, kds, rfl⟩ := tkD_of h1
    exact .inr ⟨F, wa, _, _, _, k, _, c1, c2, h1, h3, fun v rv => q.fz wk fd rv⟩
  · cases e
/-- sequences, then dicts -/
abbrev dIxG : D → D → Option DS := els2 dIx dIxK
abbrev rIxG (X : Cx) : R2 := fun x y H Q => rIx X.K x y H Q ∨ rIxDk X x y H Q ∨ rIxDt X x y H Q
theorem ix_G (hu : X.A.units + 64 < cLine) : IxR X (rIxG X) := ix_seq.or ((ix_dk hu).or (ix_dt hu))
theorem sIxG : OpS (kwOf X) (rIxG X) dIxG := sIx.els sIxDk
/-! y in d -/
def dInDk (neg : Bool) : D → D → Option DS := fun x y => match y with
  | .dk ks ds => (keyD x).map fun k => (.bl (if neg then !(dFind ks ds k).isSome else (dFind ks ds k).isSome), .fz)
  | .dt ks ds => (tkD x).map fun k => (.bl (if neg then !(dtFind ks ds k).isSome else (dtFind ks ds k).isSome), .fz)
  | _ => none
def rInDk (X : Cx) (neg : Bool) : R2 := fun x y H Q => (∃ a o, y = .ref a ∧ DGet H a x o ∧ Q (.bl (if neg then !o.isSome else o.isSome)) H) ∨
  ∃ F wa ks ds kd j, Cur (kwOf X) F wa H (.dt ks ds) y ∧ Rep (kwOf X) F wa H kd x ∧ tkD kd = some j ∧ Q (.bl (if neg then !(dtFind ks ds j).isSome else (dtFind ks ds j).isSome)) H
theorem dt_in {pins : List (Addr × Obj)} {σ : L2.St} {s : Shared} {ks ds : List D} {kd : D} {j : NestedKey} {x y : V} {v u : Value} (I : Inv X pins σ H s) (rx : RelV x v) (ry : RelV y u) (c : Cur (kwOf X) F wa H (.dt ks ds) y) (rk : Rep (kwOf X) F wa H kd x) (hk : tkD kd = some j) :
    ∃ a b xs, u = .ref a ∧ v = .ref b ∧ s.heap.DictOfH (nestedKind X.prog X.w) a xs ∧ (a == sysModules) = false ∧ (nestedKind X.prog X.w).is s.heap j b ∧ (atKey xs j).isSome = (dtFind ks ds j).isSome := by
  obtain ⟨a, xs, vs, e, hh, ok, rvs, rks, rds⟩ := c
  subst e
  cases (show u = Value.ref a from ry)
  obtain ⟨h1, h2, kds, rfl⟩ := tkD_of hk
  obtain ⟨b, o, kvs, e2, _⟩ := id rk
  subst e2
  cases (show v = Value.ref b from rx)
  obtain ⟨dd, hd, hl⟩ := dt_of I hh ok rks
  obtain ⟨g1, g2⟩ := dtFind_ok (K := kwOf X) (F := F) (wa := wa) (H := H) j ok rvs rds
  refine ⟨a, b, xs, rfl, rfl, dd, hd, ⟨nis I _ _ _ _ rk rfl h1, h2⟩, ?_⟩
  cases e : dtFind ks ds j with
  | none => rw [g2 e]; rfl
  | some d => obtain ⟨p, _, q, _⟩ := g1 d e; rw [q]; rfl
theorem op_inDk (hu : X.A.units + 64 < cLine) : OpR X (compareOp .In) (rInDk X false) := by
  intro pins s σ H x y v u Q I rx ry h
  rcases h with ⟨a, o, e, g, q⟩ | ⟨F, wa, ks, ds, kd, j, c, rk, hk, q⟩
  · subst e
    cases (show u = Value.ref a from ry)
    exact d_in (by omega) I g rx fun s' I' => ⟨.bl o.isSome, H, I', rfl, q⟩
  · obtain ⟨a, b, xs, rfl, rfl, dd, hd, is, es⟩ := dt_in I rx ry c rk hk
    refine wpAny_in_heap (room8 hu) is hd dd ?_
    rw [es]
    exact ⟨.bl (dtFind ks ds j).isSome, H, I.tok _, rfl, q⟩
theorem op_notInDk (hu : X.A.units + 64 < cLine) : OpR X (compareOp .NotIn) (rInDk X true) := by
  intro pins s σ H x y v u Q I rx ry h
  rcases h with ⟨a, o, e, g, q⟩ | ⟨F, wa, ks, ds, kd, j, c, rk, hk, q⟩
  · subst e
    cases (show u = Value.ref a from ry)
    exact d_notIn (by omega) I g rx fun s' I' => ⟨.bl (!o.isSome), H, I', rfl, q⟩
  · obtain ⟨a, b, xs, rfl, rfl, dd, hd, is, es⟩ := dt_in I rx ry c rk hk
    refine wpAny_notIn_heap (room8 hu) is hd dd ?_
    rw [es]
    exact ⟨.bl (!(dtFind ks ds j).isSome), H, I.tok _, rfl, q⟩
theorem sInDk (neg : Bool) : OpS (kwOf X) (rInDk X neg) (dInDk neg) := fun wa w F H x y d st v1 v2 wk fd c1 c2 e Q q => by
  unfold dInDk at e
  split at e
  · obtain ⟨k, h1, h2⟩ := Option.map_eq_some_iff.mp e
    cases h2
    obtain ⟨a, vs, e1, hh, hl, rr⟩ := c2
    subst e1
    obtain ⟨g1, g2⟩ := dFind_ok (k := k) rr
    refine .inl ⟨a, valV _ k, rfl, by rw [keyD_ok h1 c1]; exact .inl ⟨_, k, .inl hh, rfl, rfl⟩, ?_⟩
    cases hf : dFind _ _ k with
    | some x => obtain ⟨u, q1, _⟩ := g1 x hf; rw [q1]; rw [hf] at q; exact q.fz wk fd rfl
    | none => rw [g2 hl hf]; rw [hf] at q; exact q.fz wk fd rfl
  · obtain ⟨k, h1, h2⟩ := Option.map_eq_some_iff.mp e
    cases h2
    obtain ⟨_, _, kds, rfl⟩ := tkD_of h1
    exact .inr ⟨F, wa, _, _, _, k, c2, c1, h1, q.fz wk fd rfl⟩
  · cases e
/-- nested data in a list or a tuple -/
def dInD (neg : Bool) : D → D → Option DS := fun x y => match dPy x, (itemsOf y).bind fun ys => dPys ys with
  | some a, some bs => if (SeqAt.shaped a && bs.all SeqAt.shaped) = true then some (.bl (if neg then !bs.any (fun b => PyData.eqv b a) else bs.any fun b => PyData.eqv b a), .fz) else none
  | _, _ => none
end
end Dl

set_option Elab.async false
set_option linter.all false
set_option maxRecDepth 100000
set_option maxHeartbeats 4000000
namespace Dl
open PySem PySem.Spec PyProof.Rows L2
/-! ### sorted, min, max of a list of data -/
def encD (d : D) : PyData := (dPy d).getD .none
def tupNe : PyData → Bool
  | .tuple (_ :: _) => true
  | _ => false
def notTup : PyData → Bool
  | .tuple _ => false
  | .none => false
  | _ => true
def srtOk (ds : List D) : Bool := ds.all (fun d => (dPy d).isSome && decide ((encD d).depth ≤ 40)) && ds.all (fun d => ds.all fun e => PySem.W.alike (encD d) (encD e)) && (ds.all (fun d => tupNe (encD d)) || ds.all fun d => notTup (encD d))
def leD (a b : D) : Bool := !PySem.W.dataLt (encD b) (encD a)
def dSrt : List D → Option DS
  | [.lst ds] => if srtOk ds = true ∧ ds.length ≤ lim then some (.lst (ds.mergeSort leD), .ow) else none
  | _ => none
theorem dPy_enc {d : D} (h : (dPy d).isSome = true) : dPy d = some (encD d) := by
  unfold encD
  cases e : dPy d with
  | none => rw [e] at h; cases h
  | some p => rfl
mutual
theorem dPy_inj : ∀ (d e : D) (p : PyData), dPy d = some p → dPy e = some p → d = e
  | .non, e, p, h, g => by
    cases h
    cases e <;> first | rfl | (cases g; done) | (have g' : (dPys _).map _ = _ := g; obtain ⟨_, _, q⟩ := Option.map_eq_some_iff.mp g'; cases q)
  | .bl b, e, p, h, g => by
    cases h
    cases e <;> first | (cases g; done) | (cases g; rfl) | (have g' : (dPys _).map _ = _ := g; obtain ⟨_, _, q⟩ := Option.map_eq_some_iff.mp g'; cases q)
  | .int b, e, p, h, g => by
    cases h
    cases e <;> first | (cases g; done) | (cases g; rfl) | (have g' : (dPys _).map _ = _ := g; obtain ⟨_, _, q⟩ := Option.map_eq_some_iff.mp g'; cases q)
  | .str b, e, p, h, g => by
    cases h
    cases e <;> first | (cases g; done) | (cases g; rfl) | (have g' : (dPys _).map _ = _ := g; obtain ⟨_, _, q⟩ := Option.map_eq_some_iff.mp g'; cases q)
  | .tup ds, e, p, h, g => by
    have h' : (dPys ds).map PyData.tuple = some p := h
    obtain ⟨ps, h1, h2⟩ := Option.map_eq_some_iff.mp h'
    subst h2
    cases e with
    | tup es =>
      have g' : (dPys es).map PyData.tuple = some (.tuple ps) := g
      obtain ⟨ps', g1, g2⟩ := Option.map_eq_some_iff.mp g'
      cases g2
      rw [dPys_inj ds es ps h1 g1]
    | lst es =>
      have g' : (dPys es).map PyData.list = some (.tuple ps) := g
      obtain ⟨ps', g1, g2⟩ := Option.map_eq_some_iff.mp g'
      cases g2
    | _ => cases g
  | .lst ds, e, p, h, g => by
    have h' : (dPys ds).map PyData.list = some p := h
    obtain ⟨ps, h1, h2⟩ := Option.map_eq_some_iff.mp h'
    subst h2
    cases e with
    | lst es =>
      have g' : (dPys es).map PyData.list = some (.list ps) := g
      obtain ⟨ps', g1, g2⟩ := Option.map_eq_some_iff.mp g'
      cases g2
      rw [dPys_inj ds es ps h1 g1]
    | tup es =>
      have g' : (dPys es).map PyData.tuple = some (.list ps) := g
      obtain ⟨ps', g1, g2⟩ := Option.map_eq_some_iff.mp g'
      cases g2
    | _ => cases g
  | .dk _ _, e, p, h, g => by cases h
  | .dt _ _, e, p, h, g => by cases h
  | .scr _, e, p, h, g => by cases h
  | .ty _, e, p, h, g => by cases h
  | .w, e, p, h, g => by cases h
theorem dPys_inj : ∀ (ds es : List D) (ps : List PyData), dPys ds = some ps → dPys es = some ps → ds = es
  | [], es, ps, h, g => by
    cases h
    cases es with
    | nil => rfl
    | cons e es =>
      have g' : ((dPy e).bind fun a => (dPys es).map fun b => a :: b) = some [] := g
      obtain ⟨a, h1, h2⟩ := Option.bind_eq_some_iff.mp g'
      obtain ⟨b, h3, h4⟩ := Option.map_eq_some_iff.mp h2
      cases h4
  | d :: ds, es, ps, h, g => by
    have h' : ((dPy d).bind fun a => (dPys ds).map fun b => a :: b) = some ps := h
    obtain ⟨a, h1, h2⟩ := Option.bind_eq_some_iff.mp h'
    obtain ⟨b, h3, h4⟩ := Option.map_eq_some_iff.mp h2
    subst h4
    cases es with
    | nil => cases g
    | cons e es =>
      have g' : ((dPy e).bind fun a => (dPys es).map fun b => a :: b) = some (a :: b) := g
      obtain ⟨a', g1, g2⟩ := Option.bind_eq_some_iff.mp g'
      obtain ⟨b', g3, g4⟩ := Option.map_eq_some_iff.mp g2
      cases g4
      rw [dPy_inj d e _ h1 g1, dPys_inj ds es _ h3 g3]
end
section
variable {X : Cx} {K : KW} {F : Addr → Prop} {wa : Option Addr} {H : Hp}
/-- what an item stands for -/
def StD (K : KW) (F : Addr → Prop) (wa : Option Addr) (H : Hp) (u : Value) (d : D) : Prop := ∃ v, RelV v u ∧ Rep K F wa H d v
theorem each_st : ∀ {ds : List D} {vs : List V} {us : List Value}, Vals vs us → Reps K F wa H ds vs → PySem.W.EachIs (StD K F wa H) us ds
  | [], vs, us, r, rr => by
    have e : vs = [] := rr
    subst e; cases r; exact .nil
  | d :: ds, vs, us, r, rr => by
    obtain ⟨v, t, e, r1, r2⟩ := rr
    subst e
    cases r with
    | cons a b => exact .cons ⟨v, a, r1⟩ (each_st b r2)
theorem st_each : ∀ {ds : List D} {us : List Value}, PySem.W.EachIs (StD K F wa H) us ds → ∃ vs, Vals vs us ∧ Reps K F wa H ds vs
  | [], _, .nil => ⟨[], .nil, rfl⟩
  | d :: ds, _, .cons ⟨v, a, r⟩ t => by
    obtain ⟨vs, h1, h2⟩ := st_each t
    exact ⟨v :: vs, .cons a h1, ⟨v, vs, rfl, r, h2⟩⟩
theorem each_rd {pins : List (Addr × Obj)} {σ : L2.St} {s : Shared} (I : Inv X pins σ H s) : ∀ {ds : List D} {us : List Value}, (∀ d ∈ ds, (dPy d).isSome = true) → PySem.W.EachIs (StD (kwOf X) F wa H) us ds → PySem.W.EachIs (fun v d => ∃ as, Reads s.heap v (encD d) as) us ds
  | [], _, _, .nil => .nil
  | d :: ds, _, h, .cons ⟨v, a, r⟩ t => .cons (Dp.reads I _ v _ (dPy_ok d v _ (dPy_enc (h d List.mem_cons_self)) r) a) (each_rd I (fun d hd => h d (List.mem_cons_of_mem _ hd)) t)
def rSrtD (K : KW) : List V → Hp → VK → Prop := fun vs H Q => ∃ F wa a xs ds, vs = [.ref a] ∧ H a = some (.lst xs) ∧ Reps K F wa H ds xs ∧ srtOk ds = true ∧ ds.length ≤ lim ∧ ∀ ys p, H p = none → Reps K F wa H (ds.mergeSort leD) ys → Q (.ref p) (upd H p (.lst ys))
theorem srtOk_of {ds : List D} (h : srtOk ds = true) : (∀ d ∈ ds, (dPy d).isSome = true) ∧ (∀ d ∈ ds, (encD d).depth ≤ 40) ∧ PySem.W.AllAlike (ds.map encD) ∧ PySem.W.Sortable (ds.map encD) := by
  unfold srtOk at h
  simp only [Bool.and_eq_true, Bool.or_eq_true, List.all_eq_true, decide_eq_true_eq] at h
  obtain ⟨⟨h1, h2⟩, h3⟩ := h
  refine ⟨fun d hd => (h1 d hd).1, fun d hd => (h1 d hd).2, fun d hd e he => ?_, ?_⟩
  · obtain ⟨x, hx, rfl⟩ := List.mem_map.mp hd
    obtain ⟨y, hy, rfl⟩ := List.mem_map.mp he
    exact h2 x hx y hy
  · rcases h3 with h3 | h3
    · refine .inl fun d hd => ?_
      obtain ⟨x, hx, rfl⟩ := List.mem_map.mp hd
      have := h3 x hx
      cases e : encD x with
      | tuple l => cases l with
        | nil => rw [e] at this; cases this
        | cons y r => exact ⟨y, r, rfl⟩
      | _ => rw [e] at this; cases this
    · refine .inr fun d hd => ?_
      obtain ⟨x, hx, rfl⟩ := List.mem_map.mp hd
      have := h3 x hx
      refine ⟨fun e => ?_, fun l e => ?_⟩
      · rw [e] at this; cases this
      · rw [e] at this; cases this
theorem cr_srtD (hu : X.A.units + 64 < cLine) : CallR X (.builtin "sorted") (rSrtD (kwOf X)) := by
  intro pins s σ H vs us Q I r h
  obtain ⟨F, wa, a, xs, ds, rfl, hs, rr, ok, hl, q⟩ := h
  obtain ⟨its, rv, hl', hz⟩ := I.list (.inl (.inl hs))
  rw [Vals.ref1 r]
  obtain ⟨o1, o2, o3, o4⟩ := srtOk_of ok
  have E := each_st rv rr
  refine PySem.W.sorted_data (enc := encD) (R := StD (kwOf X) F wa H) hl'.isList E (each_rd I o1 E) o3 o4 (line16 hl) (fun b hb => by have := o2 b hb; omega) fun out ho eo => ?_
  obtain ⟨ys, g1, g2⟩ := st_each eo
  obtain ⟨ep, he'⟩ := PyProof.Rows.sortedAll_at s.heap its out.toArray
  have hlen : ys.length ≤ sizeLine := by rw [g1.length, ho]; exact line16 hl
  exact ⟨.ref _, upd H (s.heap.objs.size + 1) (.lst ys), I.laid (t' := s.toks) (fun _ _ => PyProof.Rows.sortedAll_old) (Nat.le_succ _) ⟨hlen, out, ep, g1, he'⟩, rfl, q ys _ (I.hok.fresh (Nat.le_succ _)) g2⟩
theorem sSrtD : CallS K (rSrtD K) dSrt := fun wa w F H ds d st vs wk fd c e Q q => by
  unfold dSrt at e
  split at e
  · split at e
    · rename_i hc
      cases e
      obtain ⟨v, rfl, a, us, e1, hh, rr⟩ := curs1 c
      subst e1
      exact ⟨F, wa, a, us, _, rfl, hh, rr, hc.1, hc.2, fun ys p hp r => q.lst wk fd r hp⟩
    · cases e
  · cases e
/-! min, max -/
def mmOk (ds : List D) : Bool := ds.all (fun d => (dPy d).isSome) && decide (PyData.depthAll (ds.map encD) ≤ 40) && ds.all (fun d => ds.all fun e => PySem.W.alike (encD d) (encD e)) && ds.all fun d => match encD d with
  | .none => false
  | _ => true
def minDD (d : D) (ds : List D) : D := ds.foldl (fun a y => if PySem.W.dataLt (encD y) (encD a) = true then y else a) d
def maxDD (d : D) (ds : List D) : D := ds.foldl (fun a y => if PySem.W.dataLt (encD a) (encD y) = true then y else a) d
def dMinL : List D → Option DS
  | [.lst (d :: ds)] => if mmOk (d :: ds) = true then some (minDD d ds, .fz) else none
  | _ => none
def dMaxL : List D → Option DS
  | [.lst (d :: ds)] => if mmOk (d :: ds) = true then some (maxDD d ds, .fz) else none
  | _ => none
theorem minDD_enc : ∀ (ds : List D) (d : D), encD (minDD d ds) = PySem.W.minD (encD d) (ds.map encD)
  | [], d => rfl
  | x :: ds, d => by
    have := minDD_enc ds (if PySem.W.dataLt (encD x) (encD d) = true then x else d)
    show encD (minDD _ ds) = PySem.W.minD _ (ds.map encD)
    rw [this, apply_ite encD]
theorem maxDD_enc : ∀ (ds : List D) (d : D), encD (maxDD d ds) = PySem.W.maxD (encD d) (ds.map encD)
  | [], d => rfl
  | x :: ds, d => by
    have := maxDD_enc ds (if PySem.W.dataLt (encD d) (encD x) = true then x else d)
    show encD (maxDD _ ds) = PySem.W.maxD _ (ds.map encD)
    rw [this, apply_ite encD]
theorem minDD_mem : ∀ (ds : List D) (d : D), minDD d ds ∈ d :: ds
  | [], d => List.mem_cons_self
  | x :: ds, d => by
    have := minDD_mem ds (if PySem.W.dataLt (encD x) (encD d) = true then x else d)
    have e : minDD d (x :: ds) = minDD (if PySem.W.dataLt (encD x) (encD d) = true then x else d) ds := rfl
    rw [e]
    rcases List.mem_cons.mp this with h | h
    · rw [h]; split <;> simp
    · exact List.mem_cons_of_mem _ (List.mem_cons_of_mem _ h)
theorem maxDD_mem : ∀ (ds : List D) (d : D), maxDD d ds ∈ d :: ds
  | [], d => List.mem_cons_self
  | x :: ds, d => by
    have := maxDD_mem ds (if PySem.W.dataLt (encD d) (encD x) = true then x else d)
    have e : maxDD d (x :: ds) = maxDD (if PySem.W.dataLt (encD d) (encD x) = true then x else d) ds := rfl
    rw [e]
    rcases List.mem_cons.mp this with h | h
    · rw [h]; split <;> simp
    · exact List.mem_cons_of_mem _ (List.mem_cons_of_mem _ h)
def rMMD (K : KW) (f : D → List D → D) : List V → Hp → VK → Prop := fun vs H Q => ∃ F wa a xs d ds, vs = [.ref a] ∧ H a = some (.lst xs) ∧ Reps K F wa H (d :: ds) xs ∧ mmOk (d :: ds) = true ∧ ∀ y, Rep K F wa H (f d ds) y → Q y H
theorem mmOk_of {ds : List D} (h : mmOk ds = true) : (∀ d ∈ ds, (dPy d).isSome = true) ∧ PyData.depthAll (ds.map encD) ≤ 40 ∧ PySem.W.AlikeAll (ds.map encD) := by
  unfold mmOk at h
  simp only [Bool.and_eq_true, List.all_eq_true, decide_eq_true_eq] at h
  obtain ⟨⟨⟨h1, h2⟩, h3⟩, h4⟩ := h
  refine ⟨h1, h2, fun x hx y hy => ?_, fun x hx e => ?_⟩
  · obtain ⟨d, hd, rfl⟩ := List.mem_map.mp hx
    obtain ⟨g, hg, rfl⟩ := List.mem_map.mp hy
    exact h3 d hd g hg
  · obtain ⟨d, hd, rfl⟩ := List.mem_map.mp hx
    have := h4 d hd
    rw [e] at this; cases this
theorem st_at : ∀ {ds : List D} {us : List Value} {i : Nat} {u : Value}, PySem.W.EachIs (StD K F wa H) us ds → us[i]? = some u → ∃ d, d ∈ ds ∧ StD K F wa H u d
  | _, _, _, _, .nil, e => by simp at e
  | _, _, 0, u, .cons h t, e => by simp at e; subst e; exact ⟨_, List.mem_cons_self, h⟩
  | _, _, i + 1, u, .cons h t, e => by
    obtain ⟨d, h1, h2⟩ := st_at (i := i) t (by simpa using e)
    exact ⟨d, List.mem_cons_of_mem _ h1, h2⟩
/-- the item that reads so is that one -/
theorem mm_pick {pins : List (Addr × Obj)} {σ : L2.St} {s : Shared} (I : Inv X pins σ H s) {ds : List D} {us : List Value} {i : Nat} {u : Value} {m : D} {h' : Heap} {bs : List Addr} (E : PySem.W.EachIs (StD (kwOf X) F wa H) us ds) (ok : mmOk ds = true) (hi : us[i]? = some u) (hk : ∀ b o, s.heap.get? b = some o → h'.get? b = some o) (hm : m ∈ ds) (hr : Reads h' u (encD m) bs) : ∃ v, RelV v u ∧ Rep (kwOf X) F wa H m v := by
  obtain ⟨o1, o2, o3⟩ := mmOk_of ok
  obtain ⟨d, hd, v, rv, rd⟩ := st_at E hi
  obtain ⟨as, r1⟩ := Dp.reads I _ v _ (dPy_ok d v _ (dPy_enc (o1 d hd)) rd) rv
  have r2 := PyProof.Rows.Reads.keeps hk r1
  have e := PySem.W.alike_unique _ _ u _ _ (o3.1 _ (List.mem_map.mpr ⟨d, hd, rfl⟩) _ (List.mem_map.mpr ⟨m, hm, rfl⟩)) r2 hr
  have e2 : d = m := dPy_inj d m (encD d) (dPy_enc (o1 d hd)) (by rw [e]; exact dPy_enc (o1 m hm))
  subst e2
  exact ⟨v, rv, rd⟩
theorem cr_minL (hc : X.calm = true) (hu : X.A.units + 64 < cLine) : CallR X (.builtin "min") (rMMD (kwOf X) minDD) := by
  intro pins s σ H vs us Q I r h
  obtain ⟨F, wa, a, xs, d, ds, rfl, hs, rr, ok, q⟩ := h
  obtain ⟨its, rv, hl', hz⟩ := I.list (.inl (.inl hs))
  rw [Vals.ref1 r]
  obtain ⟨o1, o2, o3⟩ := mmOk_of ok
  have E := each_st rv rr
  obtain ⟨as, ra⟩ := PySem.W.each_readsAll encD (each_rd I o1 E)
  refine PySem.W.min_list_data (I.ok.hd hc) hl'.isList ra o3 (by have e : PyData.depthAll (encD d :: ds.map encD) = PyData.depthAll ((d :: ds).map encD) := rfl; rw [e]; omega) fun i v h' tk bs hi hr hk => ?_
  rw [← minDD_enc] at hr
  obtain ⟨y, g1, g2⟩ := mm_pick I E ok (by simpa using hi) hk (minDD_mem ds d) hr
  exact ⟨y, H, I.kept hk, g1, q y g2⟩
theorem cr_maxL (hc : X.calm = true) (hu : X.A.units + 64 < cLine) : CallR X (.builtin "max") (rMMD (kwOf X) maxDD) := by
  intro pins s σ H vs us Q I r h
  obtain ⟨F, wa, a, xs, d, ds, rfl, hs, rr, ok, q⟩ := h
  obtain ⟨its, rv, hl', hz⟩ := I.list (.inl (.inl hs))
  rw [Vals.ref1 r]
  obtain ⟨o1, o2, o3⟩ := mmOk_of ok
  have E := each_st rv rr
  obtain ⟨as, ra⟩ := PySem.W.each_readsAll encD (each_rd I o1 E)
  refine PySem.W.max_list_data (I.ok.hd hc) hl'.isList ra o3 (by have e : PyData.depthAll (encD d :: ds.map encD) = PyData.depthAll ((d :: ds).map encD) := rfl; rw [e]; omega) fun i v h' tk bs hi hr hk => ?_
  rw [← maxDD_enc] at hr
  obtain ⟨y, g1, g2⟩ := mm_pick I E ok (by simpa using hi) hk (maxDD_mem ds d) hr
  exact ⟨y, H, I.kept hk, g1, q y g2⟩
theorem sMinL : CallS K (rMMD K minDD) dMinL := fun wa w F H ds d st vs wk fd c e Q q => by
  unfold dMinL at e
  split at e
  · split at e
    · rename_i hc
      cases e
      obtain ⟨v, rfl, a, us, e1, hh, rr⟩ := curs1 c
      subst e1
      exact ⟨F, wa, a, us, _, _, rfl, hh, rr, hc, fun y r => q.fz wk fd r⟩
    · cases e
  · cases e
theorem sMaxL : CallS K (rMMD K maxDD) dMaxL := fun wa w F H ds d st vs wk fd c e Q q => by
  unfold dMaxL at e
  split at e
  · split at e
    · rename_i hc
      cases e
      obtain ⟨v, rfl, a, us, e1, hh, rr⟩ := curs1 c
      subst e1
      exact ⟨F, wa, a, us, _, _, rfl, hh, rr, hc, fun y r => q.fz wk fd r⟩
    · cases e
  · cases e
/-! list(range(..)), tuple(range(..)) -/
def rgOk (a b : Int) : Bool := decide (-(2 ^ 62) ≤ a ∧ a < 2 ^ 62 ∧ -(2 ^ 62) ≤ b ∧ b < 2 ^ 62 ∧ (b - a).toNat ≤ 2 ^ 24)
def rgD (a b : Int) : List D := (List.range (b - a).toNat).map fun i => D.int (a + (i : Nat))
theorem rgD_reps {a b : Int} : Reps K F wa H (rgD a b) (rgV a b) := by
  have e : rgD a b = ((List.range (b - a).toNat).map fun (i : Nat) => a + (i : Nat)).map D.int := by unfold rgD; rw [List.map_map]; rfl
  have e2 : rgV a b = ((List.range (b - a).toNat).map fun (i : Nat) => a + (i : Nat)).map V.int := by unfold rgV; rw [List.map_map]; rfl
  rw [e, e2]
  exact Reps.ints
def rgOut (t : Bool) (a b : Int) : Option DS := if rgOk a b = true then some (if t then (.tup (rgD a b), .fz) else (.lst (rgD a b), .ow)) else none
def eRg1 (t : Bool) (f : EF) : EF := fun env w => (f env w).bind fun p => match p.1.1 with
  | .int n => (rgOut t 0 n).map fun d => (d, p.2)
  | _ => none
def eRg2 (t : Bool) (f g : EF) : EF := fun env w => (f env w).bind fun p => (g env p.2).bind fun q => match p.1.1, q.1.1 with
  | .int a, .int b => (rgOut t a b).map fun d => (d, q.2)
  | _, _ => none
def tTupRgF (te : L2.St → Hp → (Int → Int → Hp → Prop) → Prop) : TE := fun σ H Q => te σ H fun a b H1 => RgOk a b ∧ ∀ q u, H1 q = none → TupO u (rgV a b) → Q (.ref q) (upd H1 q u)
theorem pe_tupRgF {e : Expr} {te : L2.St → Hp → (Int → Int → Hp → Prop) → Prop} {p pos : Pos} (hc : X.calm = true) (hg : Gl X "tuple") (hm : X.mg "tuple" = none) (he : PRg X e te) (na : starEach [e] X.env = (false, eval e X.env) :: starEach [] X.env := by rfl) : PE X (.Call (.Name "tuple" p) [e] [] pos) (tTupRgF te) := by
  refine ⟨fun pins s σ H Q I h => ?_⟩
  refine Call_ (ld_blt I hg hm boot_tuple (PyProof.Rows.callWith_type1 (args_cons (thn (he pins s σ H _ I h) ?_) na) na))
  rintro _ s1 ⟨r, a, b, t, u, v, H1, rfl, hr, I1, ⟨b1, b2, b3, b4, b5⟩, q⟩
  refine args_nil ?_
  have hlen : (rgV a b).length ≤ sizeLine := Nat.le_trans (by rw [rgV_length]; exact b5) (by rw [sizeLine_eq]; decide)
  refine call_tuple_range (I1.ok.hd hc) hr (small_one b1 b2 b3 b4) (rangeSize_nat a b) b5 ?_
  intro h' tk acc hk hi
  have I2 : Inv X pins σ H1 { s1 with heap := h', toks := tk } := I1.kept hk
  have J := tup_laid (t' := tk) I2 (vals_rg hi) hlen
  rw [Array.toArray_toList] at J
  exact ⟨.ref h'.objs.size, _, J, rfl, q _ _ (I2.hok.fresh (Nat.le_refl _)) ⟨_, rfl, rfl, rfl⟩⟩
theorem rgOk_of {a b : Int} (h : rgOk a b = true) : RgOk a b := by
  have h' := of_decide_eq_true (show decide (-(2 ^ 62) ≤ a ∧ a < 2 ^ 62 ∧ -(2 ^ 62) ≤ b ∧ b < 2 ^ 62 ∧ (b - a).toNat ≤ 2 ^ 24) = true from h)
  exact h'
variable {e e1 : Expr} {f g : EF} {p p2 pos pos2 : Pos}
theorem e_rg1L (hc : X.calm = true) (hg : Gl X "list") (hm : X.mg "list" = none) (hg2 : Gl X "range") (hm2 : X.mg "range" = none) (he : Snd X e f) (na : starEach [e] X.env = (false, eval e X.env) :: starEach [] X.env := by rfl)
    (na2 : starEach [.Call (.Name "range" p2) [e] [] pos2] X.env = (false, eval (.Call (.Name "range" p2) [e] [] pos2) X.env) :: starEach [] X.env := by rfl) : Snd X (.Call (.Name "list" p) [.Call (.Name "range" p2) [e] [] pos2] [] pos) (eRg1 false f) := by
  refine pe_imp (pe_listRg hc hg hm (prg_1 hg2 hm2 he na) na2) fun σ H Q q => ?_
  obtain ⟨B, F, wa, w, env, S, d, st, w', hf, k⟩ := q
  unfold eRg1 at hf
  obtain ⟨⟨⟨d1, st1⟩, w1⟩, h1, h2⟩ := Option.bind_eq_some_iff.mp hf
  refine ⟨B, F, wa, w, env, S, d1, st1, w1, h1, fun v F1 H1 A1 r1 => ?_⟩
  dsimp only at h2
  split at h2
  · rename_i n
    obtain ⟨_, h3, h4⟩ := Option.map_eq_some_iff.mp h2
    unfold rgOut at h3
    split at h3
    · rename_i ok
      cases h3; cases h4
      exact ⟨n, r1.cur, rgOk_of ok, fun q hq => (Res.behind S A1 k).lst A1.wk A1.fd rgD_reps hq⟩
    · cases h3
  · cases h2
theorem e_rg1T (hc : X.calm = true) (hg : Gl X "tuple") (hm : X.mg "tuple" = none) (hg2 : Gl X "range") (hm2 : X.mg "range" = none) (he : Snd X e f) (na : starEach [e] X.env = (false, eval e X.env) :: starEach [] X.env := by rfl)
    (na2 : starEach [.Call (.Name "range" p2) [e] [] pos2] X.env = (false, eval (.Call (.Name "range" p2) [e] [] pos2) X.env) :: starEach [] X.env := by rfl) : Snd X (.Call (.Name "tuple" p) [.Call (.Name "range" p2) [e] [] pos2] [] pos) (eRg1 true f) := by
  refine pe_imp (pe_tupRgF hc hg hm (prg_1 hg2 hm2 he na) na2) fun σ H Q q => ?_
  obtain ⟨B, F, wa, w, env, S, d, st, w', hf, k⟩ := q
  unfold eRg1 at hf
  obtain ⟨⟨⟨d1, st1⟩, w1⟩, h1, h2⟩ := Option.bind_eq_some_iff.mp hf
  refine ⟨B, F, wa, w, env, S, d1, st1, w1, h1, fun v F1 H1 A1 r1 => ?_⟩
  dsimp only at h2
  split at h2
  · rename_i n
    obtain ⟨_, h3, h4⟩ := Option.map_eq_some_iff.mp h2
    unfold rgOut at h3
    split at h3
    · rename_i ok
      cases h3; cases h4
      exact ⟨n, r1.cur, rgOk_of ok, fun q u hq ht => (Res.behind S A1 k).tup A1.wk A1.fd rgD_reps hq ht⟩
    · cases h3
  · cases h2
theorem e_rg2L (hc : X.calm = true) (hg : Gl X "list") (hm : X.mg "list" = none) (hg2 : Gl X "range") (hm2 : X.mg "range" = none) (he : Snd X e f) (he2 : Snd X e1 g) (na : starEach [e, e1] X.env = (false, eval e X.env) :: starEach [e1] X.env := by rfl) (nb : starEach [e1] X.env = (false, eval e1 X.env) :: starEach [] X.env := by rfl)
    (na2 : starEach [.Call (.Name "range" p2) [e, e1] [] pos2] X.env = (false, eval (.Call (.Name "range" p2) [e, e1] [] pos2) X.env) :: starEach [] X.env := by rfl) (hp : (backTo pos2 (starEach [e1] X.env)).any (·.1) = false := by rfl) : Snd X (.Call (.Name "list" p) [.Call (.Name "range" p2) [e, e1] [] pos2] [] pos) (eRg2 false f g) := by
  refine pe_imp (pe_listRg hc hg hm (prg_2 hg2 hm2 he he2 na nb hp) na2) fun σ H Q q => ?_
  obtain ⟨B, F, wa, w, env, S, d, st, w', hf, k⟩ := q
  unfold eRg2 at hf
  obtain ⟨⟨⟨d1, st1⟩, w1⟩, h1, h2⟩ := Option.bind_eq_some_iff.mp hf
  obtain ⟨⟨⟨d2, st2⟩, w2⟩, h3, h4⟩ := Option.bind_eq_some_iff.mp h2
  refine ⟨B, F, wa, w, env, S, d1, st1, w1, h1, fun v F1 H1 A1 r1 => ?_⟩
  refine ⟨B, F1, wa, w1, env, S.aft A1, d2, st2, w2, h3, fun v2 F2 H2 A2 r2 => ?_⟩
  dsimp only at h4
  split at h4
  · rename_i i j
    obtain ⟨_, h5, h6⟩ := Option.map_eq_some_iff.mp h4
    unfold rgOut at h5
    split at h5
    · rename_i ok
      cases h5; cases h6
      exact ⟨i, j, r1.cur, r2.cur, rgOk_of ok, fun q hq => (Res.behind S (A1.trans A2) k).lst A2.wk A2.fd rgD_reps hq⟩
    · cases h5
  · cases h4
end
end Dl

set_option Elab.async false
set_option linter.all false
set_option maxRecDepth 100000
set_option maxHeartbeats 4000000
namespace Dl
open PySem PySem.Spec PyProof.Rows L2
/-! ### stores into dicts, {} with tuples for keys -/
def eDt0 : EF := fun _ w => some ((.dt [] [], .ow), w)
def putD (d kd x : D) : Option D := match d with
  | .dk ks ds => (keyD kd).bind fun k => if ks.length < lim then some (.dk (dPut ks ds k x).1 (dPut ks ds k x).2) else none
  | .dt ks ds => (tkD kd).bind fun j => if ks.length < lim then some (.dt (dtPut ks ds kd j x).1 (dtPut ks ds kd j x).2) else none
  | _ => none
def sPut (i : Nat) (fk fv : EF) : SB := fun env w => (eFz fv env w).bind fun p => (eFz fk env p.2).bind fun q => match env[i]? with
  | some (some (d, true)) => (putD d q.1.1 p.1.1).map fun d' => .nx (env.set i (some (d', true))) q.2
  | _ => none
theorem eFz_fz {f : EF} {env : En} {w w' : Option Wd} {d : D} {st : O3} (h : eFz f env w = some ((d, st), w')) : st = .fz := by
  unfold eFz at h
  obtain ⟨⟨⟨d3, st3⟩, w3⟩, h4, h5⟩ := Option.bind_eq_some_iff.mp h
  cases st3 <;> cases h5 <;> rfl
section
variable {X : Cx} {o i value : Expr} {fk fv : EF} {pos pos' : Pos} {td ty tv : TE}
theorem e_dt0 : Snd X (.Dict [] [] pos) eDt0 := by
  refine ⟨fun pins s σ H Q I q => ?_⟩
  obtain ⟨B, F, wa, w, env, S, d, st, w', hf, k⟩ := q
  cases hf
  have hp : H s.heap.objs.size = none := I.hok.fresh (Nat.le_refl _)
  have A := Aft.new0 (K := kwOf X) (o := DTO X.w s.heap.objs.size []) S.wk S.fd hp
  refine wpAny_Dict_empty ⟨.ref s.heap.objs.size, _, I.laid (a := s.heap.objs.size) (o := DTO X.w s.heap.objs.size []) (t' := s.toks) (fun _ _ q => Heap.get?_push_of_some _ q) (Nat.le_refl _) (dto_new (Heap.DictOfH.new s.heap) (beq_eq_false_iff_ne.mpr (Ne.symm (Nat.ne_of_lt I.big))) (Nat.zero_le _)), rfl, k _ F _ A ?_⟩
  exact ⟨_, rfl, ⟨fun z => S.fd _ z hp, S.wk.ne hp, _, upd_same, [], [], rfl, .nil, .nil, rfl, rfl⟩, hp⟩
def sPutT (X : Cx) (td ty tv : TE) : TS := fun D σ H => tv σ H fun v H1 => td σ H1 fun x H2 => ty σ H2 fun y H3 => (∃ a H4, x = .ref a ∧ DPut H3 a y v H4 ∧ D.nx σ H4) ∨
  ∃ F wa a ks xs kd j, x = .ref a ∧ H3 a = some (DTO X.w a xs) ∧ DtOk ks xs ∧ Reps (kwOf X) F wa H3 ks (dtV xs) ∧ Rep (kwOf X) F wa H3 kd y ∧ tkD kd = some j ∧ xs.length < sizeLine ∧ ∀ b u, y = .ref b → RelV v u → D.nx σ (upd H3 a (DTO X.w a (storedH xs j b u)))
theorem ps_put (hu : X.A.units + 64 < cLine) (ho : PE X o td) (hi : PE X i ty) (hv : PE X value tv) (hs : swapsWith value (some (.Subscript o i pos')) pos.line X.env = pure false) :
    PS X (.Assign [.Subscript o i pos'] value pos) (sPutT X td ty tv) := by
  refine ⟨fun pins s σ H D I h => ?_⟩
  refine wpAny_Assign_Subscript (thn (hv.run pins s σ H _ I h) fun r s1 ⟨v, H1, I1, rv, q1⟩ => thn (ho.run pins s1 σ H1 _ I1 q1) fun u s2 ⟨x, H2, I2, rx, q2⟩ => thn (hi.run pins s2 σ H2 _ I2 q2) fun iv s3 ⟨y, H3, I3, ry, q3⟩ => ?_) hs
  rcases q3 with ⟨a, H4, ex, g, q3⟩ | ⟨F, wa, a, ks, xs, kd, j, ex, hh, ok, rks, rk, hk, hl, q3⟩
  · subst ex
    obtain rfl : u = Value.ref a := rx
    exact d_setItem (by omega) I3 g ry rv fun s4 I4 => ⟨σ, H4, I4, q3⟩
  · subst ex
    obtain rfl : u = Value.ref a := rx
    obtain ⟨h1, h2, kds, rfl⟩ := tkD_of hk
    obtain ⟨b, ob, kvs, e2, _⟩ := id rk
    subst e2
    cases (show iv = Value.ref b from ry)
    obtain ⟨dd, hd, hl0⟩ := dt_of I3 hh ok rks
    refine wpAny_setItem_heap (hsz := hl0) (room8 hu) ⟨nis I3 _ _ _ _ rk rfl h1, h2⟩ dd fun h' dd' hs' => ?_
    have dd2 := dd'
    obtain ⟨q, es, ep, hq, _⟩ := dd2
    exact ⟨σ, _, d_write I3 (by rw [hh]; exact True.intro) hs' ⟨q, hq⟩ (dto_new dd' hd (Nat.le_trans (storedH_len _ _ _ _) hl)), q3 b r rfl rv⟩
theorem paired_len {α β : Type} {R : α → β → Prop} : ∀ {as : List α} {bs : List β}, Paired R as bs → as.length = bs.length
  | _, _, .nil => rfl
  | _, _, .cons _ t => by rw [List.length_cons, List.length_cons, paired_len t]
theorem s_put (j : Nat) {x : Pos} {nm : Str} (hu : X.A.units + 64 < cLine) (ho : PE X (.Name nm x) (tVar j)) (hi : Snd X i fk) (hv : Snd X value fv) (hs : swapsWith value (some (.Subscript (.Name nm x) i pos')) pos.line X.env = pure false := by rfl) :
    SndS X (.Assign [.Subscript (.Name nm x) i pos'] value pos) (sPut j fk fv) := by
  refine ps_imp (ps_put hu ho (e_fz hi) (e_fz hv) hs) fun Dn σ H q => ?_
  obtain ⟨B, F, wa, w, env, S, out, hf, k⟩ := q
  unfold sPut at hf
  obtain ⟨⟨⟨d1, st1⟩, w1⟩, h1, h2⟩ := Option.bind_eq_some_iff.mp hf
  obtain ⟨⟨⟨d2, st2⟩, w2⟩, h3, h4⟩ := Option.bind_eq_some_iff.mp h2
  cases eFz_fz h1
  cases eFz_fz h3
  refine ⟨B, F, wa, w, env, S, d1, .fz, w1, h1, fun v F1 H1 A1 r1 => ?_⟩
  have S1 := S.aft A1
  dsimp only at h4
  split at h4
  · rename_i d hd
    obtain ⟨d', h5, h6⟩ := Option.map_eq_some_iff.mp h4
    cases h6
    obtain ⟨a, g1, og, nb⟩ := S1.ow j _ hd
    refine ⟨.ref a, g1, ?_⟩
    refine ⟨B, F1, wa, w1, env, S1, d2, .fz, _, h3, fun y F2 H2 A2 r2 => ?_⟩
    have S2 := S1.aft A2
    have r1' := A2.rep r1
    obtain ⟨_, _, ob, hh, oo⟩ := og.aft A2
    unfold putD at h5
    split at h5
    · rename_i ks ds
      obtain ⟨ke, h7, h8⟩ := Option.bind_eq_some_iff.mp h5
      split at h8
      · rename_i hz
        cases h8
        obtain ⟨vs, e1, l1, rr⟩ := oo
        subst e1
        have ey := keyD_ok h7 (Rep.cur r2)
        subst ey
        obtain ⟨us1, l2, rr1, m1⟩ := dPut_ok (k := ke) r1' l1 rr
        refine .inl ⟨a, _, rfl, DPut.k (k := ke) hh ?_, ?_⟩
        · rw [List.length_zip, ← l1, Nat.min_self]
          exact Nat.lt_of_lt_of_le hz (line16 (Nat.le_refl _))
        · rw [m1]
          obtain ⟨A3, S3⟩ := S2.write (d' := .dk (dPut ks ds ke d1).1 (dPut ks ds ke d1).2) (o := .dK ((dPut ks ds ke d1).1.zip us1)) hd g1 ⟨us1, rfl, l2, rr1⟩
          exact k _ F2 _ (((A1.trans A2).toS S.bd).trans A3) S3
      · cases h8
    · rename_i ks ds
      obtain ⟨jk, h7, h8⟩ := Option.bind_eq_some_iff.mp h5
      split at h8
      · rename_i hz
        cases h8
        obtain ⟨xs, vs, e1, ok, rvs, rks, rds⟩ := oo
        subst e1
        have hln := paired_len ok
        obtain ⟨p1, p2, kds, rfl⟩ := tkD_of h7
        refine .inr ⟨F2, wa, a, ks, xs, _, jk, rfl, hh, ok, rks, r2, h7, ?_, fun b u ey rv => ?_⟩
        · rw [← hln]; exact Nat.lt_of_lt_of_le hz (line16 (Nat.le_refl _))
        · subst ey
          obtain ⟨vs', q1, q2, q3, q4⟩ := dtPut_ok p1 p2 r2 r1' rv ok rvs rks rds
          obtain ⟨A3, S3⟩ := S2.write (d' := .dt (dtPut ks ds (.tup kds) jk d1).1 (dtPut ks ds (.tup kds) jk d1).2) (o := DTO X.w a (storedH xs jk b u)) hd g1 ⟨_, vs', rfl, q1, q2, q3, q4⟩
          exact k _ F2 _ (((A1.trans A2).toS S.bd).trans A3) S3
      · cases h8
    · cases h5
  · cases h4
end
end Dl

set_option Elab.async false
set_option linter.all false
set_option maxRecDepth 100000
set_option maxHeartbeats 4000000
namespace Dl
open PySem PySem.Spec PyProof.Rows L2
/-! rows for the newer operations -/
section
variable {env r : En} {w : Option Wd} {f g : EF} {i : Nat}
@[simp] theorem eDt0_q : eDt0 env w = some ((.dt [] [], .ow), w) := rfl
def rg1K (t : Bool) (p : DS × Option Wd) : Option (DS × Option Wd) := match p.1.1 with
  | .int n => (rgOut t 0 n).map fun d => (d, p.2)
  | _ => none
@[simp] theorem rg1K_q {t : Bool} {n : Int} {s : O3} : rg1K t ((.int n, s), w) = bnd (rgOut t 0 n) (pairK w) := map_pair
@[simp] theorem eRg1_q {t : Bool} : eRg1 t f env w = bnd (f env w) (rg1K t) := rfl
def rg2K2 (t : Bool) (a : D) (q : DS × Option Wd) : Option (DS × Option Wd) := match a, q.1.1 with
  | .int a, .int b => (rgOut t a b).map fun d => (d, q.2)
  | _, _ => none
@[simp] theorem rg2K2_q {t : Bool} {a b : Int} {s : O3} : rg2K2 t (.int a) ((.int b, s), w) = bnd (rgOut t a b) (pairK w) := map_pair
def rg2K1 (t : Bool) (g : EF) (env : En) (p : DS × Option Wd) : Option (DS × Option Wd) := bnd (g env p.2) (rg2K2 t p.1.1)
@[simp] theorem rg2K1_q {t : Bool} {a : D} {s : O3} : rg2K1 t g env ((a, s), w) = bnd (g env w) (rg2K2 t a) := rfl
@[simp] theorem eRg2_q {t : Bool} : eRg2 t f g env w = bnd (f env w) (rg2K1 t g env) := rfl
theorem rgOut_t {a b : Int} (h1 : -1000000 ≤ a) (h2 : a ≤ 1000000) (h3 : -1000000 ≤ b) (h4 : b ≤ 1000000) : rgOut true a b = some (.tup (rgD a b), .fz) := by
  have h : rgOk a b = true := decide_eq_true (by omega)
  unfold rgOut
  rw [if_pos h]; rfl
theorem rgOut_l {a b : Int} (h1 : -1000000 ≤ a) (h2 : a ≤ 1000000) (h3 : -1000000 ≤ b) (h4 : b ≤ 1000000) : rgOut false a b = some (.lst (rgD a b), .ow) := by
  have h : rgOk a b = true := decide_eq_true (by omega)
  unfold rgOut
  rw [if_pos h]; rfl
def putK3 (env : En) (i : Nat) (x kd : D) (w : Option Wd) : Option Out := match env[i]? with
  | some (some (d, true)) => (putD d kd x).map fun d' => .nx (env.set i (some (d', true))) w
  | _ => none
theorem putK3_q {x kd d d' : D} (h : env[i]? = some (some (d, true))) (h2 : putD d kd x = some d') : putK3 env i x kd w = some (.nx (env.set i (some (d', true))) w) := by
  unfold putK3; rw [h]; show (putD d kd x).map _ = _; rw [h2]; rfl
def putK2 (env : En) (i : Nat) (x : D) (q : DS × Option Wd) : Option Out := putK3 env i x q.1.1 q.2
@[simp] theorem putK2_q {x y : D} {s : O3} : putK2 env i x ((y, s), w) = putK3 env i x y w := rfl
def putK1 (fk : EF) (env : En) (i : Nat) (p : DS × Option Wd) : Option Out := bnd (eFz fk env p.2) (putK2 env i p.1.1)
@[simp] theorem putK1_q {fk : EF} {x : D} {s : O3} : putK1 fk env i ((x, s), w) = bnd (eFz fk env w) (putK2 env i x) := rfl
@[simp] theorem sPut_q {fk fv : EF} : sPut i fk fv env w = bnd (eFz fv env w) (putK1 fk env i) := rfl
end
section
variable {X : Cx} {a b c : Expr} {fa fb fc : EF} {pos : Pos}
theorem tChain_of {K : KW} {r r' : R2} {g g' : D → D → Option DS} (hg : OpS K r g) (hg' : OpS K r' g') {σ : L2.St} {H : Hp} {Q : VK} (q : rd K (eCh g g' fa fb fc) σ H Q) : tChain r r' (rd K fa) (rd K fb) (rd K fc) σ H Q := by
  obtain ⟨B, F, wa, w, env, S, d, st, w', hf, k⟩ := q
  unfold eCh at hf
  obtain ⟨⟨⟨d1, st1⟩, w1⟩, h1, h2⟩ := Option.bind_eq_some_iff.mp hf
  obtain ⟨⟨⟨d2, st2⟩, w2⟩, h3, h4⟩ := Option.bind_eq_some_iff.mp h2
  obtain ⟨⟨d3, st3⟩, h5, h6⟩ := Option.bind_eq_some_iff.mp h4
  refine ⟨B, F, wa, w, env, S, d1, st1, w1, h1, fun v1 F1 H1 A1 r1 => ?_⟩
  refine ⟨B, F1, wa, w1, env, S.aft A1, d2, st2, w2, h3, fun v2 F2 H2 A2 r2 => ?_⟩
  refine hg wa _ F2 H2 d1 d2 d3 st3 v1 v2 A2.wk A2.fd (r1.aft A2).cur r2.cur h5 _ fun v3 F3 H3 A3 r3 => ?_
  dsimp only at h6
  split at h6
  · rename_i e
    cases e
    refine ⟨true, RS.cur r3, ?_⟩
    rw [if_pos rfl]
    obtain ⟨⟨⟨d4, st4⟩, w4⟩, h7, h8⟩ := Option.bind_eq_some_iff.mp h6
    obtain ⟨⟨d5, st5⟩, h9, h10⟩ := Option.map_eq_some_iff.mp h8
    cases h10
    refine ⟨B, F3, wa, w2, env, ((S.aft A1).aft A2).aft A3, d4, st4, _, h7, fun v4 F4 H4 A4 r4 => ?_⟩
    exact hg' wa _ F4 H4 d2 d4 d st v2 v4 A4.wk A4.fd ((r2.aft A3).aft A4).cur r4.cur h9 Q (Res.behind S (((A1.trans A2).trans A3).trans A4) k)
  · rename_i e
    cases e
    cases h6
    refine ⟨false, RS.cur r3, ?_⟩
    rw [if_neg (by simp)]
    exact k _ F3 H3 ((A1.trans A2).trans A3) rfl
  · cases h6
theorem e_ch {op op' : CmpOp} {r r' : R2} {g g' : D → D → Option DS} (ho : OpR X (compareOp op) r) (hg : OpS (kwOf X) r g) (ho' : OpR X (compareOp op') r') (hg' : OpS (kwOf X) r' g') (ha : Snd X a fa) (hb : Snd X b fb) (hc : Snd X c fc)
    (hm : lastMarks [op, op'] [b, c] = false := by with_unfolding_all rfl) : Snd X (.Compare a [op, op'] [b, c] pos) (eCh g g' fa fb fc) := pe_imp (pe_chain ho ho' ha hb hc hm) fun _ _ _ q => tChain_of hg hg' q
theorem t_ch {op op' : CmpOp} {r r' : R2} {g g' : D → D → Option DS} (ho : OpR X (compareOp op) r) (hg : OpS (kwOf X) r g) (ho' : OpR X (compareOp op') r') (hg' : OpS (kwOf X) r' g') (ha : Snd X a fa) (hb : Snd X b fb) (hc : Snd X c fc)
    (hm : lastMarks [op, op'] [b, c] = false := by with_unfolding_all rfl) : SndT X (.Compare a [op, op'] [b, c] pos) (tVal (eCh g g' fa fb fc)) := by
  refine pt_imp (pt_chain ho ho' ha hb hc hm) fun σ H Q q => ?_
  refine tChain_of hg hg' ?_
  obtain ⟨B, F, wa, w, env, S, b, w', hf, k⟩ := q
  unfold tVal at hf
  obtain ⟨⟨⟨d1, st1⟩, w1⟩, h1, h2⟩ := Option.bind_eq_some_iff.mp hf
  refine ⟨B, F, wa, w, env, S, d1, st1, w1, h1, fun v F' H' A r => ?_⟩
  cases d1 with
  | bl c => cases h2; exact ⟨b, RS.cur r, k F' H' A⟩
  | _ => cases h2
def chK3 (g' : D → D → Option DS) (y : D) (p : DS × Option Wd) : Option (DS × Option Wd) := bnd (g' y p.1.1) (pairK p.2)
@[simp] theorem chK3_q {g' : D → D → Option DS} {y z : D} {s : O3} {w : Option Wd} : chK3 g' y ((z, s), w) = bnd (g' y z) (pairK w) := rfl
def chK4 (g' : D → D → Option DS) (f3 : EF) (env : En) (y : D) (w : Option Wd) (r : DS) : Option (DS × Option Wd) := match r with
  | (.bl true, _) => bnd (f3 env w) (chK3 g' y)
  | (.bl false, _) => some ((.bl false, .fz), w)
  | _ => none
section
variable {g g' : D → D → Option DS} {f1 f2 f3 : EF} {env : En} {x y : D} {s : O3} {w : Option Wd}
@[simp] theorem chK4_t : chK4 g' f3 env y w (.bl true, s) = bnd (f3 env w) (chK3 g' y) := rfl
@[simp] theorem chK4_f : chK4 g' f3 env y w (.bl false, s) = some ((.bl false, .fz), w) := rfl
def chK2 (g g' : D → D → Option DS) (f3 : EF) (env : En) (x : D) (q : DS × Option Wd) : Option (DS × Option Wd) := bnd (g x q.1.1) (chK4 g' f3 env q.1.1 q.2)
@[simp] theorem chK2_q : chK2 g g' f3 env x ((y, s), w) = bnd (g x y) (chK4 g' f3 env y w) := rfl
def chK1 (g g' : D → D → Option DS) (f2 f3 : EF) (env : En) (p : DS × Option Wd) : Option (DS × Option Wd) := bnd (f2 env p.2) (chK2 g g' f3 env p.1.1)
@[simp] theorem chK1_q : chK1 g g' f2 f3 env ((x, s), w) = bnd (f2 env w) (chK2 g g' f3 env x) := rfl
@[simp] theorem eCh_q : eCh g g' f1 f2 f3 env w = bnd (f1 env w) (chK1 g g' f2 f3 env) := by
  show (f1 env w).bind _ = (f1 env w).bind _
  refine congrArg (Option.bind _) (funext fun p => ?_)
  show (f2 env p.2).bind _ = (f2 env p.2).bind _
  refine congrArg (Option.bind _) (funext fun q => ?_)
  show (g p.1.1 q.1.1).bind _ = (g p.1.1 q.1.1).bind _
  refine congrArg (Option.bind _) (funext fun r => ?_)
  obtain ⟨d, st⟩ := r
  cases d with
  | bl b => cases b with
    | true =>
      show (f3 env q.2).bind (fun s => (g' q.1.1 s.1.1).map fun t => (t, s.2)) = (f3 env q.2).bind _
      refine congrArg (Option.bind _) (funext fun s => map_pair)
    | false => rfl
  | _ => rfl
end
end
end Dl

set_option Elab.async false
set_option linter.all false
set_option maxRecDepth 100000
set_option maxHeartbeats 4000000
namespace Kk64
open PySem PySem.Spec PyProof.Rows L2 Dl
/-! ### the defs as forms -/
def b__law_draws : SB := (sSeq (sSet 2 (eLst aNil)) (sSeq (sSet 3 (eC (.int 7))) (sSeq (sFor (setN 4) (iRange (aCons (eA dLen (aCons (eVar 0) aNil)) aNil)) (sSeq (sSet 5 (eA dAbs (aCons (eA dInt (aCons (eOp dIx (eVar 0) (eVar 4)) aNil)) aNil))) (sSeq (sSet 3 (eOp dMod (eA dInt (aCons (eOp dAdd (eOp dAdd (eOp dMul (eVar 3) (eC (.int 48271))) (eOp dMod (eVar 5) (eC (.int 1000003)))) (eVar 4)) aNil)) (eC (.int 65537)))) (sSeq (sSet 6 (eC (.int 0))) (sSeq (sIf (tVal (eOp dGe (eVar 5) (eOp dPow (eC (.int 10)) (eC (.int 18))))) (sSet 6 (eVar 5)) (sSeq (sApp 2 (eOp dMod (eA dInt (aCons (eVar 5) aNil)) (eC (.int 997)))) (sApp 2 (eOp dMod (eOp dMod (eA dInt (aCons (eOp dAdd (eOp dMul (eVar 3) (eC (.int 69621))) (eC (.int 5))) aNil)) (eC (.int 65521))) (eC (.int 997)))))) (sFor (setN 7) (iRange (aCons (eC (.int 60)) aNil)) (sIf (tVal (eOp dGt (eVar 6) (eC (.int 0)))) (sSeq (sApp 2 (eOp dMod (eA dInt (aCons (eVar 6) aNil)) (eC (.int 997)))) (sSet 6 (eOp dFdiv (eVar 6) (eC (.int 997))))) (sNil)))))))) (sSeq (sFor (setN 4) (iRange (aCons (eVar 1) aNil)) (sSeq (sSet 3 (eOp dMod (eA dInt (aCons (eOp dAdd (eOp dAdd (eOp dMul (eVar 3) (eC (.int 16807))) (eVar 4)) (eC (.int 1))) aNil)) (eC (.int 65537)))) (sApp 2 (eOp dMod (eA dInt (aCons (eVar 3) aNil)) (eC (.int 997)))))) (sRet (eSl dSl (eVar 2) oNone (oSome (eVar 1))))))))
def f__law_draws : Fn := runFn 8 2 (b__law_draws)
def b__law_least : SB := (sSeq (sPar 2 3 (aCons (eDt0) (aCons (eLst (aCons (eFz (eTup aNil)) aNil)) aNil))) (sSeq (sFor (setN 4) (iSeq (eFz (eVar 1))) (sSet 3 (eOp dAdd (eVar 3) (eLC [5] (setN 5) (iSeq (eVar 3)) tYesD (eOp dAdd (eVar 5) (eTup (aCons (eFz (eVar 4)) aNil))))))) (sSeq (sFor (setT [6, 5]) (iSeq (eFz (eA dSrt (aCons (eLC [5] (setN 5) (iSeq (eVar 3)) tYesD (eTup (aCons (eFz (eA dLen (aCons (eVar 5) aNil))) (aCons (eFz (eVar 5)) aNil)))) aNil)))) (sSeq (sSet 7 (eIf (tVal (eOp dLt (eVar 6) (eC (.int 2)))) (eLst (aCons (eFz (eC (.int 0))) aNil)) (eLst aNil))) (sSeq (sFor (setN 8) (iSeq (eFz (eVar 5))) (sSeq (sSet 9 (eA dTuple (aCons (eLC [4] (setN 4) (iSeq (eVar 5)) (tVal (eOp (dInG false) (eVar 4) (eOp dIxG (eVar 0) (eVar 8)))) (eVar 4)) aNil))) (sSeq (sSet 10 (eA dTuple (aCons (eLC [4] (setN 4) (iSeq (eVar 5)) (tVal (eOp (dInG true) (eVar 4) (eOp dIxG (eVar 0) (eVar 8)))) (eVar 4)) aNil))) (sSet 7 (eOp dAdd (eVar 7) (eIf ((tAn (tVal (eOp dNe (eVar 9) (eTup aNil))) (tVal (eOp dNe (eVar 10) (eTup aNil))))) (eLst (aCons (eFz (eOp dAdd (eC (.int 1)) (eA dMax2 (aCons (eOp dIxG (eVar 2) (eVar 9)) (aCons (eOp dIxG (eVar 2) (eVar 10)) aNil))))) aNil)) (eLst aNil))))))) (sPut 2 (eVar 5) (eA dMinL (aCons (eVar 7) aNil)))))) (sRet (eOp dIxG (eVar 2) (eA dTuple (aCons (eVar 1) aNil)))))))
def f__law_least : Fn := runFn 11 2 (b__law_least)
def b_asks_in_row : SB := (sSeq (sSet 1 (eC (.int 0))) (sSeq (sWhile (tVal (eOp dLt (eOp dShl (eC (.int 1)) (eVar 1)) (eVar 0))) (sAug 1 dAddI (eC (.int 1))) 100000) (sRet (eVar 1))))
def f_asks_in_row : Fn := runFn 2 1 (b_asks_in_row)
def b__law_alike (f__law_alike : Fn) : SB := (sSeq (sIf (tTru (eA dIsi (aCons (eVar 1) (aCons (eC (.ty "tuple")) aNil)))) (sSeq (sIf ((tOrr (tNo (tTru (eA dIsi (aCons (eVar 0) (aCons (eC (.ty "tuple")) aNil))))) (tVal (eOp dNe (eA dLen (aCons (eVar 0) aNil)) (eA dLen (aCons (eVar 1) aNil)))))) (sRet (eC (.bl false))) (sNil)) (sRet (eOp dEq (eLC [2] (setN 2) (iRange (aCons (eA dLen (aCons (eVar 1) aNil)) aNil)) (tNo (tTru (eCall f__law_alike (aCons (eFz (eOp dIx (eVar 0) (eVar 2))) (aCons (eFz (eOp dIx (eVar 1) (eVar 2))) aNil))))) (eVar 2)) (eLst aNil)))) (sNil)) (sSeq (sIf (tVal (eOp (dIs false) (eVar 1) (eC .non))) (sRet (eOp (dIs false) (eVar 0) (eC .non))) (sNil)) (sSeq (sIf (tTru (eA dIsi (aCons (eVar 1) (aCons (eC (.ty "bool")) aNil)))) (sRet ((eAnd (eA dIsi (aCons (eVar 0) (aCons (eC (.ty "bool")) aNil))) (eOp dEq (eVar 0) (eVar 1))))) (sNil)) (sSeq (sIf (tTru (eA dIsi (aCons (eVar 1) (aCons (eC (.ty "int")) aNil)))) (sRet ((eAnd (eA dIsi (aCons (eVar 0) (aCons (eC (.ty "int")) aNil))) (eAnd (eNot (eA dIsi (aCons (eVar 0) (aCons (eC (.ty "bool")) aNil)))) (eOp dEq (eVar 0) (eVar 1)))))) (sNil)) (sRet ((eAnd (eA dIsi (aCons (eVar 0) (aCons (eC (.ty "str")) aNil))) (eOp dEq (eVar 0) (eVar 1)))))))))
def f__law_alike : Nat → Fn
  | 0 => fun _ _ => none
  | k + 1 => runFn 3 2 (b__law_alike (f__law_alike k))
def b_row_of : SB := (sRet (eA dTuple (aCons (eLC [1] (setN 1) (iRange (aCons (eVar 0) aNil)) tYesD (eIf (tVal (eOp dGt (eVar 1) (eC (.int 0)))) (eTup (aCons (eFz (eOp dSub (eVar 1) (eC (.int 1)))) aNil)) (eTup aNil))) aNil)))
def f_row_of : Fn := runFn 2 1 (b_row_of)
def b_made_of : SB := (sSeq (sSet 2 (eLst (aCons (eFz (eVar 1)) aNil))) (sSeq (sSet 3 (eC (.int 0))) (sSeq (sWhile (tVal (eOp dLt (eVar 3) (eA dLen (aCons (eVar 2) aNil)))) (sSeq (sExt 2 (eLC [4] (setN 4) (iSeq (eOp dIx (eVar 0) (eOp dIx (eVar 2) (eVar 3)))) (tVal (eOp (dInG true) (eVar 4) (eVar 2))) (eVar 4))) (sAug 3 dAddI (eC (.int 1)))) 100000) (sRet (eA dTuple (aCons (eA dSrt (aCons (eVar 2) aNil)) aNil))))))
def f_made_of : Fn := runFn 5 2 (b_made_of)
def b_split_by (f_made_of : Fn) : SB := (sSeq (sSet 3 (eCall f_made_of (aCons (eFz (eVar 0)) (aCons (eFz (eVar 2)) aNil)))) (sRet (eA dLen (aCons (eLC [4] (setN 4) (iSeq (eVar 1)) (tVal (eOp (dInG false) (eVar 4) (eVar 3))) (eVar 4)) aNil))))
def f_split_by : Fn := runFn 5 3 (b_split_by f_made_of)
def b_best_ask (f_split_by : Fn) : SB := (sSeq (sSet 3 (eLst aNil)) (sSeq (sFor (setN 4) (iSeq (eFz (eVar 1))) (sSeq (sSet 5 (eCall f_split_by (aCons (eFz (eVar 0)) (aCons (eFz (eVar 1)) (aCons (eFz (eVar 4)) aNil))))) (sIf ((tAn (tVal (eOp (dInG true) (eVar 4) (eVar 2))) (tVal (eCh dLt dLt (eC (.int 0)) (eVar 5) (eA dLen (aCons (eVar 1) aNil)))))) (sApp 3 (eTup (aCons (eFz (eUn dNeg (eA dMin2 (aCons (eVar 5) (aCons (eOp dSub (eA dLen (aCons (eVar 1) aNil)) (eVar 5)) aNil))))) (aCons (eFz (eVar 4)) aNil)))) (sNil)))) (sRet (eIf (tVal (eOp dNe (eVar 3) (eLst aNil))) (eOp dIx (eA dMinL (aCons (eVar 3) aNil)) (eC (.int 1))) (eC .non)))))
def f_best_ask : Fn := runFn 6 3 (b_best_ask f_split_by)
def b_left_by (f_made_of : Fn) : SB := (sSeq (sSet 4 (eCall f_made_of (aCons (eFz (eVar 0)) (aCons (eFz (eVar 2)) aNil)))) (sRet (eA dTuple (aCons (eLC [5] (setN 5) (iSeq (eVar 1)) (tVal (eOp dEq (eOp (dInG false) (eVar 5) (eVar 4)) (eVar 3))) (eVar 5)) aNil))))
def f_left_by : Fn := runFn 6 4 (b_left_by f_made_of)
def b_asks_for (f_best_ask : Fn) (f_made_of : Fn) (f_left_by : Fn) : SB := (sSeq (sSet 4 (eLst aNil)) (sSeq (sFrz [1] (sSet 5 (eCall f_best_ask (aCons (eFz (eVar 0)) (aCons (eFz (eVar 1)) (aCons (eFz (eVar 2)) aNil)))))) (sSeq (sWhile (tVal (eOp (dIs true) (eVar 5) (eC .non))) (sSeq (sFrz [5] (sApp 4 (eVar 5))) (sSeq (sFrz [1, 5] (sSet 1 (eCall f_left_by (aCons (eFz (eVar 0)) (aCons (eFz (eVar 1)) (aCons (eFz (eVar 5)) (aCons (eFz (eOp (dInG false) (eVar 3) (eCall f_made_of (aCons (eFz (eVar 0)) (aCons (eFz (eVar 5)) aNil))))) aNil))))))) (sFrz [1] (sSet 5 (eCall f_best_ask (aCons (eFz (eVar 0)) (aCons (eFz (eVar 1)) (aCons (eFz (eVar 2)) aNil)))))))) 100000) (sFrz [1] (sRet (eTup (aCons (eFz (eA dTuple (aCons (eVar 4) aNil))) (aCons (eFz (eVar 1)) aNil))))))))
def f_asks_for : Fn := runFn 6 4 (b_asks_for f_best_ask f_made_of f_left_by)
def b_least_asks (f_least_asks : Fn) (f_left_by : Fn) : SB := (sSeq (sIf (tVal (eOp dLt (eA dLen (aCons (eVar 1) aNil)) (eC (.int 2)))) (sRet (eC (.int 0))) (sNil)) (sSeq (sSet 2 (eLst aNil)) (sSeq (sFor (setN 3) (iSeq (eFz (eVar 1))) (sSeq (sSet 4 (eCall f_left_by (aCons (eFz (eVar 0)) (aCons (eFz (eVar 1)) (aCons (eFz (eVar 3)) (aCons (eFz (eC (.bl true))) aNil)))))) (sSeq (sSet 5 (eCall f_left_by (aCons (eFz (eVar 0)) (aCons (eFz (eVar 1)) (aCons (eFz (eVar 3)) (aCons (eFz (eC (.bl false))) aNil)))))) (sIf ((tAn (tVal (eOp dNe (eVar 4) (eTup aNil))) (tVal (eOp dNe (eVar 5) (eTup aNil))))) (sFrz [4, 5] (sApp 2 (eOp dAdd (eC (.int 1)) (eA dMax2 (aCons (eCall f_least_asks (aCons (eFz (eVar 0)) (aCons (eFz (eVar 4)) aNil))) (aCons (eCall f_least_asks (aCons (eFz (eVar 0)) (aCons (eFz (eVar 5)) aNil))) aNil)))))) (sNil))))) (sRet (eA dMinL (aCons (eVar 2) aNil))))))
def f_least_asks : Nat → Fn
  | 0 => fun _ _ => none
  | k + 1 => runFn 6 2 (b_least_asks (f_least_asks k) f_left_by)
def b_most_asks (f_asks_for : Fn) : SB := (sRet (eA dMaxL (aCons (eLC [3] (setN 3) (iSeq (eVar 1)) tYesD (eA dLen (aCons (eOp dIx (eCall f_asks_for (aCons (eFz (eVar 0)) (aCons (eFz (eVar 1)) (aCons (eFz (eVar 2)) (aCons (eFz (eVar 3)) aNil))))) (eC (.int 0))) aNil))) aNil)))
def f_most_asks : Fn := runFn 4 3 (b_most_asks f_asks_for)
def b_suspects (f_made_of : Fn) : SB := (sSeq (sSet 3 (eCall f_made_of (aCons (eFz (eVar 0)) (aCons (eFz (eOp dIx (eVar 2) (eC (.int 0)))) aNil)))) (sSeq (sFor (setN 4) (iSeq (eFz (eSl dSl (eVar 2) (oSome (eC (.int 1))) oNone))) (sSet 3 (eLC [5] (setN 5) (iSeq (eVar 3)) (tVal (eOp (dInG false) (eVar 5) (eCall f_made_of (aCons (eFz (eVar 0)) (aCons (eFz (eVar 4)) aNil))))) (eVar 5)))) (sSeq (sFor (setN 4) (iSeq (eFz (eVar 1))) (sSet 3 (eLC [5] (setN 5) (iSeq (eVar 3)) (tVal (eOp (dInG true) (eVar 5) (eCall f_made_of (aCons (eFz (eVar 0)) (aCons (eFz (eVar 4)) aNil))))) (eVar 5)))) (sRet (eA dTuple (aCons (eVar 3) aNil))))))
def f_suspects : Fn := runFn 6 3 (b_suspects f_made_of)
def b__law_next : SB := (sSeq (sTick 0) (sSeq (sIf (tVal (eOp dGt (eWget 0 true) (eA dLen (aCons (eWget 0 false) aNil)))) (sRet (eC (.int 0))) (sNil)) (sRet (eOp dMod (eA dInt (aCons (eOp dIx (eWget 0 false) (eOp dSub (eWget 0 true) (eC (.int 1)))) aNil)) (eVar 1)))))
def f__law_next : Fn := runFn 2 2 (b__law_next)
def b__law_pick (f__law_next : Fn) : SB := (sRet (eOp dIx (eVar 1) (eCall f__law_next (aCons (eFz (eVar 0)) (aCons (eFz (eA dLen (aCons (eVar 1) aNil))) aNil)))))
def f__law_pick : Fn := runFn 2 2 (b__law_pick f__law_next)
def b__law_made : SB := (sSeq (sUnp (setT [2, 3]) (eTup (aCons (eFz (eLst (aCons (eFz (eVar 1)) aNil))) (aCons (eFz (eC (.int 0))) aNil)))) (sSeq (sWhile (tVal (eOp dLt (eVar 3) (eA dLen (aCons (eVar 2) aNil)))) (sUnp (setT [2, 3]) (eTup (aCons (eFz (eOp dAdd (eVar 2) (eLC [4] (setN 4) (iSeq (eOp dIx (eVar 0) (eOp dIx (eVar 2) (eVar 3)))) (tVal (eOp (dInG true) (eVar 4) (eVar 2))) (eVar 4)))) (aCons (eFz (eOp dAdd (eVar 3) (eC (.int 1)))) aNil)))) 100000) (sRet (eVar 2))))
def f__law_made : Fn := runFn 5 2 (b__law_made)
def b__law_versions (f__law_next : Fn) : SB := (sSeq (sSet 1 (eLst aNil)) (sSeq (sFor (setN 2) (iRange (aCons (eOp dAdd (eC (.int 1)) (eCall f__law_next (aCons (eFz (eVar 0)) (aCons (eFz (eC (.int 7))) aNil)))) aNil)) (sSeq (sSet 3 (eLC [4] (setN 4) (iRange (aCons (eVar 2) aNil)) (tVal (eOp dEq (eCall f__law_next (aCons (eFz (eVar 0)) (aCons (eFz (eC (.int 3))) aNil))) (eC (.int 0)))) (eVar 4))) (sApp 1 (eA dTuple (aCons (eIf ((tOrr (tVal (eOp dNe (eVar 3) (eLst aNil))) (tVal (eOp dEq (eCall f__law_next (aCons (eFz (eVar 0)) (aCons (eFz (eC (.int 4))) aNil))) (eC (.int 0)))))) (eVar 3) (eRg2 false (eA dMax2 (aCons (eC (.int 0)) (aCons (eOp dSub (eVar 2) (eC (.int 1))) aNil))) (eVar 2))) aNil))))) (sRet (eA dTuple (aCons (eVar 1) aNil)))))
def f__law_versions : Fn := runFn 5 1 (b__law_versions f__law_next)
def b_law (f__law_least : Fn) (f_asks_in_row : Fn) (f__law_alike : Fn) (f_row_of : Fn) (f_asks_for : Fn) (f_best_ask : Fn) (f_least_asks : Fn) (f_most_asks : Fn) (f_suspects : Fn) (f__law_pick : Fn) (f__law_next : Fn) (f__law_made : Fn) (f__law_versions : Fn) : SB := (sSeq (sFor (setN 2) (iRange (aCons (eC (.int 5)) aNil)) (sSeq (sFrz [1] (sSet 3 (eCall f__law_versions (aCons (eFz (eVar 1)) aNil)))) (sSeq (sSet 4 (eA dLen (aCons (eVar 3) aNil))) (sSeq (sFrz [3] (sSet 5 (eLC [16] (setN 16) (iRange (aCons (eVar 4) aNil)) tYesD (eCall f__law_made (aCons (eFz (eVar 3)) (aCons (eFz (eVar 16)) aNil)))))) (sSeq (sFrz [1] (sSet 6 (eCall f__law_next (aCons (eFz (eVar 1)) (aCons (eFz (eVar 4)) aNil))))) (sSeq (sFrz [1] (sSet 7 (eLC [16] (setN 16) (iRange (aCons (eVar 4) aNil)) (tVal (eOp dEq (eCall f__law_next (aCons (eFz (eVar 1)) (aCons (eFz (eC (.int 3))) aNil))) (eC (.int 0)))) (eTup (aCons (eFz (eVar 16)) (aCons (eFz (eOp (dInG false) (eVar 6) (eOp dIx (eVar 5) (eVar 16)))) aNil)))))) (sSeq (sFrz [1] (sSet 8 (eA dTuple (aCons (eOp dAdd (eLC [16, 21] (setT [16, 21]) (iSeq (eVar 7)) (tTru (eVar 21)) (eVar 16)) (eLst (aCons (eFz (eCall f__law_pick (aCons (eFz (eVar 1)) (aCons (eFz (eLC [16] (setN 16) (iRange (aCons (eVar 4) aNil)) (tVal (eOp (dInG false) (eVar 6) (eOp dIx (eVar 5) (eVar 16)))) (eVar 16))) aNil)))) aNil))) aNil)))) (sSeq (sSet 9 (eA dTuple (aCons (eLC [16, 21] (setT [16, 21]) (iSeq (eVar 7)) (tNo (tTru (eVar 21))) (eVar 16)) aNil))) (sSeq (sSet 10 (eA dTuple (aCons (eLC [16] (setN 16) (iRange (aCons (eVar 4) aNil)) ((tAn (tVal (eOp dEq (eLC [23] (setN 23) (iSeq (eVar 8)) (tVal (eOp (dInG true) (eVar 16) (eOp dIx (eVar 5) (eVar 23)))) (eVar 23)) (eLst aNil))) (tVal (eOp dEq (eLC [23] (setN 23) (iSeq (eVar 9)) (tVal (eOp (dInG false) (eVar 16) (eOp dIx (eVar 5) (eVar 23)))) (eVar 23)) (eLst aNil))))) (eVar 16)) aNil))) (sSeq (sFrz [3] (sIf ((tOrr (tVal (eOp (dInG true) (eVar 6) (eVar 10))) (tNo (tTru (eCall f__law_alike (aCons (eFz (eCall f_suspects (aCons (eFz (eVar 3)) (aCons (eFz (eVar 9)) (aCons (eFz (eVar 8)) aNil))))) (aCons (eFz (eVar 10)) aNil))))))) (sRet (eC (.bl false))) (sNil))) (sSeq (sFrz [3, 5] (sPar 14 15 (aCons (eCall f__law_least (aCons (eFz (eVar 5)) (aCons (eFz (eVar 10)) aNil))) (aCons (eCall f_most_asks (aCons (eFz (eVar 3)) (aCons (eFz (eVar 10)) (aCons (eFz (eTup aNil)) aNil)))) aNil)))) (sSeq (sFrz [3, 14] (sIf ((tOrr (tNo (tTru (eCall f__law_alike (aCons (eFz (eCall f_least_asks (aCons (eFz (eVar 3)) (aCons (eFz (eVar 10)) aNil)))) (aCons (eFz (eVar 14)) aNil))))) (tOrr (tNo (tTru (eA dIsi (aCons (eVar 15) (aCons (eC (.ty "int")) aNil))))) (tVal (eOp dLt (eVar 15) (eVar 14)))))) (sRet (eC (.bl false))) (sNil))) (sSeq (sSet 11 (eLst aNil)) (sSeq (sFor (setN 12) (iSeq (eFz (eVar 10))) (sSeq (sUnp (setT [17, 18]) (eTup (aCons (eFz (eVar 10)) (aCons (eFz (eLst aNil)) aNil)))) (sSeq (sWhile (tVal (eOp dGt (eA dLen (aCons (eVar 17) aNil)) (eC (.int 1)))) (sSeq (sSet 19 (eLC [16] (setN 16) (iSeq (eVar 17)) tYesD (eTup (aCons (eFz (eOp dSub (eC (.int 0)) (eA dMin2 (aCons (eA dLen (aCons (eLC [22] (setN 22) (iSeq (eVar 17)) (tVal (eOp (dInG false) (eVar 22) (eOp dIx (eVar 5) (eVar 16)))) (eVar 22)) aNil)) (aCons (eA dLen (aCons (eLC [22] (setN 22) (iSeq (eVar 17)) (tVal (eOp (dInG true) (eVar 22) (eOp dIx (eVar 5) (eVar 16)))) (eVar 22)) aNil)) aNil))))) (aCons (eFz (eVar 16)) aNil))))) (sSeq (sSet 20 (eOp dIx (eA dMinL (aCons (eVar 19) aNil)) (eC (.int 1)))) (sSeq (sFrz [3] (sIf (tNo (tTru (eCall f__law_alike (aCons (eFz (eCall f_best_ask (aCons (eFz (eVar 3)) (aCons (eFz (eVar 17)) (aCons (eFz (eTup aNil)) aNil))))) (aCons (eFz (eVar 20)) aNil))))) (sRet (eC (.bl false))) (sNil))) (sUnp (setT [18, 17]) (eTup (aCons (eFz (eOp dAdd (eVar 18) (eLst (aCons (eFz (eVar 20)) aNil)))) (aCons (eFz (eA dTuple (aCons (eLC [22] (setN 22) (iSeq (eVar 17)) (tVal (eOp dEq (eOp (dInG false) (eVar 22) (eOp dIx (eVar 5) (eVar 20))) (eOp (dInG false) (eVar 12) (eOp dIx (eVar 5) (eVar 20))))) (eVar 22)) aNil))) aNil))))))) 100000) (sSeq (sApp 11 (eA dLen (aCons (eVar 18) aNil))) (sFrz [3] (sIf ((tOrr (tVal (eOp dNe (eVar 17) (eTup (aCons (eFz (eVar 12)) aNil)))) (tNo (tTru (eCall f__law_alike (aCons (eFz (eCall f_asks_for (aCons (eFz (eVar 3)) (aCons (eFz (eVar 10)) (aCons (eFz (eTup aNil)) (aCons (eFz (eVar 12)) aNil)))))) (aCons (eFz (eTup (aCons (eFz (eA dTuple (aCons (eVar 18) aNil))) (aCons (eFz (eVar 17)) aNil)))) aNil))))))) (sRet (eC (.bl false))) (sNil))))))) (sSeq (sIf (tVal (eOp dNe (eVar 15) (eA dMaxL (aCons (eVar 11) aNil)))) (sRet (eC (.bl false))) (sNil)) (sSeq (sSet 13 (eCall f_row_of (aCons (eFz (eVar 4)) aNil))) (sFrz [13] (sIf ((tOrr (tNo (tTru (eCall f__law_alike (aCons (eFz (eVar 13)) (aCons (eFz (eA dTuple (aCons (eLC [16] (setN 16) (iRange (aCons (eVar 4) aNil)) tYesD (eIf (tVal (eOp dGt (eVar 16) (eC (.int 0)))) (eTup (aCons (eFz (eOp dSub (eVar 16) (eC (.int 1)))) aNil)) (eTup aNil))) aNil))) aNil))))) (tNo (tTru (eCall f__law_alike (aCons (eFz (eCall f_asks_in_row (aCons (eFz (eVar 4)) aNil))) (aCons (eFz (eCall f__law_least (aCons (eFz (eLC [16] (setN 16) (iRange (aCons (eVar 4) aNil)) tYesD (eRg1 false (eOp dAdd (eVar 16) (eC (.int 1)))))) (aCons (eFz (eRg1 true (eVar 4))) aNil)))) aNil))))))) (sRet (eC (.bl false))) (sNil))))))))))))))))))) (sRet (eC (.bl true))))
end Kk64

set_option Elab.async false
set_option linter.all false
set_option maxRecDepth 100000
set_option maxHeartbeats 4000000
namespace Kk64
open PySem PySem.Spec PyProof.Rows L2 Dl
/-! plain: numbers, sorted lists, least and most -/
abbrev iN (j : Nat) : D := .int (j : Int)
abbrev tN (xs : List Nat) : D := .tup (xs.map iN)
abbrev lN (xs : List Nat) : D := .lst (xs.map iN)
theorem flat_N (xs : List Nat) : (xs.map iN).all flatD = true := by simp
def has (xs : List Nat) (j : Nat) : Bool := xs.contains j
theorem has_mem {xs : List Nat} {j : Nat} : has xs j = true ↔ j ∈ xs := by unfold has; simp
theorem any_N (xs : List Nat) (j : Nat) : (xs.map iN).any (fun z => eqF z (iN j)) = has xs j := by
  unfold has
  induction xs with
  | nil => rfl
  | cons x xs ih =>
    rw [List.map_cons, List.any_cons, ih, List.contains_cons]
    congr 1
    show decide ((x : Int) = j) = (j == x)
    by_cases h : x = j
    · subst h; simp
    · have h2 : ¬ (x : Int) = j := by omega
      have h3 : ¬ j = x := fun e => h e.symm
      simp [h2, h3]
theorem in_t (neg : Bool) (xs : List Nat) (j : Nat) : els2 (dIn neg) (dInS neg) (iN j) (tN xs) = some (.bl (if neg then !has xs j else has xs j), .fz) := by
  rw [dInG_tup rfl (flat_N xs), any_N]
theorem in_l (neg : Bool) (xs : List Nat) (j : Nat) : els2 (dIn neg) (dInS neg) (iN j) (lN xs) = some (.bl (if neg then !has xs j else has xs j), .fz) := by
  rw [dInG_lst rfl (flat_N xs), any_N]
theorem fine_tN (xs : List Nat) (n : Nat) : fine (n + 1) (tN xs) = true := by
  rw [fine_tup]
  intro d hd
  obtain ⟨j, _, rfl⟩ := List.mem_map.mp hd
  exact fine_int
theorem fine_lN (xs : List Nat) (n : Nat) : fine (n + 1) (lN xs) = true := by
  rw [fine_lst]
  intro d hd
  obtain ⟨j, _, rfl⟩ := List.mem_map.mp hd
  exact fine_int
theorem dPys_N : ∀ xs : List Nat, dPys (xs.map iN) = some (xs.map fun j : Nat => PyData.int j)
  | [] => rfl
  | x :: xs => by
    show ((dPy (iN x)).bind fun a => (dPys (xs.map iN)).map fun b => a :: b) = _
    rw [dPys_N xs]; rfl
theorem encD_i (i : Int) : Dl.encD (.int i) = .int i := rfl
theorem dPy_tN (xs : List Nat) : dPy (tN xs) = some (.tuple (xs.map fun j : Nat => PyData.int j)) := by
  show (dPys (xs.map iN)).map _ = _
  rw [dPys_N]; rfl
theorem enc_tN (xs : List Nat) : Dl.encD (tN xs) = .tuple (xs.map fun j : Nat => PyData.int j) := by
  unfold Dl.encD; rw [dPy_tN]; rfl
theorem mmOk_mk {ds : List D} (h1 : ∀ d ∈ ds, (dPy d).isSome = true) (h2 : PyData.depthAll (ds.map Dl.encD) ≤ 40) (h3 : ∀ d ∈ ds, ∀ e ∈ ds, PySem.W.alike (Dl.encD d) (Dl.encD e) = true) (h4 : ∀ d ∈ ds, Dl.encD d ≠ .none) : mmOk ds = true := by
  unfold mmOk
  rw [Bool.and_eq_true, Bool.and_eq_true, Bool.and_eq_true, List.all_eq_true, List.all_eq_true, List.all_eq_true]
  refine ⟨⟨⟨h1, decide_eq_true h2⟩, fun d hd => ?_⟩, fun d hd => ?_⟩
  · rw [List.all_eq_true]; exact h3 d hd
  · have := h4 d hd
    split
    · rename_i e; exact absurd e this
    · rfl
theorem srtOk_mk {ds : List D} (h1 : ∀ d ∈ ds, (dPy d).isSome = true) (h2 : ∀ d ∈ ds, (Dl.encD d).depth ≤ 40) (h3 : ∀ d ∈ ds, ∀ e ∈ ds, PySem.W.alike (Dl.encD d) (Dl.encD e) = true) (h4 : (∀ d ∈ ds, tupNe (Dl.encD d) = true) ∨ ∀ d ∈ ds, notTup (Dl.encD d) = true) : srtOk ds = true := by
  unfold srtOk
  rw [Bool.and_eq_true, Bool.and_eq_true, Bool.or_eq_true, List.all_eq_true, List.all_eq_true, List.all_eq_true, List.all_eq_true]
  refine ⟨⟨fun d hd => ?_, fun d hd => ?_⟩, h4⟩
  · rw [Bool.and_eq_true]; exact ⟨h1 d hd, decide_eq_true (h2 d hd)⟩
  · rw [List.all_eq_true]; exact h3 d hd
/-! min and max of ints -/
def mn : List Int → Int
  | [] => 0
  | x :: xs => xs.foldl (fun a y => if y < a then y else a) x
def mx : List Int → Int
  | [] => 0
  | x :: xs => xs.foldl (fun a y => if a < y then y else a) x
theorem minDD_int : ∀ (xs : List Int) (x : Int), minDD (.int x) (xs.map D.int) = .int (xs.foldl (fun a y => if y < a then y else a) x)
  | [], x => rfl
  | y :: xs, x => by
    have ih := minDD_int xs (if y < x then y else x)
    show minDD (if PySem.W.dataLt (Dl.encD (.int y)) (Dl.encD (.int x)) = true then .int y else .int x) (xs.map D.int) = _
    rw [encD_i, encD_i, PySem.W.dataLt_int]
    have e : (if decide (y < x) = true then D.int y else D.int x) = D.int (if y < x then y else x) := by by_cases h : y < x <;> simp [h]
    rw [e, ih]; rfl
theorem maxDD_int : ∀ (xs : List Int) (x : Int), maxDD (.int x) (xs.map D.int) = .int (xs.foldl (fun a y => if a < y then y else a) x)
  | [], x => rfl
  | y :: xs, x => by
    have ih := maxDD_int xs (if x < y then y else x)
    show maxDD (if PySem.W.dataLt (Dl.encD (.int x)) (Dl.encD (.int y)) = true then .int y else .int x) (xs.map D.int) = _
    rw [encD_i, encD_i, PySem.W.dataLt_int]
    have e : (if decide (x < y) = true then D.int y else D.int x) = D.int (if x < y then y else x) := by by_cases h : x < y <;> simp [h]
    rw [e, ih]; rfl
theorem depthAll_i : ∀ xs : List Int, PyData.depthAll (xs.map PyData.int) = 0
  | [] => by simp [PyData.depthAll]
  | x :: xs => by simp [PyData.depthAll, PyData.depth, depthAll_i xs]
theorem mmOk_int (xs : List Int) : mmOk (xs.map D.int) = true := by
  have e : (xs.map D.int).map Dl.encD = xs.map PyData.int := by rw [List.map_map]; rfl
  refine mmOk_mk (fun d hd => ?_) (by rw [e, depthAll_i]; decide) (fun d hd f hf => ?_) (fun d hd => ?_)
  · obtain ⟨i, _, rfl⟩ := List.mem_map.mp hd; rfl
  · obtain ⟨i, _, rfl⟩ := List.mem_map.mp hd
    obtain ⟨j, _, rfl⟩ := List.mem_map.mp hf
    rw [encD_i, encD_i]; simp [PySem.W.alike]
  · obtain ⟨i, _, rfl⟩ := List.mem_map.mp hd
    rw [encD_i]; exact fun z => nomatch z
theorem dMin_i {xs : List Int} (h : xs ≠ []) : dMinL [.lst (xs.map D.int)] = some (.int (mn xs), .fz) := by
  cases xs with
  | nil => exact absurd rfl h
  | cons x xs =>
    show (if mmOk ((x :: xs).map D.int) = true then some (minDD (.int x) (xs.map D.int), O3.fz) else none) = _
    rw [if_pos (mmOk_int _), minDD_int]; rfl
theorem dMax_i {xs : List Int} (h : xs ≠ []) : dMaxL [.lst (xs.map D.int)] = some (.int (mx xs), .fz) := by
  cases xs with
  | nil => exact absurd rfl h
  | cons x xs =>
    show (if mmOk ((x :: xs).map D.int) = true then some (maxDD (.int x) (xs.map D.int), O3.fz) else none) = _
    rw [if_pos (mmOk_int _), maxDD_int]; rfl
theorem mn_fold : ∀ (xs : List Int) (x : Int), xs.foldl (fun a y => if y < a then y else a) x ≤ x ∧ ∀ y ∈ xs, xs.foldl (fun a y => if y < a then y else a) x ≤ y
  | [], x => ⟨Int.le_refl x, fun y h => nomatch h⟩
  | z :: xs, x => by
    obtain ⟨h1, h2⟩ := mn_fold xs (if z < x then z else x)
    rw [List.foldl_cons]
    have h3 : (if z < x then z else x) ≤ x ∧ (if z < x then z else x) ≤ z := by split <;> omega
    refine ⟨by omega, fun y hy => ?_⟩
    rcases List.mem_cons.mp hy with e | hy
    · subst e; omega
    · exact h2 y hy
theorem mn_le {xs : List Int} {y : Int} (h : y ∈ xs) : mn xs ≤ y := by
  cases xs with
  | nil => cases h
  | cons x xs =>
    obtain ⟨h1, h2⟩ := mn_fold xs x
    rcases List.mem_cons.mp h with e | h
    · subst e; exact h1
    · exact h2 y h
theorem mx_fold : ∀ (xs : List Int) (x : Int), x ≤ xs.foldl (fun a y => if a < y then y else a) x ∧ ∀ y ∈ xs, y ≤ xs.foldl (fun a y => if a < y then y else a) x
  | [], x => ⟨Int.le_refl x, fun y h => nomatch h⟩
  | z :: xs, x => by
    obtain ⟨h1, h2⟩ := mx_fold xs (if x < z then z else x)
    rw [List.foldl_cons]
    have h3 : x ≤ (if x < z then z else x) ∧ z ≤ (if x < z then z else x) := by split <;> omega
    refine ⟨by omega, fun y hy => ?_⟩
    rcases List.mem_cons.mp hy with e | hy
    · subst e; omega
    · exact h2 y hy
theorem le_mx {xs : List Int} {y : Int} (h : y ∈ xs) : y ≤ mx xs := by
  cases xs with
  | nil => cases h
  | cons x xs =>
    obtain ⟨h1, h2⟩ := mx_fold xs x
    rcases List.mem_cons.mp h with e | h
    · subst e; exact h1
    · exact h2 y h
/-! min of pairs (value, place) -/
def pD (p : Int × Nat) : D := .tup [.int p.1, iN p.2]
def ltP (p q : Int × Nat) : Bool := decide (p.1 < q.1 ∨ (p.1 = q.1 ∧ p.2 < q.2))
def mnP (p : Int × Nat) (xs : List (Int × Nat)) : Int × Nat := xs.foldl (fun a y => if ltP y a = true then y else a) p
theorem enc_pD (p : Int × Nat) : Dl.encD (pD p) = .tuple [.int p.1, .int p.2] := rfl
theorem lt_pD (p q : Int × Nat) : PySem.W.dataLt (Dl.encD (pD p)) (Dl.encD (pD q)) = ltP p q := by
  rw [enc_pD, enc_pD, PySem.W.dataLt_ii]
  unfold ltP
  have e : ((p.2 : Int) < (q.2 : Int)) = (p.2 < q.2) := by apply propext; omega
  simp only [e]
theorem minDD_p : ∀ (xs : List (Int × Nat)) (p : Int × Nat), minDD (pD p) (xs.map pD) = pD (mnP p xs)
  | [], x => rfl
  | y :: xs, x => by
    have ih := minDD_p xs (if ltP y x = true then y else x)
    show minDD (if PySem.W.dataLt (Dl.encD (pD y)) (Dl.encD (pD x)) = true then pD y else pD x) (xs.map pD) = _
    rw [lt_pD]
    have e : (if ltP y x = true then pD y else pD x) = pD (if ltP y x = true then y else x) := by by_cases h : ltP y x = true <;> simp [h]
    rw [e, ih]; rfl
theorem depthAll_p : ∀ xs : List (Int × Nat), PyData.depthAll ((xs.map pD).map Dl.encD) ≤ 1
  | [] => by simp [PyData.depthAll]
  | x :: xs => by
    have := depthAll_p xs
    rw [List.map_cons, List.map_cons, enc_pD, PyData.depthAll]
    have e : (PyData.tuple [.int x.1, .int x.2]).depth = 1 := by simp [PyData.depth, PyData.depthAll]
    rw [e]
    omega
theorem mmOk_p (xs : List (Int × Nat)) : mmOk (xs.map pD) = true := by
  refine mmOk_mk (fun d hd => ?_) (by have := depthAll_p xs; omega) (fun d hd f hf => ?_) (fun d hd => ?_)
  · obtain ⟨i, _, rfl⟩ := List.mem_map.mp hd; rfl
  · obtain ⟨i, _, rfl⟩ := List.mem_map.mp hd
    obtain ⟨j, _, rfl⟩ := List.mem_map.mp hf
    rw [enc_pD, enc_pD]; simp [PySem.W.alike, PySem.W.alikeAll]
  · obtain ⟨i, _, rfl⟩ := List.mem_map.mp hd
    rw [enc_pD]; exact fun z => nomatch z
theorem dMin_p (p : Int × Nat) (xs : List (Int × Nat)) : dMinL [.lst (pD p :: xs.map pD)] = some (pD (mnP p xs), .fz) := by
  show (if mmOk ((p :: xs).map pD) = true then some (minDD (pD p) (xs.map pD), O3.fz) else none) = _
  rw [if_pos (mmOk_p _), minDD_p]
theorem mnP_mem : ∀ (xs : List (Int × Nat)) (p : Int × Nat), mnP p xs ∈ p :: xs
  | [], p => List.mem_cons_self
  | x :: xs, p => by
    have := mnP_mem xs (if ltP x p = true then x else p)
    have e : mnP p (x :: xs) = mnP (if ltP x p = true then x else p) xs := rfl
    rw [e]
    rcases List.mem_cons.mp this with h | h
    · rw [h]; split <;> simp
    · exact List.mem_cons_of_mem _ (List.mem_cons_of_mem _ h)
theorem ltP_irr (p : Int × Nat) : ltP p p = false := decide_eq_false (by omega)
theorem ltP_tr {p q r : Int × Nat} (h1 : ltP p q = false) (h2 : ltP q r = false) : ltP p r = false := by
  have a := of_decide_eq_false h1
  have b := of_decide_eq_false h2
  exact decide_eq_false (by omega)
theorem ltP_as {p q : Int × Nat} (h1 : ltP p q = true) : ltP q p = false := by
  have a := of_decide_eq_true h1
  exact decide_eq_false (by omega)
theorem mnP_le : ∀ (xs : List (Int × Nat)) (p : Int × Nat), ∀ y ∈ p :: xs, ltP y (mnP p xs) = false
  | [], p, y, h => by
    rw [List.mem_singleton] at h; subst h
    exact ltP_irr y
  | x :: xs, p, y, h => by
    have ih := mnP_le xs (if ltP x p = true then x else p)
    have e : mnP p (x :: xs) = mnP (if ltP x p = true then x else p) xs := rfl
    rw [e]
    have h0 := ih _ List.mem_cons_self
    have hp : ltP p (if ltP x p = true then x else p) = false := by
      split
      · rename_i hx; exact ltP_as hx
      · exact ltP_irr p
    have hx : ltP x (if ltP x p = true then x else p) = false := by
      split
      · exact ltP_irr x
      · rename_i hx; simpa using hx
    rcases List.mem_cons.mp h with h | h
    · subst h; exact ltP_tr hp h0
    · rcases List.mem_cons.mp h with h | h
      · subst h; exact ltP_tr hx h0
      · exact ih y (List.mem_cons_of_mem _ h)
theorem mnP_one {p q : Int × Nat} {xs ys : List (Int × Nat)} (h1 : mnP p xs ∈ q :: ys) (h2 : mnP q ys ∈ p :: xs) : mnP p xs = mnP q ys := by
  have a := mnP_le xs p _ h2
  have b := mnP_le ys q _ h1
  have a' := of_decide_eq_false a
  have b' := of_decide_eq_false b
  exact Prod.ext (by omega) (by omega)
/-! sorted of ints -/
theorem le_iN (a b : Nat) : leD (iN a) (iN b) = decide (a ≤ b) := by
  show (!PySem.W.dataLt (Dl.encD (iN b)) (Dl.encD (iN a))) = _
  rw [encD_i, encD_i, PySem.W.dataLt_int]
  by_cases h : a ≤ b
  · have h2 : ¬ (b : Int) < a := by omega
    simp [h, h2]
  · have h2 : (b : Int) < a := by omega
    simp [h, h2]
theorem srtOk_N (xs : List Nat) : srtOk (xs.map iN) = true := by
  refine srtOk_mk (fun d hd => ?_) (fun d hd => ?_) (fun d hd f hf => ?_) (.inr fun d hd => ?_)
  · obtain ⟨i, _, rfl⟩ := List.mem_map.mp hd; rfl
  · obtain ⟨i, _, rfl⟩ := List.mem_map.mp hd
    rw [encD_i]; simp [PyData.depth]
  · obtain ⟨i, _, rfl⟩ := List.mem_map.mp hd
    obtain ⟨j, _, rfl⟩ := List.mem_map.mp hf
    rw [encD_i, encD_i]; simp [PySem.W.alike]
  · obtain ⟨i, _, rfl⟩ := List.mem_map.mp hd; rfl
def srtN (xs : List Nat) : List Nat := xs.mergeSort fun a b => decide (a ≤ b)
theorem dSrt_N (xs : List Nat) (h : xs.length ≤ 1000) : dSrt [lN xs] = some (lN (srtN xs), .ow) := by
  show (if srtOk (xs.map iN) = true ∧ (xs.map iN).length ≤ lim then some (D.lst ((xs.map iN).mergeSort leD), O3.ow) else none) = _
  rw [if_pos ⟨srtOk_N xs, by rw [List.length_map]; exact le_lim (by omega)⟩, ← List.map_mergeSort (f := iN) (s := leD) (r := fun a b => decide (a ≤ b)) fun a _ b _ => (le_iN a b).symm]
  rfl
theorem srtN_eq {N : Nat} {xs : List Nat} (hd : xs.Nodup) (hb : ∀ x ∈ xs, x < N) : srtN xs = (List.range N).filter (has xs) := by
  have hp : (srtN xs).Perm xs := List.mergeSort_perm _ _
  have hs : (srtN xs).Pairwise (· ≤ ·) := (List.pairwise_mergeSort (le := fun a b => decide (a ≤ b)) (fun a b c h1 h2 => by simp at h1 h2 ⊢; omega) (fun a b => by simp; omega) xs).imp fun h => by simpa using h
  have hr : ((List.range N).filter (has xs)).Pairwise (· ≤ ·) := (List.Pairwise.filter _ List.pairwise_lt_range).imp fun h => by omega
  have hn : ((List.range N).filter (has xs)).Nodup := List.Pairwise.filter _ List.nodup_range
  refine List.Perm.eq_of_pairwise (le := (· ≤ ·)) (fun a b _ _ h1 h2 => by omega) hs hr (hp.trans ?_)
  refine (List.perm_ext_iff_of_nodup hd hn).mpr fun a => ?_
  simp only [List.mem_filter, List.mem_range, has_mem]
  exact ⟨fun h => ⟨hb a h, h⟩, fun h => h.2⟩
end Kk64

set_option Elab.async false
set_option linter.all false
set_option maxRecDepth 100000
set_option maxHeartbeats 4000000
namespace Kk64
open PySem PySem.Spec PyProof.Rows L2 Dl
/-! the splitting, plain. M k j: j is part of k. -/
structure Mk (N : Nat) (M : Nat → Nat → Bool) : Prop where
  refl : ∀ k, k < N → M k k = true
  le : ∀ k j, k < N → M k j = true → j ≤ k
abbrev inn (M : Nat → Nat → Bool) (S : List Nat) (k : Nat) : List Nat := S.filter (M k)
abbrev out (M : Nat → Nat → Bool) (S : List Nat) (k : Nat) : List Nat := S.filter fun j => !M k j
def spl (M : Nat → Nat → Bool) (S : List Nat) (k : Nat) : Bool := !(inn M S k).isEmpty && !(out M S k).isEmpty
def mx2 (i j : Int) : Int := if j > i then j else i
def least (M : Nat → Nat → Bool) : Nat → List Nat → Int
  | 0, _ => 0
  | n + 1, S => if S.length < 2 then 0 else mn ((S.filter (spl M S)).map fun k => 1 + mx2 (least M n (inn M S k)) (least M n (out M S k)))
variable {N : Nat} {M : Nat → Nat → Bool}
theorem spl_len {S : List Nat} {k : Nat} : (inn M S k).length + (out M S k).length = S.length := by
  have := (List.filter_append_perm (M k) S).length_eq
  rw [List.length_append] at this
  exact this
theorem ne_pos {α : Type} {l : List α} (h : (!l.isEmpty) = true) : 0 < l.length := by
  cases l with
  | nil => cases h
  | cons a l => simp
theorem spl_lt {S : List Nat} {k : Nat} (h : spl M S k = true) : (inn M S k).length < S.length ∧ (out M S k).length < S.length ∧ 0 < (inn M S k).length ∧ 0 < (out M S k).length := by
  unfold spl at h
  rw [Bool.and_eq_true] at h
  have h1 := ne_pos h.1
  have h2 := ne_pos h.2
  have := spl_len (M := M) (S := S) (k := k)
  omega
theorem least_fuel : ∀ (n m : Nat) (S : List Nat), S.length ≤ n → S.length ≤ m → least M n S = least M m S
  | 0, 0, S, _, _ => rfl
  | 0, m + 1, S, h, _ => by
    show 0 = (if S.length < 2 then 0 else _)
    rw [if_pos (by omega)]
  | n + 1, 0, S, _, h => by
    show (if S.length < 2 then 0 else _) = 0
    rw [if_pos (by omega)]
  | n + 1, m + 1, S, h1, h2 => by
    show (if S.length < 2 then 0 else _) = (if S.length < 2 then 0 else _)
    split
    · rfl
    · congr 1
      refine List.map_congr_left fun k hk => ?_
      obtain ⟨a, b, _⟩ := spl_lt (List.mem_filter.mp hk).2
      rw [least_fuel n m (inn M S k) (by omega) (by omega), least_fuel n m (out M S k) (by omega) (by omega)]
/-- least of that many -/
abbrev lst (M : Nat → Nat → Bool) (S : List Nat) : Int := least M S.length S
theorem lst_eq {n : Nat} {S : List Nat} (h : S.length ≤ n) : least M n S = lst M S := least_fuel _ _ _ h (Nat.le_refl _)
theorem lst_s {S : List Nat} (h : ¬ S.length < 2) : lst M S = mn ((S.filter (spl M S)).map fun k => 1 + mx2 (lst M (inn M S k)) (lst M (out M S k))) := by
  obtain ⟨n, hn⟩ : ∃ n, S.length = n + 1 := ⟨S.length - 1, by omega⟩
  unfold lst
  rw [hn]
  show (if S.length < 2 then 0 else _) = _
  rw [if_neg h]
  congr 1
  refine List.map_congr_left fun k hk => ?_
  obtain ⟨a, b, _⟩ := spl_lt (List.mem_filter.mp hk).2
  rw [least_fuel n (inn M S k).length (inn M S k) (by omega) (Nat.le_refl _), least_fuel n (out M S k).length (out M S k) (by omega) (Nat.le_refl _)]
theorem lst_0 {S : List Nat} (h : S.length < 2) : lst M S = 0 := by
  unfold lst
  cases e : S.length with
  | zero => rfl
  | succ n =>
    show (if S.length < 2 then 0 else _) = 0
    rw [if_pos h]
/-- left ones: upwards, within N -/
structure Sd (N : Nat) (S : List Nat) : Prop where
  up : S.Pairwise (· < ·)
  lt : ∀ k ∈ S, k < N
theorem Sd.flt {S : List Nat} (h : Sd N S) (p : Nat → Bool) : Sd N (S.filter p) := ⟨h.up.filter p, fun k hk => h.lt k (List.mem_filter.mp hk).1⟩
/-- one of those left parts them -/
theorem spl_ex (K : Mk N M) {S : List Nat} (h : Sd N S) (h2 : ¬ S.length < 2) : ∃ k ∈ S, spl M S k = true := by
  match S, h, h2 with
  | [], _, h2 => exact absurd (by simp) h2
  | [a], _, h2 => exact absurd (by simp) h2
  | a :: b :: r, h, _ =>
    refine ⟨a, List.mem_cons_self, ?_⟩
    have ha := h.lt a List.mem_cons_self
    have hab : a < b := (List.pairwise_cons.mp h.up).1 b List.mem_cons_self
    have hb : M a b = false := by
      cases e : M a b with
      | false => rfl
      | true => have := K.le a b ha e; omega
    unfold spl
    rw [Bool.and_eq_true]
    constructor
    · have : inn M (a :: b :: r) a = a :: (b :: r).filter (M a) := List.filter_cons_of_pos (K.refl a ha)
      rw [this]; rfl
    · have : out M (a :: b :: r) a = b :: r.filter fun j => !M a j := by
        unfold out
        rw [List.filter_cons_of_neg (by simp [K.refl a ha]), List.filter_cons_of_pos (by simp [hb])]
      rw [this]; rfl
theorem spl_ne (K : Mk N M) {S : List Nat} (h : Sd N S) (h2 : ¬ S.length < 2) : S.filter (spl M S) ≠ [] := by
  obtain ⟨k, hk, hs⟩ := spl_ex K h h2
  intro e
  have : k ∈ S.filter (spl M S) := List.mem_filter.mpr ⟨hk, hs⟩
  rw [e] at this; cases this
/-! the best ask -/
def mi2 (i j : Int) : Int := if j < i then j else i
def val (M : Nat → Nat → Bool) (S : List Nat) (k : Nat) : Int := 0 - mi2 ((inn M S k).length : Int) ((out M S k).length : Int)
def prs (M : Nat → Nat → Bool) (S T : List Nat) : List (Int × Nat) := T.map fun k => (val M S k, k)
def best (M : Nat → Nat → Bool) (S : List Nat) : Nat := match prs M S S with
  | [] => 0
  | p :: r => (mnP p r).2
theorem val_spl {S : List Nat} {k : Nat} (h : spl M S k = true) : val M S k < 0 := by
  obtain ⟨a, b, c, d⟩ := spl_lt h
  unfold val mi2
  split <;> omega
theorem val_no {S : List Nat} {k : Nat} (h : spl M S k = false) : val M S k = 0 := by
  unfold spl at h
  rw [Bool.and_eq_false_iff] at h
  unfold val mi2
  rcases h with h | h
  · have : (inn M S k).length = 0 := by
      cases e : inn M S k with
      | nil => rfl
      | cons a l => rw [e] at h; cases h
    rw [this]
    split <;> omega
  · have : (out M S k).length = 0 := by
      cases e : out M S k with
      | nil => rfl
      | cons a l => rw [e] at h; cases h
    rw [this]
    split <;> omega
/-- among all as among those that part -/
theorem best_in (K : Mk N M) {S : List Nat} (h : Sd N S) (h2 : ¬ S.length < 2) : best M S ∈ S ∧ spl M S (best M S) = true ∧ ∃ p r, prs M S (S.filter (spl M S)) = p :: r ∧ (mnP p r).2 = best M S := by
  obtain ⟨k0, hk0, hs0⟩ := spl_ex K h h2
  unfold best
  cases e : prs M S S with
  | nil =>
    cases S with
    | nil => cases hk0
    | cons a l => cases e
  | cons p r =>
    have hm := mnP_mem r p
    have hle := mnP_le r p
    have hmem : ∀ q ∈ p :: r, ∃ k ∈ S, q = (val M S k, k) := fun q hq => by
      rw [← e] at hq
      obtain ⟨k, h1, h2⟩ := List.mem_map.mp hq
      exact ⟨k, h1, h2.symm⟩
    have hin : ∀ k ∈ S, (val M S k, k) ∈ p :: r := fun k hk => by
      rw [← e]; exact List.mem_map.mpr ⟨k, hk, rfl⟩
    obtain ⟨k, hk, ek⟩ := hmem _ hm
    have hsk : spl M S k = true := by
      cases es : spl M S k with
      | true => rfl
      | false =>
        have h3 := hle _ (hin k0 hk0)
        rw [ek] at h3
        have h4 := of_decide_eq_false h3
        have h5 := val_no es
        have h6 := val_spl hs0
        simp only at h4
        omega
    show (mnP p r).2 ∈ S ∧ spl M S (mnP p r).2 = true ∧ _
    have ek2 : (mnP p r).2 = k := by rw [ek]
    rw [ek2]
    refine ⟨hk, hsk, ?_⟩
    cases e2 : prs M S (S.filter (spl M S)) with
    | nil =>
      have : (val M S k, k) ∈ prs M S (S.filter (spl M S)) := List.mem_map.mpr ⟨k, List.mem_filter.mpr ⟨hk, hsk⟩, rfl⟩
      rw [e2] at this; cases this
    | cons p2 r2 =>
      refine ⟨p2, r2, rfl, ?_⟩
      have h1 : mnP p r ∈ p2 :: r2 := by
        rw [← e2, ek]
        exact List.mem_map.mpr ⟨k, List.mem_filter.mpr ⟨hk, hsk⟩, rfl⟩
      have h2 : mnP p2 r2 ∈ p :: r := by
        have := mnP_mem r2 p2
        rw [← e2] at this
        obtain ⟨j, hj, ej⟩ := List.mem_map.mp this
        rw [← ej]
        exact hin j (List.mem_filter.mp hj).1
      have e3 := mnP_one h1 h2
      rw [ek] at e3
      rw [← e3]
      exact ek2.symm
/-! asking on and on -/
def nxtS (M : Nat → Nat → Bool) (S : List Nat) (own : Nat) : List Nat := S.filter fun j => M (best M S) j == M (best M S) own
def run (M : Nat → Nat → Bool) (own : Nat) : Nat → List Nat → List Nat × List Nat
  | 0, S => ([], S)
  | n + 1, S => if S.length < 2 then ([], S) else (best M S :: (run M own n (nxtS M S own)).1, (run M own n (nxtS M S own)).2)
theorem nxt_t {S : List Nat} {own : Nat} (h : M (best M S) own = true) : nxtS M S own = inn M S (best M S) := by
  unfold nxtS inn
  refine List.filter_congr fun j _ => ?_
  rw [h]; cases M (best M S) j <;> rfl
theorem nxt_f {S : List Nat} {own : Nat} (h : M (best M S) own = false) : nxtS M S own = out M S (best M S) := by
  unfold nxtS out
  refine List.filter_congr fun j _ => ?_
  rw [h]; cases M (best M S) j <;> rfl
theorem nxt_lt (K : Mk N M) {S : List Nat} (h : Sd N S) (h2 : ¬ S.length < 2) (own : Nat) : (nxtS M S own).length < S.length := by
  obtain ⟨_, hs, _⟩ := best_in K h h2
  obtain ⟨a, b, _⟩ := spl_lt hs
  cases e : M (best M S) own with
  | true => rw [nxt_t e]; exact a
  | false => rw [nxt_f e]; exact b
theorem nxt_mem {S : List Nat} {own : Nat} (h : own ∈ S) : own ∈ nxtS M S own := List.mem_filter.mpr ⟨h, by simp⟩
theorem run_fuel (K : Mk N M) (own : Nat) : ∀ (n m : Nat) (S : List Nat), Sd N S → S.length ≤ n → S.length ≤ m → run M own n S = run M own m S
  | 0, 0, S, _, _, _ => rfl
  | 0, m + 1, S, _, h, _ => by
    show ([], S) = (if S.length < 2 then _ else _)
    rw [if_pos (by omega)]
  | n + 1, 0, S, _, _, h => by
    show (if S.length < 2 then _ else _) = ([], S)
    rw [if_pos (by omega)]
  | n + 1, m + 1, S, hS, h1, h2 => by
    show (if S.length < 2 then _ else _) = (if S.length < 2 then _ else _)
    split
    · rfl
    · rename_i h
      have hl := nxt_lt K hS h own
      rw [run_fuel K own n m (nxtS M S own) (hS.flt _) (by omega) (by omega)]
abbrev runS (M : Nat → Nat → Bool) (own : Nat) (S : List Nat) : List Nat × List Nat := run M own S.length S
theorem run_s (K : Mk N M) {own : Nat} {S : List Nat} (hS : Sd N S) (h : ¬ S.length < 2) : runS M own S = (best M S :: (runS M own (nxtS M S own)).1, (runS M own (nxtS M S own)).2) := by
  obtain ⟨n, hn⟩ : ∃ n, S.length = n + 1 := ⟨S.length - 1, by omega⟩
  have hl := nxt_lt K hS h own
  unfold runS
  rw [hn]
  show (if S.length < 2 then _ else _) = _
  rw [if_neg h, run_fuel K own n (nxtS M S own).length (nxtS M S own) (hS.flt _) (by omega) (Nat.le_refl _)]
theorem run_0 {own : Nat} {S : List Nat} (h : S.length < 2) : runS M own S = ([], S) := by
  unfold runS
  cases e : S.length with
  | zero => rfl
  | succ n =>
    show (if S.length < 2 then _ else _) = _
    rw [if_pos h]
theorem one_of {S : List Nat} {own : Nat} (h : own ∈ S) (h2 : S.length < 2) : S = [own] := by
  match S, h, h2 with
  | [a], h, _ => rw [List.mem_singleton] at h; rw [h]
  | _ :: _ :: _, _, h2 => simp at h2; omega
theorem run_end (K : Mk N M) {own : Nat} : ∀ (n : Nat) (S : List Nat), S.length ≤ n → Sd N S → own ∈ S → (runS M own S).2 = [own] ∧ (runS M own S).1.length ≤ S.length
  | 0, S, hn, _, h => by
    have : S = [] := List.eq_nil_of_length_eq_zero (by omega)
    rw [this] at h; cases h
  | n + 1, S, hn, hS, h => by
    by_cases h2 : S.length < 2
    · rw [run_0 h2]; exact ⟨one_of h h2, by simp⟩
    · have hl := nxt_lt K hS h2 own
      obtain ⟨a, b⟩ := run_end K n (nxtS M S own) (by omega) (hS.flt _) (nxt_mem h)
      rw [run_s K hS h2]
      exact ⟨a, by show _ + 1 ≤ _; omega⟩
/-- no way asks less than the least -/
theorem least_run (K : Mk N M) : ∀ (n : Nat) (S : List Nat), S.length ≤ n → Sd N S → S ≠ [] → ∃ own ∈ S, lst M S ≤ ((runS M own S).1.length : Int)
  | 0, S, hn, _, h => absurd (List.eq_nil_of_length_eq_zero (by omega)) h
  | n + 1, S, hn, hS, h => by
    by_cases h2 : S.length < 2
    · cases S with
      | nil => exact absurd rfl h
      | cons a l => exact ⟨a, List.mem_cons_self, by rw [lst_0 h2]; omega⟩
    · obtain ⟨hb, hs, _⟩ := best_in K hS h2
      obtain ⟨a, b, c, d⟩ := spl_lt hs
      have hle : lst M S ≤ 1 + mx2 (lst M (inn M S (best M S))) (lst M (out M S (best M S))) := by
        rw [lst_s h2]
        exact mn_le (List.mem_map.mpr ⟨best M S, List.mem_filter.mpr ⟨hb, hs⟩, rfl⟩)
      obtain ⟨o1, m1, e1⟩ := least_run K n (inn M S (best M S)) (by omega) (hS.flt _) (by intro z; rw [z] at c; simp at c)
      obtain ⟨o2, m2, e2⟩ := least_run K n (out M S (best M S)) (by omega) (hS.flt _) (by intro z; rw [z] at d; simp at d)
      have f1 := List.mem_filter.mp m1
      have f2 := List.mem_filter.mp m2
      have g1 := nxt_t (S := S) f1.2
      have g2 : nxtS M S o2 = out M S (best M S) := nxt_f (by simpa using f2.2)
      have r1 : (runS M o1 S).1.length = (runS M o1 (inn M S (best M S))).1.length + 1 := by rw [run_s K hS h2, g1]; rfl
      have r2 : (runS M o2 S).1.length = (runS M o2 (out M S (best M S))).1.length + 1 := by rw [run_s K hS h2, g2]; rfl
      by_cases hc : lst M (out M S (best M S)) > lst M (inn M S (best M S))
      · refine ⟨o2, f2.1, ?_⟩
        unfold mx2 at hle
        rw [if_pos hc] at hle
        rw [r2]; omega
      · refine ⟨o1, f1.1, ?_⟩
        unfold mx2 at hle
        rw [if_neg hc] at hle
        rw [r1]; omega
end Kk64

set_option Elab.async false
set_option linter.all false
set_option maxRecDepth 100000
set_option maxHeartbeats 4000000
namespace Kk64
open PySem PySem.Spec PyProof.Rows L2 Dl
/-! what a version is made of -/
structure VOk (vs : List (List Nat)) : Prop where
  row : ∀ (k : Nat) (r : List Nat), vs[k]? = some r → r.Nodup ∧ ∀ j ∈ r, j < k
  len : vs.length ≤ 7
  pos : 0 < vs.length
abbrev encV (vs : List (List Nat)) : D := .tup (vs.map tN)
def bfs (vs : List (List Nat)) : Nat → List Nat → Nat → List Nat
  | 0, f, _ => f
  | n + 1, f, a => match f[a]? with
    | none => f
    | some k => bfs vs n (f ++ ((vs[k]?).getD []).filter fun j => !has f j) (a + 1)
structure FI (k0 : Nat) (f : List Nat) : Prop where
  nd : f.Nodup
  le : ∀ x ∈ f, x ≤ k0
  mem : k0 ∈ f
theorem FI.len {k0 : Nat} {f : List Nat} (h : FI k0 f) : f.length ≤ k0 + 1 := by
  have := List.Nodup.length_le_of_subset h.nd (l₂ := List.range (k0 + 1)) fun x hx => List.mem_range.mpr (Nat.lt_succ_of_le (h.le x hx))
  simpa using this
section
variable {vs : List (List Nat)} {k0 : Nat} {f : List Nat} {a k : Nat}
theorem FI.step (V : VOk vs) (h : FI k0 f) (hk : f[a]? = some k) : FI k0 (f ++ ((vs[k]?).getD []).filter fun j => !has f j) := by
  have hkm : k ≤ k0 := h.le k (List.mem_of_getElem? hk)
  cases e : vs[k]? with
  | none => simpa using h
  | some r =>
    obtain ⟨h1, h2⟩ := V.row k r e
    refine ⟨List.nodup_append.mpr ⟨h.nd, h1.filter _, fun x hx y hy => ?_⟩, fun x hx => ?_, List.mem_append_left _ h.mem⟩
    · intro e; subst e
      have := (List.mem_filter.mp hy).2
      rw [has_mem.mpr hx] at this; cases this
    · rcases List.mem_append.mp hx with hx | hx
      · exact h.le x hx
      · have := h2 x (List.mem_filter.mp hx).1; omega
theorem bfs_ok (V : VOk vs) : ∀ (n : Nat) (f : List Nat) (a : Nat), FI k0 f → FI k0 (bfs vs n f a)
  | 0, f, a, h => h
  | n + 1, f, a, h => by
    show FI k0 (match f[a]? with
      | none => f
      | some k => bfs vs n (f ++ ((vs[k]?).getD []).filter fun j => !has f j) (a + 1))
    cases e : f[a]? with
    | none => exact h
    | some k => exact bfs_ok V n _ _ (h.step V e)
end
def made (vs : List (List Nat)) (k : Nat) : List Nat := bfs vs (k + 2) [k] 0
def MM (vs : List (List Nat)) (k j : Nat) : Bool := has (made vs k) j
theorem FI.one (k : Nat) : FI k [k] := ⟨by simp, fun x h => by rw [List.mem_singleton] at h; omega, by simp⟩
theorem made_ok {vs : List (List Nat)} (V : VOk vs) (k : Nat) : FI k (made vs k) := bfs_ok V _ _ _ (.one k)
theorem mk_ok {vs : List (List Nat)} (V : VOk vs) : Mk vs.length (MM vs) := ⟨fun k _ => by
  exact has_mem.mpr (made_ok V k).mem, fun k j _ h => (made_ok V k).le j (has_mem.mp h)⟩
/-! the walk's parts -/
def eStep : EF := (eLC [4] (setN 4) (iSeq (eOp dIx (eVar 0) (eOp dIx (eVar 2) (eVar 3)))) (tVal (eOp (dInG true) (eVar 4) (eVar 2))) (eVar 4))
theorem step_ok {vs : List (List Nat)} (V : VOk vs) {f : List Nat} {a k : Nat} {s1 s4 : Option (D × Bool)} {b : Bool} {w : Option Wd} (hk : f[a]? = some k) (hv : k < vs.length) :
    eStep [some (encV vs, false), s1, some (lN f, b), some (.int (a : Nat), false), s4] w = some ((lN (((vs[k]?).getD []).filter fun j => !has f j), .ow), w) := by
  obtain ⟨r, hr⟩ : ∃ r, vs[k]? = some r := ⟨vs[k], by simp [hv]⟩
  have hl : (r.map iN).length ≤ lim := by
    have h := V.row k r hr
    have := List.Nodup.length_le_of_subset h.1 (l₂ := List.range k) fun x hx => List.mem_range.mpr (h.2 x hx)
    rw [List.length_range] at this
    rw [List.length_map]
    exact le_lim (by have := V.len; omega)
  have h1 : atI (f.map iN) (a : Int) = some (iN k) := by rw [atI_n, List.getElem?_map, hk]; rfl
  have h2 : atI (vs.map tN) (k : Int) = some (tN r) := by rw [atI_n, List.getElem?_map, hr]; rfl
  have h3 := lcL_gen (set := setN 4) (t := tVal (eOp (dInG true) (eVar 4) (eVar 2))) (fe := eVar 4) (env := [some (encV vs, false), s1, some (lN f, b), some (.int (a : Nat), false), none]) (w := w) iN (fun j => !has f j) iN r fun x hx => by
    have h4 := in_l true f x
    refine ⟨[some (encV vs, false), s1, some (lN f, b), some (.int (a : Nat), false), some (iN x, false)], rfl, ?_, fun _ => rfl⟩
    simp -implicitDefEqProofs at h4
    cases b <;> simp -implicitDefEqProofs [h4]
  rw [hr]
  unfold eStep
  cases b <;> simp -implicitDefEqProofs [h1, h2, lcK_q hl, h3]
def cMade : ET := (tVal (eOp dLt (eVar 3) (eA dLen (aCons (eVar 2) aNil))))
def bMadeL : SB := (sUnp (setT [2, 3]) (eTup (aCons (eFz (eOp dAdd (eVar 2) eStep)) (aCons (eFz (eOp dAdd (eVar 3) (eC (.int 1)))) aNil))))
def bMadeP : SB := (sSeq (sExt 2 eStep) (sAug 3 dAddI (eC (.int 1))))
theorem cMade_ok {d : D} {f : List Nat} {a : Nat} {s1 s4 : Option (D × Bool)} {b : Bool} {w : Option Wd} : cMade [some (d, false), s1, some (lN f, b), some (.int (a : Nat), false), s4] w = some (decide (a < f.length), w) := by
  unfold cMade
  have e : ((a : Int) < (f.length : Int)) = (a < f.length) := by apply propext; omega
  cases b <;> simp -implicitDefEqProofs [e]
section
variable {vs : List (List Nat)} {k0 : Nat} {w : Option Wd} {s1 s4 : Option (D × Bool)}
theorem loopL (V : VOk vs) (hk0 : k0 < vs.length) : ∀ (n : Nat) (f : List Nat) (a m : Nat), FI k0 f → k0 + 2 ≤ a + n →
    ∃ a', sWhile cMade bMadeL (m + n + 1) [some (encV vs, false), s1, some (lN f, false), some (.int (a : Nat), false), s4] w = some (.nx [some (encV vs, false), s1, some (lN (bfs vs n f a), false), some (.int (a' : Nat), false), s4] w)
  | 0, f, a, m, h, hn => ⟨a, by
    rw [sWhile_s, cMade_ok, bnd_some, decide_eq_false (by have := h.len; omega)]; rfl⟩
  | n + 1, f, a, m, h, hn => by
    rw [sWhile_s, cMade_ok, bnd_some]
    cases e : f[a]? with
    | none =>
      refine ⟨a, ?_⟩
      rw [decide_eq_false (by have := List.getElem?_eq_none_iff.mp e; omega)]
      show some _ = _
      unfold bfs
      rw [e]
    | some k =>
      have hlt : a < f.length := (List.getElem?_eq_some_iff.mp e).1
      have hkm : k ≤ k0 := h.le k (List.mem_of_getElem? e)
      have h' := h.step V e
      obtain ⟨a', ih⟩ := loopL V hk0 n _ (a + 1) m h' (by omega)
      refine ⟨a', ?_⟩
      have hs := step_ok V (s1 := s1) (s4 := s4) (b := false) (w := w) e (by omega)
      have hlen : ((f.map iN).length) + ((((vs[k]?).getD []).filter fun j => !has f j).map iN).length ≤ lim := by
        have := h'.len
        rw [List.length_append] at this
        rw [List.length_map, List.length_map]
        exact le_lim (by have := V.len; omega)
      have hadd : dAdd (lN f) (lN (((vs[k]?).getD []).filter fun j => !has f j)) = some (lN (f ++ ((vs[k]?).getD []).filter fun j => !has f j), .ow) := by
        show dAdd (.lst (f.map iN)) (.lst _) = some (D.lst ((f ++ _).map iN), O3.ow)
        rw [List.map_append]; exact dAdd_ll hlen
      have hb : bMadeL [some (encV vs, false), s1, some (lN f, false), some (.int (a : Nat), false), s4] w = some (.nx [some (encV vs, false), s1, some (lN (f ++ ((vs[k]?).getD []).filter fun j => !has f j), false), some (.int ((a + 1 : Nat) : Int), false), s4] w) := by
        unfold bMadeL
        generalize lN (f ++ ((vs[k]?).getD []).filter fun j => !has f j) = L at hadd ⊢
        simp -implicitDefEqProofs at hs hadd ⊢
        simp -implicitDefEqProofs [hs, hadd]
      rw [decide_eq_true hlt, whK_t, hb, bnd_some, whP_nx]
      show sWhile cMade bMadeL (m + n + 1) _ w = _
      rw [ih]
      show _ = some (Out.nx [_, _, some (lN (match f[a]? with
        | none => f
        | some k => bfs vs n (f ++ ((vs[k]?).getD []).filter fun j => !has f j) (a + 1)), false), _, _] w)
      rw [e]
theorem loopP (V : VOk vs) (hk0 : k0 < vs.length) : ∀ (n : Nat) (f : List Nat) (a m : Nat), FI k0 f → k0 + 2 ≤ a + n →
    ∃ a', sWhile cMade bMadeP (m + n + 1) [some (encV vs, false), s1, some (lN f, true), some (.int (a : Nat), false), s4] w = some (.nx [some (encV vs, false), s1, some (lN (bfs vs n f a), true), some (.int (a' : Nat), false), s4] w)
  | 0, f, a, m, h, hn => ⟨a, by
    rw [sWhile_s, cMade_ok, bnd_some, decide_eq_false (by have := h.len; omega)]; rfl⟩
  | n + 1, f, a, m, h, hn => by
    rw [sWhile_s, cMade_ok, bnd_some]
    cases e : f[a]? with
    | none =>
      refine ⟨a, ?_⟩
      rw [decide_eq_false (by have := List.getElem?_eq_none_iff.mp e; omega)]
      show some _ = _
      unfold bfs
      rw [e]
    | some k =>
      have hlt : a < f.length := (List.getElem?_eq_some_iff.mp e).1
      have hkm : k ≤ k0 := h.le k (List.mem_of_getElem? e)
      have h' := h.step V e
      obtain ⟨a', ih⟩ := loopP V hk0 n _ (a + 1) m h' (by omega)
      refine ⟨a', ?_⟩
      have hs := step_ok V (s1 := s1) (s4 := s4) (b := true) (w := w) e (by omega)
      have hlen : ((f.map iN).length) + ((((vs[k]?).getD []).filter fun j => !has f j).map iN).length < lim := by
        have := h'.len
        rw [List.length_append] at this
        rw [List.length_map, List.length_map]
        exact lt_lim (by have := V.len; omega)
      have hx : sExt 2 eStep [some (encV vs, false), s1, some (lN f, true), some (.int (a : Nat), false), s4] w = some (.nx [some (encV vs, false), s1, some (lN (f ++ ((vs[k]?).getD []).filter fun j => !has f j), true), some (.int (a : Nat), false), s4] w) := by
        rw [sExt_q (ds := f.map iN) rfl hs hlen, ← List.map_append]; rfl
      have hb : bMadeP [some (encV vs, false), s1, some (lN f, true), some (.int (a : Nat), false), s4] w = some (.nx [some (encV vs, false), s1, some (lN (f ++ ((vs[k]?).getD []).filter fun j => !has f j), true), some (.int ((a + 1 : Nat) : Int), false), s4] w) := by
        unfold bMadeP
        rw [sSeq_q, hx, bnd_some, nxt_nx]
        exact sAug_q rfl rfl rfl
      rw [decide_eq_true hlt, whK_t, hb, bnd_some, whP_nx]
      show sWhile cMade bMadeP (m + n + 1) _ w = _
      rw [ih]
      show _ = some (Out.nx [_, _, some (lN (match f[a]? with
        | none => f
        | some k => bfs vs n (f ++ ((vs[k]?).getD []).filter fun j => !has f j) (a + 1)), true), _, _] w)
      rw [e]
theorem lawMade_ok (V : VOk vs) {k : Nat} (hk : k < vs.length) (w : Option Wd) : f__law_made [encV vs, iN k] w = some ((lN (made vs k), .fz), w) := by
  obtain ⟨a', h⟩ := loopL (s1 := some (iN k, false)) (s4 := none) (w := w) V hk (k + 2) [k] 0 (100000 - (k + 3)) (.one k) (by omega)
  rw [show 100000 - (k + 3) + (k + 2) + 1 = 100000 by have := V.len; omega] at h
  show bnd (b__law_made (startE 5 [encV vs, iN k]) w) endP = _
  have h0 : sUnp (setT [2, 3]) (eTup (aCons (eFz (eLst (aCons (eFz (eVar 1)) aNil))) (aCons (eFz (eC (.int 0))) aNil))) [some (encV vs, false), some (iN k, false), none, none, none] w = some (.nx [some (encV vs, false), some (iN k, false), some (lN [k], false), some (.int ((0 : Nat) : Int), false), none] w) := by
    simp -implicitDefEqProofs
  have hw : sWhile (tVal (eOp dLt (eVar 3) (eA dLen (aCons (eVar 2) aNil)))) (sUnp (setT [2, 3]) (eTup (aCons (eFz (eOp dAdd (eVar 2) (eLC [4] (setN 4) (iSeq (eOp dIx (eVar 0) (eOp dIx (eVar 2) (eVar 3)))) (tVal (eOp (dInG true) (eVar 4) (eVar 2))) (eVar 4)))) (aCons (eFz (eOp dAdd (eVar 3) (eC (.int 1)))) aNil)))) 100000 = sWhile cMade bMadeL 100000 := rfl
  unfold b__law_made
  show bnd (sSeq _ _ [some (encV vs, false), some (iN k, false), none, none, none] w) endP = _
  rw [sSeq_q, h0, bnd_some, nxt_nx, sSeq_q, hw, h, bnd_some, nxt_nx]
  rfl
/-- those of N that it is made of -/
abbrev ml (vs : List (List Nat)) (k : Nat) : List Nat := (List.range vs.length).filter (MM vs k)
theorem madeOf_ok (V : VOk vs) {k : Nat} (hk : k < vs.length) (w : Option Wd) : f_made_of [encV vs, iN k] w = some ((tN (ml vs k), .fz), w) := by
  obtain ⟨a', h⟩ := loopP (s1 := some (iN k, false)) (s4 := none) (w := w) V hk (k + 2) [k] 0 (100000 - (k + 3)) (.one k) (by omega)
  rw [show 100000 - (k + 3) + (k + 2) + 1 = 100000 by have := V.len; omega] at h
  show bnd (b_made_of (startE 5 [encV vs, iN k]) w) endP = _
  have hw : sWhile (tVal (eOp dLt (eVar 3) (eA dLen (aCons (eVar 2) aNil)))) (sSeq (sExt 2 (eLC [4] (setN 4) (iSeq (eOp dIx (eVar 0) (eOp dIx (eVar 2) (eVar 3)))) (tVal (eOp (dInG true) (eVar 4) (eVar 2))) (eVar 4))) (sAug 3 dAddI (eC (.int 1)))) 100000 = sWhile cMade bMadeP 100000 := rfl
  unfold b_made_of
  show bnd (sSeq (sSet 2 _) _ [some (encV vs, false), some (iN k, false), none, none, none] w) endP = _
  have h0 : sSet 2 (eLst (aCons (eFz (eVar 1)) aNil)) [some (encV vs, false), some (iN k, false), none, none, none] w = some (.nx [some (encV vs, false), some (iN k, false), some (lN [k], true), none, none] w) := by
    simp -implicitDefEqProofs
  have h1 : sSet 3 (eC (.int 0)) [some (encV vs, false), some (iN k, false), some (lN [k], true), none, none] w = some (.nx [some (encV vs, false), some (iN k, false), some (lN [k], true), some (.int ((0 : Nat) : Int), false), none] w) := rfl
  have F := made_ok V k
  have hl := F.len
  have hsr := dSrt_N (made vs k) (by have := V.len; omega)
  rw [srtN_eq (N := vs.length) F.nd fun x hx => by have := F.le x hx; omega] at hsr
  rw [sSeq_q, h0, bnd_some, nxt_nx, sSeq_q, h1, bnd_some, nxt_nx, sSeq_q, hw, h, bnd_some, nxt_nx]
  show bnd (sRet _ [_, _, some (lN (made vs k), true), _, _] w) endP = _
  generalize lN (made vs k) = L at hsr ⊢
  simp -implicitDefEqProofs [hsr]
  rfl
end
end Kk64

set_option Elab.async false
set_option linter.all false
set_option maxRecDepth 100000
set_option maxHeartbeats 4000000
namespace Kk64
open PySem PySem.Spec PyProof.Rows L2 Dl
/-! the program's splitting -/
theorem Sd.len {N : Nat} {S : List Nat} (h : Sd N S) : S.length ≤ N := by
  have hn : S.Nodup := h.up.imp fun h => by omega
  have := List.Nodup.length_le_of_subset hn (l₂ := List.range N) fun x hx => List.mem_range.mpr (h.lt x hx)
  simpa using this
/-- a comprehension over numbers -/
theorem lc_N {set : ESet} {t : ET} {env : En} {w : Option Wd} {fe : EF} (p : Nat → Bool) (S : List Nat) (h : ∀ j ∈ S, ∃ e1, set (iN j) env = some e1 ∧ t e1 w = some (p j, w) ∧ fe e1 w = some ((iN j, .fz), w)) : lcL set t fe (S.map iN) env w = some ((S.filter p).map iN, w) :=
  lcL_gen iN p iN S fun j hj => by
    obtain ⟨e1, h1, h2, h3⟩ := h j hj
    exact ⟨e1, h1, h2, fun _ => by rw [eFz_q, h3]; rfl⟩
theorem lim_N {S : List Nat} (h : S.length ≤ 1000) : (S.map iN).length ≤ lim := le_lim (by rw [List.length_map]; omega)
section
variable {vs : List (List Nat)} {S : List Nat} {k : Nat} {w : Option Wd}
theorem has_ml {j : Nat} (hj : j < vs.length) : has (ml vs k) j = MM vs k j := by
  cases e : MM vs k j with
  | true => exact has_mem.mpr (List.mem_filter.mpr ⟨List.mem_range.mpr hj, e⟩)
  | false =>
    cases e2 : has (ml vs k) j with
    | false => rfl
    | true =>
      have := (List.mem_filter.mp (has_mem.mp e2)).2
      rw [e] at this; cases this
theorem leftBy_ok (V : VOk vs) (hS : Sd vs.length S) (hk : k < vs.length) (b : Bool) : f_left_by [encV vs, tN S, iN k, .bl b] w = some ((tN (S.filter fun j => MM vs k j == b), .fz), w) := by
  have h1 := madeOf_ok V hk w
  have hl := hS.len
  have hl2 := V.len
  have h2 := lc_N (set := setN 5) (t := (tVal (eOp dEq (eOp (dInG false) (eVar 5) (eVar 4)) (eVar 3)))) (fe := eVar 5) (env := [some (encV vs, false), some (tN S, false), some (iN k, false), some (.bl b, false), some (tN (ml vs k), false), none]) (w := w) (fun j => MM vs k j == b) S fun j hj => by
    refine ⟨[some (encV vs, false), some (tN S, false), some (iN k, false), some (.bl b, false), some (tN (ml vs k), false), some (iN j, false)], rfl, ?_, rfl⟩
    have h3 := in_t false (ml vs k) j
    rw [has_ml (hS.lt j hj)] at h3
    generalize tN (ml vs k) = L at h3 ⊢
    simp -implicitDefEqProofs at h3
    simp -implicitDefEqProofs [h3]
  generalize tN (ml vs k) = L at h1 h2
  unfold f_left_by b_left_by
  try simp -implicitDefEqProofs at h1 h2
  simp -implicitDefEqProofs [h1, h2, lcK_q (lim_N (show S.length ≤ 1000 by omega))]
theorem splitBy_ok (V : VOk vs) (hS : Sd vs.length S) (hk : k < vs.length) : f_split_by [encV vs, tN S, iN k] w = some ((.int (inn (MM vs) S k).length, .fz), w) := by
  have h1 := madeOf_ok V hk w
  have hl := hS.len
  have hl2 := V.len
  have h2 := lc_N (set := setN 4) (t := (tVal (eOp (dInG false) (eVar 4) (eVar 3)))) (fe := eVar 4) (env := [some (encV vs, false), some (tN S, false), some (iN k, false), some (tN (ml vs k), false), none]) (w := w) (MM vs k) S fun j hj => by
    refine ⟨[some (encV vs, false), some (tN S, false), some (iN k, false), some (tN (ml vs k), false), some (iN j, false)], rfl, ?_, rfl⟩
    have h3 := in_t false (ml vs k) j
    rw [has_ml (hS.lt j hj)] at h3
    generalize tN (ml vs k) = L at h3 ⊢
    simp -implicitDefEqProofs at h3
    simp -implicitDefEqProofs [h3]
  generalize tN (ml vs k) = L at h1 h2
  unfold f_split_by b_split_by
  try simp -implicitDefEqProofs at h1 h2
  simp -implicitDefEqProofs [h1, h2, lcK_q (lim_N (show S.length ≤ 1000 by omega))]
/-! best_ask -/
def bBest : SB := (sSeq (sSet 5 (eCall f_split_by (aCons (eFz (eVar 0)) (aCons (eFz (eVar 1)) (aCons (eFz (eVar 4)) aNil))))) (sIf ((tAn (tVal (eOp (dInG true) (eVar 4) (eVar 2))) (tVal (eCh dLt dLt (eC (.int 0)) (eVar 5) (eA dLen (aCons (eVar 1) aNil)))))) (sApp 3 (eTup (aCons (eFz (eUn dNeg (eA dMin2 (aCons (eVar 5) (aCons (eOp dSub (eA dLen (aCons (eVar 1) aNil)) (eVar 5)) aNil))))) (aCons (eFz (eVar 4)) aNil)))) (sNil)))
abbrev BE (vs : List (List Nat)) (S : List Nat) (r : List (Int × Nat)) (s4 s5 : Option (D × Bool)) : En := [some (encV vs, false), some (tN S, false), some (.tup [], false), some (.lst (r.map pD), true), s4, s5]
theorem in_nil (j : Nat) : els2 (dIn true) (dInS true) (iN j) (.tup []) = some (.bl true, .fz) := rfl
theorem bBest_ok (V : VOk vs) (hS : Sd vs.length S) (hk : k ∈ S) (r : List (Int × Nat)) (hr : r.length ≤ 1000) (s5 : Option (D × Bool)) :
    ∃ t5, bBest (BE vs S r (some (iN k, false)) s5) w = some (.nx (BE vs S (if spl (MM vs) S k = true then r ++ [(val (MM vs) S k, k)] else r) (some (iN k, false)) t5) w) := by
  have h1 := splitBy_ok (w := w) V hS (hS.lt k hk)
  have hsl := spl_len (M := MM vs) (S := S) (k := k)
  have h2 := in_nil k
  generalize hi : (inn (MM vs) S k).length = i at h1 hsl
  generalize ho : (out (MM vs) S k).length = o at hsl
  have hsp : spl (MM vs) S k = (decide (0 < i) && decide (0 < o)) := by
    unfold spl
    congr 1
    · cases e : inn (MM vs) S k with
      | nil => rw [e] at hi; subst hi; rfl
      | cons a l => rw [e] at hi; subst hi; simp
    · cases e : out (MM vs) S k with
      | nil => rw [e] at ho; subst ho; rfl
      | cons a l => rw [e] at ho; subst ho; simp
  have hv : val (MM vs) S k = -(if (o : Int) < i then (o : Int) else i) := by
    unfold val mi2
    rw [hi, ho]; omega
  have hlim : (r.map pD).length < lim := lt_lim (by rw [List.length_map]; omega)
  have hso : (S.length : Int) - i = o := by omega
  refine ⟨some (.int (i : Nat), false), ?_⟩
  unfold bBest
  try simp -implicitDefEqProofs at h1 h2
  by_cases c1 : 0 < i
  · have c1' : (0 : Int) < i := by omega
    by_cases c2 : 0 < o
    · have c2' : i < S.length := by omega
      have hs2 : spl (MM vs) S k = true := by rw [hsp]; simp [c1, c2]
      rw [if_pos hs2, hv]
      simp only [List.length_map] at hlim
      simp -implicitDefEqProofs [h1, h2, c1, c2', hlim, hso, pD]
    · have c2' : ¬ i < S.length := by omega
      have hs2 : ¬ spl (MM vs) S k = true := by rw [hsp]; simp [c2]
      rw [if_neg hs2]
      simp -implicitDefEqProofs [h1, h2, c1, c2']
  · have c1' : ¬ (0 : Int) < i := by omega
    have hs2 : ¬ spl (MM vs) S k = true := by rw [hsp]; simp [c1]
    rw [if_neg hs2]
    simp -implicitDefEqProofs [h1, h2, c1]
def bestD (vs : List (List Nat)) (S : List Nat) : D := if S.length < 2 then .non else iN (best (MM vs) S)
theorem loopB (V : VOk vs) (hS : Sd vs.length S) : ∀ (T : List Nat) (r : List (Int × Nat)) (s4 s5 : Option (D × Bool)), (∀ k ∈ T, k ∈ S) → r.length + T.length ≤ 1000 →
    ∃ t4 t5, forL (setN 4) bBest (T.map iN) (BE vs S r s4 s5) w = some (.nx (BE vs S (r ++ prs (MM vs) S (T.filter (spl (MM vs) S))) t4 t5) w)
  | [], r, s4, s5, _, _ => ⟨s4, s5, by simp [prs]⟩
  | k :: T, r, s4, s5, h, hl => by
    obtain ⟨t5, h1⟩ := bBest_ok (w := w) V hS (h k List.mem_cons_self) r (by simp at hl; omega) s5
    have hl2 : (if spl (MM vs) S k = true then r ++ [(val (MM vs) S k, k)] else r).length + T.length ≤ 1000 := by
      split
      · simp at hl ⊢; omega
      · simp at hl ⊢; omega
    obtain ⟨t4', t5', h2⟩ := loopB V hS T (if spl (MM vs) S k = true then r ++ [(val (MM vs) S k, k)] else r) (some (iN k, false)) t5 (fun j hj => h j (List.mem_cons_of_mem _ hj)) hl2
    refine ⟨t4', t5', ?_⟩
    rw [List.map_cons, forL_cons]
    show bnd (some (BE vs S r (some (iN k, false)) s5)) (forK2 (setN 4) bBest (T.map iN) w) = _
    rw [bnd_some, forK2_q, h1, bnd_some, forP_nx, h2]
    cases e : spl (MM vs) S k with
    | true => rw [List.filter_cons_of_pos e]; simp [prs]
    | false => rw [List.filter_cons_of_neg (by simp [e])]; simp
theorem fine_prs (l : List (Int × Nat)) : fine 64 (.lst (l.map pD)) = true := by
  rw [fine_lst]
  intro d hd
  obtain ⟨p, _, rfl⟩ := List.mem_map.mp hd
  unfold pD
  rw [fine_tup]
  intro x hx
  rcases List.mem_cons.mp hx with e | hx
  · subst e; exact fine_int
  · rw [List.mem_singleton] at hx; subst hx; exact fine_int
theorem best_ok (V : VOk vs) (hS : Sd vs.length S) : f_best_ask [encV vs, tN S, .tup []] w = some ((bestD vs S, .fz), w) := by
  have hl := hS.len
  have hl2 := V.len
  obtain ⟨t4, t5, h1⟩ := loopB (w := w) V hS S [] none none (fun k hk => hk) (by simp; omega)
  rw [List.nil_append] at h1
  have hp : bnd (sRet (eIf (tVal (eOp dNe (eVar 3) (eLst aNil))) (eOp dIx (eA dMinL (aCons (eVar 3) aNil)) (eC (.int 1))) (eC .non)) (BE vs S (prs (MM vs) S (S.filter (spl (MM vs) S))) t4 t5) w) endP = some ((bestD vs S, .fz), w) := by
    unfold bestD
    by_cases h2 : S.length < 2
    · have e : S.filter (spl (MM vs) S) = [] := List.filter_eq_nil_iff.mpr fun k hk hs => by
        obtain ⟨a, b, c, d⟩ := spl_lt hs
        omega
      have h3 := dNe_lnil (fine_prs [])
      rw [e, if_pos h2]
      simp -implicitDefEqProofs at h3
      simp -implicitDefEqProofs [prs, h3]
    · obtain ⟨_, _, p, r, e, eb⟩ := best_in (mk_ok V) hS h2
      have h3 := dNe_lnil (fine_prs (p :: r))
      have h4 := dMin_p p r
      rw [e, if_neg h2, ← eb]
      generalize mnP p r = q at h4
      simp -implicitDefEqProofs at h3
      simp -implicitDefEqProofs [h3, h4]
      simp -implicitDefEqProofs [pD]
  show bnd (b_best_ask f_split_by (startE 6 [encV vs, tN S, .tup []]) w) endP = _
  unfold b_best_ask
  have hfor : sFor (setN 4) (iSeq (eFz (eVar 1))) (sSeq (sSet 5 (eCall f_split_by (aCons (eFz (eVar 0)) (aCons (eFz (eVar 1)) (aCons (eFz (eVar 4)) aNil))))) (sIf ((tAn (tVal (eOp (dInG true) (eVar 4) (eVar 2))) (tVal (eCh dLt dLt (eC (.int 0)) (eVar 5) (eA dLen (aCons (eVar 1) aNil)))))) (sApp 3 (eTup (aCons (eFz (eUn dNeg (eA dMin2 (aCons (eVar 5) (aCons (eOp dSub (eA dLen (aCons (eVar 1) aNil)) (eVar 5)) aNil))))) (aCons (eFz (eVar 4)) aNil)))) (sNil))) (BE vs S [] none none) w = some (.nx (BE vs S (prs (MM vs) S (S.filter (spl (MM vs) S))) t4 t5) w) := by
    rw [← h1]
    rfl
  show bnd (sSeq (sSet 3 (eLst aNil)) _ [some (encV vs, false), some (tN S, false), some (.tup [], false), none, none, none] w) endP = _
  rw [sSeq_q]
  show bnd (bnd (some (Out.nx (BE vs S [] none none) w)) _) endP = _
  rw [bnd_some, nxt_nx, sSeq_q, hfor, bnd_some, nxt_nx, hp]
end
end Kk64

set_option Elab.async false
set_option linter.all false
set_option maxRecDepth 100000
set_option maxHeartbeats 4000000
namespace Kk64
open PySem PySem.Spec PyProof.Rows L2 Dl
section
variable {vs : List (List Nat)} {S : List Nat} {k : Nat} {w : Option Wd}
/-! asks_for -/
def cAsk : ET := (tVal (eOp (dIs true) (eVar 5) (eC .non)))
def bAsk : SB := (sSeq (sFrz [5] (sApp 4 (eVar 5))) (sSeq (sFrz [1, 5] (sSet 1 (eCall f_left_by (aCons (eFz (eVar 0)) (aCons (eFz (eVar 1)) (aCons (eFz (eVar 5)) (aCons (eFz (eOp (dInG false) (eVar 3) (eCall f_made_of (aCons (eFz (eVar 0)) (aCons (eFz (eVar 5)) aNil))))) aNil))))))) (sFrz [1] (sSet 5 (eCall f_best_ask (aCons (eFz (eVar 0)) (aCons (eFz (eVar 1)) (aCons (eFz (eVar 2)) aNil))))))))
abbrev AE (vs : List (List Nat)) (S : List Nat) (own : Nat) (f : List Nat) : En := [some (encV vs, false), some (tN S, false), some (.tup [], false), some (iN own, false), some (lN f, true), some (bestD vs S, false)]
theorem bestD_ge (h : ¬ S.length < 2) : bestD vs S = iN (best (MM vs) S) := if_neg h
theorem bestD_lt (h : S.length < 2) : bestD vs S = .non := if_pos h
theorem bAsk_ok (V : VOk vs) (hS : Sd vs.length S) (h2 : ¬ S.length < 2) {own : Nat} (ho : own < vs.length) {f : List Nat} (hf : f.length ≤ 100) :
    bAsk (AE vs S own f) w = some (.nx (AE vs (nxtS (MM vs) S own) own (f ++ [best (MM vs) S])) w) := by
  obtain ⟨hb, _, _⟩ := best_in (mk_ok V) hS h2
  have hbl := hS.lt _ hb
  have h3 := best_ok (w := w) V (hS.flt fun j => MM vs (best (MM vs) S) j == MM vs (best (MM vs) S) own)
  have h4 := leftBy_ok (w := w) V hS hbl (MM vs (best (MM vs) S) own)
  have h5 := madeOf_ok V hbl w
  have h6 := in_t false (ml vs (best (MM vs) S)) own
  rw [has_ml ho] at h6
  have e7 : AE vs (nxtS (MM vs) S own) own (f ++ [best (MM vs) S]) = [some (encV vs, false), some (tN (S.filter fun j => MM vs (best (MM vs) S) j == MM vs (best (MM vs) S) own), false), some (.tup [], false), some (iN own, false), some (.lst (f.map iN ++ [iN (best (MM vs) S)]), true), some (bestD vs (S.filter fun j => MM vs (best (MM vs) S) j == MM vs (best (MM vs) S) own), false)] := by
    unfold AE lN nxtS
    rw [List.map_append]; rfl
  have hlim : (f.map iN).length < lim := lt_lim (by rw [List.length_map]; omega)
  simp only [List.length_map] at hlim
  rw [e7]
  unfold AE
  rw [bestD_ge h2]
  generalize best (MM vs) S = b at *
  generalize MM vs b own = c at *
  generalize bestD vs (S.filter fun j => MM vs b j == c) = B at *
  generalize tN (S.filter fun j => MM vs b j == c) = L2 at *
  generalize tN (ml vs b) = L at h5 h6
  unfold bAsk
  try simp -implicitDefEqProofs at h3 h4 h5 h6
  simp -implicitDefEqProofs [h3, h4, h5, h6, hlim]
theorem cAsk_ok {own : Nat} {f : List Nat} : cAsk (AE vs S own f) w = some (decide (¬ S.length < 2), w) := by
  unfold cAsk AE
  by_cases h : S.length < 2
  · rw [bestD_lt h]; simp -implicitDefEqProofs; omega
  · rw [bestD_ge h]; simp -implicitDefEqProofs; omega
theorem loopA (V : VOk vs) {own : Nat} (ho : own < vs.length) : ∀ (n m : Nat) (S f : List Nat), Sd vs.length S → S.length ≤ n → f.length + n ≤ 100 →
    sWhile cAsk bAsk (m + n + 1) (AE vs S own f) w = some (.nx (AE vs (runS (MM vs) own S).2 own (f ++ (runS (MM vs) own S).1)) w)
  | 0, m, S, f, hS, hn, hf => by
    rw [sWhile_s, cAsk_ok, bnd_some, decide_eq_false (by omega), run_0 (by omega), List.append_nil]; rfl
  | n + 1, m, S, f, hS, hn, hf => by
    rw [sWhile_s, cAsk_ok, bnd_some]
    by_cases h : S.length < 2
    · rw [decide_eq_false (by omega), run_0 h, List.append_nil]; rfl
    · have hl := nxt_lt (mk_ok V) hS h own
      have ih := loopA V ho n m (nxtS (MM vs) S own) (f ++ [best (MM vs) S]) (hS.flt _) (by omega) (by simp; omega)
      rw [decide_eq_true h, whK_t, bAsk_ok V hS h ho (by omega), bnd_some, whP_nx]
      show sWhile cAsk bAsk (m + n + 1) _ w = _
      rw [ih, run_s (mk_ok V) hS h, List.append_assoc]; rfl
theorem asksFor_ok (V : VOk vs) (hS : Sd vs.length S) {own : Nat} (ho : own < vs.length) : f_asks_for [encV vs, tN S, .tup [], iN own] w = some ((.tup [tN (runS (MM vs) own S).1, tN (runS (MM vs) own S).2], .fz), w) := by
  have hl := hS.len
  have hl2 := V.len
  have h1 := loopA (w := w) V ho S.length (100000 - (S.length + 1)) S [] hS (Nat.le_refl _) (by simp; omega)
  rw [show 100000 - (S.length + 1) + S.length + 1 = 100000 by omega, List.nil_append] at h1
  have h2 := best_ok (w := w) V hS
  have hw : sWhile (tVal (eOp (dIs true) (eVar 5) (eC .non))) (sSeq (sFrz [5] (sApp 4 (eVar 5))) (sSeq (sFrz [1, 5] (sSet 1 (eCall f_left_by (aCons (eFz (eVar 0)) (aCons (eFz (eVar 1)) (aCons (eFz (eVar 5)) (aCons (eFz (eOp (dInG false) (eVar 3) (eCall f_made_of (aCons (eFz (eVar 0)) (aCons (eFz (eVar 5)) aNil))))) aNil))))))) (sFrz [1] (sSet 5 (eCall f_best_ask (aCons (eFz (eVar 0)) (aCons (eFz (eVar 1)) (aCons (eFz (eVar 2)) aNil)))))))) 100000 = sWhile cAsk bAsk 100000 := rfl
  show bnd (b_asks_for f_best_ask f_made_of f_left_by [some (encV vs, false), some (tN S, false), some (.tup [], false), some (iN own, false), none, none] w) endP = _
  have hb : sFrz [1] (sSet 5 (eCall f_best_ask (aCons (eFz (eVar 0)) (aCons (eFz (eVar 1)) (aCons (eFz (eVar 2)) aNil))))) [some (encV vs, false), some (tN S, false), some (.tup [], false), some (iN own, false), some (lN [], true), none] w = some (.nx (AE vs S own []) w) := by
    unfold AE
    generalize bestD vs S = B at *
    try simp -implicitDefEqProofs at h2
    simp -implicitDefEqProofs [h2]
  unfold b_asks_for
  rw [sSeq_q]
  show bnd (bnd (some (Out.nx [some (encV vs, false), some (tN S, false), some (.tup [], false), some (iN own, false), some (lN [], true), none] w)) _) endP = _
  rw [bnd_some, nxt_nx, sSeq_q, hb, bnd_some, nxt_nx, sSeq_q, hw, h1, bnd_some, nxt_nx]
  unfold AE
  generalize bestD vs (runS (MM vs) own S).2 = B
  simp -implicitDefEqProofs
/-! most_asks -/
def cnt (vs : List (List Nat)) (S : List Nat) : List Int := S.map fun own => ((runS (MM vs) own S).1.length : Int)
theorem most_ok (V : VOk vs) (hS : Sd vs.length S) (hne : S ≠ []) : f_most_asks [encV vs, tN S, .tup []] w = some ((.int (mx (cnt vs S)), .fz), w) := by
  have hl := hS.len
  have hl2 := V.len
  have h1 := lcL_all (set := setN 3) (fe := (eA dLen (aCons (eOp dIx (eCall f_asks_for (aCons (eFz (eVar 0)) (aCons (eFz (eVar 1)) (aCons (eFz (eVar 2)) (aCons (eFz (eVar 3)) aNil))))) (eC (.int 0))) aNil))) (env := [some (encV vs, false), some (tN S, false), some (.tup [], false), none]) (w := w) iN (fun own => D.int ((runS (MM vs) own S).1.length : Int)) S fun j hj => by
    refine ⟨[some (encV vs, false), some (tN S, false), some (.tup [], false), some (iN j, false)], rfl, ?_⟩
    have h2 := asksFor_ok (w := w) V hS (hS.lt j hj)
    generalize tN (runS (MM vs) j S).2 = B at h2
    try simp -implicitDefEqProofs at h2
    simp -implicitDefEqProofs [h2]
  have e : S.map (fun own => D.int ((runS (MM vs) own S).1.length : Int)) = (cnt vs S).map D.int := by unfold cnt; rw [List.map_map]; rfl
  rw [e] at h1
  have h3 := dMax_i (xs := cnt vs S) (by unfold cnt; simpa using hne)
  generalize mx (cnt vs S) = m at *
  generalize (cnt vs S).map D.int = C at *
  unfold f_most_asks b_most_asks
  try simp -implicitDefEqProofs at h1
  simp -implicitDefEqProofs [h1, h3, lcK_q (lim_N (show S.length ≤ 1000 by omega))]
/-! least_asks -/
def bLe (F : Fn) : SB := (sSeq (sSet 4 (eCall f_left_by (aCons (eFz (eVar 0)) (aCons (eFz (eVar 1)) (aCons (eFz (eVar 3)) (aCons (eFz (eC (.bl true))) aNil)))))) (sSeq (sSet 5 (eCall f_left_by (aCons (eFz (eVar 0)) (aCons (eFz (eVar 1)) (aCons (eFz (eVar 3)) (aCons (eFz (eC (.bl false))) aNil)))))) (sIf ((tAn (tVal (eOp dNe (eVar 4) (eTup aNil))) (tVal (eOp dNe (eVar 5) (eTup aNil))))) (sFrz [4, 5] (sApp 2 (eOp dAdd (eC (.int 1)) (eA dMax2 (aCons (eCall F (aCons (eFz (eVar 0)) (aCons (eFz (eVar 4)) aNil))) (aCons (eCall F (aCons (eFz (eVar 0)) (aCons (eFz (eVar 5)) aNil))) aNil)))))) (sNil))))
abbrev LE (vs : List (List Nat)) (S : List Nat) (r : List Int) (s3 s4 s5 : Option (D × Bool)) : En := [some (encV vs, false), some (tN S, false), some (.lst (r.map D.int), true), s3, s4, s5]
def lv (vs : List (List Nat)) (S : List Nat) (k : Nat) : Int := 1 + mx2 (lst (MM vs) (inn (MM vs) S k)) (lst (MM vs) (out (MM vs) S k))
theorem inn_eq : (S.filter fun j => MM vs k j == true) = inn (MM vs) S k := List.filter_congr fun j _ => by cases MM vs k j <;> rfl
theorem out_eq : (S.filter fun j => MM vs k j == false) = out (MM vs) S k := List.filter_congr fun j _ => by cases MM vs k j <;> rfl
theorem ne_tN (S : List Nat) : els2 (dEqF true) (dEqD true) (tN S) (.tup []) = some (.bl (!S.isEmpty), .fz) := by
  have e1 := dNe_tnil (fine_tN S 63)
  rw [List.isEmpty_map] at e1
  exact e1
theorem bLe_ok (V : VOk vs) (hS : Sd vs.length S) (hk : k ∈ S) (F : Fn) (hF : ∀ T w, Sd vs.length T → T.length < S.length → F [encV vs, tN T] w = some ((.int (lst (MM vs) T), .fz), w)) (r : List Int) (hr : r.length ≤ 1000) (s4 s5 : Option (D × Bool)) :
    ∃ t4 t5, bLe F (LE vs S r (some (iN k, false)) s4 s5) w = some (.nx (LE vs S (if spl (MM vs) S k = true then r ++ [lv vs S k] else r) (some (iN k, false)) t4 t5) w) := by
  have h1 := leftBy_ok (w := w) V hS (hS.lt k hk) true
  have h2 := leftBy_ok (w := w) V hS (hS.lt k hk) false
  rw [inn_eq] at h1
  rw [out_eq] at h2
  refine ⟨some (tN (inn (MM vs) S k), false), some (tN (out (MM vs) S k), false), ?_⟩
  have e1 := ne_tN (inn (MM vs) S k)
  have e2 := ne_tN (out (MM vs) S k)
  have hlim : r.length < lim := lt_lim (by omega)
  by_cases hs : spl (MM vs) S k = true
  · obtain ⟨a, b, c, d⟩ := spl_lt hs
    have f1 := hF (inn (MM vs) S k) w (hS.flt _) a
    have f2 := hF (out (MM vs) S k) w (hS.flt _) b
    have hv : lv vs S k = 1 + (if lst (MM vs) (out (MM vs) S k) > lst (MM vs) (inn (MM vs) S k) then lst (MM vs) (out (MM vs) S k) else lst (MM vs) (inn (MM vs) S k)) := rfl
    have hs' := hs
    unfold spl at hs'
    rw [Bool.and_eq_true] at hs'
    rw [hs'.1] at e1
    rw [hs'.2] at e2
    rw [if_pos hs, hv]
    generalize lst (MM vs) (out (MM vs) S k) = x at *
    generalize lst (MM vs) (inn (MM vs) S k) = y at *
    generalize tN (out (MM vs) S k) = L1 at *
    generalize tN (inn (MM vs) S k) = L2 at *
    unfold bLe LE
    try simp -implicitDefEqProofs at e1 e2
    simp -implicitDefEqProofs [h1, h2, e1, e2, f1, f2, hlim]
  · rw [if_neg hs]
    have hs' : (!(inn (MM vs) S k).isEmpty) = false ∨ (!(out (MM vs) S k).isEmpty) = false := by
      unfold spl at hs
      rw [Bool.not_eq_true, Bool.and_eq_false_iff] at hs
      exact hs
    rcases hs' with h | h
    · rw [h] at e1
      generalize tN (out (MM vs) S k) = L1 at *
      generalize tN (inn (MM vs) S k) = L2 at *
      unfold bLe LE
      try simp -implicitDefEqProofs at e1
      simp -implicitDefEqProofs [h1, h2, e1]
    · rw [h] at e2
      cases hi : (!(inn (MM vs) S k).isEmpty) with
      | false =>
        rw [hi] at e1
        generalize tN (out (MM vs) S k) = L1 at *
        generalize tN (inn (MM vs) S k) = L2 at *
        unfold bLe LE
        try simp -implicitDefEqProofs at e1
        simp -implicitDefEqProofs [h1, h2, e1]
      | true =>
        rw [hi] at e1
        generalize tN (out (MM vs) S k) = L1 at *
        generalize tN (inn (MM vs) S k) = L2 at *
        unfold bLe LE
        try simp -implicitDefEqProofs at e1 e2
        simp -implicitDefEqProofs [h1, h2, e1, e2]
theorem loopLe (V : VOk vs) (hS : Sd vs.length S) (F : Fn) (hF : ∀ T w, Sd vs.length T → T.length < S.length → F [encV vs, tN T] w = some ((.int (lst (MM vs) T), .fz), w)) : ∀ (T : List Nat) (r : List Int) (s3 s4 s5 : Option (D × Bool)), (∀ k ∈ T, k ∈ S) → r.length + T.length ≤ 1000 →
    ∃ t3 t4 t5, forL (setN 3) (bLe F) (T.map iN) (LE vs S r s3 s4 s5) w = some (.nx (LE vs S (r ++ (T.filter (spl (MM vs) S)).map (lv vs S)) t3 t4 t5) w)
  | [], r, s3, s4, s5, _, _ => ⟨s3, s4, s5, by simp⟩
  | k :: T, r, s3, s4, s5, h, hl => by
    obtain ⟨t4, t5, h1⟩ := bLe_ok (w := w) V hS (h k List.mem_cons_self) F hF r (by simp at hl; omega) s4 s5
    have hl2 : (if spl (MM vs) S k = true then r ++ [lv vs S k] else r).length + T.length ≤ 1000 := by
      split
      · simp at hl ⊢; omega
      · simp at hl ⊢; omega
    obtain ⟨t3', t4', t5', h2⟩ := loopLe V hS F hF T (if spl (MM vs) S k = true then r ++ [lv vs S k] else r) (some (iN k, false)) t4 t5 (fun j hj => h j (List.mem_cons_of_mem _ hj)) hl2
    refine ⟨t3', t4', t5', ?_⟩
    rw [List.map_cons, forL_cons]
    show bnd (some (LE vs S r (some (iN k, false)) s4 s5)) (forK2 (setN 3) (bLe F) (T.map iN) w) = _
    rw [bnd_some, forK2_q, h1, bnd_some, forP_nx, h2]
    cases e : spl (MM vs) S k with
    | true => rw [List.filter_cons_of_pos e]; simp
    | false => rw [List.filter_cons_of_neg (by simp [e])]; simp
theorem leastAsks_ok (V : VOk vs) : ∀ (n : Nat) (S : List Nat) (w : Option Wd), Sd vs.length S → S.length ≤ n → f_least_asks (n + 1) [encV vs, tN S] w = some ((.int (lst (MM vs) S), .fz), w) := by
  intro n
  induction n with
  | zero =>
    intro S w hS hn
    rw [lst_0 (by omega)]
    have h0 : (S.length : Int) < 2 := by omega
    show bnd (b_least_asks (f_least_asks 0) f_left_by (startE 6 [encV vs, tN S]) w) endP = _
    unfold b_least_asks
    have h0' : S.length < 2 := by omega
    simp -implicitDefEqProofs [h0, h0']
  | succ n ih =>
    intro S w hS hn
    have hl := hS.len
    have hl2 := V.len
    show bnd (b_least_asks (f_least_asks (n + 1)) f_left_by (startE 6 [encV vs, tN S]) w) endP = _
    by_cases h2 : S.length < 2
    · rw [lst_0 h2]
      have h0 : (S.length : Int) < 2 := by omega
      unfold b_least_asks
      simp -implicitDefEqProofs [h0, h2]
    · have h0 : ¬ (S.length : Int) < 2 := by omega
      obtain ⟨t3, t4, t5, h1⟩ := loopLe (w := w) V hS (f_least_asks (n + 1)) (fun T w hT hl => ih T w hT (by omega)) S [] none none none (fun k hk => hk) (by simp; omega)
      rw [List.nil_append] at h1
      have h3 : lst (MM vs) S = mn ((S.filter (spl (MM vs) S)).map (lv vs S)) := lst_s h2
      have h4 := dMin_i (xs := (S.filter (spl (MM vs) S)).map (lv vs S)) (fun e => spl_ne (mk_ok V) hS h2 (List.map_eq_nil_iff.mp e))
      rw [← h3] at h4
      unfold b_least_asks
      have hif : sIf (tVal (eOp dLt (eA dLen (aCons (eVar 1) aNil)) (eC (.int 2)))) (sRet (eC (.int 0))) (sNil) [some (encV vs, false), some (tN S, false), none, none, none, none] w = some (.nx [some (encV vs, false), some (tN S, false), none, none, none, none] w) := by
        simp -implicitDefEqProofs [h0, h2]
      have hfor : sFor (setN 3) (iSeq (eFz (eVar 1))) (sSeq (sSet 4 (eCall f_left_by (aCons (eFz (eVar 0)) (aCons (eFz (eVar 1)) (aCons (eFz (eVar 3)) (aCons (eFz (eC (.bl true))) aNil)))))) (sSeq (sSet 5 (eCall f_left_by (aCons (eFz (eVar 0)) (aCons (eFz (eVar 1)) (aCons (eFz (eVar 3)) (aCons (eFz (eC (.bl false))) aNil)))))) (sIf ((tAn (tVal (eOp dNe (eVar 4) (eTup aNil))) (tVal (eOp dNe (eVar 5) (eTup aNil))))) (sFrz [4, 5] (sApp 2 (eOp dAdd (eC (.int 1)) (eA dMax2 (aCons (eCall (f_least_asks (n + 1)) (aCons (eFz (eVar 0)) (aCons (eFz (eVar 4)) aNil))) (aCons (eCall (f_least_asks (n + 1)) (aCons (eFz (eVar 0)) (aCons (eFz (eVar 5)) aNil))) aNil)))))) (sNil)))) (LE vs S [] none none none) w = some (.nx (LE vs S ((S.filter (spl (MM vs) S)).map (lv vs S)) t3 t4 t5) w) := by
        rw [← h1]; rfl
      show bnd (sSeq _ _ [some (encV vs, false), some (tN S, false), none, none, none, none] w) endP = _
      rw [sSeq_q, hif, bnd_some, nxt_nx, sSeq_q]
      show bnd (bnd (some (Out.nx (LE vs S [] none none none) w)) _) endP = _
      rw [bnd_some, nxt_nx, sSeq_q, hfor, bnd_some, nxt_nx]
      unfold LE
      generalize ((S.filter (spl (MM vs) S)).map (lv vs S)).map D.int = L at *
      simp -implicitDefEqProofs [h4]
end
end Kk64

set_option Elab.async false
set_option linter.all false
set_option maxRecDepth 100000
set_option maxHeartbeats 4000000
namespace Kk64
open PySem PySem.Spec PyProof.Rows L2 Dl
/-! all parts of a row -/
theorem snoc_ind {α : Type} {P : List α → Prop} (h0 : P []) (h1 : ∀ l x, P l → P (l ++ [x])) (l : List α) : P l := by
  have : ∀ l : List α, P l.reverse := by
    intro l
    induction l with
    | nil => exact h0
    | cons a l ih => rw [List.reverse_cons]; exact h1 _ _ ih
  have h := this l.reverse
  rwa [List.reverse_reverse] at h
def subs (S : List Nat) : List (List Nat) := S.foldl (fun R one => R ++ R.map fun r => r ++ [one]) [[]]
theorem subs_snoc (S : List Nat) (x : Nat) : subs (S ++ [x]) = subs S ++ (subs S).map fun r => r ++ [x] := by
  unfold subs; rw [List.foldl_append]; rfl
theorem subs_len (S : List Nat) : (subs S).length = 2 ^ S.length := by
  induction S using snoc_ind with
  | h0 => rfl
  | h1 S x ih => rw [subs_snoc, List.length_append, List.length_map, ih, List.length_append, List.length_singleton, Nat.pow_succ]; omega
theorem mem_subs (S : List Nat) : ∀ r, r ∈ subs S ↔ r.Sublist S := by
  induction S using snoc_ind with
  | h0 => intro r; show r ∈ [[]] ↔ _; rw [List.mem_singleton, List.sublist_nil]
  | h1 S x ih =>
    intro r
    rw [subs_snoc, List.mem_append, ih r, List.sublist_append_iff]
    constructor
    · rintro (h | h)
      · exact ⟨r, [], by simp, h, by simp⟩
      · obtain ⟨q, hq, rfl⟩ := List.mem_map.mp h
        exact ⟨q, [x], rfl, (ih q).mp hq, List.Sublist.refl _⟩
    · rintro ⟨a, b, rfl, h1, h2⟩
      rw [List.sublist_cons_iff] at h2
      rcases h2 with h2 | ⟨c, rfl, h2⟩
      · rw [List.sublist_nil] at h2
        subst h2
        rw [List.append_nil]
        exact .inl h1
      · rw [List.sublist_nil] at h2
        subst h2
        exact .inr (List.mem_map.mpr ⟨a, (ih a).mpr h1, rfl⟩)
theorem Sd.sub {N : Nat} {S r : List Nat} (h : Sd N S) (hr : r.Sublist S) : Sd N r := ⟨h.up.sublist hr, fun k hk => h.lt k (hr.subset hk)⟩
/-! the rows in order -/
def qD (r : List Nat) : D := .tup [.int (r.length : Nat), tN r]
theorem enc_qD (r : List Nat) : Dl.encD (qD r) = .tuple [.int (r.length : Nat), .tuple (r.map fun j : Nat => PyData.int j)] := by
  unfold Dl.encD qD
  have : dPy (.tup [.int (r.length : Nat), tN r]) = some (.tuple [.int (r.length : Nat), .tuple (r.map fun j : Nat => PyData.int j)]) := by
    show (dPys [.int (r.length : Nat), tN r]).map _ = _
    have : dPys [.int (r.length : Nat), tN r] = some [.int (r.length : Nat), .tuple (r.map fun j : Nat => PyData.int j)] := by
      show ((dPy (.int (r.length : Nat))).bind fun a => ((dPy (tN r)).bind fun b => (dPys []).map fun c => b :: c).map fun b => a :: b) = _
      rw [dPy_tN]; rfl
    rw [this]; rfl
  rw [this]; rfl
theorem alike_N : ∀ xs ys : List Nat, PySem.W.alikeAll (xs.map fun j : Nat => PyData.int j) (ys.map fun j : Nat => PyData.int j) = true
  | [], _ => by simp [PySem.W.alikeAll]
  | _ :: _, [] => by simp [PySem.W.alikeAll]
  | x :: xs, y :: ys => by
    rw [List.map_cons, List.map_cons, PySem.W.alikeAll, alike_N xs ys]
    simp [PySem.W.alike]
theorem depth_N : ∀ xs : List Nat, PyData.depthAll (xs.map fun j : Nat => PyData.int j) = 0
  | [] => by simp [PyData.depthAll]
  | x :: xs => by
    rw [List.map_cons, PyData.depthAll, depth_N xs]
    simp [PyData.depth]
theorem alike_q (a b : List Nat) : PySem.W.alike (Dl.encD (qD a)) (Dl.encD (qD b)) = true := by
  rw [enc_qD, enc_qD]
  have := alike_N a b
  simp [PySem.W.alike, PySem.W.alikeAll, this]
theorem lt_q {a b : List Nat} (h : a.length < b.length) : PySem.W.dataLt (Dl.encD (qD a)) (Dl.encD (qD b)) = true := by
  rw [enc_qD, enc_qD, PySem.W.dataLt_pair (by simp [PySem.W.alike]) (by have := alike_N a b; simp [PySem.W.alike, this])]
  have h2 : ¬ (a.length : Int) = b.length := by omega
  have h3 : (a.length : Int) < b.length := by omega
  simp only [PyData.eqv, beq_iff_eq]
  rw [if_neg (by simpa using h2), PySem.W.dataLt_int]
  exact decide_eq_true h3
def ordR (R : List (List Nat)) : List (List Nat) := R.mergeSort fun a b => leD (qD a) (qD b)
theorem dSrt_q (R : List (List Nat)) (h : R.length ≤ 1000) : dSrt [.lst (R.map qD)] = some (.lst ((ordR R).map qD), .ow) := by
  have ok : srtOk (R.map qD) = true := by
    refine srtOk_mk (fun d hd => ?_) (fun d hd => ?_) (fun d hd f hf => ?_) (.inl fun d hd => ?_)
    · obtain ⟨r, _, rfl⟩ := List.mem_map.mp hd
      show ((dPys [.int (r.length : Nat), tN r]).map PyData.tuple).isSome = true
      show (((dPy (.int (r.length : Nat))).bind fun a => ((dPy (tN r)).bind fun b => (dPys []).map fun c => b :: c).map fun b => a :: b).map PyData.tuple).isSome = true
      rw [dPy_tN]; rfl
    · obtain ⟨r, _, rfl⟩ := List.mem_map.mp hd
      rw [enc_qD]
      simp [PyData.depth, PyData.depthAll, depth_N]
    · obtain ⟨r, _, rfl⟩ := List.mem_map.mp hd
      obtain ⟨q, _, rfl⟩ := List.mem_map.mp hf
      exact alike_q r q
    · obtain ⟨r, _, rfl⟩ := List.mem_map.mp hd
      rw [enc_qD]; rfl
  show (if srtOk (R.map qD) = true ∧ (R.map qD).length ≤ lim then some (D.lst ((R.map qD).mergeSort leD), O3.ow) else none) = _
  rw [if_pos ⟨ok, by rw [List.length_map]; exact le_lim (by omega)⟩, ← List.map_mergeSort (f := qD) (s := leD) (r := fun a b => leD (qD a) (qD b)) fun a _ b _ => rfl]
  rfl
theorem ordR_perm (R : List (List Nat)) : (ordR R).Perm R := List.mergeSort_perm _ _
theorem ordR_pw (R : List (List Nat)) : (ordR R).Pairwise fun a b => a.length ≤ b.length := by
  have h := PySem.W.sort_pairwise (PySem.W.sortLe_total (listOrd itemOrd) false fun r => PySem.W.keyToks (Dl.encD (qD r))) R
  refine List.Pairwise.imp ?_ (show (ordR R).Pairwise fun a b => leD (qD a) (qD b) = true from h)
  intro a b hab
  rcases Nat.lt_or_ge b.length a.length with hlt | hge
  · have : leD (qD a) (qD b) = false := by
      show (!PySem.W.dataLt (Dl.encD (qD b)) (Dl.encD (qD a))) = false
      rw [lt_q hlt]; rfl
    rw [this] at hab; cases hab
  · exact hge
/-! the table -/
def nk (r : List Nat) : NestedKey := .tup (r.map fun j : Nat => .num j)
theorem nkDs_N : ∀ r : List Nat, nkDs (r.map iN) = some (r.map fun j : Nat => NestedKey.num j)
  | [] => rfl
  | x :: r => by
    show ((nkD (iN x)).bind fun k => (nkDs (r.map iN)).map fun l => k :: l) = _
    rw [nkDs_N r]; rfl
theorem nkD_t (r : List Nat) : nkD (tN r) = some (nk r) := by
  show (nkDs (r.map iN)).map NestedKey.tup = _
  rw [nkDs_N]; rfl
theorem nk_depth (r : List Nat) : (nk r).depth = 1 := by
  have : ∀ r : List Nat, NestedKey.depthAll (r.map fun j : Nat => NestedKey.num j) = 0 := by
    intro r
    induction r with
    | nil => rfl
    | cons x r ih => rw [List.map_cons, NestedKey.depthAll, ih]; rfl
  show NestedKey.depthAll _ + 1 = 1
  rw [this]
theorem tkD_t (r : List Nat) : tkD (tN r) = some (nk r) := by
  show ((nkD (tN r)).bind fun k => if k.depth ≤ 8 then some k else none) = _
  rw [nkD_t]
  show (if (nk r).depth ≤ 8 then some (nk r) else none) = _
  rw [nk_depth]; rfl
theorem nk_inj {a b : List Nat} (h : nk a = nk b) : a = b := by
  unfold nk at h
  injection h with h
  induction a generalizing b with
  | nil => cases b with
    | nil => rfl
    | cons y b => cases h
  | cons x a ih => cases b with
    | nil => cases h
    | cons y b =>
      rw [List.map_cons, List.map_cons] at h
      injection h with h1 h2
      injection h1 with h1
      rw [ih h2, show x = y by omega]
theorem find_upd {j j' : NestedKey} {x : D} : ∀ (ks ds : List D), dtFind ks (dtUpd ks ds j x) j' = if j = j' then (if (dtFind ks ds j).isSome = true then some x else none) else dtFind ks ds j'
  | [], ds => by
    show none = _
    split <;> rfl
  | k :: ks, [] => by
    show none = _
    split <;> rfl
  | k :: ks, d :: ds => by
    have ih := find_upd (j := j) (j' := j') (x := x) ks ds
    show (if nkD k = some j' then some (if nkD k = some j then x else d) else dtFind ks (dtUpd ks ds j x) j') = if j = j' then (if (if nkD k = some j then some d else dtFind ks ds j).isSome = true then some x else none) else (if nkD k = some j' then some d else dtFind ks ds j')
    rw [ih]
    by_cases h : j = j'
    · subst h
      rw [if_pos rfl, if_pos rfl]
      by_cases h1 : nkD k = some j
      · rw [if_pos h1, if_pos h1, if_pos h1]; rfl
      · rw [if_neg h1, if_neg h1]
    · rw [if_neg h, if_neg h]
      by_cases h1 : nkD k = some j'
      · have h2 : ¬ nkD k = some j := by rw [h1]; intro e; exact h (Option.some.inj e).symm
        rw [if_pos h1, if_pos h1, if_neg h2]
      · rw [if_neg h1, if_neg h1]
theorem find_app {j j' : NestedKey} {kd x : D} (hk : nkD kd = some j) : ∀ (ks ds : List D), ks.length = ds.length → dtFind (ks ++ [kd]) (ds ++ [x]) j' = match dtFind ks ds j' with
    | some d => some d
    | none => if j = j' then some x else none
  | [], [], _ => by
    show (if nkD kd = some j' then some x else none) = if j = j' then some x else none
    rw [hk]
    by_cases h : j = j' <;> simp [h]
  | [], _ :: _, h => by cases h
  | _ :: _, [], h => by cases h
  | k :: ks, d :: ds, h => by
    have ih := find_app (j' := j') (x := x) hk ks ds (Nat.succ.inj h)
    show (if nkD k = some j' then some d else dtFind (ks ++ [kd]) (ds ++ [x]) j') = match (if nkD k = some j' then some d else dtFind ks ds j') with
      | some d => some d
      | none => if j = j' then some x else none
    by_cases h1 : nkD k = some j'
    · rw [if_pos h1, if_pos h1]
    · rw [if_neg h1, if_neg h1, ih]
theorem find_put {j j' : NestedKey} {kd x : D} (hk : nkD kd = some j) {ks ds : List D} (hl : ks.length = ds.length) : dtFind (dtPut ks ds kd j x).1 (dtPut ks ds kd j x).2 j' = if j = j' then some x else dtFind ks ds j' := by
  unfold dtPut
  by_cases h : (dtFind ks ds j).isSome = true
  · rw [if_pos h]
    show dtFind ks (dtUpd ks ds j x) j' = _
    rw [find_upd, if_pos h]
  · rw [if_neg h]
    show dtFind (ks ++ [kd]) (ds ++ [x]) j' = _
    rw [find_app hk ks ds hl]
    have hn : dtFind ks ds j = none := by
      cases e : dtFind ks ds j with
      | none => rfl
      | some d => rw [e] at h; exact absurd rfl h
    by_cases hj : j = j'
    · subst hj; rw [hn]
    · rw [if_neg hj, if_neg hj]
      cases dtFind ks ds j' <;> rfl
theorem upd_len {j : NestedKey} {x : D} : ∀ (ks ds : List D), (dtUpd ks ds j x).length = ds.length
  | [], ds => by cases ds <;> rfl
  | k :: ks, [] => rfl
  | k :: ks, d :: ds => by show (dtUpd ks ds j x).length + 1 = _; rw [upd_len ks ds]; rfl
theorem put_len {j : NestedKey} {kd x : D} {ks ds : List D} (hl : ks.length = ds.length) : (dtPut ks ds kd j x).1.length = (dtPut ks ds kd j x).2.length ∧ (dtPut ks ds kd j x).1.length ≤ ks.length + 1 := by
  unfold dtPut
  split
  · exact ⟨by show ks.length = (dtUpd ks ds j x).length; rw [upd_len, hl], by show ks.length ≤ _; omega⟩
  · exact ⟨by simp [hl], by simp⟩
def ML (ms : List (List Nat)) (k j : Nat) : Bool := has ((ms[k]?).getD []) j
/-- what is done stands in the table -/
structure TI (ms : List (List Nat)) (ks ds : List D) (done : List (List Nat)) : Prop where
  len : ks.length = ds.length
  le : ks.length ≤ done.length
  get : ∀ r ∈ done, dtFind ks ds (nk r) = some (.int (lst (ML ms) r))
theorem TI.put {ms : List (List Nat)} {ks ds : List D} {done : List (List Nat)} (h : TI ms ks ds done) (r : List Nat) : TI ms (dtPut ks ds (tN r) (nk r) (.int (lst (ML ms) r))).1 (dtPut ks ds (tN r) (nk r) (.int (lst (ML ms) r))).2 (done ++ [r]) := by
  obtain ⟨p1, p2⟩ := put_len (j := nk r) (kd := tN r) (x := .int (lst (ML ms) r)) h.len
  refine ⟨p1, by have := h.le; simp; omega, fun q hq => ?_⟩
  rw [find_put (nkD_t r) h.len]
  by_cases e : nk r = nk q
  · rw [if_pos e, nk_inj e]
  · rw [if_neg e]
    rcases List.mem_append.mp hq with hq | hq
    · exact h.get q hq
    · rw [List.mem_singleton] at hq; subst hq; exact absurd rfl e
theorem get_t {ms : List (List Nat)} {ks ds : List D} {done : List (List Nat)} (h : TI ms ks ds done) {r : List Nat} (hr : r ∈ done) : els2 dIx dIxK (.dt ks ds) (tN r) = some (.int (lst (ML ms) r), .fz) := by
  show dIxK (.dt ks ds) (tN r) = _
  show ((tkD (tN r)).bind fun k => (dtFind ks ds k).map fun d => (d, O3.fz)) = _
  rw [tkD_t]
  show (dtFind ks ds (nk r)).map _ = _
  rw [h.get r hr]; rfl
end Kk64

set_option Elab.async false
set_option linter.all false
set_option maxRecDepth 100000
set_option maxHeartbeats 4000000
namespace Kk64
open PySem PySem.Spec PyProof.Rows L2 Dl
abbrev O := Option (D × Bool)
abbrev msD (ms : List (List Nat)) : D := .lst (ms.map lN)
section
variable {ms : List (List Nat)} {S : List Nat} {w : Option Wd}
abbrev TE' (ms : List (List Nat)) (S : List Nat) (s2 s3 s4 s5 s6 s7 s8 s9 s10 : O) : En := [some (msD ms, false), some (tN S, false), s2, s3, s4, s5, s6, s7, s8, s9, s10]
/-! the rows -/
def bRows : SB := (sSet 3 (eOp dAdd (eVar 3) (eLC [5] (setN 5) (iSeq (eVar 3)) tYesD (eOp dAdd (eVar 5) (eTup (aCons (eFz (eVar 4)) aNil))))))
theorem bRows_ok (R : List (List Nat)) (hR : R.length ≤ 10000) (hr : ∀ r ∈ R, r.length ≤ 1000) (one : Nat) (s2 s5 s6 s7 s8 s9 s10 : O) :
    bRows (TE' ms S s2 (some (.lst (R.map tN), true)) (some (iN one, false)) s5 s6 s7 s8 s9 s10) w = some (.nx (TE' ms S s2 (some (.lst ((R ++ R.map fun r => r ++ [one]).map tN), true)) (some (iN one, false)) s5 s6 s7 s8 s9 s10) w) := by
  have h1 := lcL_all (set := setN 5) (fe := (eOp dAdd (eVar 5) (eTup (aCons (eFz (eVar 4)) aNil)))) (env := TE' ms S s2 (some (.lst (R.map tN), true)) (some (iN one, false)) none s6 s7 s8 s9 s10) (w := w) tN (fun r => tN (r ++ [one])) R fun r h => by
    refine ⟨TE' ms S s2 (some (.lst (R.map tN), true)) (some (iN one, false)) (some (tN r, false)) s6 s7 s8 s9 s10, rfl, ?_⟩
    have h2 : dAdd (tN r) (.tup [iN one]) = some (tN (r ++ [one]), .fz) := by
      show dAdd (.tup (r.map iN)) (.tup [iN one]) = some (D.tup ((r ++ [one]).map iN), O3.fz)
      rw [List.map_append]
      exact dAdd_tt (le_lim (by have := hr r h; simp; omega))
    generalize tN (r ++ [one]) = L at h2 ⊢
    try simp -implicitDefEqProofs at h2
    simp -implicitDefEqProofs [h2]
  have h3 : (R.map tN).length ≤ lim := le_lim (by rw [List.length_map]; omega)
  have h4 : dAdd (.lst (R.map tN)) (.lst (R.map fun r => tN (r ++ [one]))) = some (.lst (R.map tN ++ R.map fun r => tN (r ++ [one])), .ow) := dAdd_ll (le_lim (by simp; omega))
  have e : (R ++ R.map fun r => r ++ [one]).map tN = R.map tN ++ R.map fun r => tN (r ++ [one]) := by rw [List.map_append, List.map_map]; rfl
  rw [e]
  generalize R.map tN = A at *
  generalize (R.map fun r => tN (r ++ [one])) = B at *
  unfold bRows
  try simp -implicitDefEqProofs at h1 h4
  simp -implicitDefEqProofs [h1, h4, lcK_q h3]
theorem loopRows (s2 s5 s6 s7 s8 s9 s10 : O) : ∀ (T : List Nat) (R : List (List Nat)) (s4 : O), R.length * 2 ^ T.length ≤ 10000 → (∀ r ∈ R, r.length + T.length ≤ 1000) →
    ∃ t4, forL (setN 4) bRows (T.map iN) (TE' ms S s2 (some (.lst (R.map tN), true)) s4 s5 s6 s7 s8 s9 s10) w = some (.nx (TE' ms S s2 (some (.lst ((T.foldl (fun R one => R ++ R.map fun r => r ++ [one]) R).map tN), true)) t4 s5 s6 s7 s8 s9 s10) w)
  | [], R, s4, _, _ => ⟨s4, rfl⟩
  | x :: T, R, s4, hl, hr => by
    have hp : R.length ≤ R.length * 2 ^ (T.length + 1) := Nat.le_mul_of_pos_right _ (Nat.pow_pos (by decide))
    have h1 := bRows_ok (ms := ms) (S := S) (w := w) R (by simp at hl; omega) (fun r h => by have := hr r h; omega) x s2 s5 s6 s7 s8 s9 s10
    obtain ⟨t4, h2⟩ := loopRows s2 s5 s6 s7 s8 s9 s10 T (R ++ R.map fun r => r ++ [x]) (some (iN x, false)) (by
      rw [List.length_append, List.length_map]
      rw [List.length_cons, Nat.pow_succ] at hl
      have : (R.length + R.length) * 2 ^ T.length = R.length * (2 ^ T.length * 2) := by rw [Nat.add_mul, ← Nat.mul_assoc]; omega
      omega) (fun r h => by
      rcases List.mem_append.mp h with h | h
      · have := hr r h; simp at this; omega
      · obtain ⟨q, hq, rfl⟩ := List.mem_map.mp h
        have := hr q hq; simp at this ⊢; omega)
    refine ⟨t4, ?_⟩
    rw [List.map_cons, forL_cons]
    show bnd (some (TE' ms S s2 (some (.lst (R.map tN), true)) (some (iN x, false)) s5 s6 s7 s8 s9 s10)) (forK2 (setN 4) bRows (T.map iN) w) = _
    rw [bnd_some, forK2_q, h1, bnd_some, forP_nx, h2]; rfl
/-! one ask -/
def bAskT : SB := (sSeq (sSet 9 (eA dTuple (aCons (eLC [4] (setN 4) (iSeq (eVar 5)) (tVal (eOp (dInG false) (eVar 4) (eOp dIxG (eVar 0) (eVar 8)))) (eVar 4)) aNil))) (sSeq (sSet 10 (eA dTuple (aCons (eLC [4] (setN 4) (iSeq (eVar 5)) (tVal (eOp (dInG true) (eVar 4) (eOp dIxG (eVar 0) (eVar 8)))) (eVar 4)) aNil))) (sSet 7 (eOp dAdd (eVar 7) (eIf ((tAn (tVal (eOp dNe (eVar 9) (eTup aNil))) (tVal (eOp dNe (eVar 10) (eTup aNil))))) (eLst (aCons (eFz (eOp dAdd (eC (.int 1)) (eA dMax2 (aCons (eOp dIxG (eVar 2) (eVar 9)) (aCons (eOp dIxG (eVar 2) (eVar 10)) aNil))))) aNil)) (eLst aNil))))))
def mv (ms : List (List Nat)) (r : List Nat) (k : Nat) : Int := 1 + mx2 (lst (ML ms) (inn (ML ms) r k)) (lst (ML ms) (out (ML ms) r k))
theorem ixG_ms {k : Nat} (hk : k < ms.length) : els2 dIx dIxK (msD ms) (iN k) = some (lN ((ms[k]?).getD []), .fz) := by
  have h : dIx (msD ms) (iN k) = some (lN ((ms[k]?).getD []), .fz) := by
    rw [dIx_lst, atI_n, List.getElem?_map]
    have : ms[k]? = some ms[k] := by simp [hk]
    rw [this]; rfl
  exact els2_some h
theorem bAskT_ok {R : List (List Nat)} {ks ds : List D} {done : List (List Nat)} (T : TI ms ks ds done) {r : List Nat} (hr : r.length ≤ 1000) {k : Nat} (hk : k < ms.length) (hd1 : spl (ML ms) r k = true → inn (ML ms) r k ∈ done ∧ out (ML ms) r k ∈ done) (b : List Int) (hb : b.length ≤ 10000) (s3 s4 s6 s9 s10 : O) :
    ∃ t9 t10, bAskT (TE' ms S (some (.dt ks ds, true)) s3 s4 (some (tN r, false)) s6 (some (.lst (b.map D.int), true)) (some (iN k, false)) s9 s10) w = some (.nx (TE' ms S (some (.dt ks ds, true)) s3 s4 (some (tN r, false)) s6 (some (.lst ((if spl (ML ms) r k = true then b ++ [mv ms r k] else b).map D.int), true)) (some (iN k, false)) t9 t10) w) := by
  have hix := ixG_ms (ms := ms) hk
  have hln := lim_N (show r.length ≤ 1000 from hr)
  refine ⟨some (tN (inn (ML ms) r k), false), some (tN (out (ML ms) r k), false), ?_⟩
  have a1 : sSet 9 (eA dTuple (aCons (eLC [4] (setN 4) (iSeq (eVar 5)) (tVal (eOp (dInG false) (eVar 4) (eOp dIxG (eVar 0) (eVar 8)))) (eVar 4)) aNil)) (TE' ms S (some (.dt ks ds, true)) s3 s4 (some (tN r, false)) s6 (some (.lst (b.map D.int), true)) (some (iN k, false)) s9 s10) w = some (.nx (TE' ms S (some (.dt ks ds, true)) s3 s4 (some (tN r, false)) s6 (some (.lst (b.map D.int), true)) (some (iN k, false)) (some (tN (inn (ML ms) r k), false)) s10) w) := by
    have h2 := lc_N (set := setN 4) (t := (tVal (eOp (dInG false) (eVar 4) (eOp dIxG (eVar 0) (eVar 8))))) (fe := eVar 4) (env := TE' ms S (some (.dt ks ds, true)) s3 none (some (tN r, false)) s6 (some (.lst (b.map D.int), true)) (some (iN k, false)) s9 s10) (w := w) (ML ms k) r fun j hj => by
      refine ⟨TE' ms S (some (.dt ks ds, true)) s3 (some (iN j, false)) (some (tN r, false)) s6 (some (.lst (b.map D.int), true)) (some (iN k, false)) s9 s10, rfl, ?_, rfl⟩
      have h3 := in_l false ((ms[k]?).getD []) j
      unfold ML
      generalize lN ((ms[k]?).getD []) = L at h3 hix
      try simp -implicitDefEqProofs at h3 hix
      simp -implicitDefEqProofs [h3, hix]
    try simp -implicitDefEqProofs at h2
    simp -implicitDefEqProofs [h2, lcK_q hln]
  have a2 : sSet 10 (eA dTuple (aCons (eLC [4] (setN 4) (iSeq (eVar 5)) (tVal (eOp (dInG true) (eVar 4) (eOp dIxG (eVar 0) (eVar 8)))) (eVar 4)) aNil)) (TE' ms S (some (.dt ks ds, true)) s3 s4 (some (tN r, false)) s6 (some (.lst (b.map D.int), true)) (some (iN k, false)) (some (tN (inn (ML ms) r k), false)) s10) w = some (.nx (TE' ms S (some (.dt ks ds, true)) s3 s4 (some (tN r, false)) s6 (some (.lst (b.map D.int), true)) (some (iN k, false)) (some (tN (inn (ML ms) r k), false)) (some (tN (out (ML ms) r k), false))) w) := by
    have h2 := lc_N (set := setN 4) (t := (tVal (eOp (dInG true) (eVar 4) (eOp dIxG (eVar 0) (eVar 8))))) (fe := eVar 4) (env := TE' ms S (some (.dt ks ds, true)) s3 none (some (tN r, false)) s6 (some (.lst (b.map D.int), true)) (some (iN k, false)) (some (tN (inn (ML ms) r k), false)) s10) (w := w) (fun j => !ML ms k j) r fun j hj => by
      refine ⟨TE' ms S (some (.dt ks ds, true)) s3 (some (iN j, false)) (some (tN r, false)) s6 (some (.lst (b.map D.int), true)) (some (iN k, false)) (some (tN (inn (ML ms) r k), false)) s10, rfl, ?_, rfl⟩
      have h3 := in_l true ((ms[k]?).getD []) j
      unfold ML
      generalize lN ((ms[k]?).getD []) = L at h3 hix
      try simp -implicitDefEqProofs at h3 hix
      simp -implicitDefEqProofs [h3, hix]
    try simp -implicitDefEqProofs at h2
    simp -implicitDefEqProofs [h2, lcK_q hln]
  unfold bAskT
  rw [sSeq_q, a1, bnd_some, nxt_nx, sSeq_q, a2, bnd_some, nxt_nx]
  have e1 := ne_tN (inn (ML ms) r k)
  have e2 := ne_tN (out (ML ms) r k)
  have ha0 : dAdd (.lst (b.map D.int)) (.lst []) = some (.lst (b.map D.int ++ []), .ow) := dAdd_ll (le_lim (by simp; omega))
  rw [List.append_nil] at ha0
  by_cases hs : spl (ML ms) r k = true
  · obtain ⟨d1, d2⟩ := hd1 hs
    have g1 := get_t T d1
    have g2 := get_t T d2
    have hv : mv ms r k = 1 + (if lst (ML ms) (out (ML ms) r k) > lst (ML ms) (inn (ML ms) r k) then lst (ML ms) (out (ML ms) r k) else lst (ML ms) (inn (ML ms) r k)) := rfl
    have hs' := hs
    unfold spl at hs'
    rw [Bool.and_eq_true] at hs'
    rw [hs'.1] at e1
    rw [hs'.2] at e2
    rw [if_pos hs, hv]
    generalize lst (ML ms) (out (ML ms) r k) = x at *
    generalize lst (ML ms) (inn (ML ms) r k) = y at *
    generalize tN (out (ML ms) r k) = L1 at *
    generalize tN (inn (ML ms) r k) = L2 at *
    have ha : ∀ v : D, dAdd (.lst (b.map D.int)) (.lst [v]) = some (.lst (b.map D.int ++ [v]), .ow) := fun v => dAdd_ll (le_lim (by simp; omega))
    rw [List.map_append]
    try simp -implicitDefEqProofs at e1 e2 ha g1 g2
    simp -implicitDefEqProofs [e1, e2, g1, g2, ha]
  · rw [if_neg hs]
    have hs' : (!(inn (ML ms) r k).isEmpty) = false ∨ (!(out (ML ms) r k).isEmpty) = false := by
      unfold spl at hs
      rw [Bool.not_eq_true, Bool.and_eq_false_iff] at hs
      exact hs
    cases hi : (!(inn (ML ms) r k).isEmpty) with
    | false =>
      rw [hi] at e1
      generalize tN (out (ML ms) r k) = L1 at *
      generalize tN (inn (ML ms) r k) = L2 at *
      generalize b.map D.int = C at *
      try simp -implicitDefEqProofs at e1 ha0
      simp -implicitDefEqProofs [e1, ha0]
    | true =>
      have hs2 : (!(out (ML ms) r k).isEmpty) = false := by
        rcases hs' with h | h
        · rw [hi] at h; cases h
        · exact h
      rw [hi] at e1
      rw [hs2] at e2
      generalize tN (out (ML ms) r k) = L1 at *
      generalize tN (inn (ML ms) r k) = L2 at *
      generalize b.map D.int = C at *
      try simp -implicitDefEqProofs at e1 e2 ha0
      simp -implicitDefEqProofs [e1, e2, ha0]
theorem loopAskT {ks ds : List D} {done : List (List Nat)} (T : TI ms ks ds done) {r : List Nat} (hr : r.length ≤ 1000) (s3 s4 s6 : O) : ∀ (q : List Nat) (b : List Int) (s8 s9 s10 : O), (∀ k ∈ q, k < ms.length ∧ (spl (ML ms) r k = true → inn (ML ms) r k ∈ done ∧ out (ML ms) r k ∈ done)) → b.length + q.length ≤ 5000 →
    ∃ t8 t9 t10, forL (setN 8) bAskT (q.map iN) (TE' ms S (some (.dt ks ds, true)) s3 s4 (some (tN r, false)) s6 (some (.lst (b.map D.int), true)) s8 s9 s10) w = some (.nx (TE' ms S (some (.dt ks ds, true)) s3 s4 (some (tN r, false)) s6 (some (.lst ((b ++ (q.filter (spl (ML ms) r)).map (mv ms r)).map D.int), true)) t8 t9 t10) w)
  | [], b, s8, s9, s10, _, _ => ⟨s8, s9, s10, by simp⟩
  | k :: q, b, s8, s9, s10, h, hl => by
    obtain ⟨h0, h0'⟩ := h k List.mem_cons_self
    obtain ⟨t9, t10, h1⟩ := bAskT_ok (S := S) (w := w) (R := []) T hr h0 h0' b (by simp at hl; omega) s3 s4 s6 s9 s10
    have hl2 : (if spl (ML ms) r k = true then b ++ [mv ms r k] else b).length + q.length ≤ 5000 := by
      split
      · simp at hl ⊢; omega
      · simp at hl ⊢; omega
    obtain ⟨t8', t9', t10', h2⟩ := loopAskT T hr s3 s4 s6 q (if spl (ML ms) r k = true then b ++ [mv ms r k] else b) (some (iN k, false)) t9 t10 (fun j hj => h j (List.mem_cons_of_mem _ hj)) hl2
    refine ⟨t8', t9', t10', ?_⟩
    rw [List.map_cons, forL_cons]
    show bnd (some (TE' ms S (some (.dt ks ds, true)) s3 s4 (some (tN r, false)) s6 (some (.lst (b.map D.int), true)) (some (iN k, false)) s9 s10)) (forK2 (setN 8) bAskT (q.map iN) w) = _
    rw [bnd_some, forK2_q, h1, bnd_some, forP_nx, h2]
    cases e : spl (ML ms) r k with
    | true => rw [List.filter_cons_of_pos e]; simp
    | false => rw [List.filter_cons_of_neg (by simp [e])]; simp
/-! one row -/
def bRowT : SB := (sSeq (sSet 7 (eIf (tVal (eOp dLt (eVar 6) (eC (.int 2)))) (eLst (aCons (eFz (eC (.int 0))) aNil)) (eLst aNil))) (sSeq (sFor (setN 8) (iSeq (eFz (eVar 5))) bAskT) (sPut 2 (eVar 5) (eA dMinL (aCons (eVar 7) aNil)))))
theorem bRowT_ok {ks ds : List D} {done : List (List Nat)} (T : TI ms ks ds done) (hdl : done.length ≤ 5000) {N : Nat} (hN : ms.length = N) (K : Mk N (ML ms)) {r : List Nat} (hS : Sd N r) (hr : r.length ≤ 1000) (hd : ∀ k ∈ r, spl (ML ms) r k = true → inn (ML ms) r k ∈ done ∧ out (ML ms) r k ∈ done) (s3 s4 s7 s8 s9 s10 : O) :
    ∃ ks' ds' t7 t8 t9 t10, bRowT (TE' ms S (some (.dt ks ds, true)) s3 s4 (some (tN r, false)) (some (.int (r.length : Nat), false)) s7 s8 s9 s10) w = some (.nx (TE' ms S (some (.dt ks' ds', true)) s3 s4 (some (tN r, false)) (some (.int (r.length : Nat), false)) t7 t8 t9 t10) w) ∧ TI ms ks' ds' (done ++ [r]) := by
  let b0 : List Int := if r.length < 2 then [0] else []
  have h0 : sSet 7 (eIf (tVal (eOp dLt (eVar 6) (eC (.int 2)))) (eLst (aCons (eFz (eC (.int 0))) aNil)) (eLst aNil)) (TE' ms S (some (.dt ks ds, true)) s3 s4 (some (tN r, false)) (some (.int (r.length : Nat), false)) s7 s8 s9 s10) w = some (.nx (TE' ms S (some (.dt ks ds, true)) s3 s4 (some (tN r, false)) (some (.int (r.length : Nat), false)) (some (.lst (b0.map D.int), true)) s8 s9 s10) w) := by
    by_cases h : r.length < 2
    · have e : b0 = [0] := if_pos h
      have h' : (r.length : Int) < 2 := by omega
      rw [e]
      simp -implicitDefEqProofs [h, h']
    · have e : b0 = [] := if_neg h
      have h' : ¬ (r.length : Int) < 2 := by omega
      rw [e]
      simp -implicitDefEqProofs [h, h']
  have hb0 : b0.length ≤ 1 := by
    show (if r.length < 2 then [0] else ([] : List Int)).length ≤ 1
    split <;> simp
  obtain ⟨t8, t9, t10, h1⟩ := loopAskT (S := S) (w := w) T hr s3 s4 (some (.int (r.length : Nat), false)) r b0 s8 s9 s10 (fun k hk => ⟨by rw [hN]; exact hS.lt k hk, hd k hk⟩) (by omega)
  have hval : mn (b0 ++ (r.filter (spl (ML ms) r)).map (mv ms r)) = lst (ML ms) r ∧ b0 ++ (r.filter (spl (ML ms) r)).map (mv ms r) ≠ [] := by
    by_cases h : r.length < 2
    · have e : b0 = [0] := if_pos h
      have e2 : r.filter (spl (ML ms) r) = [] := List.filter_eq_nil_iff.mpr fun k hk hs => by
        obtain ⟨a, b, c, d⟩ := spl_lt hs
        omega
      rw [e, e2, lst_0 h]
      exact ⟨rfl, by simp⟩
    · have e : b0 = [] := if_neg h
      rw [e, List.nil_append]
      exact ⟨(lst_s h).symm, fun z => spl_ne K hS h (List.map_eq_nil_iff.mp z)⟩
  have hm := dMin_i hval.2
  rw [hval.1] at hm
  refine ⟨_, _, some (.lst ((b0 ++ (r.filter (spl (ML ms) r)).map (mv ms r)).map D.int), true), t8, t9, t10, ?_, T.put r⟩
  unfold bRowT
  rw [sSeq_q, h0, bnd_some, nxt_nx, sSeq_q]
  have hfor : sFor (setN 8) (iSeq (eFz (eVar 5))) bAskT (TE' ms S (some (.dt ks ds, true)) s3 s4 (some (tN r, false)) (some (.int (r.length : Nat), false)) (some (.lst (b0.map D.int), true)) s8 s9 s10) w = _ := h1
  rw [hfor, bnd_some, nxt_nx]
  have hput : putD (.dt ks ds) (tN r) (.int (lst (ML ms) r)) = some (.dt (dtPut ks ds (tN r) (nk r) (.int (lst (ML ms) r))).1 (dtPut ks ds (tN r) (nk r) (.int (lst (ML ms) r))).2) := by
    show ((tkD (tN r)).bind fun j => if ks.length < lim then some (D.dt (dtPut ks ds (tN r) j (.int (lst (ML ms) r))).1 (dtPut ks ds (tN r) j (.int (lst (ML ms) r))).2) else none) = _
    rw [tkD_t]
    show (if ks.length < lim then _ else _) = _
    rw [if_pos (lt_lim (by have := T.le; omega))]
  generalize (b0 ++ (r.filter (spl (ML ms) r)).map (mv ms r)).map D.int = C at *
  rw [sPut_q]
  have e1 : eFz (eA dMinL (aCons (eVar 7) aNil)) (TE' ms S (some (.dt ks ds, true)) s3 s4 (some (tN r, false)) (some (.int (r.length : Nat), false)) (some (.lst C, true)) t8 t9 t10) w = some ((.int (lst (ML ms) r), .fz), w) := by
    simp -implicitDefEqProofs [hm]
  rw [e1, bnd_some, putK1_q]
  show bnd (some ((tN r, O3.fz), w)) _ = _
  rw [bnd_some, putK2_q, putK3_q (d := .dt ks ds) rfl hput]
  rfl
end
end Kk64

set_option Elab.async false
set_option linter.all false
set_option maxRecDepth 100000
set_option maxHeartbeats 4000000
namespace Kk64
open PySem PySem.Spec PyProof.Rows L2 Dl
section
variable {ms : List (List Nat)} {S : List Nat} {w : Option Wd}
theorem loopT {N : Nat} (hN : ms.length = N) (K : Mk N (ML ms)) (s3 s4 : O) : ∀ (todo done : List (List Nat)) (ks ds : List D) (s5 s6 s7 s8 s9 s10 : O), TI ms ks ds done → (done ++ todo).Pairwise (fun a b => a.length ≤ b.length) → (∀ r ∈ done ++ todo, ∀ p : Nat → Bool, r.filter p ∈ done ++ todo) → (∀ r ∈ todo, Sd N r ∧ r.length ≤ 1000) → (done ++ todo).length ≤ 5000 →
    ∃ ks' ds' t5 t6 t7 t8 t9 t10, forL (setT [6, 5]) bRowT (todo.map qD) (TE' ms S (some (.dt ks ds, true)) s3 s4 s5 s6 s7 s8 s9 s10) w = some (.nx (TE' ms S (some (.dt ks' ds', true)) s3 s4 t5 t6 t7 t8 t9 t10) w) ∧ TI ms ks' ds' (done ++ todo)
  | [], done, ks, ds, s5, s6, s7, s8, s9, s10, T, _, _, _, _ => ⟨ks, ds, s5, s6, s7, s8, s9, s10, rfl, by rw [List.append_nil]; exact T⟩
  | r :: todo, done, ks, ds, s5, s6, s7, s8, s9, s10, T, hp, hc, hs, hl => by
    obtain ⟨hS, hr⟩ := hs r List.mem_cons_self
    have hin : ∀ p : Nat → Bool, (r.filter p).length < r.length → r.filter p ∈ done := fun p hlt => by
      have h1 := hc r (List.mem_append_right _ List.mem_cons_self) p
      rcases List.mem_append.mp h1 with h1 | h1
      · exact h1
      · rcases List.mem_cons.mp h1 with h1 | h1
        · rw [h1] at hlt; omega
        · have h2 := (List.pairwise_append.mp hp).2.1
          have h3 := (List.pairwise_cons.mp h2).1 _ h1
          omega
    obtain ⟨ks1, ds1, t7, t8, t9, t10, h1, T1⟩ := bRowT_ok (S := S) (w := w) T (by simp at hl; omega) hN K hS hr (fun k _ hsp => by
      obtain ⟨a, b, _⟩ := spl_lt hsp
      exact ⟨hin _ a, hin _ b⟩) s3 s4 s7 s8 s9 s10
    have e : (done ++ [r]) ++ todo = done ++ r :: todo := by simp
    obtain ⟨ks2, ds2, u5, u6, u7, u8, u9, u10, h2, T2⟩ := loopT hN K s3 s4 todo (done ++ [r]) ks1 ds1 (some (tN r, false)) (some (.int (r.length : Nat), false)) t7 t8 t9 t10 T1 (by rw [e]; exact hp) (by rw [e]; exact hc) (fun q hq => hs q (List.mem_cons_of_mem _ hq)) (by rw [e]; exact hl)
    rw [e] at T2
    refine ⟨ks2, ds2, u5, u6, u7, u8, u9, u10, ?_, T2⟩
    rw [List.map_cons, forL_cons]
    show bnd (some (TE' ms S (some (.dt ks ds, true)) s3 s4 (some (tN r, false)) (some (.int (r.length : Nat), false)) s7 s8 s9 s10)) (forK2 (setT [6, 5]) bRowT (todo.map qD) w) = _
    rw [bnd_some, forK2_q, h1, bnd_some, forP_nx, h2]
theorem lawLeast_ok {N : Nat} (hN : ms.length = N) (hN2 : N ≤ 7) (K : Mk N (ML ms)) (hS : Sd N S) : f__law_least [msD ms, tN S] w = some ((.int (lst (ML ms) S), .fz), w) := by
  have hl := hS.len
  have h7 : S.length ≤ 7 := by omega
  have hsl := subs_len S
  have hsl2 : (subs S).length ≤ 128 := by rw [hsl]; exact Nat.pow_le_pow_right (by decide) h7
  have hrl : ∀ r ∈ subs S, r.length ≤ 7 := fun r hr => by
    have := ((mem_subs S r).mp hr).length_le
    omega
  obtain ⟨t4, h1⟩ := loopRows (ms := ms) (S := S) (w := w) (some (.dt [] [], true)) none none none none none none S [[]] none (by
    show 1 * 2 ^ S.length ≤ 10000
    have : 2 ^ S.length ≤ 2 ^ 7 := Nat.pow_le_pow_right (by decide) h7
    omega) (fun r hr => by rw [List.mem_singleton] at hr; subst hr; simp; omega)
  have hperm := ordR_perm (subs S)
  obtain ⟨ks, ds, t5, t6, t7, t8, t9, t10, h2, T⟩ := loopT (S := S) (w := w) hN K (some (.lst ((subs S).map tN), true)) t4 (ordR (subs S)) [] [] [] none none none none none none ⟨rfl, Nat.le_refl _, fun r hr => nomatch hr⟩ (ordR_pw _) (fun r hr p => by
      have hr' := (mem_subs S r).mp (hperm.mem_iff.mp hr)
      exact hperm.mem_iff.mpr ((mem_subs S _).mpr ((List.filter_sublist).trans hr'))) (fun r hr => by
      have hr' := hperm.mem_iff.mp hr
      exact ⟨hS.sub ((mem_subs S r).mp hr'), by have := hrl r hr'; omega⟩) (by rw [List.nil_append, hperm.length_eq]; omega)
  have hSm : S ∈ ([] : List (List Nat)) ++ ordR (subs S) := hperm.mem_iff.mpr ((mem_subs S S).mpr (List.Sublist.refl _))
  have hg := get_t T hSm
  have h3 := lcL_all (set := setN 5) (fe := (eTup (aCons (eFz (eA dLen (aCons (eVar 5) aNil))) (aCons (eFz (eVar 5)) aNil)))) (env := TE' ms S (some (.dt [] [], true)) (some (.lst ((subs S).map tN), true)) t4 none none none none none none) (w := w) tN qD (subs S) fun r hr => by
    refine ⟨TE' ms S (some (.dt [] [], true)) (some (.lst ((subs S).map tN), true)) t4 (some (tN r, false)) none none none none none, rfl, ?_⟩
    simp -implicitDefEqProofs [qD]
  have h4 := dSrt_q (subs S) (by omega)
  have hlm : ((subs S).map tN).length ≤ lim := le_lim (by rw [List.length_map]; omega)
  show bnd (b__law_least [some (msD ms, false), some (tN S, false), none, none, none, none, none, none, none, none, none] w) endP = _
  unfold b__law_least
  rw [sSeq_q]
  show bnd (bnd (some (Out.nx (TE' ms S (some (.dt [] [], true)) (some (.lst (([[]] : List (List Nat)).map tN), true)) none none none none none none none) w)) _) endP = _
  have hf1 : sFor (setN 4) (iSeq (eFz (eVar 1))) (sSet 3 (eOp dAdd (eVar 3) (eLC [5] (setN 5) (iSeq (eVar 3)) tYesD (eOp dAdd (eVar 5) (eTup (aCons (eFz (eVar 4)) aNil)))))) (TE' ms S (some (.dt [] [], true)) (some (.lst (([[]] : List (List Nat)).map tN), true)) none none none none none none none) w = some (.nx (TE' ms S (some (.dt [] [], true)) (some (.lst ((subs S).map tN), true)) t4 none none none none none none) w) := h1
  have hsrc : iSeq (eFz (eA dSrt (aCons (eLC [5] (setN 5) (iSeq (eVar 3)) tYesD (eTup (aCons (eFz (eA dLen (aCons (eVar 5) aNil))) (aCons (eFz (eVar 5)) aNil)))) aNil))) (TE' ms S (some (.dt [] [], true)) (some (.lst ((subs S).map tN), true)) t4 none none none none none none) w = some ((ordR (subs S)).map qD, w) := by
    generalize (subs S).map tN = A at *
    generalize (subs S).map qD = B at *
    generalize (ordR (subs S)).map qD = C at *
    simp -implicitDefEqProofs [h3, h4, lcK_q hlm]
  have hf2 : sFor (setT [6, 5]) (iSeq (eFz (eA dSrt (aCons (eLC [5] (setN 5) (iSeq (eVar 3)) tYesD (eTup (aCons (eFz (eA dLen (aCons (eVar 5) aNil))) (aCons (eFz (eVar 5)) aNil)))) aNil)))) bRowT (TE' ms S (some (.dt [] [], true)) (some (.lst ((subs S).map tN), true)) t4 none none none none none none) w = some (.nx (TE' ms S (some (.dt ks ds, true)) (some (.lst ((subs S).map tN), true)) t4 t5 t6 t7 t8 t9 t10) w) := by
    rw [sFor_q, hsrc, bnd_some, forK_q, h2]
  rw [bnd_some, nxt_nx, sSeq_q, hf1, bnd_some, nxt_nx, sSeq_q]
  show bnd (bnd (sFor (setT [6, 5]) (iSeq (eFz (eA dSrt (aCons (eLC [5] (setN 5) (iSeq (eVar 3)) tYesD (eTup (aCons (eFz (eA dLen (aCons (eVar 5) aNil))) (aCons (eFz (eVar 5)) aNil)))) aNil)))) bRowT _ w) _) endP = _
  rw [hf2, bnd_some, nxt_nx]
  generalize lst (ML ms) S = v at hg ⊢
  have hg' : dIxG (.dt ks ds) (.tup (S.map iN)) = some (.int v, .fz) := hg
  generalize (subs S).map tN = A
  try simp -implicitDefEqProofs at hg'
  simp -implicitDefEqProofs [hg']
end
/-! suspects -/
section
variable {vs : List (List Nat)} {w : Option Wd}
abbrev SE (vs : List (List Nat)) (good bad F : List Nat) (b : Bool) (s4 s5 : O) : En := [some (encV vs, false), some (tN good, false), some (tN bad, false), some ((if b then lN F else tN F), b), s4, s5]
def bSus (neg : Bool) : SB := (sSet 3 (eLC [5] (setN 5) (iSeq (eVar 3)) (tVal (eOp (dInG neg) (eVar 5) (eCall f_made_of (aCons (eFz (eVar 0)) (aCons (eFz (eVar 4)) aNil))))) (eVar 5)))
theorem bSus_ok (V : VOk vs) (neg : Bool) {good bad F : List Nat} (b : Bool) (hF : ∀ j ∈ F, j < vs.length) (hl : F.length ≤ 1000) {k : Nat} (hk : k < vs.length) (s5 : O) :
    bSus neg (SE vs good bad F b (some (iN k, false)) s5) w = some (.nx (SE vs good bad (F.filter fun j => if neg then !MM vs k j else MM vs k j) true (some (iN k, false)) s5) w) := by
  have h1 := madeOf_ok V hk w
  have hX : itemsOf (if b = true then lN F else tN F) = some (F.map iN) := by cases b <;> rfl
  unfold SE
  generalize (if b = true then lN F else tN F) = X at hX ⊢
  have h2 := lc_N (set := setN 5) (t := (tVal (eOp (dInG neg) (eVar 5) (eCall f_made_of (aCons (eFz (eVar 0)) (aCons (eFz (eVar 4)) aNil)))))) (fe := eVar 5) (env := [some (encV vs, false), some (tN good, false), some (tN bad, false), some (X, b), some (iN k, false), none]) (w := w) (fun j => if neg then !MM vs k j else MM vs k j) F fun j hj => by
    refine ⟨[some (encV vs, false), some (tN good, false), some (tN bad, false), some (X, b), some (iN k, false), some (iN j, false)], rfl, ?_, rfl⟩
    have h3 := in_t neg (ml vs k) j
    rw [has_ml (hF j hj)] at h3
    generalize tN (ml vs k) = L at h3 h1 ⊢
    cases neg <;> (try simp -implicitDefEqProofs at h3) <;> simp -implicitDefEqProofs [h3, h1]
  generalize (F.filter fun j => if neg then !MM vs k j else MM vs k j) = G at *
  have hlc : eLC [5] (setN 5) (iSeq (eVar 3)) (tVal (eOp (dInG neg) (eVar 5) (eCall f_made_of (aCons (eFz (eVar 0)) (aCons (eFz (eVar 4)) aNil))))) (eVar 5) [some (encV vs, false), some (tN good, false), some (tN bad, false), some (X, b), some (iN k, false), s5] w = some ((lN G, .ow), w) := by
    rw [eLC_q]
    have hi : iSeq (eVar 3) [some (encV vs, false), some (tN good, false), some (tN bad, false), some (X, b), some (iN k, false), s5] w = some (F.map iN, w) := by
      cases b <;> simp -implicitDefEqProofs [hX]
    rw [hi, bnd_some, lcK_q (lim_N hl)]
    show bnd (lcL _ _ _ _ [some (encV vs, false), some (tN good, false), some (tN bad, false), some (X, b), some (iN k, false), none] w) lcK2 = _
    rw [h2]; rfl
  unfold bSus
  rw [sSet_q, hlc]
  rfl
def flt (vs : List (List Nat)) (neg : Bool) (T F : List Nat) : List Nat := T.foldl (fun F k => F.filter fun j => if neg then !MM vs k j else MM vs k j) F
theorem loopS (V : VOk vs) (neg : Bool) {good bad : List Nat} : ∀ (T F : List Nat) (b : Bool) (s4 s5 : O), (∀ k ∈ T, k < vs.length) → (∀ j ∈ F, j < vs.length) → F.length ≤ 1000 →
    ∃ b' t4, forL (setN 4) (bSus neg) (T.map iN) (SE vs good bad F b s4 s5) w = some (.nx (SE vs good bad (flt vs neg T F) b' t4 s5) w)
  | [], F, b, s4, s5, _, _, _ => ⟨b, s4, rfl⟩
  | k :: T, F, b, s4, s5, hT, hF, hl => by
    have h1 := bSus_ok (w := w) V neg (good := good) (bad := bad) b hF hl (hT k List.mem_cons_self) s5
    obtain ⟨b', t4, h2⟩ := loopS V neg T (F.filter fun j => if neg then !MM vs k j else MM vs k j) true (some (iN k, false)) s5 (fun k hk => hT k (List.mem_cons_of_mem _ hk)) (fun j hj => hF j (List.mem_filter.mp hj).1) (Nat.le_trans (List.length_filter_le _ _) hl)
    refine ⟨b', t4, ?_⟩
    rw [List.map_cons, forL_cons]
    show bnd (some (SE vs good bad F b (some (iN k, false)) s5)) (forK2 (setN 4) (bSus neg) (T.map iN) w) = _
    rw [bnd_some, forK2_q, h1, bnd_some, forP_nx, h2]; rfl
theorem flt_eq (neg : Bool) : ∀ (T F : List Nat), flt vs neg T F = F.filter fun j => T.all fun k => if neg then !MM vs k j else MM vs k j
  | [], F => (List.filter_eq_self.mpr fun _ _ => rfl).symm
  | k :: T, F => by
    show flt vs neg T (F.filter _) = _
    rw [flt_eq neg T, List.filter_filter]
    refine List.filter_congr fun j _ => ?_
    rw [List.all_cons, Bool.and_comm]
/-- those that can have broken it -/
def leftL (vs : List (List Nat)) (good bad : List Nat) : List Nat := (List.range vs.length).filter fun j => (bad.all fun k => MM vs k j) && good.all fun k => !MM vs k j
theorem suspects_ok (V : VOk vs) {good bad : List Nat} {b0 : Nat} (hg : ∀ k ∈ good, k < vs.length) (hb : ∀ k ∈ b0 :: bad, k < vs.length) : f_suspects [encV vs, tN good, tN (b0 :: bad)] w = some ((tN (leftL vs good (b0 :: bad)), .fz), w) := by
  have hl2 := V.len
  have h1 := madeOf_ok V (hb b0 List.mem_cons_self) w
  have hml : ∀ j ∈ ml vs b0, j < vs.length := fun j hj => List.mem_range.mp (List.mem_filter.mp hj).1
  have hmll : (ml vs b0).length ≤ 1000 := by
    exact Nat.le_trans (List.length_filter_le _ _) (by rw [List.length_range]; omega)
  obtain ⟨b1, t4, h2⟩ := loopS (w := w) V false (good := good) (bad := b0 :: bad) bad (ml vs b0) false none none (fun k hk => hb k (List.mem_cons_of_mem _ hk)) hml hmll
  have hf1 : ∀ j ∈ flt vs false bad (ml vs b0), j < vs.length := fun j hj => by
    rw [flt_eq] at hj; exact hml j (List.mem_filter.mp hj).1
  have hf2 : (flt vs false bad (ml vs b0)).length ≤ 1000 := by
    rw [flt_eq]; exact Nat.le_trans (List.length_filter_le _ _) hmll
  obtain ⟨b2, u4, h3⟩ := loopS (w := w) V true (good := good) (bad := b0 :: bad) good (flt vs false bad (ml vs b0)) b1 t4 none hg hf1 hf2
  have e : flt vs true good (flt vs false bad (ml vs b0)) = leftL vs good (b0 :: bad) := by
    rw [flt_eq, flt_eq, List.filter_filter, List.filter_filter]
    unfold leftL
    refine List.filter_congr fun j _ => ?_
    rw [List.all_cons]
    simp only [Bool.false_eq_true, if_false, if_true]
    generalize (bad.all fun k => MM vs k j) = p
    generalize (good.all fun k => !MM vs k j) = q
    generalize MM vs b0 j = r
    cases p <;> cases q <;> cases r <;> rfl
  rw [e] at h3
  show bnd (b_suspects f_made_of [some (encV vs, false), some (tN good, false), some (tN (b0 :: bad), false), none, none, none] w) endP = _
  unfold b_suspects
  have hs : sSet 3 (eCall f_made_of (aCons (eFz (eVar 0)) (aCons (eFz (eOp dIx (eVar 2) (eC (.int 0)))) aNil))) [some (encV vs, false), some (tN good, false), some (tN (b0 :: bad), false), none, none, none] w = some (.nx (SE vs good (b0 :: bad) (ml vs b0) false none none) w) := by
    generalize ml vs b0 = L at *
    simp -implicitDefEqProofs [h1]
  have hf : sFor (setN 4) (iSeq (eFz (eSl dSl (eVar 2) (oSome (eC (.int 1))) oNone))) (bSus false) (SE vs good (b0 :: bad) (ml vs b0) false none none) w = some (.nx (SE vs good (b0 :: bad) (flt vs false bad (ml vs b0)) b1 t4 none) w) := by
    have hi : iSeq (eFz (eSl dSl (eVar 2) (oSome (eC (.int 1))) oNone)) (SE vs good (b0 :: bad) (ml vs b0) false none none) w = some (bad.map iN, w) := by
      simp -implicitDefEqProofs
    rw [sFor_q, hi, bnd_some, forK_q, h2]
  have hf' : sFor (setN 4) (iSeq (eFz (eVar 1))) (bSus true) (SE vs good (b0 :: bad) (flt vs false bad (ml vs b0)) b1 t4 none) w = some (.nx (SE vs good (b0 :: bad) (leftL vs good (b0 :: bad)) b2 u4 none) w) := by
    have hi : iSeq (eFz (eVar 1)) (SE vs good (b0 :: bad) (flt vs false bad (ml vs b0)) b1 t4 none) w = some (good.map iN, w) := by
      simp -implicitDefEqProofs
    rw [sFor_q, hi, bnd_some, forK_q, h3]
  rw [sSeq_q, hs, bnd_some, nxt_nx, sSeq_q]
  show bnd (bnd (sFor (setN 4) _ (bSus false) _ w) _) endP = _
  rw [hf, bnd_some, nxt_nx, sSeq_q]
  show bnd (bnd (sFor (setN 4) _ (bSus true) _ w) _) endP = _
  rw [hf', bnd_some, nxt_nx]
  cases b2 <;> simp -implicitDefEqProofs
end
end Kk64

set_option Elab.async false
set_option linter.all false
set_option maxRecDepth 100000
set_option maxHeartbeats 4000000
namespace Kk64
open PySem PySem.Spec PyProof.Rows L2 Dl
/-! ### the text -/
def topS (i : Nat) : Stmt := PySem.Challenge.pw_stepswatched_k64_whole_asks_that_find_a.main.body.getD i (.Pass ⟨0, 0, 0, 0⟩)
structure TX (K : PySem.W.Frag) (w : World) (mg : Str → Option Value) : Prop where
  «range» : mg "range" = none
  «int» : mg "int" = none
  «len» : mg "len" = none
  «abs» : mg "abs" = none
  «tuple» : mg "tuple" = none
  «sorted» : mg "sorted" = none
  «min» : mg "min" = none
  «max» : mg "max" = none
  «str» : mg "str" = none
  «isinstance» : mg "isinstance" = none
  «bool» : mg "bool" = none
  «list» : mg "list" = none
/-- a def as callers have it -/
def Cal (P : Program) (w : World) (K : PySem.W.Frag) (mg : Str → Option Value) (base : Heap) (k : Nat) (x : Str) (f : Addr) (fd : FuncData) (ps : List Str) (G : Fn) : Prop := FnOk P w K mg base CX0 k f fd ps (spD (KW.mk K w) G) ∧ mg x = some (.ref f) ∧ PySem.W.keepIn K (.ref f) = true ∧ Binds K fd ps []
theorem Cal.up {P : Program} {w : World} {K : PySem.W.Frag} {mg : Str → Option Value} {base : Heap} {j : Nat} {x : Str} {f : Addr} {fd : FuncData} {ps : List Str} {G : Fn} (h : Cal P w K mg base j x f fd ps G) {k : Nat} (hk : j ≤ k) : Cal P w K mg base k x f fd ps G := ⟨h.1.mono hk, h.2⟩
/-- a def as the top has left it -/
def Def0 (K : PySem.W.Frag) (mg : Str → Option Value) (x : Str) (st : Stmt) (f : Addr) (fd : FuncData) (ps : List Str) : Prop := Fun K x x st f fd ∧ mg x = some (.ref f) ∧ Binds K fd ps []
abbrev s__law_draws : Stmt := topS 12
theorem sc__law_draws : FnScope ["script", "many", "draws", "mixed", "k", "cell", "rest", "turn"] ["script", "many"] (defScope s__law_draws) := ⟨rfl, rfl, rfl, by decide +kernel, rfl, by decide +kernel, by decide +kernel⟩
abbrev s__law_least : Stmt := topS 18
theorem sc__law_least : FnScope ["made", "left", "table", "rows", "one", "row", "size", "best", "ask", "inner", "outer"] ["made", "left"] (defScope s__law_least) := ⟨rfl, rfl, rfl, by decide +kernel, rfl, by decide +kernel, by decide +kernel⟩
abbrev s_asks_in_row : Stmt := topS 10
theorem sc_asks_in_row : FnScope ["many", "found"] ["many"] (defScope s_asks_in_row) := ⟨rfl, rfl, rfl, by decide +kernel, rfl, by decide +kernel, by decide +kernel⟩
abbrev s__law_alike : Stmt := topS 15
theorem sc__law_alike : FnScope ["given", "due", "k"] ["given", "due"] (defScope s__law_alike) := ⟨rfl, rfl, rfl, by decide +kernel, rfl, by decide +kernel, by decide +kernel⟩
abbrev s_row_of : Stmt := topS 9
theorem sc_row_of : FnScope ["many", "k"] ["many"] (defScope s_row_of) := ⟨rfl, rfl, rfl, by decide +kernel, rfl, by decide +kernel, by decide +kernel⟩
abbrev s_made_of : Stmt := topS 1
theorem sc_made_of : FnScope ["versions", "k", "found", "at", "one"] ["versions", "k"] (defScope s_made_of) := ⟨rfl, rfl, rfl, by decide +kernel, rfl, by decide +kernel, by decide +kernel⟩
abbrev s_split_by : Stmt := topS 3
theorem sc_split_by : FnScope ["versions", "left", "k", "own", "one"] ["versions", "left", "k"] (defScope s_split_by) := ⟨rfl, rfl, rfl, by decide +kernel, rfl, by decide +kernel, by decide +kernel⟩
abbrev s_best_ask : Stmt := topS 4
theorem sc_best_ask : FnScope ["versions", "left", "barred", "rows", "k", "inner"] ["versions", "left", "barred"] (defScope s_best_ask) := ⟨rfl, rfl, rfl, by decide +kernel, rfl, by decide +kernel, by decide +kernel⟩
abbrev s_left_by : Stmt := topS 5
theorem sc_left_by : FnScope ["versions", "left", "k", "is_bad", "own", "one"] ["versions", "left", "k", "is_bad"] (defScope s_left_by) := ⟨rfl, rfl, rfl, by decide +kernel, rfl, by decide +kernel, by decide +kernel⟩
abbrev s_asks_for : Stmt := topS 6
theorem sc_asks_for : FnScope ["versions", "left", "barred", "broken", "found", "ask"] ["versions", "left", "barred", "broken"] (defScope s_asks_for) := ⟨rfl, rfl, rfl, by decide +kernel, rfl, by decide +kernel, by decide +kernel⟩
abbrev s_least_asks : Stmt := topS 8
theorem sc_least_asks : FnScope ["versions", "left", "rows", "k", "inner", "outer"] ["versions", "left"] (defScope s_least_asks) := ⟨rfl, rfl, rfl, by decide +kernel, rfl, by decide +kernel, by decide +kernel⟩
abbrev s_most_asks : Stmt := topS 7
theorem sc_most_asks : FnScope ["versions", "left", "barred", "broken"] ["versions", "left", "barred"] (defScope s_most_asks) := ⟨rfl, rfl, rfl, by decide +kernel, rfl, by decide +kernel, by decide +kernel⟩
abbrev s_suspects : Stmt := topS 2
theorem sc_suspects : FnScope ["versions", "good", "bad", "found", "k", "one"] ["versions", "good", "bad"] (defScope s_suspects) := ⟨rfl, rfl, rfl, by decide +kernel, rfl, by decide +kernel, by decide +kernel⟩
abbrev s__law_next : Stmt := topS 13
theorem sc__law_next : FnScope ["w", "many"] ["w", "many"] (defScope s__law_next) := ⟨rfl, rfl, rfl, by decide +kernel, rfl, by decide +kernel, by decide +kernel⟩
abbrev s__law_pick : Stmt := topS 14
theorem sc__law_pick : FnScope ["w", "rows"] ["w", "rows"] (defScope s__law_pick) := ⟨rfl, rfl, rfl, by decide +kernel, rfl, by decide +kernel, by decide +kernel⟩
abbrev s__law_made : Stmt := topS 17
theorem sc__law_made : FnScope ["versions", "k", "found", "at", "one"] ["versions", "k"] (defScope s__law_made) := ⟨rfl, rfl, rfl, by decide +kernel, rfl, by decide +kernel, by decide +kernel⟩
abbrev s__law_versions : Stmt := topS 16
theorem sc__law_versions : FnScope ["w", "found", "k", "some", "j"] ["w"] (defScope s__law_versions) := ⟨rfl, rfl, rfl, by decide +kernel, rfl, by decide +kernel, by decide +kernel⟩
abbrev s_law : Stmt := topS 19
theorem sc_law : FnScope ["script", "w", "turn", "versions", "many", "made", "broken", "told_by", "bad", "good", "left", "counts", "own", "row", "least", "most", "k", "rest", "asks", "rows", "ask", "wrong", "one", "j"] ["script"] (defScope s_law) := ⟨rfl, rfl, rfl, by decide +kernel, rfl, by decide +kernel, by decide +kernel⟩
theorem d__law_draws {P : Program} {w : World} {K : PySem.W.Frag} {mg : Str → Option Value} {base : Heap} {k : Nat} {f : Addr} {fd : FuncData} (TX : TX K w mg) (D0 : Def0 K mg "_law_draws" s__law_draws f fd ["script", "many"]) : Cal P w K mg base (k + 1) "_law_draws" f fd ["script", "many"] (runFn 8 2 (b__law_draws)) :=
  ⟨fn_d D0.1 sc__law_draws (by decide) fun cdv A outer s H E hr => (show SndSs (cxOf CX0 P w K mg base ["script", "many", "draws", "mixed", "k", "cell", "rest", "turn"] "_law_draws" (defScope s__law_draws) f cdv A outer s H E).nox (defBody s__law_draws) (b__law_draws) from (ss_cons (s_set 2 sc__law_draws.nd rfl (by first | exact .inl rfl | exact .inr rfl) (e_lst a_nil)) (ss_cons (s_set 3 sc__law_draws.nd rfl (by first | exact .inl rfl | exact .inr rfl) (e_int)) (ss_cons (s_for PassesOwn.never rfl (SndI.x (i_range1 (by rfl) TX.range (a_cons (e_callB call_len sLen (by rfl) TX.len (by decide +kernel) (a_cons (e_var 0) a_nil)) a_nil) (hone := a1_len))) (g_name 4 sc__law_draws.nd rfl (by first | exact .inl rfl | exact .inr rfl)) (ss_cons (s_set 5 sc__law_draws.nd rfl (by first | exact .inl rfl | exact .inr rfl) (e_callB call_abs sAbs (by rfl) TX.abs (by decide +kernel) (a_cons (e_callTy call_int1 sInt (by rfl) TX.int (by decide +kernel) (a_cons (e_ix ix_seq sIx (e_var 0) (e_var 4)) a_nil)) a_nil))) (ss_cons (s_set 3 sc__law_draws.nd rfl (by first | exact .inl rfl | exact .inr rfl) (e_op op_mod sMod (e_callTy call_int1 sInt (by rfl) TX.int (by decide +kernel) (a_cons (e_op op_addG sAdd (e_op op_addG sAdd (e_op op_mul sMul (e_var 3) (e_int)) (e_op op_mod sMod (e_var 5) (e_int))) (e_var 4)) a_nil)) (e_int))) (ss_cons (s_set 6 sc__law_draws.nd rfl (by first | exact .inl rfl | exact .inr rfl) (e_int)) (ss_cons (s_if (t_cmp op_ge sGe (nomark _) (e_var 5) (e_op op_pow sPow (e_int) (e_int))) (ss_one (s_set 6 sc__law_draws.nd rfl (by first | exact .inl rfl | exact .inr rfl) (e_var 5))) (ss_cons (s_app 2 (pv 2) (e_op op_mod sMod (e_callTy call_int1 sInt (by rfl) TX.int (by decide +kernel) (a_cons (e_var 5) a_nil)) (e_int))) (ss_one (s_app 2 (pv 2) (e_op op_mod sMod (e_op op_mod sMod (e_callTy call_int1 sInt (by rfl) TX.int (by decide +kernel) (a_cons (e_op op_addG sAdd (e_op op_mul sMul (e_var 3) (e_int)) (e_int)) a_nil)) (e_int)) (e_int)))))) (ss_one (s_for PassesOwn.never rfl (SndI.x (i_range1 (by rfl) TX.range (a_cons (e_int) a_nil) (hone := a1_len))) (g_name 7 sc__law_draws.nd rfl (by first | exact .inl rfl | exact .inr rfl)) (ss_one (s_if (t_cmp op_gt sGt (nomark _) (e_var 6) (e_int)) (ss_cons (s_app 2 (pv 2) (e_op op_mod sMod (e_callTy call_int1 sInt (by rfl) TX.int (by decide +kernel) (a_cons (e_var 6) a_nil)) (e_int))) (ss_one (s_set 6 sc__law_draws.nd rfl (by first | exact .inl rfl | exact .inr rfl) (e_op op_fdiv sFdiv (e_var 6) (e_int))))) ss_nil))))))))) (ss_cons (s_for PassesOwn.never rfl (SndI.x (i_range1 (by rfl) TX.range (a_cons (e_var 1) a_nil) (hone := a1_len))) (g_name 4 sc__law_draws.nd rfl (by first | exact .inl rfl | exact .inr rfl)) (ss_cons (s_set 3 sc__law_draws.nd rfl (by first | exact .inl rfl | exact .inr rfl) (e_op op_mod sMod (e_callTy call_int1 sInt (by rfl) TX.int (by decide +kernel) (a_cons (e_op op_addG sAdd (e_op op_addG sAdd (e_op op_mul sMul (e_var 3) (e_int)) (e_var 4)) (e_int)) a_nil)) (e_int))) (ss_one (s_app 2 (pv 2) (e_op op_mod sMod (e_callTy call_int1 sInt (by rfl) TX.int (by decide +kernel) (a_cons (e_var 3) a_nil)) (e_int)))))) (ss_one (s_ret (e_sl sl_any sSl (e_var 2) o_none (o_some (e_var 1)))))))))), D0.2.1, D0.1.kp, D0.2.2⟩
theorem d__law_least {P : Program} {w : World} {K : PySem.W.Frag} {mg : Str → Option Value} {base : Heap} {k : Nat} {f : Addr} {fd : FuncData} (TX : TX K w mg) (D0 : Def0 K mg "_law_least" s__law_least f fd ["made", "left"]) : Cal P w K mg base (k + 1) "_law_least" f fd ["made", "left"] (runFn 11 2 (b__law_least)) :=
  ⟨fn_d D0.1 sc__law_least (by decide) fun cdv A outer s H E hr => (show SndSs (cxOf CX0 P w K mg base ["made", "left", "table", "rows", "one", "row", "size", "best", "ask", "inner", "outer"] "_law_least" (defScope s__law_least) f cdv A outer s H E).nox (defBody s__law_least) (b__law_least) from (ss_cons (s_par 2 3 rfl sc__law_least.nd rfl rfl (by decide) rfl rfl (a_cons (e_dt0) (a_cons (e_lst (a_cons (e_fz (e_tup a_nil)) a_nil)) a_nil))) (ss_cons (s_for PassesOwn.never rfl (SndI.x (i_seq (e_var 1))) (g_name 4 sc__law_least.nd rfl (by first | exact .inl rfl | exact .inr rfl)) (ss_one (s_set 3 sc__law_least.nd rfl (by first | exact .inl rfl | exact .inr rfl) (e_op op_addG sAdd (e_var 3) (e_lc (own := [("row", 5)]) rfl sc__law_least.nd (SndC.x (i_seqC (e_var 3))) (blkOk_by (by kernel_rfl)) (by decide) (fun _ _ _ _ _ => (g_name 5 sc__law_least.nd rfl (by first | exact .inl rfl | exact .inr rfl))) (fun _ _ _ _ _ => ts_nil) (fun _ _ _ _ _ => (e_op op_addG sAdd (e_var 5) (e_tup (a_cons (e_fz (e_var 4)) a_nil))))))))) (ss_cons (s_for PassesOwn.never rfl (SndI.x (i_seq (e_callB (cr_srtD hr.units) sSrtD (by rfl) TX.sorted (by decide +kernel) (a_cons (e_lc (own := [("row", 5)]) rfl sc__law_least.nd (SndC.x (i_seqC (e_var 3))) (blkOk_by (by kernel_rfl)) (by decide) (fun _ _ _ _ _ => (g_name 5 sc__law_least.nd rfl (by first | exact .inl rfl | exact .inr rfl))) (fun _ _ _ _ _ => ts_nil) (fun _ _ _ _ _ => (e_tup (a_cons (e_fz (e_callB call_len sLen (by rfl) TX.len (by decide +kernel) (a_cons (e_var 5) a_nil))) (a_cons (e_fz (e_var 5)) a_nil))))) a_nil)))) (g_tup rfl (gs_cons (g_name 6 sc__law_least.nd rfl (by first | exact .inl rfl | exact .inr rfl)) (gs_cons (g_name 5 sc__law_least.nd rfl (by first | exact .inl rfl | exact .inr rfl)) gs_nil)) rfl) (ss_cons (s_set 7 sc__law_least.nd rfl (by first | exact .inl rfl | exact .inr rfl) (e_if (t_cmp op_lt sLt (nomark _) (e_var 6) (e_int)) (e_lst (a_cons (e_fz (e_int)) a_nil)) (e_lst a_nil))) (ss_cons (s_for PassesOwn.never rfl (SndI.x (i_seq (e_var 5))) (g_name 8 sc__law_least.nd rfl (by first | exact .inl rfl | exact .inr rfl)) (ss_cons (s_set 9 sc__law_least.nd rfl (by first | exact .inl rfl | exact .inr rfl) (e_callTy call_tupF sTuple (by rfl) TX.tuple (by decide +kernel) (a_cons (e_lc (own := [("one", 4)]) rfl sc__law_least.nd (SndC.x (i_seqC (e_var 5))) (blkOk_by (by kernel_rfl)) (by decide) (fun _ _ _ _ _ => (g_name 4 sc__law_least.nd rfl (by first | exact .inl rfl | exact .inr rfl))) (fun _ _ _ _ _ => (ts_one (t_cmp op_inG (sInG false) (by rfl) (e_var 4) (e_ix (ix_G hr.units) sIxG (e_var 0) (e_var 8))))) (fun _ _ _ _ _ => (e_var 4))) a_nil))) (ss_cons (s_set 10 sc__law_least.nd rfl (by first | exact .inl rfl | exact .inr rfl) (e_callTy call_tupF sTuple (by rfl) TX.tuple (by decide +kernel) (a_cons (e_lc (own := [("one", 4)]) rfl sc__law_least.nd (SndC.x (i_seqC (e_var 5))) (blkOk_by (by kernel_rfl)) (by decide) (fun _ _ _ _ _ => (g_name 4 sc__law_least.nd rfl (by first | exact .inl rfl | exact .inr rfl))) (fun _ _ _ _ _ => (ts_one (t_cmp op_notInG (sInG true) (by rfl) (e_var 4) (e_ix (ix_G hr.units) sIxG (e_var 0) (e_var 8))))) (fun _ _ _ _ _ => (e_var 4))) a_nil))) (ss_one (s_set 7 sc__law_least.nd rfl (by first | exact .inl rfl | exact .inr rfl) (e_op op_addG sAdd (e_var 7) (e_if (t_w (w_and (t_cmp (op_neG hr.units) sNe (nomark _) (e_var 9) (e_tup a_nil)) (w_and1 (t_cmp (op_neG hr.units) sNe (nomark _) (e_var 10) (e_tup a_nil))))) (e_lst (a_cons (e_fz (e_op op_addG sAdd (e_int) (e_callB (call_max2 rfl) sMax2 (by rfl) TX.max (by decide +kernel) (a_cons (e_ix (ix_G hr.units) sIxG (e_var 2) (e_var 9)) (a_cons (e_ix (ix_G hr.units) sIxG (e_var 2) (e_var 10)) a_nil))))) a_nil)) (e_lst a_nil)))))))) (ss_one (s_put 2 hr.units (pv 2) (e_var 5) (e_callB (cr_minL rfl hr.units) sMinL (by rfl) TX.min (by decide +kernel) (a_cons (e_var 7) a_nil))))))) (ss_one (s_ret (e_ix (ix_G hr.units) sIxG (e_var 2) (e_callTy call_tupF sTuple (by rfl) TX.tuple (by decide +kernel) (a_cons (e_var 1) a_nil))))))))), D0.2.1, D0.1.kp, D0.2.2⟩
theorem d_asks_in_row {P : Program} {w : World} {K : PySem.W.Frag} {mg : Str → Option Value} {base : Heap} {k : Nat} {f : Addr} {fd : FuncData} (TX : TX K w mg) (D0 : Def0 K mg "asks_in_row" s_asks_in_row f fd ["many"]) : Cal P w K mg base (k + 1) "asks_in_row" f fd ["many"] (runFn 2 1 (b_asks_in_row)) :=
  ⟨fn_d D0.1 sc_asks_in_row (by decide) fun cdv A outer s H E hr => (show SndSs (cxOf CX0 P w K mg base ["many", "found"] "asks_in_row" (defScope s_asks_in_row) f cdv A outer s H E).nox (defBody s_asks_in_row) (b_asks_in_row) from (ss_cons (s_set 1 sc_asks_in_row.nd rfl (by first | exact .inl rfl | exact .inr rfl) (e_int)) (ss_cons (s_while 100000 PassesOwn.never (t_cmp op_lt sLt (nomark _) (e_op op_shl sShl (e_int) (e_var 1)) (e_var 0)) (ss_one (s_aug 1 sc_asks_in_row.nd rfl (by first | exact .inl rfl | exact .inr rfl) (e_int) ip_add sIpAdd))) (ss_one (s_ret (e_var 1)))))), D0.2.1, D0.1.kp, D0.2.2⟩
theorem d__law_alike {P : Program} {w : World} {K : PySem.W.Frag} {mg : Str → Option Value} {base : Heap} {k : Nat} {f : Addr} {fd : FuncData} (TX : TX K w mg) (D0 : Def0 K mg "_law_alike" s__law_alike f fd ["given", "due"]) {a__law_alike : Addr} {d__law_alike : FuncData} {f__law_alike : Fn} (H__law_alike : Cal P w K mg base k "_law_alike" a__law_alike d__law_alike ["given", "due"] f__law_alike) : Cal P w K mg base (k + 1) "_law_alike" f fd ["given", "due"] (runFn 3 2 (b__law_alike f__law_alike)) :=
  ⟨fn_d D0.1 sc__law_alike (by decide) fun cdv A outer s H E hr => (show SndSs (cxOf CX0 P w K mg base ["given", "due", "k"] "_law_alike" (defScope s__law_alike) f cdv A outer s H E).nox (defBody s__law_alike) (b__law_alike f__law_alike) from (ss_cons (s_if (t_tru (e_callB call_isi sIsi (by rfl) TX.isinstance (by decide +kernel) (a_cons (e_var 1) (a_cons (e_ty (n := "tuple") (by rfl) TX.tuple (by decide +kernel)) a_nil)))) (ss_cons (s_if (t_w (w_or (t_not (t_tru (e_callB call_isi sIsi (by rfl) TX.isinstance (by decide +kernel) (a_cons (e_var 0) (a_cons (e_ty (n := "tuple") (by rfl) TX.tuple (by decide +kernel)) a_nil))))) (w_or1 (t_cmp (op_neG hr.units) sNe (nomark _) (e_callB call_len sLen (by rfl) TX.len (by decide +kernel) (a_cons (e_var 0) a_nil)) (e_callB call_len sLen (by rfl) TX.len (by decide +kernel) (a_cons (e_var 1) a_nil)))))) (ss_one (s_ret (e_bl))) ss_nil) (ss_one (s_ret (e_cmp (op_eqG hr.units) sEq (nomark _) (e_lc (own := [("k", 2)]) rfl sc__law_alike.nd (SndI.c (SndI.x (i_range1 (by rfl) TX.range (a_cons (e_callB call_len sLen (by rfl) TX.len (by decide +kernel) (a_cons (e_var 1) a_nil)) a_nil) (hone := a1_len)))) (blkOk_by (by kernel_rfl)) (by decide) (fun _ _ _ _ _ => (g_name 2 sc__law_alike.nd rfl (by first | exact .inl rfl | exact .inr rfl))) (fun _ _ _ _ _ => (ts_one (t_not (t_tru (e_call H__law_alike.1 hr (by rfl) H__law_alike.2.1 H__law_alike.2.2.1 H__law_alike.2.2.2 (a_cons (e_fz (e_ix ix_seq sIx (e_var 0) (e_var 2))) (a_cons (e_fz (e_ix ix_seq sIx (e_var 1) (e_var 2))) a_nil))))))) (fun _ _ _ _ _ => (e_var 2))) (e_lst a_nil))))) ss_nil) (ss_cons (s_if (t_cmp op_isC sIs (nomark _) (e_var 1) (e_non)) (ss_one (s_ret (e_cmp op_isC sIs (nomark _) (e_var 0) (e_non)))) ss_nil) (ss_cons (s_if (t_tru (e_callB call_isi sIsi (by rfl) TX.isinstance (by decide +kernel) (a_cons (e_var 1) (a_cons (e_ty (n := "bool") (by rfl) TX.bool (by decide +kernel)) a_nil)))) (ss_one (s_ret ((e_and (e_callB call_isi sIsi (by rfl) TX.isinstance (by decide +kernel) (a_cons (e_var 0) (a_cons (e_ty (n := "bool") (by rfl) TX.bool (by decide +kernel)) a_nil))) (e_one (e_cmp (op_eqG hr.units) sEq (nomark _) (e_var 0) (e_var 1))))))) ss_nil) (ss_cons (s_if (t_tru (e_callB call_isi sIsi (by rfl) TX.isinstance (by decide +kernel) (a_cons (e_var 1) (a_cons (e_ty (n := "int") (by rfl) TX.int (by decide +kernel)) a_nil)))) (ss_one (s_ret ((e_and (e_callB call_isi sIsi (by rfl) TX.isinstance (by decide +kernel) (a_cons (e_var 0) (a_cons (e_ty (n := "int") (by rfl) TX.int (by decide +kernel)) a_nil))) (e_and (e_not (e_callB call_isi sIsi (by rfl) TX.isinstance (by decide +kernel) (a_cons (e_var 0) (a_cons (e_ty (n := "bool") (by rfl) TX.bool (by decide +kernel)) a_nil)))) (e_one (e_cmp (op_eqG hr.units) sEq (nomark _) (e_var 0) (e_var 1)))))))) ss_nil) (ss_one (s_ret ((e_and (e_callB call_isi sIsi (by rfl) TX.isinstance (by decide +kernel) (a_cons (e_var 0) (a_cons (e_ty (n := "str") (by rfl) TX.str (by decide +kernel)) a_nil))) (e_one (e_cmp (op_eqG hr.units) sEq (nomark _) (e_var 0) (e_var 1)))))))))))), D0.2.1, D0.1.kp, D0.2.2⟩
theorem d_row_of {P : Program} {w : World} {K : PySem.W.Frag} {mg : Str → Option Value} {base : Heap} {k : Nat} {f : Addr} {fd : FuncData} (TX : TX K w mg) (D0 : Def0 K mg "row_of" s_row_of f fd ["many"]) : Cal P w K mg base (k + 1) "row_of" f fd ["many"] (runFn 2 1 (b_row_of)) :=
  ⟨fn_d D0.1 sc_row_of (by decide) fun cdv A outer s H E hr => (show SndSs (cxOf CX0 P w K mg base ["many", "k"] "row_of" (defScope s_row_of) f cdv A outer s H E).nox (defBody s_row_of) (b_row_of) from (ss_one (s_ret (e_callTy call_tupF sTuple (by rfl) TX.tuple (by decide +kernel) (a_cons (e_lc (own := [("k", 1)]) rfl sc_row_of.nd (SndI.c (SndI.x (i_range1 (by rfl) TX.range (a_cons (e_var 0) a_nil) (hone := a1_len)))) (blkOk_by (by kernel_rfl)) (by decide) (fun _ _ _ _ _ => (g_name 1 sc_row_of.nd rfl (by first | exact .inl rfl | exact .inr rfl))) (fun _ _ _ _ _ => ts_nil) (fun _ _ _ _ _ => (e_if (t_cmp op_gt sGt (nomark _) (e_var 1) (e_int)) (e_tup (a_cons (e_fz (e_op op_sub sSub (e_var 1) (e_int))) a_nil)) (e_tup a_nil)))) a_nil))))), D0.2.1, D0.1.kp, D0.2.2⟩
theorem d_made_of {P : Program} {w : World} {K : PySem.W.Frag} {mg : Str → Option Value} {base : Heap} {k : Nat} {f : Addr} {fd : FuncData} (TX : TX K w mg) (D0 : Def0 K mg "made_of" s_made_of f fd ["versions", "k"]) : Cal P w K mg base (k + 1) "made_of" f fd ["versions", "k"] (runFn 5 2 (b_made_of)) :=
  ⟨fn_d D0.1 sc_made_of (by decide) fun cdv A outer s H E hr => (show SndSs (cxOf CX0 P w K mg base ["versions", "k", "found", "at", "one"] "made_of" (defScope s_made_of) f cdv A outer s H E).nox (defBody s_made_of) (b_made_of) from (ss_cons (s_set 2 sc_made_of.nd rfl (by first | exact .inl rfl | exact .inr rfl) (e_lst (a_cons (e_fz (e_var 1)) a_nil))) (ss_cons (s_set 3 sc_made_of.nd rfl (by first | exact .inl rfl | exact .inr rfl) (e_int)) (ss_cons (s_while 100000 PassesOwn.never (t_cmp op_lt sLt (nomark _) (e_var 3) (e_callB call_len sLen (by rfl) TX.len (by decide +kernel) (a_cons (e_var 2) a_nil))) (ss_cons (s_ext 2 (pv 2) (e_lc (own := [("one", 4)]) rfl sc_made_of.nd (SndC.x (i_seqC (e_ix ix_seq sIx (e_var 0) (e_ix ix_seq sIx (e_var 2) (e_var 3))))) (blkOk_by (by kernel_rfl)) (by decide) (fun _ _ _ _ _ => (g_name 4 sc_made_of.nd rfl (by first | exact .inl rfl | exact .inr rfl))) (fun _ _ _ _ _ => (ts_one (t_cmp op_notInG (sInG true) (by rfl) (e_var 4) (e_var 2)))) (fun _ _ _ _ _ => (e_var 4)))) (ss_one (s_aug 3 sc_made_of.nd rfl (by first | exact .inl rfl | exact .inr rfl) (e_int) ip_add sIpAdd)))) (ss_one (s_ret (e_callTy call_tupF sTuple (by rfl) TX.tuple (by decide +kernel) (a_cons (e_callB (cr_srtD hr.units) sSrtD (by rfl) TX.sorted (by decide +kernel) (a_cons (e_var 2) a_nil)) a_nil)))))))), D0.2.1, D0.1.kp, D0.2.2⟩
theorem d_split_by {P : Program} {w : World} {K : PySem.W.Frag} {mg : Str → Option Value} {base : Heap} {k : Nat} {f : Addr} {fd : FuncData} (TX : TX K w mg) (D0 : Def0 K mg "split_by" s_split_by f fd ["versions", "left", "k"]) {a_made_of : Addr} {d_made_of : FuncData} {f_made_of : Fn} (H_made_of : Cal P w K mg base k "made_of" a_made_of d_made_of ["versions", "k"] f_made_of) : Cal P w K mg base (k + 1) "split_by" f fd ["versions", "left", "k"] (runFn 5 3 (b_split_by f_made_of)) :=
  ⟨fn_d D0.1 sc_split_by (by decide) fun cdv A outer s H E hr => (show SndSs (cxOf CX0 P w K mg base ["versions", "left", "k", "own", "one"] "split_by" (defScope s_split_by) f cdv A outer s H E).nox (defBody s_split_by) (b_split_by f_made_of) from (ss_cons (s_set 3 sc_split_by.nd rfl (by first | exact .inl rfl | exact .inr rfl) (e_call H_made_of.1 hr (by rfl) H_made_of.2.1 H_made_of.2.2.1 H_made_of.2.2.2 (a_cons (e_fz (e_var 0)) (a_cons (e_fz (e_var 2)) a_nil)))) (ss_one (s_ret (e_callB call_len sLen (by rfl) TX.len (by decide +kernel) (a_cons (e_lc (own := [("one", 4)]) rfl sc_split_by.nd (SndC.x (i_seqC (e_var 1))) (blkOk_by (by kernel_rfl)) (by decide) (fun _ _ _ _ _ => (g_name 4 sc_split_by.nd rfl (by first | exact .inl rfl | exact .inr rfl))) (fun _ _ _ _ _ => (ts_one (t_cmp op_inG (sInG false) (by rfl) (e_var 4) (e_var 3)))) (fun _ _ _ _ _ => (e_var 4))) a_nil)))))), D0.2.1, D0.1.kp, D0.2.2⟩
theorem d_best_ask {P : Program} {w : World} {K : PySem.W.Frag} {mg : Str → Option Value} {base : Heap} {k : Nat} {f : Addr} {fd : FuncData} (TX : TX K w mg) (D0 : Def0 K mg "best_ask" s_best_ask f fd ["versions", "left", "barred"]) {a_split_by : Addr} {d_split_by : FuncData} {f_split_by : Fn} (H_split_by : Cal P w K mg base k "split_by" a_split_by d_split_by ["versions", "left", "k"] f_split_by) : Cal P w K mg base (k + 1) "best_ask" f fd ["versions", "left", "barred"] (runFn 6 3 (b_best_ask f_split_by)) :=
  ⟨fn_d D0.1 sc_best_ask (by decide) fun cdv A outer s H E hr => (show SndSs (cxOf CX0 P w K mg base ["versions", "left", "barred", "rows", "k", "inner"] "best_ask" (defScope s_best_ask) f cdv A outer s H E).nox (defBody s_best_ask) (b_best_ask f_split_by) from (ss_cons (s_set 3 sc_best_ask.nd rfl (by first | exact .inl rfl | exact .inr rfl) (e_lst a_nil)) (ss_cons (s_for PassesOwn.never rfl (SndI.x (i_seq (e_var 1))) (g_name 4 sc_best_ask.nd rfl (by first | exact .inl rfl | exact .inr rfl)) (ss_cons (s_set 5 sc_best_ask.nd rfl (by first | exact .inl rfl | exact .inr rfl) (e_call H_split_by.1 hr (by rfl) H_split_by.2.1 H_split_by.2.2.1 H_split_by.2.2.2 (a_cons (e_fz (e_var 0)) (a_cons (e_fz (e_var 1)) (a_cons (e_fz (e_var 4)) a_nil))))) (ss_one (s_if (t_w (w_and (t_cmp op_notInG (sInG true) (by rfl) (e_var 4) (e_var 2)) (w_and1 (t_ch op_lt sLt op_lt sLt (e_int) (e_var 5) (e_callB call_len sLen (by rfl) TX.len (by decide +kernel) (a_cons (e_var 1) a_nil)))))) (ss_one (s_app 3 (pv 3) (e_tup (a_cons (e_fz (e_neg (e_callB (call_min2 rfl) sMin2 (by rfl) TX.min (by decide +kernel) (a_cons (e_var 5) (a_cons (e_op op_sub sSub (e_callB call_len sLen (by rfl) TX.len (by decide +kernel) (a_cons (e_var 1) a_nil)) (e_var 5)) a_nil))))) (a_cons (e_fz (e_var 4)) a_nil))))) ss_nil)))) (ss_one (s_ret (e_if (t_cmp (op_neG hr.units) sNe (nomark _) (e_var 3) (e_lst a_nil)) (e_ix ix_seq sIx (e_callB (cr_minL rfl hr.units) sMinL (by rfl) TX.min (by decide +kernel) (a_cons (e_var 3) a_nil)) (e_int)) (e_non))))))), D0.2.1, D0.1.kp, D0.2.2⟩
theorem d_left_by {P : Program} {w : World} {K : PySem.W.Frag} {mg : Str → Option Value} {base : Heap} {k : Nat} {f : Addr} {fd : FuncData} (TX : TX K w mg) (D0 : Def0 K mg "left_by" s_left_by f fd ["versions", "left", "k", "is_bad"]) {a_made_of : Addr} {d_made_of : FuncData} {f_made_of : Fn} (H_made_of : Cal P w K mg base k "made_of" a_made_of d_made_of ["versions", "k"] f_made_of) : Cal P w K mg base (k + 1) "left_by" f fd ["versions", "left", "k", "is_bad"] (runFn 6 4 (b_left_by f_made_of)) :=
  ⟨fn_d D0.1 sc_left_by (by decide) fun cdv A outer s H E hr => (show SndSs (cxOf CX0 P w K mg base ["versions", "left", "k", "is_bad", "own", "one"] "left_by" (defScope s_left_by) f cdv A outer s H E).nox (defBody s_left_by) (b_left_by f_made_of) from (ss_cons (s_set 4 sc_left_by.nd rfl (by first | exact .inl rfl | exact .inr rfl) (e_call H_made_of.1 hr (by rfl) H_made_of.2.1 H_made_of.2.2.1 H_made_of.2.2.2 (a_cons (e_fz (e_var 0)) (a_cons (e_fz (e_var 2)) a_nil)))) (ss_one (s_ret (e_callTy call_tupF sTuple (by rfl) TX.tuple (by decide +kernel) (a_cons (e_lc (own := [("one", 5)]) rfl sc_left_by.nd (SndC.x (i_seqC (e_var 1))) (blkOk_by (by kernel_rfl)) (by decide) (fun _ _ _ _ _ => (g_name 5 sc_left_by.nd rfl (by first | exact .inl rfl | exact .inr rfl))) (fun _ _ _ _ _ => (ts_one (t_cmp (op_eqG hr.units) sEq (nomark _) (e_cmp op_inG (sInG false) (by rfl) (e_var 5) (e_var 4)) (e_var 3)))) (fun _ _ _ _ _ => (e_var 5))) a_nil)))))), D0.2.1, D0.1.kp, D0.2.2⟩
theorem d_asks_for {P : Program} {w : World} {K : PySem.W.Frag} {mg : Str → Option Value} {base : Heap} {k : Nat} {f : Addr} {fd : FuncData} (TX : TX K w mg) (D0 : Def0 K mg "asks_for" s_asks_for f fd ["versions", "left", "barred", "broken"]) {a_best_ask : Addr} {d_best_ask : FuncData} {f_best_ask : Fn} (H_best_ask : Cal P w K mg base k "best_ask" a_best_ask d_best_ask ["versions", "left", "barred"] f_best_ask) {a_made_of : Addr} {d_made_of : FuncData} {f_made_of : Fn} (H_made_of : Cal P w K mg base k "made_of" a_made_of d_made_of ["versions", "k"] f_made_of) {a_left_by : Addr} {d_left_by : FuncData} {f_left_by : Fn} (H_left_by : Cal P w K mg base k "left_by" a_left_by d_left_by ["versions", "left", "k", "is_bad"] f_left_by) : Cal P w K mg base (k + 1) "asks_for" f fd ["versions", "left", "barred", "broken"] (runFn 6 4 (b_asks_for f_best_ask f_made_of f_left_by)) :=
  ⟨fn_d D0.1 sc_asks_for (by decide) fun cdv A outer s H E hr => (show SndSs (cxOf CX0 P w K mg base ["versions", "left", "barred", "broken", "found", "ask"] "asks_for" (defScope s_asks_for) f cdv A outer s H E).nox (defBody s_asks_for) (b_asks_for f_best_ask f_made_of f_left_by) from (ss_cons (s_set 4 sc_asks_for.nd rfl (by first | exact .inl rfl | exact .inr rfl) (e_lst a_nil)) (ss_cons (s_frz [1] (s_set 5 sc_asks_for.nd rfl (by first | exact .inl rfl | exact .inr rfl) (e_call H_best_ask.1 hr (by rfl) H_best_ask.2.1 H_best_ask.2.2.1 H_best_ask.2.2.2 (a_cons (e_fz (e_var 0)) (a_cons (e_fz (e_var 1)) (a_cons (e_fz (e_var 2)) a_nil)))))) (ss_cons (s_while 100000 PassesOwn.never (t_cmp op_notC sIsN (nomark _) (e_var 5) (e_non)) (ss_cons (s_frz [5] (s_app 4 (pv 4) (e_var 5))) (ss_cons (s_frz [1, 5] (s_set 1 sc_asks_for.nd rfl (by first | exact .inl rfl | exact .inr rfl) (e_call H_left_by.1 hr (by rfl) H_left_by.2.1 H_left_by.2.2.1 H_left_by.2.2.2 (a_cons (e_fz (e_var 0)) (a_cons (e_fz (e_var 1)) (a_cons (e_fz (e_var 5)) (a_cons (e_fz (e_cmp op_inG (sInG false) (by rfl) (e_var 3) (e_call H_made_of.1 hr (by rfl) H_made_of.2.1 H_made_of.2.2.1 H_made_of.2.2.2 (a_cons (e_fz (e_var 0)) (a_cons (e_fz (e_var 5)) a_nil))))) a_nil))))))) (ss_one (s_frz [1] (s_set 5 sc_asks_for.nd rfl (by first | exact .inl rfl | exact .inr rfl) (e_call H_best_ask.1 hr (by rfl) H_best_ask.2.1 H_best_ask.2.2.1 H_best_ask.2.2.2 (a_cons (e_fz (e_var 0)) (a_cons (e_fz (e_var 1)) (a_cons (e_fz (e_var 2)) a_nil)))))))))) (ss_one (s_frz [1] (s_ret (e_tup (a_cons (e_fz (e_callTy call_tupF sTuple (by rfl) TX.tuple (by decide +kernel) (a_cons (e_var 4) a_nil))) (a_cons (e_fz (e_var 1)) a_nil)))))))))), D0.2.1, D0.1.kp, D0.2.2⟩
theorem d_least_asks {P : Program} {w : World} {K : PySem.W.Frag} {mg : Str → Option Value} {base : Heap} {k : Nat} {f : Addr} {fd : FuncData} (TX : TX K w mg) (D0 : Def0 K mg "least_asks" s_least_asks f fd ["versions", "left"]) {a_least_asks : Addr} {d_least_asks : FuncData} {f_least_asks : Fn} (H_least_asks : Cal P w K mg base k "least_asks" a_least_asks d_least_asks ["versions", "left"] f_least_asks) {a_left_by : Addr} {d_left_by : FuncData} {f_left_by : Fn} (H_left_by : Cal P w K mg base k "left_by" a_left_by d_left_by ["versions", "left", "k", "is_bad"] f_left_by) : Cal P w K mg base (k + 1) "least_asks" f fd ["versions", "left"] (runFn 6 2 (b_least_asks f_least_asks f_left_by)) :=
  ⟨fn_d D0.1 sc_least_asks (by decide) fun cdv A outer s H E hr => (show SndSs (cxOf CX0 P w K mg base ["versions", "left", "rows", "k", "inner", "outer"] "least_asks" (defScope s_least_asks) f cdv A outer s H E).nox (defBody s_least_asks) (b_least_asks f_least_asks f_left_by) from (ss_cons (s_if (t_cmp op_lt sLt (nomark _) (e_callB call_len sLen (by rfl) TX.len (by decide +kernel) (a_cons (e_var 1) a_nil)) (e_int)) (ss_one (s_ret (e_int))) ss_nil) (ss_cons (s_set 2 sc_least_asks.nd rfl (by first | exact .inl rfl | exact .inr rfl) (e_lst a_nil)) (ss_cons (s_for PassesOwn.never rfl (SndI.x (i_seq (e_var 1))) (g_name 3 sc_least_asks.nd rfl (by first | exact .inl rfl | exact .inr rfl)) (ss_cons (s_set 4 sc_least_asks.nd rfl (by first | exact .inl rfl | exact .inr rfl) (e_call H_left_by.1 hr (by rfl) H_left_by.2.1 H_left_by.2.2.1 H_left_by.2.2.2 (a_cons (e_fz (e_var 0)) (a_cons (e_fz (e_var 1)) (a_cons (e_fz (e_var 3)) (a_cons (e_fz (e_bl)) a_nil)))))) (ss_cons (s_set 5 sc_least_asks.nd rfl (by first | exact .inl rfl | exact .inr rfl) (e_call H_left_by.1 hr (by rfl) H_left_by.2.1 H_left_by.2.2.1 H_left_by.2.2.2 (a_cons (e_fz (e_var 0)) (a_cons (e_fz (e_var 1)) (a_cons (e_fz (e_var 3)) (a_cons (e_fz (e_bl)) a_nil)))))) (ss_one (s_if (t_w (w_and (t_cmp (op_neG hr.units) sNe (nomark _) (e_var 4) (e_tup a_nil)) (w_and1 (t_cmp (op_neG hr.units) sNe (nomark _) (e_var 5) (e_tup a_nil))))) (ss_one (s_frz [4, 5] (s_app 2 (pv 2) (e_op op_addG sAdd (e_int) (e_callB (call_max2 rfl) sMax2 (by rfl) TX.max (by decide +kernel) (a_cons (e_call H_least_asks.1 hr (by rfl) H_least_asks.2.1 H_least_asks.2.2.1 H_least_asks.2.2.2 (a_cons (e_fz (e_var 0)) (a_cons (e_fz (e_var 4)) a_nil))) (a_cons (e_call H_least_asks.1 hr (by rfl) H_least_asks.2.1 H_least_asks.2.2.1 H_least_asks.2.2.2 (a_cons (e_fz (e_var 0)) (a_cons (e_fz (e_var 5)) a_nil))) a_nil))))))) ss_nil))))) (ss_one (s_ret (e_callB (cr_minL rfl hr.units) sMinL (by rfl) TX.min (by decide +kernel) (a_cons (e_var 2) a_nil)))))))), D0.2.1, D0.1.kp, D0.2.2⟩
theorem d_most_asks {P : Program} {w : World} {K : PySem.W.Frag} {mg : Str → Option Value} {base : Heap} {k : Nat} {f : Addr} {fd : FuncData} (TX : TX K w mg) (D0 : Def0 K mg "most_asks" s_most_asks f fd ["versions", "left", "barred"]) {a_asks_for : Addr} {d_asks_for : FuncData} {f_asks_for : Fn} (H_asks_for : Cal P w K mg base k "asks_for" a_asks_for d_asks_for ["versions", "left", "barred", "broken"] f_asks_for) : Cal P w K mg base (k + 1) "most_asks" f fd ["versions", "left", "barred"] (runFn 4 3 (b_most_asks f_asks_for)) :=
  ⟨fn_d D0.1 sc_most_asks (by decide) fun cdv A outer s H E hr => (show SndSs (cxOf CX0 P w K mg base ["versions", "left", "barred", "broken"] "most_asks" (defScope s_most_asks) f cdv A outer s H E).nox (defBody s_most_asks) (b_most_asks f_asks_for) from (ss_one (s_ret (e_callB (cr_maxL rfl hr.units) sMaxL (by rfl) TX.max (by decide +kernel) (a_cons (e_lc (own := [("broken", 3)]) rfl sc_most_asks.nd (SndC.x (i_seqC (e_var 1))) (blkOk_by (by kernel_rfl)) (by decide) (fun _ _ _ _ _ => (g_name 3 sc_most_asks.nd rfl (by first | exact .inl rfl | exact .inr rfl))) (fun _ _ _ _ _ => ts_nil) (fun _ _ _ _ _ => (e_callB call_len sLen (by rfl) TX.len (by decide +kernel) (a_cons (e_ix ix_seq sIx (e_call H_asks_for.1 hr (by rfl) H_asks_for.2.1 H_asks_for.2.2.1 H_asks_for.2.2.2 (a_cons (e_fz (e_var 0)) (a_cons (e_fz (e_var 1)) (a_cons (e_fz (e_var 2)) (a_cons (e_fz (e_var 3)) a_nil))))) (e_int)) a_nil)))) a_nil))))), D0.2.1, D0.1.kp, D0.2.2⟩
theorem d_suspects {P : Program} {w : World} {K : PySem.W.Frag} {mg : Str → Option Value} {base : Heap} {k : Nat} {f : Addr} {fd : FuncData} (TX : TX K w mg) (D0 : Def0 K mg "suspects" s_suspects f fd ["versions", "good", "bad"]) {a_made_of : Addr} {d_made_of : FuncData} {f_made_of : Fn} (H_made_of : Cal P w K mg base k "made_of" a_made_of d_made_of ["versions", "k"] f_made_of) : Cal P w K mg base (k + 1) "suspects" f fd ["versions", "good", "bad"] (runFn 6 3 (b_suspects f_made_of)) :=
  ⟨fn_d D0.1 sc_suspects (by decide) fun cdv A outer s H E hr => (show SndSs (cxOf CX0 P w K mg base ["versions", "good", "bad", "found", "k", "one"] "suspects" (defScope s_suspects) f cdv A outer s H E).nox (defBody s_suspects) (b_suspects f_made_of) from (ss_cons (s_set 3 sc_suspects.nd rfl (by first | exact .inl rfl | exact .inr rfl) (e_call H_made_of.1 hr (by rfl) H_made_of.2.1 H_made_of.2.2.1 H_made_of.2.2.2 (a_cons (e_fz (e_var 0)) (a_cons (e_fz (e_ix ix_seq sIx (e_var 2) (e_int))) a_nil)))) (ss_cons (s_for PassesOwn.never rfl (SndI.x (i_seq (e_sl sl_any sSl (e_var 2) (o_some (e_int)) o_none))) (g_name 4 sc_suspects.nd rfl (by first | exact .inl rfl | exact .inr rfl)) (ss_one (s_setLc (own := [("one", 5)]) 3 rfl sc_suspects.nd rfl rfl (sw_true rfl rfl rfl (by decide +kernel)) (SndC.x (i_seqC (e_var 3))) (blkOk_by (by kernel_rfl)) (by decide) (fun _ _ _ _ _ => (g_name 5 sc_suspects.nd rfl (by first | exact .inl rfl | exact .inr rfl))) (fun _ _ _ _ _ => (ts_one (t_cmp op_inG (sInG false) (by rfl) (e_var 5) (e_call H_made_of.1 hr (by rfl) H_made_of.2.1 H_made_of.2.2.1 H_made_of.2.2.2 (a_cons (e_fz (e_var 0)) (a_cons (e_fz (e_var 4)) a_nil)))))) (fun _ _ _ _ _ => (e_var 5))))) (ss_cons (s_for PassesOwn.never rfl (SndI.x (i_seq (e_var 1))) (g_name 4 sc_suspects.nd rfl (by first | exact .inl rfl | exact .inr rfl)) (ss_one (s_setLc (own := [("one", 5)]) 3 rfl sc_suspects.nd rfl rfl (sw_true rfl rfl rfl (by decide +kernel)) (SndC.x (i_seqC (e_var 3))) (blkOk_by (by kernel_rfl)) (by decide) (fun _ _ _ _ _ => (g_name 5 sc_suspects.nd rfl (by first | exact .inl rfl | exact .inr rfl))) (fun _ _ _ _ _ => (ts_one (t_cmp op_notInG (sInG true) (by rfl) (e_var 5) (e_call H_made_of.1 hr (by rfl) H_made_of.2.1 H_made_of.2.2.1 H_made_of.2.2.2 (a_cons (e_fz (e_var 0)) (a_cons (e_fz (e_var 4)) a_nil)))))) (fun _ _ _ _ _ => (e_var 5))))) (ss_one (s_ret (e_callTy call_tupF sTuple (by rfl) TX.tuple (by decide +kernel) (a_cons (e_var 3) a_nil)))))))), D0.2.1, D0.1.kp, D0.2.2⟩
theorem d__law_next {P : Program} {w : World} {K : PySem.W.Frag} {mg : Str → Option Value} {base : Heap} {k : Nat} {f : Addr} {fd : FuncData} (TX : TX K w mg) (D0 : Def0 K mg "_law_next" s__law_next f fd ["w", "many"]) : Cal P w K mg base (k + 1) "_law_next" f fd ["w", "many"] (runFn 2 2 (b__law_next)) :=
  ⟨fn_d D0.1 sc__law_next (by decide) fun cdv A outer s H E hr => (show SndSs (cxOf CX0 P w K mg base ["w", "many"] "_law_next" (defScope s__law_next) f cdv A outer s H E).nox (defBody s__law_next) (b__law_next) from (ss_cons (s_tick 0 (hu_of hr) (pv 0)) (ss_cons (s_if (t_cmp op_gt sGt (nomark _) (e_wget 0 true (hu_of hr) (pv 0) rfl) (e_callB call_len sLen (by rfl) TX.len (by decide +kernel) (a_cons (e_wget 0 false (hu_of hr) (pv 0) rfl) a_nil))) (ss_one (s_ret (e_int))) ss_nil) (ss_one (s_ret (e_op op_mod sMod (e_callTy call_int1 sInt (by rfl) TX.int (by decide +kernel) (a_cons (e_ix ix_seq sIx (e_wget 0 false (hu_of hr) (pv 0) rfl) (e_op op_sub sSub (e_wget 0 true (hu_of hr) (pv 0) rfl) (e_int))) a_nil)) (e_var 1))))))), D0.2.1, D0.1.kp, D0.2.2⟩
theorem d__law_pick {P : Program} {w : World} {K : PySem.W.Frag} {mg : Str → Option Value} {base : Heap} {k : Nat} {f : Addr} {fd : FuncData} (TX : TX K w mg) (D0 : Def0 K mg "_law_pick" s__law_pick f fd ["w", "rows"]) {a__law_next : Addr} {d__law_next : FuncData} {f__law_next : Fn} (H__law_next : Cal P w K mg base k "_law_next" a__law_next d__law_next ["w", "many"] f__law_next) : Cal P w K mg base (k + 1) "_law_pick" f fd ["w", "rows"] (runFn 2 2 (b__law_pick f__law_next)) :=
  ⟨fn_d D0.1 sc__law_pick (by decide) fun cdv A outer s H E hr => (show SndSs (cxOf CX0 P w K mg base ["w", "rows"] "_law_pick" (defScope s__law_pick) f cdv A outer s H E).nox (defBody s__law_pick) (b__law_pick f__law_next) from (ss_one (s_ret (e_ix ix_seq sIx (e_var 1) (e_call H__law_next.1 hr (by rfl) H__law_next.2.1 H__law_next.2.2.1 H__law_next.2.2.2 (a_cons (e_fz (e_var 0)) (a_cons (e_fz (e_callB call_len sLen (by rfl) TX.len (by decide +kernel) (a_cons (e_var 1) a_nil))) a_nil))))))), D0.2.1, D0.1.kp, D0.2.2⟩
theorem d__law_made {P : Program} {w : World} {K : PySem.W.Frag} {mg : Str → Option Value} {base : Heap} {k : Nat} {f : Addr} {fd : FuncData} (TX : TX K w mg) (D0 : Def0 K mg "_law_made" s__law_made f fd ["versions", "k"]) : Cal P w K mg base (k + 1) "_law_made" f fd ["versions", "k"] (runFn 5 2 (b__law_made)) :=
  ⟨fn_d D0.1 sc__law_made (by decide) fun cdv A outer s H E hr => (show SndSs (cxOf CX0 P w K mg base ["versions", "k", "found", "at", "one"] "_law_made" (defScope s__law_made) f cdv A outer s H E).nox (defBody s__law_made) (b__law_made) from (ss_cons (s_unp (e_tup (a_cons (e_fz (e_lst (a_cons (e_fz (e_var 1)) a_nil))) (a_cons (e_fz (e_int)) a_nil))) (g_tup rfl (gs_cons (g_name 2 sc__law_made.nd rfl (by first | exact .inl rfl | exact .inr rfl)) (gs_cons (g_name 3 sc__law_made.nd rfl (by first | exact .inl rfl | exact .inr rfl)) gs_nil)) rfl)) (ss_cons (s_while 100000 PassesOwn.never (t_cmp op_lt sLt (nomark _) (e_var 3) (e_callB call_len sLen (by rfl) TX.len (by decide +kernel) (a_cons (e_var 2) a_nil))) (ss_one (s_unp (e_tup (a_cons (e_fz (e_op op_addG sAdd (e_var 2) (e_lc (own := [("one", 4)]) rfl sc__law_made.nd (SndC.x (i_seqC (e_ix ix_seq sIx (e_var 0) (e_ix ix_seq sIx (e_var 2) (e_var 3))))) (blkOk_by (by kernel_rfl)) (by decide) (fun _ _ _ _ _ => (g_name 4 sc__law_made.nd rfl (by first | exact .inl rfl | exact .inr rfl))) (fun _ _ _ _ _ => (ts_one (t_cmp op_notInG (sInG true) (by rfl) (e_var 4) (e_var 2)))) (fun _ _ _ _ _ => (e_var 4))))) (a_cons (e_fz (e_op op_addG sAdd (e_var 3) (e_int))) a_nil))) (g_tup rfl (gs_cons (g_name 2 sc__law_made.nd rfl (by first | exact .inl rfl | exact .inr rfl)) (gs_cons (g_name 3 sc__law_made.nd rfl (by first | exact .inl rfl | exact .inr rfl)) gs_nil)) rfl)))) (ss_one (s_ret (e_var 2)))))), D0.2.1, D0.1.kp, D0.2.2⟩
theorem d__law_versions {P : Program} {w : World} {K : PySem.W.Frag} {mg : Str → Option Value} {base : Heap} {k : Nat} {f : Addr} {fd : FuncData} (TX : TX K w mg) (D0 : Def0 K mg "_law_versions" s__law_versions f fd ["w"]) {a__law_next : Addr} {d__law_next : FuncData} {f__law_next : Fn} (H__law_next : Cal P w K mg base k "_law_next" a__law_next d__law_next ["w", "many"] f__law_next) : Cal P w K mg base (k + 1) "_law_versions" f fd ["w"] (runFn 5 1 (b__law_versions f__law_next)) :=
  ⟨fn_d D0.1 sc__law_versions (by decide) fun cdv A outer s H E hr => (show SndSs (cxOf CX0 P w K mg base ["w", "found", "k", "some", "j"] "_law_versions" (defScope s__law_versions) f cdv A outer s H E).nox (defBody s__law_versions) (b__law_versions f__law_next) from (ss_cons (s_set 1 sc__law_versions.nd rfl (by first | exact .inl rfl | exact .inr rfl) (e_lst a_nil)) (ss_cons (s_for PassesOwn.never rfl (SndI.x (i_range1 (by rfl) TX.range (a_cons (e_op op_addG sAdd (e_int) (e_call H__law_next.1 hr (by rfl) H__law_next.2.1 H__law_next.2.2.1 H__law_next.2.2.2 (a_cons (e_fz (e_var 0)) (a_cons (e_fz (e_int)) a_nil)))) a_nil) (hone := a1_len))) (g_name 2 sc__law_versions.nd rfl (by first | exact .inl rfl | exact .inr rfl)) (ss_cons (s_setLc (own := [("j", 4)]) 3 rfl sc__law_versions.nd rfl rfl (sw_true rfl rfl rfl (by decide +kernel)) (SndI.c (SndI.x (i_range1 (by rfl) TX.range (a_cons (e_var 2) a_nil) (hone := a1_len)))) (blkOk_by (by kernel_rfl)) (by decide) (fun _ _ _ _ _ => (g_name 4 sc__law_versions.nd rfl (by first | exact .inl rfl | exact .inr rfl))) (fun _ _ _ _ _ => (ts_one (t_cmp (op_eqG hr.units) sEq (nomark _) (e_call H__law_next.1 hr (by rfl) H__law_next.2.1 H__law_next.2.2.1 H__law_next.2.2.2 (a_cons (e_fz (e_var 0)) (a_cons (e_fz (e_int)) a_nil))) (e_int)))) (fun _ _ _ _ _ => (e_var 4))) (ss_one (s_app 1 (pv 1) (e_callTy call_tupF sTuple (by rfl) TX.tuple (by decide +kernel) (a_cons (e_if (t_w (w_or (t_cmp (op_neG hr.units) sNe (nomark _) (e_var 3) (e_lst a_nil)) (w_or1 (t_cmp (op_eqG hr.units) sEq (nomark _) (e_call H__law_next.1 hr (by rfl) H__law_next.2.1 H__law_next.2.2.1 H__law_next.2.2.2 (a_cons (e_fz (e_var 0)) (a_cons (e_fz (e_int)) a_nil))) (e_int))))) (e_var 3) (e_rg2L rfl (by rfl) TX.list (by rfl) TX.range (e_callB (call_max2 rfl) sMax2 (by rfl) TX.max (by decide +kernel) (a_cons (e_int) (a_cons (e_op op_sub sSub (e_var 2) (e_int)) a_nil))) (e_var 2))) a_nil)))))) (ss_one (s_ret (e_callTy call_tupF sTuple (by rfl) TX.tuple (by decide +kernel) (a_cons (e_var 1) a_nil))))))), D0.2.1, D0.1.kp, D0.2.2⟩
theorem d_law {P : Program} {w : World} {K : PySem.W.Frag} {mg : Str → Option Value} {base : Heap} {k : Nat} {f : Addr} {fd : FuncData} (TX : TX K w mg) (D0 : Def0 K mg "law" s_law f fd ["script"]) {a__law_draws : Addr} {d__law_draws : FuncData} {f__law_draws : Fn} (H__law_draws : Cal P w K mg base k "_law_draws" a__law_draws d__law_draws ["script", "many"] f__law_draws) {a__law_least : Addr} {d__law_least : FuncData} {f__law_least : Fn} (H__law_least : Cal P w K mg base k "_law_least" a__law_least d__law_least ["made", "left"] f__law_least) {a_asks_in_row : Addr} {d_asks_in_row : FuncData} {f_asks_in_row : Fn} (H_asks_in_row : Cal P w K mg base k "asks_in_row" a_asks_in_row d_asks_in_row ["many"] f_asks_in_row) {a__law_alike : Addr} {d__law_alike : FuncData} {f__law_alike : Fn} (H__law_alike : Cal P w K mg base k "_law_alike" a__law_alike d__law_alike ["given", "due"] f__law_alike) {a_row_of : Addr} {d_row_of : FuncData} {f_row_of : Fn} (H_row_of : Cal P w K mg base k "row_of" a_row_of d_row_of ["many"] f_row_of) {a_asks_for : Addr} {d_asks_for : FuncData} {f_asks_for : Fn} (H_asks_for : Cal P w K mg base k "asks_for" a_asks_for d_asks_for ["versions", "left", "barred", "broken"] f_asks_for) {a_best_ask : Addr} {d_best_ask : FuncData} {f_best_ask : Fn} (H_best_ask : Cal P w K mg base k "best_ask" a_best_ask d_best_ask ["versions", "left", "barred"] f_best_ask) {a_least_asks : Addr} {d_least_asks : FuncData} {f_least_asks : Fn} (H_least_asks : Cal P w K mg base k "least_asks" a_least_asks d_least_asks ["versions", "left"] f_least_asks) {a_most_asks : Addr} {d_most_asks : FuncData} {f_most_asks : Fn} (H_most_asks : Cal P w K mg base k "most_asks" a_most_asks d_most_asks ["versions", "left", "barred"] f_most_asks) {a_suspects : Addr} {d_suspects : FuncData} {f_suspects : Fn} (H_suspects : Cal P w K mg base k "suspects" a_suspects d_suspects ["versions", "good", "bad"] f_suspects) {a__law_pick : Addr} {d__law_pick : FuncData} {f__law_pick : Fn} (H__law_pick : Cal P w K mg base k "_law_pick" a__law_pick d__law_pick ["w", "rows"] f__law_pick) {a__law_next : Addr} {d__law_next : FuncData} {f__law_next : Fn} (H__law_next : Cal P w K mg base k "_law_next" a__law_next d__law_next ["w", "many"] f__law_next) {a__law_made : Addr} {d__law_made : FuncData} {f__law_made : Fn} (H__law_made : Cal P w K mg base k "_law_made" a__law_made d__law_made ["versions", "k"] f__law_made) {a__law_versions : Addr} {d__law_versions : FuncData} {f__law_versions : Fn} (H__law_versions : Cal P w K mg base k "_law_versions" a__law_versions d__law_versions ["w"] f__law_versions)
    (math : ∀ ns : List Int, ns.length ≤ 63 → ∃ ds : List Int, f__law_draws [.scr ns, .int 300] none = some ((.lst (ds.map D.int), .ow), none) ∧ ∃ w', b_law f__law_least f_asks_in_row f__law_alike f_row_of f_asks_for f_best_ask f_least_asks f_most_asks f_suspects f__law_pick f__law_next f__law_made f__law_versions ((startE 24 [.scr ns]).set 1 (some (.w, false))) (some ⟨ds, 0⟩) = some (.rt (.bl true, .fz) w')) : FnOk P w K mg base CX0 (k + 1) f fd ["script"] (spLaw K) :=
  law_d (Gd := f__law_draws) (n := 300) (iw := 1) D0.1 sc_law (by decide) rfl (fun cdv A outer s H E hr => ⟨ps_set (i := 1) sc_law.nd rfl (by first | exact .inl rfl | exact .inr rfl) (pe_disp (pps_cons pe_str (e_call H__law_draws.1 hr (by rfl) H__law_draws.2.1 H__law_draws.2.2.1 H__law_draws.2.2.2 (a_cons (e_var 0) (a_cons e_int a_nil))) (pps_cons pe_str pe_int pps_nil)) (by rfl) (by rfl) (fun z => by cases z) (by decide)), (show SndSs (cxOf CX0 P w K mg base ["script", "w", "turn", "versions", "many", "made", "broken", "told_by", "bad", "good", "left", "counts", "own", "row", "least", "most", "k", "rest", "asks", "rows", "ask", "wrong", "one", "j"] "law" (defScope s_law) f cdv A outer s H E).nox (defBody s_law).tail (b_law f__law_least f_asks_in_row f__law_alike f_row_of f_asks_for f_best_ask f_least_asks f_most_asks f_suspects f__law_pick f__law_next f__law_made f__law_versions) from (ss_cons (s_for PassesOwn.never rfl (SndI.x (i_range1 (by rfl) TX.range (a_cons (e_int) a_nil) (hone := a1_len))) (g_name 2 sc_law.nd rfl (by first | exact .inl rfl | exact .inr rfl)) (ss_cons (s_frz [1] (s_set 3 sc_law.nd rfl (by first | exact .inl rfl | exact .inr rfl) (e_call H__law_versions.1 hr (by rfl) H__law_versions.2.1 H__law_versions.2.2.1 H__law_versions.2.2.2 (a_cons (e_fz (e_var 1)) a_nil)))) (ss_cons (s_set 4 sc_law.nd rfl (by first | exact .inl rfl | exact .inr rfl) (e_callB call_len sLen (by rfl) TX.len (by decide +kernel) (a_cons (e_var 3) a_nil))) (ss_cons (s_frz [3] (s_set 5 sc_law.nd rfl (by first | exact .inl rfl | exact .inr rfl) (e_lc (own := [("k", 16)]) rfl sc_law.nd (SndI.c (SndI.x (i_range1 (by rfl) TX.range (a_cons (e_var 4) a_nil) (hone := a1_len)))) (blkOk_by (by kernel_rfl)) (by decide) (fun _ _ _ _ _ => (g_name 16 sc_law.nd rfl (by first | exact .inl rfl | exact .inr rfl))) (fun _ _ _ _ _ => ts_nil) (fun _ _ _ _ _ => (e_call H__law_made.1 hr (by rfl) H__law_made.2.1 H__law_made.2.2.1 H__law_made.2.2.2 (a_cons (e_fz (e_var 3)) (a_cons (e_fz (e_var 16)) a_nil))))))) (ss_cons (s_frz [1] (s_set 6 sc_law.nd rfl (by first | exact .inl rfl | exact .inr rfl) (e_call H__law_next.1 hr (by rfl) H__law_next.2.1 H__law_next.2.2.1 H__law_next.2.2.2 (a_cons (e_fz (e_var 1)) (a_cons (e_fz (e_var 4)) a_nil))))) (ss_cons (s_frz [1] (s_setLc (own := [("k", 16)]) 7 rfl sc_law.nd rfl rfl (sw_true rfl rfl rfl (by decide +kernel)) (SndI.c (SndI.x (i_range1 (by rfl) TX.range (a_cons (e_var 4) a_nil) (hone := a1_len)))) (blkOk_by (by kernel_rfl)) (by decide) (fun _ _ _ _ _ => (g_name 16 sc_law.nd rfl (by first | exact .inl rfl | exact .inr rfl))) (fun _ _ _ _ _ => (ts_one (t_cmp (op_eqG hr.units) sEq (nomark _) (e_call H__law_next.1 hr (by rfl) H__law_next.2.1 H__law_next.2.2.1 H__law_next.2.2.2 (a_cons (e_fz (e_var 1)) (a_cons (e_fz (e_int)) a_nil))) (e_int)))) (fun _ _ _ _ _ => (e_tup (a_cons (e_fz (e_var 16)) (a_cons (e_fz (e_cmp op_inG (sInG false) (by rfl) (e_var 6) (e_ix ix_seq sIx (e_var 5) (e_var 16)))) a_nil)))))) (ss_cons (s_frz [1] (s_set 8 sc_law.nd rfl (by first | exact .inl rfl | exact .inr rfl) (e_callTy call_tupF sTuple (by rfl) TX.tuple (by decide +kernel) (a_cons (e_op op_addG sAdd (e_lc (own := [("k", 16), ("wrong", 21)]) rfl sc_law.nd (SndC.x (i_seqC (e_var 7))) (blkOk_by (by kernel_rfl)) (by decide) (fun _ _ _ _ _ => (g_tup rfl (gs_cons (g_name 16 sc_law.nd rfl (by first | exact .inl rfl | exact .inr rfl)) (gs_cons (g_name 21 sc_law.nd rfl (by first | exact .inl rfl | exact .inr rfl)) gs_nil)) rfl)) (fun _ _ _ _ _ => (ts_one (t_tru (e_var 21)))) (fun _ _ _ _ _ => (e_var 16))) (e_lst (a_cons (e_fz (e_call H__law_pick.1 hr (by rfl) H__law_pick.2.1 H__law_pick.2.2.1 H__law_pick.2.2.2 (a_cons (e_fz (e_var 1)) (a_cons (e_fz (e_lc (own := [("k", 16)]) rfl sc_law.nd (SndI.c (SndI.x (i_range1 (by rfl) TX.range (a_cons (e_var 4) a_nil) (hone := a1_len)))) (blkOk_by (by kernel_rfl)) (by decide) (fun _ _ _ _ _ => (g_name 16 sc_law.nd rfl (by first | exact .inl rfl | exact .inr rfl))) (fun _ _ _ _ _ => (ts_one (t_cmp op_inG (sInG false) (by rfl) (e_var 6) (e_ix ix_seq sIx (e_var 5) (e_var 16))))) (fun _ _ _ _ _ => (e_var 16)))) a_nil)))) a_nil))) a_nil)))) (ss_cons (s_set 9 sc_law.nd rfl (by first | exact .inl rfl | exact .inr rfl) (e_callTy call_tupF sTuple (by rfl) TX.tuple (by decide +kernel) (a_cons (e_lc (own := [("k", 16), ("wrong", 21)]) rfl sc_law.nd (SndC.x (i_seqC (e_var 7))) (blkOk_by (by kernel_rfl)) (by decide) (fun _ _ _ _ _ => (g_tup rfl (gs_cons (g_name 16 sc_law.nd rfl (by first | exact .inl rfl | exact .inr rfl)) (gs_cons (g_name 21 sc_law.nd rfl (by first | exact .inl rfl | exact .inr rfl)) gs_nil)) rfl)) (fun _ _ _ _ _ => (ts_one (t_not (t_tru (e_var 21))))) (fun _ _ _ _ _ => (e_var 16))) a_nil))) (ss_cons (s_set 10 sc_law.nd rfl (by first | exact .inl rfl | exact .inr rfl) (e_callTy call_tupF sTuple (by rfl) TX.tuple (by decide +kernel) (a_cons (e_lc (own := [("k", 16)]) rfl sc_law.nd (SndI.c (SndI.x (i_range1 (by rfl) TX.range (a_cons (e_var 4) a_nil) (hone := a1_len)))) (blkOk_by (by kernel_rfl)) (by decide) (fun _ _ _ _ _ => (g_name 16 sc_law.nd rfl (by first | exact .inl rfl | exact .inr rfl))) (fun _ _ _ _ _ => (ts_one (t_w (w_and (t_cmp (op_eqG hr.units) sEq (nomark _) (e_lc (own := [("j", 23)]) rfl sc_law.nd (SndC.x (i_seqC (e_var 8))) (blkOk_by (by kernel_rfl)) (by decide) (fun _ _ _ _ _ => (g_name 23 sc_law.nd rfl (by first | exact .inl rfl | exact .inr rfl))) (fun _ _ _ _ _ => (ts_one (t_cmp op_notInG (sInG true) (by rfl) (e_var 16) (e_ix ix_seq sIx (e_var 5) (e_var 23))))) (fun _ _ _ _ _ => (e_var 23))) (e_lst a_nil)) (w_and1 (t_cmp (op_eqG hr.units) sEq (nomark _) (e_lc (own := [("j", 23)]) rfl sc_law.nd (SndC.x (i_seqC (e_var 9))) (blkOk_by (by kernel_rfl)) (by decide) (fun _ _ _ _ _ => (g_name 23 sc_law.nd rfl (by first | exact .inl rfl | exact .inr rfl))) (fun _ _ _ _ _ => (ts_one (t_cmp op_inG (sInG false) (by rfl) (e_var 16) (e_ix ix_seq sIx (e_var 5) (e_var 23))))) (fun _ _ _ _ _ => (e_var 23))) (e_lst a_nil))))))) (fun _ _ _ _ _ => (e_var 16))) a_nil))) (ss_cons (s_frz [3] (s_if (t_w (w_or (t_cmp op_notInG (sInG true) (by rfl) (e_var 6) (e_var 10)) (w_or1 (t_not (t_tru (e_call H__law_alike.1 hr (by rfl) H__law_alike.2.1 H__law_alike.2.2.1 H__law_alike.2.2.2 (a_cons (e_fz (e_call H_suspects.1 hr (by rfl) H_suspects.2.1 H_suspects.2.2.1 H_suspects.2.2.2 (a_cons (e_fz (e_var 3)) (a_cons (e_fz (e_var 9)) (a_cons (e_fz (e_var 8)) a_nil))))) (a_cons (e_fz (e_var 10)) a_nil)))))))) (ss_one (s_ret (e_bl))) ss_nil)) (ss_cons (s_frz [3, 5] (s_par 14 15 rfl sc_law.nd rfl rfl (by decide) rfl rfl (a_cons (e_call H__law_least.1 hr (by rfl) H__law_least.2.1 H__law_least.2.2.1 H__law_least.2.2.2 (a_cons (e_fz (e_var 5)) (a_cons (e_fz (e_var 10)) a_nil))) (a_cons (e_call H_most_asks.1 hr (by rfl) H_most_asks.2.1 H_most_asks.2.2.1 H_most_asks.2.2.2 (a_cons (e_fz (e_var 3)) (a_cons (e_fz (e_var 10)) (a_cons (e_fz (e_tup a_nil)) a_nil)))) a_nil)))) (ss_cons (s_frz [3, 14] (s_if (t_w (w_or (t_not (t_tru (e_call H__law_alike.1 hr (by rfl) H__law_alike.2.1 H__law_alike.2.2.1 H__law_alike.2.2.2 (a_cons (e_fz (e_call H_least_asks.1 hr (by rfl) H_least_asks.2.1 H_least_asks.2.2.1 H_least_asks.2.2.2 (a_cons (e_fz (e_var 3)) (a_cons (e_fz (e_var 10)) a_nil)))) (a_cons (e_fz (e_var 14)) a_nil))))) (w_or (t_not (t_tru (e_callB call_isi sIsi (by rfl) TX.isinstance (by decide +kernel) (a_cons (e_var 15) (a_cons (e_ty (n := "int") (by rfl) TX.int (by decide +kernel)) a_nil))))) (w_or1 (t_cmp op_lt sLt (nomark _) (e_var 15) (e_var 14)))))) (ss_one (s_ret (e_bl))) ss_nil)) (ss_cons (s_set 11 sc_law.nd rfl (by first | exact .inl rfl | exact .inr rfl) (e_lst a_nil)) (ss_cons (s_for PassesOwn.never rfl (SndI.x (i_seq (e_var 10))) (g_name 12 sc_law.nd rfl (by first | exact .inl rfl | exact .inr rfl)) (ss_cons (s_unp (e_tup (a_cons (e_fz (e_var 10)) (a_cons (e_fz (e_lst a_nil)) a_nil))) (g_tup rfl (gs_cons (g_name 17 sc_law.nd rfl (by first | exact .inl rfl | exact .inr rfl)) (gs_cons (g_name 18 sc_law.nd rfl (by first | exact .inl rfl | exact .inr rfl)) gs_nil)) rfl)) (ss_cons (s_while 100000 PassesOwn.never (t_cmp op_gt sGt (nomark _) (e_callB call_len sLen (by rfl) TX.len (by decide +kernel) (a_cons (e_var 17) a_nil)) (e_int)) (ss_cons (s_setLc (own := [("k", 16)]) 19 rfl sc_law.nd rfl rfl (sw_true rfl rfl rfl (by decide +kernel)) (SndC.x (i_seqC (e_var 17))) (blkOk_by (by kernel_rfl)) (by decide) (fun _ _ _ _ _ => (g_name 16 sc_law.nd rfl (by first | exact .inl rfl | exact .inr rfl))) (fun _ _ _ _ _ => ts_nil) (fun _ _ _ _ _ => (e_tup (a_cons (e_fz (e_op op_sub sSub (e_int) (e_callB (call_min2 rfl) sMin2 (by rfl) TX.min (by decide +kernel) (a_cons (e_callB call_len sLen (by rfl) TX.len (by decide +kernel) (a_cons (e_lc (own := [("one", 22)]) rfl sc_law.nd (SndC.x (i_seqC (e_var 17))) (blkOk_by (by kernel_rfl)) (by decide) (fun _ _ _ _ _ => (g_name 22 sc_law.nd rfl (by first | exact .inl rfl | exact .inr rfl))) (fun _ _ _ _ _ => (ts_one (t_cmp op_inG (sInG false) (by rfl) (e_var 22) (e_ix ix_seq sIx (e_var 5) (e_var 16))))) (fun _ _ _ _ _ => (e_var 22))) a_nil)) (a_cons (e_callB call_len sLen (by rfl) TX.len (by decide +kernel) (a_cons (e_lc (own := [("one", 22)]) rfl sc_law.nd (SndC.x (i_seqC (e_var 17))) (blkOk_by (by kernel_rfl)) (by decide) (fun _ _ _ _ _ => (g_name 22 sc_law.nd rfl (by first | exact .inl rfl | exact .inr rfl))) (fun _ _ _ _ _ => (ts_one (t_cmp op_notInG (sInG true) (by rfl) (e_var 22) (e_ix ix_seq sIx (e_var 5) (e_var 16))))) (fun _ _ _ _ _ => (e_var 22))) a_nil)) a_nil))))) (a_cons (e_fz (e_var 16)) a_nil))))) (ss_cons (s_set 20 sc_law.nd rfl (by first | exact .inl rfl | exact .inr rfl) (e_ix ix_seq sIx (e_callB (cr_minL rfl hr.units) sMinL (by rfl) TX.min (by decide +kernel) (a_cons (e_var 19) a_nil)) (e_int))) (ss_cons (s_frz [3] (s_if (t_not (t_tru (e_call H__law_alike.1 hr (by rfl) H__law_alike.2.1 H__law_alike.2.2.1 H__law_alike.2.2.2 (a_cons (e_fz (e_call H_best_ask.1 hr (by rfl) H_best_ask.2.1 H_best_ask.2.2.1 H_best_ask.2.2.2 (a_cons (e_fz (e_var 3)) (a_cons (e_fz (e_var 17)) (a_cons (e_fz (e_tup a_nil)) a_nil))))) (a_cons (e_fz (e_var 20)) a_nil))))) (ss_one (s_ret (e_bl))) ss_nil)) (ss_one (s_unp (e_tup (a_cons (e_fz (e_op op_addG sAdd (e_var 18) (e_lst (a_cons (e_fz (e_var 20)) a_nil)))) (a_cons (e_fz (e_callTy call_tupF sTuple (by rfl) TX.tuple (by decide +kernel) (a_cons (e_lc (own := [("one", 22)]) rfl sc_law.nd (SndC.x (i_seqC (e_var 17))) (blkOk_by (by kernel_rfl)) (by decide) (fun _ _ _ _ _ => (g_name 22 sc_law.nd rfl (by first | exact .inl rfl | exact .inr rfl))) (fun _ _ _ _ _ => (ts_one (t_cmp (op_eqG hr.units) sEq (nomark _) (e_cmp op_inG (sInG false) (by rfl) (e_var 22) (e_ix ix_seq sIx (e_var 5) (e_var 20))) (e_cmp op_inG (sInG false) (by rfl) (e_var 12) (e_ix ix_seq sIx (e_var 5) (e_var 20)))))) (fun _ _ _ _ _ => (e_var 22))) a_nil))) a_nil))) (g_tup rfl (gs_cons (g_name 18 sc_law.nd rfl (by first | exact .inl rfl | exact .inr rfl)) (gs_cons (g_name 17 sc_law.nd rfl (by first | exact .inl rfl | exact .inr rfl)) gs_nil)) rfl))))))) (ss_cons (s_app 11 (pv 11) (e_callB call_len sLen (by rfl) TX.len (by decide +kernel) (a_cons (e_var 18) a_nil))) (ss_one (s_frz [3] (s_if (t_w (w_or (t_cmp (op_neG hr.units) sNe (nomark _) (e_var 17) (e_tup (a_cons (e_fz (e_var 12)) a_nil))) (w_or1 (t_not (t_tru (e_call H__law_alike.1 hr (by rfl) H__law_alike.2.1 H__law_alike.2.2.1 H__law_alike.2.2.2 (a_cons (e_fz (e_call H_asks_for.1 hr (by rfl) H_asks_for.2.1 H_asks_for.2.2.1 H_asks_for.2.2.2 (a_cons (e_fz (e_var 3)) (a_cons (e_fz (e_var 10)) (a_cons (e_fz (e_tup a_nil)) (a_cons (e_fz (e_var 12)) a_nil)))))) (a_cons (e_fz (e_tup (a_cons (e_fz (e_callTy call_tupF sTuple (by rfl) TX.tuple (by decide +kernel) (a_cons (e_var 18) a_nil))) (a_cons (e_fz (e_var 17)) a_nil)))) a_nil)))))))) (ss_one (s_ret (e_bl))) ss_nil))))))) (ss_cons (s_if (t_cmp (op_neG hr.units) sNe (nomark _) (e_var 15) (e_callB (cr_maxL rfl hr.units) sMaxL (by rfl) TX.max (by decide +kernel) (a_cons (e_var 11) a_nil))) (ss_one (s_ret (e_bl))) ss_nil) (ss_cons (s_set 13 sc_law.nd rfl (by first | exact .inl rfl | exact .inr rfl) (e_call H_row_of.1 hr (by rfl) H_row_of.2.1 H_row_of.2.2.1 H_row_of.2.2.2 (a_cons (e_fz (e_var 4)) a_nil))) (ss_one (s_frz [13] (s_if (t_w (w_or (t_not (t_tru (e_call H__law_alike.1 hr (by rfl) H__law_alike.2.1 H__law_alike.2.2.1 H__law_alike.2.2.2 (a_cons (e_fz (e_var 13)) (a_cons (e_fz (e_callTy call_tupF sTuple (by rfl) TX.tuple (by decide +kernel) (a_cons (e_lc (own := [("k", 16)]) rfl sc_law.nd (SndI.c (SndI.x (i_range1 (by rfl) TX.range (a_cons (e_var 4) a_nil) (hone := a1_len)))) (blkOk_by (by kernel_rfl)) (by decide) (fun _ _ _ _ _ => (g_name 16 sc_law.nd rfl (by first | exact .inl rfl | exact .inr rfl))) (fun _ _ _ _ _ => ts_nil) (fun _ _ _ _ _ => (e_if (t_cmp op_gt sGt (nomark _) (e_var 16) (e_int)) (e_tup (a_cons (e_fz (e_op op_sub sSub (e_var 16) (e_int))) a_nil)) (e_tup a_nil)))) a_nil))) a_nil))))) (w_or1 (t_not (t_tru (e_call H__law_alike.1 hr (by rfl) H__law_alike.2.1 H__law_alike.2.2.1 H__law_alike.2.2.2 (a_cons (e_fz (e_call H_asks_in_row.1 hr (by rfl) H_asks_in_row.2.1 H_asks_in_row.2.2.1 H_asks_in_row.2.2.2 (a_cons (e_fz (e_var 4)) a_nil))) (a_cons (e_fz (e_call H__law_least.1 hr (by rfl) H__law_least.2.1 H__law_least.2.2.1 H__law_least.2.2.2 (a_cons (e_fz (e_lc (own := [("k", 16)]) rfl sc_law.nd (SndI.c (SndI.x (i_range1 (by rfl) TX.range (a_cons (e_var 4) a_nil) (hone := a1_len)))) (blkOk_by (by kernel_rfl)) (by decide) (fun _ _ _ _ _ => (g_name 16 sc_law.nd rfl (by first | exact .inl rfl | exact .inr rfl))) (fun _ _ _ _ _ => ts_nil) (fun _ _ _ _ _ => (e_rg1L rfl (by rfl) TX.list (by rfl) TX.range (e_op op_addG sAdd (e_var 16) (e_int)))))) (a_cons (e_fz (e_rg1T rfl (by rfl) TX.tuple (by rfl) TX.range (e_var 4))) a_nil)))) a_nil)))))))) (ss_one (s_ret (e_bl))) ss_nil))))))))))))))))))) (ss_one (s_ret (e_bl)))))⟩) math
end Kk64

set_option Elab.async false
set_option linter.all false
set_option maxRecDepth 100000
set_option maxHeartbeats 4000000
namespace Kk64
open PySem PySem.Spec PyProof.Rows L2 Dl
/-! ### the end -/
section
variable {P : Program} {w : World} {K : PySem.W.Frag} {mg : Str → Option Value} {base : Heap}
theorem r__law_alike {k : Nat} {f : Addr} {fd : FuncData} (TX : TX K w mg) (D0 : Def0 K mg "_law_alike" s__law_alike f fd ["given", "due"]) : ∀ n : Nat, Cal P w K mg base (k + n) "_law_alike" f fd ["given", "due"] (f__law_alike n)
  | 0 => ⟨fn_0, D0.2.1, D0.1.kp, D0.2.2⟩
  | n + 1 => by
    have ih := r__law_alike (k := k) TX D0 n
    exact d__law_alike (k := k + n) TX D0 (ih.up (by omega))
theorem r_least_asks {k : Nat} {f : Addr} {fd : FuncData} (TX : TX K w mg) (D0 : Def0 K mg "least_asks" s_least_asks f fd ["versions", "left"]) {a_left_by : Addr} {d_left_by : FuncData} (H_left_by : Cal P w K mg base k "left_by" a_left_by d_left_by ["versions", "left", "k", "is_bad"] f_left_by) : ∀ n : Nat, Cal P w K mg base (k + n) "least_asks" f fd ["versions", "left"] (f_least_asks n)
  | 0 => ⟨fn_0, D0.2.1, D0.1.kp, D0.2.2⟩
  | n + 1 => by
    have ih := r_least_asks (k := k) TX D0 H_left_by n
    exact d_least_asks (k := k + n) TX D0 (ih.up (by omega)) (H_left_by.up (by omega))
end
abbrev MathT : Prop := ∀ ns : List Int, ns.length ≤ 63 → ∃ ds : List Int, f__law_draws [.scr ns, .int 300] none = some ((.lst (ds.map D.int), .ow), none) ∧ ∃ w', b_law f__law_least f_asks_in_row (f__law_alike 40) f_row_of f_asks_for f_best_ask (f_least_asks 40) f_most_asks f_suspects f__law_pick f__law_next f__law_made f__law_versions ((startE 24 [.scr ns]).set 1 (some (.w, false))) (some ⟨ds, 0⟩) = some (.rt (.bl true, .fz) w')
set_option maxHeartbeats 16000000 in
theorem all_mk (math : MathT) {l : PySem.W.OpenLaw} {w : World} {K : PySem.W.Frag} {h : Heap} {mg : Str → Option Value} {fa : Addr} (X : K.In h) (G : h.Ns mainGlobals mg) (hfa : mg "law" = some (.ref fa))
    {a0 : Addr} {od0 an0 : Option Addr} {sl0 : Array (Option Value)} {oc0 kV0 dc0 pm0 cd0 ct0 : Value}
    {a1 : Addr} {od1 an1 : Option Addr} {sl1 : Array (Option Value)} {oc1 kV1 dc1 pm1 cd1 ct1 : Value}
    {a2 : Addr} {od2 an2 : Option Addr} {sl2 : Array (Option Value)} {oc2 kV2 dc2 pm2 cd2 ct2 : Value}
    {a3 : Addr} {od3 an3 : Option Addr} {sl3 : Array (Option Value)} {oc3 kV3 dc3 pm3 cd3 ct3 : Value}
    {a4 : Addr} {od4 an4 : Option Addr} {sl4 : Array (Option Value)} {oc4 kV4 dc4 pm4 cd4 ct4 : Value}
    {a5 : Addr} {od5 an5 : Option Addr} {sl5 : Array (Option Value)} {oc5 kV5 dc5 pm5 cd5 ct5 : Value}
    {a6 : Addr} {od6 an6 : Option Addr} {sl6 : Array (Option Value)} {oc6 kV6 dc6 pm6 cd6 ct6 : Value}
    {a7 : Addr} {od7 an7 : Option Addr} {sl7 : Array (Option Value)} {oc7 kV7 dc7 pm7 cd7 ct7 : Value}
    {a8 : Addr} {od8 an8 : Option Addr} {sl8 : Array (Option Value)} {oc8 kV8 dc8 pm8 cd8 ct8 : Value}
    {a9 : Addr} {od9 an9 : Option Addr} {sl9 : Array (Option Value)} {oc9 kV9 dc9 pm9 cd9 ct9 : Value}
    {a10 : Addr} {od10 an10 : Option Addr} {sl10 : Array (Option Value)} {oc10 kV10 dc10 pm10 cd10 ct10 : Value}
    {a11 : Addr} {od11 an11 : Option Addr} {sl11 : Array (Option Value)} {oc11 kV11 dc11 pm11 cd11 ct11 : Value}
    {a12 : Addr} {od12 an12 : Option Addr} {sl12 : Array (Option Value)} {oc12 kV12 dc12 pm12 cd12 ct12 : Value}
    {a13 : Addr} {od13 an13 : Option Addr} {sl13 : Array (Option Value)} {oc13 kV13 dc13 pm13 cd13 ct13 : Value}
    {a14 : Addr} {od14 an14 : Option Addr} {sl14 : Array (Option Value)} {oc14 kV14 dc14 pm14 cd14 ct14 : Value}
    {a15 : Addr} {od15 an15 : Option Addr} {sl15 : Array (Option Value)} {oc15 kV15 dc15 pm15 cd15 ct15 : Value}
    {a16 : Addr} {od16 an16 : Option Addr} {sl16 : Array (Option Value)} {oc16 kV16 dc16 pm16 cd16 ct16 : Value}
    {a17 : Addr} {od17 an17 : Option Addr} {sl17 : Array (Option Value)} {oc17 kV17 dc17 pm17 cd17 ct17 : Value}
    (q0a : PySem.W.nsIn K mainGlobals "_law_draws" = some (some (.ref a0))) (q0b : K.lookup a0 = some ⟨oc0, od0, .func (PySem.W.fnOf "_law_draws" "_law_draws" (defArgs s__law_draws) (defBody s__law_draws) (defScope s__law_draws) .none kV0 dc0 pm0 an0 cd0 ct0), sl0⟩) (q0c : PySem.W.codeIn K cd0 "_law_draws" = true) (q0d : PySem.W.keepIn K (.ref a0) = true)
    (q1a : PySem.W.nsIn K mainGlobals "_law_least" = some (some (.ref a1))) (q1b : K.lookup a1 = some ⟨oc1, od1, .func (PySem.W.fnOf "_law_least" "_law_least" (defArgs s__law_least) (defBody s__law_least) (defScope s__law_least) .none kV1 dc1 pm1 an1 cd1 ct1), sl1⟩) (q1c : PySem.W.codeIn K cd1 "_law_least" = true) (q1d : PySem.W.keepIn K (.ref a1) = true)
    (q2a : PySem.W.nsIn K mainGlobals "asks_in_row" = some (some (.ref a2))) (q2b : K.lookup a2 = some ⟨oc2, od2, .func (PySem.W.fnOf "asks_in_row" "asks_in_row" (defArgs s_asks_in_row) (defBody s_asks_in_row) (defScope s_asks_in_row) .none kV2 dc2 pm2 an2 cd2 ct2), sl2⟩) (q2c : PySem.W.codeIn K cd2 "asks_in_row" = true) (q2d : PySem.W.keepIn K (.ref a2) = true)
    (q3a : PySem.W.nsIn K mainGlobals "_law_alike" = some (some (.ref a3))) (q3b : K.lookup a3 = some ⟨oc3, od3, .func (PySem.W.fnOf "_law_alike" "_law_alike" (defArgs s__law_alike) (defBody s__law_alike) (defScope s__law_alike) .none kV3 dc3 pm3 an3 cd3 ct3), sl3⟩) (q3c : PySem.W.codeIn K cd3 "_law_alike" = true) (q3d : PySem.W.keepIn K (.ref a3) = true)
    (q4a : PySem.W.nsIn K mainGlobals "row_of" = some (some (.ref a4))) (q4b : K.lookup a4 = some ⟨oc4, od4, .func (PySem.W.fnOf "row_of" "row_of" (defArgs s_row_of) (defBody s_row_of) (defScope s_row_of) .none kV4 dc4 pm4 an4 cd4 ct4), sl4⟩) (q4c : PySem.W.codeIn K cd4 "row_of" = true) (q4d : PySem.W.keepIn K (.ref a4) = true)
    (q5a : PySem.W.nsIn K mainGlobals "made_of" = some (some (.ref a5))) (q5b : K.lookup a5 = some ⟨oc5, od5, .func (PySem.W.fnOf "made_of" "made_of" (defArgs s_made_of) (defBody s_made_of) (defScope s_made_of) .none kV5 dc5 pm5 an5 cd5 ct5), sl5⟩) (q5c : PySem.W.codeIn K cd5 "made_of" = true) (q5d : PySem.W.keepIn K (.ref a5) = true)
    (q6a : PySem.W.nsIn K mainGlobals "split_by" = some (some (.ref a6))) (q6b : K.lookup a6 = some ⟨oc6, od6, .func (PySem.W.fnOf "split_by" "split_by" (defArgs s_split_by) (defBody s_split_by) (defScope s_split_by) .none kV6 dc6 pm6 an6 cd6 ct6), sl6⟩) (q6c : PySem.W.codeIn K cd6 "split_by" = true) (q6d : PySem.W.keepIn K (.ref a6) = true)
    (q7a : PySem.W.nsIn K mainGlobals "best_ask" = some (some (.ref a7))) (q7b : K.lookup a7 = some ⟨oc7, od7, .func (PySem.W.fnOf "best_ask" "best_ask" (defArgs s_best_ask) (defBody s_best_ask) (defScope s_best_ask) .none kV7 dc7 pm7 an7 cd7 ct7), sl7⟩) (q7c : PySem.W.codeIn K cd7 "best_ask" = true) (q7d : PySem.W.keepIn K (.ref a7) = true)
    (q8a : PySem.W.nsIn K mainGlobals "left_by" = some (some (.ref a8))) (q8b : K.lookup a8 = some ⟨oc8, od8, .func (PySem.W.fnOf "left_by" "left_by" (defArgs s_left_by) (defBody s_left_by) (defScope s_left_by) .none kV8 dc8 pm8 an8 cd8 ct8), sl8⟩) (q8c : PySem.W.codeIn K cd8 "left_by" = true) (q8d : PySem.W.keepIn K (.ref a8) = true)
    (q9a : PySem.W.nsIn K mainGlobals "asks_for" = some (some (.ref a9))) (q9b : K.lookup a9 = some ⟨oc9, od9, .func (PySem.W.fnOf "asks_for" "asks_for" (defArgs s_asks_for) (defBody s_asks_for) (defScope s_asks_for) .none kV9 dc9 pm9 an9 cd9 ct9), sl9⟩) (q9c : PySem.W.codeIn K cd9 "asks_for" = true) (q9d : PySem.W.keepIn K (.ref a9) = true)
    (q10a : PySem.W.nsIn K mainGlobals "least_asks" = some (some (.ref a10))) (q10b : K.lookup a10 = some ⟨oc10, od10, .func (PySem.W.fnOf "least_asks" "least_asks" (defArgs s_least_asks) (defBody s_least_asks) (defScope s_least_asks) .none kV10 dc10 pm10 an10 cd10 ct10), sl10⟩) (q10c : PySem.W.codeIn K cd10 "least_asks" = true) (q10d : PySem.W.keepIn K (.ref a10) = true)
    (q11a : PySem.W.nsIn K mainGlobals "most_asks" = some (some (.ref a11))) (q11b : K.lookup a11 = some ⟨oc11, od11, .func (PySem.W.fnOf "most_asks" "most_asks" (defArgs s_most_asks) (defBody s_most_asks) (defScope s_most_asks) .none kV11 dc11 pm11 an11 cd11 ct11), sl11⟩) (q11c : PySem.W.codeIn K cd11 "most_asks" = true) (q11d : PySem.W.keepIn K (.ref a11) = true)
    (q12a : PySem.W.nsIn K mainGlobals "suspects" = some (some (.ref a12))) (q12b : K.lookup a12 = some ⟨oc12, od12, .func (PySem.W.fnOf "suspects" "suspects" (defArgs s_suspects) (defBody s_suspects) (defScope s_suspects) .none kV12 dc12 pm12 an12 cd12 ct12), sl12⟩) (q12c : PySem.W.codeIn K cd12 "suspects" = true) (q12d : PySem.W.keepIn K (.ref a12) = true)
    (q13a : PySem.W.nsIn K mainGlobals "_law_next" = some (some (.ref a13))) (q13b : K.lookup a13 = some ⟨oc13, od13, .func (PySem.W.fnOf "_law_next" "_law_next" (defArgs s__law_next) (defBody s__law_next) (defScope s__law_next) .none kV13 dc13 pm13 an13 cd13 ct13), sl13⟩) (q13c : PySem.W.codeIn K cd13 "_law_next" = true) (q13d : PySem.W.keepIn K (.ref a13) = true)
    (q14a : PySem.W.nsIn K mainGlobals "_law_pick" = some (some (.ref a14))) (q14b : K.lookup a14 = some ⟨oc14, od14, .func (PySem.W.fnOf "_law_pick" "_law_pick" (defArgs s__law_pick) (defBody s__law_pick) (defScope s__law_pick) .none kV14 dc14 pm14 an14 cd14 ct14), sl14⟩) (q14c : PySem.W.codeIn K cd14 "_law_pick" = true) (q14d : PySem.W.keepIn K (.ref a14) = true)
    (q15a : PySem.W.nsIn K mainGlobals "_law_made" = some (some (.ref a15))) (q15b : K.lookup a15 = some ⟨oc15, od15, .func (PySem.W.fnOf "_law_made" "_law_made" (defArgs s__law_made) (defBody s__law_made) (defScope s__law_made) .none kV15 dc15 pm15 an15 cd15 ct15), sl15⟩) (q15c : PySem.W.codeIn K cd15 "_law_made" = true) (q15d : PySem.W.keepIn K (.ref a15) = true)
    (q16a : PySem.W.nsIn K mainGlobals "_law_versions" = some (some (.ref a16))) (q16b : K.lookup a16 = some ⟨oc16, od16, .func (PySem.W.fnOf "_law_versions" "_law_versions" (defArgs s__law_versions) (defBody s__law_versions) (defScope s__law_versions) .none kV16 dc16 pm16 an16 cd16 ct16), sl16⟩) (q16c : PySem.W.codeIn K cd16 "_law_versions" = true) (q16d : PySem.W.keepIn K (.ref a16) = true)
    (q17a : PySem.W.nsIn K mainGlobals "law" = some (some (.ref a17))) (q17b : K.lookup a17 = some ⟨oc17, od17, .func (PySem.W.fnOf "law" "law" (defArgs s_law) (defBody s_law) (defScope s_law) .none kV17 dc17 pm17 an17 cd17 ct17), sl17⟩) (q17c : PySem.W.codeIn K cd17 "law" = true) (q17d : PySem.W.keepIn K (.ref a17) = true)
    (z0 : PySem.W.nsIn K mainGlobals "range" = some none) (z1 : PySem.W.nsIn K mainGlobals "int" = some none) (z2 : PySem.W.nsIn K mainGlobals "len" = some none) (z3 : PySem.W.nsIn K mainGlobals "abs" = some none) (z4 : PySem.W.nsIn K mainGlobals "tuple" = some none) (z5 : PySem.W.nsIn K mainGlobals "sorted" = some none) (z6 : PySem.W.nsIn K mainGlobals "min" = some none) (z7 : PySem.W.nsIn K mainGlobals "max" = some none) (z8 : PySem.W.nsIn K mainGlobals "str" = some none) (z9 : PySem.W.nsIn K mainGlobals "isinstance" = some none) (z10 : PySem.W.nsIn K mainGlobals "bool" = some none) (z11 : PySem.W.nsIn K mainGlobals "list" = some none) :
    ∃ fd : FuncData, (∀ (s : Shared) (v : Value), BindsTo s fd ⟨[v], []⟩ [("script", v)]) ∧ ∀ base : Heap, K.In base → base.Ns mainGlobals mg → FnOk l.prog w K mg base CX0 43 fa fd ["script"] (spLaw K) := by
  have e := hfa.symm.trans (PySem.W.mg_of X G q17a)
  cases e
  have TX1 : TX K w mg := ⟨PySem.W.mg_none_of X G z0, PySem.W.mg_none_of X G z1, PySem.W.mg_none_of X G z2, PySem.W.mg_none_of X G z3, PySem.W.mg_none_of X G z4, PySem.W.mg_none_of X G z5, PySem.W.mg_none_of X G z6, PySem.W.mg_none_of X G z7, PySem.W.mg_none_of X G z8, PySem.W.mg_none_of X G z9, PySem.W.mg_none_of X G z10, PySem.W.mg_none_of X G z11⟩
  have F0 := fun_mk (st := s__law_draws) q0b q0c q0d
  have D0 : Def0 K mg "_law_draws" s__law_draws a0 _ ["script", "many"] := ⟨F0, PySem.W.mg_of X G q0a, F0.binds (ps := ["script", "many"]) fun _ _ _ _ _ _ us hl => match us, hl with | [_, _], _ => rfl⟩
  have F1 := fun_mk (st := s__law_least) q1b q1c q1d
  have D1 : Def0 K mg "_law_least" s__law_least a1 _ ["made", "left"] := ⟨F1, PySem.W.mg_of X G q1a, F1.binds (ps := ["made", "left"]) fun _ _ _ _ _ _ us hl => match us, hl with | [_, _], _ => rfl⟩
  have F2 := fun_mk (st := s_asks_in_row) q2b q2c q2d
  have D2 : Def0 K mg "asks_in_row" s_asks_in_row a2 _ ["many"] := ⟨F2, PySem.W.mg_of X G q2a, F2.binds (ps := ["many"]) fun _ _ _ _ _ _ us hl => match us, hl with | [_], _ => rfl⟩
  have F3 := fun_mk (st := s__law_alike) q3b q3c q3d
  have D3 : Def0 K mg "_law_alike" s__law_alike a3 _ ["given", "due"] := ⟨F3, PySem.W.mg_of X G q3a, F3.binds (ps := ["given", "due"]) fun _ _ _ _ _ _ us hl => match us, hl with | [_, _], _ => rfl⟩
  have F4 := fun_mk (st := s_row_of) q4b q4c q4d
  have D4 : Def0 K mg "row_of" s_row_of a4 _ ["many"] := ⟨F4, PySem.W.mg_of X G q4a, F4.binds (ps := ["many"]) fun _ _ _ _ _ _ us hl => match us, hl with | [_], _ => rfl⟩
  have F5 := fun_mk (st := s_made_of) q5b q5c q5d
  have D5 : Def0 K mg "made_of" s_made_of a5 _ ["versions", "k"] := ⟨F5, PySem.W.mg_of X G q5a, F5.binds (ps := ["versions", "k"]) fun _ _ _ _ _ _ us hl => match us, hl with | [_, _], _ => rfl⟩
  have F6 := fun_mk (st := s_split_by) q6b q6c q6d
  have D6 : Def0 K mg "split_by" s_split_by a6 _ ["versions", "left", "k"] := ⟨F6, PySem.W.mg_of X G q6a, F6.binds (ps := ["versions", "left", "k"]) fun _ _ _ _ _ _ us hl => match us, hl with | [_, _, _], _ => rfl⟩
  have F7 := fun_mk (st := s_best_ask) q7b q7c q7d
  have D7 : Def0 K mg "best_ask" s_best_ask a7 _ ["versions", "left", "barred"] := ⟨F7, PySem.W.mg_of X G q7a, F7.binds (ps := ["versions", "left", "barred"]) fun _ _ _ _ _ _ us hl => match us, hl with | [_, _, _], _ => rfl⟩
  have F8 := fun_mk (st := s_left_by) q8b q8c q8d
  have D8 : Def0 K mg "left_by" s_left_by a8 _ ["versions", "left", "k", "is_bad"] := ⟨F8, PySem.W.mg_of X G q8a, F8.binds (ps := ["versions", "left", "k", "is_bad"]) fun _ _ _ _ _ _ us hl => match us, hl with | [_, _, _, _], _ => rfl⟩
  have F9 := fun_mk (st := s_asks_for) q9b q9c q9d
  have D9 : Def0 K mg "asks_for" s_asks_for a9 _ ["versions", "left", "barred", "broken"] := ⟨F9, PySem.W.mg_of X G q9a, F9.binds (ps := ["versions", "left", "barred", "broken"]) fun _ _ _ _ _ _ us hl => match us, hl with | [_, _, _, _], _ => rfl⟩
  have F10 := fun_mk (st := s_least_asks) q10b q10c q10d
  have D10 : Def0 K mg "least_asks" s_least_asks a10 _ ["versions", "left"] := ⟨F10, PySem.W.mg_of X G q10a, F10.binds (ps := ["versions", "left"]) fun _ _ _ _ _ _ us hl => match us, hl with | [_, _], _ => rfl⟩
  have F11 := fun_mk (st := s_most_asks) q11b q11c q11d
  have D11 : Def0 K mg "most_asks" s_most_asks a11 _ ["versions", "left", "barred"] := ⟨F11, PySem.W.mg_of X G q11a, F11.binds (ps := ["versions", "left", "barred"]) fun _ _ _ _ _ _ us hl => match us, hl with | [_, _, _], _ => rfl⟩
  have F12 := fun_mk (st := s_suspects) q12b q12c q12d
  have D12 : Def0 K mg "suspects" s_suspects a12 _ ["versions", "good", "bad"] := ⟨F12, PySem.W.mg_of X G q12a, F12.binds (ps := ["versions", "good", "bad"]) fun _ _ _ _ _ _ us hl => match us, hl with | [_, _, _], _ => rfl⟩
  have F13 := fun_mk (st := s__law_next) q13b q13c q13d
  have D13 : Def0 K mg "_law_next" s__law_next a13 _ ["w", "many"] := ⟨F13, PySem.W.mg_of X G q13a, F13.binds (ps := ["w", "many"]) fun _ _ _ _ _ _ us hl => match us, hl with | [_, _], _ => rfl⟩
  have F14 := fun_mk (st := s__law_pick) q14b q14c q14d
  have D14 : Def0 K mg "_law_pick" s__law_pick a14 _ ["w", "rows"] := ⟨F14, PySem.W.mg_of X G q14a, F14.binds (ps := ["w", "rows"]) fun _ _ _ _ _ _ us hl => match us, hl with | [_, _], _ => rfl⟩
  have F15 := fun_mk (st := s__law_made) q15b q15c q15d
  have D15 : Def0 K mg "_law_made" s__law_made a15 _ ["versions", "k"] := ⟨F15, PySem.W.mg_of X G q15a, F15.binds (ps := ["versions", "k"]) fun _ _ _ _ _ _ us hl => match us, hl with | [_, _], _ => rfl⟩
  have F16 := fun_mk (st := s__law_versions) q16b q16c q16d
  have D16 : Def0 K mg "_law_versions" s__law_versions a16 _ ["w"] := ⟨F16, PySem.W.mg_of X G q16a, F16.binds (ps := ["w"]) fun _ _ _ _ _ _ us hl => match us, hl with | [_], _ => rfl⟩
  have F17 := fun_mk (st := s_law) q17b q17c q17d
  have D17 : Def0 K mg "law" s_law fa _ ["script"] := ⟨F17, PySem.W.mg_of X G q17a, F17.binds (ps := ["script"]) fun _ _ _ _ _ _ us hl => match us, hl with | [_], _ => rfl⟩
  refine ⟨PySem.W.fnOf "law" "law" (defArgs s_law) (defBody s_law) (defScope s_law) .none kV17 dc17 pm17 an17 cd17 ct17, fun s v => .of_eq rfl, fun base _ _ => ?_⟩
  have C0 : Cal l.prog w K mg base 1 "_law_draws" a0 _ ["script", "many"] f__law_draws := d__law_draws (k := 0) TX1 D0 
  have C1 : Cal l.prog w K mg base 1 "_law_least" a1 _ ["made", "left"] f__law_least := d__law_least (k := 0) TX1 D1 
  have C2 : Cal l.prog w K mg base 1 "asks_in_row" a2 _ ["many"] f_asks_in_row := d_asks_in_row (k := 0) TX1 D2 
  have C3 : Cal l.prog w K mg base 40 "_law_alike" a3 _ ["given", "due"] (f__law_alike 40) := (r__law_alike (k := 0) TX1 D3  40).up (by decide)
  have C4 : Cal l.prog w K mg base 1 "row_of" a4 _ ["many"] f_row_of := d_row_of (k := 0) TX1 D4 
  have C5 : Cal l.prog w K mg base 1 "made_of" a5 _ ["versions", "k"] f_made_of := d_made_of (k := 0) TX1 D5 
  have C6 : Cal l.prog w K mg base 2 "split_by" a6 _ ["versions", "left", "k"] f_split_by := d_split_by (k := 1) TX1 D6 (C5.up (by decide))
  have C7 : Cal l.prog w K mg base 3 "best_ask" a7 _ ["versions", "left", "barred"] f_best_ask := d_best_ask (k := 2) TX1 D7 (C6.up (by decide))
  have C8 : Cal l.prog w K mg base 2 "left_by" a8 _ ["versions", "left", "k", "is_bad"] f_left_by := d_left_by (k := 1) TX1 D8 (C5.up (by decide))
  have C9 : Cal l.prog w K mg base 4 "asks_for" a9 _ ["versions", "left", "barred", "broken"] f_asks_for := d_asks_for (k := 3) TX1 D9 (C7.up (by decide)) (C5.up (by decide)) (C8.up (by decide))
  have C10 : Cal l.prog w K mg base 42 "least_asks" a10 _ ["versions", "left"] (f_least_asks 40) := (r_least_asks (k := 2) TX1 D10 (C8.up (by decide)) 40).up (by decide)
  have C11 : Cal l.prog w K mg base 5 "most_asks" a11 _ ["versions", "left", "barred"] f_most_asks := d_most_asks (k := 4) TX1 D11 (C9.up (by decide))
  have C12 : Cal l.prog w K mg base 2 "suspects" a12 _ ["versions", "good", "bad"] f_suspects := d_suspects (k := 1) TX1 D12 (C5.up (by decide))
  have C13 : Cal l.prog w K mg base 1 "_law_next" a13 _ ["w", "many"] f__law_next := d__law_next (k := 0) TX1 D13 
  have C14 : Cal l.prog w K mg base 2 "_law_pick" a14 _ ["w", "rows"] f__law_pick := d__law_pick (k := 1) TX1 D14 (C13.up (by decide))
  have C15 : Cal l.prog w K mg base 1 "_law_made" a15 _ ["versions", "k"] f__law_made := d__law_made (k := 0) TX1 D15 
  have C16 : Cal l.prog w K mg base 2 "_law_versions" a16 _ ["w"] f__law_versions := d__law_versions (k := 1) TX1 D16 (C13.up (by decide))
  exact d_law (k := 42) TX1 D17 (C0.up (by decide)) (C1.up (by decide)) (C2.up (by decide)) (C3.up (by decide)) (C4.up (by decide)) (C9.up (by decide)) (C7.up (by decide)) (C10.up (by decide)) (C11.up (by decide)) (C12.up (by decide)) (C14.up (by decide)) (C13.up (by decide)) (C15.up (by decide)) (C16.up (by decide)) math
end Kk64

set_option Elab.async false
set_option linter.all false
set_option maxRecDepth 100000
set_option maxHeartbeats 4000000
namespace Kk64
open PySem PySem.Spec PyProof.Rows L2 Dl
def bT1 : SB := (sFrz [1] (sSet 3 (eCall f__law_versions (aCons (eFz (eVar 1)) aNil))))
def bT2 : SB := (sSet 4 (eA dLen (aCons (eVar 3) aNil)))
def bT3 : SB := (sFrz [3] (sSet 5 (eLC [16] (setN 16) (iRange (aCons (eVar 4) aNil)) tYesD (eCall f__law_made (aCons (eFz (eVar 3)) (aCons (eFz (eVar 16)) aNil))))))
def bT4 : SB := (sFrz [1] (sSet 6 (eCall f__law_next (aCons (eFz (eVar 1)) (aCons (eFz (eVar 4)) aNil)))))
def bT5 : SB := (sFrz [1] (sSet 7 (eLC [16] (setN 16) (iRange (aCons (eVar 4) aNil)) (tVal (eOp dEq (eCall f__law_next (aCons (eFz (eVar 1)) (aCons (eFz (eC (.int 3))) aNil))) (eC (.int 0)))) (eTup (aCons (eFz (eVar 16)) (aCons (eFz (eOp (dInG false) (eVar 6) (eOp dIx (eVar 5) (eVar 16)))) aNil))))))
def bT6 : SB := (sFrz [1] (sSet 8 (eA dTuple (aCons (eOp dAdd (eLC [16, 21] (setT [16, 21]) (iSeq (eVar 7)) (tTru (eVar 21)) (eVar 16)) (eLst (aCons (eFz (eCall f__law_pick (aCons (eFz (eVar 1)) (aCons (eFz (eLC [16] (setN 16) (iRange (aCons (eVar 4) aNil)) (tVal (eOp (dInG false) (eVar 6) (eOp dIx (eVar 5) (eVar 16)))) (eVar 16))) aNil)))) aNil))) aNil))))
def bT7 : SB := (sSet 9 (eA dTuple (aCons (eLC [16, 21] (setT [16, 21]) (iSeq (eVar 7)) (tNo (tTru (eVar 21))) (eVar 16)) aNil)))
def bT8 : SB := (sSet 10 (eA dTuple (aCons (eLC [16] (setN 16) (iRange (aCons (eVar 4) aNil)) ((tAn (tVal (eOp dEq (eLC [23] (setN 23) (iSeq (eVar 8)) (tVal (eOp (dInG true) (eVar 16) (eOp dIx (eVar 5) (eVar 23)))) (eVar 23)) (eLst aNil))) (tVal (eOp dEq (eLC [23] (setN 23) (iSeq (eVar 9)) (tVal (eOp (dInG false) (eVar 16) (eOp dIx (eVar 5) (eVar 23)))) (eVar 23)) (eLst aNil))))) (eVar 16)) aNil)))
def bT9 : SB := (sFrz [3] (sIf ((tOrr (tVal (eOp (dInG true) (eVar 6) (eVar 10))) (tNo (tTru (eCall (f__law_alike 40) (aCons (eFz (eCall f_suspects (aCons (eFz (eVar 3)) (aCons (eFz (eVar 9)) (aCons (eFz (eVar 8)) aNil))))) (aCons (eFz (eVar 10)) aNil))))))) (sRet (eC (.bl false))) (sNil)))
def bT10 : SB := (sFrz [3, 5] (sPar 14 15 (aCons (eCall f__law_least (aCons (eFz (eVar 5)) (aCons (eFz (eVar 10)) aNil))) (aCons (eCall f_most_asks (aCons (eFz (eVar 3)) (aCons (eFz (eVar 10)) (aCons (eFz (eTup aNil)) aNil)))) aNil))))
def bT11 : SB := (sFrz [3, 14] (sIf ((tOrr (tNo (tTru (eCall (f__law_alike 40) (aCons (eFz (eCall (f_least_asks 40) (aCons (eFz (eVar 3)) (aCons (eFz (eVar 10)) aNil)))) (aCons (eFz (eVar 14)) aNil))))) (tOrr (tNo (tTru (eA dIsi (aCons (eVar 15) (aCons (eC (.ty "int")) aNil))))) (tVal (eOp dLt (eVar 15) (eVar 14)))))) (sRet (eC (.bl false))) (sNil)))
def bT12 : SB := (sSet 11 (eLst aNil))
def bT13 : SB := (sFor (setN 12) (iSeq (eFz (eVar 10))) (sSeq (sUnp (setT [17, 18]) (eTup (aCons (eFz (eVar 10)) (aCons (eFz (eLst aNil)) aNil)))) (sSeq (sWhile (tVal (eOp dGt (eA dLen (aCons (eVar 17) aNil)) (eC (.int 1)))) (sSeq (sSet 19 (eLC [16] (setN 16) (iSeq (eVar 17)) tYesD (eTup (aCons (eFz (eOp dSub (eC (.int 0)) (eA dMin2 (aCons (eA dLen (aCons (eLC [22] (setN 22) (iSeq (eVar 17)) (tVal (eOp (dInG false) (eVar 22) (eOp dIx (eVar 5) (eVar 16)))) (eVar 22)) aNil)) (aCons (eA dLen (aCons (eLC [22] (setN 22) (iSeq (eVar 17)) (tVal (eOp (dInG true) (eVar 22) (eOp dIx (eVar 5) (eVar 16)))) (eVar 22)) aNil)) aNil))))) (aCons (eFz (eVar 16)) aNil))))) (sSeq (sSet 20 (eOp dIx (eA dMinL (aCons (eVar 19) aNil)) (eC (.int 1)))) (sSeq (sFrz [3] (sIf (tNo (tTru (eCall (f__law_alike 40) (aCons (eFz (eCall f_best_ask (aCons (eFz (eVar 3)) (aCons (eFz (eVar 17)) (aCons (eFz (eTup aNil)) aNil))))) (aCons (eFz (eVar 20)) aNil))))) (sRet (eC (.bl false))) (sNil))) (sUnp (setT [18, 17]) (eTup (aCons (eFz (eOp dAdd (eVar 18) (eLst (aCons (eFz (eVar 20)) aNil)))) (aCons (eFz (eA dTuple (aCons (eLC [22] (setN 22) (iSeq (eVar 17)) (tVal (eOp dEq (eOp (dInG false) (eVar 22) (eOp dIx (eVar 5) (eVar 20))) (eOp (dInG false) (eVar 12) (eOp dIx (eVar 5) (eVar 20))))) (eVar 22)) aNil))) aNil))))))) 100000) (sSeq (sApp 11 (eA dLen (aCons (eVar 18) aNil))) (sFrz [3] (sIf ((tOrr (tVal (eOp dNe (eVar 17) (eTup (aCons (eFz (eVar 12)) aNil)))) (tNo (tTru (eCall (f__law_alike 40) (aCons (eFz (eCall f_asks_for (aCons (eFz (eVar 3)) (aCons (eFz (eVar 10)) (aCons (eFz (eTup aNil)) (aCons (eFz (eVar 12)) aNil)))))) (aCons (eFz (eTup (aCons (eFz (eA dTuple (aCons (eVar 18) aNil))) (aCons (eFz (eVar 17)) aNil)))) aNil))))))) (sRet (eC (.bl false))) (sNil)))))))
def bT14 : SB := (sIf (tVal (eOp dNe (eVar 15) (eA dMaxL (aCons (eVar 11) aNil)))) (sRet (eC (.bl false))) (sNil))
def bT15 : SB := (sSet 13 (eCall f_row_of (aCons (eFz (eVar 4)) aNil)))
def bT16 : SB := (sFrz [13] (sIf ((tOrr (tNo (tTru (eCall (f__law_alike 40) (aCons (eFz (eVar 13)) (aCons (eFz (eA dTuple (aCons (eLC [16] (setN 16) (iRange (aCons (eVar 4) aNil)) tYesD (eIf (tVal (eOp dGt (eVar 16) (eC (.int 0)))) (eTup (aCons (eFz (eOp dSub (eVar 16) (eC (.int 1)))) aNil)) (eTup aNil))) aNil))) aNil))))) (tNo (tTru (eCall (f__law_alike 40) (aCons (eFz (eCall f_asks_in_row (aCons (eFz (eVar 4)) aNil))) (aCons (eFz (eCall f__law_least (aCons (eFz (eLC [16] (setN 16) (iRange (aCons (eVar 4) aNil)) tYesD (eRg1 false (eOp dAdd (eVar 16) (eC (.int 1)))))) (aCons (eFz (eRg1 true (eVar 4))) aNil)))) aNil))))))) (sRet (eC (.bl false))) (sNil)))
def bT : SB := (sSeq bT1 (sSeq bT2 (sSeq bT3 (sSeq bT4 (sSeq bT5 (sSeq bT6 (sSeq bT7 (sSeq bT8 (sSeq bT9 (sSeq bT10 (sSeq bT11 (sSeq bT12 (sSeq bT13 (sSeq bT14 (sSeq bT15 bT16)))))))))))))))
/-! draws that choose -/
theorem lc_draw {set : ESet} {t : ET} {fe : EF} {env : En} (g : Nat → D) : ∀ (T : List Nat) (W : Wd), OkW W → (∀ j ∈ T, ∀ W, OkW W → ∃ e1 b W', set (iN j) env = some e1 ∧ t e1 (some W) = some (b, some W') ∧ OkW W' ∧ eFz fe e1 (some W') = some ((g j, .fz), some W')) →
    ∃ (T' : List Nat) (W' : Wd), lcL set t fe (T.map iN) env (some W) = some (T'.map g, some W') ∧ T'.Sublist T ∧ OkW W'
  | [], W, hW, _ => ⟨[], W, rfl, List.Sublist.refl _, hW⟩
  | x :: T, W, hW, h => by
    obtain ⟨e1, b, W1, h1, h2, h3, h4⟩ := h x List.mem_cons_self W hW
    obtain ⟨T', W2, h5, h6, h7⟩ := lc_draw g T W1 h3 fun j hj => h j (List.mem_cons_of_mem _ hj)
    cases b with
    | true =>
      refine ⟨x :: T', W2, ?_, h6.cons_cons x, h7⟩
      rw [List.map_cons, lcL_cons, h1, bnd_some, lcC1_q, h2, bnd_some, lcC2_t, h4, bnd_some, lcC3_q, h5]; rfl
    | false =>
      refine ⟨T', W2, ?_, h6.cons x, h7⟩
      rw [List.map_cons, lcL_cons, h1, bnd_some, lcC1_q, h2, bnd_some, lcC2_f, h5]
/-! versions drawn -/
def eSome : EF := (eLC [4] (setN 4) (iRange (aCons (eVar 2) aNil)) (tVal (eOp dEq (eCall f__law_next (aCons (eFz (eVar 0)) (aCons (eFz (eC (.int 3))) aNil))) (eC (.int 0)))) (eVar 4))
def bVer : SB := (sSeq (sSet 3 eSome) (sApp 1 (eA dTuple (aCons (eIf ((tOrr (tVal (eOp dNe (eVar 3) (eLst aNil))) (tVal (eOp dEq (eCall f__law_next (aCons (eFz (eVar 0)) (aCons (eFz (eC (.int 4))) aNil))) (eC (.int 0)))))) (eVar 3) (eRg2 false (eA dMax2 (aCons (eC (.int 0)) (aCons (eOp dSub (eVar 2) (eC (.int 1))) aNil))) (eVar 2))) aNil))))
theorem eSome_ok (W : Wd) (hW : OkW W) (k : Nat) (hk : k ≤ 100) (s1 s3 s4 : O) : ∃ (T' : List Nat) (W' : Wd), eSome [some (.w, false), s1, some (iN k, false), s3, s4] (some W) = some ((lN T', .ow), some W') ∧ T'.Sublist (List.range k) ∧ OkW W' := by
  obtain ⟨T', W', h1, h2, h3⟩ := lc_draw (set := setN 4) (t := (tVal (eOp dEq (eCall f__law_next (aCons (eFz (eVar 0)) (aCons (eFz (eC (.int 3))) aNil))) (eC (.int 0))))) (fe := eVar 4) (env := [some (.w, false), s1, some (iN k, false), s3, none]) iN (List.range k) W hW fun j hj W hW => by
    obtain ⟨r, W1, g1, g2, g3, g4⟩ := next_ok hW (m := 3) (by decide)
    have e : f__law_next = fNext := rfl
    exact ⟨_, decide (r = 0), W1, rfl, by simp -implicitDefEqProofs [e, g1], g4, rfl⟩
  have hr : ∀ w : Option Wd, rngK ([(.int (k : Int), .fz)], w) = some ((List.range k).map iN, w) := fun w => by rw [rngK_1 (by omega), range_map]
  refine ⟨T', W', ?_, h2, h3⟩
  unfold eSome
  generalize hA : T'.map iN = A at *
  have hl : ((List.range k).map iN).length ≤ lim := lim_N (by simp; omega)
  generalize (List.range k).map iN = B at *
  simp -implicitDefEqProofs [hr, lcK_q hl, h1]
  exact hA.symm
/-- rows so far -/
structure VO (vs : List (List Nat)) : Prop where
  row : ∀ (k : Nat) (r : List Nat), vs[k]? = some r → r.Nodup ∧ ∀ j ∈ r, j < k
theorem VO.snoc {vs : List (List Nat)} (h : VO vs) {r : List Nat} (h1 : r.Nodup) (h2 : ∀ j ∈ r, j < vs.length) : VO (vs ++ [r]) := ⟨fun k q e => by
  rcases Nat.lt_trichotomy k vs.length with hk | hk | hk
  · rw [List.getElem?_append_left hk] at e; exact h.row k q e
  · subst hk
    rw [List.getElem?_append_right (Nat.le_refl _)] at e
    simp at e; subst e; exact ⟨h1, h2⟩
  · rw [List.getElem?_append_right (by omega), List.getElem?_eq_none (by simp; omega)] at e; cases e⟩
theorem rg_prev (k : Nat) : ∃ r : List Nat, rgD (if (k : Int) - 1 > 0 then (k : Int) - 1 else 0) k = r.map iN ∧ r.Nodup ∧ (∀ j ∈ r, j < k) ∧ r.length ≤ 1 := by
  cases k with
  | zero => exact ⟨[], rfl, List.nodup_nil, (fun j h => nomatch h), Nat.zero_le _⟩
  | succ k =>
    refine ⟨[k], ?_, by simp, fun j h => by rw [List.mem_singleton] at h; omega, Nat.le_refl _⟩
    have e : (if ((k + 1 : Nat) : Int) - 1 > 0 then ((k + 1 : Nat) : Int) - 1 else 0) = k := by split <;> omega
    rw [e]
    unfold rgD
    rw [show (((k + 1 : Nat) : Int) - (k : Int)).toNat = 1 by omega]
    simp [List.range_succ]
theorem bVer_ok (W : Wd) (hW : OkW W) (vs : List (List Nat)) (hV : VO vs) (hl : vs.length ≤ 50) (s3 s4 : O) :
    ∃ r t3 W', bVer [some (.w, false), some (.lst (vs.map tN), true), some (iN vs.length, false), s3, s4] (some W) = some (.nx [some (.w, false), some (.lst ((vs ++ [r]).map tN), true), some (iN vs.length, false), t3, s4] (some W')) ∧ VO (vs ++ [r]) ∧ OkW W' := by
  obtain ⟨T', W1, h1, h2, h3⟩ := eSome_ok W hW vs.length (by omega) (some (.lst (vs.map tN), true)) s3 s4
  have hsub : T'.Nodup ∧ (∀ j ∈ T', j < vs.length) := ⟨List.nodup_range.sublist h2, fun j hj => List.mem_range.mp (h2.subset hj)⟩
  have hlim : (vs.map tN).length < lim := lt_lim (by rw [List.length_map]; omega)
  have h0 : sSet 3 eSome [some (.w, false), some (.lst (vs.map tN), true), some (iN vs.length, false), s3, s4] (some W) = some (.nx [some (.w, false), some (.lst (vs.map tN), true), some (iN vs.length, false), some (lN T', true), s4] (some W1)) := by
    rw [sSet_q, h1]; rfl
  have hne : els2 (dEqF true) (dEqD true) (lN T') (.lst []) = some (.bl (!T'.isEmpty), .fz) := by
    have := dNe_lnil (fine_lN T' 63)
    rw [List.isEmpty_map] at this
    exact this
  cases hT : T'.isEmpty with
  | false =>
    rw [hT] at hne
    refine ⟨T', some (lN T', true), W1, ?_, hV.snoc hsub.1 hsub.2, h3⟩
    unfold bVer
    rw [sSeq_q, h0, bnd_some, nxt_nx, List.map_append]
    generalize T'.map iN = A at *
    generalize vs.map tN = C at *
    try simp -implicitDefEqProofs at hne
    simp -implicitDefEqProofs [hne, hlim]
  | true =>
    rw [hT] at hne
    obtain ⟨q, W2, g1, g2, g3, g4⟩ := next_ok h3 (m := 4) (by decide)
    have e : f__law_next = fNext := rfl
    by_cases hq : q = 0
    · refine ⟨T', some (lN T', true), W2, ?_, hV.snoc hsub.1 hsub.2, g4⟩
      unfold bVer
      rw [sSeq_q, h0, bnd_some, nxt_nx, List.map_append]
      generalize T'.map iN = A at *
      generalize vs.map tN = C at *
      try simp -implicitDefEqProofs at hne
      simp -implicitDefEqProofs [hne, hlim, e, g1, hq]
    · obtain ⟨r, e1, e2, e3, e4⟩ := rg_prev vs.length
      refine ⟨r, some (lN T', true), W2, ?_, hV.snoc e2 e3, g4⟩
      have ho := rgOut_l (a := if ((vs.length : Nat) : Int) - 1 > 0 then ((vs.length : Nat) : Int) - 1 else 0) (b := (vs.length : Int)) (by split <;> omega) (by split <;> omega) (by omega) (by omega)
      rw [e1] at ho
      unfold bVer
      rw [sSeq_q, h0, bnd_some, nxt_nx, List.map_append]
      generalize T'.map iN = A at *
      generalize vs.map tN = C at *
      generalize hB : r.map iN = B at *
      try simp -implicitDefEqProofs at hne ho
      simp -implicitDefEqProofs [hne, hlim, e, g1, hq, ho]
      exact hB.symm
theorem versions_ok (W : Wd) (hW : OkW W) : ∃ vs W', f__law_versions [.w] (some W) = some ((encV vs, .fz), some W') ∧ VOk vs ∧ OkW W' := by
  obtain ⟨q, W1, g1, g2, g3, g4⟩ := next_ok hW (m := 7) (by decide)
  have e : f__law_next = fNext := rfl
  obtain ⟨env, w', h1, vs, W2, t2, t3, h2, h3, h4, h5, h6⟩ := forL_inv (set := setN 2) (sa := bVer)
    (fun i e w1 => ∃ vs W2 t2 t3, e = [some (.w, false), some (.lst (vs.map tN), true), t2, t3, none] ∧ w1 = some W2 ∧ OkW W2 ∧ VO vs ∧ vs.length = i) (rangeD 0 (1 + q)) 0 [some (.w, false), some (.lst [], true), none, none, none] (some W1) ⟨[], W1, none, none, rfl, rfl, g4, ⟨fun k r e => by simp at e⟩, rfl⟩ fun j d env w1 hd hp => by
      obtain ⟨vs, W2, t2, t3, he, hw, hW2, hV, hl⟩ := hp
      subst he hw
      obtain ⟨hd1, hd2⟩ := range_at hd
      subst hd1
      have hj : vs.length = j := by omega
      obtain ⟨r, t3', W3, k1, k2, k3⟩ := bVer_ok W2 hW2 vs hV (by omega) t3 none
      refine ⟨[some (.w, false), some (.lst (vs.map tN), true), some (iN vs.length, false), t3, none], _, _, _, ?_, k1, .inl rfl, vs ++ [r], W3, _, t3', rfl, rfl, k3, k2, by simp; omega⟩
      rw [hj]
      simp -implicitDefEqProofs
  rw [range_len] at h6
  subst h2 h3
  refine ⟨vs, W2, ?_, ⟨h5.row, by omega, by omega⟩, h4⟩
  have hr : ∀ w : Option Wd, rngK ([(.int (1 + q), .fz)], w) = some (rangeD 0 (1 + q), w) := fun w => rngK_1 (by omega)
  show bnd (b__law_versions f__law_next (startE 5 [.w]) (some W)) endP = _
  unfold b__law_versions
  unfold bVer eSome at h1
  generalize hC : vs.map tN = C at *
  simp -implicitDefEqProofs [e, g1, hr]
  rw [e] at h1
  simp -implicitDefEqProofs [h1]
  exact hC.symm
/-! what each is made of, as the law has it -/
def msOf (vs : List (List Nat)) : List (List Nat) := (List.range vs.length).map (made vs)
theorem msOf_len (vs : List (List Nat)) : (msOf vs).length = vs.length := by unfold msOf; simp
theorem ML_eq {vs : List (List Nat)} {k : Nat} (hk : k < vs.length) : ML (msOf vs) k = MM vs k := by
  funext j
  have : (msOf vs)[k]? = some (made vs k) := by unfold msOf; simp [hk]
  unfold ML MM
  rw [this]; rfl
theorem mk_ML {vs : List (List Nat)} (V : VOk vs) : Mk vs.length (ML (msOf vs)) := ⟨fun k hk => by rw [ML_eq hk]; exact (mk_ok V).refl k hk, fun k j hk h => (mk_ok V).le k j hk (by rw [ML_eq hk] at h; exact h)⟩
theorem least_congr {M M' : Nat → Nat → Bool} : ∀ (n : Nat) (S : List Nat), (∀ k ∈ S, M k = M' k) → least M n S = least M' n S
  | 0, S, _ => rfl
  | n + 1, S, h => by
    show (if S.length < 2 then 0 else _) = (if S.length < 2 then 0 else _)
    split
    · rfl
    · have e : S.filter (spl M S) = S.filter (spl M' S) := List.filter_congr fun k hk => by unfold spl inn out; rw [h k hk]
      rw [e]
      congr 1
      refine List.map_congr_left fun k hk => ?_
      have hk' := (List.mem_filter.mp hk).1
      have e1 : inn M S k = inn M' S k := by unfold inn; rw [h k hk']
      have e2 : out M S k = out M' S k := by unfold out; rw [h k hk']
      rw [e1, e2, least_congr n _ fun j hj => h j (List.mem_filter.mp hj).1, least_congr n _ fun j hj => h j (List.mem_filter.mp hj).1]
theorem ix_ms {vs : List (List Nat)} {k : Nat} (hk : k < vs.length) : dIx (msD (msOf vs)) (iN k) = some (lN (made vs k), .fz) := by
  rw [dIx_lst, atI_n, List.getElem?_map]
  have : (msOf vs)[k]? = some (made vs k) := by unfold msOf; simp [hk]
  rw [this]; rfl
theorem in_m (neg : Bool) (vs : List (List Nat)) (k j : Nat) : els2 (dIn neg) (dInS neg) (iN j) (lN (made vs k)) = some (.bl (if neg then !MM vs k j else MM vs k j), .fz) := in_l neg (made vs k) j
theorem rng_N (n : Nat) (hn : n ≤ 1000) (w : Option Wd) : rngK ([(.int (n : Int), .fz)], w) = some ((List.range n).map iN, w) := by rw [rngK_1 (by omega), range_map]
section
variable {s0 s2 s3 s4 s5 s6 s7 s8 s9 s10 s11 s12 s13 s14 s15 s16 s17 s18 s19 s20 s21 s22 s23 : O} {vs : List (List Nat)} {w : Option Wd} {br : Nat}
theorem t1_ok (W : Wd) (hW : OkW W) : ∃ vs W', bT1 [s0, some (.w, false), s2, s3, s4, s5, s6, s7, s8, s9, s10, s11, s12, s13, s14, s15, s16, s17, s18, s19, s20, s21, s22, s23] (some W) = some (.nx [s0, some (.w, false), s2, some (encV vs, false), s4, s5, s6, s7, s8, s9, s10, s11, s12, s13, s14, s15, s16, s17, s18, s19, s20, s21, s22, s23] (some W')) ∧ VOk vs ∧ OkW W' := by
  obtain ⟨vs, W', h1, h2, h3⟩ := versions_ok W hW
  refine ⟨vs, W', ?_, h2, h3⟩
  unfold bT1
  simp -implicitDefEqProofs [h1]
theorem t2_ok : bT2 [s0, some (.w, false), s2, some (encV vs, false), s4, s5, s6, s7, s8, s9, s10, s11, s12, s13, s14, s15, s16, s17, s18, s19, s20, s21, s22, s23] w = some (.nx [s0, some (.w, false), s2, some (encV vs, false), some (iN vs.length, false), s5, s6, s7, s8, s9, s10, s11, s12, s13, s14, s15, s16, s17, s18, s19, s20, s21, s22, s23] w) := by
  unfold bT2
  simp -implicitDefEqProofs
theorem t3_ok (V : VOk vs) : bT3 [s0, some (.w, false), s2, some (encV vs, false), some (iN vs.length, false), s5, s6, s7, s8, s9, s10, s11, s12, s13, s14, s15, s16, s17, s18, s19, s20, s21, s22, s23] w = some (.nx [s0, some (.w, false), s2, some (encV vs, false), some (iN vs.length, false), some ((msD (msOf vs)), true), s6, s7, s8, s9, s10, s11, s12, s13, s14, s15, s16, s17, s18, s19, s20, s21, s22, s23] w) := by
  have h1 := lcL_all (set := setN 16) (fe := (eCall f__law_made (aCons (eFz (eVar 3)) (aCons (eFz (eVar 16)) aNil)))) (env := [s0, some (.w, false), s2, some (encV vs, false), some (iN vs.length, false), s5, s6, s7, s8, s9, s10, s11, s12, s13, s14, s15, none, s17, s18, s19, s20, s21, s22, s23]) (w := w) iN (fun k => lN (made vs k)) (List.range vs.length) fun k hk => by
    refine ⟨[s0, some (.w, false), s2, some (encV vs, false), some (iN vs.length, false), s5, s6, s7, s8, s9, s10, s11, s12, s13, s14, s15, some (iN k, false), s17, s18, s19, s20, s21, s22, s23], rfl, ?_⟩
    have h2 := lawMade_ok V (List.mem_range.mp hk) w
    generalize lN (made vs k) = L at *
    simp -implicitDefEqProofs [h2]
  have hr := rng_N vs.length (by have := V.len; omega)
  have e : (msOf vs).map lN = (List.range vs.length).map fun k => lN (made vs k) := by unfold msOf; rw [List.map_map]; rfl
  have hl : ((List.range vs.length).map iN).length ≤ lim := lim_N (by have := V.len; simp; omega)
  unfold bT3
  rw [msD, e]
  generalize ((List.range vs.length).map fun k => lN (made vs k)) = A at *
  generalize (List.range vs.length).map iN = B at *
  simp -implicitDefEqProofs [hr, lcK_q hl, h1]
theorem t4_ok (V : VOk vs) (W : Wd) (hW : OkW W) : ∃ br W', bT4 [s0, some (.w, false), s2, some (encV vs, false), some (iN vs.length, false), some ((msD (msOf vs)), true), s6, s7, s8, s9, s10, s11, s12, s13, s14, s15, s16, s17, s18, s19, s20, s21, s22, s23] (some W) = some (.nx [s0, some (.w, false), s2, some (encV vs, false), some (iN vs.length, false), some ((msD (msOf vs)), true), some (iN br, false), s7, s8, s9, s10, s11, s12, s13, s14, s15, s16, s17, s18, s19, s20, s21, s22, s23] (some W')) ∧ br < vs.length ∧ OkW W' := by
  obtain ⟨r, W', g1, g2, g3, g4⟩ := next_ok hW (m := (vs.length : Int)) (by have := V.pos; omega)
  have e : f__law_next = fNext := rfl
  obtain ⟨br, rfl⟩ : ∃ br : Nat, r = br := ⟨r.toNat, by omega⟩
  refine ⟨br, W', ?_, by omega, g4⟩
  unfold bT4
  generalize (msOf vs).map lN = A
  simp -implicitDefEqProofs [e, g1]
abbrev tbD (vs : List (List Nat)) (br k : Nat) : D := .tup [iN k, .bl (MM vs k br)]
theorem t5_ok (V : VOk vs) (hbr : br < vs.length) (W : Wd) (hW : OkW W) : ∃ (tl : List Nat) (W' : Wd), bT5 [s0, some (.w, false), s2, some (encV vs, false), some (iN vs.length, false), some ((msD (msOf vs)), true), some (iN br, false), s7, s8, s9, s10, s11, s12, s13, s14, s15, s16, s17, s18, s19, s20, s21, s22, s23] (some W) = some (.nx [s0, some (.w, false), s2, some (encV vs, false), some (iN vs.length, false), some ((msD (msOf vs)), true), some (iN br, false), some (.lst (tl.map fun k => tbD vs br k), true), s8, s9, s10, s11, s12, s13, s14, s15, s16, s17, s18, s19, s20, s21, s22, s23] (some W')) ∧ tl.Sublist (List.range vs.length) ∧ OkW W' := by
  obtain ⟨tl, W', h1, h2, h3⟩ := lc_draw (set := setN 16) (t := (tVal (eOp dEq (eCall f__law_next (aCons (eFz (eVar 1)) (aCons (eFz (eC (.int 3))) aNil))) (eC (.int 0))))) (fe := (eTup (aCons (eFz (eVar 16)) (aCons (eFz (eOp (dInG false) (eVar 6) (eOp dIx (eVar 5) (eVar 16)))) aNil)))) (env := [s0, some (.w, false), s2, some (encV vs, false), some (iN vs.length, false), some ((msD (msOf vs)), true), some (iN br, false), s7, s8, s9, s10, s11, s12, s13, s14, s15, none, s17, s18, s19, s20, s21, s22, s23]) (fun k => tbD vs br k) (List.range vs.length) W hW fun k hk W hW => by
    obtain ⟨r, W1, g1, g2, g3, g4⟩ := next_ok hW (m := 3) (by decide)
    have e : f__law_next = fNext := rfl
    have hix := ix_ms (List.mem_range.mp hk)
    have hin := in_m false vs k br
    refine ⟨[s0, some (.w, false), s2, some (encV vs, false), some (iN vs.length, false), some ((msD (msOf vs)), true), some (iN br, false), s7, s8, s9, s10, s11, s12, s13, s14, s15, some (iN k, false), s17, s18, s19, s20, s21, s22, s23], decide (r = 0), W1, rfl, by simp -implicitDefEqProofs [e, g1], g4, ?_⟩
    generalize lN (made vs k) = L at *
    generalize msD (msOf vs) = A at *
    try simp -implicitDefEqProofs at hin hix
    simp -implicitDefEqProofs [hin, hix]
  have hr := rng_N vs.length (by have := V.len; omega)
  have hl : ((List.range vs.length).map iN).length ≤ lim := lim_N (by have := V.len; simp; omega)
  refine ⟨tl, W', ?_, h2, h3⟩
  unfold bT5
  generalize (List.range vs.length).map iN = B at *
  generalize (tl.map fun k => tbD vs br k) = C at *
  generalize msD (msOf vs) = A at *
  simp -implicitDefEqProofs [hr, lcK_q hl, h1]
theorem t6_ok (V : VOk vs) (hbr : br < vs.length) {tl : List Nat} (htl : tl.Sublist (List.range vs.length)) (W : Wd) (hW : OkW W) : ∃ p W', bT6 [s0, some (.w, false), s2, some (encV vs, false), some (iN vs.length, false), some ((msD (msOf vs)), true), some (iN br, false), some (.lst (tl.map fun k => tbD vs br k), true), s8, s9, s10, s11, s12, s13, s14, s15, s16, s17, s18, s19, s20, s21, s22, s23] (some W) = some (.nx [s0, some (.w, false), s2, some (encV vs, false), some (iN vs.length, false), some ((msD (msOf vs)), true), some (iN br, false), some (.lst (tl.map fun k => tbD vs br k), true), some (tN (tl.filter (fun k => MM vs k br) ++ [p]), false), s9, s10, s11, s12, s13, s14, s15, s16, s17, s18, s19, s20, s21, s22, s23] (some W')) ∧ p < vs.length ∧ MM vs p br = true ∧ OkW W' := by
  have hll : tl.length ≤ 7 := by have := htl.length_le; have := V.len; simp at *; omega
  have h1 : ∀ w, lcL (setT [16, 21]) (tTru (eVar 21)) (eVar 16) (tl.map fun k => tbD vs br k) [s0, some (.w, false), s2, some (encV vs, false), some (iN vs.length, false), some ((msD (msOf vs)), true), some (iN br, false), some (.lst (tl.map fun k => tbD vs br k), true), s8, s9, s10, s11, s12, s13, s14, s15, none, s17, s18, s19, s20, none, s22, s23] w = some ((tl.filter (fun k => MM vs k br)).map iN, w) := fun w => lcL_gen (fun k => tbD vs br k) (fun k => MM vs k br) iN tl fun k hk => by
    refine ⟨[s0, some (.w, false), s2, some (encV vs, false), some (iN vs.length, false), some ((msD (msOf vs)), true), some (iN br, false), some (.lst (tl.map fun k => tbD vs br k), true), s8, s9, s10, s11, s12, s13, s14, s15, some (iN k, false), s17, s18, s19, s20, some (.bl (MM vs k br), false), s22, s23], rfl, ?_, fun _ => rfl⟩
    simp -implicitDefEqProofs
  have h2 : ∀ w, lcL (setN 16) (tVal (eOp (dInG false) (eVar 6) (eOp dIx (eVar 5) (eVar 16)))) (eVar 16) ((List.range vs.length).map iN) [s0, some (.w, false), s2, some (encV vs, false), some (iN vs.length, false), some ((msD (msOf vs)), true), some (iN br, false), some (.lst (tl.map fun k => tbD vs br k), true), s8, s9, s10, s11, s12, s13, s14, s15, none, s17, s18, s19, s20, s21, s22, s23] w = some (((List.range vs.length).filter fun k => MM vs k br).map iN, w) := fun w => lc_N (fun k => MM vs k br) (List.range vs.length) fun k hk => by
    have hix := ix_ms (List.mem_range.mp hk)
    have hin := in_m false vs k br
    refine ⟨[s0, some (.w, false), s2, some (encV vs, false), some (iN vs.length, false), some ((msD (msOf vs)), true), some (iN br, false), some (.lst (tl.map fun k => tbD vs br k), true), s8, s9, s10, s11, s12, s13, s14, s15, some (iN k, false), s17, s18, s19, s20, s21, s22, s23], rfl, ?_, rfl⟩
    generalize lN (made vs k) = L at *
    generalize msD (msOf vs) = A at *
    try simp -implicitDefEqProofs at hin hix
    simp -implicitDefEqProofs [hin, hix]
  have hmem : br ∈ (List.range vs.length).filter fun k => MM vs k br := List.mem_filter.mpr ⟨List.mem_range.mpr hbr, (mk_ok V).refl br hbr⟩
  obtain ⟨d, W', g1, g2, g3⟩ := pick_ok hW (ds := ((List.range vs.length).filter fun k => MM vs k br).map iN) (by rw [List.length_map]; exact List.length_pos_of_mem hmem)
  obtain ⟨p, hp, rfl⟩ := List.mem_map.mp g2
  obtain ⟨hp1, hp2⟩ := List.mem_filter.mp hp
  refine ⟨p, W', ?_, List.mem_range.mp hp1, hp2, g3⟩
  have e : f__law_pick = fPick := rfl
  have hr := rng_N vs.length (by have := V.len; omega)
  have hl : ((List.range vs.length).map iN).length ≤ lim := lim_N (by have := V.len; simp; omega)
  have hl2 : (tl.map fun k => tbD vs br k).length ≤ lim := le_lim (by rw [List.length_map]; omega)
  have hfl := List.length_filter_le (fun k => MM vs k br) tl
  have ha : ∀ v : D, els2 dAddI (els2 dCatL (els2 dCatT dCatS)) (.lst ((tl.filter (fun k => MM vs k br)).map iN)) (.lst [v]) = some (.lst ((tl.filter (fun k => MM vs k br)).map iN ++ [v]), .ow) := fun v => dAdd_ll (le_lim (by simp; omega))
  unfold bT6
  rw [tN, List.map_append]
  generalize (tl.filter (fun k => MM vs k br)).map iN = A at *
  generalize (tl.map fun k => tbD vs br k) = C at *
  generalize ((List.range vs.length).filter fun k => MM vs k br).map iN = E at *
  generalize (List.range vs.length).map iN = B at *
  generalize msD (msOf vs) = G at *
  simp -implicitDefEqProofs [hr, lcK_q hl, lcK_q hl2, h1, h2, e, g1, ha]
theorem t7_ok (V : VOk vs) {tl bad : List Nat} (htl : tl.Sublist (List.range vs.length)) : bT7 [s0, some (.w, false), s2, some (encV vs, false), some (iN vs.length, false), some ((msD (msOf vs)), true), some (iN br, false), some (.lst (tl.map fun k => tbD vs br k), true), some (tN bad, false), s9, s10, s11, s12, s13, s14, s15, s16, s17, s18, s19, s20, s21, s22, s23] w = some (.nx [s0, some (.w, false), s2, some (encV vs, false), some (iN vs.length, false), some ((msD (msOf vs)), true), some (iN br, false), some (.lst (tl.map fun k => tbD vs br k), true), some (tN bad, false), some (tN (tl.filter fun k => !MM vs k br), false), s10, s11, s12, s13, s14, s15, s16, s17, s18, s19, s20, s21, s22, s23] w) := by
  have hll : tl.length ≤ 7 := by have := htl.length_le; have := V.len; simp at *; omega
  have h1 : ∀ w, lcL (setT [16, 21]) (tNo (tTru (eVar 21))) (eVar 16) (tl.map fun k => tbD vs br k) [s0, some (.w, false), s2, some (encV vs, false), some (iN vs.length, false), some ((msD (msOf vs)), true), some (iN br, false), some (.lst (tl.map fun k => tbD vs br k), true), some (tN bad, false), s9, s10, s11, s12, s13, s14, s15, none, s17, s18, s19, s20, none, s22, s23] w = some ((tl.filter (fun k => !MM vs k br)).map iN, w) := fun w => lcL_gen (fun k => tbD vs br k) (fun k => !MM vs k br) iN tl fun k hk => by
    refine ⟨[s0, some (.w, false), s2, some (encV vs, false), some (iN vs.length, false), some ((msD (msOf vs)), true), some (iN br, false), some (.lst (tl.map fun k => tbD vs br k), true), some (tN bad, false), s9, s10, s11, s12, s13, s14, s15, some (iN k, false), s17, s18, s19, s20, some (.bl (MM vs k br), false), s22, s23], rfl, ?_, fun _ => rfl⟩
    simp -implicitDefEqProofs
  have hl2 : (tl.map fun k => tbD vs br k).length ≤ lim := le_lim (by rw [List.length_map]; omega)
  unfold bT7
  generalize hA : (tl.filter (fun k => !MM vs k br)).map iN = A at *
  generalize (tl.map fun k => tbD vs br k) = C at *
  generalize msD (msOf vs) = G at *
  simp -implicitDefEqProofs [lcK_q hl2, h1]
  exact hA.symm
theorem all_not {p : Nat → Bool} (l : List Nat) : (l.filter fun j => !p j).isEmpty = l.all p := by
  induction l with
  | nil => rfl
  | cons a l ih =>
    rw [List.all_cons, ← ih]
    cases h : p a with
    | true => rw [List.filter_cons_of_neg (by simp [h])]; rfl
    | false => rw [List.filter_cons_of_pos (by simp [h])]; rfl
theorem eq_lN (S : List Nat) : els2 (dEqF false) (dEqD false) (lN S) (.lst []) = some (.bl S.isEmpty, .fz) := by
  have e1 := dEq_lnil (fine_lN S 63)
  rw [List.isEmpty_map] at e1
  exact e1
theorem t8_ok (V : VOk vs) {tl bad good : List Nat} (hb : ∀ k ∈ bad, k < vs.length) (hg : ∀ k ∈ good, k < vs.length) (hbl : bad.length ≤ 100) (hgl : good.length ≤ 100) : bT8 [s0, some (.w, false), s2, some (encV vs, false), some (iN vs.length, false), some ((msD (msOf vs)), true), some (iN br, false), some (.lst (tl.map fun k => tbD vs br k), true), some (tN bad, false), some (tN good, false), s10, s11, s12, s13, s14, s15, s16, s17, s18, s19, s20, s21, s22, s23] w = some (.nx [s0, some (.w, false), s2, some (encV vs, false), some (iN vs.length, false), some ((msD (msOf vs)), true), some (iN br, false), some (.lst (tl.map fun k => tbD vs br k), true), some (tN bad, false), some (tN good, false), some (tN (leftL vs good bad), false), s11, s12, s13, s14, s15, s16, s17, s18, s19, s20, s21, s22, s23] w) := by
  have h1 : ∀ (k : Nat) (w : Option Wd), lcL (setN 23) (tVal (eOp (dInG true) (eVar 16) (eOp dIx (eVar 5) (eVar 23)))) (eVar 23) (bad.map iN) [s0, some (.w, false), s2, some (encV vs, false), some (iN vs.length, false), some ((msD (msOf vs)), true), some (iN br, false), some (.lst (tl.map fun k => tbD vs br k), true), some (tN bad, false), some (tN good, false), s10, s11, s12, s13, s14, s15, some (iN k, false), s17, s18, s19, s20, s21, s22, none] w = some ((bad.filter fun j => !MM vs j k).map iN, w) := fun k w => lc_N (fun j => !MM vs j k) bad fun j hj => by
    have hix := ix_ms (hb j hj)
    have hin := in_m true vs j k
    refine ⟨[s0, some (.w, false), s2, some (encV vs, false), some (iN vs.length, false), some ((msD (msOf vs)), true), some (iN br, false), some (.lst (tl.map fun k => tbD vs br k), true), some (tN bad, false), some (tN good, false), s10, s11, s12, s13, s14, s15, some (iN k, false), s17, s18, s19, s20, s21, s22, some (iN j, false)], rfl, ?_, rfl⟩
    generalize lN (made vs j) = L at *
    generalize msD (msOf vs) = A at *
    generalize (.lst (tl.map fun k => tbD vs br k) : D) = C at *
    try simp -implicitDefEqProofs at hin hix
    simp -implicitDefEqProofs [hin, hix]
  have h2 : ∀ (k : Nat) (w : Option Wd), lcL (setN 23) (tVal (eOp (dInG false) (eVar 16) (eOp dIx (eVar 5) (eVar 23)))) (eVar 23) (good.map iN) [s0, some (.w, false), s2, some (encV vs, false), some (iN vs.length, false), some ((msD (msOf vs)), true), some (iN br, false), some (.lst (tl.map fun k => tbD vs br k), true), some (tN bad, false), some (tN good, false), s10, s11, s12, s13, s14, s15, some (iN k, false), s17, s18, s19, s20, s21, s22, none] w = some ((good.filter fun j => MM vs j k).map iN, w) := fun k w => lc_N (fun j => MM vs j k) good fun j hj => by
    have hix := ix_ms (hg j hj)
    have hin := in_m false vs j k
    refine ⟨[s0, some (.w, false), s2, some (encV vs, false), some (iN vs.length, false), some ((msD (msOf vs)), true), some (iN br, false), some (.lst (tl.map fun k => tbD vs br k), true), some (tN bad, false), some (tN good, false), s10, s11, s12, s13, s14, s15, some (iN k, false), s17, s18, s19, s20, s21, s22, some (iN j, false)], rfl, ?_, rfl⟩
    generalize lN (made vs j) = L at *
    generalize msD (msOf vs) = A at *
    generalize (.lst (tl.map fun k => tbD vs br k) : D) = C at *
    try simp -implicitDefEqProofs at hin hix
    simp -implicitDefEqProofs [hin, hix]
  have hlb := lim_N (show bad.length ≤ 1000 by omega)
  have hlg := lim_N (show good.length ≤ 1000 by omega)
  have h3 : ∀ w, lcL (setN 16) ((tAn (tVal (eOp dEq (eLC [23] (setN 23) (iSeq (eVar 8)) (tVal (eOp (dInG true) (eVar 16) (eOp dIx (eVar 5) (eVar 23)))) (eVar 23)) (eLst aNil))) (tVal (eOp dEq (eLC [23] (setN 23) (iSeq (eVar 9)) (tVal (eOp (dInG false) (eVar 16) (eOp dIx (eVar 5) (eVar 23)))) (eVar 23)) (eLst aNil))))) (eVar 16) ((List.range vs.length).map iN) [s0, some (.w, false), s2, some (encV vs, false), some (iN vs.length, false), some ((msD (msOf vs)), true), some (iN br, false), some (.lst (tl.map fun k => tbD vs br k), true), some (tN bad, false), some (tN good, false), s10, s11, s12, s13, s14, s15, none, s17, s18, s19, s20, s21, s22, s23] w = some ((leftL vs good bad).map iN, w) := fun w => lc_N (fun j => (bad.all fun k => MM vs k j) && good.all fun k => !MM vs k j) (List.range vs.length) fun k hk => by
    refine ⟨[s0, some (.w, false), s2, some (encV vs, false), some (iN vs.length, false), some ((msD (msOf vs)), true), some (iN br, false), some (.lst (tl.map fun k => tbD vs br k), true), some (tN bad, false), some (tN good, false), s10, s11, s12, s13, s14, s15, some (iN k, false), s17, s18, s19, s20, s21, s22, s23], rfl, ?_, rfl⟩
    have g1 := h1 k w
    have g2 := h2 k w
    have e1 : els2 (dEqF false) (dEqD false) (.lst ((bad.filter fun j => !MM vs j k).map iN)) (.lst []) = _ := eq_lN (bad.filter fun j => !MM vs j k)
    have e2 : els2 (dEqF false) (dEqD false) (.lst ((good.filter fun j => MM vs j k).map iN)) (.lst []) = _ := eq_lN (good.filter fun j => MM vs j k)
    have e3 := all_not (p := fun j => MM vs j k) bad
    have e4 : (good.filter fun j => MM vs j k).isEmpty = good.all fun j => !MM vs j k := by
      rw [← all_not]
      congr 1
      exact List.filter_congr fun j _ => by simp
    rw [e3] at e1
    rw [e4] at e2
    generalize (bad.filter fun j => !MM vs j k).map iN = L1 at *
    generalize (good.filter fun j => MM vs j k).map iN = L2 at *
    generalize (bad.all fun j => MM vs j k) = x at *
    generalize (good.all fun j => !MM vs j k) = y at *
    generalize msD (msOf vs) = A at *
    generalize (.lst (tl.map fun k => tbD vs br k) : D) = C at *
    try simp -implicitDefEqProofs at e1 e2
    cases x <;> simp -implicitDefEqProofs [g1, g2, e1, e2, lcK_q hlb, lcK_q hlg]
  have hr := rng_N vs.length (by have := V.len; omega)
  have hl : ((List.range vs.length).map iN).length ≤ lim := lim_N (by have := V.len; simp; omega)
  unfold bT8
  generalize hL : (leftL vs good bad).map iN = L at *
  generalize (List.range vs.length).map iN = B at *
  generalize (.lst (tl.map fun k => tbD vs br k) : D) = C at *
  generalize msD (msOf vs) = G at *
  simp -implicitDefEqProofs [hr, lcK_q hl, h3]
  exact hL.symm
end
end Kk64

set_option Elab.async false
set_option linter.all false
set_option maxRecDepth 100000
set_option maxHeartbeats 4000000
namespace Kk64
open PySem PySem.Spec PyProof.Rows L2 Dl
/-! alike -/
def al : Nat → D → Prop
  | _, .non => True
  | _, .bl _ => True
  | _, .int _ => True
  | _, .str _ => True
  | n + 1, .tup ds => (∀ d ∈ ds, al n d) ∧ ds.length ≤ 900
  | _, _ => False
theorem alike_s (n : Nat) : f__law_alike (n + 1) = runFn 3 2 (b__law_alike (f__law_alike n)) := rfl
theorem lc_alike (n : Nat) (ds : List D) (w : Option Wd) (h : ∀ d ∈ ds, ∀ w, f__law_alike n [d, d] w = some ((.bl true, .fz), w)) (s2 : Option (D × Bool)) : ∀ (m lo : Nat), lo + m = ds.length → lcL (setN 2) (tNo (tTru (eCall (f__law_alike n) (aCons (eFz (eOp dIx (eVar 0) (eVar 2))) (aCons (eFz (eOp dIx (eVar 1) (eVar 2))) aNil))))) (eVar 2) (rangeD lo ds.length) [some (.tup ds, false), some (.tup ds, false), s2] w = some ([], w)
  | 0, lo, hl => by rw [range_none (by omega)]; rfl
  | m + 1, lo, hl => by
    have ih := lc_alike n ds w h s2 m (lo + 1) (by omega)
    have e : ((lo + 1 : Nat) : Int) = (lo : Int) + 1 := by omega
    rw [e] at ih
    have hlo : lo < ds.length := by omega
    have h1 := fun w => h ds[lo] (List.getElem_mem _) w
    rw [range_cons (by omega), lcL_cons]
    simp -implicitDefEqProofs [atI_n, hlo, h1, ih]
theorem alike_ok : ∀ (n : Nat) (d : D), al n d → ∀ k, n < k → ∀ w, f__law_alike k [d, d] w = some ((.bl true, .fz), w) := by
  intro n
  induction n with
  | zero =>
    intro d h k hk w
    obtain ⟨k, rfl⟩ : ∃ m, k = m + 1 := ⟨k - 1, by omega⟩
    cases d <;> first | (simp -implicitDefEqProofs [alike_s, b__law_alike]; done) | exact absurd h (by simp [al])
  | succ n ih =>
    intro d h k hk w
    obtain ⟨k, rfl⟩ : ∃ m, k = m + 1 := ⟨k - 1, by omega⟩
    cases d with
    | tup ds =>
      have h' : (∀ d ∈ ds, al n d) ∧ ds.length ≤ 900 := h
      have hlc := fun s2 w => lc_alike k ds w (fun d hd w => ih d (h'.1 d hd) k (by omega) w) s2 ds.length 0 (by omega)
      simp only [Int.natCast_zero] at hlc
      have hr1 : ∀ w, rngK ([(.int (ds.length : Int), .fz)], w) = some (rangeD 0 ds.length, w) := fun w => rngK_1 (by omega)
      have l1 : (rangeD 0 ds.length).length ≤ lim := le_lim (by rw [range_len]; omega)
      have hq := dEq_self (d := .lst []) rfl
      simp only [dEq] at hq
      rw [alike_s]
      simp -implicitDefEqProofs [b__law_alike, hr1, lcK_q l1, hlc, hq]
    | _ => first | (simp -implicitDefEqProofs [alike_s, b__law_alike]; done) | exact absurd h (by simp [al])
theorem alike_40 (d : D) (h : al 6 d) (w : Option Wd) : f__law_alike 40 [d, d] w = some ((.bl true, .fz), w) := alike_ok 6 d h 40 (by decide) w
theorem al_N (n : Nat) (S : List Nat) (h : S.length ≤ 900) : al (n + 1) (tN S) := ⟨fun d hd => by
  obtain ⟨j, _, rfl⟩ := List.mem_map.mp hd
  cases n <;> trivial, by rw [List.length_map]; exact h⟩
section
variable {s0 s2 s3 s4 s5 s6 s7 s8 s9 s10 s11 s12 s13 s14 s15 s16 s17 s18 s19 s20 s21 s22 s23 : O} {vs : List (List Nat)} {w : Option Wd} {br : Nat}
theorem t9_ok (V : VOk vs) {bad good : List Nat} {b0 : Nat} (hb : ∀ k ∈ b0 :: bad, k < vs.length) (hg : ∀ k ∈ good, k < vs.length) (hbr : br ∈ leftL vs good (b0 :: bad)) (hlen : (leftL vs good (b0 :: bad)).length ≤ 900) : bT9 [s0, some (.w, false), s2, some (encV vs, false), s4, s5, some (iN br, false), s7, some (tN (b0 :: bad), false), some (tN good, false), some (tN (leftL vs good (b0 :: bad)), false), s11, s12, s13, s14, s15, s16, s17, s18, s19, s20, s21, s22, s23] w = some (.nx [s0, some (.w, false), s2, some (encV vs, false), s4, s5, some (iN br, false), s7, some (tN (b0 :: bad), false), some (tN good, false), some (tN (leftL vs good (b0 :: bad)), false), s11, s12, s13, s14, s15, s16, s17, s18, s19, s20, s21, s22, s23] w) := by
  have h1 := suspects_ok (w := w) V hg hb
  have h2 := in_t true (leftL vs good (b0 :: bad)) br
  rw [has_mem.mpr hbr] at h2
  have h3 := fun w => alike_40 (tN (leftL vs good (b0 :: bad))) (al_N 5 _ hlen) w
  generalize tN (leftL vs good (b0 :: bad)) = L at *
  generalize tN (b0 :: bad) = B at *
  unfold bT9
  try simp -implicitDefEqProofs at h2
  simp -implicitDefEqProofs [h1, h2, h3]
theorem t10_ok (V : VOk vs) {S : List Nat} (hS : Sd vs.length S) (hne : S ≠ []) : bT10 [s0, some (.w, false), s2, some (encV vs, false), s4, some (msD (msOf vs), true), s6, s7, s8, s9, some (tN S, false), s11, s12, s13, s14, s15, s16, s17, s18, s19, s20, s21, s22, s23] w = some (.nx [s0, some (.w, false), s2, some (encV vs, false), s4, some (msD (msOf vs), false), s6, s7, s8, s9, some (tN S, false), s11, s12, s13, some (.int (lst (MM vs) S), false), some (.int (mx (cnt vs S)), false), s16, s17, s18, s19, s20, s21, s22, s23] w) := by
  have h1 := lawLeast_ok (w := w) (msOf_len vs) V.len (mk_ML V) hS
  have e : lst (ML (msOf vs)) S = lst (MM vs) S := least_congr _ S fun k hk => ML_eq (hS.lt k hk)
  rw [e] at h1
  have h2 := most_ok (w := w) V hS hne
  generalize lst (MM vs) S = x at *
  generalize mx (cnt vs S) = y at *
  generalize msD (msOf vs) = A at *
  unfold bT10
  simp -implicitDefEqProofs [h1, h2]
theorem lst_le_mx (V : VOk vs) {S : List Nat} (hS : Sd vs.length S) (hne : S ≠ []) : lst (MM vs) S ≤ mx (cnt vs S) := by
  obtain ⟨own, ho, hl⟩ := least_run (mk_ok V) S.length S (Nat.le_refl _) hS hne
  have : ((runS (MM vs) own S).1.length : Int) ∈ cnt vs S := List.mem_map.mpr ⟨own, ho, rfl⟩
  have := le_mx this
  omega
theorem t11_ok (V : VOk vs) {S : List Nat} (hS : Sd vs.length S) (hne : S ≠ []) : bT11 [s0, some (.w, false), s2, some (encV vs, false), s4, s5, s6, s7, s8, s9, some (tN S, false), s11, s12, s13, some (.int (lst (MM vs) S), false), some (.int (mx (cnt vs S)), false), s16, s17, s18, s19, s20, s21, s22, s23] w = some (.nx [s0, some (.w, false), s2, some (encV vs, false), s4, s5, s6, s7, s8, s9, some (tN S, false), s11, s12, s13, some (.int (lst (MM vs) S), false), some (.int (mx (cnt vs S)), false), s16, s17, s18, s19, s20, s21, s22, s23] w) := by
  have h1 := leastAsks_ok V 39 S w hS (by have := hS.len; have := V.len; omega)
  have h2 := lst_le_mx V hS hne
  have h3 := fun w => alike_40 (.int (lst (MM vs) S)) trivial w
  generalize lst (MM vs) S = x at *
  generalize mx (cnt vs S) = y at *
  have h4 : ¬ y < x := by omega
  unfold bT11
  simp -implicitDefEqProofs [h1, h3, h4]
theorem t12_ok : bT12 [s0, some (.w, false), s2, s3, s4, s5, s6, s7, s8, s9, s10, s11, s12, s13, s14, s15, s16, s17, s18, s19, s20, s21, s22, s23] w = some (.nx [s0, some (.w, false), s2, s3, s4, s5, s6, s7, s8, s9, s10, some (.lst [], true), s12, s13, s14, s15, s16, s17, s18, s19, s20, s21, s22, s23] w) := by
  unfold bT12
  simp -implicitDefEqProofs
def eRowsW : EF := (eLC [16] (setN 16) (iSeq (eVar 17)) tYesD (eTup (aCons (eFz (eOp dSub (eC (.int 0)) (eA dMin2 (aCons (eA dLen (aCons (eLC [22] (setN 22) (iSeq (eVar 17)) (tVal (eOp (dInG false) (eVar 22) (eOp dIx (eVar 5) (eVar 16)))) (eVar 22)) aNil)) (aCons (eA dLen (aCons (eLC [22] (setN 22) (iSeq (eVar 17)) (tVal (eOp (dInG true) (eVar 22) (eOp dIx (eVar 5) (eVar 16)))) (eVar 22)) aNil)) aNil))))) (aCons (eFz (eVar 16)) aNil))))
def eNextW : EF := (eLC [22] (setN 22) (iSeq (eVar 17)) (tVal (eOp dEq (eOp (dInG false) (eVar 22) (eOp dIx (eVar 5) (eVar 20))) (eOp (dInG false) (eVar 12) (eOp dIx (eVar 5) (eVar 20))))) (eVar 22))
def cW : ET := (tVal (eOp dGt (eA dLen (aCons (eVar 17) aNil)) (eC (.int 1))))
def bW2 : SB := (sSet 20 (eOp dIx (eA dMinL (aCons (eVar 19) aNil)) (eC (.int 1))))
def bW3 : SB := (sFrz [3] (sIf (tNo (tTru (eCall (f__law_alike 40) (aCons (eFz (eCall f_best_ask (aCons (eFz (eVar 3)) (aCons (eFz (eVar 17)) (aCons (eFz (eTup aNil)) aNil))))) (aCons (eFz (eVar 20)) aNil))))) (sRet (eC (.bl false))) (sNil)))
def bW4 : SB := (sUnp (setT [18, 17]) (eTup (aCons (eFz (eOp dAdd (eVar 18) (eLst (aCons (eFz (eVar 20)) aNil)))) (aCons (eFz (eA dTuple (aCons eNextW aNil))) aNil))))
def bW : SB := (sSeq (sSet 19 eRowsW) (sSeq bW2 (sSeq bW3 bW4)))
theorem eRowsW_ok (V : VOk vs) {S T A : List Nat} {own : Nat} (hT : Sd vs.length T) : eRowsW [s0, some (.w, false), s2, some (encV vs, false), s4, some (msD (msOf vs), false), s6, s7, s8, s9, some (tN S, false), s11, some (iN own, false), s13, s14, s15, s16, some (tN T, false), some (lN A, false), s19, s20, s21, s22, s23] w = some ((.lst ((prs (MM vs) T T).map pD), .ow), w) := by
  have hln := lim_N (show T.length ≤ 1000 by have := hT.len; have := V.len; omega)
  have h1 := lcL_all (set := setN 16) (fe := (eTup (aCons (eFz (eOp dSub (eC (.int 0)) (eA dMin2 (aCons (eA dLen (aCons (eLC [22] (setN 22) (iSeq (eVar 17)) (tVal (eOp (dInG false) (eVar 22) (eOp dIx (eVar 5) (eVar 16)))) (eVar 22)) aNil)) (aCons (eA dLen (aCons (eLC [22] (setN 22) (iSeq (eVar 17)) (tVal (eOp (dInG true) (eVar 22) (eOp dIx (eVar 5) (eVar 16)))) (eVar 22)) aNil)) aNil))))) (aCons (eFz (eVar 16)) aNil)))) (env := [s0, some (.w, false), s2, some (encV vs, false), s4, some (msD (msOf vs), false), s6, s7, s8, s9, some (tN S, false), s11, some (iN own, false), s13, s14, s15, none, some (tN T, false), some (lN A, false), s19, s20, s21, s22, s23]) (w := w) iN (fun k => pD (val (MM vs) T k, k)) T fun k hk => by
    have hix := ix_ms (hT.lt k hk)
    refine ⟨[s0, some (.w, false), s2, some (encV vs, false), s4, some (msD (msOf vs), false), s6, s7, s8, s9, some (tN S, false), s11, some (iN own, false), s13, s14, s15, some (iN k, false), some (tN T, false), some (lN A, false), s19, s20, s21, s22, s23], rfl, ?_⟩
    have g1 := lc_N (set := setN 22) (t := (tVal (eOp (dInG false) (eVar 22) (eOp dIx (eVar 5) (eVar 16))))) (fe := eVar 22) (env := [s0, some (.w, false), s2, some (encV vs, false), s4, some (msD (msOf vs), false), s6, s7, s8, s9, some (tN S, false), s11, some (iN own, false), s13, s14, s15, some (iN k, false), some (tN T, false), some (lN A, false), s19, s20, s21, none, s23]) (w := w) (MM vs k) T fun j hj => by
      refine ⟨[s0, some (.w, false), s2, some (encV vs, false), s4, some (msD (msOf vs), false), s6, s7, s8, s9, some (tN S, false), s11, some (iN own, false), s13, s14, s15, some (iN k, false), some (tN T, false), some (lN A, false), s19, s20, s21, some (iN j, false), s23], rfl, ?_, rfl⟩
      have hin := in_m false vs k j
      generalize lN (made vs k) = L at *
      generalize msD (msOf vs) = M at *
      try simp -implicitDefEqProofs at hin hix
      simp -implicitDefEqProofs [hin, hix]
    have g2 := lc_N (set := setN 22) (t := (tVal (eOp (dInG true) (eVar 22) (eOp dIx (eVar 5) (eVar 16))))) (fe := eVar 22) (env := [s0, some (.w, false), s2, some (encV vs, false), s4, some (msD (msOf vs), false), s6, s7, s8, s9, some (tN S, false), s11, some (iN own, false), s13, s14, s15, some (iN k, false), some (tN T, false), some (lN A, false), s19, s20, s21, none, s23]) (w := w) (fun j => !MM vs k j) T fun j hj => by
      refine ⟨[s0, some (.w, false), s2, some (encV vs, false), s4, some (msD (msOf vs), false), s6, s7, s8, s9, some (tN S, false), s11, some (iN own, false), s13, s14, s15, some (iN k, false), some (tN T, false), some (lN A, false), s19, s20, s21, some (iN j, false), s23], rfl, ?_, rfl⟩
      have hin := in_m true vs k j
      generalize lN (made vs k) = L at *
      generalize msD (msOf vs) = M at *
      try simp -implicitDefEqProofs at hin hix
      simp -implicitDefEqProofs [hin, hix]
    have hv : val (MM vs) T k = 0 - (if (((T.filter fun j => !MM vs k j).map iN).length : Int) < ((T.filter (MM vs k)).map iN).length then (((T.filter fun j => !MM vs k j).map iN).length : Int) else ((T.filter (MM vs k)).map iN).length) := by
      rw [List.length_map, List.length_map]; rfl
    rw [pD, hv]
    generalize (T.filter fun j => !MM vs k j).map iN = X at *
    generalize (T.filter (MM vs k)).map iN = Y at *
    generalize msD (msOf vs) = M at *
    simp -implicitDefEqProofs [g1, g2, lcK_q hln]
  have e : (prs (MM vs) T T).map pD = T.map fun k => pD (val (MM vs) T k, k) := by unfold prs; rw [List.map_map]; rfl
  rw [e]
  unfold eRowsW
  generalize (T.map fun k => pD (val (MM vs) T k, k)) = R at *
  generalize msD (msOf vs) = M at *
  simp -implicitDefEqProofs [h1, lcK_q hln]
theorem eNextW_ok (V : VOk vs) {S T A : List Nat} {own : Nat} (hT : Sd vs.length T) (hb : best (MM vs) T < vs.length) : eNextW [s0, some (.w, false), s2, some (encV vs, false), s4, some (msD (msOf vs), false), s6, s7, s8, s9, some (tN S, false), s11, some (iN own, false), s13, s14, s15, s16, some (tN T, false), some (lN A, false), some (.lst ((prs (MM vs) T T).map pD), true), some (iN (best (MM vs) T), false), s21, s22, s23] w = some ((lN (nxtS (MM vs) T own), .ow), w) := by
  have hln := lim_N (show T.length ≤ 1000 by have := hT.len; have := V.len; omega)
  have hix := ix_ms hb
  have h1 := lc_N (set := setN 22) (t := (tVal (eOp dEq (eOp (dInG false) (eVar 22) (eOp dIx (eVar 5) (eVar 20))) (eOp (dInG false) (eVar 12) (eOp dIx (eVar 5) (eVar 20)))))) (fe := eVar 22) (env := [s0, some (.w, false), s2, some (encV vs, false), s4, some (msD (msOf vs), false), s6, s7, s8, s9, some (tN S, false), s11, some (iN own, false), s13, s14, s15, s16, some (tN T, false), some (lN A, false), some (.lst ((prs (MM vs) T T).map pD), true), some (iN (best (MM vs) T), false), s21, none, s23]) (w := w) (fun j => MM vs (best (MM vs) T) j == MM vs (best (MM vs) T) own) T fun j hj => by
    refine ⟨[s0, some (.w, false), s2, some (encV vs, false), s4, some (msD (msOf vs), false), s6, s7, s8, s9, some (tN S, false), s11, some (iN own, false), s13, s14, s15, s16, some (tN T, false), some (lN A, false), some (.lst ((prs (MM vs) T T).map pD), true), some (iN (best (MM vs) T), false), s21, some (iN j, false), s23], rfl, ?_, rfl⟩
    have hin := in_m false vs (best (MM vs) T) j
    have hin2 := in_m false vs (best (MM vs) T) own
    generalize lN (made vs (best (MM vs) T)) = L at *
    generalize msD (msOf vs) = M at *
    try simp -implicitDefEqProofs at hin hin2 hix
    simp -implicitDefEqProofs [hin, hin2, hix]
  unfold eNextW nxtS
  generalize hX : (T.filter fun j => MM vs (best (MM vs) T) j == MM vs (best (MM vs) T) own).map iN = X at *
  generalize (.lst ((prs (MM vs) T T).map pD) : D) = Q at *
  generalize msD (msOf vs) = M at *
  simp -implicitDefEqProofs [h1, lcK_q hln]
  exact hX.symm
theorem bW_ok (V : VOk vs) {S T A : List Nat} {own : Nat} (hT : Sd vs.length T) (h2 : ¬ T.length < 2) (hA : A.length ≤ 1000) : bW [s0, some (.w, false), s2, some (encV vs, false), s4, some (msD (msOf vs), false), s6, s7, s8, s9, some (tN S, false), s11, some (iN own, false), s13, s14, s15, s16, some (tN T, false), some (lN A, false), s19, s20, s21, s22, s23] w = some (.nx [s0, some (.w, false), s2, some (encV vs, false), s4, some (msD (msOf vs), false), s6, s7, s8, s9, some (tN S, false), s11, some (iN own, false), s13, s14, s15, s16, some (tN (nxtS (MM vs) T own), false), some (lN (A ++ [best (MM vs) T]), false), some (.lst ((prs (MM vs) T T).map pD), true), some (iN (best (MM vs) T), false), s21, s22, s23] w) := by
  have h0 := eRowsW_ok (w := w) (s0 := s0) (s2 := s2) (s4 := s4) (s6 := s6) (s7 := s7) (s8 := s8) (s9 := s9) (s11 := s11) (s13 := s13) (s14 := s14) (s15 := s15) (s16 := s16) (s19 := s19) (s20 := s20) (s21 := s21) (s22 := s22) (s23 := s23) V (S := S) (A := A) (own := own) hT
  obtain ⟨hbm, _, _⟩ := best_in (mk_ok V) hT h2
  have hbl := hT.lt _ hbm
  have a1 : sSet 19 eRowsW [s0, some (.w, false), s2, some (encV vs, false), s4, some (msD (msOf vs), false), s6, s7, s8, s9, some (tN S, false), s11, some (iN own, false), s13, s14, s15, s16, some (tN T, false), some (lN A, false), s19, s20, s21, s22, s23] w = some (.nx [s0, some (.w, false), s2, some (encV vs, false), s4, some (msD (msOf vs), false), s6, s7, s8, s9, some (tN S, false), s11, some (iN own, false), s13, s14, s15, s16, some (tN T, false), some (lN A, false), some (.lst ((prs (MM vs) T T).map pD), true), s20, s21, s22, s23] w) := by rw [sSet_q, h0]; rfl
  have a2 : bW2 [s0, some (.w, false), s2, some (encV vs, false), s4, some (msD (msOf vs), false), s6, s7, s8, s9, some (tN S, false), s11, some (iN own, false), s13, s14, s15, s16, some (tN T, false), some (lN A, false), some (.lst ((prs (MM vs) T T).map pD), true), s20, s21, s22, s23] w = some (.nx [s0, some (.w, false), s2, some (encV vs, false), s4, some (msD (msOf vs), false), s6, s7, s8, s9, some (tN S, false), s11, some (iN own, false), s13, s14, s15, s16, some (tN T, false), some (lN A, false), some (.lst ((prs (MM vs) T T).map pD), true), some (iN (best (MM vs) T), false), s21, s22, s23] w) := by
    obtain ⟨p, r, ep, eb⟩ : ∃ p r, prs (MM vs) T T = p :: r ∧ best (MM vs) T = (mnP p r).2 := by
      unfold best
      cases e : prs (MM vs) T T with
      | nil =>
        cases T with
        | nil => cases hbm
        | cons a l => cases e
      | cons p r => exact ⟨p, r, rfl, rfl⟩
    have hm := dMin_p p r
    rw [ep, eb]
    generalize mnP p r = q at *
    have e3 : (p :: r).map pD = pD p :: r.map pD := rfl
    rw [e3]
    generalize r.map pD = R at *
    generalize pD p = P at *
    generalize msD (msOf vs) = M at *
    unfold bW2
    simp -implicitDefEqProofs [hm]
    simp -implicitDefEqProofs [pD]
  have a3 : bW3 [s0, some (.w, false), s2, some (encV vs, false), s4, some (msD (msOf vs), false), s6, s7, s8, s9, some (tN S, false), s11, some (iN own, false), s13, s14, s15, s16, some (tN T, false), some (lN A, false), some (.lst ((prs (MM vs) T T).map pD), true), some (iN (best (MM vs) T), false), s21, s22, s23] w = some (.nx [s0, some (.w, false), s2, some (encV vs, false), s4, some (msD (msOf vs), false), s6, s7, s8, s9, some (tN S, false), s11, some (iN own, false), s13, s14, s15, s16, some (tN T, false), some (lN A, false), some (.lst ((prs (MM vs) T T).map pD), true), some (iN (best (MM vs) T), false), s21, s22, s23] w) := by
    have g1 := best_ok (w := w) V hT
    rw [bestD_ge h2] at g1
    have g2 := fun w => alike_40 (iN (best (MM vs) T)) trivial w
    generalize (.lst ((prs (MM vs) T T).map pD) : D) = Q at *
    generalize msD (msOf vs) = M at *
    generalize tN T = X at *
    unfold bW3
    simp -implicitDefEqProofs [g1, g2]
  have a4 : bW4 [s0, some (.w, false), s2, some (encV vs, false), s4, some (msD (msOf vs), false), s6, s7, s8, s9, some (tN S, false), s11, some (iN own, false), s13, s14, s15, s16, some (tN T, false), some (lN A, false), some (.lst ((prs (MM vs) T T).map pD), true), some (iN (best (MM vs) T), false), s21, s22, s23] w = some (.nx [s0, some (.w, false), s2, some (encV vs, false), s4, some (msD (msOf vs), false), s6, s7, s8, s9, some (tN S, false), s11, some (iN own, false), s13, s14, s15, s16, some (tN (nxtS (MM vs) T own), false), some (lN (A ++ [best (MM vs) T]), false), some (.lst ((prs (MM vs) T T).map pD), true), some (iN (best (MM vs) T), false), s21, s22, s23] w) := by
    have g1 := eNextW_ok (w := w) (s0 := s0) (s2 := s2) (s4 := s4) (s6 := s6) (s7 := s7) (s8 := s8) (s9 := s9) (s11 := s11) (s13 := s13) (s14 := s14) (s15 := s15) (s16 := s16) (s21 := s21) (s22 := s22) (s23 := s23) V (S := S) (A := A) (own := own) hT hbl
    have g2 : dAdd (lN A) (.lst [iN (best (MM vs) T)]) = some (lN (A ++ [best (MM vs) T]), .ow) := by
      show dAdd (.lst (A.map iN)) (.lst [iN (best (MM vs) T)]) = some (D.lst ((A ++ [best (MM vs) T]).map iN), O3.ow)
      rw [List.map_append]
      exact dAdd_ll (le_lim (by simp; omega))
    generalize (.lst ((prs (MM vs) T T).map pD) : D) = Q at *
    generalize msD (msOf vs) = M at *
    generalize lN (A ++ [best (MM vs) T]) = X at *
    generalize tN T = Z at *
    generalize nxtS (MM vs) T own = Y at *
    unfold bW4
    try simp -implicitDefEqProofs at g2
    simp -implicitDefEqProofs [g1, g2]
  unfold bW
  rw [sSeq_q, a1, bnd_some, nxt_nx, sSeq_q, a2, bnd_some, nxt_nx, sSeq_q, a3, bnd_some, nxt_nx, a4]
theorem cW_ok {S T A : List Nat} {own : Nat} : cW [s0, some (.w, false), s2, some (encV vs, false), s4, some (msD (msOf vs), false), s6, s7, s8, s9, some (tN S, false), s11, some (iN own, false), s13, s14, s15, s16, some (tN T, false), some (lN A, false), s19, s20, s21, s22, s23] w = some (decide (¬ T.length < 2), w) := by
  unfold cW
  by_cases h : T.length < 2
  · have h2 : ¬ 1 < T.length := by omega
    generalize msD (msOf vs) = M at *
    simp -implicitDefEqProofs [h2]; omega
  · have h2 : 1 < T.length := by omega
    generalize msD (msOf vs) = M at *
    simp -implicitDefEqProofs [h2]; omega
theorem loopW (V : VOk vs) {S : List Nat} {own : Nat} : ∀ (n m : Nat) (T A : List Nat) (s19 s20 : O), Sd vs.length T → T.length ≤ n → A.length + n ≤ 100 →
    ∃ t19 t20, sWhile cW bW (m + n + 1) [s0, some (.w, false), s2, some (encV vs, false), s4, some (msD (msOf vs), false), s6, s7, s8, s9, some (tN S, false), s11, some (iN own, false), s13, s14, s15, s16, some (tN T, false), some (lN A, false), s19, s20, s21, s22, s23] w = some (.nx [s0, some (.w, false), s2, some (encV vs, false), s4, some (msD (msOf vs), false), s6, s7, s8, s9, some (tN S, false), s11, some (iN own, false), s13, s14, s15, s16, some (tN (runS (MM vs) own T).2, false), some (lN (A ++ (runS (MM vs) own T).1), false), t19, t20, s21, s22, s23] w)
  | 0, m, T, A, s19, s20, hT, hn, hA => ⟨s19, s20, by
    rw [sWhile_s, cW_ok, bnd_some, decide_eq_false (by omega), run_0 (by omega), List.append_nil]; rfl⟩
  | n + 1, m, T, A, s19, s20, hT, hn, hA => by
    rw [sWhile_s, cW_ok, bnd_some]
    by_cases h : T.length < 2
    · rw [decide_eq_false (by omega), run_0 h, List.append_nil]; exact ⟨s19, s20, rfl⟩
    · have hl := nxt_lt (mk_ok V) hT h own
      obtain ⟨t19, t20, ih⟩ := loopW V n m (nxtS (MM vs) T own) (A ++ [best (MM vs) T]) (some (.lst ((prs (MM vs) T T).map pD), true)) (some (iN (best (MM vs) T), false)) (hT.flt _) (by omega) (by simp; omega)
      refine ⟨t19, t20, ?_⟩
      rw [decide_eq_true h, whK_t, bW_ok V hT h (by omega), bnd_some, whP_nx]
      show sWhile cW bW (m + n + 1) _ w = _
      rw [ih, run_s (mk_ok V) hT h, List.append_assoc]; rfl
end
end Kk64

set_option Elab.async false
set_option linter.all false
set_option maxRecDepth 100000
set_option maxHeartbeats 4000000
namespace Kk64
open PySem PySem.Spec PyProof.Rows L2 Dl
section
variable {s0 s2 s3 s4 s5 s6 s7 s8 s9 s10 s11 s12 s13 s14 s15 s16 s17 s18 s19 s20 s21 s22 s23 : O} {vs : List (List Nat)} {w : Option Wd} {br : Nat}
def bForL : SB := (sSeq (sUnp (setT [17, 18]) (eTup (aCons (eFz (eVar 10)) (aCons (eFz (eLst aNil)) aNil)))) (sSeq (sWhile cW bW 100000) (sSeq (sApp 11 (eA dLen (aCons (eVar 18) aNil))) (sFrz [3] (sIf ((tOrr (tVal (eOp dNe (eVar 17) (eTup (aCons (eFz (eVar 12)) aNil)))) (tNo (tTru (eCall (f__law_alike 40) (aCons (eFz (eCall f_asks_for (aCons (eFz (eVar 3)) (aCons (eFz (eVar 10)) (aCons (eFz (eTup aNil)) (aCons (eFz (eVar 12)) aNil)))))) (aCons (eFz (eTup (aCons (eFz (eA dTuple (aCons (eVar 18) aNil))) (aCons (eFz (eVar 17)) aNil)))) aNil))))))) (sRet (eC (.bl false))) (sNil))))))
theorem bForL_ok (V : VOk vs) {S : List Nat} (hS : Sd vs.length S) {own : Nat} (ho : own ∈ S) (c : List Int) (hc : c.length ≤ 1000) :
    ∃ t17 t18 t19 t20, bForL [s0, some (.w, false), s2, some (encV vs, false), s4, some (msD (msOf vs), false), s6, s7, s8, s9, some (tN S, false), some (.lst (c.map D.int), true), some (iN own, false), s13, s14, s15, s16, s17, s18, s19, s20, s21, s22, s23] w = some (.nx [s0, some (.w, false), s2, some (encV vs, false), s4, some (msD (msOf vs), false), s6, s7, s8, s9, some (tN S, false), some (.lst ((c ++ [((runS (MM vs) own S).1.length : Int)]).map D.int), true), some (iN own, false), s13, s14, s15, s16, t17, t18, t19, t20, s21, s22, s23] w) := by
  obtain ⟨t19, t20, h1⟩ := loopW (s0 := s0) (s2 := s2) (s4 := s4) (s6 := s6) (s7 := s7) (s8 := s8) (s9 := s9) (s11 := some (.lst (c.map D.int), true)) (s13 := s13) (s14 := s14) (s15 := s15) (s16 := s16) (s21 := s21) (s22 := s22) (s23 := s23) (w := w) V (S := S) (own := own) S.length (100000 - (S.length + 1)) S [] s19 s20 hS (Nat.le_refl _) (by have := hS.len; have := V.len; simp; omega)
  have hl := hS.len
  have hl2 := V.len
  rw [show 100000 - (S.length + 1) + S.length + 1 = 100000 by omega, List.nil_append] at h1
  obtain ⟨e2, e3⟩ := run_end (mk_ok V) S.length S (Nat.le_refl _) hS ho
  have h2 := asksFor_ok (w := w) V hS (hS.lt own ho)
  have h3 := fun w => alike_40 (.tup [tN (runS (MM vs) own S).1, tN [own]]) ⟨fun d hd => by
    rcases List.mem_cons.mp hd with e | hd
    · subst e; exact al_N 4 _ (by omega)
    · rw [List.mem_singleton] at hd; subst hd; exact al_N 4 _ (by simp), by simp⟩ w
  have h4 : els2 (dEqF true) (dEqD true) (tN [own]) (.tup [iN own]) = some (.bl false, .fz) := dNe_self (d := tN [own]) (fine_tN [own] 63)
  have hlim : c.length < lim := lt_lim (by omega)
  rw [e2] at h1 h2
  refine ⟨some (tN [own], false), some (lN (runS (MM vs) own S).1, false), t19, t20, ?_⟩
  have a1 : sUnp (setT [17, 18]) (eTup (aCons (eFz (eVar 10)) (aCons (eFz (eLst aNil)) aNil))) [s0, some (.w, false), s2, some (encV vs, false), s4, some (msD (msOf vs), false), s6, s7, s8, s9, some (tN S, false), some (.lst (c.map D.int), true), some (iN own, false), s13, s14, s15, s16, s17, s18, s19, s20, s21, s22, s23] w = some (.nx [s0, some (.w, false), s2, some (encV vs, false), s4, some (msD (msOf vs), false), s6, s7, s8, s9, some (tN S, false), some (.lst (c.map D.int), true), some (iN own, false), s13, s14, s15, s16, some (tN S, false), some (lN [], false), s19, s20, s21, s22, s23] w) := by
    generalize msD (msOf vs) = M at *
    simp -implicitDefEqProofs
  unfold bForL
  rw [sSeq_q, a1, bnd_some, nxt_nx, sSeq_q, h1, bnd_some, nxt_nx]
  rw [List.map_append]
  generalize hr : (runS (MM vs) own S).1 = r at *
  generalize msD (msOf vs) = M at *
  generalize tN S = X at *
  generalize hY : (.tup [iN own] : D) = Y at *
  have hY2 : tN [own] = Y := hY
  simp only [hY2] at h2 h3 h4 ⊢
  try simp -implicitDefEqProofs at h4
  simp -implicitDefEqProofs [h2, h3, h4, hlim, hY]
theorem loopF (V : VOk vs) {S : List Nat} (hS : Sd vs.length S) : ∀ (T : List Nat) (c : List Int) (s12 s17 s18 s19 s20 : O), (∀ k ∈ T, k ∈ S) → c.length + T.length ≤ 1000 →
    ∃ t12 t17 t18 t19 t20, forL (setN 12) bForL (T.map iN) [s0, some (.w, false), s2, some (encV vs, false), s4, some (msD (msOf vs), false), s6, s7, s8, s9, some (tN S, false), some (.lst (c.map D.int), true), s12, s13, s14, s15, s16, s17, s18, s19, s20, s21, s22, s23] w = some (.nx [s0, some (.w, false), s2, some (encV vs, false), s4, some (msD (msOf vs), false), s6, s7, s8, s9, some (tN S, false), some (.lst ((c ++ T.map fun own => ((runS (MM vs) own S).1.length : Int)).map D.int), true), t12, s13, s14, s15, s16, t17, t18, t19, t20, s21, s22, s23] w)
  | [], c, s12, s17, s18, s19, s20, _, _ => ⟨s12, s17, s18, s19, s20, by simp [cnt]⟩
  | k :: T, c, s12, s17, s18, s19, s20, h, hl => by
    obtain ⟨t17, t18, t19, t20, h1⟩ := bForL_ok (s0 := s0) (s2 := s2) (s4 := s4) (s6 := s6) (s7 := s7) (s8 := s8) (s9 := s9) (s13 := s13) (s14 := s14) (s15 := s15) (s16 := s16) (s17 := s17) (s18 := s18) (s19 := s19) (s20 := s20) (s21 := s21) (s22 := s22) (s23 := s23) (w := w) V hS (h k List.mem_cons_self) c (by simp at hl; omega)
    obtain ⟨u12, u17, u18, u19, u20, h2⟩ := loopF V hS T (c ++ [((runS (MM vs) k S).1.length : Int)]) (some (iN k, false)) t17 t18 t19 t20 (fun j hj => h j (List.mem_cons_of_mem _ hj)) (by simp at hl ⊢; omega)
    refine ⟨u12, u17, u18, u19, u20, ?_⟩
    rw [List.map_cons, forL_cons]
    show bnd (some [s0, some (.w, false), s2, some (encV vs, false), s4, some (msD (msOf vs), false), s6, s7, s8, s9, some (tN S, false), some (.lst (c.map D.int), true), some (iN k, false), s13, s14, s15, s16, s17, s18, s19, s20, s21, s22, s23]) (forK2 (setN 12) bForL (T.map iN) w) = _
    rw [bnd_some, forK2_q, h1, bnd_some, forP_nx, h2, List.append_assoc]; rfl
theorem t13_ok (V : VOk vs) {S : List Nat} (hS : Sd vs.length S) : ∃ t12 t17 t18 t19 t20, bT13 [s0, some (.w, false), s2, some (encV vs, false), s4, some (msD (msOf vs), false), s6, s7, s8, s9, some (tN S, false), some (.lst [], true), s12, s13, s14, s15, s16, s17, s18, s19, s20, s21, s22, s23] w = some (.nx [s0, some (.w, false), s2, some (encV vs, false), s4, some (msD (msOf vs), false), s6, s7, s8, s9, some (tN S, false), some (.lst ((cnt vs S).map D.int), true), t12, s13, s14, s15, s16, t17, t18, t19, t20, s21, s22, s23] w) := by
  obtain ⟨t12, t17, t18, t19, t20, h⟩ := loopF (s0 := s0) (s2 := s2) (s4 := s4) (s6 := s6) (s7 := s7) (s8 := s8) (s9 := s9) (s13 := s13) (s14 := s14) (s15 := s15) (s16 := s16) (s21 := s21) (s22 := s22) (s23 := s23) (w := w) V hS S [] s12 s17 s18 s19 s20 (fun k hk => hk) (by have := hS.len; have := V.len; simp; omega)
  rw [List.nil_append] at h
  refine ⟨t12, t17, t18, t19, t20, ?_⟩
  have e : bT13 = sFor (setN 12) (iSeq (eFz (eVar 10))) bForL := rfl
  have hi : iSeq (eFz (eVar 10)) [s0, some (.w, false), s2, some (encV vs, false), s4, some (msD (msOf vs), false), s6, s7, s8, s9, some (tN S, false), some (.lst [], true), s12, s13, s14, s15, s16, s17, s18, s19, s20, s21, s22, s23] w = some (S.map iN, w) := by
    generalize msD (msOf vs) = M at *
    simp -implicitDefEqProofs
  rw [e, sFor_q, hi, bnd_some, forK_q]
  exact h
theorem t14_ok {S : List Nat} (hne : S ≠ []) : bT14 [s0, some (.w, false), s2, s3, s4, s5, s6, s7, s8, s9, s10, some (.lst ((cnt vs S).map D.int), true), s12, s13, s14, some (.int (mx (cnt vs S)), false), s16, s17, s18, s19, s20, s21, s22, s23] w = some (.nx [s0, some (.w, false), s2, s3, s4, s5, s6, s7, s8, s9, s10, some (.lst ((cnt vs S).map D.int), true), s12, s13, s14, some (.int (mx (cnt vs S)), false), s16, s17, s18, s19, s20, s21, s22, s23] w) := by
  have h1 := dMax_i (xs := cnt vs S) (by unfold cnt; simpa using hne)
  generalize mx (cnt vs S) = m at *
  generalize (cnt vs S).map D.int = C at *
  unfold bT14
  simp -implicitDefEqProofs [h1]
/-! rows -/
def rowX (k : Nat) : List Nat := if 0 < k then [k - 1] else []
abbrev rowD (n : Nat) : D := .tup ((List.range n).map fun k => tN (rowX k))
theorem rowX_p {k : Nat} (h : 0 < k) : tN (rowX k) = .tup [.int ((k : Int) - 1)] := by
  unfold rowX
  rw [if_pos h]
  show D.tup [.int ((k - 1 : Nat) : Int)] = _
  rw [show ((k - 1 : Nat) : Int) = (k : Int) - 1 by omega]
theorem rowX_z {k : Nat} (h : ¬ 0 < k) : tN (rowX k) = .tup [] := by unfold rowX; rw [if_neg h]; rfl
theorem rowOf_ok {n : Nat} (hn : n ≤ 100) : f_row_of [iN n] w = some ((rowD n, .fz), w) := by
  have h1 := lcL_all (set := setN 1) (fe := (eIf (tVal (eOp dGt (eVar 1) (eC (.int 0)))) (eTup (aCons (eFz (eOp dSub (eVar 1) (eC (.int 1)))) aNil)) (eTup aNil))) (env := [some (iN n, false), none]) (w := w) iN (fun k => tN (rowX k)) (List.range n) fun k hk => by
    refine ⟨[some (iN n, false), some (iN k, false)], rfl, ?_⟩
    by_cases h : 0 < k
    · rw [rowX_p h]; simp -implicitDefEqProofs [h]
    · rw [rowX_z h]; simp -implicitDefEqProofs [h]
  have hr := rng_N n (by omega)
  have hl : ((List.range n).map iN).length ≤ lim := lim_N (by simp; omega)
  unfold f_row_of b_row_of rowD
  generalize ((List.range n).map fun k => tN (rowX k)) = A at *
  generalize (List.range n).map iN = B at *
  simp -implicitDefEqProofs [hr, lcK_q hl, h1]
theorem t15_ok {n : Nat} (hn : n ≤ 100) : bT15 [s0, some (.w, false), s2, s3, some (iN n, false), s5, s6, s7, s8, s9, s10, s11, s12, s13, s14, s15, s16, s17, s18, s19, s20, s21, s22, s23] w = some (.nx [s0, some (.w, false), s2, s3, some (iN n, false), s5, s6, s7, s8, s9, s10, s11, s12, some (rowD n, false), s14, s15, s16, s17, s18, s19, s20, s21, s22, s23] w) := by
  have h1 := rowOf_ok (w := w) hn
  unfold bT15
  generalize rowD n = R at *
  simp -implicitDefEqProofs [h1]
def chain (n : Nat) : List (List Nat) := (List.range n).map fun k => List.range (k + 1)
theorem chain_len (n : Nat) : (chain n).length = n := by unfold chain; simp
theorem chain_mk (n : Nat) : Mk n (ML (chain n)) := by
  have e : ∀ k, k < n → ML (chain n) k = has (List.range (k + 1)) := fun k hk => by
    funext j
    have : (chain n)[k]? = some (List.range (k + 1)) := by unfold chain; simp [hk]
    unfold ML
    rw [this]; rfl
  refine ⟨fun k hk => ?_, fun k j hk h => ?_⟩
  · rw [e k hk]; exact has_mem.mpr (List.mem_range.mpr (by omega))
  · rw [e k hk] at h
    have := List.mem_range.mp (has_mem.mp h); omega
theorem range_sd (n : Nat) : Sd n (List.range n) := ⟨List.pairwise_lt_range, fun k hk => List.mem_range.mp hk⟩
def airN : Nat → Int
  | 0 => 0 | 1 => 0 | 2 => 1 | 3 => 2 | 4 => 2 | _ => 3
theorem chain_least (n : Nat) (h : 0 < n) (h7 : n ≤ 7) : lst (ML (chain n)) (List.range n) = airN n := by
  have : n = 1 ∨ n = 2 ∨ n = 3 ∨ n = 4 ∨ n = 5 ∨ n = 6 ∨ n = 7 := by omega
  rcases this with h | h | h | h | h | h | h <;> subst h <;> decide +kernel
theorem air_ok (n : Nat) (h : 0 < n) (h7 : n ≤ 7) : f_asks_in_row [iN n] w = some ((.int (airN n), .fz), w) := by
  have : n = 1 ∨ n = 2 ∨ n = 3 ∨ n = 4 ∨ n = 5 ∨ n = 6 ∨ n = 7 := by omega
  rcases this with h | h | h | h | h | h | h <;> subst h <;> rfl
theorem rgD_N (n : Nat) : rgD 0 (n : Int) = (List.range n).map iN := by
  unfold rgD
  rw [show ((n : Int) - 0).toNat = n by omega]
  refine List.map_congr_left fun k _ => ?_
  rw [Int.zero_add]
theorem t16_ok {n : Nat} (hp : 0 < n) (hn : n ≤ 7) : bT16 [s0, some (.w, false), s2, s3, some (iN n, false), s5, s6, s7, s8, s9, s10, s11, s12, some (rowD n, false), s14, s15, s16, s17, s18, s19, s20, s21, s22, s23] w = some (.nx [s0, some (.w, false), s2, s3, some (iN n, false), s5, s6, s7, s8, s9, s10, s11, s12, some (rowD n, false), s14, s15, s16, s17, s18, s19, s20, s21, s22, s23] w) := by
  have h1 := lcL_all (set := setN 16) (fe := (eIf (tVal (eOp dGt (eVar 16) (eC (.int 0)))) (eTup (aCons (eFz (eOp dSub (eVar 16) (eC (.int 1)))) aNil)) (eTup aNil))) (env := [s0, some (.w, false), s2, s3, some (iN n, false), s5, s6, s7, s8, s9, s10, s11, s12, some (rowD n, false), s14, s15, none, s17, s18, s19, s20, s21, s22, s23]) (w := w) iN (fun k => tN (rowX k)) (List.range n) fun k hk => by
    refine ⟨[s0, some (.w, false), s2, s3, some (iN n, false), s5, s6, s7, s8, s9, s10, s11, s12, some (rowD n, false), s14, s15, some (iN k, false), s17, s18, s19, s20, s21, s22, s23], rfl, ?_⟩
    by_cases h : 0 < k
    · rw [rowX_p h]; generalize rowD n = R; simp -implicitDefEqProofs [h]
    · rw [rowX_z h]; generalize rowD n = R; simp -implicitDefEqProofs [h]
  have h2 := lcL_all (set := setN 16) (fe := (eRg1 false (eOp dAdd (eVar 16) (eC (.int 1))))) (env := [s0, some (.w, false), s2, s3, some (iN n, false), s5, s6, s7, s8, s9, s10, s11, s12, some (rowD n, false), s14, s15, none, s17, s18, s19, s20, s21, s22, s23]) (w := w) iN (fun k => lN (List.range (k + 1))) (List.range n) fun k hk => by
    have hk' := List.mem_range.mp hk
    refine ⟨[s0, some (.w, false), s2, s3, some (iN n, false), s5, s6, s7, s8, s9, s10, s11, s12, some (rowD n, false), s14, s15, some (iN k, false), s17, s18, s19, s20, s21, s22, s23], rfl, ?_⟩
    have ho := rgOut_l (a := 0) (b := ((k + 1 : Nat) : Int)) (by decide) (by decide) (by omega) (by omega)
    rw [rgD_N] at ho
    have e : ((k + 1 : Nat) : Int) = (k : Int) + 1 := by omega
    rw [e] at ho
    generalize rowD n = R
    generalize hB : (List.range (k + 1)).map iN = B at *
    simp -implicitDefEqProofs [ho]
    try exact hB.symm
  have h3 := fun w => alike_40 (rowD n) ⟨fun d hd => by
    obtain ⟨k, _, rfl⟩ := List.mem_map.mp hd
    exact al_N 4 _ (by unfold rowX; split <;> simp), by simp; omega⟩ w
  have h4 := fun w => alike_40 (.int (airN n)) trivial w
  have h5 := air_ok (w := w) n hp hn
  have h6 := lawLeast_ok (S := List.range n) (w := w) (chain_len n) hn (chain_mk n) (range_sd n)
  rw [chain_least n hp hn] at h6
  have e7 : msD (chain n) = .lst ((List.range n).map fun k => lN (List.range (k + 1))) := by
    unfold msD chain
    rw [List.map_map]; rfl
  rw [e7] at h6
  have ho := rgOut_t (a := 0) (b := (n : Int)) (by decide) (by decide) (by omega) (by omega)
  rw [rgD_N] at ho
  have hr := rng_N n (by omega)
  have hl : ((List.range n).map iN).length ≤ lim := lim_N (by simp; omega)
  have h6' : f__law_least [.lst ((List.range n).map fun k => lN (List.range (k + 1))), .tup ((List.range n).map iN)] w = some ((.int (airN n), .fz), w) := h6
  generalize airN n = v at *
  unfold rowD at *
  generalize ((List.range n).map fun k => tN (rowX k)) = A at *
  generalize ((List.range n).map fun k => lN (List.range (k + 1))) = C at *
  generalize (List.range n).map iN = B at *
  unfold bT16
  simp -implicitDefEqProofs [hr, lcK_q hl, h1, h2, h3, h4, h5, h6', ho]
end
end Kk64

set_option Elab.async false
set_option linter.all false
set_option maxRecDepth 100000
set_option maxHeartbeats 4000000
namespace Kk64
open PySem PySem.Spec PyProof.Rows L2 Dl
section
variable {s0 s2 s3 s4 s5 s6 s7 s8 s9 s10 s11 s12 s13 s14 s15 s16 s17 s18 s19 s20 s21 s22 s23 : O}
theorem turn_ok (W : Wd) (hW : OkW W) : ∃ t3 t4 t5 t6 t7 t8 t9 t10 t11 t12 t13 t14 t15 t16 t17 t18 t19 t20 t21 t22 t23 W', bT [s0, some (.w, false), s2, s3, s4, s5, s6, s7, s8, s9, s10, s11, s12, s13, s14, s15, s16, s17, s18, s19, s20, s21, s22, s23] (some W) = some (.nx [s0, some (.w, false), s2, t3, t4, t5, t6, t7, t8, t9, t10, t11, t12, t13, t14, t15, t16, t17, t18, t19, t20, t21, t22, t23] (some W')) ∧ OkW W' := by
  obtain ⟨vs, W1, e1, V, w1⟩ := t1_ok (s0 := s0) (s2 := s2) (s3 := s3) (s4 := s4) (s5 := s5) (s6 := s6) (s7 := s7) (s8 := s8) (s9 := s9) (s10 := s10) (s11 := s11) (s12 := s12) (s13 := s13) (s14 := s14) (s15 := s15) (s16 := s16) (s17 := s17) (s18 := s18) (s19 := s19) (s20 := s20) (s21 := s21) (s22 := s22) (s23 := s23) W hW
  obtain ⟨br, W2, e4, hbr, w2⟩ := t4_ok (s0 := s0) (s2 := s2) (s6 := s6) (s7 := s7) (s8 := s8) (s9 := s9) (s10 := s10) (s11 := s11) (s12 := s12) (s13 := s13) (s14 := s14) (s15 := s15) (s16 := s16) (s17 := s17) (s18 := s18) (s19 := s19) (s20 := s20) (s21 := s21) (s22 := s22) (s23 := s23) V W1 w1
  obtain ⟨tl, W3, e5, htl, w3⟩ := t5_ok (s0 := s0) (s2 := s2) (s7 := s7) (s8 := s8) (s9 := s9) (s10 := s10) (s11 := s11) (s12 := s12) (s13 := s13) (s14 := s14) (s15 := s15) (s16 := s16) (s17 := s17) (s18 := s18) (s19 := s19) (s20 := s20) (s21 := s21) (s22 := s22) (s23 := s23) V hbr W2 w2
  obtain ⟨p, W4, e6, hp, hpm, w4⟩ := t6_ok (s0 := s0) (s2 := s2) (s8 := s8) (s9 := s9) (s10 := s10) (s11 := s11) (s12 := s12) (s13 := s13) (s14 := s14) (s15 := s15) (s16 := s16) (s17 := s17) (s18 := s18) (s19 := s19) (s20 := s20) (s21 := s21) (s22 := s22) (s23 := s23) V hbr htl W3 w3
  have hlv := V.len
  have htl' : tl.length ≤ 7 := by have := htl.length_le; simp at this; omega
  have htm : ∀ k ∈ tl, k < vs.length := fun k hk => List.mem_range.mp (htl.subset hk)
  obtain ⟨b0, bad, hbe⟩ : ∃ b0 bad, tl.filter (fun k => MM vs k br) ++ [p] = b0 :: bad := by
    cases h : tl.filter (fun k => MM vs k br) ++ [p] with
    | nil => simp at h
    | cons a l => exact ⟨a, l, rfl⟩
  have hbad : ∀ k ∈ b0 :: bad, k < vs.length ∧ MM vs k br = true := fun k hk => by
    rw [← hbe] at hk
    rcases List.mem_append.mp hk with hk | hk
    · exact ⟨htm k (List.mem_filter.mp hk).1, (List.mem_filter.mp hk).2⟩
    · rw [List.mem_singleton] at hk; subst hk; exact ⟨hp, hpm⟩
  have hbl : (b0 :: bad).length ≤ 100 := by
    rw [← hbe, List.length_append]
    have := List.length_filter_le (fun k => MM vs k br) tl
    simp; omega
  rw [hbe] at e6
  have hgood : ∀ k ∈ tl.filter (fun k => !MM vs k br), k < vs.length ∧ MM vs k br = false := fun k hk => ⟨htm k (List.mem_filter.mp hk).1, by simpa using (List.mem_filter.mp hk).2⟩
  have hgl : (tl.filter fun k => !MM vs k br).length ≤ 100 := Nat.le_trans (List.length_filter_le _ _) (by omega)
  have e7 := t7_ok (s0 := s0) (s2 := s2) (s9 := s9) (s10 := s10) (s11 := s11) (s12 := s12) (s13 := s13) (s14 := s14) (s15 := s15) (s16 := s16) (s17 := s17) (s18 := s18) (s19 := s19) (s20 := s20) (s21 := s21) (s22 := s22) (s23 := s23) (w := some W4) (br := br) V (bad := b0 :: bad) htl
  have e8 := t8_ok (s0 := s0) (s2 := s2) (s10 := s10) (s11 := s11) (s12 := s12) (s13 := s13) (s14 := s14) (s15 := s15) (s16 := s16) (s17 := s17) (s18 := s18) (s19 := s19) (s20 := s20) (s21 := s21) (s22 := s22) (s23 := s23) (w := some W4) (br := br) (tl := tl) V (fun k hk => (hbad k hk).1) (fun k hk => (hgood k hk).1) hbl hgl
  have hbrL : br ∈ leftL vs (tl.filter fun k => !MM vs k br) (b0 :: bad) := by
    refine List.mem_filter.mpr ⟨List.mem_range.mpr hbr, ?_⟩
    rw [Bool.and_eq_true, List.all_eq_true, List.all_eq_true]
    exact ⟨fun k hk => (hbad k hk).2, fun k hk => by rw [(hgood k hk).2]; rfl⟩
  have hS : Sd vs.length (leftL vs (tl.filter fun k => !MM vs k br) (b0 :: bad)) := (range_sd vs.length).flt _
  have hSl := hS.len
  have e9 := t9_ok (s0 := s0) (s2 := s2) (s4 := some (iN vs.length, false)) (s5 := some (msD (msOf vs), true)) (s7 := some (.lst (tl.map fun k => tbD vs br k), true)) (s11 := s11) (s12 := s12) (s13 := s13) (s14 := s14) (s15 := s15) (s16 := s16) (s17 := s17) (s18 := s18) (s19 := s19) (s20 := s20) (s21 := s21) (s22 := s22) (s23 := s23) (w := some W4) V (fun k hk => (hbad k hk).1) (fun k hk => (hgood k hk).1) hbrL (by omega)
  have hne : leftL vs (tl.filter fun k => !MM vs k br) (b0 :: bad) ≠ [] := fun e => by rw [e] at hbrL; cases hbrL
  generalize leftL vs (tl.filter fun k => !MM vs k br) (b0 :: bad) = S at *
  obtain ⟨t12, t17, t18, t19, t20, e13⟩ := t13_ok (s0 := s0) (s2 := s2) (s4 := some (iN vs.length, false)) (s6 := some (iN br, false)) (s7 := some (.lst (tl.map fun k => tbD vs br k), true)) (s8 := some (tN (b0 :: bad), false)) (s9 := some (tN (tl.filter fun k => !MM vs k br), false)) (s12 := s12) (s13 := s13) (s14 := some (.int (lst (MM vs) S), false)) (s15 := some (.int (mx (cnt vs S)), false)) (s16 := s16) (s17 := s17) (s18 := s18) (s19 := s19) (s20 := s20) (s21 := s21) (s22 := s22) (s23 := s23) (w := some W4) V hS
  have e2 := t2_ok (s0 := s0) (s2 := s2) (s4 := s4) (s5 := s5) (s6 := s6) (s7 := s7) (s8 := s8) (s9 := s9) (s10 := s10) (s11 := s11) (s12 := s12) (s13 := s13) (s14 := s14) (s15 := s15) (s16 := s16) (s17 := s17) (s18 := s18) (s19 := s19) (s20 := s20) (s21 := s21) (s22 := s22) (s23 := s23) (w := some W1) (vs := vs)
  have e3 := t3_ok (s0 := s0) (s2 := s2) (s5 := s5) (s6 := s6) (s7 := s7) (s8 := s8) (s9 := s9) (s10 := s10) (s11 := s11) (s12 := s12) (s13 := s13) (s14 := s14) (s15 := s15) (s16 := s16) (s17 := s17) (s18 := s18) (s19 := s19) (s20 := s20) (s21 := s21) (s22 := s22) (s23 := s23) (w := some W1) V
  have e10 := t10_ok (s0 := s0) (s2 := s2) (s4 := some (iN vs.length, false)) (s6 := some (iN br, false)) (s7 := some (.lst (tl.map fun k => tbD vs br k), true)) (s8 := some (tN (b0 :: bad), false)) (s9 := some (tN (tl.filter fun k => !MM vs k br), false)) (s11 := s11) (s12 := s12) (s13 := s13) (s14 := s14) (s15 := s15) (s16 := s16) (s17 := s17) (s18 := s18) (s19 := s19) (s20 := s20) (s21 := s21) (s22 := s22) (s23 := s23) (w := some W4) V hS hne
  have e11 := t11_ok (s0 := s0) (s2 := s2) (s4 := some (iN vs.length, false)) (s5 := some (msD (msOf vs), false)) (s6 := some (iN br, false)) (s7 := some (.lst (tl.map fun k => tbD vs br k), true)) (s8 := some (tN (b0 :: bad), false)) (s9 := some (tN (tl.filter fun k => !MM vs k br), false)) (s11 := s11) (s12 := s12) (s13 := s13) (s16 := s16) (s17 := s17) (s18 := s18) (s19 := s19) (s20 := s20) (s21 := s21) (s22 := s22) (s23 := s23) (w := some W4) V hS hne
  have e12 := t12_ok (s0 := s0) (s2 := s2) (s3 := some (encV vs, false)) (s4 := some (iN vs.length, false)) (s5 := some (msD (msOf vs), false)) (s6 := some (iN br, false)) (s7 := some (.lst (tl.map fun k => tbD vs br k), true)) (s8 := some (tN (b0 :: bad), false)) (s9 := some (tN (tl.filter fun k => !MM vs k br), false)) (s10 := some (tN S, false)) (s11 := s11) (s12 := s12) (s13 := s13) (s14 := some (.int (lst (MM vs) S), false)) (s15 := some (.int (mx (cnt vs S)), false)) (s16 := s16) (s17 := s17) (s18 := s18) (s19 := s19) (s20 := s20) (s21 := s21) (s22 := s22) (s23 := s23) (w := some W4)
  have e14 := t14_ok (s0 := s0) (s2 := s2) (s3 := some (encV vs, false)) (s4 := some (iN vs.length, false)) (s5 := some (msD (msOf vs), false)) (s6 := some (iN br, false)) (s7 := some (.lst (tl.map fun k => tbD vs br k), true)) (s8 := some (tN (b0 :: bad), false)) (s9 := some (tN (tl.filter fun k => !MM vs k br), false)) (s10 := some (tN S, false)) (s12 := t12) (s13 := s13) (s14 := some (.int (lst (MM vs) S), false)) (s16 := s16) (s17 := t17) (s18 := t18) (s19 := t19) (s20 := t20) (s21 := s21) (s22 := s22) (s23 := s23) (w := some W4) (vs := vs) hne
  have e15 := t15_ok (s0 := s0) (s2 := s2) (s3 := some (encV vs, false)) (s5 := some (msD (msOf vs), false)) (s6 := some (iN br, false)) (s7 := some (.lst (tl.map fun k => tbD vs br k), true)) (s8 := some (tN (b0 :: bad), false)) (s9 := some (tN (tl.filter fun k => !MM vs k br), false)) (s10 := some (tN S, false)) (s11 := some (.lst ((cnt vs S).map D.int), true)) (s12 := t12) (s13 := s13) (s14 := some (.int (lst (MM vs) S), false)) (s15 := some (.int (mx (cnt vs S)), false)) (s16 := s16) (s17 := t17) (s18 := t18) (s19 := t19) (s20 := t20) (s21 := s21) (s22 := s22) (s23 := s23) (w := some W4) (n := vs.length) (by omega)
  have e16 := t16_ok (s0 := s0) (s2 := s2) (s3 := some (encV vs, false)) (s5 := some (msD (msOf vs), false)) (s6 := some (iN br, false)) (s7 := some (.lst (tl.map fun k => tbD vs br k), true)) (s8 := some (tN (b0 :: bad), false)) (s9 := some (tN (tl.filter fun k => !MM vs k br), false)) (s10 := some (tN S, false)) (s11 := some (.lst ((cnt vs S).map D.int), true)) (s12 := t12) (s14 := some (.int (lst (MM vs) S), false)) (s15 := some (.int (mx (cnt vs S)), false)) (s16 := s16) (s17 := t17) (s18 := t18) (s19 := t19) (s20 := t20) (s21 := s21) (s22 := s22) (s23 := s23) (w := some W4) (n := vs.length) V.pos V.len
  refine ⟨some (encV vs, false), some (iN vs.length, false), some (msD (msOf vs), false), some (iN br, false), some (.lst (tl.map fun k => tbD vs br k), true), some (tN (b0 :: bad), false), some (tN (tl.filter fun k => !MM vs k br), false), some (tN S, false), some (.lst ((cnt vs S).map D.int), true), t12, some (rowD vs.length, false), some (.int (lst (MM vs) S), false), some (.int (mx (cnt vs S)), false), s16, t17, t18, t19, t20, s21, s22, s23, W4, ?_, w4⟩
  unfold bT
  rw [sSeq_q, e1, bnd_some, nxt_nx, sSeq_q, e2, bnd_some, nxt_nx, sSeq_q, e3, bnd_some, nxt_nx, sSeq_q, e4, bnd_some, nxt_nx, sSeq_q, e5, bnd_some, nxt_nx, sSeq_q, e6, bnd_some, nxt_nx, sSeq_q, e7, bnd_some, nxt_nx, sSeq_q, e8, bnd_some, nxt_nx, sSeq_q, e9, bnd_some, nxt_nx, sSeq_q, e10, bnd_some, nxt_nx, sSeq_q, e11, bnd_some, nxt_nx, sSeq_q, e12, bnd_some, nxt_nx, sSeq_q, e13, bnd_some, nxt_nx, sSeq_q, e14, bnd_some, nxt_nx, sSeq_q, e15, bnd_some, nxt_nx]
  exact e16
end
theorem math : MathT := by
  intro ns hn
  obtain ⟨ds, hd⟩ := draws_ok ns hn 300 (by decide) none
  refine ⟨ds, hd, ?_⟩
  obtain ⟨e, w', h1, u2, u3, u4, u5, u6, u7, u8, u9, u10, u11, u12, u13, u14, u15, u16, u17, u18, u19, u20, u21, u22, u23, W', h2, h3, h4⟩ := forL_inv (set := setN 2) (sa := bT)
    (fun i e w => ∃ s2 s3 s4 s5 s6 s7 s8 s9 s10 s11 s12 s13 s14 s15 s16 s17 s18 s19 s20 s21 s22 s23 W, e = [some (.scr ns, false), some (.w, false), s2, s3, s4, s5, s6, s7, s8, s9, s10, s11, s12, s13, s14, s15, s16, s17, s18, s19, s20, s21, s22, s23] ∧ w = some W ∧ OkW W) (rangeD 0 5) 0 [some (.scr ns, false), some (.w, false), none, none, none, none, none, none, none, none, none, none, none, none, none, none, none, none, none, none, none, none, none, none] (some ⟨ds, 0⟩) ⟨none, none, none, none, none, none, none, none, none, none, none, none, none, none, none, none, none, none, none, none, none, none, ⟨ds, 0⟩, rfl, rfl, Int.le_refl 0⟩ fun j d env w hd hp => by
      obtain ⟨s2, s3, s4, s5, s6, s7, s8, s9, s10, s11, s12, s13, s14, s15, s16, s17, s18, s19, s20, s21, s22, s23, W, he, hw, hW⟩ := hp
      subst he hw
      obtain ⟨t3, t4, t5, t6, t7, t8, t9, t10, t11, t12, t13, t14, t15, t16, t17, t18, t19, t20, t21, t22, t23, W', g1, g2⟩ := turn_ok (s0 := some (.scr ns, false)) (s2 := some (d, false)) (s3 := s3) (s4 := s4) (s5 := s5) (s6 := s6) (s7 := s7) (s8 := s8) (s9 := s9) (s10 := s10) (s11 := s11) (s12 := s12) (s13 := s13) (s14 := s14) (s15 := s15) (s16 := s16) (s17 := s17) (s18 := s18) (s19 := s19) (s20 := s20) (s21 := s21) (s22 := s22) (s23 := s23) W hW
      exact ⟨_, _, _, _, rfl, g1, .inl rfl, _, t3, t4, t5, t6, t7, t8, t9, t10, t11, t12, t13, t14, t15, t16, t17, t18, t19, t20, t21, t22, t23, W', rfl, rfl, g2⟩
  subst h2 h3
  have hr5 : ∀ w, rngK ([(.int 5, .fz)], w) = some (rangeD 0 5, w) := fun w => rngK_1 (by decide)
  refine ⟨some W', ?_⟩
  have hb : b_law f__law_least f_asks_in_row (f__law_alike 40) f_row_of f_asks_for f_best_ask (f_least_asks 40) f_most_asks f_suspects f__law_pick f__law_next f__law_made f__law_versions = sSeq (sFor (setN 2) (iRange (aCons (eC (.int 5)) aNil)) bT) (sRet (eC (.bl true))) := rfl
  rw [hb, sSeq_q, sFor_q]
  have hi : ∀ env w, iRange (aCons (eC (.int 5)) aNil) env w = some (rangeD 0 5, w) := fun env w => by
    simp -implicitDefEqProofs [hr5]
  rw [hi, bnd_some, forK_q]
  show bnd (forL (setN 2) bT (rangeD 0 5) [some (.scr ns, false), some (.w, false), none, none, none, none, none, none, none, none, none, none, none, none, none, none, none, none, none, none, none, none, none, none] (some ⟨ds, 0⟩)) _ = _
  rw [h1]
  rfl
end Kk64

set_option Elab.async false
set_option linter.all false
set_option maxRecDepth 100000
set_option maxHeartbeats 4000000
namespace Kk64
open PySem PySem.Spec PyProof.Rows L2 Dl
end Kk64
open PySem PySem.W PyProof.Rows
set_option maxHeartbeats 0 in
theorem PySem.Challenge.cw_stepswatched_k64_whole_asks_that_find_a_holds : PySem.Challenge.rw_stepswatched_k64_whole_asks_that_find_a.Holds := by
  w_on; o_law; k_head; (case hw => w_witness2)
  k_fill
  refine L2.walk_of (l := PySem.Challenge.rw_stepswatched_k64_whole_asks_that_find_a) (n := 63) (k := 43) (x := "script") (CX := fun _ => L2.CX0) (sp := fun w => Dl.spLaw _) rfl (by decide) rfl ⟨rfl, by decide, by decide⟩ (fun w h Y => PySem.W.kIn_of Y) ?F (fun _ _ a ns hl _ hS => ⟨a, ns, rfl, hS, hl, fun _ => rfl⟩) (fun _ _ _ _ _ h => h)
  case F =>
    intro w mg fa h KX G hmg
    refine' Kk64.all_mk Kk64.math KX G hmg ?q0a ?q0b ?q0c ?q0d ?q1a ?q1b ?q1c ?q1d ?q2a ?q2b ?q2c ?q2d ?q3a ?q3b ?q3c ?q3d ?q4a ?q4b ?q4c ?q4d ?q5a ?q5b ?q5c ?q5d ?q6a ?q6b ?q6c ?q6d ?q7a ?q7b ?q7c ?q7d ?q8a ?q8b ?q8c ?q8d ?q9a ?q9b ?q9c ?q9d ?q10a ?q10b ?q10c ?q10d ?q11a ?q11b ?q11c ?q11d ?q12a ?q12b ?q12c ?q12d ?q13a ?q13b ?q13c ?q13d ?q14a ?q14b ?q14c ?q14d ?q15a ?q15b ?q15c ?q15d ?q16a ?q16b ?q16c ?q16d ?q17a ?q17b ?q17c ?q17d ?z0 ?z1 ?z2 ?z3 ?z4 ?z5 ?z6 ?z7 ?z8 ?z9 ?z10 ?z11
    (case q0a => k_is); (case q0b => k_is); (case q0c => k_is); (case q0d => k_is); (case q1a => k_is); (case q1b => k_is); (case q1c => k_is); (case q1d => k_is); (case q2a => k_is); (case q2b => k_is); (case q2c => k_is); (case q2d => k_is); (case q3a => k_is); (case q3b => k_is); (case q3c => k_is); (case q3d => k_is); (case q4a => k_is); (case q4b => k_is); (case q4c => k_is); (case q4d => k_is); (case q5a => k_is); (case q5b => k_is); (case q5c => k_is); (case q5d => k_is); (case q6a => k_is); (case q6b => k_is); (case q6c => k_is); (case q6d => k_is); (case q7a => k_is); (case q7b => k_is); (case q7c => k_is); (case q7d => k_is); (case q8a => k_is); (case q8b => k_is); (case q8c => k_is); (case q8d => k_is); (case q9a => k_is); (case q9b => k_is); (case q9c => k_is); (case q9d => k_is); (case q10a => k_is); (case q10b => k_is); (case q10c => k_is); (case q10d => k_is); (case q11a => k_is); (case q11b => k_is); (case q11c => k_is); (case q11d => k_is); (case q12a => k_is); (case q12b => k_is); (case q12c => k_is); (case q12d => k_is); (case q13a => k_is); (case q13b => k_is); (case q13c => k_is); (case q13d => k_is); (case q14a => k_is); (case q14b => k_is); (case q14c => k_is); (case q14d => k_is); (case q15a => k_is); (case q15b => k_is); (case q15c => k_is); (case q15d => k_is); (case q16a => k_is); (case q16b => k_is); (case q16c => k_is); (case q16d => k_is); (case q17a => k_is); (case q17b => k_is); (case q17c => k_is); (case q17d => k_is); (case z0 => k_is); (case z1 => k_is); (case z2 => k_is); (case z3 => k_is); (case z4 => k_is); (case z5 => k_is); (case z6 => k_is); (case z7 => k_is); (case z8 => k_is); (case z9 => k_is); (case z10 => k_is); (case z11 => k_is)
