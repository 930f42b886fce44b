import PyProof.Rows.All
import Wide.All
import OpenK.AllK
import Wide.FinOn
import HandS.ForMost
import HandS.Flow
import HandS.IsInst
import HandS.More
import HandS.TupAny
import HandS.EndBits
import HandS.Style
import KE.KDictPairs
import KE.DataCmp
import KE.SortData
import KE.DatumOrd
import PySem.Challenge.RW_stepswatched_k44_whole_checks_along_a_ru
set_option Elab.async false
set_option linter.all false
set_option maxRecDepth 100000
set_option maxHeartbeats 4000000
/-! A layer of plain data over the hand layer: values as trees (D), a state of slots (En), judgements Snd.. that say
which function of the slots an expression, a statement, a def is. -/
namespace Dl
open PySem PySem.Spec PyProof.Rows L2
/-- a length that lines can have; not to be reckoned with -/
@[irreducible] def lim : Nat := 1000000
theorem lim_eq : lim = 1000000 := by unfold lim; rfl
theorem lt_lim {n : Nat} (h : n ≤ 900000) : n < lim := by rw [lim_eq]; omega
theorem le_lim {n : Nat} (h : n ≤ 900000) : n ≤ lim := by rw [lim_eq]; omega

/-- data -/
inductive D where
  | non | bl (b : Bool) | int (i : Int) | str (x : Str)
  | tup (ds : List D) | lst (ds : List D)
  | dk (ks : List Key) (ds : List D)
  | scr (ns : List Int)
  | ty (n : String)
  | w
/-- frozen (never changes again), one's own and new, one's own and held by a slot -/
inductive O3 where
  | fz | ow | bo
  deriving DecidableEq
abbrev DS := D × O3
/-- the law's draws -/
structure Wd where
  draws : List Int
  ix : Int
abbrev En := List (Option (D × Bool))
abbrev EF := En → Option Wd → Option (DS × Option Wd)
abbrev EA := En → Option Wd → Option (List DS × Option Wd)
abbrev ET := En → Option Wd → Option (Bool × Option Wd)
abbrev EI := En → Option Wd → Option (List D × Option Wd)
abbrev Fn := List D → Option Wd → Option (DS × Option Wd)

def KL (K : PySem.W.Frag) (a : Addr) (xs : List V) : Prop :=
  ∃ (o : Obj) (its : Array Value) (n : Nat), K.lookup a = some o ∧ o.cls = .type "list" ∧ o.dict = none ∧ o.data = .seq its n ∧ its.size ≤ sizeLine ∧ Vals xs its.toList
theorem sqL_iff {K : PySem.W.Frag} {H : Hp} {a : Addr} {xs : List V} : SqL K H a xs ↔ (Rd H a (.lst xs) ∨ KL K a xs) := Iff.rfl

/-- how a tuple stands -/
def TupO (u : HO) (vs : List V) : Prop := ∃ o : Obj, o.cls = .type "tuple" ∧ o.dict = none ∧ u = .frz o (.tup vs)
theorem TupO.sq {K : PySem.W.Frag} {H : Hp} {a : Addr} {u : HO} {vs : List V} (t : TupO u vs) (h : H a = some u) : SqT K H a vs := by
  obtain ⟨o, _, _, e⟩ := t
  subst e
  exact .inl (.inr ⟨o, h⟩)
mutual
/-- the value v is the data d, all of it frozen -/
def Rep (K : PySem.W.Frag) (F : Addr → Prop) (wa : Option Addr) (H : Hp) : D → V → Prop
  | .non, v => v = .non
  | .bl b, v => v = .bl b
  | .int i, v => v = .int i
  | .str x, v => v = .str x
  | .tup ds, v => ∃ a u vs, v = .ref a ∧ F a ∧ H a = some u ∧ TupO u vs ∧ Reps K F wa H ds vs
  | .lst ds, v => ∃ a vs, v = .ref a ∧ F a ∧ H a = some (.lst vs) ∧ Reps K F wa H ds vs
  | .scr ns, v => ∃ a, v = .ref a ∧ ((F a ∧ Rd H a (.lst (ns.map V.int))) ∨ KL K a (ns.map V.int))
  | .ty n, v => v = .ty n
  | .dk ks ds, v => ∃ a vs, v = .ref a ∧ F a ∧ H a = some (.dK (ks.zip vs)) ∧ ks.length = vs.length ∧ Reps K F wa H ds vs
  | .w, v => ∃ a, wa = some a ∧ v = .ref a
def Reps (K : PySem.W.Frag) (F : Addr → Prop) (wa : Option Addr) (H : Hp) : List D → List V → Prop
  | [], vs => vs = []
  | d :: ds, vs => ∃ v r, vs = v :: r ∧ Rep K F wa H d v ∧ Reps K F wa H ds r
end
section
variable {K : PySem.W.Frag} {F F' : Addr → Prop} {wa : Option Addr} {H H' : Hp}
mutual
theorem Rep.mono (hF : ∀ a, F a → F' a) (hH : ∀ a o, F a → H a = some o → H' a = some o) : ∀ (d : D) (v : V), Rep K F wa H d v → Rep K F' wa H' d v
  | .non, v, h => h
  | .bl b, v, h => h
  | .int b, v, h => h
  | .str b, v, h => h
  | .tup ds, v, h => by
    obtain ⟨a, u, vs, h1, h2, h3, ht, h4⟩ := h
    exact ⟨a, u, vs, h1, hF a h2, hH a _ h2 h3, ht, Reps.mono hF hH ds vs h4⟩
  | .lst ds, v, h => by
    obtain ⟨a, vs, h1, h2, h3, h4⟩ := h
    exact ⟨a, vs, h1, hF a h2, hH a _ h2 h3, Reps.mono hF hH ds vs h4⟩
  | .ty n, v, h => h
  | .scr ns, v, h => by
    obtain ⟨a, h1, h2⟩ := h
    refine ⟨a, h1, ?_⟩
    rcases h2 with ⟨h2, h3⟩ | h2
    · refine .inl ⟨hF a h2, ?_⟩
      rcases h3 with h3 | ⟨o, h3⟩
      · exact .inl (hH a _ h2 h3)
      · exact .inr ⟨o, hH a _ h2 h3⟩
    · exact .inr h2
  | .dk ks ds, v, h => by
    obtain ⟨a, vs, h1, h2, h3, h5, h4⟩ := h
    exact ⟨a, vs, h1, hF a h2, hH a _ h2 h3, h5, Reps.mono hF hH ds vs h4⟩
  | .w, v, h => h
theorem Reps.mono (hF : ∀ a, F a → F' a) (hH : ∀ a o, F a → H a = some o → H' a = some o) : ∀ (ds : List D) (vs : List V), Reps K F wa H ds vs → Reps K F' wa H' ds vs
  | [], vs, h => h
  | d :: ds, vs, h => by
    obtain ⟨v, r, h1, h2, h3⟩ := h
    exact ⟨v, r, h1, Rep.mono hF hH d v h2, Reps.mono hF hH ds r h3⟩
end
theorem Reps.len : ∀ {ds : List D} {vs : List V}, Reps K F wa H ds vs → ds.length = vs.length
  | [], vs, h => by
    have e : vs = [] := h
    rw [e]; rfl
  | d :: ds, vs, h => by
    obtain ⟨v, r, h1, _, h3⟩ := h
    rw [h1, List.length_cons, List.length_cons, Reps.len h3]
theorem Reps.at : ∀ {ds : List D} {vs : List V} {i : Nat} {d : D}, Reps K F wa H ds vs → ds[i]? = some d → ∃ v, vs[i]? = some v ∧ Rep K F wa H d v
  | [], _, _, _, _, e => by simp at e
  | d' :: ds, vs, 0, d, h, e => by
    obtain ⟨v, r, h1, h2, _⟩ := h
    simp at e; subst e; subst h1
    exact ⟨v, rfl, h2⟩
  | d' :: ds, vs, i + 1, d, h, e => by
    obtain ⟨v, r, h1, _, h3⟩ := h
    subst h1
    obtain ⟨v', e1, e2⟩ := Reps.at (i := i) h3 (by simpa using e)
    exact ⟨v', by simpa using e1, e2⟩
theorem Reps.at' : ∀ {ds : List D} {vs : List V} {i : Nat} {v : V}, Reps K F wa H ds vs → vs[i]? = some v → ∃ d, ds[i]? = some d ∧ Rep K F wa H d v := fun {ds vs i v} h e => by
  have hl := h.len
  have hi : i < vs.length := (List.getElem?_eq_some_iff.mp e).1
  obtain ⟨v', e1, r⟩ := h.at (i := i) (d := ds[i]'(by omega)) (by simp [show i < ds.length by omega])
  rw [e] at e1; cases e1
  exact ⟨_, by simp [show i < ds.length by omega], r⟩
theorem Reps.app : ∀ {ds es : List D} {vs us : List V}, Reps K F wa H ds vs → Reps K F wa H es us → Reps K F wa H (ds ++ es) (vs ++ us)
  | [], _, vs, _, h, g => by
    have e : vs = [] := h
    rw [e]; exact g
  | d :: ds, es, vs, us, h, g => by
    obtain ⟨v, r, h1, h2, h3⟩ := h
    subst h1
    exact ⟨v, r ++ us, rfl, h2, Reps.app h3 g⟩
theorem Reps.one {d : D} {v : V} (h : Rep K F wa H d v) : Reps K F wa H [d] [v] := ⟨v, [], rfl, h, rfl⟩
theorem Reps.take : ∀ {ds : List D} {vs : List V} (n : Nat), Reps K F wa H ds vs → Reps K F wa H (ds.take n) (vs.take n)
  | _, _, 0, _ => rfl
  | [], vs, n + 1, h => by
    have e : vs = [] := h
    rw [e]; rfl
  | d :: ds, vs, n + 1, h => by
    obtain ⟨v, r, h1, h2, h3⟩ := h
    subst h1
    exact ⟨v, r.take n, rfl, h2, Reps.take n h3⟩
theorem Reps.drop : ∀ {ds : List D} {vs : List V} (n : Nat), Reps K F wa H ds vs → Reps K F wa H (ds.drop n) (vs.drop n)
  | _, _, 0, h => h
  | [], vs, n + 1, h => by
    have e : vs = [] := h
    rw [e]; rfl
  | d :: ds, vs, n + 1, h => by
    obtain ⟨v, r, h1, h2, h3⟩ := h
    subst h1
    exact Reps.drop n h3
theorem Reps.ints : ∀ {ns : List Int}, Reps K F wa H (ns.map D.int) (ns.map V.int)
  | [] => rfl
  | n :: ns => ⟨.int n, ns.map V.int, rfl, rfl, Reps.ints⟩
theorem Reps.cons {d : D} {ds : List D} {v : V} {vs : List V} (h : Rep K F wa H d v) (t : Reps K F wa H ds vs) : Reps K F wa H (d :: ds) (v :: vs) := ⟨v, vs, rfl, h, t⟩
end

/-- as it stands now -/
def Cur (K : PySem.W.Frag) (F : Addr → Prop) (wa : Option Addr) (H : Hp) : D → V → Prop
  | .lst ds, v => ∃ a vs, v = .ref a ∧ H a = some (.lst vs) ∧ Reps K F wa H ds vs
  | .scr ns, v => ∃ a, v = .ref a ∧ SqL K H a (ns.map V.int)
  | .dk ks ds, v => ∃ a vs, v = .ref a ∧ H a = some (.dK (ks.zip vs)) ∧ ks.length = vs.length ∧ Reps K F wa H ds vs
  | d, v => Rep K F wa H d v
/-- one's own object at a -/
def OwnAt (K : PySem.W.Frag) (F : Addr → Prop) (wa : Option Addr) (H : Hp) (d : D) (a : Addr) : Prop :=
  ¬ F a ∧ wa ≠ some a ∧ ((∃ ds vs, d = .lst ds ∧ H a = some (.lst vs) ∧ Reps K F wa H ds vs) ∨ ∃ ks ds vs, d = .dk ks ds ∧ H a = some (.dK (ks.zip vs)) ∧ ks.length = vs.length ∧ Reps K F wa H ds vs)
def RS (K : PySem.W.Frag) (B F : Addr → Prop) (wa : Option Addr) (H0 H : Hp) (d : D) (st : O3) (v : V) : Prop := match st with
  | .fz => Rep K F wa H d v
  | .ow => ∃ a, v = .ref a ∧ OwnAt K F wa H d a ∧ H0 a = none
  | .bo => ∃ a, v = .ref a ∧ OwnAt K F wa H d a ∧ ¬ B a
def kDraws : Key := .inr "draws"
def kAt : Key := .inr "at"
def WOk (F : Addr → Prop) (wa : Option Addr) (H : Hp) (w : Option Wd) : Prop := match wa, w with
  | none, none => True
  | some a, some W => ¬ F a ∧ ∃ da, F da ∧ H a = some (.dK [(kDraws, .ref da), (kAt, .int W.ix)]) ∧ H da = some (.lst (W.draws.map V.int))
  | _, _ => False
structure Aft (K : PySem.W.Frag) (wa : Option Addr) (F : Addr → Prop) (H : Hp) (w' : Option Wd) (F' : Addr → Prop) (H' : Hp) : Prop where
  sub : ∀ a, F a → F' a
  new : ∀ a, F' a → F a ∨ H a = none
  keep : ∀ a o, H a = some o → wa ≠ some a → H' a = some o
  kf : ∀ a o, F a → H a = some o → H' a = some o
  dom : ∀ a, H' a = none → H a = none
  wk : WOk F' wa H' w'
  fd : ∀ a, F' a → H' a ≠ none
structure AftS (K : PySem.W.Frag) (B : Addr → Prop) (wa : Option Addr) (F : Addr → Prop) (H : Hp) (w' : Option Wd) (F' : Addr → Prop) (H' : Hp) : Prop where
  sub : ∀ a, F a → F' a
  new : ∀ a, F' a → F a ∨ ¬ B a
  keep : ∀ a o, H a = some o → B a → wa ≠ some a → H' a = some o
  kf : ∀ a o, F a → H a = some o → H' a = some o
  dom : ∀ a, H' a = none → H a = none
  wk : WOk F' wa H' w'
  fd : ∀ a, F' a → H' a ≠ none
structure SI (K : PySem.W.Frag) (B F : Addr → Prop) (wa : Option Addr) (H : Hp) (w : Option Wd) (σ : L2.St) (env : En) : Prop where
  len : env.length = σ.length
  fz : ∀ (i : Nat) d, env[i]? = some (some (d, false)) → ∃ v, σ[i]? = some (some v) ∧ Rep K F wa H d v
  ow : ∀ (i : Nat) d, env[i]? = some (some (d, true)) → ∃ a, σ[i]? = some (some (.ref a)) ∧ OwnAt K F wa H d a ∧ ¬ B a
  ne : ∀ (i j : Nat) d e a, i ≠ j → env[i]? = some (some (d, true)) → env[j]? = some (some (e, true)) → σ[i]? = some (some (.ref a)) → σ[j]? ≠ some (some (.ref a))
  wk : WOk F wa H w
  fd : ∀ a, F a → H a ≠ none
  bd : ∀ a, B a → H a ≠ none
section
variable {K : PySem.W.Frag} {B F F' F1 F2 : Addr → Prop} {wa : Option Addr} {H0 H H' H1 H2 : Hp} {w w' w1 w2 : Option Wd} {σ : L2.St} {env : En} {d : D} {st : O3} {v : V} {a : Addr}
theorem WOk.nf (h : WOk F wa H w) (e : wa = some a) : ¬ F a ∧ H a ≠ none := by
  subst e
  cases w with
  | none => exact h.elim
  | some W =>
    obtain ⟨h1, da, _, h2, _⟩ := h
    exact ⟨h1, by rw [h2]; simp⟩
theorem WOk.ne (h : WOk F wa H w) (e : H a = none) : wa ≠ some a := fun z => (h.nf z).2 e
theorem Aft.refl (wk : WOk F wa H w) (fd : ∀ a, F a → H a ≠ none) : Aft K wa F H w F H := ⟨fun _ h => h, fun _ h => .inl h, fun _ _ h _ => h, fun _ _ _ h => h, fun _ h => h, wk, fd⟩
theorem Aft.trans (a : Aft K wa F H w1 F1 H1) (b : Aft K wa F1 H1 w2 F2 H2) : Aft K wa F H w2 F2 H2 where
  sub := fun x h => b.sub x (a.sub x h)
  new := fun x h => by
    rcases b.new x h with h | h
    · exact a.new x h
    · exact .inr (a.dom x h)
  keep := fun x o h e => b.keep x o (a.keep x o h e) e
  kf := fun x o f h => b.kf x o (a.sub x f) (a.kf x o f h)
  dom := fun x h => a.dom x (b.dom x h)
  wk := b.wk
  fd := b.fd
theorem Aft.rep (a : Aft K wa F H w1 F1 H1) (h : Rep K F wa H d v) : Rep K F1 wa H1 d v := Rep.mono a.sub a.kf d v h
theorem Aft.reps {ds : List D} {vs : List V} (a : Aft K wa F H w1 F1 H1) (h : Reps K F wa H ds vs) : Reps K F1 wa H1 ds vs := Reps.mono a.sub a.kf ds vs h
theorem OwnAt.some (h : OwnAt K F wa H d a) : ∃ o, H a = some o := by
  obtain ⟨_, _, h | h⟩ := h
  · obtain ⟨_, _, _, h, _⟩ := h; exact ⟨_, h⟩
  · obtain ⟨_, _, _, _, h, _⟩ := h; exact ⟨_, h⟩
theorem OwnAt.aft (A : Aft K wa F H w1 F1 H1) (h : OwnAt K F wa H d a) : OwnAt K F1 wa H1 d a := by
  obtain ⟨o, ho⟩ := h.some
  obtain ⟨h1, h2, h3⟩ := h
  refine ⟨fun z => ?_, h2, ?_⟩
  · rcases A.new a z with z | z
    · exact h1 z
    · rw [ho] at z; cases z
  · rcases h3 with ⟨ds, vs, e, h, r⟩ | ⟨ks, ds, vs, e, h, l, r⟩
    · exact .inl ⟨ds, vs, e, A.keep a _ h h2, A.reps r⟩
    · exact .inr ⟨ks, ds, vs, e, A.keep a _ h h2, l, A.reps r⟩
theorem RS.aft (A : Aft K wa F H w1 F1 H1) (h : RS K B F wa H0 H d st v) : RS K B F1 wa H0 H1 d st v := by
  cases st with
  | fz => exact A.rep h
  | ow => obtain ⟨a, e, o, z⟩ := h; exact ⟨a, e, o.aft A, z⟩
  | bo => obtain ⟨a, e, o, z⟩ := h; exact ⟨a, e, o.aft A, z⟩
/-- the earlier start -/
theorem RS.back (A : Aft K wa F' H' w1 F1 H1) (h : RS K B F2 wa H1 H2 d st v) : RS K B F2 wa H' H2 d st v := by
  cases st with
  | fz => exact h
  | ow => obtain ⟨a, e, o, z⟩ := h; exact ⟨a, e, o, A.dom a z⟩
  | bo => exact h
theorem Rep.cur (h : Rep K F wa H d v) : Cur K F wa H d v := by
  cases d with
  | lst ds => obtain ⟨a, vs, e, _, h, r⟩ := h; exact ⟨a, vs, e, h, r⟩
  | scr ns =>
    obtain ⟨a, e, h⟩ := h
    refine ⟨a, e, ?_⟩
    rcases h with ⟨_, h⟩ | h
    · exact .inl h
    · exact .inr h
  | dk ks ds => obtain ⟨a, vs, e, _, h, l, r⟩ := h; exact ⟨a, vs, e, h, l, r⟩
  | _ => exact h
theorem OwnAt.cur (h : OwnAt K F wa H d a) : Cur K F wa H d (.ref a) := by
  obtain ⟨_, _, ⟨ds, vs, e, h, r⟩ | ⟨ks, ds, vs, e, h, l, r⟩⟩ := h
  · subst e; exact ⟨a, vs, rfl, h, r⟩
  · subst e; exact ⟨a, vs, rfl, h, l, r⟩
theorem RS.cur (h : RS K B F wa H0 H d st v) : Cur K F wa H d v := by
  cases st with
  | fz => exact Rep.cur h
  | ow => obtain ⟨a, e, o, z⟩ := h; subst e; exact o.cur
  | bo => obtain ⟨a, e, o, z⟩ := h; subst e; exact o.cur
/-- a new object at p; F' with p or without -/
theorem Aft.new1 {p : Addr} {o : HO} (wk : WOk F wa H w) (fd : ∀ a, F a → H a ≠ none) (hp : H p = none) : Aft K wa F H w (fun a => F a ∨ a = p) (upd H p o) where
  sub := fun _ h => .inl h
  new := fun a h => by
    rcases h with h | h
    · exact .inl h
    · subst h; exact .inr hp
  keep := fun a u h _ => by rw [upd_ne (ne_of_none h hp)]; exact h
  kf := fun a u _ h => by rw [upd_ne (ne_of_none h hp)]; exact h
  dom := fun a h => by
    by_cases e : a = p
    · subst e; exact hp
    · rw [upd_ne e] at h; exact h
  wk := by
    cases wa with
    | none => cases w with
      | none => trivial
      | some W => exact wk
    | some x => cases w with
      | none => exact wk
      | some W =>
        obtain ⟨h1, da, h2, h3, h4⟩ := wk
        refine ⟨fun z => ?_, da, .inl h2, ?_, ?_⟩
        · rcases z with z | z
          · exact h1 z
          · subst z; rw [hp] at h3; cases h3
        · rw [upd_ne (ne_of_none h3 hp)]; exact h3
        · rw [upd_ne (ne_of_none h4 hp)]; exact h4
  fd := fun a h => by
    by_cases e : a = p
    · subst e; rw [upd_same]; simp
    · rw [upd_ne e]
      rcases h with h | h
      · exact fd a h
      · exact absurd h e
theorem Aft.new0 {p : Addr} {o : HO} (wk : WOk F wa H w) (fd : ∀ a, F a → H a ≠ none) (hp : H p = none) : Aft K wa F H w F (upd H p o) := by
  have A := Aft.new1 (K := K) (o := o) wk fd hp
  refine ⟨fun _ h => h, fun _ h => .inl h, A.keep, A.kf, A.dom, ?_, fun a h => A.fd a (.inl h)⟩
  cases wa with
  | none => cases w with
    | none => trivial
    | some W => exact wk
  | some x => cases w with
    | none => exact wk
    | some W =>
      obtain ⟨h1, da, h2, h3, h4⟩ := wk
      refine ⟨h1, da, h2, ?_, ?_⟩
      · rw [upd_ne (ne_of_none h3 hp)]; exact h3
      · rw [upd_ne (ne_of_none h4 hp)]; exact h4
theorem SI.aft (S : SI K B F wa H w σ env) (A : Aft K wa F H w1 F1 H1) : SI K B F1 wa H1 w1 σ env where
  len := S.len
  fz := fun i d e => by
    obtain ⟨v, h, r⟩ := S.fz i d e
    exact ⟨v, h, A.rep r⟩
  ow := fun i d e => by
    obtain ⟨a, h, o, b⟩ := S.ow i d e
    exact ⟨a, h, o.aft A, b⟩
  ne := S.ne
  wk := A.wk
  fd := A.fd
  bd := fun a b e => S.bd a b (A.dom a e)
theorem Aft.toS (A : Aft K wa F H w1 F1 H1) (bd : ∀ a, B a → H a ≠ none) : AftS K B wa F H w1 F1 H1 :=
  ⟨A.sub, fun a h => (A.new a h).elim .inl fun z => .inr fun b => bd a b z, fun a o h _ e => A.keep a o h e, A.kf, A.dom, A.wk, A.fd⟩
theorem AftS.refl (wk : WOk F wa H w) (fd : ∀ a, F a → H a ≠ none) : AftS K B wa F H w F H := ⟨fun _ h => h, fun _ h => .inl h, fun _ _ h _ _ => h, fun _ _ _ h => h, fun _ h => h, wk, fd⟩
theorem AftS.trans (a : AftS K B wa F H w1 F1 H1) (b : AftS K B wa F1 H1 w2 F2 H2) : AftS K B wa F H w2 F2 H2 where
  sub := fun x h => b.sub x (a.sub x h)
  new := fun x h => (b.new x h).elim (a.new x) .inr
  keep := fun x o h e z => b.keep x o (a.keep x o h e z) e z
  kf := fun x o f h => b.kf x o (a.sub x f) (a.kf x o f h)
  dom := fun x h => a.dom x (b.dom x h)
  wk := b.wk
  fd := b.fd
/-- one's own new object is frozen -/
theorem OwnAt.freeze (wk : WOk F wa H w) (fd : ∀ a, F a → H a ≠ none) (h : OwnAt K F wa H d a) : WOk (fun b => F b ∨ b = a) wa H w ∧ (∀ b, F b ∨ b = a → H b ≠ none) ∧ Rep K (fun b => F b ∨ b = a) wa H d (.ref a) := by
  obtain ⟨o, ho⟩ := h.some
  obtain ⟨h1, h2, h3⟩ := h
  refine ⟨?_, fun b z => ?_, ?_⟩
  · cases wa with
    | none => cases w with
      | none => trivial
      | some W => exact wk
    | some x => cases w with
      | none => exact wk
      | some W =>
        obtain ⟨g1, da, g2, g3, g4⟩ := wk
        exact ⟨fun z => z.elim g1 fun e => h2 (by rw [e]), da, .inl g2, g3, g4⟩
  · rcases z with z | z
    · exact fd b z
    · subst z; rw [ho]; simp
  · have m : ∀ ds vs, Reps K F wa H ds vs → Reps K (fun b => F b ∨ b = a) wa H ds vs := fun ds vs r => Reps.mono (fun _ z => .inl z) (fun _ _ _ z => z) ds vs r
    rcases h3 with ⟨ds, vs, e, h, r⟩ | ⟨ks, ds, vs, e, h, l, r⟩
    · subst e; exact ⟨a, vs, rfl, .inr rfl, h, m _ _ r⟩
    · subst e; exact ⟨a, vs, rfl, .inr rfl, h, l, m _ _ r⟩
theorem RS.freeze (A : Aft K wa F H w1 F1 H1) (h : RS K B F1 wa H H1 d .ow v) : ∃ F2, Aft K wa F H w1 F2 H1 ∧ Rep K F2 wa H1 d v := by
  obtain ⟨a, e, o, z⟩ := h
  subst e
  obtain ⟨k, f, r⟩ := o.freeze A.wk A.fd
  exact ⟨_, ⟨fun x h => .inl (A.sub x h), fun x h => h.elim (A.new x) fun e => .inr (by rw [e]; exact z), A.keep, A.kf, A.dom, k, f⟩, r⟩
end

/-! ### expressions -/
def rd (K : PySem.W.Frag) (f : EF) : TE := fun σ H Q => ∃ B F wa w env, SI K B F wa H w σ env ∧ ∃ d st w', f env w = some ((d, st), w') ∧ ∀ v F' H', Aft K wa F H w' F' H' → RS K B F' wa H H' d st v → Q v H'
def Snd (X : Cx) (e : Expr) (f : EF) : Prop := PE X e (rd X.K f)
def RSp (K : PySem.W.Frag) (B F : Addr → Prop) (wa : Option Addr) (H0 H : Hp) (ds : List DS) (vs : List V) : Prop := Paired (fun (p : DS) v => RS K B F wa H0 H p.1 p.2 v) ds vs
/-- new objects are not one and the same -/
def Apart : List DS → List V → Prop
  | (_, st) :: ds, v :: vs => (st = .ow → ∀ p ∈ ds.zip vs, p.1.2 = .ow → p.2 ≠ v) ∧ Apart ds vs
  | _, _ => True
def RSs (K : PySem.W.Frag) (B F : Addr → Prop) (wa : Option Addr) (H0 H : Hp) (ds : List DS) (vs : List V) : Prop := RSp K B F wa H0 H ds vs ∧ Apart ds vs
def rdA (K : PySem.W.Frag) (f : EA) : TA := fun σ H Q => ∃ B F wa w env, SI K B F wa H w σ env ∧ ∃ ds w', f env w = some (ds, w') ∧ ∀ vs F' H', Aft K wa F H w' F' H' → RSs K B F' wa H H' ds vs → Q vs H'
def SndA (X : Cx) (es : List Expr) (f : EA) : Prop := PA X es (rdA X.K f)
def rdT (K : PySem.W.Frag) (f : ET) : TT := fun σ H Q => ∃ B F wa w env, SI K B F wa H w σ env ∧ ∃ b w', f env w = some (b, w') ∧ ∀ F' H', Aft K wa F H w' F' H' → Q b H'
def SndT (X : Cx) (e : Expr) (f : ET) : Prop := PT X e (rdT X.K f)
def SndW (X : Cx) (e : Expr) (f : ET) : Prop := PW X e (rdT X.K f)
theorem pe_imp {X : Cx} {e : Expr} {t t' : TE} (h : PE X e t) (k : ∀ σ H Q, t' σ H Q → t σ H Q) : PE X e t' := ⟨fun pins s σ H Q I q => h.run pins s σ H Q I (k _ _ _ q)⟩
theorem pa_imp {X : Cx} {es : List Expr} {t t' : TA} (h : PA X es t) (k : ∀ σ H Q, t' σ H Q → t σ H Q) : PA X es t' := ⟨fun pos pins s σ H Q I q => h.run pos pins s σ H Q I (k _ _ _ q)⟩
theorem pt_imp {X : Cx} {e : Expr} {t t' : TT} (h : PT X e t) (k : ∀ σ H Q, t' σ H Q → t σ H Q) : PT X e t' := ⟨fun pins s σ H Q I q => h.run pins s σ H Q I (k _ _ _ q)⟩
theorem pw_imp {X : Cx} {e : Expr} {t t' : TT} (h : PW X e t) (k : ∀ σ H Q, t' σ H Q → t σ H Q) : PW X e t' := ⟨fun wh pins s σ H Q I q => h.run wh pins s σ H Q I (k _ _ _ q)⟩
theorem ps_imp {X : Cx} {st : Stmt} {t t' : TS} (h : PS X st t) (k : ∀ D σ H, t' D σ H → t D σ H) : PS X st t' := ⟨fun pins s σ H D I q => h.run pins s σ H D I (k _ _ _ q)⟩
theorem pss_imp {X : Cx} {st : List Stmt} {t t' : TS} (h : PSs X st t) (k : ∀ D σ H, t' D σ H → t D σ H) : PSs X st t' := ⟨fun pins s σ H D I q => h.run pins s σ H D I (k _ _ _ q)⟩
theorem pi_imp {X : Cx} {tg e : Expr} {t t' : TI} (h : PI X tg e t) (k : ∀ σ H R, t' σ H R → t σ H R) : PI X tg e t' := ⟨fun pins s σ H R I q => h.run pins s σ H R I (k _ _ _ q)⟩
end Dl

set_option Elab.async false
set_option linter.all false
set_option maxRecDepth 100000
set_option maxHeartbeats 4000000
namespace Dl
open PySem PySem.Spec PyProof.Rows L2
/-! ### the forms of expressions -/
def eVar (i : Nat) : EF := fun env w => match env[i]? with
  | some (some (d, false)) => some ((d, .fz), w)
  | some (some (d, true)) => some ((d, .bo), w)
  | _ => none
def eC (d : D) : EF := fun _ w => some ((d, .fz), w)
def eFz (f : EF) : EF := fun env w => (f env w).bind fun p => match p.1.2 with
  | .bo => none
  | _ => some ((p.1.1, .fz), p.2)
def eOp (g : D → D → Option DS) (f1 f2 : EF) : EF := fun env w => (f1 env w).bind fun p => (f2 env p.2).bind fun q => (g p.1.1 q.1.1).map fun r => (r, q.2)
def eUn (g : D → Option DS) (f1 : EF) : EF := fun env w => (f1 env w).bind fun p => (g p.1.1).map fun r => (r, p.2)
def aNil : EA := fun _ w => some ([], w)
def aCons (f : EF) (g : EA) : EA := fun env w => (f env w).bind fun p => (g env p.2).bind fun q => some (p.1 :: q.1, q.2)
def eA (g : List D → Option DS) (f : EA) : EF := fun env w => (f env w).bind fun p => (g (p.1.map (·.1))).map fun r => (r, p.2)
def allFz (ds : List DS) : Bool := ds.all fun p => p.2 == .fz
def eTup (f : EA) : EF := fun env w => (f env w).bind fun p => if allFz p.1 = true ∧ p.1.length ≤ 1000 then some ((.tup (p.1.map (·.1)), .fz), p.2) else none
def eLst (f : EA) : EF := fun env w => (f env w).bind fun p => if allFz p.1 = true ∧ p.1.length ≤ 1000 then some ((.lst (p.1.map (·.1)), .ow), p.2) else none
def eCall (F : Fn) (f : EA) : EF := fun env w => (f env w).bind fun p => if allFz p.1 = true then F (p.1.map (·.1)) p.2 else none
def eIf (t : ET) (f g : EF) : EF := fun env w => (t env w).bind fun p => if p.1 = true then f env p.2 else g env p.2
def truD : D → Option Bool
  | .non => some false
  | .bl b => some b
  | .int i => some (i != 0)
  | .str x => if x.length ≤ 100000 then some ((x.length : Int) != 0) else none
  | .tup ds => some (!ds.isEmpty)
  | .lst ds => some (!ds.isEmpty)
  | .dk _ ds => some (!ds.isEmpty)
  | _ => none
def eNot (f : EF) : EF := fun env w => (f env w).bind fun p => (truD p.1.1).map fun b => ((.bl (!b), .fz), p.2)
def eAnd (f g : EF) : EF := fun env w => (f env w).bind fun p => (truD p.1.1).bind fun b => if b = true then g env p.2 else some p
def eOr (f g : EF) : EF := fun env w => (f env w).bind fun p => (truD p.1.1).bind fun b => if b = true then some p else g env p.2
def tVal (f : EF) : ET := fun env w => (f env w).bind fun p => match p.1.1 with
  | .bl b => some (b, p.2)
  | _ => none
def tTru (f : EF) : ET := fun env w => (f env w).bind fun p => (truD p.1.1).map fun b => (b, p.2)
def tAn (f g : ET) : ET := fun env w => (f env w).bind fun p => if p.1 = true then g env p.2 else some (false, p.2)
def tOrr (f g : ET) : ET := fun env w => (f env w).bind fun p => if p.1 = true then some (true, p.2) else g env p.2
def tNo (f : ET) : ET := fun env w => (f env w).bind fun p => some (!p.1, p.2)
def oNone : En → Option Wd → Option (Option Int × Option Wd) := fun _ w => some (none, w)
def oSome (f : EF) : En → Option Wd → Option (Option Int × Option Wd) := fun env w => (f env w).bind fun p => match p.1.1 with
  | .int i => some (some i, p.2)
  | _ => none
def eSl (g : D → Option Int → Option Int → Option DS) (f : EF) (l h : En → Option Wd → Option (Option Int × Option Wd)) : EF := fun env w =>
  (f env w).bind fun p => (l env p.2).bind fun q => (h env q.2).bind fun r => (g p.1.1 q.1 r.1).map fun d => (d, r.2)

/-! ### what an operation's reading must do over data -/
def Res (K : PySem.W.Frag) (wa : Option Addr) (w : Option Wd) (F : Addr → Prop) (H : Hp) (d : D) (st : O3) (Q : VK) : Prop := ∀ v F' H', Aft K wa F H w F' H' → RS K (fun _ => True) F' wa H H' d st v → Q v H'
def OpS (K : PySem.W.Frag) (r : R2) (g : D → D → Option DS) : Prop := ∀ wa w F H x y d st v1 v2, WOk F wa H w → (∀ a, F a → H a ≠ none) → Cur K F wa H x v1 → Cur K F wa H y v2 → g x y = some (d, st) → ∀ Q : VK, Res K wa w F H d st Q → r v1 v2 H Q
def UnS (K : PySem.W.Frag) (r : V → Hp → VK → Prop) (g : D → Option DS) : Prop := ∀ wa w F H x d st v1, WOk F wa H w → (∀ a, F a → H a ≠ none) → Cur K F wa H x v1 → g x = some (d, st) → ∀ Q : VK, Res K wa w F H d st Q → r v1 H Q
def CurS (K : PySem.W.Frag) (F : Addr → Prop) (wa : Option Addr) (H : Hp) (ds : List D) (vs : List V) : Prop := Paired (Cur K F wa H) ds vs
def CallS (K : PySem.W.Frag) (r : List V → Hp → VK → Prop) (g : List D → Option DS) : Prop := ∀ wa w F H ds d st vs, WOk F wa H w → (∀ a, F a → H a ≠ none) → CurS K F wa H ds vs → g ds = some (d, st) → ∀ Q : VK, Res K wa w F H d st Q → r vs H Q
def SlS (K : PySem.W.Frag) (r : V → Option Int → Option Int → Hp → VK → Prop) (g : D → Option Int → Option Int → Option DS) : Prop := ∀ wa w F H x lo hi d st v1, WOk F wa H w → (∀ a, F a → H a ≠ none) → Cur K F wa H x v1 → g x lo hi = some (d, st) → ∀ Q : VK, Res K wa w F H d st Q → r v1 lo hi H Q

section
variable {K : PySem.W.Frag} {B F F' F1 F2 : Addr → Prop} {wa : Option Addr} {H0 H H' H1 H2 : Hp} {w w' w1 w2 : Option Wd} {σ : L2.St} {env : En} {d : D} {st : O3} {v : V} {a : Addr} {Q : VK}
theorem RS.anyB (h : RS K (fun _ => True) F wa H0 H d st v) : RS K B F wa H0 H d st v := by
  cases st with
  | fz => exact h
  | ow => exact h
  | bo => obtain ⟨_, _, _, z⟩ := h; exact (z trivial).elim
theorem Res.fz (wk : WOk F wa H w) (fd : ∀ a, F a → H a ≠ none) (h : Res K wa w F H d .fz Q) (r : Rep K F wa H d v) : Q v H := h v F H (Aft.refl wk fd) r
theorem Res.tup (wk : WOk F wa H w) (fd : ∀ a, F a → H a ≠ none) {ds : List D} {vs : List V} (h : Res K wa w F H (.tup ds) .fz Q) (r : Reps K F wa H ds vs) {p : Addr} {u : HO} (hp : H p = none) (ht : TupO u vs) : Q (.ref p) (upd H p u) := by
  have A := Aft.new1 (K := K) (o := u) wk fd hp
  exact h _ _ _ A ⟨p, u, vs, rfl, .inr rfl, upd_same, ht, A.reps r⟩
theorem Res.lst (wk : WOk F wa H w) (fd : ∀ a, F a → H a ≠ none) {ds : List D} {vs : List V} (h : Res K wa w F H (.lst ds) .ow Q) (r : Reps K F wa H ds vs) {p : Addr} (hp : H p = none) : Q (.ref p) (upd H p (.lst vs)) := by
  have A := Aft.new0 (K := K) (o := .lst vs) wk fd hp
  exact h _ _ _ A ⟨p, rfl, ⟨fun z => fd p z hp, wk.ne hp, .inl ⟨ds, vs, rfl, upd_same, A.reps r⟩⟩, hp⟩
theorem Res.dk (wk : WOk F wa H w) (fd : ∀ a, F a → H a ≠ none) {ks : List Key} {ds : List D} {vs : List V} (h : Res K wa w F H (.dk ks ds) .ow Q) (r : Reps K F wa H ds vs) (hl : ks.length = vs.length) {p : Addr} (hp : H p = none) : Q (.ref p) (upd H p (.dK (ks.zip vs))) := by
  have A := Aft.new0 (K := K) (o := .dK (ks.zip vs)) wk fd hp
  exact h _ _ _ A ⟨p, rfl, ⟨fun z => fd p z hp, wk.ne hp, .inr ⟨ks, ds, vs, rfl, upd_same, hl, A.reps r⟩⟩, hp⟩
/-- what comes behind what came -/
theorem Res.behind (S : SI K B F wa H w σ env) (A : Aft K wa F H w1 F1 H1) (k : ∀ v F' H', Aft K wa F H w1 F' H' → RS K B F' wa H H' d st v → Q v H') : Res K wa w1 F1 H1 d st Q := fun v F' H' A' r => k v F' H' (A.trans A') (r.anyB.back A)
end

section
variable {X : Cx} {e e1 e2 a b c : Expr} {es : List Expr} {f f1 f2 fa fb fc : EF} {g : D → D → Option DS} {pos : Pos}
theorem e_var (i : Nat) {x : Str} {pos : Pos} (hN : X.N[i]? = some x := by rfl) (hv : Vis X.env.scope x := by first | exact Or.inl rfl | exact Or.inr (Or.inl rfl) | exact Or.inr (Or.inr rfl)) (hd : (x == ("__debug__" : Str)) = false := by decide)
    (hcd : (x == ("__classdict__" : Str)) = false := by decide) : Snd X (.Name x pos) (eVar i) := by
  refine pe_imp (pe_var hN hv hd hcd) fun σ H Q q => ?_
  obtain ⟨B, F, wa, w, env, S, d, st, w', hf, k⟩ := q
  unfold eVar at hf
  split at hf
  · rename_i d' e
    cases hf
    obtain ⟨v, h1, r⟩ := S.fz i _ e
    exact ⟨v, h1, k v F H (Aft.refl S.wk S.fd) r⟩
  · rename_i d' e
    cases hf
    obtain ⟨a, h1, o, nb⟩ := S.ow i _ e
    exact ⟨.ref a, h1, k _ F H (Aft.refl S.wk S.fd) ⟨a, rfl, o, nb⟩⟩
  · cases hf
theorem e_c {e : Expr} {v : V} {d : D} (h : PE X e (tC v)) (r : ∀ F wa H, Rep X.K F wa H d v) : Snd X e (eC d) := by
  refine pe_imp h fun σ H Q q => ?_
  obtain ⟨B, F, wa, w, env, S, d, st, w', hf, k⟩ := q
  cases hf
  exact k v F H (Aft.refl S.wk S.fd) (r _ _ _)
theorem e_int {i j pos} : Snd X (.Constant (.int i) j pos) (eC (.int i)) := e_c pe_int fun _ _ _ => rfl
theorem e_bl {i j pos} : Snd X (.Constant (.bool i) j pos) (eC (.bl i)) := e_c pe_bl fun _ _ _ => rfl
theorem e_non {j pos} : Snd X (.Constant .none j pos) (eC .non) := e_c pe_non fun _ _ _ => rfl
theorem e_str {i j pos} : Snd X (.Constant (.str i) j pos) (eC (.str i)) := e_c pe_str fun _ _ _ => rfl
theorem e_fz (h : Snd X e f) : Snd X e (eFz f) := by
  refine pe_imp h fun σ H Q q => ?_
  obtain ⟨B, F, wa, w, env, S, d, st, w', hf, k⟩ := q
  unfold eFz at hf
  obtain ⟨⟨⟨d1, st1⟩, w1⟩, h1, h2⟩ := Option.bind_eq_some_iff.mp hf
  refine ⟨B, F, wa, w, env, S, d1, st1, w1, h1, fun v F' H' A r => ?_⟩
  cases st1 with
  | fz => cases h2; exact k v F' H' A r
  | ow =>
    cases h2
    obtain ⟨F2, A2, r2⟩ := RS.freeze A r
    exact k v F2 H' A2 r2
  | bo => cases h2
theorem tOp_of {K : PySem.W.Frag} {r : R2} (hg : OpS K r g) {σ : L2.St} {H : Hp} {Q : VK} (q : rd K (eOp g f1 f2) σ H Q) : tOp r (rd K f1) (rd K f2) σ H Q := by
  obtain ⟨B, F, wa, w, env, S, d, st, w', hf, k⟩ := q
  unfold eOp at hf
  obtain ⟨⟨⟨d1, st1⟩, w1⟩, h1, h2⟩ := Option.bind_eq_some_iff.mp hf
  obtain ⟨⟨⟨d2, st2⟩, w2⟩, h3, h4⟩ := Option.bind_eq_some_iff.mp h2
  obtain ⟨⟨d3, st3⟩, h5, h6⟩ := Option.map_eq_some_iff.mp h4
  cases h6
  refine ⟨B, F, wa, w, env, S, d1, st1, w1, h1, fun v1 F1 H1 A1 r1 => ?_⟩
  refine ⟨B, F1, wa, w1, env, S.aft A1, d2, st2, _, h3, fun v2 F2 H2 A2 r2 => ?_⟩
  exact hg wa _ F2 H2 d1 d2 d st v1 v2 A2.wk A2.fd (r1.aft A2).cur r2.cur h5 Q (Res.behind S (A1.trans A2) k)
theorem e_op {op : Operator} {r : R2} (ho : OpR X (binaryOp op) r) (hg : OpS X.K r g) (ha : Snd X a fa) (hb : Snd X b fb) : Snd X (.BinOp a op b pos) (eOp g fa fb) := pe_imp (pe_op ho ha hb) fun _ _ _ q => tOp_of hg q
theorem e_cmp {op : CmpOp} {r : R2} (ho : OpR X (compareOp op) r) (hg : OpS X.K r g) (hm : behindInMarks op b = false) (ha : Snd X a fa) (hb : Snd X b fb) : Snd X (.Compare a [op] [b] pos) (eOp g fa fb) := pe_imp (pe_cmpR ho ha hb hm) fun _ _ _ q => tOp_of hg q
theorem e_ix {r : R2} (hr : IxR X r) (hg : OpS X.K r g) (ha : Snd X a fa) (hb : Snd X b fb) (hs : PlainIx b := by exact fun _ _ => rfl) : Snd X (.Subscript a b pos) (eOp g fa fb) := pe_imp (pe_ix hr ha hb hs) fun _ _ _ q => tOp_of hg q
theorem e_un {op : UnaryOp} {r : V → Hp → VK → Prop} {g : D → Option DS} (ho : UnR X (unaryOp op) r) (hg : UnS X.K r g) (ha : Snd X a fa) : Snd X (.UnaryOp op a pos) (eUn g fa) := by
  refine pe_imp (pe_un ho ha) fun σ H Q q => ?_
  obtain ⟨B, F, wa, w, env, S, d, st, w', hf, k⟩ := q
  unfold eUn at hf
  obtain ⟨⟨⟨d1, st1⟩, w1⟩, h1, h2⟩ := Option.bind_eq_some_iff.mp hf
  obtain ⟨⟨d3, st3⟩, h5, h6⟩ := Option.map_eq_some_iff.mp h2
  cases h6
  refine ⟨B, F, wa, w, env, S, d1, st1, _, h1, fun v1 F1 H1 A1 r1 => ?_⟩
  exact hg wa _ F1 H1 d1 d st v1 A1.wk A1.fd r1.cur h5 Q (Res.behind S A1 k)
theorem a_nil : SndA X [] aNil := by
  refine pa_imp pa_nil fun σ H Q q => ?_
  obtain ⟨B, F, wa, w, env, S, ds, w', hf, k⟩ := q
  cases hf
  exact k [] F H (Aft.refl S.wk S.fd) ⟨.nil, trivial⟩
theorem Apart.nil : Apart [] [] := trivial
theorem RSs.aft0 {K : PySem.W.Frag} {B F F1 : Addr → Prop} {wa : Option Addr} {H0 H H1 : Hp} {w1 : Option Wd} (A : Aft K wa F H w1 F1 H1) : ∀ {ds : List DS} {vs : List V}, RSp K B F wa H0 H ds vs → RSp K B F1 wa H0 H1 ds vs
  | _, _, .nil => .nil
  | _, _, .cons r t => .cons (r.aft A) (RSs.aft0 A t)
theorem RSs.back0 {K : PySem.W.Frag} {B F1 F' F2 : Addr → Prop} {wa : Option Addr} {H' H1 H2 : Hp} {w1 : Option Wd} (A : Aft K wa F' H' w1 F1 H1) : ∀ {ds : List DS} {vs : List V}, RSp K B F2 wa H1 H2 ds vs → RSp K B F2 wa H' H2 ds vs
  | _, _, .nil => .nil
  | _, _, .cons r t => .cons (r.back A) (RSs.back0 A t)
theorem RSp.cur {K : PySem.W.Frag} {B F : Addr → Prop} {wa : Option Addr} {H0 H : Hp} : ∀ {ds : List DS} {vs : List V}, RSp K B F wa H0 H ds vs → CurS K F wa H (ds.map (·.1)) vs
  | _, _, .nil => .nil
  | _, _, .cons r t => .cons r.cur (RSp.cur t)
theorem RSp.reps {K : PySem.W.Frag} {B F : Addr → Prop} {wa : Option Addr} {H0 H : Hp} : ∀ {ds : List DS} {vs : List V}, RSp K B F wa H0 H ds vs → allFz ds = true → Reps K F wa H (ds.map (·.1)) vs
  | _, _, .nil, _ => rfl
  | ⟨d, st⟩ :: ds, v :: vs, .cons r t, h => by
    have h' : (st == O3.fz) = true ∧ allFz ds = true := by simpa [allFz] using h
    have e : st = .fz := by simpa using h'.1
    subst e
    exact ⟨v, vs, rfl, r, RSp.reps t h'.2⟩
theorem RSs.len {K : PySem.W.Frag} {B F : Addr → Prop} {wa : Option Addr} {H0 H : Hp} {ds : List DS} {vs : List V} (h : RSs K B F wa H0 H ds vs) : ds.length = vs.length := Paired.length h.1
theorem RSs.cur {K : PySem.W.Frag} {B F : Addr → Prop} {wa : Option Addr} {H0 H : Hp} {ds : List DS} {vs : List V} (h : RSs K B F wa H0 H ds vs) : CurS K F wa H (ds.map (·.1)) vs := h.1.cur
theorem RSs.reps {K : PySem.W.Frag} {B F : Addr → Prop} {wa : Option Addr} {H0 H : Hp} {ds : List DS} {vs : List V} (h : RSs K B F wa H0 H ds vs) (ha : allFz ds = true) : Reps K F wa H (ds.map (·.1)) vs := h.1.reps ha
theorem RSp.new {K : PySem.W.Frag} {B F : Addr → Prop} {wa : Option Addr} {H0 H : Hp} : ∀ {ds : List DS} {vs : List V}, RSp K B F wa H0 H ds vs → ∀ p ∈ ds.zip vs, p.1.2 = .ow → ∃ b, p.2 = .ref b ∧ H0 b = none
  | _, _, .nil, p, hp, _ => by cases hp
  | ⟨d, st⟩ :: ds, v :: vs, .cons r t, p, hp, e => by
    rcases List.mem_cons.mp hp with rfl | hp
    · cases (show st = .ow from e)
      obtain ⟨a, e, _, z⟩ := r
      exact ⟨a, e, z⟩
    · exact RSp.new t p hp e
theorem a_cons {ga : EA} (ha : Snd X e f) (hr : SndA X es ga) (hs : starEach (e :: es) X.env = (false, eval e X.env) :: starEach es X.env := by rfl) : SndA X (e :: es) (aCons f ga) := by
  refine pa_imp (pa_cons ha hr hs) fun σ H Q q => ?_
  obtain ⟨B, F, wa, w, env, S, ds, w', hf, k⟩ := q
  unfold aCons at hf
  obtain ⟨⟨⟨d1, st1⟩, w1⟩, h1, h2⟩ := Option.bind_eq_some_iff.mp hf
  obtain ⟨⟨ds2, w2⟩, h3, h4⟩ := Option.bind_eq_some_iff.mp h2
  cases h4
  refine ⟨B, F, wa, w, env, S, d1, st1, w1, h1, fun v1 F1 H1 A1 r1 => ?_⟩
  refine ⟨B, F1, wa, w1, env, S.aft A1, ds2, _, h3, fun vs F2 H2 A2 r2 => ?_⟩
  refine k _ F2 H2 (A1.trans A2) ⟨.cons (r1.aft A2) (RSs.back0 A1 r2.1), ?_, r2.2⟩
  intro e p hp ep
  subst e
  obtain ⟨b, eb, zb⟩ := r2.1.new p hp ep
  obtain ⟨a, ea, oa, _⟩ := r1
  obtain ⟨u, hu⟩ := oa.some
  subst ea
  rw [eb]
  intro z
  cases z
  rw [hu] at zb; cases zb
/-- a new tuple, as it stands -/
def tTupF (t : TA) : TE := fun σ H Q => t σ H fun xs H1 => xs.length ≤ sizeLine ∧ ∀ p u, H1 p = none → TupO u xs → Q (.ref p) (upd H1 p u)
theorem tup_laid {pins : List (Addr × Obj)} {σ : L2.St} {H : Hp} {s : Shared} {t' : Nat} {xs : List V} {us : List Value} (I : Inv X pins σ H s) (r : Vals xs us) (z : xs.length ≤ sizeLine) :
    Inv X pins σ (upd H s.heap.objs.size (.frz { cls := .type "tuple", data := .seq us.toArray } (.tup xs))) { s with heap := s.heap.push { cls := .type "tuple", data := .seq us.toArray }, toks := t' } :=
  I.laid (t' := t') (fun b u e => Heap.get?_push_of_some _ e) (Nat.le_refl _) ⟨Heap.get?_push_size _ rfl, z, us, r, ⟨_, Heap.get?_push_size _ rfl, rfl, _, rfl⟩⟩
theorem pe_tupF {x1} {t : TA} (h : PA X es t) : PE X (.Tuple es x1 pos) (tTupF t) := by
  refine ⟨fun pins s σ H Q I hq => ?_⟩
  refine wpAny_Tuple_spliced (thn (h.run pos pins s σ H _ I hq) fun us s1 ⟨xs, H1, I1, r, z, q⟩ => ⟨by rw [← r.length]; exact z, ?_⟩)
  have hf : H1 s1.heap.objs.size = none := I1.hok.fresh (Nat.le_refl _)
  exact ⟨.ref s1.heap.objs.size, _, tup_laid (t' := s1.toks) I1 r z, rfl, q _ _ hf ⟨_, rfl, rfl, rfl⟩⟩
theorem small1 {n : Nat} (h : n ≤ 1000) : n ≤ sizeLine := Nat.le_trans h (by decide)
theorem e_tup {x1} {ga : EA} (h : SndA X es ga) : Snd X (.Tuple es x1 pos) (eTup ga) := by
  refine pe_imp (pe_tupF h) fun σ H Q q => ?_
  obtain ⟨B, F, wa, w, env, S, d, st, w', hf, k⟩ := q
  unfold eTup at hf
  obtain ⟨⟨ds, w1⟩, h1, h2⟩ := Option.bind_eq_some_iff.mp hf
  dsimp only at h2
  split at h2
  · rename_i hc
    cases h2
    refine ⟨B, F, wa, w, env, S, ds, _, h1, fun vs F1 H1 A1 r1 => ⟨?_, fun p u hp ht => ?_⟩⟩
    · rw [← r1.len]; exact small1 hc.2
    · exact Res.tup A1.wk A1.fd (Res.behind S A1 k) (r1.reps hc.1) hp ht
  · cases h2
theorem e_lst {ga : EA} (h : SndA X es ga) : Snd X (.List es pos) (eLst ga) := by
  refine pe_imp (pe_lst h) fun σ H Q q => ?_
  obtain ⟨B, F, wa, w, env, S, d, st, w', hf, k⟩ := q
  unfold eLst at hf
  obtain ⟨⟨ds, w1⟩, h1, h2⟩ := Option.bind_eq_some_iff.mp hf
  dsimp only at h2
  split at h2
  · rename_i hc
    cases h2
    refine ⟨B, F, wa, w, env, S, ds, _, h1, fun vs F1 H1 A1 r1 => ⟨?_, fun p hp => ?_⟩⟩
    · rw [← r1.len]; exact small1 hc.2
    · exact Res.lst A1.wk A1.fd (Res.behind S A1 k) (r1.reps hc.1) hp
  · cases h2
theorem tCB_of {K : PySem.W.Frag} {r : List V → Hp → VK → Prop} {g : List D → Option DS} {ga : EA} (hg : CallS K r g) {σ : L2.St} {H : Hp} {Q : VK} (q : rd K (eA g ga) σ H Q) : tCB r (rdA K ga) σ H Q := by
  obtain ⟨B, F, wa, w, env, S, d, st, w', hf, k⟩ := q
  unfold eA at hf
  obtain ⟨⟨ds, w1⟩, h1, h2⟩ := Option.bind_eq_some_iff.mp hf
  obtain ⟨⟨d3, st3⟩, h5, h6⟩ := Option.map_eq_some_iff.mp h2
  cases h6
  refine ⟨B, F, wa, w, env, S, ds, _, h1, fun vs F1 H1 A1 r1 => ?_⟩
  exact hg wa _ F1 H1 _ d st vs A1.wk A1.fd r1.cur h5 Q (Res.behind S A1 k)
theorem e_callB {r : List V → Hp → VK → Prop} {g : List D → Option DS} {ga : EA} {x : Str} {id : String} {p : Pos} (hc : CallR X (.builtin id) r) (hg : CallS X.K r g) (hgl : Gl X x) (hm : X.mg x = none) (hv : bootBuiltins x = some (.builtin id)) (ha : SndA X (e :: es) ga) (hn : x ≠ "__name__" := by decide) (hdb : (x == ("__debug__" : Str)) = false := by decide) (hse : starEach (e :: es) X.env = (false, eval e X.env) :: starEach es X.env := by rfl) (hpl : (backTo pos (starEach es X.env)).any (·.1) = false := by rfl) :
    Snd X (.Call (.Name x p) (e :: es) [] pos) (eA g ga) := pe_imp (pe_callB hc hgl hm hv ha hn hdb hse hpl) fun _ _ _ q => tCB_of hg q
theorem e_callTy {r : List V → Hp → VK → Prop} {g : List D → Option DS} {ga : EA} {x : Str} {T : String} {p : Pos} (hc : CallR X (.type T) r) (hg : CallS X.K r g) (hgl : Gl X x) (hm : X.mg x = none) (hv : bootBuiltins x = some (.type T)) (ha : SndA X (e :: es) ga) (hn : x ≠ "__name__" := by decide) (hdb : (x == ("__debug__" : Str)) = false := by decide) (hse : starEach (e :: es) X.env = (false, eval e X.env) :: starEach es X.env := by rfl) (hpl : (backTo pos (starEach es X.env)).any (·.1) = false := by rfl) :
    Snd X (.Call (.Name x p) (e :: es) [] pos) (eA g ga) := pe_imp (pe_callTy hc hgl hm hv ha hn hdb hse hpl) fun _ _ _ q => tCB_of hg q

/-! ### defs -/
def spD (K : PySem.W.Frag) (G : Fn) : Sp := fun vs H Q _ => ∃ F wa w ds, WOk F wa H w ∧ (∀ a, F a → H a ≠ none) ∧ Reps K F wa H ds vs ∧ ∃ d st w', G ds w = some ((d, st), w') ∧ ∀ v F' H', Aft K wa F H w' F' H' → RS K (fun _ => True) F' wa H H' d st v → Q v H'
theorem e_call {k : Nat} {ff : Addr} {fd : FuncData} {ps : List Str} {G : Fn} {ga : EA} {x : Str} {p : Pos} (hG : FnOk X.prog X.w X.K X.mg X.base CX0 k ff fd ps (spD X.K G)) (hr : Room k X.A) (hg : Gl X x) (hm : X.mg x = some (.ref ff)) (hk : PySem.W.keepIn X.K (.ref ff) = true) (hb : Binds X.K fd ps [])
    (ha : SndA X (e :: es) ga) (hdb : (x == ("__debug__" : Str)) = false := by decide) (hse : starEach (e :: es) X.env = (false, eval e X.env) :: starEach es X.env := by rfl) (hpl : (backTo pos (starEach es X.env)).any (·.1) = false := by rfl) : Snd X (.Call (.Name x p) (e :: es) [] pos) (eCall G ga) := by
  refine pe_imp (pe_call hG hr hg hm hk hb .nil pass0 ha hdb hse hpl) fun σ H Q q => ?_
  obtain ⟨B, F, wa, w, env, S, d, st, w', hf, k⟩ := q
  unfold eCall at hf
  obtain ⟨⟨ds, w1⟩, h1, h2⟩ := Option.bind_eq_some_iff.mp hf
  dsimp only at h2
  split at h2
  · rename_i hc
    refine ⟨B, F, wa, w, env, S, ds, _, h1, fun vs F1 H1 A1 r1 => ?_⟩
    show spD X.K G (vs ++ []) H1 Q E0
    rw [List.append_nil]
    exact ⟨F1, wa, w1, ds.map (·.1), A1.wk, A1.fd, r1.reps hc, d, st, w', h2, fun v F' H' A' r => k v F' H' (A1.trans A') (r.anyB.back A1)⟩
  · cases h2

/-! ### tests and choices -/
theorem t_val (h : Snd X e f) (he : ∀ whole, isTrue e X.env whole = (do let v ← whole; standAt e.pos; holding [v] (truthy v)) := by intro _; rfl) : SndT X e (tVal f) := by
  refine pt_imp (pt_val h he) fun σ H Q q => ?_
  obtain ⟨B, F, wa, w, env, S, b, w', hf, k⟩ := q
  unfold tVal at hf
  obtain ⟨⟨⟨d1, st1⟩, w1⟩, h1, h2⟩ := Option.bind_eq_some_iff.mp hf
  refine ⟨B, F, wa, w, env, S, d1, st1, w1, h1, fun v F' H' A r => ?_⟩
  cases d1 with
  | bl c => cases h2; exact ⟨b, RS.cur r, k F' H' A⟩
  | _ => cases h2
theorem t_cmp {op : CmpOp} {r : R2} (ho : OpR X (compareOp op) r) (hg : OpS X.K r g) (hm : behindInMarks op b = false) (ha : Snd X a fa) (hb : Snd X b fb) : SndT X (.Compare a [op] [b] pos) (tVal (eOp g fa fb)) := by
  refine pt_imp (pt_cmpR ho ha hb hm) fun σ H Q q => ?_
  refine tOp_of hg ?_
  obtain ⟨B, F, wa, w, env, S, b, w', hf, k⟩ := q
  unfold tVal at hf
  obtain ⟨⟨⟨d1, st1⟩, w1⟩, h1, h2⟩ := Option.bind_eq_some_iff.mp hf
  refine ⟨B, F, wa, w, env, S, d1, st1, w1, h1, fun v F' H' A r => ?_⟩
  cases d1 with
  | bl c => cases h2; exact ⟨b, RS.cur r, k F' H' A⟩
  | _ => cases h2
theorem zip_emp {ks : List Key} {ds : List D} {vs : List V} (hl : ks.length = vs.length) (h2 : ds.length = vs.length) : (!(ks.zip vs).isEmpty) = !ds.isEmpty := by
  cases ks with
  | nil => cases vs with
    | nil => cases ds with
      | nil => rfl
      | cons d r => cases h2
    | cons v r => cases hl
  | cons k r => cases vs with
    | nil => cases hl
    | cons v q => cases ds with
      | nil => cases h2
      | cons d s => rfl
theorem emp_len {ds : List D} {vs : List V} (h2 : ds.length = vs.length) : ds.isEmpty = vs.isEmpty := by
  cases ds <;> cases vs <;> first | rfl | cases h2
theorem truV_of {K : PySem.W.Frag} {F : Addr → Prop} {wa : Option Addr} {H : Hp} {d : D} {v : V} {b : Bool} (r : Cur K F wa H d v) (h : truD d = some b) : TruV K v H b := by
  cases d with
  | non => cases h; cases (show v = .non from r); rfl
  | bl c => cases h; cases (show v = .bl b from r); rfl
  | int i => cases h; cases (show v = .int i from r); rfl
  | str x =>
    cases (show v = .str x from r)
    have h' : (if x.length ≤ 100000 then some ((x.length : Int) != 0) else none) = some b := h
    split at h'
    · cases h'; exact ⟨Nat.le_trans (by assumption) (by decide), rfl⟩
    · cases h'
  | tup ds =>
    obtain ⟨a, u, vs, e, _, h1, ht, r1⟩ := r
    cases h; subst e
    exact .inr (.inl ⟨vs, ht.sq h1, by rw [emp_len r1.len]⟩)
  | lst ds =>
    obtain ⟨a, vs, e, h1, r1⟩ := r
    cases h; subst e
    exact .inl ⟨vs, .inl (.inl h1), by rw [emp_len r1.len]⟩
  | scr ns => cases h
  | ty n => cases h
  | dk ks ds =>
    obtain ⟨a, vs, e, h1, hl, r1⟩ := r
    cases h; subst e
    exact .inr (.inr ⟨_, h1, by rw [zip_emp hl r1.len]⟩)
  | w => cases h
theorem t_tru (h : Snd X e f) (he : ∀ whole, isTrue e X.env whole = (do let v ← whole; standAt e.pos; holding [v] (truthy v)) := by intro _; rfl) : SndT X e (tTru f) := by
  refine pt_imp (pt_truth h he) fun σ H Q q => ?_
  obtain ⟨B, F, wa, w, env, S, b, w', hf, k⟩ := q
  unfold tTru at hf
  obtain ⟨⟨⟨d1, st1⟩, w1⟩, h1, h2⟩ := Option.bind_eq_some_iff.mp hf
  obtain ⟨c, h3, h4⟩ := Option.map_eq_some_iff.mp h2
  cases h4
  exact ⟨B, F, wa, w, env, S, d1, st1, _, h1, fun v F' H' A r => ⟨b, truV_of r.cur h3, k F' H' A⟩⟩
theorem w_and1 {t : ET} (h : SndT X a t) : SndW X (.BoolOp .And [a] pos) t := pw_and1 h
theorem w_or1 {t : ET} (h : SndT X a t) : SndW X (.BoolOp .Or [a] pos) t := pw_or1 h
theorem w_and {t u : ET} {rest : List Expr} (h : SndT X a t) (hb : SndW X (.BoolOp .And (b :: rest) pos) u) : SndW X (.BoolOp .And (a :: b :: rest) pos) (tAn t u) := by
  refine pw_imp (pw_and h hb) fun σ H Q q => ?_
  obtain ⟨B, F, wa, w, env, S, b, w', hf, k⟩ := q
  unfold tAn at hf
  obtain ⟨⟨c, w1⟩, h1, h2⟩ := Option.bind_eq_some_iff.mp hf
  refine ⟨B, F, wa, w, env, S, c, w1, h1, fun F1 H1 A => ?_⟩
  cases c with
  | true => exact ⟨B, F1, wa, w1, env, S.aft A, b, w', h2, fun F2 H2 A2 => k F2 H2 (A.trans A2)⟩
  | false => cases h2; exact k F1 H1 A
theorem w_or {t u : ET} {rest : List Expr} (h : SndT X a t) (hb : SndW X (.BoolOp .Or (b :: rest) pos) u) : SndW X (.BoolOp .Or (a :: b :: rest) pos) (tOrr t u) := by
  refine pw_imp (pw_or h hb) fun σ H Q q => ?_
  obtain ⟨B, F, wa, w, env, S, b, w', hf, k⟩ := q
  unfold tOrr at hf
  obtain ⟨⟨c, w1⟩, h1, h2⟩ := Option.bind_eq_some_iff.mp hf
  refine ⟨B, F, wa, w, env, S, c, w1, h1, fun F1 H1 A => ?_⟩
  cases c with
  | false => exact ⟨B, F1, wa, w1, env, S.aft A, b, w', h2, fun F2 H2 A2 => k F2 H2 (A.trans A2)⟩
  | true => cases h2; exact k F1 H1 A
theorem t_w {t : ET} (h : SndW X e t) : SndT X e t := PW.pt h
theorem t_not {t : ET} (h : SndT X a t) : SndT X (.UnaryOp .Not a pos) (tNo t) := by
  refine pt_imp (pt_not h) fun σ H Q q => ?_
  obtain ⟨B, F, wa, w, env, S, b, w', hf, k⟩ := q
  unfold tNo at hf
  obtain ⟨⟨c, w1⟩, h1, h2⟩ := Option.bind_eq_some_iff.mp hf
  cases h2
  exact ⟨B, F, wa, w, env, S, c, _, h1, fun F1 H1 A => k F1 H1 A⟩
theorem e_if {t : ET} (hc : SndT X c t) (ha : Snd X a fa) (hb : Snd X b fb) : Snd X (.IfExp c a b pos) (eIf t fa fb) := by
  refine pe_imp (pe_ifExp hc ha hb) fun σ H Q q => ?_
  obtain ⟨B, F, wa, w, env, S, d, st, w', hf, k⟩ := q
  unfold eIf at hf
  obtain ⟨⟨c, w1⟩, h1, h2⟩ := Option.bind_eq_some_iff.mp hf
  refine ⟨B, F, wa, w, env, S, c, w1, h1, fun F1 H1 A => ?_⟩
  cases c with
  | true => exact ⟨B, F1, wa, w1, env, S.aft A, d, st, w', h2, fun v F2 H2 A2 r => k v F2 H2 (A.trans A2) (r.back A)⟩
  | false => exact ⟨B, F1, wa, w1, env, S.aft A, d, st, w', h2, fun v F2 H2 A2 r => k v F2 H2 (A.trans A2) (r.back A)⟩
theorem e_not (ha : Snd X a fa) : Snd X (.UnaryOp .Not a pos) (eNot fa) := by
  refine pe_imp (pe_notT ha) fun σ H Q q => ?_
  obtain ⟨B, F, wa, w, env, S, d, st, w', hf, k⟩ := q
  unfold eNot at hf
  obtain ⟨⟨⟨d1, st1⟩, w1⟩, h1, h2⟩ := Option.bind_eq_some_iff.mp hf
  obtain ⟨c, h3, h4⟩ := Option.map_eq_some_iff.mp h2
  cases h4
  exact ⟨B, F, wa, w, env, S, d1, st1, _, h1, fun v F1 H1 A r => ⟨c, truV_of r.cur h3, k _ F1 H1 A rfl⟩⟩
theorem e_one {op} (h : Snd X a f) : Snd X (.BoolOp op [a] pos) f := pe_one h
theorem e_and {rest : List Expr} (ha : Snd X a fa) (hb : Snd X (.BoolOp .And (b :: rest) pos) fb) : Snd X (.BoolOp .And (a :: b :: rest) pos) (eAnd fa fb) := by
  refine pe_imp (pe_andT ha hb) fun σ H Q q => ?_
  obtain ⟨B, F, wa, w, env, S, d, st, w', hf, k⟩ := q
  unfold eAnd at hf
  obtain ⟨⟨⟨d1, st1⟩, w1⟩, h1, h2⟩ := Option.bind_eq_some_iff.mp hf
  obtain ⟨c, h3, h4⟩ := Option.bind_eq_some_iff.mp h2
  refine ⟨B, F, wa, w, env, S, d1, st1, w1, h1, fun v F1 H1 A r => ⟨c, truV_of r.cur h3, ?_⟩⟩
  cases c with
  | true => exact ⟨B, F1, wa, w1, env, S.aft A, d, st, w', h4, fun v F2 H2 A2 r => k v F2 H2 (A.trans A2) (r.back A)⟩
  | false => cases h4; exact k v F1 H1 A r
theorem e_or {rest : List Expr} (ha : Snd X a fa) (hb : Snd X (.BoolOp .Or (b :: rest) pos) fb) : Snd X (.BoolOp .Or (a :: b :: rest) pos) (eOr fa fb) := by
  refine pe_imp (pe_orT ha hb) fun σ H Q q => ?_
  obtain ⟨B, F, wa, w, env, S, d, st, w', hf, k⟩ := q
  unfold eOr at hf
  obtain ⟨⟨⟨d1, st1⟩, w1⟩, h1, h2⟩ := Option.bind_eq_some_iff.mp hf
  obtain ⟨c, h3, h4⟩ := Option.bind_eq_some_iff.mp h2
  refine ⟨B, F, wa, w, env, S, d1, st1, w1, h1, fun v F1 H1 A r => ⟨c, truV_of r.cur h3, ?_⟩⟩
  cases c with
  | false => exact ⟨B, F1, wa, w1, env, S.aft A, d, st, w', h4, fun v F2 H2 A2 r => k v F2 H2 (A.trans A2) (r.back A)⟩
  | true => cases h4; exact k v F1 H1 A r
/-! ### slices -/
abbrev EO := En → Option Wd → Option (Option Int × Option Wd)
def rdO (K : PySem.W.Frag) (f : EO) : TO := fun σ H Q => ∃ B F wa w env, SI K B F wa H w σ env ∧ ∃ o w', f env w = some (o, w') ∧ ∀ F' H', Aft K wa F H w' F' H' → Q o H'
def SndO (X : Cx) (e : Option Expr) (f : EO) : Prop := PO X e (rdO X.K f)
theorem po_imp {e : Option Expr} {t t' : TO} (h : PO X e t) (k : ∀ σ H Q, t' σ H Q → t σ H Q) : PO X e t' := by
  obtain ⟨h⟩ := h
  exact ⟨fun pins s σ H Q I q => h pins s σ H Q I (k _ _ _ q)⟩
theorem o_none : SndO X none oNone := by
  refine po_imp po_none fun σ H Q q => ?_
  obtain ⟨B, F, wa, w, env, S, o, w', hf, k⟩ := q
  cases hf
  exact k F H (Aft.refl S.wk S.fd)
theorem o_some (h : Snd X e f) : SndO X (some e) (oSome f) := by
  refine po_imp (po_some h) fun σ H Q q => ?_
  obtain ⟨B, F, wa, w, env, S, o, w', hf, k⟩ := q
  unfold oSome at hf
  obtain ⟨⟨⟨d1, st1⟩, w1⟩, h1, h2⟩ := Option.bind_eq_some_iff.mp hf
  refine ⟨B, F, wa, w, env, S, d1, st1, w1, h1, fun v F' H' A r => ?_⟩
  cases d1 with
  | int c => cases h2; exact ⟨c, RS.cur r, k F' H' A⟩
  | _ => cases h2
theorem e_sl {r : V → Option Int → Option Int → Hp → VK → Prop} {g : D → Option Int → Option Int → Option DS} {lo hi : Option Expr} {tl th : EO} {p2 : Pos} (hr : SlR X r) (hg : SlS X.K r g) (he : Snd X e f) (hl : SndO X lo tl) (hu : SndO X hi th) : Snd X (.Subscript e (.Slice lo hi none p2) pos) (eSl g f tl th) := by
  refine pe_imp (pe_slice hr he hl hu) fun σ H Q q => ?_
  obtain ⟨B, F, wa, w, env, S, d, st, w', hf, k⟩ := q
  unfold eSl at hf
  obtain ⟨⟨⟨d1, st1⟩, w1⟩, h1, h2⟩ := Option.bind_eq_some_iff.mp hf
  obtain ⟨⟨o2, w2⟩, h3, h4⟩ := Option.bind_eq_some_iff.mp h2
  obtain ⟨⟨o3, w3⟩, h5, h6⟩ := Option.bind_eq_some_iff.mp h4
  obtain ⟨⟨d4, st4⟩, h7, h8⟩ := Option.map_eq_some_iff.mp h6
  cases h8
  refine ⟨B, F, wa, w, env, S, d1, st1, w1, h1, fun v1 F1 H1 A1 r1 => ?_⟩
  refine ⟨B, F1, wa, w1, env, S.aft A1, o2, w2, h3, fun F2 H2 A2 => ?_⟩
  refine ⟨B, F2, wa, w2, env, (S.aft A1).aft A2, o3, _, h5, fun F3 H3 A3 => ?_⟩
  exact hg wa _ F3 H3 d1 o2 o3 d st v1 A3.wk A3.fd ((r1.aft A2).aft A3).cur h7 Q (Res.behind S ((A1.trans A2).trans A3) k)
end
end Dl

set_option Elab.async false
set_option linter.all false
set_option maxRecDepth 100000
set_option maxHeartbeats 4000000
namespace Dl
open PySem PySem.Spec PyProof.Rows L2
/-! ### statements -/
inductive Out where
  | nx (e : En) (w : Option Wd) | rt (p : DS) (w : Option Wd) | bk (e : En) (w : Option Wd) | ct (e : En) (w : Option Wd)
abbrev SB := En → Option Wd → Option Out
def RSr (K : PySem.W.Frag) (B F : Addr → Prop) (wa : Option Addr) (H : Hp) (d : D) (st : O3) (v : V) : Prop := match st with
  | .fz => Rep K F wa H d v
  | _ => ∃ a, v = .ref a ∧ OwnAt K F wa H d a ∧ ¬ B a
def Fin (K : PySem.W.Frag) (B F : Addr → Prop) (wa : Option Addr) (H : Hp) (Dn : Ends) : Out → Prop
  | .nx env' w' => ∀ σ' F' H', AftS K B wa F H w' F' H' → SI K B F' wa H' w' σ' env' → Dn.nx σ' H'
  | .bk env' w' => ∀ σ' F' H', AftS K B wa F H w' F' H' → SI K B F' wa H' w' σ' env' → Dn.bk σ' H'
  | .ct env' w' => ∀ σ' F' H', AftS K B wa F H w' F' H' → SI K B F' wa H' w' σ' env' → Dn.ct σ' H'
  | .rt p w' => ∀ v F' H', AftS K B wa F H w' F' H' → RSr K B F' wa H' p.1 p.2 v → Dn.rt v H'
def rdS (K : PySem.W.Frag) (g : SB) : TS := fun Dn σ H => ∃ B F wa w env, SI K B F wa H w σ env ∧ ∃ out, g env w = some out ∧ Fin K B F wa H Dn out
def SndS (X : Cx) (st : Stmt) (g : SB) : Prop := PS X st (rdS X.K g)
def SndSs (X : Cx) (sts : List Stmt) (g : SB) : Prop := PSs X sts (rdS X.K g)
section
variable {K : PySem.W.Frag} {B F F' F1 F2 : Addr → Prop} {wa : Option Addr} {H0 H H' H1 H2 : Hp} {w w' w1 w2 : Option Wd} {σ σ' : L2.St} {env env' : En} {d : D} {st : O3} {v : V} {a : Addr} {Dn : Ends} {out : Out}
theorem Fin.behind (A : AftS K B wa F H w1 F1 H1) (h : Fin K B F wa H Dn out) : Fin K B F1 wa H1 Dn out := by
  cases out with
  | nx e w => exact fun σ' F' H' A' S => h σ' F' H' (A.trans A') S
  | bk e w => exact fun σ' F' H' A' S => h σ' F' H' (A.trans A') S
  | ct e w => exact fun σ' F' H' A' S => h σ' F' H' (A.trans A') S
  | rt p w => exact fun v F' H' A' r => h v F' H' (A.trans A') r
theorem RS.ret (bd : ∀ a, B a → H0 a ≠ none) (h : RS K B F wa H0 H d st v) : RSr K B F wa H d st v := by
  cases st with
  | fz => exact h
  | ow => obtain ⟨a, e, o, z⟩ := h; exact ⟨a, e, o, fun b => bd a b z⟩
  | bo => exact h
/-- a slot takes a frozen value -/
theorem SI.set (S : SI K B F wa H w σ env) (i : Nat) (r : Rep K F wa H d v) : SI K B F wa H w (σ.set i (some v)) (env.set i (some (d, false))) where
  len := by rw [List.length_set, List.length_set]; exact S.len
  fz := fun j e h => by
    by_cases hj : i = j
    · subst hj
      by_cases hl : i < env.length
      · rw [List.getElem?_set_self hl] at h
        cases h
        exact ⟨v, by rw [List.getElem?_set_self (by rw [← S.len]; exact hl)], r⟩
      · rw [List.getElem?_eq_none (by rw [List.length_set]; omega)] at h; cases h
    · rw [List.getElem?_set_ne hj] at h ⊢
      exact S.fz j e h
  ow := fun j e h => by
    by_cases hj : i = j
    · subst hj
      by_cases hl : i < env.length
      · rw [List.getElem?_set_self hl] at h; cases h
      · rw [List.getElem?_eq_none (by rw [List.length_set]; omega)] at h; cases h
    · rw [List.getElem?_set_ne hj] at h ⊢
      exact S.ow j e h
  ne := fun j k d1 d2 a hjk h1 h2 g => by
    have hj : i ≠ j := fun z => by
      subst z
      by_cases hl : i < env.length
      · rw [List.getElem?_set_self hl] at h1; cases h1
      · rw [List.getElem?_eq_none (by rw [List.length_set]; omega)] at h1; cases h1
    have hk : i ≠ k := fun z => by
      subst z
      by_cases hl : i < env.length
      · rw [List.getElem?_set_self hl] at h2; cases h2
      · rw [List.getElem?_eq_none (by rw [List.length_set]; omega)] at h2; cases h2
    rw [List.getElem?_set_ne hj] at h1 g
    rw [List.getElem?_set_ne hk] at h2 ⊢
    exact S.ne j k d1 d2 a hjk h1 h2 g
  wk := S.wk
  fd := S.fd
  bd := S.bd
/-- a slot takes one's own object that no other slot has -/
theorem SI.setOw (S : SI K B F wa H w σ env) (i : Nat) (o : OwnAt K F wa H d a) (nb : ¬ B a) (hn : ∀ j e, j ≠ i → env[j]? = some (some (e, true)) → σ[j]? ≠ some (some (.ref a))) : SI K B F wa H w (σ.set i (some (.ref a))) (env.set i (some (d, true))) where
  len := by rw [List.length_set, List.length_set]; exact S.len
  fz := fun j e h => by
    by_cases hj : i = j
    · subst hj
      by_cases hl : i < env.length
      · rw [List.getElem?_set_self hl] at h; cases h
      · rw [List.getElem?_eq_none (by rw [List.length_set]; omega)] at h; cases h
    · rw [List.getElem?_set_ne hj] at h ⊢
      exact S.fz j e h
  ow := fun j e h => by
    by_cases hj : i = j
    · subst hj
      by_cases hl : i < env.length
      · rw [List.getElem?_set_self hl] at h
        cases h
        exact ⟨a, by rw [List.getElem?_set_self (by rw [← S.len]; exact hl)], o, nb⟩
      · rw [List.getElem?_eq_none (by rw [List.length_set]; omega)] at h; cases h
    · rw [List.getElem?_set_ne hj] at h ⊢
      exact S.ow j e h
  ne := fun j k d1 d2 b hjk h1 h2 g => by
    by_cases hj : i = j
    · subst hj
      have hk : i ≠ k := hjk
      rw [List.getElem?_set_ne hk] at h2 ⊢
      by_cases hl : i < σ.length
      · rw [List.getElem?_set_self hl] at g
        cases g
        exact hn k d2 (Ne.symm hk) h2
      · rw [List.getElem?_eq_none (by rw [List.length_set]; omega)] at g; cases g
    · rw [List.getElem?_set_ne hj] at h1 g
      by_cases hk : i = k
      · subst hk
        by_cases hl : i < σ.length
        · rw [List.getElem?_set_self hl]
          intro z
          cases z
          exact hn j d1 (Ne.symm hj) h1 g
        · rw [List.getElem?_eq_none (by rw [List.length_set]; omega)]; simp
      · rw [List.getElem?_set_ne hk] at h2 ⊢
        exact S.ne j k d1 d2 b hjk h1 h2 g
  wk := S.wk
  fd := S.fd
  bd := S.bd
/-- the slot's object is none of the others', being new -/
theorem SI.newer (S : SI K B F wa H w σ env) (h : H a = none) : ∀ (j : Nat) (e : D), env[j]? = some (some (e, true)) → σ[j]? ≠ some (some (V.ref a)) := fun j e g z => by
  obtain ⟨b, h1, o, _⟩ := S.ow j e g
  rw [h1] at z
  cases z
  obtain ⟨u, hu⟩ := o.some
  rw [h] at hu; cases hu
end
def sNil : SB := fun env w => some (.nx env w)
def sSeq (g h : SB) : SB := fun env w => (g env w).bind fun o => match o with
  | .nx e w' => h e w'
  | o => some o
def sSet (i : Nat) (f : EF) : SB := fun env w => (f env w).bind fun p => match p.1.2 with
  | .fz => some (.nx (env.set i (some (p.1.1, false))) p.2)
  | .ow => some (.nx (env.set i (some (p.1.1, true))) p.2)
  | .bo => none
def sRet (f : EF) : SB := fun env w => (f env w).bind fun p => some (.rt p.1 p.2)
def sDrop (f : EF) : SB := fun env w => (f env w).bind fun p => some (.nx env p.2)
def sIf (t : ET) (g h : SB) : SB := fun env w => (t env w).bind fun p => if p.1 = true then g env p.2 else h env p.2
def sBrk : SB := fun env w => some (.bk env w)
def sCnt : SB := fun env w => some (.ct env w)
def clr (is : List Nat) (env : En) : En := is.foldl (fun e i => match e[i]? with
  | some (some (d, _)) => e.set i (some (d, false))
  | _ => e) env
/-- some slots' own objects are given away -/
def sFrz (is : List Nat) (g : SB) : SB := fun env w => g (clr is env) w
def sAug (i : Nat) (g : D → D → Option DS) (f : EF) : SB := fun env w => match env[i]? with
  | some (some (d, false)) => (f env w).bind fun p => (g d p.1.1).bind fun r => match r.2 with
    | .fz => some (.nx (env.set i (some (r.1, false))) p.2)
    | _ => none
  | _ => none
def sApp (i : Nat) (f : EF) : SB := fun env w => (eFz f env w).bind fun p => match env[i]? with
  | some (some (.lst ds, true)) => if ds.length < lim then some (.nx (env.set i (some (.lst (ds ++ [p.1.1]), true))) p.2) else none
  | _ => none
def sExt (i : Nat) (f : EF) : SB := fun env w => (f env w).bind fun p => match env[i]?, p.1 with
  | some (some (.lst ds, true)), (.lst es, .ow) => if ds.length + es.length < lim then some (.nx (env.set i (some (.lst (ds ++ es), true))) p.2) else none
  | _, _ => none
def sIns0 (i : Nat) (f : EF) : SB := fun env w => (eFz f env w).bind fun p => match env[i]? with
  | some (some (.lst ds, true)) => if ds.length < lim then some (.nx (env.set i (some (.lst (p.1.1 :: ds), true))) p.2) else none
  | _ => none
/-- w['at'] += 1 -/
def sTick (i : Nat) : SB := fun env w => match env[i]?, w with
  | some (some (.w, false)), some W => some (.nx env (some ⟨W.draws, W.ix + 1⟩))
  | _, _ => none
def sWhile (t : ET) (g : SB) : Nat → SB
  | 0 => fun _ _ => none
  | n + 1 => fun env w => (t env w).bind fun p => if p.1 = true then (g env p.2).bind fun o => match o with
      | .nx e w' => sWhile t g n e w'
      | .ct e w' => sWhile t g n e w'
      | .bk e w' => some (.nx e w')
      | .rt r w' => some (.rt r w')
    else some (.nx env p.2)
abbrev ESet := D → En → Option En
def setN (i : Nat) : ESet := fun d env => some (env.set i (some (d, false)))
def setL : List Nat → List D → En → Option En
  | [], [], env => some env
  | i :: is, d :: ds, env => setL is ds (env.set i (some (d, false)))
  | _, _, _ => none
def setT (is : List Nat) : ESet := fun d env => match d with
  | .tup ds => setL is ds env
  | _ => none
def forL (set : ESet) (g : SB) : List D → SB
  | [] => fun env w => some (.nx env w)
  | d :: ds => fun env w => (set d env).bind fun env1 => (g env1 w).bind fun o => match o with
      | .nx e w' => forL set g ds e w'
      | .ct e w' => forL set g ds e w'
      | .bk e w' => some (.nx e w')
      | .rt r w' => some (.rt r w')
def sFor (set : ESet) (f : EI) (g : SB) : SB := fun env w => (f env w).bind fun p => forL set g p.1 env p.2
def sUnp (set : ESet) (f : EF) : SB := fun env w => (eFz f env w).bind fun p => (set p.1.1 env).map fun e => .nx e p.2
def sPar (i j : Nat) (f : EA) : SB := fun env w => (f env w).bind fun p => match p.1 with
  | [(d, s), (e, t)] => if s ≠ .bo ∧ t ≠ .bo then some (.nx ((env.set i (some (d, s == .ow))).set j (some (e, t == .ow))) p.2) else none
  | _ => none

section
variable {X : Cx} {st : Stmt} {sts : List Stmt} {e e1 a b c : Expr} {es : List Expr} {f fa : EF} {g h : SB} {t : ET} {pos pos' : Pos}
theorem ss_nil : SndSs X [] sNil := by
  refine pss_imp pss_nil fun Dn σ H q => ?_
  obtain ⟨B, F, wa, w, env, S, out, hf, k⟩ := q
  cases hf
  exact k σ F H (AftS.refl S.wk S.fd) S
theorem s_pass : SndS X (.Pass pos) sNil := by
  refine ps_imp ps_pass fun Dn σ H q => ?_
  obtain ⟨B, F, wa, w, env, S, out, hf, k⟩ := q
  cases hf
  exact k σ F H (AftS.refl S.wk S.fd) S
theorem s_brk : SndS X (.Break pos) sBrk := by
  refine ps_imp ps_break fun Dn σ H q => ?_
  obtain ⟨B, F, wa, w, env, S, out, hf, k⟩ := q
  cases hf
  exact k σ F H (AftS.refl S.wk S.fd) S
theorem s_cnt : SndS X (.Continue pos) sCnt := by
  refine ps_imp ps_continue fun Dn σ H q => ?_
  obtain ⟨B, F, wa, w, env, S, out, hf, k⟩ := q
  cases hf
  exact k σ F H (AftS.refl S.wk S.fd) S
theorem seq_of {K : PySem.W.Frag} {Dn : Ends} {σ : L2.St} {H : Hp} (q : rdS K (sSeq g h) Dn σ H) : rdS K g { Dn with nx := rdS K h Dn } σ H := by
  obtain ⟨B, F, wa, w, env, S, out, hf, k⟩ := q
  unfold sSeq at hf
  obtain ⟨o, h1, h2⟩ := Option.bind_eq_some_iff.mp hf
  refine ⟨B, F, wa, w, env, S, o, h1, ?_⟩
  cases o with
  | nx e w1 => exact fun σ' F' H' A S' => ⟨B, F', wa, w1, e, S', out, h2, k.behind A⟩
  | bk e w1 => cases h2; exact k
  | ct e w1 => cases h2; exact k
  | rt p w1 => cases h2; exact k
theorem ss_cons (h1 : SndS X st g) (h2 : SndSs X sts h) : SndSs X (st :: sts) (sSeq g h) := pss_imp (pss_cons h1 h2) fun _ _ _ q => seq_of q
theorem ss_one (h1 : SndS X st g) : SndSs X [st] g := pss_one h1
theorem set_of {K : PySem.W.Frag} {i : Nat} {Dn : Ends} {σ : L2.St} {H : Hp} (q : rdS K (sSet i f) Dn σ H) : rd K f σ H fun x H1 => Dn.nx (σ.set i (some x)) H1 := by
  obtain ⟨B, F, wa, w, env, S, out, hf, k⟩ := q
  unfold sSet at hf
  obtain ⟨⟨⟨d1, st1⟩, w1⟩, h1, h2⟩ := Option.bind_eq_some_iff.mp hf
  refine ⟨B, F, wa, w, env, S, d1, st1, w1, h1, fun v F1 H1 A r => ?_⟩
  have S1 := S.aft A
  cases st1 with
  | fz => cases h2; exact k _ F1 H1 (A.toS S.bd) (S1.set i r)
  | ow =>
    cases h2
    obtain ⟨a, e, o, z⟩ := r
    subst e
    exact k _ F1 H1 (A.toS S.bd) (S1.setOw i o (fun b => S.bd a b z) fun j e _ g => S.newer z j e g)
  | bo => cases h2
theorem s_set (i : Nat) {x : Str} (hN : X.N.Nodup) (hi : X.N[i]? = some x) (hx : Loc X.env.scope x) (he : Snd X e f) (hs : swapsWith e (some (.Name x pos')) pos.line X.env = pure false := by rfl) (hf : X.fn x = true ∨ X.env.scope.names.lookup x = some .local := by first | exact .inl rfl | exact .inr rfl | assumption) :
    SndS X (.Assign [.Name x pos'] e pos) (sSet i f) := ps_imp (ps_set hN hi hx he hs hf) fun _ _ _ q => set_of q
theorem s_ret (he : Snd X e f) : SndS X (.Return (some e) pos) (sRet f) := by
  refine ps_imp (ps_ret he) fun Dn σ H q => ?_
  obtain ⟨B, F, wa, w, env, S, out, hf, k⟩ := q
  unfold sRet at hf
  obtain ⟨⟨⟨d1, st1⟩, w1⟩, h1, h2⟩ := Option.bind_eq_some_iff.mp hf
  cases h2
  exact ⟨B, F, wa, w, env, S, d1, st1, _, h1, fun v F1 H1 A r => k v F1 H1 (A.toS S.bd) (r.ret S.bd)⟩
theorem s_drop (he : Snd X e f) (hs : swapsWith e none pos.line X.env = pure false := by rfl) : SndS X (.Expr e pos) (sDrop f) := by
  refine ps_imp (ps_expr he hs) fun Dn σ H q => ?_
  obtain ⟨B, F, wa, w, env, S, out, hf, k⟩ := q
  unfold sDrop at hf
  obtain ⟨⟨⟨d1, st1⟩, w1⟩, h1, h2⟩ := Option.bind_eq_some_iff.mp hf
  cases h2
  exact ⟨B, F, wa, w, env, S, d1, st1, _, h1, fun v F1 H1 A r => k σ F1 H1 (A.toS S.bd) (S.aft A)⟩
theorem s_if {p q : List Stmt} (hc : SndT X c t) (ha : SndSs X p g) (hb : SndSs X q h) : SndS X (.If c p q pos) (sIf t g h) := by
  refine ps_imp (ps_if hc ha hb) fun Dn σ H q => ?_
  obtain ⟨B, F, wa, w, env, S, out, hf, k⟩ := q
  unfold sIf at hf
  obtain ⟨⟨b1, w1⟩, h1, h2⟩ := Option.bind_eq_some_iff.mp hf
  refine ⟨B, F, wa, w, env, S, b1, w1, h1, fun F1 H1 A => ?_⟩
  cases b1 with
  | true => exact ⟨B, F1, wa, w1, env, S.aft A, out, h2, k.behind (A.toS S.bd)⟩
  | false => exact ⟨B, F1, wa, w1, env, S.aft A, out, h2, k.behind (A.toS S.bd)⟩
/-- a slot's own object is given away -/
theorem SI.clr1 {K : PySem.W.Frag} {B F : Addr → Prop} {wa : Option Addr} {H : Hp} {w : Option Wd} {σ : L2.St} {env : En} (S : SI K B F wa H w σ env) (i : Nat) :
    ∃ F', AftS K B wa F H w F' H ∧ SI K B F' wa H w σ (clr [i] env) := by
  show ∃ F', AftS K B wa F H w F' H ∧ SI K B F' wa H w σ (match env[i]? with
    | some (some (d, _)) => env.set i (some (d, false))
    | _ => env)
  split
  · rename_i d fl e
    cases fl with
    | false =>
      obtain ⟨v, h1, r⟩ := S.fz i d e
      have S1 := S.set i r
      have e1 : σ.set i (some v) = σ := by
        obtain ⟨hl, e2⟩ := List.getElem?_eq_some_iff.mp h1
        rw [← e2, List.set_getElem_self]
      rw [e1] at S1
      exact ⟨F, AftS.refl S.wk S.fd, S1⟩
    | true =>
      obtain ⟨a, h1, o, nb⟩ := S.ow i d e
      obtain ⟨k, fd, r⟩ := o.freeze S.wk S.fd
      refine ⟨fun b => F b ∨ b = a, ⟨fun x h => .inl h, fun x h => h.elim .inl fun e => .inr (by rw [e]; exact nb), fun _ _ h _ _ => h, fun _ _ _ h => h, fun _ h => h, k, fd⟩, ?_⟩
      have m : ∀ d v, Rep K F wa H d v → Rep K (fun b => F b ∨ b = a) wa H d v := fun d v r => Rep.mono (fun _ z => .inl z) (fun _ _ _ z => z) d v r
      have ms : ∀ d v, Reps K F wa H d v → Reps K (fun b => F b ∨ b = a) wa H d v := fun d v r => Reps.mono (fun _ z => .inl z) (fun _ _ _ z => z) d v r
      have hil : i < env.length := (List.getElem?_eq_some_iff.mp e).1
      refine ⟨by rw [List.length_set]; exact S.len, fun j d' h => ?_, fun j d' h => ?_, fun j l d1 d2 b hjl g1 g2 g3 => ?_, k, fd, S.bd⟩
      · by_cases hj : i = j
        · subst hj
          rw [List.getElem?_set_self hil] at h
          cases h
          exact ⟨.ref a, h1, r⟩
        · rw [List.getElem?_set_ne hj] at h
          obtain ⟨v', h2, r2⟩ := S.fz j d' h
          exact ⟨v', h2, m _ _ r2⟩
      · by_cases hj : i = j
        · subst hj
          rw [List.getElem?_set_self hil] at h
          cases h
        · rw [List.getElem?_set_ne hj] at h
          obtain ⟨a', h2, ⟨q1, q2, q3⟩, nb2⟩ := S.ow j d' h
          refine ⟨a', h2, ⟨fun z => z.elim q1 fun ea => ?_, q2, ?_⟩, nb2⟩
          · subst ea
            exact S.ne i j _ _ a' hj e h h1 h2
          · rcases q3 with ⟨ds, vs, e3, h3, r3⟩ | ⟨ks, ds, vs, e3, h3, l, r3⟩
            · exact .inl ⟨ds, vs, e3, h3, ms _ _ r3⟩
            · exact .inr ⟨ks, ds, vs, e3, h3, l, ms _ _ r3⟩
      · have hj : i ≠ j := fun z => by subst z; rw [List.getElem?_set_self hil] at g1; cases g1
        have hl : i ≠ l := fun z => by subst z; rw [List.getElem?_set_self hil] at g2; cases g2
        rw [List.getElem?_set_ne hj] at g1
        rw [List.getElem?_set_ne hl] at g2
        exact S.ne j l d1 d2 b hjl g1 g2 g3
  · exact ⟨F, AftS.refl S.wk S.fd, S⟩
theorem SI.clr {K : PySem.W.Frag} {B : Addr → Prop} {wa : Option Addr} {H : Hp} {w : Option Wd} {σ : L2.St} : ∀ (is : List Nat) {F : Addr → Prop} {env : En}, SI K B F wa H w σ env →
    ∃ F', AftS K B wa F H w F' H ∧ SI K B F' wa H w σ (clr is env)
  | [], F, env, S => ⟨F, AftS.refl S.wk S.fd, S⟩
  | i :: is, F, env, S => by
    obtain ⟨F1, A1, S1⟩ := S.clr1 i
    obtain ⟨F2, A2, S2⟩ := SI.clr is S1
    exact ⟨F2, A1.trans A2, S2⟩
theorem s_frz (is : List Nat) (hs : SndS X st g) : SndS X st (sFrz is g) := by
  refine ps_imp hs fun Dn σ H q => ?_
  obtain ⟨B, F, wa, w, env, S, out, hf, k⟩ := q
  obtain ⟨F1, A1, S1⟩ := SI.clr is S
  exact ⟨B, F1, wa, w, _, S1, out, hf, k.behind A1⟩
theorem s_aug (i : Nat) {x : Str} {op : Operator} {r : R2} {gg : D → D → Option DS} (hN : X.N.Nodup) (hi : X.N[i]? = some x) (hx : Loc X.env.scope x) (he : Snd X e f) (ho : PIp X op r) (hg : OpS X.K r gg) (hf : X.fn x = true ∨ X.env.scope.names.lookup x = some .local := by first | exact .inl rfl | exact .inr rfl | assumption) :
    SndS X (.AugAssign (.Name x pos') op e pos) (sAug i gg f) := by
  refine ps_imp (ps_aug hN hi hx he ho hf) fun Dn σ H q => ?_
  obtain ⟨B, F, wa, w, env, S, out, hf, k⟩ := q
  unfold sAug at hf
  split at hf
  · rename_i d hd
    obtain ⟨v0, h0, r0⟩ := S.fz i d hd
    obtain ⟨⟨⟨d1, st1⟩, w1⟩, h1, h2⟩ := Option.bind_eq_some_iff.mp hf
    obtain ⟨⟨d2, st2⟩, h3, h4⟩ := Option.bind_eq_some_iff.mp h2
    refine ⟨v0, h0, B, F, wa, w, env, S, d1, st1, w1, h1, fun v F1 H1 A r => ?_⟩
    refine hg wa w1 F1 H1 d d1 d2 st2 v0 v A.wk A.fd (A.rep r0).cur r.cur h3 _ fun v2 F2 H2 A2 r2 => ?_
    cases st2 with
    | fz => cases h4; exact k _ F2 H2 ((A.trans A2).toS S.bd) ((S.aft (A.trans A2)).set i r2)
    | _ => cases h4
  · cases hf
/-- one's own object is changed -/
theorem SI.write {K : PySem.W.Frag} {B F : Addr → Prop} {wa : Option Addr} {H : Hp} {w : Option Wd} {σ : L2.St} {env : En} (S : SI K B F wa H w σ env) {i : Nat} {d d' : D} {a : Addr} {o : HO} (hd : env[i]? = some (some (d, true))) (ha : σ[i]? = some (some (.ref a)))
    (hn : (∃ ds vs, d' = .lst ds ∧ o = .lst vs ∧ Reps K F wa H ds vs) ∨ ∃ ks ds vs, d' = .dk ks ds ∧ o = .dK (ks.zip vs) ∧ ks.length = vs.length ∧ Reps K F wa H ds vs) :
    AftS K B wa F H w F (upd H a o) ∧ SI K B F wa (upd H a o) w σ (env.set i (some (d', true))) := by
  obtain ⟨a', h1, ⟨o1, o2, o3⟩, nb⟩ := S.ow i d hd
  rw [ha] at h1; cases h1
  have ex : ∃ u, H a = some u := OwnAt.some ⟨o1, o2, o3⟩
  have kf : ∀ b u, F b → H b = some u → upd H a o b = some u := fun b u fb h => by rw [upd_ne fun z => o1 (by rw [← z]; exact fb)]; exact h
  have mr : ∀ {d v}, Rep K F wa H d v → Rep K F wa (upd H a o) d v := fun {d v} r => Rep.mono (fun _ z => z) kf d v r
  have mrs : ∀ {ds vs}, Reps K F wa H ds vs → Reps K F wa (upd H a o) ds vs := fun {ds vs} r => Reps.mono (fun _ z => z) kf ds vs r
  have hdom : ∀ b, upd H a o b = none → H b = none := fun b h => by
    by_cases e : b = a
    · subst e; rw [upd_same] at h; cases h
    · rw [upd_ne e] at h; exact h
  have fd : ∀ b, F b → upd H a o b ≠ none := fun b fb h => S.fd b fb (hdom b h)
  have wk : WOk F wa (upd H a o) w := by
    have k := S.wk
    cases wa with
    | none => cases w with
      | none => trivial
      | some W => exact k
    | some x => cases w with
      | none => exact k
      | some W =>
        obtain ⟨g1, da, g2, g3, g4⟩ := k
        exact ⟨g1, da, g2, by rw [upd_ne fun z => o2 (by rw [z])]; exact g3, kf _ _ g2 g4⟩
  have hil : i < env.length := (List.getElem?_eq_some_iff.mp hd).1
  refine ⟨⟨fun _ h => h, fun _ h => .inl h, fun b u h hb _ => by rw [upd_ne fun z => nb (by rw [← z]; exact hb)]; exact h, kf, hdom, wk, fd⟩, ⟨by rw [List.length_set]; exact S.len, fun j d1 h => ?_, fun j d1 h => ?_, fun j l d1 d2 b hjl g1 g2 g3 => ?_, wk, fd, fun b hb h => S.bd b hb (hdom b h)⟩⟩
  · have hj : i ≠ j := fun z => by subst z; rw [List.getElem?_set_self hil] at h; cases h
    rw [List.getElem?_set_ne hj] at h
    obtain ⟨v, h2, r⟩ := S.fz j d1 h
    exact ⟨v, h2, mr r⟩
  · by_cases hj : i = j
    · subst hj
      rw [List.getElem?_set_self hil] at h
      cases h
      refine ⟨a, ha, ⟨o1, o2, ?_⟩, nb⟩
      rcases hn with ⟨ds, vs, e, e2, r⟩ | ⟨ks, ds, vs, e, e2, l, r⟩
      · subst e2; exact .inl ⟨ds, vs, e, upd_same, mrs r⟩
      · subst e2; exact .inr ⟨ks, ds, vs, e, upd_same, l, mrs r⟩
    · rw [List.getElem?_set_ne hj] at h
      obtain ⟨a2, h2, ⟨p1, p2, p3⟩, nb2⟩ := S.ow j d1 h
      have na : a2 ≠ a := fun z => by subst z; exact S.ne i j _ _ a2 hj hd h ha h2
      refine ⟨a2, h2, ⟨p1, p2, ?_⟩, nb2⟩
      rcases p3 with ⟨ds, vs, e, e2, r⟩ | ⟨ks, ds, vs, e, e2, l, r⟩
      · exact .inl ⟨ds, vs, e, by rw [upd_ne na]; exact e2, mrs r⟩
      · exact .inr ⟨ks, ds, vs, e, by rw [upd_ne na]; exact e2, l, mrs r⟩
  · have g1' : ∃ e, env[j]? = some (some (e, true)) := by
      by_cases hj : i = j
      · subst hj; exact ⟨d, hd⟩
      · rw [List.getElem?_set_ne hj] at g1; exact ⟨d1, g1⟩
    have g2' : ∃ e, env[l]? = some (some (e, true)) := by
      by_cases hj : i = l
      · subst hj; exact ⟨d, hd⟩
      · rw [List.getElem?_set_ne hj] at g2; exact ⟨d2, g2⟩
    obtain ⟨q1, g1'⟩ := g1'
    obtain ⟨q2, g2'⟩ := g2'
    exact S.ne j l q1 q2 b hjl g1' g2' g3
theorem lineN {n : Nat} (h : n < lim) : n < sizeLine := Nat.lt_of_lt_of_le h (by rw [sizeLine_eq, lim_eq]; decide)
/-- the slot's own list, to be changed -/
theorem own_lst {K : PySem.W.Frag} {B F : Addr → Prop} {wa : Option Addr} {H : Hp} {w : Option Wd} {σ : L2.St} {env : En} (S : SI K B F wa H w σ env) {i : Nat} {ds : List D} (hd : env[i]? = some (some (.lst ds, true))) :
    ∃ a vs, σ[i]? = some (some (.ref a)) ∧ H a = some (.lst vs) ∧ Reps K F wa H ds vs ∧ wa ≠ some a := by
  obtain ⟨a, h1, ⟨_, o2, o3⟩, _⟩ := S.ow i _ hd
  rcases o3 with ⟨ds', vs, e, h, r⟩ | ⟨ks, ds', vs, e, _⟩
  · cases e; exact ⟨a, vs, h1, h, r, o2⟩
  · cases e
theorem s_app (i : Nat) {x apos cpos : Pos} {nm : Str} (ho : PE X (.Name nm x) (tVar i)) (he : Snd X e f) (hs : starEach [e] X.env = (false, eval e X.env) :: starEach [] X.env := by rfl)
    (hpe : ∀ {to : TE} {ta : TA}, PE X (.Name nm x) to → PA X [e] ta → PE X (.Call (.Attribute (.Name nm x) "append" apos) [e] [] cpos) (tBM X.K "list" rAppend to ta) := by
      intro to ta h1 h2; exact pe_bm PySem.F.plainAttrs_list PySem.F.slot_list_append PySem.F.type_list_append mt_append h1 h2)
    (hsw : swapsWith (.Call (.Attribute (.Name nm x) "append" apos) [e] [] cpos) none pos.line X.env = pure false := by rfl) :
    SndS X (.Expr (.Call (.Attribute (.Name nm x) "append" apos) [e] [] cpos) pos) (sApp i f) := by
  refine ps_imp (ps_expr (hpe ho (pa_cons (e_fz he) pa_nil hs)) hsw) fun Dn σ H q => ?_
  obtain ⟨B, F, wa, w, env, S, out, hf, k⟩ := q
  unfold sApp at hf
  obtain ⟨⟨⟨d1, st1⟩, w1⟩, h1, h2⟩ := Option.bind_eq_some_iff.mp hf
  have e1 : st1 = .fz := by
    unfold eFz at h1
    obtain ⟨⟨⟨d3, st3⟩, w3⟩, h4, h5⟩ := Option.bind_eq_some_iff.mp h1
    cases st3 <;> cases h5 <;> rfl
  subst e1
  dsimp only at h2
  split at h2
  · rename_i ds hd
    split at h2
    · rename_i hz
      cases h2
      obtain ⟨a, vs, g1, g2, g3, g4⟩ := own_lst S hd
      refine ⟨.ref a, g1, .inl ⟨rfl, vs, .inl (.inl g2)⟩, ?_⟩
      refine ⟨B, F, wa, w, env, S, d1, .fz, _, h1, fun v F1 H1 A r => ?_⟩
      have S1 := S.aft A
      have h3 := A.keep a _ g2 g4
      have hl := g3.len
      refine ⟨a, vs, v, rfl, rfl, h3, by rw [← hl]; exact lineN hz, ?_⟩
      obtain ⟨A2, S2⟩ := S1.write (d' := .lst (ds ++ [d1])) (o := .lst (vs ++ [v])) hd g1 (.inl ⟨_, _, rfl, rfl, (A.reps g3).app (.one r)⟩)
      exact k _ F1 _ ((A.toS S.bd).trans A2) S2
    · cases h2
  · cases h2
theorem s_ext (i : Nat) {x apos cpos : Pos} {nm : Str} (ho : PE X (.Name nm x) (tVar i)) (he : Snd X e f) (hs : starEach [e] X.env = (false, eval e X.env) :: starEach [] X.env := by rfl)
    (hpe : ∀ {to : TE} {ta : TA}, PE X (.Name nm x) to → PA X [e] ta → PE X (.Call (.Attribute (.Name nm x) "extend" apos) [e] [] cpos) (tBM X.K "list" rExtend to ta) := by
      intro to ta h1 h2; exact pe_bm PySem.F.plainAttrs_list PySem.F.slot_list_extend PySem.F.type_list_extend mt_extend h1 h2)
    (hsw : swapsWith (.Call (.Attribute (.Name nm x) "extend" apos) [e] [] cpos) none pos.line X.env = pure false := by rfl) :
    SndS X (.Expr (.Call (.Attribute (.Name nm x) "extend" apos) [e] [] cpos) pos) (sExt i f) := by
  refine ps_imp (ps_expr (hpe ho (pa_cons he pa_nil hs)) hsw) fun Dn σ H q => ?_
  obtain ⟨B, F, wa, w, env, S, out, hf, k⟩ := q
  unfold sExt at hf
  obtain ⟨⟨⟨d1, st1⟩, w1⟩, h1, h2⟩ := Option.bind_eq_some_iff.mp hf
  dsimp only at h2
  split at h2
  · rename_i ds es hd he2
    split at h2
    · rename_i hz
      cases h2
      cases he2
      obtain ⟨a, vs, g1, g2, g3, g4⟩ := own_lst S hd
      refine ⟨.ref a, g1, .inl ⟨rfl, vs, .inl (.inl g2)⟩, ?_⟩
      refine ⟨B, F, wa, w, env, S, _, .ow, _, h1, fun v F1 H1 A r => ?_⟩
      obtain ⟨b, eb, ⟨_, _, ob⟩, nb⟩ := r
      subst eb
      obtain ⟨us, hb, rb⟩ : ∃ us, H1 b = some (.lst us) ∧ Reps X.K F1 wa H1 es us := by
        rcases ob with ⟨ds', vs', e, h, r⟩ | ⟨ks, ds', vs', e, _⟩
        · cases e; exact ⟨vs', h, r⟩
        · cases e
      have S1 := S.aft A
      have h3 := A.keep a _ g2 g4
      have hl := g3.len
      have hl2 := rb.len
      refine ⟨a, b, vs, us, rfl, rfl, h3, hb, by rw [← hl, ← hl2]; exact Nat.le_of_lt (lineN hz), ?_⟩
      obtain ⟨A2, S2⟩ := S1.write (d' := .lst (ds ++ es)) (o := .lst (vs ++ us)) hd g1 (.inl ⟨_, _, rfl, rfl, (A.reps g3).app rb⟩)
      exact k _ F1 _ ((A.toS S.bd).trans A2) S2
    · cases h2
  · cases h2
theorem s_while (n : Nat) {body : List Stmt} (hp : PassesOwn (model X.prog X.w) X.A X.env X.xe) (hc : SndT X c t) (hb : SndSs X body g) : SndS X (.While c body [] pos) (sWhile t g n) := by
  refine ps_imp (ps_while hp hc hb) fun Dn σ H q => ?_
  obtain ⟨B, F, wa, w, env, S, out, hf, k⟩ := q
  refine ⟨fun m σ' H' => ∃ F' w' env', AftS X.K B wa F H w' F' H' ∧ SI X.K B F' wa H' w' σ' env' ∧ sWhile t g m env' w' = some out, ⟨n, F, w, env, AftS.refl S.wk S.fd, S, hf⟩, ?_⟩
  rintro m σ1 H1 ⟨F1, w1, env1, A1, S1, h1⟩
  cases m with
  | zero => cases h1
  | succ m =>
    have h1' : ((t env1 w1).bind fun p => if p.1 = true then (g env1 p.2).bind fun o => match o with
      | .nx e w' => sWhile t g m e w'
      | .ct e w' => sWhile t g m e w'
      | .bk e w' => some (.nx e w')
      | .rt r w' => some (.rt r w')
      else some (.nx env1 p.2)) = some out := h1
    obtain ⟨⟨b2, w2⟩, h2, h3⟩ := Option.bind_eq_some_iff.mp h1'
    refine ⟨B, F1, wa, w1, env1, S1, b2, w2, h2, fun F2 H2 A2 => ?_⟩
    have S2 := S1.aft A2
    have A12 := A1.trans (A2.toS S1.bd)
    cases b2 with
    | true =>
      refine iteT ?_
      have h3' : ((g env1 w2).bind fun o => match o with
        | .nx e w' => sWhile t g m e w'
        | .ct e w' => sWhile t g m e w'
        | .bk e w' => some (.nx e w')
        | .rt r w' => some (.rt r w')) = some out := h3
      obtain ⟨o, h4, h5⟩ := Option.bind_eq_some_iff.mp h3'
      refine ⟨fun σ' H' => ∃ F' w' env', AftS X.K B wa F H w' F' H' ∧ SI X.K B F' wa H' w' σ' env' ∧ sWhile t g m env' w' = some out, fun σ' H' hN => ⟨m, Nat.lt_succ_self m, hN⟩, B, F2, wa, w2, env1, S2, o, h4, ?_⟩
      cases o with
      | nx e w3 => exact fun σ' F' H' A' S' => ⟨F', w3, e, A12.trans A', S', h5⟩
      | ct e w3 => exact fun σ' F' H' A' S' => ⟨F', w3, e, A12.trans A', S', h5⟩
      | bk e w3 => cases h5; exact fun σ' F' H' A' S' => k σ' F' H' (A12.trans A') S'
      | rt r w3 => cases h5; exact fun v F' H' A' r => k v F' H' (A12.trans A') r
    | false =>
      refine iteF ?_
      have h3' : some (Out.nx env1 w2) = some out := h3
      cases h3'
      exact k σ1 F2 H2 A12 S2
end
end Dl

set_option Elab.async false
set_option linter.all false
set_option maxRecDepth 100000
set_option maxHeartbeats 4000000
namespace Dl
open PySem PySem.Spec PyProof.Rows L2
/-! ### what is walked -/
/-- an item: all of it frozen; or (u) a tuple that is only unpacked -/
def RepX (u : Bool) (K : PySem.W.Frag) (F : Addr → Prop) (wa : Option Addr) (H : Hp) (d : D) (v : V) : Prop := Rep K F wa H d v ∨ (u = true ∧ ∃ ds a vs, d = .tup ds ∧ v = .ref a ∧ SqT K H a vs ∧ Reps K F wa H ds vs)
def ItOk (u : Bool) (K : PySem.W.Frag) (wa : Option Addr) (Z : Addr → Prop) (F1 : Addr → Prop) (H1 : Hp) (J : It) (ds : List D) : Prop := ∀ (F2 : Addr → Prop) (H2 : Hp), (∀ a, F1 a → F2 a) → (∀ a o, F1 a → H1 a = some o → H2 a = some o) → (∀ a o, Z a → H1 a = some o → H2 a = some o) →
  (∀ (i : Nat) d, ds[i]? = some d → J.go i H2 ∧ ∀ x H3, J.yld i H2 x H3 → ∃ F3, (∀ w2, WOk F2 wa H2 w2 → (∀ a, F2 a → H2 a ≠ none) → Aft K wa F2 H2 w2 F3 H3) ∧ RepX u K F3 wa H3 d x) ∧ J.stop ds.length H2
abbrev ZF := Option Addr → (Addr → Prop) → Addr → Prop
def zF : ZF := fun _ F a => F a
def zC : ZF := fun wa _ a => wa ≠ some a
def rdI (u : Bool) (K : PySem.W.Frag) (z : ZF) (f : EI) : TI := fun σ H R => ∃ B F wa w env, SI K B F wa H w σ env ∧ ∃ ds w', f env w = some (ds, w') ∧ ∀ J F' H', Aft K wa F H w' F' H' → ItOk u K wa (z wa F') F' H' J ds → R J H'
def SndI (u : Bool) (X : Cx) (tg e : Expr) (f : EI) : Prop := PI X tg e (rdI u X.K zF f)
def SndC (u : Bool) (X : Cx) (tg e : Expr) (f : EI) : Prop := PI X tg e (rdI u X.K zC f)
theorem SndI.c {u : Bool} {X : Cx} {tg e : Expr} {f : EI} (h : SndI u X tg e f) : SndC u X tg e f := by
  refine pi_imp h fun σ H R q => ?_
  obtain ⟨B, F, wa, w, env, S, ds, w', hf, k⟩ := q
  exact ⟨B, F, wa, w, env, S, ds, w', hf, fun J F' H' A ok => k J F' H' A fun F2 H2 h1 h2 h3 => ok F2 H2 h1 h2 h2⟩
theorem ItOk.x {K : PySem.W.Frag} {wa : Option Addr} {Z F1 : Addr → Prop} {H1 : Hp} {J : It} {ds : List D} (h : ItOk false K wa Z F1 H1 J ds) (u : Bool) : ItOk u K wa Z F1 H1 J ds := fun F2 H2 a b c => by
  obtain ⟨h1, h2⟩ := h F2 H2 a b c
  refine ⟨fun i d hd => ?_, h2⟩
  obtain ⟨g, y⟩ := h1 i d hd
  refine ⟨g, fun x H3 hy => ?_⟩
  obtain ⟨F3, h4, h5⟩ := y x H3 hy
  exact ⟨F3, h4, .inl (h5.elim id fun z => nomatch z.1)⟩
theorem SndI.x {X : Cx} {tg e : Expr} {f : EI} (h : SndI false X tg e f) {u : Bool} : SndI u X tg e f := by
  refine pi_imp h fun σ H R q => ?_
  obtain ⟨B, F, wa, w, env, S, ds, w', hf, k⟩ := q
  exact ⟨B, F, wa, w, env, S, ds, w', hf, fun J F' H' A ok => k J F' H' A (ok.x u)⟩
theorem SndC.x {X : Cx} {tg e : Expr} {f : EI} (h : SndC false X tg e f) {u : Bool} : SndC u X tg e f := by
  refine pi_imp h fun σ H R q => ?_
  obtain ⟨B, F, wa, w, env, S, ds, w', hf, k⟩ := q
  exact ⟨B, F, wa, w, env, S, ds, w', hf, fun J F' H' A ok => k J F' H' A (ok.x u)⟩
/-- a target -/
def rdG (u : Bool) (K : PySem.W.Frag) (is : List Nat) (set : ESet) : TG := fun v σ H Q => ∃ B F wa w env d, SI K B F wa H w σ env ∧ RepX u K F wa H d v ∧ ∃ env', set d env = some env' ∧ ∀ σ', SI K B F wa H w σ' env' → σ'.length = σ.length → (∀ i, i ∉ is → σ'[i]? = σ[i]?) → Q σ' H
def SndG (u : Bool) (X : Cx) (tg : Expr) (is : List Nat) (set : ESet) : Prop := PG X tg (rdG u X.K is set)
def rdGs (K : PySem.W.Frag) (is : List Nat) : TGs := fun vs σ H Q => ∃ B F wa w env ds, SI K B F wa H w σ env ∧ Reps K F wa H ds vs ∧ ∃ env', setL is ds env = some env' ∧ ∀ σ', SI K B F wa H w σ' env' → σ'.length = σ.length → (∀ i, i ∉ is → σ'[i]? = σ[i]?) → Q σ' H
def SndGs (X : Cx) (tgs : List Expr) (is : List Nat) : Prop := PGs X tgs (rdGs X.K is)
section
variable {X : Cx} {tg e e1 e2 iter : Expr} {es : List Expr} {f fa : EF} {ga : EA} {g h : SB} {pos pos' : Pos} {set : ESet} {is : List Nat}
theorem pg_imp {t t' : TG} (h : PG X tg t) (k : ∀ v σ H Q, t' v σ H Q → t v σ H Q) : PG X tg t' := by
  obtain ⟨h⟩ := h
  exact ⟨fun pins s σ H v u Q I r q => h pins s σ H v u Q I r (k _ _ _ _ q)⟩
theorem pgs_imp {t t' : TGs} (h : PGs X es t) (k : ∀ v σ H Q, t' v σ H Q → t v σ H Q) : PGs X es t' := by
  obtain ⟨h⟩ := h
  exact ⟨fun pins s σ H v u Q I r q => h pins s σ H v u Q I r (k _ _ _ _ q)⟩
theorem g_name (i : Nat) {x : Str} (hN : X.N.Nodup) (hi : X.N[i]? = some x) (hx : Loc X.env.scope x) (hf : X.fn x = true ∨ X.env.scope.names.lookup x = some .local := by first | exact .inl rfl | exact .inr rfl | assumption) : SndG false X (.Name x pos) [i] (setN i) := by
  refine pg_imp (pg_name hN hi hx hf) fun v σ H Q q => ?_
  obtain ⟨B, F, wa, w, env, d, S, r, env', he, k⟩ := q
  cases he
  have r := r.elim id fun z => nomatch z.1
  exact k _ (S.set i r) (by rw [List.length_set]) fun j hj => by rw [List.getElem?_set_ne]; exact fun z => hj (by simp [z])
theorem gs_nil : SndGs X [] [] := by
  refine pgs_imp pgs_nil fun v σ H Q q => ?_
  obtain ⟨B, F, wa, w, env, ds, S, r, env', he, k⟩ := q
  cases ds with
  | nil => cases he; exact ⟨r, k σ S rfl fun _ _ => rfl⟩
  | cons d ds => cases he
theorem gs_cons {i : Nat} (h1 : SndG false X e [i] (setN i)) (h2 : SndGs X es is) (hs : (assignEach (e :: es) X.env).map (·.2) = assign e X.env :: (assignEach es X.env).map (·.2) := by rfl) : SndGs X (e :: es) (i :: is) := by
  refine pgs_imp (pgs_cons h1 h2 hs) fun v σ H Q q => ?_
  obtain ⟨B, F, wa, w, env, ds, S, r, env', he, k⟩ := q
  cases ds with
  | nil => cases he
  | cons d ds =>
    obtain ⟨v1, vs, e, r1, r2⟩ := r
    refine ⟨v1, vs, e, B, F, wa, w, env, d, S, .inl r1, _, rfl, fun σ' S' hl ha => ?_⟩
    refine ⟨B, F, wa, w, _, ds, S', r2, env', he, fun σ2 S2 hl2 ha2 => k σ2 S2 (hl2.trans hl) fun j hj => ?_⟩
    rw [ha2 j fun z => hj (List.mem_cons_of_mem _ z), ha j fun z => hj (by simp at z; simp [z])]
theorem g_tup {k : Nat} {n : Nat} (hc : X.calm = true) (h : SndGs X es is) (hl : is.length = n) (hn : (assignEach es X.env).length = n := by rfl) (hst : (assignEach es X.env).findIdx? (·.1) = none := by rfl) : SndG true X (.Tuple es k pos) is (setT is) := by
  refine pg_imp (pg_tup hc h hn hst) fun v σ H Q q => ?_
  obtain ⟨B, F, wa, w, env, d, S, r, env', he, k⟩ := q
  cases d with
  | tup ds =>
    obtain ⟨a, vs, e, hq, rr⟩ : ∃ a vs, v = .ref a ∧ SqT X.K H a vs ∧ Reps X.K F wa H ds vs := by
      rcases r with ⟨a, u, vs, e, hF, hH, ht, rr⟩ | ⟨_, ds', a, vs, e1, e, hq, rr⟩
      · exact ⟨a, vs, e, ht.sq hH, rr⟩
      · cases e1; exact ⟨a, vs, e, hq, rr⟩
    have hlen : ∀ (is : List Nat) (ds : List D) (env env' : En), setL is ds env = some env' → is.length = ds.length := by
      intro is
      induction is with
      | nil => intro ds env env' h; cases ds with
        | nil => rfl
        | cons d r => cases h
      | cons i is ih => intro ds env env' h; cases ds with
        | nil => cases h
        | cons d r => exact congrArg (· + 1) (ih r _ _ h)
    refine ⟨a, vs, e, hq, ?_, B, F, wa, w, env, ds, S, rr, env', he, k⟩
    rw [← rr.len, ← hlen is ds env env' he, hl]
  | _ => cases he
/-! ### sources -/
def itemsOf : D → Option (List D)
  | .lst ds => some ds
  | .tup ds => some ds
  | _ => none
def iSeq (f : EF) : EI := fun env w => (f env w).bind fun p => (itemsOf p.1.1).map fun ds => (ds, p.2)
def rangeD (lo hi : Int) : List D := (List.range (hi - lo).toNat).map fun (k : Nat) => .int (lo + k)
def downD (hi lo : Int) : List D := (List.range (hi - lo).toNat).map fun (k : Nat) => .int (hi - k)
def iRange (f : EA) : EI := fun env w => (f env w).bind fun p => match p.1 with
  | [(.int j, _)] => if -1000000 ≤ j ∧ j ≤ 1000000 then some (rangeD 0 j, p.2) else none
  | [(.int i, _), (.int j, _)] => if (-1000000 ≤ i ∧ i ≤ 1000000) ∧ -1000000 ≤ j ∧ j ≤ 1000000 then some (rangeD i j, p.2) else none
  | [(.int i, _), (.int j, _), (.int c, _)] => if ((-1000000 ≤ i ∧ i ≤ 1000000) ∧ -1000000 ≤ j ∧ j ≤ 1000000) ∧ c = -1 then some (downD i j, p.2) else none
  | _ => none
def iZipD (f : EA) : EI := fun env w => (f env w).bind fun p => match p.1 with
  | [(.lst xs, _), (.lst ys, _)] => some (List.zipWith (fun a b => .tup [a, b]) xs ys, p.2)
  | _ => none
def enumD : Int → List D → List D
  | _, [] => []
  | i, d :: ds => .tup [.int i, d] :: enumD (i + 1) ds
def iEnumD (f : EA) : EI := fun env w => (f env w).bind fun p => match p.1 with
  | [(.lst xs, _)] => some (enumD 0 xs, p.2)
  | _ => none
def iAny (K : PySem.W.Frag) (tl : TE) : TI := fun σ H R => tl σ H fun x H1 => ∃ a, x = .ref a ∧ (((∃ xs, SqL K H1 a xs) ∧ R (Itl K a) H1) ∨ ((∃ xs, SqT K H1 a xs) ∧ R (Itt K a) H1))
theorem pi_any {l : Expr} {tl : TE} (hl : PE X l tl) : PI X tg l (iAny X.K tl) := by
  refine ⟨fun pins s σ H R I h => ?_⟩
  refine thn (hl.run pins s σ H _ I h) fun v s1 ⟨x, H1, I1, r1, q1⟩ => ?_
  obtain ⟨a, e, q⟩ := q1
  subst e
  cases r1
  rcases q with ⟨⟨xs, hq⟩, q⟩ | ⟨⟨xs, hq⟩, q⟩
  · obtain ⟨its, rv, p, hz⟩ := I1.list hq
    refine wpAny_pyIter_list p.isList ?_
    refine ⟨s1.heap.objs.size, [s1.heap.objs.size], _, _, H1, rfl, I1.kept (t' := s1.toks) fun b o e => Heap.get?_push_of_some _ e, turn_list a _, ⟨_, Heap.get?_push_size _ rfl, rfl, rfl⟩, fun b hb => ?_, q⟩
    have e : b = s1.heap.objs.size := by simpa using hb
    subst e
    exact I1.fpOk (Nat.le_refl _) (I1.hok.fresh (Nat.le_refl _))
  · obtain ⟨its, rv, p, hz⟩ := I1.tuple hq
    refine wpAny_pyIter_tuple (show s1.heap.IsTuple a its.toArray from p) ?_
    refine ⟨s1.heap.objs.size, [s1.heap.objs.size], _, _, H1, rfl, I1.kept (t' := s1.toks) fun b o e => Heap.get?_push_of_some _ e, turn_tuple a _, ⟨_, Heap.get?_push_size _ rfl, rfl, rfl⟩, fun b hb => ?_, q⟩
    have e : b = s1.heap.objs.size := by simpa using hb
    subst e
    exact I1.fpOk (Nat.le_refl _) (I1.hok.fresh (Nat.le_refl _))
theorem Reps.mono' {K : PySem.W.Frag} {F F' : Addr → Prop} {wa : Option Addr} {H H' : Hp} {ds : List D} {vs : List V} (h : Reps K F wa H ds vs) (hF : ∀ a, F a → F' a) (hH : ∀ a o, F a → H a = some o → H' a = some o) : Reps K F' wa H' ds vs := Reps.mono hF hH ds vs h
theorem itOk_list {K : PySem.W.Frag} {wa : Option Addr} {Z F1 : Addr → Prop} {H1 : Hp} {a : Addr} {ds : List D} {vs : List V} (hs : ∀ (F2 : Addr → Prop) (H2 : Hp), (∀ a, F1 a → F2 a) → (∀ a o, F1 a → H1 a = some o → H2 a = some o) → (∀ a o, Z a → H1 a = some o → H2 a = some o) → SqL K H2 a vs) (r : Reps K F1 wa H1 ds vs) : ItOk false K wa Z F1 H1 (Itl K a) ds := by
  intro F2 H2 h1 h2 h3
  have q : SqL K H2 a vs := hs F2 H2 h1 h2 h3
  have r2 : Reps K F2 wa H2 ds vs := r.mono' h1 h2
  refine ⟨fun i d hd => ?_, ⟨vs, q, by rw [← r.len]; exact Nat.le_refl _⟩⟩
  obtain ⟨v, e1, e2⟩ := r2.at hd
  refine ⟨⟨vs, v, q, e1⟩, fun x H3 y => ?_⟩
  obtain ⟨e3, y⟩ := y
  subst e3
  have e4 := (y vs q).symm.trans e1
  cases e4
  exact ⟨F2, fun w2 wk fd => Aft.refl wk fd, .inl e2⟩
theorem itOk_tup {K : PySem.W.Frag} {wa : Option Addr} {Z F1 : Addr → Prop} {H1 : Hp} {a : Addr} {u : HO} {ds : List D} {vs : List V} (hF : F1 a) (hH : H1 a = some u) (ht : TupO u vs) (r : Reps K F1 wa H1 ds vs) : ItOk false K wa Z F1 H1 (Itt K a) ds := by
  intro F2 H2 h1 h2 h3
  have q : SqT K H2 a vs := ht.sq (h2 _ _ hF hH)
  have r2 : Reps K F2 wa H2 ds vs := r.mono' h1 h2
  refine ⟨fun i d hd => ?_, ⟨vs, q, by rw [← r.len]; exact Nat.le_refl _⟩⟩
  obtain ⟨v, e1, e2⟩ := r2.at hd
  refine ⟨⟨vs, v, q, e1⟩, fun x H3 y => ?_⟩
  obtain ⟨e3, y⟩ := y
  subst e3
  have e4 := (y vs q).symm.trans e1
  cases e4
  exact ⟨F2, fun w2 wk fd => Aft.refl wk fd, .inl e2⟩
theorem seq_fz {K : PySem.W.Frag} {wa : Option Addr} {Z F1 : Addr → Prop} {H1 : Hp} {d : D} {v : V} {ds : List D} (r : Rep K F1 wa H1 d v) (hi : itemsOf d = some ds) : ∃ a, v = .ref a ∧ (((∃ xs, SqL K H1 a xs) ∧ ItOk false K wa Z F1 H1 (Itl K a) ds) ∨ ((∃ xs, SqT K H1 a xs) ∧ ItOk false K wa Z F1 H1 (Itt K a) ds)) := by
  cases d with
  | lst es =>
    cases hi
    obtain ⟨a, vs, e, hF, h, rr⟩ := r
    exact ⟨a, e, .inl ⟨⟨vs, .inl (.inl h)⟩, itOk_list (vs := vs) (fun F2 H2 h1 h2 h3 => .inl (.inl (h2 _ _ hF h))) rr⟩⟩
  | tup es =>
    cases hi
    obtain ⟨a, u, vs, e, hF, hH, ht, rr⟩ := r
    exact ⟨a, e, .inr ⟨⟨vs, ht.sq hH⟩, itOk_tup hF hH ht rr⟩⟩
  | _ => cases hi
theorem i_seq (he : Snd X e f) : SndI false X tg e (iSeq (eFz f)) := by
  refine pi_imp (pi_any (e_fz he)) fun σ H R q => ?_
  obtain ⟨B, F, wa, w, env, S, ds, w', hf, k⟩ := q
  unfold iSeq at hf
  obtain ⟨⟨⟨d1, st1⟩, w1⟩, h1, h2⟩ := Option.bind_eq_some_iff.mp hf
  obtain ⟨es, h3, h4⟩ := Option.map_eq_some_iff.mp h2
  cases h4
  have e1 : st1 = .fz := by
    unfold eFz at h1
    obtain ⟨⟨⟨d3, st3⟩, w3⟩, h4, h5⟩ := Option.bind_eq_some_iff.mp h1
    cases st3 <;> cases h5 <;> rfl
  subst e1
  refine ⟨B, F, wa, w, env, S, d1, .fz, _, h1, fun v F1 H1 A r => ?_⟩
  obtain ⟨a, ev, hh⟩ := seq_fz (Z := zF wa F1) r h3
  exact ⟨a, ev, hh.imp (fun z => ⟨z.1, k _ F1 H1 A z.2⟩) fun z => ⟨z.1, k _ F1 H1 A z.2⟩⟩
theorem i_seqC (he : Snd X e f) : SndC false X tg e (iSeq f) := by
  refine pi_imp (pi_any he) fun σ H R q => ?_
  obtain ⟨B, F, wa, w, env, S, ds, w', hf, k⟩ := q
  unfold iSeq at hf
  obtain ⟨⟨⟨d1, st1⟩, w1⟩, h1, h2⟩ := Option.bind_eq_some_iff.mp hf
  obtain ⟨es, h3, h4⟩ := Option.map_eq_some_iff.mp h2
  cases h4
  refine ⟨B, F, wa, w, env, S, d1, st1, _, h1, fun v F1 H1 A r => ?_⟩
  have ownc : ∀ a, OwnAt X.K F1 wa H1 d1 a → ∃ xs, SqL X.K H1 a xs ∧ ItOk false X.K wa (zC wa F1) F1 H1 (Itl X.K a) ds := fun a o => by
    obtain ⟨_, o2, ⟨es, vs, e, h, rr⟩ | ⟨ks, es, vs, e, _⟩⟩ := o
    · subst e
      cases h3
      exact ⟨vs, .inl (.inl h), itOk_list (fun F2 H2 _ _ h3 => .inl (.inl (h3 a _ o2 h))) rr⟩
    · subst e; cases h3
  cases st1 with
  | fz =>
    obtain ⟨a, ev, hh⟩ := seq_fz (Z := zC wa F1) r h3
    exact ⟨a, ev, hh.imp (fun z => ⟨z.1, k _ F1 H1 A z.2⟩) fun z => ⟨z.1, k _ F1 H1 A z.2⟩⟩
  | ow =>
    obtain ⟨a, ev, o, _⟩ := r
    obtain ⟨xs, h5, h6⟩ := ownc a o
    exact ⟨a, ev, .inl ⟨⟨xs, h5⟩, k _ F1 H1 A h6⟩⟩
  | bo =>
    obtain ⟨a, ev, o, _⟩ := r
    obtain ⟨xs, h5, h6⟩ := ownc a o
    exact ⟨a, ev, .inl ⟨⟨xs, h5⟩, k _ F1 H1 A h6⟩⟩
theorem itOk_range {K : PySem.W.Frag} {wa : Option Addr} {Z F1 : Addr → Prop} {H1 : Hp} {lo hi : Int} : ItOk false K wa Z F1 H1 (Itr lo (hi - lo).toNat) (rangeD lo hi) := by
  intro F2 H2 h1 h2 h3
  have hlen : (rangeD lo hi).length = (hi - lo).toNat := by unfold rangeD; simp
  refine ⟨fun i d hd => ?_, by rw [hlen]; exact Nat.le_refl _⟩
  have hi' : i < (hi - lo).toNat := by rw [← hlen]; exact (List.getElem?_eq_some_iff.mp hd).1
  refine ⟨hi', fun x H3 y => ?_⟩
  obtain ⟨e3, y⟩ := y
  subst e3 y
  have e4 : d = .int (lo + i) := by
    unfold rangeD at hd
    rw [List.getElem?_map, List.getElem?_range hi'] at hd
    cases hd; rfl
  subst e4
  exact ⟨F2, fun w2 wk fd => Aft.refl wk fd, .inl rfl⟩
theorem itOk_down {K : PySem.W.Frag} {wa : Option Addr} {Z F1 : Addr → Prop} {H1 : Hp} {hi lo : Int} : ItOk false K wa Z F1 H1 (Itc hi (-1) (hi - lo).toNat) (downD hi lo) := by
  intro F2 H2 h1 h2 h3
  have hlen : (downD hi lo).length = (hi - lo).toNat := by unfold downD; simp
  refine ⟨fun i d hd => ?_, by rw [hlen]; exact Nat.le_refl _⟩
  have hi' : i < (hi - lo).toNat := by rw [← hlen]; exact (List.getElem?_eq_some_iff.mp hd).1
  refine ⟨hi', fun x H3 y => ?_⟩
  obtain ⟨e3, y⟩ := y
  subst e3 y
  have e4 : d = .int (hi + (i : Nat) * -1) := by
    unfold downD at hd
    rw [List.getElem?_map, List.getElem?_range hi'] at hd
    have e5 : some (D.int (hi - (i : Nat))) = some d := hd
    have e6 : hi + ((i : Nat) : Int) * -1 = hi - (i : Nat) := by omega
    rw [e6]
    exact (Option.some.inj e5).symm
  subst e4
  exact ⟨F2, fun w2 wk fd => Aft.refl wk fd, .inl rfl⟩
theorem curs1 {K : PySem.W.Frag} {F : Addr → Prop} {wa : Option Addr} {H : Hp} {d : D} {vs : List V} (h : CurS K F wa H [d] vs) : ∃ v, vs = [v] ∧ Cur K F wa H d v := by
  cases h with
  | cons r t => cases t; exact ⟨_, rfl, r⟩
theorem curs2 {K : PySem.W.Frag} {F : Addr → Prop} {wa : Option Addr} {H : Hp} {d e : D} {vs : List V} (h : CurS K F wa H [d, e] vs) : ∃ v u, vs = [v, u] ∧ Cur K F wa H d v ∧ Cur K F wa H e u := by
  cases h with
  | cons r t =>
    obtain ⟨u, rfl, r2⟩ := curs1 t
    exact ⟨_, u, rfl, r, r2⟩
theorem curs3 {K : PySem.W.Frag} {F : Addr → Prop} {wa : Option Addr} {H : Hp} {d e f : D} {vs : List V} (h : CurS K F wa H [d, e, f] vs) : ∃ v u t, vs = [v, u, t] ∧ Cur K F wa H d v ∧ Cur K F wa H e u ∧ Cur K F wa H f t := by
  cases h with
  | cons r t =>
    obtain ⟨u, t', rfl, r2, r3⟩ := curs2 t
    exact ⟨_, u, t', rfl, r, r2, r3⟩
theorem i_range1 {p : Pos} (hg : Gl X "range") (hm : X.mg "range" = none) (ha : SndA X [e] ga) (hs : starEach [e] X.env = [(false, eval e X.env)] := by rfl) (hone : ∀ env w ds w', ga env w = some (ds, w') → ds.length = 1) : SndI false X tg (.Call (.Name "range" p) [e] [] pos) (iRange ga) := by
  refine pi_imp (pi_range1 hg hm ha hs) fun σ H R q => ?_
  obtain ⟨B, F, wa, w, env, S, ds, w', hf, k⟩ := q
  unfold iRange at hf
  obtain ⟨⟨ps, w1⟩, h1, h2⟩ := Option.bind_eq_some_iff.mp hf
  have h0 := hone _ _ _ _ h1
  refine ⟨B, F, wa, w, env, S, ps, w1, h1, fun vs F1 H1 A r => ?_⟩
  have rc := r.cur
  match ps, h0 with
  | [(d, st)], _ =>
    obtain ⟨v, rfl, c⟩ := curs1 rc
    cases d with
    | int j =>
      dsimp only at h2
      split at h2
      · rename_i hb
        cases h2
        refine ⟨j, by rw [show v = .int j from c], by omega, by omega, ?_⟩
        have := k (Itr 0 j.toNat) F1 H1 A (by
          have e : j.toNat = (j - 0).toNat := by omega
          rw [e]
          exact itOk_range)
        exact this
      · cases h2
    | _ => cases h2
theorem i_range2 {p : Pos} (hg : Gl X "range") (hm : X.mg "range" = none) (ha : SndA X [e, e1] ga) (hone : ∀ env w ds w', ga env w = some (ds, w') → ds.length = 2) (hs : starEach [e, e1] X.env = [(false, eval e X.env), (false, eval e1 X.env)] := by rfl) (hs2 : starEach [e1] X.env = [(false, eval e1 X.env)] := by rfl) : SndI false X tg (.Call (.Name "range" p) [e, e1] [] pos) (iRange ga) := by
  refine pi_imp (pi_range2 hg hm ha hs hs2) fun σ H R q => ?_
  obtain ⟨B, F, wa, w, env, S, ds, w', hf, k⟩ := q
  unfold iRange at hf
  obtain ⟨⟨ps, w1⟩, h1, h2⟩ := Option.bind_eq_some_iff.mp hf
  have h0 := hone _ _ _ _ h1
  refine ⟨B, F, wa, w, env, S, ps, w1, h1, fun vs F1 H1 A r => ?_⟩
  have rc := r.cur
  match ps, h0 with
  | [(d, st), (d2, st2)], _ =>
    obtain ⟨v, u, rfl, c, c2⟩ := curs2 rc
    cases d with
    | int j => cases d2 with
      | int l =>
        dsimp only at h2
        split at h2
        · rename_i hb
          cases h2
          exact ⟨j, l, by rw [show v = .int j from c, show u = .int l from c2], ⟨by omega, by omega, by omega, by omega⟩, k _ F1 H1 A itOk_range⟩
        · cases h2
      | _ => cases h2
    | _ => cases h2
theorem i_range3 {p : Pos} (hg : Gl X "range") (hm : X.mg "range" = none) (ha : SndA X [e, e1, e2] ga) (hone : ∀ env w ds w', ga env w = some (ds, w') → ds.length = 3) (hs : starEach [e, e1, e2] X.env = (false, eval e X.env) :: starEach [e1, e2] X.env := by rfl) (hpl : (backTo pos (starEach [e1, e2] X.env)).any (·.1) = false := by rfl) : SndI false X tg (.Call (.Name "range" p) [e, e1, e2] [] pos) (iRange ga) := by
  refine pi_imp (pi_range3 hg hm ha hs hpl) fun σ H R q => ?_
  obtain ⟨B, F, wa, w, env, S, ds, w', hf, k⟩ := q
  unfold iRange at hf
  obtain ⟨⟨ps, w1⟩, h1, h2⟩ := Option.bind_eq_some_iff.mp hf
  have h0 := hone _ _ _ _ h1
  refine ⟨B, F, wa, w, env, S, ps, w1, h1, fun vs F1 H1 A r => ?_⟩
  have rc := r.cur
  match ps, h0 with
  | [(d, st), (d2, st2), (d3, st3)], _ =>
    obtain ⟨v, u, t, rfl, c, c2, c3⟩ := curs3 rc
    cases d with
    | int j => cases d2 with
      | int l => cases d3 with
        | int m =>
          dsimp only at h2
          split at h2
          · rename_i hb
            obtain ⟨hb, hm⟩ := hb
            subst hm
            cases h2
            exact ⟨j, l, -1, _, by rw [show v = .int j from c, show u = .int l from c2, show t = .int (-1) from c3], RgC.neg (by omega) (by omega) (by omega) (by omega), k _ F1 H1 A itOk_down⟩
          · cases h2
        | _ => cases h2
      | _ => cases h2
    | _ => cases h2
theorem a1_len {f : EF} : ∀ env w ds w', aCons f aNil env w = some (ds, w') → ds.length = 1 := fun env w ds w' h => by
  unfold aCons aNil at h
  obtain ⟨p, _, h2⟩ := Option.bind_eq_some_iff.mp h
  cases h2; rfl
theorem a2_len {f g : EF} : ∀ env w ds w', aCons f (aCons g aNil) env w = some (ds, w') → ds.length = 2 := fun env w ds w' h => by
  unfold aCons at h
  obtain ⟨p, _, h2⟩ := Option.bind_eq_some_iff.mp h
  obtain ⟨⟨q, w2⟩, h3, h4⟩ := Option.bind_eq_some_iff.mp h2
  cases h4
  show q.length + 1 = 2
  rw [a1_len _ _ _ _ h3]
theorem a3_len {f g h : EF} : ∀ env w ds w', aCons f (aCons g (aCons h aNil)) env w = some (ds, w') → ds.length = 3 := fun env w ds w' h => by
  rw [aCons] at h
  obtain ⟨p, _, h2⟩ := Option.bind_eq_some_iff.mp h
  obtain ⟨⟨q, w2⟩, h3, h4⟩ := Option.bind_eq_some_iff.mp h2
  cases h4
  show q.length + 1 = 3
  rw [a2_len _ _ _ _ h3]
theorem zipW_at {xs ys : List D} {i : Nat} {d : D} (h : (List.zipWith (fun a b => D.tup [a, b]) xs ys)[i]? = some d) : ∃ a b, xs[i]? = some a ∧ ys[i]? = some b ∧ d = .tup [a, b] := by
  rw [List.getElem?_zipWith] at h
  split at h
  · rename_i a b h1 h2
    cases h
    exact ⟨a, b, h1, h2, rfl⟩
  · cases h
/-- zip of two lists -/
theorem i_zip {p tpos : Pos} {elts : List Expr} {kk : Nat} (hg : Gl X "zip") (hm : X.mg "zip" = none) (ha : SndA X [e, e1] ga) (hone : ∀ env w ds w', ga env w = some (ds, w') → ds.length = 2) (hs : starEach [e, e1] X.env = (false, eval e X.env) :: starEach [e1] X.env := by rfl) (hpl : (backTo pos (starEach [e1] X.env)).any (·.1) = false := by rfl) :
    SndC true X (.Tuple elts kk tpos) (.Call (.Name "zip" p) [e, e1] [] pos) (iZipD ga) := by
  refine pi_imp (pi_zip hg hm ha hs hpl) fun σ H R q => ?_
  obtain ⟨B, F, wa, w, env, S, ds, w', hf, k⟩ := q
  unfold iZipD at hf
  obtain ⟨⟨ps, w1⟩, h1, h2⟩ := Option.bind_eq_some_iff.mp hf
  have h0 := hone _ _ _ _ h1
  refine ⟨B, F, wa, w, env, S, ps, w1, h1, fun vs F1 H1 A r => ?_⟩
  have stab : ∀ {st : O3} {xs : List D} {v : V}, RS X.K B F1 wa H H1 (.lst xs) st v → ∃ a us, v = .ref a ∧ Reps X.K F1 wa H1 xs us ∧ ∀ H2, (∀ a o, F1 a → H1 a = some o → H2 a = some o) → (∀ a o, wa ≠ some a → H1 a = some o → H2 a = some o) → SqL X.K H2 a us := by
    intro st xs v r
    have own : ∀ a, OwnAt X.K F1 wa H1 (.lst xs) a → ∃ us, Reps X.K F1 wa H1 xs us ∧ ∀ H2, (∀ a o, F1 a → H1 a = some o → H2 a = some o) → (∀ a o, wa ≠ some a → H1 a = some o → H2 a = some o) → SqL X.K H2 a us := fun a o => by
      obtain ⟨_, o2, ⟨es, vs, e, h, rr⟩ | ⟨ks, es, vs, e, _⟩⟩ := o
      · cases e; exact ⟨vs, rr, fun H2 _ g => .inl (.inl (g _ _ o2 h))⟩
      · cases e
    cases st with
    | fz =>
      obtain ⟨a, vs, e, hF, h, rr⟩ := r
      exact ⟨a, vs, e, rr, fun H2 g _ => .inl (.inl (g _ _ hF h))⟩
    | ow => obtain ⟨a, e, o, _⟩ := r; obtain ⟨us, q1, q2⟩ := own a o; exact ⟨a, us, e, q1, q2⟩
    | bo => obtain ⟨a, e, o, _⟩ := r; obtain ⟨us, q1, q2⟩ := own a o; exact ⟨a, us, e, q1, q2⟩
  match ps, h0 with
  | [(d, st), (d2, st2)], _ =>
    obtain ⟨r, _⟩ := r
    cases r with
    | @cons _ v1 _ _ r1 rr => cases rr with
      | @cons _ v2 _ _ r2 rrr =>
        cases rrr
        cases d with
        | lst xs => cases d2 with
          | lst ys =>
            cases h2
            obtain ⟨a, us, e1, p1, p2⟩ := stab r1
            obtain ⟨b, ts, e2, p3, p4⟩ := stab r2
            refine ⟨a, b, us, ts, by rw [show v1 = .ref a from e1, show v2 = .ref b from e2], p2 H1 (fun _ _ _ h => h) (fun _ _ _ h => h), p4 H1 (fun _ _ _ h => h) (fun _ _ _ h => h), k _ F1 H1 A fun F2 H2 g1 g2 g3 => ?_⟩
            have q1 := p2 H2 g2 g3
            have q2 := p4 H2 g2 g3
            have s1 := p1.mono' g1 g2
            have s2 := p3.mono' g1 g2
            refine ⟨fun i d hd => ?_, ⟨us, ts, q1, q2, ?_⟩⟩
            · obtain ⟨x, y, z1, z2, rfl⟩ := zipW_at hd
              obtain ⟨vx, y1, y2⟩ := s1.at z1
              obtain ⟨vy, y3, y4⟩ := s2.at z2
              refine ⟨⟨us, ts, vx, vy, q1, q2, y1, y3⟩, fun x' H3 yl => ?_⟩
              obtain ⟨T, a1, b1, e5, nT, e6, f1, f2⟩ := yl
              have ex : a1 = vx := Option.some.inj ((f1 _ q1).symm.trans y1)
              have ey : b1 = vy := Option.some.inj ((f2 _ q2).symm.trans y3)
              subst ex ey e5 e6
              refine ⟨F2, fun w2 wk fd => Aft.new0 wk fd nT, .inr ⟨rfl, _, T, [a1, b1], rfl, rfl, .inl (.inl upd_same), ?_⟩⟩
              have m : ∀ d v, Rep X.K F2 wa H2 d v → Rep X.K F2 wa (upd H2 T (.tup [a1, b1])) d v := fun d v r => Rep.mono (fun _ z => z) (fun c o _ h => by rw [upd_ne (ne_of_none h nT)]; exact h) d v r
              exact ⟨a1, [b1], rfl, m _ _ y2, b1, [], rfl, m _ _ y4, rfl⟩
            · rw [List.length_zipWith, ← p1.len, ← p3.len]
              omega
          | _ => cases h2
        | _ => cases h2
/-! ### for -/
theorem s_for {u : Bool} {body : List Stmt} {fi : EI} (hp : PassesOwn (model X.prog X.w) X.A X.env X.xe) (hc : X.calm = true) (hi : SndI u X tg iter fi) (hg : SndG u X tg is set) (hb : SndSs X body g) (hs : ∀ x, foldedSetIterable iter X.env x = pure x := by intro _; rfl) : SndS X (.For tg iter body [] pos) (sFor set fi g) := by
  refine ps_imp (ps_for hp hc hi hg hb hs) fun Dn σ H q => ?_
  obtain ⟨B, F, wa, w, env, S, out, hf, k⟩ := q
  unfold sFor at hf
  obtain ⟨⟨ds, w1⟩, h1, h2⟩ := Option.bind_eq_some_iff.mp hf
  refine ⟨B, F, wa, w, env, S, ds, w1, h1, fun J F1 H1 A ok => ?_⟩
  have A0 := A.toS S.bd
  have S1 := S.aft A
  refine ⟨fun i m σ' H' => i ≤ ds.length ∧ m = ds.length - i ∧ ∃ F' w' env', AftS X.K B wa F1 H1 w' F' H' ∧ SI X.K B F' wa H' w' σ' env' ∧ forL set g (ds.drop i) env' w' = some out, ⟨ds.length, Nat.zero_le _, by simp, F1, w1, env, AftS.refl S1.wk S1.fd, S1, h2⟩, ?_⟩
  rintro i m σ' H' ⟨hle, hm, F', w', env', A', S', h3⟩
  subst hm
  obtain ⟨okI, okS⟩ := ok F' H' A'.sub A'.kf A'.kf
  by_cases hlt : i < ds.length
  · have hd : ds[i]? = some ds[i] := by simp [hlt]
    obtain ⟨go, yl⟩ := okI i _ hd
    have e1 : ds.drop i = ds[i] :: ds.drop (i + 1) := List.drop_eq_getElem_cons hlt
    rw [e1] at h3
    have h3' : ((set ds[i] env').bind fun env1 => (g env1 w').bind fun o => match o with
      | .nx e w' => forL set g (ds.drop (i + 1)) e w'
      | .ct e w' => forL set g (ds.drop (i + 1)) e w'
      | .bk e w' => some (.nx e w')
      | .rt r w' => some (.rt r w')) = some out := h3
    obtain ⟨env1, h4, h5⟩ := Option.bind_eq_some_iff.mp h3'
    obtain ⟨o, h6, h7⟩ := Option.bind_eq_some_iff.mp h5
    refine .inr ⟨go, fun σ2 H2 => ∃ F2 w2 env2, AftS X.K B wa F1 H1 w2 F2 H2 ∧ SI X.K B F2 wa H2 w2 σ2 env2 ∧ forL set g (ds.drop (i + 1)) env2 w2 = some out, fun σ2 H2 hN => ⟨ds.length - (i + 1), by omega, by omega, rfl, hN⟩, fun x H3 y => ?_⟩
    obtain ⟨F3, A3, r3⟩ := yl x H3 y
    have A3' := A3 w' S'.wk S'.fd
    have S3 := S'.aft A3'
    have A13 := A'.trans (A3'.toS S'.bd)
    refine ⟨B, F3, wa, w', env', _, S3, r3, env1, h4, fun σ2 S2 _ _ => ?_⟩
    refine ⟨B, F3, wa, w', env1, S2, o, h6, ?_⟩
    cases o with
    | nx e w3 => exact fun σ4 F4 H4 A4 S4 => ⟨F4, w3, e, A13.trans A4, S4, h7⟩
    | ct e w3 => exact fun σ4 F4 H4 A4 S4 => ⟨F4, w3, e, A13.trans A4, S4, h7⟩
    | bk e w3 => cases h7; exact fun σ4 F4 H4 A4 S4 => k σ4 F4 H4 (A0.trans (A13.trans A4)) S4
    | rt r w3 => cases h7; exact fun v F4 H4 A4 r => k v F4 H4 (A0.trans (A13.trans A4)) r
  · have e : i = ds.length := by omega
    subst e
    rw [List.drop_length] at h3
    have h3' : some (Out.nx env' w') = some out := h3
    cases h3'
    exact .inl ⟨okS, k σ' F' H' (A0.trans A') S'⟩
theorem s_unp {u : Bool} {tg : Expr} (he : Snd X e f) (hg : SndG u X tg is set) (hs : swapsWithSole [tg] e pos.line X.env = pure false := by rfl) (hw : swappedStores [tg] e X.env = pure none := by rfl) (h1 : (assignEach [tg] X.env).map (·.2) = [assign tg X.env] := by rfl) : SndS X (.Assign [tg] e pos) (sUnp set f) := by
  refine ps_imp (ps_asg (e_fz he) hg hs hw h1) fun Dn σ H q => ?_
  obtain ⟨B, F, wa, w, env, S, out, hf, k⟩ := q
  unfold sUnp at hf
  obtain ⟨⟨⟨d1, st1⟩, w1⟩, h1, h2⟩ := Option.bind_eq_some_iff.mp hf
  obtain ⟨env2, h3, h4⟩ := Option.map_eq_some_iff.mp h2
  cases h4
  have e1 : st1 = .fz := by
    unfold eFz at h1
    obtain ⟨⟨⟨d3, st3⟩, w3⟩, h4, h5⟩ := Option.bind_eq_some_iff.mp h1
    cases st3 <;> cases h5 <;> rfl
  subst e1
  exact ⟨B, F, wa, w, env, S, d1, .fz, _, h1, fun v F1 H1 A r => ⟨B, F1, wa, w1, env, d1, S.aft A, .inl r, env2, h3, fun σ' S' _ _ => k σ' F1 H1 (A.toS S.bd) S'⟩⟩
theorem s_par (i j : Nat) {x y : Str} {a b : Expr} {px py pt : Pos} {kt k2 pt2} (hc : X.calm = true) (hN : X.N.Nodup) (hi : X.N[i]? = some x) (hj : X.N[j]? = some y) (hij : i ≠ j)
    (hx : X.env.scope.names.lookup x = some .local) (hy : X.env.scope.names.lookup y = some .local) (ha : SndA X [a, b] ga)
    (hw : swappedStores [.Tuple [.Name x px, .Name y py] kt pt] (.Tuple [a, b] k2 pt2) X.env = pure (some [x, y]) := by rfl)
    (hs : swapsWithSole [.Tuple [.Name x px, .Name y py] kt pt] (.Tuple [a, b] k2 pt2) pos.line X.env = pure false := by rfl) :
    SndS X (.Assign [.Tuple [.Name x px, .Name y py] kt pt] (.Tuple [a, b] k2 pt2) pos) (sPar i j ga) := by
  refine ps_imp (ps_par hc hN hi hj hij hx hy ha hw hs) fun Dn σ H q => ?_
  obtain ⟨B, F, wa, w, env, S, out, hf, k⟩ := q
  unfold sPar at hf
  obtain ⟨⟨ps, w1⟩, h1, h2⟩ := Option.bind_eq_some_iff.mp hf
  refine ⟨B, F, wa, w, env, S, ps, w1, h1, fun vs F1 H1 A r => ?_⟩
  dsimp only at h2
  split at h2
  · rename_i d s e t
    split at h2
    · rename_i hst
      cases h2
      obtain ⟨r, ap⟩ := r
      cases r with
      | @cons _ v1 _ _ r1 rr => cases rr with
        | @cons _ v2 _ _ r2 rrr =>
          cases rrr
          refine ⟨v1, v2, rfl, ?_⟩
          have S1 := S.aft A
          have A1 := A.toS S.bd
          have step1 : SI X.K B F1 wa H1 w1 (σ.set i (some v1)) (env.set i (some (d, s == .ow))) := by
            cases s with
            | fz => exact S1.set i r1
            | ow =>
              obtain ⟨a, ea, o, z⟩ := r1
              have ea' : v1 = .ref a := ea
              subst ea'
              exact S1.setOw i o (fun b => S.bd a b z) fun j e _ g => S.newer z j e g
            | bo => exact absurd rfl hst.1
          cases t with
          | fz => exact k _ F1 H1 A1 (step1.set j r2)
          | ow =>
            obtain ⟨b, eb, o2, z2⟩ := r2
            have eb' : v2 = .ref b := eb
            subst eb'
            refine k _ F1 H1 A1 (step1.setOw j o2 (fun bb => S.bd b bb z2) fun l e' hl g => ?_)
            by_cases hil : i = l
            · subst hil
              cases s with
              | ow =>
                have ne : V.ref b ≠ v1 := ap.1 rfl ((e, O3.ow), V.ref b) (List.mem_cons_self ..) rfl
                by_cases hlen : i < σ.length
                · rw [List.getElem?_set_self hlen]
                  exact fun z => ne (Option.some.inj (Option.some.inj z)).symm
                · rw [List.getElem?_eq_none (by rw [List.length_set]; omega)]; simp
              | fz => by_cases hlen : i < env.length
                      · rw [List.getElem?_set_self hlen] at g; cases g
                      · rw [List.getElem?_eq_none (by rw [List.length_set]; omega)] at g; cases g
              | bo => exact absurd rfl hst.1
            · rw [List.getElem?_set_ne hil] at g ⊢
              exact S.newer z2 l e' g
          | bo => exact absurd rfl hst.2
    · cases h2
  · cases h2
end
end Dl

set_option Elab.async false
set_option linter.all false
set_option maxRecDepth 100000
set_option maxHeartbeats 4000000
namespace Dl
open PySem PySem.Spec PyProof.Rows L2
/-! ### comprehensions -/
def wipeE (env : En) : List Nat → En
  | [] => env
  | v :: vs => (wipeE env vs).set v none
def lcL (set : ESet) (t : ET) (fe : EF) : List D → En → Option Wd → Option (List D × Option Wd)
  | [], _, w => some ([], w)
  | d :: ds, env, w => (set d env).bind fun env1 => (t env1 w).bind fun p => if p.1 = true then (eFz fe env1 p.2).bind fun q => (lcL set t fe ds env q.2).map fun r => (q.1.1 :: r.1, r.2) else lcL set t fe ds env p.2
def eLC (vs : List Nat) (set : ESet) (fi : EI) (t : ET) (fe : EF) : EF := fun env w => (fi env w).bind fun p => if p.1.length ≤ lim then (lcL set t fe p.1 (wipeE env vs) p.2).map fun r => ((.lst r.1, .ow), r.2) else none
def tYesD : ET := fun _ w => some (true, w)
def SndTs (X : Cx) (ifs : List Expr) (f : ET) : Prop := PTs X ifs (rdT X.K f)
theorem SI.none {K : PySem.W.Frag} {B F : Addr → Prop} {wa : Option Addr} {H : Hp} {w : Option Wd} {σ : L2.St} {env : En} (S : SI K B F wa H w σ env) (i : Nat) : SI K B F wa H w (σ.set i Option.none) (env.set i Option.none) where
  len := by rw [List.length_set, List.length_set]; exact S.len
  fz := fun j e h => by
    by_cases hj : i = j
    · subst hj
      by_cases hl : i < env.length
      · rw [List.getElem?_set_self hl] at h; cases h
      · rw [List.getElem?_eq_none (by rw [List.length_set]; omega)] at h; cases h
    · rw [List.getElem?_set_ne hj] at h ⊢
      exact S.fz j e h
  ow := fun j e h => by
    by_cases hj : i = j
    · subst hj
      by_cases hl : i < env.length
      · rw [List.getElem?_set_self hl] at h; cases h
      · rw [List.getElem?_eq_none (by rw [List.length_set]; omega)] at h; cases h
    · rw [List.getElem?_set_ne hj] at h ⊢
      exact S.ow j e h
  ne := fun j k d1 d2 a hjk h1 h2 g => by
    have hj : i ≠ j := fun z => by
      subst z
      by_cases hl : i < env.length
      · rw [List.getElem?_set_self hl] at h1; cases h1
      · rw [List.getElem?_eq_none (by rw [List.length_set]; omega)] at h1; cases h1
    have hk : i ≠ k := fun z => by
      subst z
      by_cases hl : i < env.length
      · rw [List.getElem?_set_self hl] at h2; cases h2
      · rw [List.getElem?_eq_none (by rw [List.length_set]; omega)] at h2; cases h2
    rw [List.getElem?_set_ne hj] at h1 g
    rw [List.getElem?_set_ne hk] at h2 ⊢
    exact S.ne j k d1 d2 a hjk h1 h2 g
  wk := S.wk
  fd := S.fd
  bd := S.bd
theorem SI.wipe {K : PySem.W.Frag} {B F : Addr → Prop} {wa : Option Addr} {H : Hp} {w : Option Wd} {σ : L2.St} {env : En} (S : SI K B F wa H w σ env) : ∀ vs : List Nat, SI K B F wa H w (wipe σ vs) (wipeE env vs)
  | [] => S
  | v :: vs => (S.wipe vs).none v
theorem wipe_at (σ : L2.St) {i : Nat} : ∀ {vs : List Nat}, i ∈ vs → (wipe σ vs)[i]? = if i < σ.length then some none else none
  | v :: vs, h => by
    unfold wipe
    by_cases e : v = i
    · subst e
      by_cases hl : v < σ.length
      · rw [List.getElem?_set_self (by rw [wipe_length]; exact hl), if_pos hl]
      · rw [List.getElem?_eq_none (by rw [List.length_set, wipe_length]; omega), if_neg hl]
    · rw [List.getElem?_set_ne e]
      exact wipe_at σ (by
        rcases List.mem_cons.mp h with z | z
        · exact absurd z.symm e
        · exact z)
theorem wipe_same {σ σ2 : L2.St} {vs is : List Nat} (hl : σ2.length = (wipe σ vs).length) (ha : ∀ i, i ∉ is → σ2[i]? = (wipe σ vs)[i]?) (hi : ∀ i ∈ is, i ∈ vs) : wipe σ2 vs = wipe σ vs := by
  apply List.ext_getElem?
  intro i
  by_cases h : i ∈ vs
  · rw [wipe_at σ2 h, wipe_at σ h, hl, wipe_length]
  · rw [wipe_out h, ha i fun z => h (hi i z)]
theorem pts_imp {X : Cx} {ifs : List Expr} {t t' : TT} (h : PTs X ifs t) (k : ∀ σ H Q, t' σ H Q → t σ H Q) : PTs X ifs t' := ⟨fun pins s σ H Q I q => h.run pins s σ H Q I (k _ _ _ q)⟩
section
variable {X : Cx} {tg e elt iter : Expr} {ifs : List Expr} {f fe : EF} {fi : EI} {t : ET} {pos pos' : Pos} {set : ESet} {is vs : List Nat}
theorem ts_nil : SndTs X [] tYesD := by
  refine pts_imp pts_nil fun σ H Q q => ?_
  obtain ⟨B, F, wa, w, env, S, b, w', hf, k⟩ := q
  cases hf
  exact k F H (Aft.refl S.wk S.fd)
theorem ts_one {c : Expr} (h : SndT X c t) : SndTs X [c] t := pts_one h
/-- the new list's object is changed while it is made -/
theorem Aft.over {K : PySem.W.Frag} {F F1 : Addr → Prop} {wa : Option Addr} {H H1 : Hp} {w1 : Option Wd} {p : Addr} {o : HO} (A : Aft K wa F H w1 F1 H1) (hp : H p = none) (nf : ¬ F1 p) (nw : wa ≠ some p) : Aft K wa F H w1 F1 (upd H1 p o) where
  sub := A.sub
  new := A.new
  keep := fun a u h e => by rw [upd_ne (ne_of_none h hp)]; exact A.keep a u h e
  kf := fun a u f h => by rw [upd_ne (ne_of_none h hp)]; exact A.kf a u f h
  dom := fun a h => by
    by_cases e : a = p
    · subst e; exact hp
    · rw [upd_ne e] at h; exact A.dom a h
  wk := by
    have k := A.wk
    cases wa with
    | none => cases w1 with
      | none => trivial
      | some W => exact k
    | some x => cases w1 with
      | none => exact k
      | some W =>
        obtain ⟨g1, da, g2, g3, g4⟩ := k
        exact ⟨g1, da, g2, by rw [upd_ne fun z => nw (by rw [z])]; exact g3, by rw [upd_ne fun z => nf (by rw [← z]; exact g2)]; exact g4⟩
  fd := fun a f => by
    by_cases e : a = p
    · subst e; exact absurd f nf
    · rw [upd_ne e]; exact A.fd a f
theorem lc_of {u : Bool} {K : PySem.W.Frag} {σ : L2.St} {H : Hp} {Q : VK} (hiv : ∀ i ∈ is, i ∈ vs) (q : rd K (eLC vs set fi t fe) σ H Q) : tLc (rdI u K zC fi) (rdG u K is set) (rdT K t) (rd K (eFz fe)) vs σ H Q := by
  obtain ⟨B, F, wa, w, env, S, d, st, w', hf, k⟩ := q
  unfold eLC at hf
  obtain ⟨⟨ds, w1⟩, h1, h2⟩ := Option.bind_eq_some_iff.mp hf
  dsimp only at h2
  split at h2
  · rename_i hlen
    obtain ⟨⟨xs, w9⟩, h3, h4⟩ := Option.map_eq_some_iff.mp h2
    cases h4
    refine ⟨B, F, wa, w, env, S, ds, w1, h1, fun J F1 H1 A ok => fun Da nD => ?_⟩
    have nw : wa ≠ some Da := A.wk.ne nD
    refine ⟨fun i m H' => i ≤ ds.length ∧ m = ds.length - i ∧ ∃ F' w2 av ad rest, Aft K wa F1 H1 w2 F' H' ∧ ¬ F' Da ∧ H' Da = some (.lst av) ∧ Reps K F' wa H' ad av ∧ ad.length ≤ i ∧ lcL set t fe (ds.drop i) (wipeE env vs) w2 = some (rest, w9) ∧ ad ++ rest = xs, ⟨ds.length, Nat.zero_le _, by simp, F1, w1, [], [], xs, Aft.new0 A.wk A.fd nD, fun z => A.fd Da z nD, upd_same, rfl, Nat.zero_le _, h3, rfl⟩, ?_⟩
    rintro i m H' ⟨hle, hm, F', w2, av, ad, rest, A', nF, hD, ra, hal, h5, h6⟩
    subst hm
    obtain ⟨okI, okS⟩ := ok F' H' A'.sub A'.kf fun a o z h => A'.keep a o h z
    by_cases hlt : i < ds.length
    · have hd : ds[i]? = some ds[i] := by simp [hlt]
      obtain ⟨go, yl⟩ := okI i _ hd
      rw [List.drop_eq_getElem_cons hlt] at h5
      have h5' : ((set ds[i] (wipeE env vs)).bind fun env1 => (t env1 w2).bind fun p => if p.1 = true then (eFz fe env1 p.2).bind fun q => (lcL set t fe (ds.drop (i + 1)) (wipeE env vs) q.2).map fun r => (q.1.1 :: r.1, r.2) else lcL set t fe (ds.drop (i + 1)) (wipeE env vs) p.2) = some (rest, w9) := h5
      obtain ⟨env1, h7, h8⟩ := Option.bind_eq_some_iff.mp h5'
      obtain ⟨⟨b, w3⟩, h9, h10⟩ := Option.bind_eq_some_iff.mp h8
      refine .inr ⟨go, fun H2 => i + 1 ≤ ds.length ∧ ∃ F2 w2 av ad rest, Aft K wa F1 H1 w2 F2 H2 ∧ ¬ F2 Da ∧ H2 Da = some (.lst av) ∧ Reps K F2 wa H2 ad av ∧ ad.length ≤ i + 1 ∧ lcL set t fe (ds.drop (i + 1)) (wipeE env vs) w2 = some (rest, w9) ∧ ad ++ rest = xs, fun H2 hN => ⟨ds.length - (i + 1), by omega, hN.1, rfl, hN.2⟩, fun x H3 y => ?_⟩
      obtain ⟨F3, A3, r3⟩ := yl x H3 y
      have S' : SI K B F' wa H' w2 (wipe σ vs) (wipeE env vs) := (S.aft (A.trans A')).wipe vs
      have A3' := A3 w2 S'.wk S'.fd
      refine ⟨B, F3, wa, w2, wipeE env vs, _, S'.aft A3', r3, env1, h7, fun σ2 S2 hl ha => ⟨wipe_same hl ha hiv, ?_⟩⟩
      have nf3 : ¬ F3 Da := fun z => by
        rcases A3'.new Da z with z | z
        · exact nF z
        · rw [hD] at z; cases z
      have hD3 : H3 Da = some (.lst av) := A3'.keep Da _ hD nw
      refine ⟨B, F3, wa, w2, env1, S2, b, w3, h9, fun F4 H4 A4 => ?_⟩
      have nf4 : ¬ F4 Da := fun z => by
        rcases A4.new Da z with z | z
        · exact nf3 z
        · rw [hD3] at z; cases z
      have hD4 : H4 Da = some (.lst av) := A4.keep Da _ hD3 nw
      have A14 := A'.trans (A3'.trans A4)
      have ra4 : Reps K F4 wa H4 ad av := (A3'.trans A4).reps ra
      cases b with
      | true =>
        refine iteT ?_
        have h10' : ((eFz fe env1 w3).bind fun q => (lcL set t fe (ds.drop (i + 1)) (wipeE env vs) q.2).map fun r => (q.1.1 :: r.1, r.2)) = some (rest, w9) := h10
        obtain ⟨⟨⟨d5, st5⟩, w5⟩, h11, h12⟩ := Option.bind_eq_some_iff.mp h10'
        obtain ⟨⟨rest2, w6⟩, h13, h14⟩ := Option.map_eq_some_iff.mp h12
        cases h14
        have e5 : st5 = .fz := by
          unfold eFz at h11
          obtain ⟨⟨⟨d6, st6⟩, w7⟩, g4, g5⟩ := Option.bind_eq_some_iff.mp h11
          cases st6 <;> cases g5 <;> rfl
        subst e5
        refine ⟨B, F4, wa, w3, env1, S2.aft A4, d5, .fz, w5, h11, fun v F5 H5 A5 r5 => ?_⟩
        have nf5 : ¬ F5 Da := fun z => by
          rcases A5.new Da z with z | z
          · exact nf4 z
          · rw [hD4] at z; cases z
        have hD5 : H5 Da = some (.lst av) := A5.keep Da _ hD4 nw
        have hal2 := ra.len
        refine ⟨av, hD5, by rw [← hal2]; exact Nat.lt_of_le_of_lt (Nat.le_trans hal (Nat.le_trans hle hlen)) (by rw [sizeLine_eq, lim_eq]; decide), by omega, F5, w5, av ++ [v], ad ++ [d5], rest2, (A14.trans A5).over nD nf5 nw, nf5, upd_same, ?_, by rw [List.length_append]; exact Nat.add_le_add_right hal 1, h13, by rw [List.append_assoc]; exact h6⟩
        have ra5 : Reps K F5 wa H5 (ad ++ [d5]) (av ++ [v]) := (A5.reps ra4).app (.one r5)
        exact ra5.mono' (fun _ z => z) fun c o f h => by rw [upd_ne fun z => nf5 (by rw [← z]; exact f)]; exact h
      | false =>
        refine iteF ?_
        exact ⟨by omega, F4, w3, av, ad, rest, A14, nf4, hD4, ra4, by omega, h10, h6⟩
    · have e : i = ds.length := by omega
      subst e
      rw [List.drop_length] at h5
      have h5' : some ([], w2) = some (rest, w9) := h5
      cases h5'
      rw [List.append_nil] at h6
      subst h6
      refine .inl ⟨okS, k _ F' H' (A.trans A') ?_⟩
      exact ⟨Da, rfl, ⟨nF, nw, .inl ⟨_, _, rfl, hD, ra⟩⟩, A.dom Da nD⟩
  · cases h2
theorem e_lc {u : Bool} {scope : Scope} {own : List (Str × Nat)} (hc : X.calm = true) (hN : X.N.Nodup) (hi : SndC u X tg iter fi) (ok : BlkOk X.N X.env.scope scope own) (hiv : ∀ i ∈ is, i ∈ own.map (·.2))
    (hg : ∀ (s : Shared) (H : Hp) (C : Addr) (cl : List (Str × Addr)) (fp : List Addr), SndG u (X.blk s H scope (compEnvC scope cl C X.env) fp) tg is set) (ht : ∀ (s : Shared) (H : Hp) (C : Addr) (cl : List (Str × Addr)) (fp : List Addr), SndTs (X.blk s H scope (compEnvC scope cl C X.env) fp) ifs t)
    (he : ∀ (s : Shared) (H : Hp) (C : Addr) (cl : List (Str × Addr)) (fp : List Addr), Snd (X.blk s H scope (compEnvC scope cl C X.env) fp) elt fe) (hs : ∀ x, foldedSetIterable iter X.env x = pure x := by intro _; rfl) :
    Snd X (.ListComp elt [⟨tg, iter, ifs, 0⟩] scope pos) (eLC (own.map (·.2)) set fi t fe) :=
  pe_imp (pe_lc (g := rdG u X.K is set) (tt := rdT X.K t) (te := rd X.K (eFz fe)) hc hN hi ok hg ht (fun s H C cl fp => e_fz (he s H C cl fp)) hs) fun _ _ _ q => lc_of hiv q
theorem s_setLc {u : Bool} (i : Nat) {y : Str} {py spos : Pos} {scope : Scope} {own : List (Str × Nat)} (hc : X.calm = true) (hN : X.N.Nodup) (hy : X.N[i]? = some y) (hyl : X.env.scope.names.lookup y = some .local)
    (hsw : swapsWith (.ListComp elt [⟨tg, iter, ifs, 0⟩] scope pos) (some (.Name y py)) spos.line X.env = pure true) (hi : SndC u X tg iter fi) (ok : BlkOk X.N X.env.scope scope own) (hiv : ∀ i ∈ is, i ∈ own.map (·.2))
    (hg : ∀ (s : Shared) (H : Hp) (C : Addr) (cl : List (Str × Addr)) (fp : List Addr), SndG u (X.blk s H scope (compEnvC scope cl C X.env) fp) tg is set) (ht : ∀ (s : Shared) (H : Hp) (C : Addr) (cl : List (Str × Addr)) (fp : List Addr), SndTs (X.blk s H scope (compEnvC scope cl C X.env) fp) ifs t)
    (he : ∀ (s : Shared) (H : Hp) (C : Addr) (cl : List (Str × Addr)) (fp : List Addr), Snd (X.blk s H scope (compEnvC scope cl C X.env) fp) elt fe) (hs : ∀ x, foldedSetIterable iter X.env x = pure x := by intro _; rfl) :
    SndS X (.Assign [.Name y py] (.ListComp elt [⟨tg, iter, ifs, 0⟩] scope pos) spos) (sSet i (eLC (own.map (·.2)) set fi t fe)) :=
  ps_imp (ps_setLc (g := rdG u X.K is set) (tt := rdT X.K t) (te := rd X.K (eFz fe)) hc hN hy hyl hsw hi ok hg ht (fun s H C cl fp => e_fz (he s H C cl fp)) hs) fun _ _ _ q => lc_of hiv (set_of q)
end

/-! ### defs by their bodies -/
def startE (n : Nat) (ds : List D) : En := ds.map (fun d => some (d, false)) ++ List.replicate (n - ds.length) none
def retD (p : DS) : DS := (p.1, match p.2 with
  | .fz => .fz
  | _ => .ow)
def runFn (n p : Nat) (g : SB) : Fn := fun ds w => if ds.length = p then (g (startE n ds) w).bind fun o => match o with
  | .rt r w' => some (retD r, w')
  | .nx _ w' => some ((.non, .fz), w')
  | _ => none
  else none
theorem Reps.start {K : PySem.W.Frag} {F : Addr → Prop} {wa : Option Addr} {H : Hp} : ∀ {ds : List D} {vs : List V}, Reps K F wa H ds vs → ∀ (m : Nat) (i : Nat) d fl, (ds.map (fun d => some (d, false)) ++ List.replicate m (none : Option (D × Bool)))[i]? = some (some (d, fl)) → fl = false ∧ ∃ v, (vs.map some ++ List.replicate m (none : Option V))[i]? = some (some v) ∧ Rep K F wa H d v
  | [], vs, h, m, i, d, fl, e => by
    rw [List.map_nil, List.nil_append, List.getElem?_replicate] at e
    split at e <;> cases e
  | d' :: ds, vs, h, m, 0, d, fl, e => by
    obtain ⟨v, r, h1, h2, h3⟩ := h
    subst h1
    cases e
    exact ⟨rfl, v, rfl, h2⟩
  | d' :: ds, vs, h, m, i + 1, d, fl, e => by
    obtain ⟨v, r, h1, h2, h3⟩ := h
    subst h1
    exact Reps.start h3 m i d fl e
theorem fn_d {P : Program} {w : World} {K : PySem.W.Frag} {mg : Str → Option Value} {base : Heap} {x qual : Str} {st : Stmt} {f : Addr} {fd : FuncData} {N ps : List Str} {k : Nat} {g : SB} (Fu : Fun K x qual st f fd) (S : FnScope N ps (defScope st)) (hps : ps.length ≤ N.length)
    (hbody : ∀ (cdv : Value) (A : Around) (outer : List Env) (s : Shared) (H : Hp) (E : XK), Room k (A.deeper (envOfC qual (defScope st) s.heap.objs.size f cdv)) → SndSs (cxOf CX0 P w K mg base N qual (defScope st) f cdv A outer s H E).nox (defBody st) g) :
    FnOk P w K mg base CX0 (k + 1) f fd ps (spD K (runFn N.length ps.length g)) := by
  have hlen : ∀ vs H Q E, spD K (runFn N.length ps.length g) vs H Q E → vs.length = ps.length := fun vs H Q E h => by
    obtain ⟨F, wa, w, ds, wk, fd, r, d, st, w', hf, _⟩ := h
    rw [← r.len]
    unfold runFn at hf
    split at hf
    · assumption
    · cases hf
  refine Fu.ok S hlen (fun cdv A outer s H vs Q E hr h => ?_)
  have hl := hlen _ _ _ _ h
  obtain ⟨F, wa, w, ds, wk, fd, r, d, st, w', hf, k⟩ := h
  refine ⟨_, hbody cdv A outer s H E hr, ?_⟩
  unfold runFn at hf
  split at hf
  · rename_i hdl
    obtain ⟨out, h1, h2⟩ := Option.bind_eq_some_iff.mp hf
    have hst := r.start (N.length - ds.length)
    refine ⟨fun a => H a ≠ none, F, wa, w, startE N.length ds, ⟨?_, fun i d e => ?_, fun i d e => ?_, fun i j d e a _ e1 _ _ => ?_, wk, fd, fun a h => h⟩, out, h1, ?_⟩
    · unfold startE L2.start
      rw [List.length_append, List.length_append, List.length_map, List.length_map, List.length_replicate, List.length_replicate, r.len]
    · obtain ⟨_, v, e2, r2⟩ := hst i d false e
      refine ⟨v, ?_, r2⟩
      unfold L2.start
      rw [← r.len]
      exact e2
    · exact absurd (hst i d true e).1 (by decide)
    · exact absurd (hst i d true e1).1 (by decide)
    · have conv : ∀ {w2 F' H'}, AftS K (fun a => H a ≠ none) wa F H w2 F' H' → Aft K wa F H w2 F' H' := fun {w2 F' H'} A => ⟨A.sub, fun a h => (A.new a h).imp id fun z => Classical.not_not.mp z, fun a o h e => A.keep a o h (by rw [h]; simp) e, A.kf, A.dom, A.wk, A.fd⟩
      cases out with
      | nx e w2 =>
        cases h2
        exact fun σ' F' H' A S' => k .non F' H' (conv A) rfl
      | rt p w2 =>
        cases h2
        intro v F' H' A rr
        refine k v F' H' (conv A) ?_
        obtain ⟨d0, st0⟩ := p
        cases st0 with
        | fz => exact rr
        | ow => obtain ⟨a, e, o, z⟩ := rr; exact ⟨a, e, o, Classical.not_not.mp z⟩
        | bo => obtain ⟨a, e, o, z⟩ := rr; exact ⟨a, e, o, Classical.not_not.mp z⟩
      | bk e w2 => cases h2
      | ct e w2 => cases h2
  · cases hf
/-- no promise at all -/
theorem fn_0 {P : Program} {w : World} {K : PySem.W.Frag} {mg : Str → Option Value} {base : Heap} {f : Addr} {fd : FuncData} {ps : List Str} {k : Nat} : FnOk P w K mg base CX0 k f fd ps (spD K fun _ _ => none) :=
  ⟨fun vs H Q E h => (by obtain ⟨_, _, _, _, _, _, _, _, _, _, hf, _⟩ := h; cases hf), fun A outer s H args us vs Q E _ _ _ _ h => (by obtain ⟨_, _, _, _, _, _, _, _, _, _, hf, _⟩ := h; cases hf)⟩
end Dl

set_option Elab.async false
set_option linter.all false
set_option maxRecDepth 100000
set_option maxHeartbeats 4000000
namespace Dl
open PySem PySem.Spec PyProof.Rows L2
/-! ### operations over data -/
abbrev fzO (d : D) : Option DS := some (d, .fz)
section
variable {K : PySem.W.Frag} {F : Addr → Prop} {wa : Option Addr} {H : Hp} {w : Option Wd} {d : D} {v : V} {Q : VK}
theorem cur_int {i : Int} (h : Cur K F wa H (.int i) v) : v = .int i := h
theorem cur_bl {i : Bool} (h : Cur K F wa H (.bl i) v) : v = .bl i := h
theorem cur_str {i : Str} (h : Cur K F wa H (.str i) v) : v = .str i := h
theorem cur_non (h : Cur K F wa H .non v) : v = .non := h
theorem OpS.or1 {r r' : R2} {g : D → D → Option DS} (h : OpS K r g) : OpS K (fun x y H Q => r x y H Q ∨ r' x y H Q) g := fun wa w F H x y d st v1 v2 a b c e f Q q => .inl (h wa w F H x y d st v1 v2 a b c e f Q q)
theorem OpS.or2 {r r' : R2} {g : D → D → Option DS} (h : OpS K r' g) : OpS K (fun x y H Q => r x y H Q ∨ r' x y H Q) g := fun wa w F H x y d st v1 v2 a b c e f Q q => .inr (h wa w F H x y d st v1 v2 a b c e f Q q)
/-- the first that answers -/
def els2 (g h : D → D → Option DS) : D → D → Option DS := fun x y => match g x y with
  | some r => some r
  | none => h x y
theorem OpS.els {r r' : R2} {g g' : D → D → Option DS} (h : OpS K r g) (h' : OpS K r' g') : OpS K (fun x y H Q => r x y H Q ∨ r' x y H Q) (els2 g g') := fun wa w F H x y d st v1 v2 a b c e f Q q => by
  unfold els2 at f
  cases hg : g x y with
  | some r => rw [hg] at f; cases f; exact .inl (h wa w F H x y d st v1 v2 a b c e hg Q q)
  | none => rw [hg] at f; exact .inr (h' wa w F H x y d st v1 v2 a b c e f Q q)
/-- two ints -/
def dII (c : Int → Int → Bool) (f : Int → Int → D) : D → D → Option DS
  | .int i, .int j => if c i j = true then fzO (f i j) else none
  | _, _ => none
def dII0 (f : Int → Int → D) : D → D → Option DS
  | .int i, .int j => fzO (f i j)
  | _, _ => none
theorem sII0 {f : Int → Int → D} {g : Int → Int → V} (h : ∀ i j F wa H, Rep K F wa H (f i j) (g i j)) : OpS K (rI0 g) (dII0 f) := fun wa w F H x y d st v1 v2 wk fd c1 c2 e Q q => by
  cases x with
  | int i => cases y with
    | int j =>
      cases e
      exact ⟨i, j, cur_int c1, cur_int c2, q.fz wk fd (h i j _ _ _)⟩
    | _ => cases e
  | _ => cases e
theorem sII {C : Int → Int → Prop} {c : Int → Int → Bool} {f : Int → Int → D} {g : Int → Int → V} (hc : ∀ i j, c i j = true → C i j) (h : ∀ i j F wa H, Rep K F wa H (f i j) (g i j)) : OpS K (rI C g) (dII c f) := fun wa w F H x y d st v1 v2 wk fd c1 c2 e Q q => by
  cases x with
  | int i => cases y with
    | int j =>
      have e' : (if c i j = true then fzO (f i j) else none) = some (d, st) := e
      split at e'
      · rename_i hc'
        cases e'
        exact ⟨i, j, cur_int c1, cur_int c2, hc _ _ hc', q.fz wk fd (h i j _ _ _)⟩
      · cases e'
    | _ => cases e
  | _ => cases e
abbrev dAddI := dII0 fun i j => .int (i + j)
abbrev dSub := dII0 fun i j => .int (i - j)
abbrev dLt := dII0 fun i j => .bl (decide (i < j))
abbrev dLe := dII0 fun i j => .bl (decide (i ≤ j))
abbrev dGt := dII0 fun i j => .bl (decide (j < i))
abbrev dGe := dII0 fun i j => .bl (decide (j ≤ i))
abbrev dMul := dII (fun i j => decide (i.natAbs < 1000000000000) || decide (j.natAbs < 1000000000000)) fun i j => .int (i * j)
abbrev dMod := dII (fun _ j => decide (0 < j)) fun i j => .int (i % j)
abbrev dFdiv := dII (fun _ j => decide (0 < j) && decide (j < 1073741824)) fun i j => .int (i / j)
abbrev dPow := dII (fun i j => decide (0 ≤ j) && decide (j ≤ 1000) && decide (i.natAbs < 1000)) fun i j => .int (i ^ j.toNat)
abbrev dShl := dII (fun i j => decide (0 ≤ j) && decide (j ≤ 1000) && decide (i.natAbs < 1000)) fun i j => .int (i * 2 ^ j.toNat)
theorem sAddI : OpS K (rI0 fun i j => .int (i + j)) dAddI := sII0 fun _ _ _ _ _ => rfl
theorem sSub : OpS K (rI0 fun i j => .int (i - j)) dSub := sII0 fun _ _ _ _ _ => rfl
theorem sLt : OpS K (rI0 fun i j => .bl (decide (i < j))) dLt := sII0 fun _ _ _ _ _ => rfl
theorem sLe : OpS K (rI0 fun i j => .bl (decide (i ≤ j))) dLe := sII0 fun _ _ _ _ _ => rfl
theorem sGt : OpS K (rI0 fun i j => .bl (decide (j < i))) dGt := sII0 fun _ _ _ _ _ => rfl
theorem sGe : OpS K (rI0 fun i j => .bl (decide (j ≤ i))) dGe := sII0 fun _ _ _ _ _ => rfl
theorem sMul : OpS K (rI CMul fun i j => .int (i * j)) dMul := sII (fun i j h => by
  simp only [Bool.or_eq_true, decide_eq_true_eq] at h
  unfold CMul
  omega) fun _ _ _ _ _ => rfl
theorem sMod : OpS K (rI (fun _ j => 0 < j) fun i j => .int (i % j)) dMod := sII (fun i j h => of_decide_eq_true h) fun _ _ _ _ _ => rfl
theorem sFdiv : OpS K (rI CDiv fun i j => .int (i / j)) dFdiv := sII (fun i j h => by
  simp only [Bool.and_eq_true, decide_eq_true_eq] at h
  exact h) fun _ _ _ _ _ => rfl
theorem sPow : OpS K (rI CPow fun i j => .int (i ^ j.toNat)) dPow := sII (fun i j h => by
  simp only [Bool.and_eq_true, decide_eq_true_eq] at h
  unfold CPow
  omega) fun _ _ _ _ _ => rfl
theorem sShl : OpS K (rI CPow fun i j => .int (i * 2 ^ j.toNat)) dShl := sII (fun i j h => by
  simp only [Bool.and_eq_true, decide_eq_true_eq] at h
  unfold CPow
  omega) fun _ _ _ _ _ => rfl
/-- + of lists, of tuples, of texts -/
def dCatL : D → D → Option DS
  | .lst xs, .lst ys => if xs.length + ys.length ≤ lim then some (.lst (xs ++ ys), .ow) else none
  | _, _ => none
theorem line16 {n : Nat} (h : n ≤ lim) : n ≤ sizeLine := Nat.le_trans h (by rw [sizeLine_eq, lim_eq]; decide)
theorem sCatL : OpS K rCat dCatL := fun wa w F H x y d st v1 v2 wk fd c1 c2 e Q q => by
  cases x with
  | lst xs => cases y with
    | lst ys =>
      have e' : (if xs.length + ys.length ≤ lim then some (D.lst (xs ++ ys), O3.ow) else none) = some (d, st) := e
      split at e'
      · rename_i hz
        cases e'
        obtain ⟨a, us, e1, h1, r1⟩ := c1
        obtain ⟨b, ts, e2, h2, r2⟩ := c2
        exact ⟨a, b, us, ts, e1, e2, h1, h2, by rw [← r1.len, ← r2.len]; exact line16 hz, fun p hp => q.lst wk fd (r1.app r2) hp⟩
      · cases e'
    | _ => cases e
  | _ => cases e
def dCatT : D → D → Option DS
  | .tup xs, .tup ys => if xs.length + ys.length ≤ lim then some (.tup (xs ++ ys), .fz) else none
  | _, _ => none
/-- t + u -/
def rCatF (K : PySem.W.Frag) : R2 := fun x y H Q => ∃ a b xs ys, x = .ref a ∧ y = .ref b ∧ SqT K H a xs ∧ SqT K H b ys ∧ xs.length + ys.length ≤ sizeLine ∧
  (xs = [] → Q (.ref b) H) ∧ (xs ≠ [] → ys = [] → Q (.ref a) H) ∧ (xs ≠ [] → ys ≠ [] → ∀ p u, H p = none → TupO u (xs ++ ys) → Q (.ref p) (upd H p u))
theorem op_catF {X : Cx} : OpR X (binaryOp .Add) (rCatF X.K) := by
  intro pins s σ H x y v u Q I rx ry h
  obtain ⟨a, b, xs, ys, rfl, rfl, ha, hb, hz, q0, q1, q2⟩ := h
  cases rx
  cases ry
  obtain ⟨its, r1, p1, _⟩ := I.tuple ha
  obtain ⟨its2, r2, p2, _⟩ := I.tuple hb
  by_cases hx : xs = []
  · subst hx
    cases r1
    exact cat_tup0 p1 p2 ⟨.ref b, H, I, rfl, q0 rfl⟩
  · have l1 := r1.length
    have l2 := r2.length
    refine HT.cat_tup p1 p2 (fun z => hx ((Vals.nil_iff r1).mp z)) (fun z => ⟨.ref a, H, I, rfl, q1 hx ((Vals.nil_iff r2).mp z)⟩) (fun z => ?_) (by rw [← l1, ← l2]; exact hz)
    exact ⟨.ref s.heap.objs.size, _, tup_laid (t' := s.toks) I (r1.append r2) (by rw [List.length_append]; exact hz), rfl, q2 hx (fun e => z ((Vals.nil_iff r2).mpr e)) _ _ (I.hok.fresh (Nat.le_refl _)) ⟨_, rfl, rfl, rfl⟩⟩
theorem sCatT : OpS K (rCatF K) dCatT := fun wa w F H x y d st v1 v2 wk fd c1 c2 e Q q => by
  cases x with
  | tup xs => cases y with
    | tup ys =>
      have e' : (if xs.length + ys.length ≤ lim then some (D.tup (xs ++ ys), O3.fz) else none) = some (d, st) := e
      split at e'
      · rename_i hz
        cases e'
        obtain ⟨a, u1, us, e1, f1, h1, t1, r1⟩ := c1
        obtain ⟨b, u2, ts, e2, f2, h2, t2, r2⟩ := c2
        refine ⟨a, b, us, ts, e1, e2, t1.sq h1, t2.sq h2, by rw [← r1.len, ← r2.len]; exact line16 hz, fun hx => ?_, fun hx hy => ?_, fun _ _ p u hp ht => q.tup wk fd (r1.app r2) hp ht⟩
        · subst hx
          have e3 : xs = [] := by
            have := r1.len
            cases xs with
            | nil => rfl
            | cons _ _ => cases this
          subst e3
          exact q.fz wk fd ⟨b, u2, ts, rfl, f2, h2, t2, r2⟩
        · subst hy
          have e3 : ys = [] := by
            have := r2.len
            cases ys with
            | nil => rfl
            | cons _ _ => cases this
          subst e3
          rw [List.append_nil] at q
          exact q.fz wk fd ⟨a, u1, us, rfl, f1, h1, t1, r1⟩
      · cases e'
    | _ => cases e
  | _ => cases e
def dCatS : D → D → Option DS
  | .str x, .str y => if x.length + y.length ≤ 100000 then some (.str (x ++ y), .fz) else none
  | _, _ => none
theorem sCatS : OpS K (fun x y H Q => ∃ i j, x = .str i ∧ y = .str j ∧ i.length + j.length ≤ sizeLine ∧ Q (.str (i ++ j)) H) dCatS := fun wa w F H x y d st v1 v2 wk fd c1 c2 e Q q => by
  cases x with
  | str i => cases y with
    | str j =>
      have e' : (if i.length + j.length ≤ 100000 then some (D.str (i ++ j), O3.fz) else none) = some (d, st) := e
      split at e'
      · rename_i hz
        cases e'
        exact ⟨i, j, cur_str c1, cur_str c2, Nat.le_trans hz (by decide), q.fz wk fd rfl⟩
      · cases e'
    | _ => cases e
  | _ => cases e

/-! ### equality -/
def eqFl : D → D → Option Bool
  | .int i, .int j => some (i == j)
  | .str x, .str y => some (x == y)
  | .bl a, .bl b => some (a == b)
  | .non, .non => some true
  | .non, .int _ => some false
  | .int _, .non => some false
  | .non, .bl _ => some false
  | .bl _, .non => some false
  | .non, .str _ => some false
  | .str _, .non => some false
  | .int _, .str _ => some false
  | .str _, .int _ => some false
  | .bl _, .str _ => some false
  | .str _, .bl _ => some false
  | _, _ => none
def dEqF (neg : Bool) : D → D → Option DS := fun x y => (eqFl x y).map fun b => (.bl (if neg then !b else b), .fz)
theorem eqFl_ok {x y : D} {b : Bool} {v u : V} (h : eqFl x y = some b) (c1 : Cur K F wa H x v) (c2 : Cur K F wa H y u) : scal v u = true ∧ decide (v = u) = b := by
  cases x <;> cases y <;> first
    | (cases h; done)
    | (cases c1; cases c2; cases h; refine ⟨rfl, ?_⟩; first | exact dec_int | exact dec_str | exact dec_bl | rfl)
theorem sEqF : OpS K rEq (dEqF false) := fun wa w F H x y d st v1 v2 wk fd c1 c2 e Q q => by
  obtain ⟨b, h1, h2⟩ := Option.map_eq_some_iff.mp e
  cases h2
  obtain ⟨g1, g2⟩ := eqFl_ok h1 c1 c2
  exact ⟨g1, q.fz wk fd (by rw [g2]; rfl)⟩
theorem sNeF : OpS K rNe (dEqF true) := fun wa w F H x y d st v1 v2 wk fd c1 c2 e Q q => by
  obtain ⟨b, h1, h2⟩ := Option.map_eq_some_iff.mp e
  cases h2
  obtain ⟨g1, g2⟩ := eqFl_ok h1 c1 c2
  exact ⟨g1, q.fz wk fd (by rw [g2]; rfl)⟩
mutual
def dPy : D → Option PyData
  | .non => some .none
  | .bl b => some (.bool b)
  | .int i => some (.int i)
  | .str x => some (.str x)
  | .tup ds => (dPys ds).map .tuple
  | .lst ds => (dPys ds).map .list
  | _ => none
def dPys : List D → Option (List PyData)
  | [] => some []
  | d :: ds => (dPy d).bind fun a => (dPys ds).map fun b => a :: b
end
mutual
theorem dPy_ok : ∀ (d : D) (v : V) (p : PyData), dPy d = some p → Rep K F wa H d v → Dp K H v p
  | .non, v, p, h, r => by cases h; cases (show v = .non from r); exact .non
  | .bl b, v, p, h, r => by cases h; cases (show v = .bl b from r); exact .bl b
  | .int i, v, p, h, r => by cases h; cases (show v = .int i from r); exact .int i
  | .str x, v, p, h, r => by cases h; cases (show v = .str x from r); exact .str x
  | .tup ds, v, p, h, r => by
    have h' : (dPys ds).map PyData.tuple = some p := h
    obtain ⟨ps, h1, h2⟩ := Option.map_eq_some_iff.mp h'
    obtain ⟨a, u, vs, e, _, hh, ht, rr⟩ := r
    subst e h2
    exact .tup (ht.sq hh) (dPys_ok ds vs ps h1 rr)
  | .lst ds, v, p, h, r => by
    have h' : (dPys ds).map PyData.list = some p := h
    obtain ⟨ps, h1, h2⟩ := Option.map_eq_some_iff.mp h'
    obtain ⟨a, vs, e, _, hh, rr⟩ := r
    subst e h2
    exact .lst (.inl (.inl hh)) (dPys_ok ds vs ps h1 rr)
  | .dk _ _, v, p, h, r => by cases h
  | .scr _, v, p, h, r => by cases h
  | .ty _, v, p, h, r => by cases h
  | .w, v, p, h, r => by cases h
theorem dPys_ok : ∀ (ds : List D) (vs : List V) (ps : List PyData), dPys ds = some ps → Reps K F wa H ds vs → DpAll K H vs ps
  | [], vs, ps, h, r => by
    cases h
    have e : vs = [] := r
    subst e
    exact .nil
  | d :: ds, vs, ps, h, r => by
    have h' : ((dPy d).bind fun a => (dPys ds).map fun b => a :: b) = some ps := h
    obtain ⟨a, h1, h2⟩ := Option.bind_eq_some_iff.mp h'
    obtain ⟨b, h3, h4⟩ := Option.map_eq_some_iff.mp h2
    obtain ⟨v, vr, e, r1, r2⟩ := r
    subst e h4
    exact .cons (dPy_ok d v a h1 r1) (dPys_ok ds vr b h3 r2)
end
theorem dPy_cur {d : D} {v : V} {p : PyData} (h : dPy d = some p) (r : Cur K F wa H d v) : Dp K H v p := by
  cases d with
  | tup ds =>
    have h' : (dPys ds).map PyData.tuple = some p := h
    obtain ⟨ps, h1, h2⟩ := Option.map_eq_some_iff.mp h'
    obtain ⟨a, u, vs, e, _, hh, ht, rr⟩ := r
    subst e h2
    exact .tup (ht.sq hh) (dPys_ok ds vs ps h1 rr)
  | lst ds =>
    have h' : (dPys ds).map PyData.list = some p := h
    obtain ⟨ps, h1, h2⟩ := Option.map_eq_some_iff.mp h'
    obtain ⟨a, vs, e, hh, rr⟩ := r
    subst e h2
    exact .lst (.inl (.inl hh)) (dPys_ok ds vs ps h1 rr)
  | non => exact dPy_ok (F := F) (wa := wa) _ v p h r
  | bl b => exact dPy_ok (F := F) (wa := wa) _ v p h r
  | int b => exact dPy_ok (F := F) (wa := wa) _ v p h r
  | str b => exact dPy_ok (F := F) (wa := wa) _ v p h r
  | _ => cases h
def dEqD (neg : Bool) : D → D → Option DS := fun x y => match dPy x, dPy y with
  | some a, some b => if (SeqAt.shaped a && SeqAt.shaped b) = true then some (.bl (if neg then !PyData.eqv a b else PyData.eqv a b), .fz) else none
  | _, _ => none
theorem dEqD_of {neg : Bool} {x y d : D} {st : O3} (h : dEqD neg x y = some (d, st)) : ∃ a b, dPy x = some a ∧ dPy y = some b ∧ SeqAt.shaped a = true ∧ SeqAt.shaped b = true ∧ d = .bl (if neg then !PyData.eqv a b else PyData.eqv a b) ∧ st = .fz := by
  unfold dEqD at h
  split at h
  · rename_i a b h1 h2
    split at h
    · rename_i hs
      cases h
      rw [Bool.and_eq_true] at hs
      exact ⟨a, b, h1, h2, hs.1, hs.2, rfl, rfl⟩
    · cases h
  · cases h
theorem sEqD : OpS K (rEqD K) (dEqD false) := fun wa w F H x y d st v1 v2 wk fd c1 c2 e Q q => by
  obtain ⟨a, b, h1, h2, s1, s2, e1, e2⟩ := dEqD_of e
  subst e1 e2
  exact ⟨a, b, dPy_cur h1 c1, dPy_cur h2 c2, s1, s2, q.fz wk fd rfl⟩
theorem sNeD : OpS K (rNeD K) (dEqD true) := fun wa w F H x y d st v1 v2 wk fd c1 c2 e Q q => by
  obtain ⟨a, b, h1, h2, s1, s2, e1, e2⟩ := dEqD_of e
  subst e1 e2
  exact ⟨a, b, dPy_cur h1 c1, dPy_cur h2 c2, s1, s2, q.fz wk fd rfl⟩
abbrev dEq : D → D → Option DS := els2 (dEqF false) (dEqD false)
abbrev dNe : D → D → Option DS := els2 (dEqF true) (dEqD true)
/-- in -/
def flatD : D → Bool
  | .non => true
  | .bl _ => true
  | .int _ => true
  | .str _ => true
  | _ => false
def eqF : D → D → Bool
  | .non, .non => true
  | .bl a, .bl b => a == b
  | .bl a, .int b => (if a then 1 else 0) == b
  | .int a, .bl b => a == (if b then 1 else 0)
  | .int a, .int b => a == b
  | .str a, .str b => a == b
  | _, _ => false
def dIn (neg : Bool) : D → D → Option DS := fun x y => (itemsOf y).bind fun ys => if flatD x = true ∧ ys.all flatD = true then fzO (.bl (if neg then !ys.any (fun z => eqF z x) else ys.any fun z => eqF z x)) else none
theorem flat_cur {d : D} {v : V} (h : flatD d = true) (r : Rep K F wa H d v) : flatV v = true := by
  cases d <;> first | (cases h; done) | (cases r; rfl)
theorem flat_reps : ∀ {ds : List D} {vs : List V}, Reps K F wa H ds vs → ds.all flatD = true → vs.all flatV = true
  | [], vs, r, _ => by
    have e : vs = [] := r
    subst e; rfl
  | d :: ds, vs, r, h => by
    obtain ⟨v, vr, e, r1, r2⟩ := r
    subst e
    rw [List.all_cons, Bool.and_eq_true] at h ⊢
    exact ⟨flat_cur h.1 r1, flat_reps r2 h.2⟩
theorem eqF_cur {x y : D} {v u : V} (hx : flatD x = true) (hy : flatD y = true) (r : Rep K F wa H x v) (r2 : Rep K F wa H y u) : eqV v u = eqF x y := by
  cases x <;> first | (cases hx; done) | (cases y <;> first | (cases hy; done) | (cases r; cases r2; rfl))
theorem any_reps {x : D} {v : V} (hx : flatD x = true) (r : Rep K F wa H x v) : ∀ {ds : List D} {vs : List V}, Reps K F wa H ds vs → ds.all flatD = true → inV v vs = ds.any fun z => eqF z x
  | [], vs, rr, _ => by
    have e : vs = [] := rr
    subst e; rfl
  | d :: ds, vs, rr, h => by
    obtain ⟨u, vr, e, r1, r2⟩ := rr
    subst e
    rw [List.all_cons, Bool.and_eq_true] at h
    show (eqV u v || inV v vr) = (eqF d x || ds.any fun z => eqF z x)
    rw [eqF_cur h.1 hx r1 r, any_reps hx r r2 h.2]
theorem flatD_rep {x : D} {v : V} (hx : flatD x = true) (r : Cur K F wa H x v) : Rep K F wa H x v := by
  cases x <;> first | (cases hx; done) | exact r
theorem sIn (neg : Bool) : OpS K (rIn K neg) (dIn neg) := fun wa w F H x y d st v1 v2 wk fd c1 c2 e Q q => by
  unfold dIn at e
  obtain ⟨ys, h1, h2⟩ := Option.bind_eq_some_iff.mp e
  split at h2
  · rename_i hf
    cases h2
    have rx := flatD_rep hf.1 c1
    cases y with
    | lst ds =>
      cases h1
      obtain ⟨a, vs, e1, hh, rr⟩ := c2
      exact ⟨a, vs, e1, .inl (.inl (.inl hh)), flat_cur hf.1 rx, flat_reps rr hf.2, q.fz wk fd (by rw [any_reps hf.1 rx rr hf.2]; rfl)⟩
    | tup ds =>
      cases h1
      obtain ⟨a, u, vs, e1, _, hh, ht, rr⟩ := c2
      exact ⟨a, vs, e1, .inr (ht.sq hh), flat_cur hf.1 rx, flat_reps rr hf.2, q.fz wk fd (by rw [any_reps hf.1 rx rr hf.2]; rfl)⟩
    | _ => cases h1
  · cases h2
/-- is, is not, of None, True, False -/
def isC : D → D → Option Bool
  | .non, .non => some true
  | .bl a, .bl b => some (a == b)
  | .non, .bl _ => some false
  | .bl _, .non => some false
  | .int _, .non => some false
  | .str _, .non => some false
  | .tup _, .non => some false
  | .lst _, .non => some false
  | .dk _ _, .non => some false
  | _, _ => none
def dIs (neg : Bool) : D → D → Option DS := fun x y => (isC x y).map fun b => (.bl (if neg then !b else b), .fz)
def rIsC : R2 := fun x y H Q => (∃ b, y = .bl b ∧ (x = .non ∨ ∃ a, x = .bl a) ∧ Q (.bl (decide (x = y))) H) ∨ (y = .non ∧ Q (.bl (decide (x = .non))) H)
def rNotC : R2 := fun x y H Q => (∃ b, y = .bl b ∧ (x = .non ∨ ∃ a, x = .bl a) ∧ Q (.bl (!decide (x = y))) H) ∨ (y = .non ∧ Q (.bl (!decide (x = .non))) H)
theorem op_isC {X : Cx} : OpR X (compareOp .Is) rIsC := by
  intro pins s σ H x y v u Q I rx ry h
  rcases h with ⟨b, e, hx, q⟩ | h
  · subst e
    cases (show u = Value.bool b from ry)
    rcases hx with e | ⟨a, e⟩
    · subst e
      cases (show v = Value.none from rx)
      exact wpAny_is_other rfl (fun z => nomatch z) ⟨.bl false, H, I, rfl, by simpa using q⟩
    · subst e
      exact op_isBl pins s σ H _ _ v _ Q I rx ry ⟨a, b, rfl, rfl, by simpa using q⟩
  · exact op_isN pins s σ H x y v u Q I rx ry h
theorem op_notC {X : Cx} : OpR X (compareOp .IsNot) rNotC := by
  intro pins s σ H x y v u Q I rx ry h
  rcases h with ⟨b, e, hx, q⟩ | h
  · subst e
    cases (show u = Value.bool b from ry)
    rcases hx with e | ⟨a, e⟩
    · subst e
      cases (show v = Value.none from rx)
      exact wpAny_isNot_other rfl (fun z => nomatch z) ⟨.bl true, H, I, rfl, by simpa using q⟩
    · subst e
      exact op_notBl pins s σ H _ _ v _ Q I rx ry ⟨a, b, rfl, rfl, by simpa using q⟩
  · exact op_notN pins s σ H x y v u Q I rx ry h
theorem isC_ok {x y : D} {b : Bool} {v u : V} (h : isC x y = some b) (c1 : Cur K F wa H x v) (c2 : Cur K F wa H y u) : ((∃ c, u = .bl c ∧ (v = .non ∨ ∃ a, v = .bl a)) ∨ u = .non) ∧ decide (v = u) = b := by
  cases y with
  | non =>
    cases (show u = .non from c2)
    refine ⟨.inr rfl, ?_⟩
    cases x with
    | non => cases c1; cases h; rfl
    | bl a => cases c1; cases h; rfl
    | int a => cases c1; cases h; rfl
    | str a => cases c1; cases h; rfl
    | tup ds => obtain ⟨a, u, vs, e, _⟩ := c1; subst e; cases h; rfl
    | lst ds => obtain ⟨a, vs, e, _⟩ := c1; subst e; cases h; rfl
    | dk ks ds => obtain ⟨a, vs, e, _⟩ := c1; subst e; cases h; rfl
    | _ => cases h
  | bl c =>
    cases (show u = .bl c from c2)
    cases x with
    | non => cases c1; cases h; exact ⟨.inl ⟨c, rfl, .inl rfl⟩, rfl⟩
    | bl a => cases c1; cases h; exact ⟨.inl ⟨c, rfl, .inr ⟨a, rfl⟩⟩, dec_bl⟩
    | _ => cases h
  | _ => cases x <;> cases h
theorem sIs : OpS K rIsC (dIs false) := fun wa w F H x y d st v1 v2 wk fd c1 c2 e Q q => by
  obtain ⟨b, h1, h2⟩ := Option.map_eq_some_iff.mp e
  cases h2
  obtain ⟨g1, g2⟩ := isC_ok h1 c1 c2
  have q' := q.fz wk fd (show Rep K F wa H (.bl b) (.bl (decide (v1 = v2))) by rw [g2]; rfl)
  rcases g1 with ⟨c, e1, e2⟩ | e1
  · exact .inl ⟨c, e1, e2, q'⟩
  · subst e1; exact .inr ⟨rfl, q'⟩
theorem sIsN : OpS K rNotC (dIs true) := fun wa w F H x y d st v1 v2 wk fd c1 c2 e Q q => by
  obtain ⟨b, h1, h2⟩ := Option.map_eq_some_iff.mp e
  cases h2
  obtain ⟨g1, g2⟩ := isC_ok h1 c1 c2
  have q' := q.fz wk fd (show Rep K F wa H (.bl (!b)) (.bl (!decide (v1 = v2))) by rw [g2]; rfl)
  rcases g1 with ⟨c, e1, e2⟩ | e1
  · exact .inl ⟨c, e1, e2, q'⟩
  · subst e1; exact .inr ⟨rfl, q'⟩
/-! ### subscripts -/
def dIx : D → D → Option DS
  | .tup ds, .int i => (atI ds i).map fun d => (d, .fz)
  | .lst ds, .int i => (atI ds i).map fun d => (d, .fz)
  | .scr ns, .int i => (atI ns i).map fun n => (.int n, .fz)
  | .str z, .int i => if z.length ≤ lim then (atI z.cps.toList i).map fun c => (.str ⟨#[c]⟩, .fz) else none
  | _, _ => none
theorem atI_reps {ds : List D} {vs : List V} {i : Int} {d : D} (r : Reps K F wa H ds vs) (h : atI ds i = some d) : ∃ v, atI vs i = some v ∧ Rep K F wa H d v := by
  unfold atI at h ⊢
  rw [← r.len]
  obtain ⟨j, h1, h2⟩ := Option.bind_eq_some_iff.mp h
  rw [h1]
  exact r.at h2
theorem sIx : OpS K (rIx K) dIx := fun wa w F H x y d st v1 v2 wk fd c1 c2 e Q q => by
  cases y with
  | int i =>
    cases (show v2 = .int i from c2)
    cases x with
    | tup ds =>
      obtain ⟨d', h1, h2⟩ := Option.map_eq_some_iff.mp e
      cases h2
      obtain ⟨a, u, vs, e1, _, hh, ht, rr⟩ := c1
      obtain ⟨v, h3, h4⟩ := atI_reps rr h1
      exact .inr (.inl ⟨a, vs, i, v, e1, rfl, ht.sq hh, h3, q.fz wk fd h4⟩)
    | lst ds =>
      obtain ⟨d', h1, h2⟩ := Option.map_eq_some_iff.mp e
      cases h2
      obtain ⟨a, vs, e1, hh, rr⟩ := c1
      obtain ⟨v, h3, h4⟩ := atI_reps rr h1
      exact .inl ⟨a, vs, i, v, e1, rfl, .inl (.inl hh), h3, q.fz wk fd h4⟩
    | scr ns =>
      obtain ⟨n, h1, h2⟩ := Option.map_eq_some_iff.mp e
      cases h2
      obtain ⟨a, e1, hh⟩ := c1
      refine .inl ⟨a, _, i, .int n, e1, rfl, hh, ?_, q.fz wk fd rfl⟩
      unfold atI at h1 ⊢
      obtain ⟨j, h3, h4⟩ := Option.bind_eq_some_iff.mp h1
      rw [List.length_map, h3]
      show (ns.map V.int)[j]? = some (.int n)
      rw [List.getElem?_map, h4]; rfl
    | str z =>
      have e' : (if z.length ≤ lim then (atI z.cps.toList i).map fun c => (D.str ⟨#[c]⟩, O3.fz) else none) = some (d, st) := e
      split at e'
      · rename_i hz
        obtain ⟨c, h1, h2⟩ := Option.map_eq_some_iff.mp e'
        cases h2
        exact .inr (.inr ⟨z, i, c, c1, rfl, line16 hz, h1, q.fz wk fd rfl⟩)
      · cases e'
    | _ => cases e
  | _ => cases x <;> cases e
/-! ### slices -/
def cutD (xs : List D) (lo hi : Option Int) : List D := (xs.drop (HT.sIx xs.length 0 lo)).take (HT.sIx xs.length xs.length hi - HT.sIx xs.length 0 lo)
def dSl : D → Option Int → Option Int → Option DS := fun x lo hi => match x with
  | .tup ds => some (.tup (cutD ds lo hi), .fz)
  | .lst ds => some (.lst (cutD ds lo hi), .ow)
  | _ => none
theorem cut_reps {ds : List D} {vs : List V} (r : Reps K F wa H ds vs) (lo hi : Option Int) : Reps K F wa H (cutD ds lo hi) (cutV vs lo hi) := by
  unfold cutD cutV
  rw [← r.len]
  exact (r.drop _).take _
/-- t[lo:hi]: the whole of it is t itself -/
def rSlF (K : PySem.W.Frag) : V → Option Int → Option Int → Hp → VK → Prop := fun x lo hi H Q => ∃ a xs, x = .ref a ∧ SqT K H a xs ∧
  (HT.sIx xs.length 0 lo = 0 ∧ HT.sIx xs.length xs.length hi = xs.length → Q (.ref a) H) ∧ (¬ (HT.sIx xs.length 0 lo = 0 ∧ HT.sIx xs.length xs.length hi = xs.length) → ∀ p u, H p = none → TupO u (cutV xs lo hi) → Q (.ref p) (upd H p u))
theorem sl_tupF {X : Cx} : SlR X (rSlF X.K) := by
  intro pins s σ H x v vl vu lo hi sl Q I rx hs pl pu h
  obtain ⟨a, xs, rfl, hx, q1, q2⟩ := h
  cases rx
  obtain ⟨its, r, ht, hz⟩ := I.tuple hx
  have hlen : its.toArray.size = xs.length := by rw [List.size_toArray]; exact r.length.symm
  refine ⟨"tuple", _, PyProof.Rows.slot_tuple_getitem.lookup, ht.typeIs, ?_⟩
  by_cases hw : HT.sIx xs.length 0 lo = 0 ∧ HT.sIx xs.length xs.length hi = xs.length
  · exact getItem_tuple_whole ht hs pl pu (by rw [hlen]; exact hw) ⟨.ref a, H, I, rfl, q1 hw⟩
  · refine HT.getItem_tuple_cut ht hs pl pu (by rw [hlen]; exact hw) ?_ (by rw [hlen]; exact hz)
    rw [hlen]
    exact ⟨.ref s.heap.objs.size, _, tup_laid (t' := s.toks) I ((r.drop (HT.sIx xs.length 0 lo)).take (HT.sIx xs.length xs.length hi - HT.sIx xs.length 0 lo)) (Nat.le_trans (cutV_length xs lo hi) hz), rfl, q2 hw _ _ (I.hok.fresh (Nat.le_refl _)) ⟨_, rfl, rfl, rfl⟩⟩
def rSlAny (K : PySem.W.Frag) : V → Option Int → Option Int → Hp → VK → Prop := fun x lo hi H Q => rSlL K x lo hi H Q ∨ rSlF K x lo hi H Q
theorem sl_any {X : Cx} : SlR X (rSlAny X.K) := sl_list.or sl_tupF
theorem sSl : SlS K (rSlAny K) dSl := fun wa w F H x lo hi d st v1 wk fd c1 e Q q => by
  cases x with
  | lst ds =>
    cases e
    obtain ⟨a, vs, e1, hh, rr⟩ := c1
    exact .inl ⟨a, vs, e1, .inl (.inl hh), fun p hp => q.lst wk fd (cut_reps rr lo hi) hp⟩
  | tup ds =>
    cases e
    obtain ⟨a, u, vs, e1, hF, hh, ht, rr⟩ := c1
    refine .inr ⟨a, vs, e1, ht.sq hh, fun hw => ?_, fun hw p u hp ht => q.tup wk fd (cut_reps rr lo hi) hp ht⟩
    have e2 : cutD ds lo hi = ds := by
      unfold cutD
      rw [rr.len, hw.1, hw.2, List.drop_zero, Nat.sub_zero, ← rr.len, List.take_length]
    rw [e2] at q
    exact q.fz wk fd ⟨a, u, vs, rfl, hF, hh, ht, rr⟩
  | _ => cases e
end
end Dl

set_option Elab.async false
set_option linter.all false
set_option maxRecDepth 100000
set_option maxHeartbeats 4000000
namespace Dl
open PySem PySem.Spec PyProof.Rows L2
section
variable {K : PySem.W.Frag} {F : Addr → Prop} {wa : Option Addr} {H : Hp} {w : Option Wd} {d : D} {v : V} {Q : VK}
/-! ### built-in calls -/
def dLen : List D → Option DS
  | [.tup ds] => fzO (.int (ds.length : Nat))
  | [.lst ds] => fzO (.int (ds.length : Nat))
  | [.scr ns] => fzO (.int (ns.length : Nat))
  | [.str x] => if x.length ≤ 100000 then fzO (.int (x.length : Nat)) else none
  | _ => none
abbrev rLen (K : PySem.W.Frag) : List V → Hp → VK → Prop := fun xs H Q => ∃ x n, xs = [x] ∧ LenV K x H n ∧ Q (.int n) H
theorem sLen : CallS K (rLen K) dLen := fun wa w F H ds d st vs wk fd c e Q q => by
  unfold dLen at e
  split at e
  · rename_i ds
    cases e
    obtain ⟨v, rfl, a, u, us, e1, _, hh, ht, rr⟩ := curs1 c
    exact ⟨v, _, rfl, (by subst e1; exact .inr ⟨us, ht.sq hh, rr.len⟩), q.fz wk fd rfl⟩
  · rename_i ds
    cases e
    obtain ⟨v, rfl, a, us, e1, hh, rr⟩ := curs1 c
    exact ⟨v, _, rfl, (by subst e1; exact .inl ⟨us, .inl (.inl hh), rr.len⟩), q.fz wk fd rfl⟩
  · rename_i ns
    cases e
    obtain ⟨v, rfl, a, e1, hh⟩ := curs1 c
    exact ⟨v, _, rfl, (by subst e1; exact .inl ⟨_, hh, by simp⟩), q.fz wk fd rfl⟩
  · split at e
    · cases e
      obtain ⟨v, rfl, e1⟩ := curs1 c
      cases e1
      exact ⟨_, _, rfl, ⟨Nat.le_trans (by assumption) (by decide), rfl⟩, q.fz wk fd rfl⟩
    · cases e
  · cases e
def dAbs : List D → Option DS
  | [.int i] => fzO (.int (if i < 0 then -i else i))
  | _ => none
theorem sAbs : CallS K (fun xs H Q => ∃ i, xs = [.int i] ∧ Q (.int (if i < 0 then -i else i)) H) dAbs := fun wa w F H ds d st vs wk fd c e Q q => by
  unfold dAbs at e
  split at e
  · cases e
    obtain ⟨v, rfl, e1⟩ := curs1 c
    cases e1
    exact ⟨_, rfl, q.fz wk fd rfl⟩
  · cases e
def dInt : List D → Option DS
  | [.int i] => fzO (.int i)
  | [.bl k] => fzO (.int (if k then 1 else 0))
  | _ => none
theorem sInt : CallS K (fun xs H Q => (∃ i, xs = [.int i] ∧ Q (.int i) H) ∨ ∃ k, xs = [.bl k] ∧ Q (.int (if k then 1 else 0)) H) dInt := fun wa w F H ds d st vs wk fd c e Q q => by
  unfold dInt at e
  split at e
  · cases e
    obtain ⟨v, rfl, e1⟩ := curs1 c
    cases e1
    exact .inl ⟨_, rfl, q.fz wk fd rfl⟩
  · cases e
    obtain ⟨v, rfl, e1⟩ := curs1 c
    cases e1
    exact .inr ⟨_, rfl, q.fz wk fd rfl⟩
  · cases e
def dMax2 : List D → Option DS
  | [.int i, .int j] => fzO (.int (if j > i then j else i))
  | _ => none
def dMin2 : List D → Option DS
  | [.int i, .int j] => fzO (.int (if j < i then j else i))
  | _ => none
theorem sMax2 : CallS K (fun xs H Q => ∃ i j, xs = [.int i, .int j] ∧ Q (.int (if j > i then j else i)) H) dMax2 := fun wa w F H ds d st vs wk fd c e Q q => by
  unfold dMax2 at e
  split at e
  · cases e
    obtain ⟨v, u, rfl, e1, e2⟩ := curs2 c
    cases e1; cases e2
    exact ⟨_, _, rfl, q.fz wk fd rfl⟩
  · cases e
theorem sMin2 : CallS K (fun xs H Q => ∃ i j, xs = [.int i, .int j] ∧ Q (.int (if j < i then j else i)) H) dMin2 := fun wa w F H ds d st vs wk fd c e Q q => by
  unfold dMin2 at e
  split at e
  · cases e
    obtain ⟨v, u, rfl, e1, e2⟩ := curs2 c
    cases e1; cases e2
    exact ⟨_, _, rfl, q.fz wk fd rfl⟩
  · cases e
def dTuple : List D → Option DS
  | [.lst ds] => fzO (.tup ds)
  | [.tup ds] => fzO (.tup ds)
  | _ => none
def rTupF (K : PySem.W.Frag) : List V → Hp → VK → Prop := fun xs H Q => ∃ p ys, xs = [.ref p] ∧ ((SqL K H p ys ∧ ∀ l u, H l = none → TupO u ys → Q (.ref l) (upd H l u)) ∨ (SqT K H p ys ∧ Q (.ref p) H))
theorem call_tupF {X : Cx} : CallR X (.type "tuple") (rTupF X.K) := by
  intro pins s σ H xs us Q I r h
  obtain ⟨p, ys, rfl, h⟩ := h
  obtain ⟨u, rfl, rx⟩ := vals1 r
  cases rx
  rcases h with ⟨hq, q⟩ | ⟨hq, q⟩
  · obtain ⟨its, r', pl, hz⟩ := I.list hq
    have hlen := r'.length
    refine call_tuple_list pl.isList (fun h' kp => ?_) (by simp only [List.size_toArray] <;> omega)
    have I1 : Inv X pins σ H { s with heap := h' } := I.kept (t' := s.toks) kp
    exact ⟨.ref h'.objs.size, _, tup_laid (t' := s.toks) I1 r' hz, rfl, q _ _ (I1.hok.fresh (Nat.le_refl _)) ⟨_, rfl, rfl, rfl⟩⟩
  · obtain ⟨its, r', pl, hz⟩ := I.tuple hq
    exact call_tuple_same pl ⟨.ref p, H, I, rfl, q⟩
theorem sTuple : CallS K (rTupF K) dTuple := fun wa w F H ds d st vs wk fd c e Q q => by
  unfold dTuple at e
  split at e
  · cases e
    obtain ⟨v, rfl, a, us, e1, hh, rr⟩ := curs1 c
    subst e1
    exact ⟨a, us, rfl, .inl ⟨.inl (.inl hh), fun l u hl ht => q.tup wk fd rr hl ht⟩⟩
  · cases e
    obtain ⟨v, rfl, a, u, us, e1, hF, hh, ht, rr⟩ := curs1 c
    subst e1
    exact ⟨a, us, rfl, .inr ⟨ht.sq hh, q.fz wk fd ⟨a, u, us, rfl, hF, hh, ht, rr⟩⟩⟩
  · cases e
def dList : List D → Option DS
  | [.lst ds] => some (.lst ds, .ow)
  | [.tup ds] => some (.lst ds, .ow)
  | _ => none
abbrev rList (K : PySem.W.Frag) : List V → Hp → VK → Prop := fun xs H Q => ∃ p ys, xs = [.ref p] ∧ (SqL K H p ys ∨ SqT K H p ys) ∧ ∀ l, H l = none → Q (.ref l) (upd H l (.lst ys))
theorem sList : CallS K (rList K) dList := fun wa w F H ds d st vs wk fd c e Q q => by
  unfold dList at e
  split at e
  · cases e
    obtain ⟨v, rfl, a, us, e1, hh, rr⟩ := curs1 c
    subst e1
    exact ⟨a, us, rfl, .inl (.inl (.inl hh)), fun l hl => q.lst wk fd rr hl⟩
  · cases e
    obtain ⟨v, rfl, a, u, us, e1, hF, hh, ht, rr⟩ := curs1 c
    subst e1
    exact ⟨a, us, rfl, .inr (ht.sq hh), fun l hl => q.lst wk fd rr hl⟩
  · cases e
/-! ### isinstance -/
def tyN : D → Option String
  | .non => some "NoneType"
  | .bl _ => some "bool"
  | .int _ => some "int"
  | .str _ => some "str"
  | .tup _ => some "tuple"
  | .lst _ => some "list"
  | .dk _ _ => some "dict"
  | _ => none
def isiT (a b : String) : Option Bool :=
  if (["int", "str", "tuple", "list", "bool", "dict"] : List String).contains b && (["NoneType", "bool", "int", "str", "tuple", "list", "dict"] : List String).contains a then some (a == b || (a == "bool" && b == "int")) else none
theorem isiT_ok : ∀ a ∈ (["NoneType", "bool", "int", "str", "tuple", "list", "dict"] : List String), ∀ b ∈ (["int", "str", "tuple", "list", "bool", "dict"] : List String), kitB a b = some (a == b || (a == "bool" && b == "int")) := by decide +kernel
theorem isiT_kit {K : PySem.W.Frag} {a b : String} {r : Bool} (h : isiT a b = some r) : PySem.W.kitOne K (.type a) (.type b) = some r := by
  unfold isiT at h
  split at h
  · rename_i hc
    cases h
    rw [Bool.and_eq_true, List.contains_iff_mem, List.contains_iff_mem] at hc
    exact kit_ty (isiT_ok a hc.2 b hc.1)
  · cases h
def dIsi : List D → Option DS
  | [x, .ty T] => (tyN x).bind fun a => (isiT a T).map fun b => (.bl b, .fz)
  | _ => none
theorem tyN_ok {x : D} {a : String} (h : tyN x = some a) (c : Cur K F wa H x v) : TyX K H v (.type a) := by
  cases x with
  | non => cases h; cases c; exact .base .non
  | bl b => cases h; cases c; exact .base (.bl b)
  | int b => cases h; cases c; exact .base (.int b)
  | str b => cases h; cases c; exact .base (.str b)
  | tup ds =>
    cases h
    obtain ⟨a, u, vs, e, _, hh, ⟨o, _, _, e2⟩, _⟩ := c
    subst e e2
    exact .fTuple hh
  | lst ds =>
    cases h
    obtain ⟨a, vs, e, hh, _⟩ := c
    subst e
    exact .base (.lst hh)
  | dk ks ds =>
    cases h
    obtain ⟨a, vs, e, hh, _⟩ := c
    subst e
    exact .base (.dK hh)
  | _ => cases h
theorem sIsi : CallS K (rIsi K) dIsi := fun wa w F H ds d st vs wk fd c e Q q => by
  unfold dIsi at e
  split at e
  · obtain ⟨a, h1, h2⟩ := Option.bind_eq_some_iff.mp e
    obtain ⟨b, h3, h4⟩ := Option.map_eq_some_iff.mp h2
    cases h4
    obtain ⟨v, u, rfl, e1, e2⟩ := curs2 c
    cases e2
    exact ⟨v, _, _, _, b, rfl, .ty _, tyN_ok h1 e1, isiT_kit h3, q.fz wk fd rfl⟩
  · cases e
/-! ### dicts -/
def dFind : List Key → List D → Key → Option D
  | k :: ks, d :: ds, j => if k = j then some d else dFind ks ds j
  | _, _, _ => none
def dUpd : List Key → List D → Key → D → List D
  | k :: ks, d :: ds, j, x => (if k = j then x else d) :: dUpd ks ds j x
  | _, ds, _, _ => ds
/-- a key stored -/
def hasK (ks : List Key) (k : Key) : Bool := ks.any fun j => decide (j = k)
theorem hasK_mem {ks : List Key} {k : Key} : hasK ks k = true ↔ k ∈ ks := by
  unfold hasK
  rw [List.any_eq_true]
  exact ⟨fun ⟨x, h, e⟩ => of_decide_eq_true e ▸ h, fun h => ⟨k, h, decide_eq_true rfl⟩⟩
def dPut (ks : List Key) (ds : List D) (k : Key) (x : D) : List Key × List D := if hasK ks k = true then (ks, dUpd ks ds k x) else (ks ++ [k], ds ++ [x])
def keyD : D → Option Key
  | .int i => some (.inl i)
  | .str x => some (.inr x)
  | _ => none
theorem keyD_ok {d : D} {k : Key} (h : keyD d = some k) (c : Cur K F wa H d v) : v = kV k := by
  cases d with
  | int i => cases h; exact c
  | str i => cases h; exact c
  | _ => cases h
theorem dFind_ok {k : Key} : ∀ {ks : List Key} {ds : List D} {vs : List V}, Reps K F wa H ds vs → (∀ x, dFind ks ds k = some x → ∃ u, valV (ks.zip vs) k = some u ∧ Rep K F wa H x u) ∧ (ks.length = vs.length → dFind ks ds k = none → valV (ks.zip vs) k = none)
  | [], ds, vs, r => ⟨fun x h => (by cases h), fun _ _ => rfl⟩
  | j :: ks, [], vs, r => by
    have e : vs = [] := r
    subst e
    exact ⟨fun x h => (by cases h), fun h => (by cases h)⟩
  | j :: ks, d :: ds, vs, r => by
    obtain ⟨u, vr, e, r1, r2⟩ := r
    subst e
    obtain ⟨g1, g2⟩ := dFind_ok (k := k) (ks := ks) r2
    have hv : valV ((j :: ks).zip (u :: vr)) k = if j = k then some u else valV (ks.zip vr) k := by
      unfold valV
      rw [List.zip_cons_cons, List.find?_cons]
      by_cases e : j = k
      · simp [e]
      · simp [e]
    rw [hv]
    show (∀ x, (if j = k then some d else dFind ks ds k) = some x → _) ∧ (_ → (if j = k then some d else dFind ks ds k) = none → _)
    by_cases e : j = k
    · rw [if_pos e, if_pos e]
      exact ⟨fun x h => (by cases h; exact ⟨u, rfl, r1⟩), fun _ h => (by cases h)⟩
    · rw [if_neg e, if_neg e]
      exact ⟨g1, fun h => g2 (Nat.succ.inj h)⟩
theorem dUpd_ok {k : Key} {x : D} {u : V} (rx : Rep K F wa H x u) : ∀ {ks : List Key} {ds : List D} {vs : List V}, ks.length = vs.length → Reps K F wa H ds vs → ∃ vs', vs'.length = vs.length ∧ Reps K F wa H (dUpd ks ds k x) vs' ∧ (ks.zip vs).map (fun kv => if kv.1 = k then (kv.1, u) else kv) = ks.zip vs'
  | [], ds, vs, hl, r => by
    cases vs with
    | nil => exact ⟨[], rfl, by cases ds <;> exact r, rfl⟩
    | cons _ _ => cases hl
  | j :: ks, [], vs, hl, r => by
    have e : vs = [] := r
    subst e
    cases hl
  | j :: ks, d :: ds, vs, hl, r => by
    obtain ⟨y, vr, e, r1, r2⟩ := r
    subst e
    obtain ⟨vs', l, rr, e⟩ := dUpd_ok rx (ks := ks) (Nat.succ.inj hl) r2
    refine ⟨(if j = k then u else y) :: vs', by rw [List.length_cons, l, List.length_cons], ?_, ?_⟩
    · refine ⟨_, vs', rfl, ?_, rr⟩
      by_cases ej : j = k
      · rw [if_pos ej, if_pos ej]; exact rx
      · rw [if_neg ej, if_neg ej]; exact r1
    · rw [List.zip_cons_cons, List.map_cons, List.zip_cons_cons, e]
      by_cases ej : j = k
      · rw [if_pos ej, if_pos ej]
      · rw [if_neg ej, if_neg ej]
theorem zip_any {k : Key} : ∀ {ks : List Key} {vs : List V}, ks.length = vs.length → ((ks.zip vs).any fun kv => decide (kv.1 = k)) = hasK ks k
  | [], _, _ => rfl
  | j :: ks, [], h => by cases h
  | j :: ks, v :: vs, h => by
    rw [List.zip_cons_cons, List.any_cons, zip_any (Nat.succ.inj h)]
    rfl
theorem dPut_ok {k : Key} {x : D} {u : V} {ks : List Key} {ds : List D} {vs : List V} (rx : Rep K F wa H x u) (hl : ks.length = vs.length) (r : Reps K F wa H ds vs) :
    ∃ vs', (dPut ks ds k x).1.length = vs'.length ∧ Reps K F wa H (dPut ks ds k x).2 vs' ∧ putK (ks.zip vs) k u = (dPut ks ds k x).1.zip vs' := by
  unfold dPut putK
  rw [zip_any hl]
  by_cases hk : hasK ks k = true
  · rw [if_pos hk, if_pos hk]
    obtain ⟨vs', l, rr, e⟩ := dUpd_ok rx hl r
    exact ⟨vs', hl.trans l.symm, rr, e⟩
  · rw [if_neg hk, if_neg hk]
    refine ⟨vs ++ [u], by simp [hl], r.app (.one rx), ?_⟩
    rw [List.zip_append hl]; rfl
/-- dict of pairs -/
def dMerge : List Key → List D → List D → Option (List Key × List D)
  | ks, ds, [] => some (ks, ds)
  | ks, ds, .tup [k, x] :: r => (keyD k).bind fun k => dMerge (dPut ks ds k x).1 (dPut ks ds k x).2 r
  | _, _, _ => none
def dDict : List D → Option DS
  | [.tup ps] => if ps.length ≤ lim then (dMerge [] [] ps).map fun r => (.dk r.1 r.2, .ow) else none
  | [.lst ps] => if ps.length ≤ lim then (dMerge [] [] ps).map fun r => (.dk r.1 r.2, .ow) else none
  | _ => none
end
end Dl

set_option Elab.async false
set_option linter.all false
set_option maxRecDepth 100000
set_option maxHeartbeats 4000000
namespace Dl
open PySem PySem.Spec PyProof.Rows L2
/-! ### dict(pairs) -/
section
variable {K : PySem.W.Frag} {F : Addr → Prop} {wa : Option Addr} {H : Hp} {w : Option Wd} {d : D} {v : V} {Q : VK}
theorem merge_ok : ∀ {items : List D} {vs : List V} {ks ks' : List Key} {ds ds' : List D} {us : List V}, Reps K F wa H items vs → ks.length = us.length → Reps K F wa H ds us → dMerge ks ds items = some (ks', ds') →
    ∃ (ps : List Addr) (kvs : List (Key × V)) (us' : List V), vs = ps.map V.ref ∧ Paired (fun p kv => SqT K H p [kV kv.1, kv.2]) ps kvs ∧ mergeK (ks.zip us) kvs = ks'.zip us' ∧ ks'.length = us'.length ∧ Reps K F wa H ds' us'
  | [], vs, ks, ks', ds, ds', us, r, hl, rr, h => by
    have e : vs = [] := r
    subst e
    cases h
    exact ⟨[], [], us, rfl, .nil, rfl, hl, rr⟩
  | it :: items, vs, ks, ks', ds, ds', us, r, hl, rr, h => by
    obtain ⟨v, vr, e, r1, r2⟩ := r
    subst e
    unfold dMerge at h
    split at h
    · rename_i e; cases e
    · rename_i k x q e
      cases e
      obtain ⟨ke, hk, h2⟩ := Option.bind_eq_some_iff.mp h
      obtain ⟨a, u, vs2, e1, hF, hh, ht, v1, vr1, e2, rk, v2, vr2, e3, rx, e4⟩ := r1
      have e4' : vr2 = [] := e4
      subst e4' e3 e2 e1
      obtain ⟨us1, l1, rr1, m1⟩ := dPut_ok (k := ke) rx hl rr
      obtain ⟨ps, kvs, us', g1, g2, g3, g4, g5⟩ := merge_ok r2 l1 rr1 h2
      refine ⟨a :: ps, (ke, v2) :: kvs, us', by rw [g1]; rfl, .cons ?_ g2, ?_, g4, g5⟩
      · have := keyD_ok hk (Rep.cur rk)
        subst this
        exact ht.sq hh
      · refine Eq.trans ?_ g3
        rw [← m1]; rfl
    · cases h
end
section
variable {X : Cx}
theorem pairs_of2 {pins : List (Addr × Obj)} {σ : L2.St} {H : Hp} {s : Shared} (I : Inv X pins σ H s) : ∀ {ps : List Addr} {kvs : List (Key × V)}, Paired (fun p kv => SqT X.K H p [kV kv.1, kv.2]) ps kvs →
    ∃ (prs : List (Key × Value)) (zs : List (Value × Value)), KV kvs prs ∧ prs.length = ps.length ∧ zs.length = ps.length ∧ ∀ (j : Nat) (z : Value × Value), zs[j]? = some z → ∃ (b : Addr) (k : Key), ps[j]? = some b ∧ prs[j]? = some (k, z.2) ∧ IsTup s.heap b #[z.1, z.2] ∧ keyIs k z.1 = true
  | _, _, .nil => ⟨[], [], .nil, rfl, rfl, fun j q e => by simp at e⟩
  | _, _, .cons (a := p) (b := kv) h t => by
    obtain ⟨prs, zs, r, hl, hl2, hp⟩ := pairs_of2 I t
    obtain ⟨its, rv, ht, _⟩ := I.tuple h
    obtain ⟨u, y, ei, ru, ry⟩ := vals2 rv
    subst ei
    refine ⟨(kv.1, y) :: prs, (u, y) :: zs, .cons ⟨rfl, ry⟩ r, by rw [List.length_cons, List.length_cons, hl], by rw [List.length_cons, List.length_cons, hl2], fun j q e => ?_⟩
    cases j with
    | zero =>
      have e' : (u, y) = q := Option.some.inj e
      subst e'
      exact ⟨p, kv.1, rfl, rfl, ht, kV_is (P := X.prog) (w := X.w) ru⟩
    | succ j =>
      obtain ⟨b, k, e1, e2, e3⟩ := hp j q (by simpa using e)
      exact ⟨b, k, by simpa using e1, by simpa using e2, e3⟩
/-- dict(a tuple of pairs) -/
theorem call_dictT (hcalm : X.calm = true) : CallR X (.type "dict") (fun xs H Q => ∃ (a : Addr) (u : HO) (ps : List Addr) (kvs : List (Key × V)), xs = [.ref a] ∧ H a = some u ∧ TupO u (ps.map V.ref) ∧ Paired (fun p kv => SqT X.K H p [kV kv.1, kv.2]) ps kvs ∧
    ∀ p, H p = none → Q (.ref p) (upd H p (.dK (mergeK [] kvs)))) := by
  intro pins s σ H xs us Q I r q
  obtain ⟨a, u0, ps, kvs, ex, hq, ⟨ob, hcls, hdict, eu⟩, hp, q⟩ := q
  subst ex eu
  obtain ⟨u, eu, rx⟩ := vals1 r
  subst eu
  cases rx
  obtain ⟨hget, hz, its, rv, o2, ho2, hc2, n2, hd2⟩ := (show ObjOk X.prog X.w H s.heap a (.frz ob (.tup (ps.map V.ref))) from I.hok a _ hq)
  rw [hget] at ho2
  cases ho2
  have ei := refs_at rv
  subst ei
  rw [List.length_map] at hz
  obtain ⟨prs, zs, rel, hl, hl2, hpr⟩ := pairs_of2 I hp
  refine PySem.call_dict_pairs (knd := mixKind X.prog X.w) (kvs := prs) (PairArg.tuple (prog := X.prog) (w := X.w) a (ps.map Value.ref).toArray (fun j => ps.getD j 0) zs) (I.ok.hd hcalm) ⟨⟨ob, n2, hget, hcls, hdict, hd2⟩, ?_, fun j k v e => ?_⟩ ⟨by rw [hl, hl2], fun i key v e => ?_⟩ (by rw [hl2]; exact hz) fun h' tk hd' kp => ?_
  · simp [hl2]
  · obtain ⟨b, k', e1, e2, e3, e4⟩ := hpr j (k, v) e
    refine ⟨by simp [e1], .inl ?_⟩
    have : ps.getD j 0 = b := by rw [List.getD_eq_getElem?_getD, e1]; rfl
    show s.heap.IsTuple (ps.getD j 0) #[k, v]
    rw [this]
    exact e3
  · obtain ⟨b, k', e1, e2, e3, e4⟩ := hpr i (key, v) e
    exact ⟨k', e2, e4⟩
  · have hm : (s.heap.objs.size == sysModules) = false := beq_eq_false_iff_ne.mpr (Nat.ne_of_gt I.big)
    have hlen : (mergeK [] kvs).length ≤ sizeLine := by
      refine Nat.le_trans (length_mergeK kvs []) ?_
      rw [List.length_nil, Nat.zero_add, rel.length, hl]
      exact hz
    exact ⟨.ref s.heap.objs.size, upd H s.heap.objs.size (.dK (mergeK [] kvs)), I.laid (t' := tk) (fun b o e => kp b o (by simp) e) (Nat.le_refl _) (show ObjOk X.prog X.w _ _ _ (.dK (mergeK [] kvs)) from ⟨hlen, hm, merged [] prs, KV.merge rel .nil, hd'⟩), rfl, q _ (I.hok.fresh (Nat.le_refl _))⟩
abbrev rDictP (K : PySem.W.Frag) : List V → Hp → VK → Prop := fun xs H Q => ∃ (a : Addr) (ps : List Addr) (kvs : List (Key × V)), xs = [.ref a] ∧ SqL K H a (ps.map V.ref) ∧ Paired (fun p kv => SqT K H p [kV kv.1, kv.2]) ps kvs ∧
    ∀ p, H p = none → Q (.ref p) (upd H p (.dK (mergeK [] kvs)))
abbrev rDictT (K : PySem.W.Frag) : List V → Hp → VK → Prop := fun xs H Q => ∃ (a : Addr) (u : HO) (ps : List Addr) (kvs : List (Key × V)), xs = [.ref a] ∧ H a = some u ∧ TupO u (ps.map V.ref) ∧ Paired (fun p kv => SqT K H p [kV kv.1, kv.2]) ps kvs ∧
    ∀ p, H p = none → Q (.ref p) (upd H p (.dK (mergeK [] kvs)))
theorem call_dict (hcalm : X.calm = true) : CallR X (.type "dict") (fun xs H Q => rDictP X.K xs H Q ∨ rDictT X.K xs H Q) := (call_dictP hcalm).or (call_dictT hcalm)
end
section
variable {K : PySem.W.Frag} {F : Addr → Prop} {wa : Option Addr} {H : Hp} {w : Option Wd} {d : D} {v : V} {Q : VK}
theorem sDict : CallS K (fun xs H Q => rDictP K xs H Q ∨ rDictT K xs H Q) dDict := fun wa w F H ds d st vs wk fd c e Q q => by
  unfold dDict at e
  split at e
  · split at e
    · obtain ⟨⟨ks, es⟩, h1, h2⟩ := Option.map_eq_some_iff.mp e
      cases h2
      obtain ⟨v, rfl, a, u, us, e1, hF, hh, ht, rr⟩ := curs1 c
      subst e1
      obtain ⟨ps, kvs, us', g1, g2, g3, g4, g5⟩ := merge_ok rr (ks := []) (ds := []) (us := []) rfl rfl h1
      subst g1
      refine .inr ⟨a, u, ps, kvs, rfl, hh, ht, g2, fun p hp => ?_⟩
      rw [show mergeK [] kvs = ks.zip us' from g3]
      exact q.dk wk fd g5 g4 hp
    · cases e
  · split at e
    · obtain ⟨⟨ks, es⟩, h1, h2⟩ := Option.map_eq_some_iff.mp e
      cases h2
      obtain ⟨v, rfl, a, us, e1, hh, rr⟩ := curs1 c
      subst e1
      obtain ⟨ps, kvs, us', g1, g2, g3, g4, g5⟩ := merge_ok rr (ks := []) (ds := []) (us := []) rfl rfl h1
      subst g1
      refine .inl ⟨a, ps, kvs, rfl, .inl (.inl hh), g2, fun p hp => ?_⟩
      rw [show mergeK [] kvs = ks.zip us' from g3]
      exact q.dk wk fd g5 g4 hp
    · cases e
  · cases e
theorem sNeg {K : PySem.W.Frag} : UnS K (rU fun i => .int (-i)) (fun x => match x with | .int i => fzO (.int (-i)) | _ => none) := fun wa w F H x d st v1 wk fd c e Q q => by
  cases x with
  | int i => cases e; exact ⟨i, c, q.fz wk fd rfl⟩
  | _ => cases e
end
/-! ### more expressions -/
def dNeg : D → Option DS := fun x => match x with | .int i => fzO (.int (-i)) | _ => none
def eGet2 (f g h : EF) : EF := fun env w => (f env w).bind fun p => match p.1.1 with
  | .dk ks ds => (g env p.2).bind fun q => (keyD q.1.1).bind fun k => (eFz h env q.2).bind fun r => some (match dFind ks ds k with
      | some x => (x, .fz)
      | none => r.1, r.2)
  | _ => none
def eWget (i : Nat) (a : Bool) : EF := fun env w => match env[i]?, w with
  | some (some (.w, false)), some W => some ((if a = true then .int W.ix else .lst (W.draws.map D.int), .fz), w)
  | _, _ => none
section
variable {X : Cx} {e o e1 e2 : Expr} {f g h : EF} {pos pos' : Pos}
theorem e_neg (he : Snd X e f) : Snd X (.UnaryOp .USub e pos) (eUn dNeg f) := e_un un_neg sNeg he
theorem e_ty {x : Str} {n : String} (hg : Gl X x) (hm : X.mg x = none) (hv : bootBuiltins x = some (.type n)) (hn : x ≠ "__name__" := by decide) (hd : (x == ("__debug__" : Str)) = false := by decide) : Snd X (.Name x pos) (eC (.ty n)) :=
  e_c (pe_bltn (v := .ty n) hg hm hv rfl hn hd) fun _ _ _ => rfl
theorem e_dict0 : Snd X (.Dict [] [] pos) (fun _ w => some ((.dk [] [], .ow), w)) := by
  refine pe_imp pe_dnewK fun σ H Q q => ?_
  obtain ⟨B, F, wa, w, env, S, d, st, w', hf, k⟩ := q
  cases hf
  intro p hp
  exact Res.dk (ks := []) (vs := []) S.wk S.fd (Res.behind S (Aft.refl S.wk S.fd) k) rfl rfl hp
theorem e_get2 {apos cpos : Pos} (hu : X.A.units + 1 < cLine) (ho : Snd X o f) (he : Snd X e1 g) (hf : Snd X e2 h) (m : M2 X o "get" apos e1 e2 cpos) : Snd X (.Call (.Attribute o "get" apos) [e1, e2] [] cpos) (eGet2 f g h) := by
  refine pe_imp (pe_dget2 hu ho he (e_fz hf) m) fun σ H Q q => ?_
  obtain ⟨B, F, wa, w, env, S, d, st, w', hf, k⟩ := q
  unfold eGet2 at hf
  obtain ⟨⟨⟨d1, st1⟩, w1⟩, h1, h2⟩ := Option.bind_eq_some_iff.mp hf
  refine ⟨B, F, wa, w, env, S, d1, st1, w1, h1, fun v F1 H1 A1 r1 => ?_⟩
  cases d1 with
  | dk ks ds =>
    have h2' : ((g env w1).bind fun q => (keyD q.1.1).bind fun k => (eFz h env q.2).bind fun r => some (match dFind ks ds k with
      | some x => (x, O3.fz)
      | none => r.1, r.2)) = some ((d, st), w') := h2
    obtain ⟨⟨⟨d2, st2⟩, w2⟩, h3, h4⟩ := Option.bind_eq_some_iff.mp h2'
    obtain ⟨ke, h5, h6⟩ := Option.bind_eq_some_iff.mp h4
    obtain ⟨⟨⟨d3, st3⟩, w3⟩, h7, h8⟩ := Option.bind_eq_some_iff.mp h6
    obtain ⟨a, vs, ea, hh, hl, rr⟩ := r1.cur
    refine ⟨a, ea, .inl ⟨_, .inl hh⟩, ?_⟩
    refine ⟨B, F1, wa, w1, env, S.aft A1, d2, st2, w2, h3, fun v2 F2 H2 A2 r2 => ?_⟩
    refine ⟨B, F2, wa, w2, env, (S.aft A1).aft A2, d3, st3, w3, h7, fun v3 F3 H3 A3 r3 => ?_⟩
    have c1 := ((r1.aft A2).aft A3).cur
    obtain ⟨a', vs', ea', hh', hl', rr'⟩ := c1
    rw [ea] at ea'
    cases ea'
    have ek := keyD_ok h5 (r2.aft A3).cur
    have e3 : st3 = .fz := by
      unfold eFz at h7
      obtain ⟨⟨⟨d6, st6⟩, w7⟩, g4, g5⟩ := Option.bind_eq_some_iff.mp h7
      cases st6 <;> cases g5 <;> rfl
    subst e3
    obtain ⟨q1, q2⟩ := dFind_ok (k := ke) (ks := ks) rr'
    refine ⟨valV (ks.zip vs') ke, .inl ⟨_, ke, .inl hh', ek, rfl⟩, ?_⟩
    cases hfd : dFind ks ds ke with
    | some x =>
      rw [hfd] at h8
      cases h8
      obtain ⟨u, h9, r9⟩ := q1 _ hfd
      rw [h9]
      exact k u F3 H3 ((A1.trans A2).trans A3) r9
    | none =>
      rw [hfd] at h8
      cases h8
      rw [q2 hl' hfd]
      exact k v3 F3 H3 ((A1.trans A2).trans A3) r3
  | _ => cases h2
theorem kv_ne : (kDraws = kAt) = False := by
  apply eq_false
  unfold kDraws kAt
  intro h
  cases h
theorem e_wget (i : Nat) {c : Str} {j : Nat} {wpos cpos : Pos} {nm : Str} (a : Bool) (hu : X.A.units + 1 < cLine) (ho : PE X (.Name nm wpos) (tVar i)) (hc : c = if a = true then "at" else "draws") (hs : NoSl (.Constant (.str c) j cpos) := by exact fun _ _ => rfl) : Snd X (.Subscript (.Name nm wpos) (.Constant (.str c) j cpos) pos) (eWget i a) := by
  refine pe_imp (pe_dget hu ho pe_str hs) fun σ H Q q => ?_
  obtain ⟨B, F, wa, w, env, S, d, st, w', hf, k⟩ := q
  unfold eWget at hf
  split at hf
  · rename_i W hd
    cases hf
    obtain ⟨v, h1, x, hw, e⟩ := S.fz i _ hd
    subst hw e
    obtain ⟨g1, da, g2, g3, g4⟩ := S.wk
    refine ⟨.ref x, h1, x, if a = true then .int W.ix else .ref da, rfl, ?_, k _ F H (Aft.refl S.wk S.fd) ?_⟩
    · refine .inl ⟨_, .inr c, .inl g3, rfl, ?_⟩
      cases a with
      | true =>
        subst hc
        show some (V.int W.ix) = valV [(kDraws, .ref da), (kAt, .int W.ix)] kAt
        unfold valV
        simp [kv_ne]
      | false =>
        subst hc
        show some (V.ref da) = valV [(kDraws, .ref da), (kAt, .int W.ix)] kDraws
        unfold valV
        simp
    · cases a with
      | true => exact rfl
      | false => exact ⟨da, _, rfl, g2, g4, Reps.ints⟩
  · cases hf
theorem s_tick (i : Nat) {j j2 : Nat} {wpos cpos tpos npos : Pos} {nm : Str} (hu : X.A.units + 1 < cLine) (ho : PE X (.Name nm wpos) (tVar i))
    (ha : ∀ ov iv new, augStore (.Constant (.str "at") j cpos) ov iv new = (do holding [new, ov, iv] (setItem ov iv new); release [new, ov, iv] []; pure .next) := by exact fun _ _ _ => rfl) : SndS X (.AugAssign (.Subscript (.Name nm wpos) (.Constant (.str "at") j cpos) tpos) .Add (.Constant (.int 1) j2 npos) pos) (sTick i) := by
  refine ps_imp (ps_daug hu ho pe_str pe_int in_add ha) fun Dn σ H q => ?_
  obtain ⟨B, F, wa, w, env, S, out, hf, k⟩ := q
  unfold sTick at hf
  split at hf
  · rename_i W hd
    cases hf
    obtain ⟨v, h1, x, hw, e⟩ := S.fz i _ hd
    subst hw e
    obtain ⟨g1, da, g2, g3, g4⟩ := S.wk
    refine ⟨.ref x, h1, x, .int W.ix, rfl, .inl ⟨_, .inr "at", .inl g3, rfl, ?_⟩, W.ix, 1, rfl, rfl, _, DPut.k (k := .inr "at") g3 (by show 2 < sizeLine; rw [sizeLine_eq]; decide), ?_⟩
    · show some (V.int W.ix) = valV [(kDraws, .ref da), (kAt, .int W.ix)] kAt
      unfold valV
      simp [kv_ne]
    · have ep : putK [(kDraws, V.ref da), (kAt, .int W.ix)] kAt (.int (W.ix + 1)) = [(kDraws, .ref da), (kAt, .int (W.ix + 1))] := by
        unfold putK
        simp [kv_ne]
      show Dn.nx σ (upd H x (.dK (putK [(kDraws, V.ref da), (kAt, .int W.ix)] kAt (.int (W.ix + 1)))))
      rw [ep]
      have kf : ∀ b u, F b → H b = some u → upd H x (.dK [(kDraws, .ref da), (kAt, .int (W.ix + 1))]) b = some u := fun b u fb h => by rw [upd_ne fun z => g1 (by rw [← z]; exact fb)]; exact h
      have hdom : ∀ b, upd H x (.dK [(kDraws, .ref da), (kAt, .int (W.ix + 1))]) b = none → H b = none := fun b h => by
        by_cases e : b = x
        · subst e; rw [upd_same] at h; cases h
        · rw [upd_ne e] at h; exact h
      have wk : WOk F (some x) (upd H x (.dK [(kDraws, .ref da), (kAt, .int (W.ix + 1))])) (some ⟨W.draws, W.ix + 1⟩) := ⟨g1, da, g2, upd_same, kf _ _ g2 g4⟩
      have fd : ∀ b, F b → upd H x (.dK [(kDraws, .ref da), (kAt, .int (W.ix + 1))]) b ≠ none := fun b fb h => S.fd b fb (hdom b h)
      have mrs : ∀ {ds vs}, Reps X.K F (some x) H ds vs → Reps X.K F (some x) (upd H x (.dK [(kDraws, .ref da), (kAt, .int (W.ix + 1))])) ds vs := fun {ds vs} r => Reps.mono (fun _ z => z) kf ds vs r
      refine k σ F _ ⟨fun _ h => h, fun _ h => .inl h, fun b u h hb hx => by rw [upd_ne fun z => hx (by rw [z])]; exact h, kf, hdom, wk, fd⟩ ⟨S.len, fun j d h => ?_, fun j d h => ?_, S.ne, wk, fd, fun b hb h => S.bd b hb (hdom b h)⟩
      · obtain ⟨v, h2, r⟩ := S.fz j d h
        exact ⟨v, h2, Rep.mono (fun _ z => z) kf d v r⟩
      · obtain ⟨a, h2, ⟨p1, p2, p3⟩, nb⟩ := S.ow j d h
        refine ⟨a, h2, ⟨p1, p2, ?_⟩, nb⟩
        have na : a ≠ x := fun z => p2 (by rw [z])
        rcases p3 with ⟨ds, vs, e, e2, r⟩ | ⟨ks, ds, vs, e, e2, l, r⟩
        · exact .inl ⟨ds, vs, e, by rw [upd_ne na]; exact e2, mrs r⟩
        · exact .inr ⟨ks, ds, vs, e, by rw [upd_ne na]; exact e2, l, mrs r⟩
  · cases hf
theorem s_ins0 (i : Nat) {x apos cpos zpos : Pos} {j : Nat} {nm : Str} (ho : PE X (.Name nm x) (tVar i)) (he : Snd X e f) (hs : starEach [e] X.env = (false, eval e X.env) :: starEach [] X.env := by rfl)
    (hs2 : starEach [.Constant (.int 0) j zpos, e] X.env = (false, eval (.Constant (.int 0) j zpos) X.env) :: starEach [e] X.env := by rfl)
    (hpe : ∀ {to : TE} {ta : TA} {r : V → List V → Hp → VK → Prop}, MtR X "list.insert" r → PE X (.Name nm x) to → PA X [.Constant (.int 0) j zpos, e] ta → PE X (.Call (.Attribute (.Name nm x) "insert" apos) [.Constant (.int 0) j zpos, e] [] cpos) (tBM X.K "list" r to ta) := by
      intro to ta r h0 h1 h2; exact pe_bm PySem.F.plainAttrs_list PySem.F.slot_list_insert PySem.F.type_list_insert h0 h1 h2)
    (hsw : swapsWith (.Call (.Attribute (.Name nm x) "insert" apos) [.Constant (.int 0) j zpos, e] [] cpos) none pos.line X.env = pure false := by rfl) :
    SndS X (.Expr (.Call (.Attribute (.Name nm x) "insert" apos) [.Constant (.int 0) j zpos, e] [] cpos) pos) (sIns0 i f) := by
  refine ps_imp (ps_expr (hpe mt_insert ho (pa_cons pe_int (pa_cons (e_fz he) pa_nil hs) hs2)) hsw) fun Dn σ H q => ?_
  obtain ⟨B, F, wa, w, env, S, out, hf, k⟩ := q
  unfold sIns0 at hf
  obtain ⟨⟨⟨d1, st1⟩, w1⟩, h1, h2⟩ := Option.bind_eq_some_iff.mp hf
  have e1 : st1 = .fz := by
    unfold eFz at h1
    obtain ⟨⟨⟨d3, st3⟩, w3⟩, h4, h5⟩ := Option.bind_eq_some_iff.mp h1
    cases st3 <;> cases h5 <;> rfl
  subst e1
  dsimp only at h2
  split at h2
  · rename_i ds hd
    split at h2
    · rename_i hz
      cases h2
      obtain ⟨a, vs, g1, g2, g3, g4⟩ := own_lst S hd
      refine ⟨.ref a, g1, .inl ⟨rfl, vs, .inl (.inl g2)⟩, ?_⟩
      refine ⟨B, F, wa, w, env, S, d1, .fz, _, h1, fun v F1 H1 A r => ?_⟩
      have S1 := S.aft A
      have h3 := A.keep a _ g2 g4
      have hl := g3.len
      refine ⟨a, vs, 0, v, rfl, rfl, h3, by rw [← hl]; exact lineN hz, by decide, by decide, ?_⟩
      obtain ⟨A2, S2⟩ := S1.write (d' := .lst (d1 :: ds)) (o := .lst (v :: vs)) hd g1 (.inl ⟨_, _, rfl, rfl, ⟨v, vs, rfl, r, A.reps g3⟩⟩)
      exact k _ F1 _ ((A.toS S.bd).trans A2) S2
    · cases h2
  · cases h2
end
/-! ### the law -/
def spLaw (K : PySem.W.Frag) : Sp := fun vs H Q _ => ∃ (a : Addr) (ns : List Int), vs = [.ref a] ∧ SqL K H a (ns.map V.int) ∧ ns.length ≤ 63 ∧ ∀ H', Q (.bl true) H'
/-- w = {"draws": F(script, n), "at": 0} -/
def tMkw (K : PySem.W.Frag) (Gd : Fn) (n : Int) (iw : Nat) : TS := tAsg (tDisp [(tC (.str "draws"), rd K (eCall Gd (aCons (eVar 0) (aCons (eC (.int n)) aNil)))), (tC (.str "at"), tC (.int 0))]) (gName iw)
theorem law_d {P : Program} {w : World} {K : PySem.W.Frag} {mg : Str → Option Value} {base : Heap} {st : Stmt} {f : Addr} {fd : FuncData} {N : List Str} {k : Nat} {s1 : Stmt} {rest : List Stmt} {g : SB} {Gd : Fn} {n : Int} {iw : Nat} (Fu : Fun K "law" "law" st f fd) (S : FnScope N ["script"] (defScope st)) (hN : 0 < iw ∧ iw < N.length)
    (hb : defBody st = s1 :: rest)
    (hbody : ∀ (cdv : Value) (A : Around) (outer : List Env) (s : Shared) (H : Hp) (E : XK), Room k (A.deeper (envOfC "law" (defScope st) s.heap.objs.size f cdv)) →
      PS (cxOf CX0 P w K mg base N "law" (defScope st) f cdv A outer s H E).nox s1 (tMkw K Gd n iw) ∧ SndSs (cxOf CX0 P w K mg base N "law" (defScope st) f cdv A outer s H E).nox rest g)
    (math : ∀ ns : List Int, ns.length ≤ 63 → ∃ ds : List Int, Gd [.scr ns, .int n] none = some ((.lst (ds.map D.int), .ow), none) ∧ ∃ w', g ((startE N.length [.scr ns]).set iw (some (.w, false))) (some ⟨ds, 0⟩) = some (.rt (.bl true, .fz) w')) :
    FnOk P w K mg base CX0 (k + 1) f fd ["script"] (spLaw K) := by
  refine Fu.ok S (fun vs H Q E h => ?_) (fun cdv A outer s H vs Q E hr h => ?_)
  · obtain ⟨a, ns, rfl, _⟩ := h; rfl
  · obtain ⟨a, ns, rfl, hS, hlen, q⟩ := h
    obtain ⟨h1, h2⟩ := hbody cdv A outer s H E hr
    obtain ⟨ds, m1, w', m2⟩ := math ns hlen
    rw [hb]
    refine ⟨_, pss_cons h1 h2, ?_⟩
    intro p hp
    -- the frozen: all that stands
    have np : ∀ a, H a ≠ none → a ≠ p := fun a h e => h (by rw [e]; exact hp)
    have rs : Rep K (fun a => H a ≠ none) none H (.scr ns) (.ref a) := by
      refine ⟨a, rfl, ?_⟩
      rcases hS with hS | hS
      · refine .inl ⟨?_, hS⟩
        rcases hS with hS | ⟨o, hS⟩ <;> (show H a ≠ none; rw [hS]; simp)
      · exact .inr hS
    have wk0 : WOk (fun a => H a ≠ none) none H none := trivial
    have A0 := Aft.new0 (K := K) (o := .dK []) wk0 (fun a h => h) hp
    have S0 : SI K (fun a => H a ≠ none) (fun a => H a ≠ none) none H none (L2.start N [.ref a]) (startE N.length [.scr ns]) := by
      have hst := Reps.start (K := K) (F := fun a => H a ≠ none) (wa := none) (H := H) (ds := [.scr ns]) (vs := [.ref a]) (.one rs) (N.length - 1)
      refine ⟨by unfold startE L2.start; simp, fun i d e => ?_, fun i d e => ?_, fun i j d e a _ e1 _ _ => ?_, trivial, fun a h => h, fun a h => h⟩
      · obtain ⟨_, v, e2, r2⟩ := hst i d false e
        exact ⟨v, e2, r2⟩
      · exact absurd (hst i d true e).1 (by decide)
      · exact absurd (hst i d true e1).1 (by decide)
    refine ⟨_, _, none, none, _, S0.aft A0, .lst (ds.map D.int), .ow, none, ?_, fun v F1 H1 A1 r1 => ?_⟩
    · show eCall Gd (aCons (eVar 0) (aCons (eC (.int n)) aNil)) (startE N.length [.scr ns]) none = _
      have hv : eVar 0 (startE N.length [.scr ns]) none = some ((.scr ns, .fz), none) := rfl
      unfold eCall aCons
      rw [hv]
      exact m1
    · -- the list of the draws is frozen
      obtain ⟨da, ea, ⟨nF, _, ho⟩, hn⟩ := r1
      subst ea
      obtain ⟨us, hu, ru⟩ : ∃ us, H1 da = some (.lst us) ∧ Reps K F1 none H1 (ds.map D.int) us := by
        rcases ho with ⟨es, vs, e, h, r⟩ | ⟨ks, es, vs, e, _⟩
        · cases e; exact ⟨vs, h, r⟩
        · cases e
      have eus : us = ds.map V.int := by
        have : ∀ (ds : List Int) (us : List V), Reps K F1 none H1 (ds.map D.int) us → us = ds.map V.int := by
          intro ds
          induction ds with
          | nil => intro us r; exact r
          | cons d r ih => intro us rr; obtain ⟨v, vr, e, r1, r2⟩ := rr; rw [e, show v = .int d from r1, ih vr r2]; rfl
        exact this ds us ru
      subst eus
      have hp1 : H1 p = some (.dK []) := A1.keep p _ upd_same (by simp)
      have nda : da ≠ p := fun e => by subst e; rw [upd_same] at hn; cases hn
      have nF1p : ¬ F1 p := fun z => by
        rcases A1.new p z with z | z
        · exact z hp
        · rw [upd_same] at z; cases z
      refine ⟨hp1, [(.inr "draws", .ref da), (.inr "at", .int 0)], rfl, by show 2 ≤ 15; decide, ?_⟩
      have hm : mergeK [] [((.inr "draws" : Key), V.ref da), (.inr "at", .int 0)] = [(kDraws, .ref da), (kAt, .int 0)] := by
        show putK (putK [] kDraws (.ref da)) kAt (.int 0) = _
        unfold putK
        simp [kv_ne]
      rw [hm]
      -- from here on with w
      have hk : ∀ b o, H b = some o → upd H1 p (.dK [(kDraws, .ref da), (kAt, .int 0)]) b = some o := fun b o h => by
        rw [upd_ne (np b (by rw [h]; simp))]
        exact A1.keep b o (by rw [upd_ne (np b (by rw [h]; simp))]; exact h) (by simp)
      have rs' : Rep K (fun a => H a ≠ none ∨ a = da) (some p) (upd H1 p (.dK [(kDraws, .ref da), (kAt, .int 0)])) (.scr ns) (.ref a) := by
        obtain ⟨a', e, h⟩ := rs
        refine ⟨a', e, ?_⟩
        rcases h with ⟨h1, h2 | ⟨o, h2⟩⟩ | h
        · exact .inl ⟨.inl h1, .inl (hk _ _ h2)⟩
        · exact .inl ⟨.inl h1, .inr ⟨o, hk _ _ h2⟩⟩
        · exact .inr h
      have wk : WOk (fun a => H a ≠ none ∨ a = da) (some p) (upd H1 p (.dK [(kDraws, .ref da), (kAt, .int 0)])) (some ⟨ds, 0⟩) := by
        refine ⟨fun z => z.elim (fun z => z hp) fun z => nda z.symm, da, .inr rfl, upd_same, ?_⟩
        rw [upd_ne nda]; exact hu
      have fd : ∀ b, (H b ≠ none ∨ b = da) → upd H1 p (.dK [(kDraws, .ref da), (kAt, .int 0)]) b ≠ none := fun b z => by
        rcases z with z | z
        · cases hb : H b with
          | none => exact absurd hb z
          | some o => rw [hk b o hb]; simp
        · subst z; rw [upd_ne nda, hu]; simp
      refine ⟨fun a => H a ≠ none, _, some p, some ⟨ds, 0⟩, (startE N.length [.scr ns]).set iw (some (.w, false)), ⟨?_, fun i d e => ?_, fun i d e => ?_, fun i j d e a _ e1 _ _ => ?_, wk, fd, fun b hb z => ?_⟩, _, m2, ?_⟩
      · unfold startE L2.start; simp
      · by_cases hi : iw = i
        · subst hi
          rw [List.getElem?_set_self (by unfold startE; simp; omega)] at e
          cases e
          refine ⟨.ref p, ?_, p, rfl, rfl⟩
          rw [List.getElem?_set_self (by unfold L2.start; simp; omega)]
        · rw [List.getElem?_set_ne hi] at e
          obtain ⟨_, v, e2, r2⟩ := Reps.start (K := K) (F := fun a => H a ≠ none ∨ a = da) (wa := some p) (H := upd H1 p (.dK [(kDraws, .ref da), (kAt, .int 0)])) (ds := [.scr ns]) (vs := [.ref a]) (.one rs') (N.length - 1) i d false e
          exact ⟨v, by rw [List.getElem?_set_ne hi]; exact e2, r2⟩
      · exfalso
        by_cases hi : iw = i
        · subst hi
          rw [List.getElem?_set_self (by unfold startE; simp; omega)] at e
          cases e
        · rw [List.getElem?_set_ne hi] at e
          exact absurd (Reps.start (K := K) (F := fun a => H a ≠ none) (wa := none) (H := H) (ds := [.scr ns]) (vs := [.ref a]) (.one rs) (N.length - 1) i d true e).1 (by decide)
      · exfalso
        by_cases hi : iw = i
        · subst hi
          rw [List.getElem?_set_self (by unfold startE; simp; omega)] at e1
          cases e1
        · rw [List.getElem?_set_ne hi] at e1
          rename_i b _ _ _
          exact absurd (Reps.start (K := K) (F := fun a => H a ≠ none) (wa := none) (H := H) (ds := [.scr ns]) (vs := [V.ref _]) (.one rs) (N.length - 1) i d true e1).1 (by decide)
      · exact fd b (.inl hb) z
      · intro v F2 H2 A2 rr
        have ev : v = .bl true := rr
        rw [ev]
        exact q H2
end Dl

set_option Elab.async false
set_option linter.all false
set_option maxRecDepth 100000
set_option maxHeartbeats 4000000
namespace Dl
open PySem PySem.Spec PyProof.Rows L2
abbrev dAdd : D → D → Option DS := els2 dAddI (els2 dCatL (els2 dCatT dCatS))
abbrev rAddG (K : PySem.W.Frag) : R2 := fun x y H Q => rI0 (fun i j => .int (i + j)) x y H Q ∨ rCat x y H Q ∨ rCatF K x y H Q ∨ ∃ i j, x = .str i ∧ y = .str j ∧ i.length + j.length ≤ sizeLine ∧ Q (.str (i ++ j)) H
abbrev rEqG (K : PySem.W.Frag) : R2 := fun x y H Q => rEq x y H Q ∨ rEqD K x y H Q
abbrev rNeG (K : PySem.W.Frag) : R2 := fun x y H Q => rNe x y H Q ∨ rNeD K x y H Q
section
variable {X : Cx} {K : PySem.W.Frag}
theorem op_addG : OpR X (binaryOp .Add) (rAddG X.K) := op_add.or (op_cat.or (op_catF.or op_add_str))
theorem sAdd : OpS K (rAddG K) dAdd := sAddI.els (sCatL.els (sCatT.els sCatS))
theorem op_eqG (hu : X.A.units + 64 < cLine) : OpR X (compareOp .Eq) (rEqG X.K) := op_eq.or (op_eqD hu)
theorem op_neG (hu : X.A.units + 64 < cLine) : OpR X (compareOp .NotEq) (rNeG X.K) := op_ne.or (op_neD hu)
theorem sEq : OpS K (rEqG K) dEq := sEqF.els sEqD
theorem sNe : OpS K (rNeG K) dNe := sNeF.els sNeD
theorem sIpAdd : OpS K (ipI fun i j => i + j) dAddI := fun wa w F H x y d st v1 v2 wk fd c1 c2 e Q q => by
  cases x with
  | int i => cases y with
    | int j => cases e; exact ⟨i, j, c1, c2, q.fz wk fd rfl⟩
    | _ => cases e
  | _ => cases e
theorem sIpSub : OpS K (ipI fun i j => i - j) dSub := fun wa w F H x y d st v1 v2 wk fd c1 c2 e Q q => by
  cases x with
  | int i => cases y with
    | int j => cases e; exact ⟨i, j, c1, c2, q.fz wk fd rfl⟩
    | _ => cases e
  | _ => cases e
end
def eDk0 : EF := fun _ w => some ((.dk [] [], .ow), w)
/-- a < b < c -/
def eCh (g g' : D → D → Option DS) (f1 f2 f3 : EF) : EF := fun env w => (f1 env w).bind fun p => (f2 env p.2).bind fun q => (g p.1.1 q.1.1).bind fun r => match r with
  | (.bl true, _) => (f3 env q.2).bind fun s => (g' q.1.1 s.1.1).map fun t => (t, s.2)
  | (.bl false, _) => some ((.bl false, .fz), q.2)
  | _ => none
end Dl

set_option Elab.async false
set_option linter.all false
set_option maxRecDepth 100000
set_option maxHeartbeats 4000000
namespace Dl
open PySem PySem.Spec PyProof.Rows L2
/-! ### more operations: sum, all, any, index, signs of texts, enumerate, pop -/
def intsD : List D → Option (List Int)
  | [] => some []
  | .int i :: r => (intsD r).map fun l => i :: l
  | _ => none
def bolsD : List D → Option (List Bool)
  | [] => some []
  | .bl i :: r => (bolsD r).map fun l => i :: l
  | _ => none
def dSum : List D → Option DS
  | [.lst ds] => (intsD ds).map fun ns => (.int ns.sum, .fz)
  | _ => none
def dAll : List D → Option DS
  | [.lst ds] => (bolsD ds).map fun ns => (.bl (ns.all id), .fz)
  | _ => none
def dAny : List D → Option DS
  | [.lst ds] => (bolsD ds).map fun ns => (.bl (ns.any id), .fz)
  | _ => none
def dInS (neg : Bool) : D → D → Option DS := fun x y => match x, y with
  | .str a, .str z => match a.cps.toList with
    | [c] => some (.bl (if neg then !decide (c ∈ z.cps.toList) else decide (c ∈ z.cps.toList)), .fz)
    | _ => none
  | _, _ => none
abbrev dInG (neg : Bool) : D → D → Option DS := els2 (dIn neg) (dInS neg)
def dIdx : D → D → Option DS := fun x y => match x with
  | .lst ds => if flatD y = true ∧ ds.all flatD = true then (ds.findIdx? fun z => eqF z y).map fun j => (.int (j : Nat), .fz) else none
  | _ => none
def signs (z : Str) : List D := z.cps.toList.map fun c => .str ⟨#[c]⟩
def iStrD (f : EF) : EI := fun env w => (f env w).bind fun p => match p.1.1 with
  | .str z => some (signs z, p.2)
  | _ => none
/-- x = y.pop(): y's slot is i, x's is j -/
def sPop (i j : Nat) : SB := fun env w => match env[i]? with
  | some (some (.lst ds, true)) => match ds[ds.length - 1]? with
    | some d => some (.nx ((env.set i (some (.lst ds.dropLast, true))).set j (some (d, false))) w)
    | none => none
  | _ => none
section
variable {K : PySem.W.Frag} {F : Addr → Prop} {wa : Option Addr} {H : Hp}
theorem ints_reps : ∀ {ds : List D} {ns : List Int} {vs : List V}, intsD ds = some ns → Reps K F wa H ds vs → vs = ns.map V.int
  | [], ns, vs, h, r => by cases h; exact r
  | .int i :: ds, ns, vs, h, r => by
    obtain ⟨l, h1, h2⟩ := Option.map_eq_some_iff.mp (show (intsD ds).map (fun l => i :: l) = some ns from h)
    subst h2
    obtain ⟨v, t, e, r1, r2⟩ := r
    subst e
    rw [ints_reps h1 r2, show v = .int i from r1]; rfl
theorem bols_reps : ∀ {ds : List D} {ns : List Bool} {vs : List V}, bolsD ds = some ns → Reps K F wa H ds vs → vs = ns.map V.bl
  | [], ns, vs, h, r => by cases h; exact r
  | .bl i :: ds, ns, vs, h, r => by
    obtain ⟨l, h1, h2⟩ := Option.map_eq_some_iff.mp (show (bolsD ds).map (fun l => i :: l) = some ns from h)
    subst h2
    obtain ⟨v, t, e, r1, r2⟩ := r
    subst e
    rw [bols_reps h1 r2, show v = .bl i from r1]; rfl
theorem sSum : CallS K (rSum K) dSum := fun wa w F H ds d st vs wk fd c e Q q => by
  unfold dSum at e
  split at e
  · obtain ⟨ns, h1, h2⟩ := Option.map_eq_some_iff.mp e
    cases h2
    obtain ⟨v, rfl, a, us, e1, hh, rr⟩ := curs1 c
    subst e1
    have := ints_reps h1 rr
    subst this
    exact ⟨a, ns, rfl, .inl (.inl hh), q.fz wk fd rfl⟩
  · cases e
theorem sAll : CallS K (rAll K) dAll := fun wa w F H ds d st vs wk fd c e Q q => by
  unfold dAll at e
  split at e
  · obtain ⟨ns, h1, h2⟩ := Option.map_eq_some_iff.mp e
    cases h2
    obtain ⟨v, rfl, a, us, e1, hh, rr⟩ := curs1 c
    subst e1
    have := bols_reps h1 rr
    subst this
    exact ⟨a, ns, rfl, .inl (.inl hh), q.fz wk fd rfl⟩
  · cases e
theorem sAny : CallS K (rAny K) dAny := fun wa w F H ds d st vs wk fd c e Q q => by
  unfold dAny at e
  split at e
  · obtain ⟨ns, h1, h2⟩ := Option.map_eq_some_iff.mp e
    cases h2
    obtain ⟨v, rfl, a, us, e1, hh, rr⟩ := curs1 c
    subst e1
    have := bols_reps h1 rr
    subst this
    exact ⟨a, ns, rfl, .inl (.inl hh), q.fz wk fd rfl⟩
  · cases e
abbrev rInSG (neg : Bool) : R2 := fun x y H Q => ∃ (c : Nat) (z : Str), x = .str ⟨#[c]⟩ ∧ y = .str z ∧ Q (.bl (if neg then !decide (c ∈ z.cps.toList) else decide (c ∈ z.cps.toList))) H
theorem sInS (neg : Bool) : OpS K (rInSG neg) (dInS neg) := fun wa w F H x y d st v1 v2 wk fd c1 c2 e Q q => by
  unfold dInS at e
  split at e
  · rename_i a z
    split at e
    · rename_i c hc
      cases e
      cases c1
      cases c2
      exact ⟨c, z, by obtain ⟨⟨l⟩⟩ := a; simp at hc; subst hc; rfl, rfl, q.fz wk fd rfl⟩
    · cases e
  · cases e
abbrev rInG (K : PySem.W.Frag) (neg : Bool) : R2 := fun x y H Q => rIn K neg x y H Q ∨ rInSG neg x y H Q
theorem sInG (neg : Bool) : OpS K (rInG K neg) (dInG neg) := (sIn neg).els (sInS neg)
theorem op_inG {X : Cx} : OpR X (compareOp .In) (rInG X.K false) := op_in_seq.or op_in_sign
theorem op_notInG {X : Cx} : OpR X (compareOp .NotIn) (rInG X.K true) := op_notIn_seq.or op_notIn_sign
end
section
variable {X : Cx} {e e1 e2 a b tg : Expr} {f g : EF} {pos p : Pos}
/-- x in C, C a tuple of the module -/
def dInK (neg : Bool) (C : List D) : D → Option DS := fun x => dIn neg x (.tup C)
theorem e_inK {x : Str} {neg : Bool} {op : CmpOp} {C : List D} {cp : Pos} {A : Addr} (ho : OpR X (compareOp op) (rIn X.K neg)) (hg : Gl X x) (hm : X.mg x = some (.ref A)) (hC : ∀ F wa H, ∃ vs, SqT X.K H A vs ∧ Reps X.K F wa H C vs) (hmk : behindInMarks op (.Name x cp) = false) (hd : (x == ("__debug__" : Str)) = false := by decide) (ha : Snd X a f) :
    Snd X (.Compare a [op] [.Name x cp] pos) (eUn (dInK neg C) f) := by
  refine pe_imp (pe_cmpR ho ha (pe_glob (v := .ref A) hg hm rfl hd) hmk) fun σ H Q q => ?_
  obtain ⟨B, F, wa, w, env, S, d, st, w', hf, k⟩ := q
  unfold eUn at hf
  obtain ⟨⟨⟨d1, st1⟩, w1⟩, h1, h2⟩ := Option.bind_eq_some_iff.mp hf
  obtain ⟨⟨d3, st3⟩, h5, h6⟩ := Option.map_eq_some_iff.mp h2
  cases h6
  refine ⟨B, F, wa, w, env, S, d1, st1, _, h1, fun v1 F1 H1 A1 r1 => ?_⟩
  obtain ⟨vs, q1, q2⟩ := hC F1 wa H1
  show rIn X.K neg v1 (.ref A) H1 Q
  unfold dInK dIn at h5
  obtain ⟨ys, h7, h8⟩ := Option.bind_eq_some_iff.mp h5
  cases h7
  by_cases hc : flatD d1 = true ∧ C.all flatD = true
  · rw [if_pos hc] at h8
    cases h8
    have rx := flatD_rep hc.1 r1.cur
    exact ⟨A, vs, rfl, .inr q1, flat_cur hc.1 rx, flat_reps q2 hc.2, (Res.behind S A1 k).fz A1.wk A1.fd (by rw [any_reps hc.1 rx q2 hc.2]; rfl)⟩
  · rw [if_neg hc] at h8; cases h8
theorem e_gs {x z : Str} (hg : Gl X x) (h : ∃ t, X.mg x = some (.str z t)) (hd : (x == ("__debug__" : Str)) = false := by decide) : Snd X (.Name x pos) (eC (.str z)) := by
  obtain ⟨t, h⟩ := h
  exact e_c (pe_glob (v := .str z) hg h ⟨t, rfl⟩ hd) fun _ _ _ => rfl
theorem e_inKx {x : Str} {neg : Bool} {op : CmpOp} {C : List D} {cp : Pos} (ho : OpR X (compareOp op) (rIn X.K neg)) (hg : Gl X x) (h : ∃ A, X.mg x = some (.ref A) ∧ ∃ vs, ∀ F wa H, SqT X.K H A vs ∧ Reps X.K F wa H C vs) (hmk : behindInMarks op (.Name x cp) = false) (hd : (x == ("__debug__" : Str)) = false) (ha : Snd X a f) :
    Snd X (.Compare a [op] [.Name x cp] pos) (eUn (dInK neg C) f) := by
  obtain ⟨A, hm, vs, hC⟩ := h
  exact e_inK ho hg hm (fun F wa H => ⟨vs, hC F wa H⟩) hmk hd ha
theorem t_inKx {x : Str} {neg : Bool} {op : CmpOp} {C : List D} {cp : Pos} (ho : OpR X (compareOp op) (rIn X.K neg)) (hg : Gl X x) (h : ∃ A, X.mg x = some (.ref A) ∧ ∃ vs, ∀ F wa H, SqT X.K H A vs ∧ Reps X.K F wa H C vs) (hmk : behindInMarks op (.Name x cp) = false) (hd : (x == ("__debug__" : Str)) = false) (ha : Snd X a f) :
    SndT X (.Compare a [op] [.Name x cp] pos) (tVal (eUn (dInK neg C) f)) := by
  obtain ⟨A, hm, vs, hC⟩ := h
  refine pt_imp (pt_cmpR ho ha (pe_glob (v := .ref A) hg hm rfl hd) hmk) fun σ H Q q => ?_
  obtain ⟨B, F, wa, w, env, S, b, w', hf, k⟩ := q
  unfold tVal eUn at hf
  obtain ⟨⟨⟨d0, st0⟩, w0⟩, hf0, hf1⟩ := Option.bind_eq_some_iff.mp hf
  obtain ⟨⟨⟨d1, st1⟩, w1⟩, h1, h2⟩ := Option.bind_eq_some_iff.mp hf0
  obtain ⟨⟨d3, st3⟩, h5, h6⟩ := Option.map_eq_some_iff.mp h2
  cases h6
  refine ⟨B, F, wa, w, env, S, d1, st1, _, h1, fun v1 F1 H1 A1 r1 => ?_⟩
  obtain ⟨q1, q2⟩ := hC F1 wa H1
  unfold dInK dIn at h5
  obtain ⟨ys, h7, h8⟩ := Option.bind_eq_some_iff.mp h5
  cases h7
  by_cases hc : flatD d1 = true ∧ C.all flatD = true
  · rw [if_pos hc] at h8
    cases h8
    cases hf1
    have rx := flatD_rep hc.1 r1.cur
    refine ⟨A, vs, rfl, .inr q1, flat_cur hc.1 rx, flat_reps q2 hc.2, ?_⟩
    rw [any_reps hc.1 rx q2 hc.2]
    exact ⟨_, rfl, k F1 H1 A1⟩
  · rw [if_neg hc] at h8; cases h8
theorem e_idx {apos cpos : Pos} (he : Snd X e f) (ha : Snd X a g) (hs : starEach [a] X.env = (false, eval a X.env) :: starEach [] X.env := by rfl)
    (hpe : ∀ {to : TE} {ta : TA}, PE X e to → PA X [a] ta → PE X (.Call (.Attribute e "index" apos) [a] [] cpos) (tBM X.K "list" (rIndex X.K) to ta) := by
      intro to ta h1 h2; exact pe_bm PySem.F.plainAttrs_list PySem.F.slot_list_index PySem.F.type_list_index mt_index h1 h2) :
    Snd X (.Call (.Attribute e "index" apos) [a] [] cpos) (eOp dIdx f g) := by
  refine pe_imp (hpe he (pa_cons ha pa_nil hs)) fun σ H Q q => ?_
  obtain ⟨B, F, wa, w, env, S, d, st, w', hf, k⟩ := q
  unfold eOp at hf
  obtain ⟨⟨⟨d1, st1⟩, w1⟩, h1, h2⟩ := Option.bind_eq_some_iff.mp hf
  obtain ⟨⟨⟨d2, st2⟩, w2⟩, h3, h4⟩ := Option.bind_eq_some_iff.mp h2
  obtain ⟨⟨d3, st3⟩, h5, h6⟩ := Option.map_eq_some_iff.mp h4
  cases h6
  refine ⟨B, F, wa, w, env, S, d1, st1, w1, h1, fun v1 F1 H1 A1 r1 => ?_⟩
  unfold dIdx at h5
  dsimp only at h5
  split at h5
  · rename_i ds
    split at h5
    · rename_i hfl
      obtain ⟨j, h7, h8⟩ := Option.map_eq_some_iff.mp h5
      cases h8
      obtain ⟨a0, vs0, ea0, hh0, _⟩ := r1.cur
      subst ea0
      refine ⟨.inl ⟨rfl, vs0, .inl (.inl hh0)⟩, ?_⟩
      refine ⟨B, F1, wa, w1, env, S.aft A1, d2, st2, _, h3, fun v2 F2 H2 A2 r2 => ?_⟩
      obtain ⟨a1, vs, ea1, hh, rr⟩ := (r1.aft A2).cur
      cases ea1
      have rx := flatD_rep hfl.1 r2.cur
      obtain ⟨hj, hp, hlt⟩ := List.findIdx?_eq_some_iff_getElem.mp h7
      have rj := rr.at (List.getElem?_eq_getElem hj)
      obtain ⟨z, hz, rz⟩ := rj
      have fl : ∀ (m : Nat) (z' : V), vs[m]? = some z' → ∃ dm, ds[m]? = some dm ∧ flatD dm = true ∧ Rep X.K F2 wa H2 dm z' := fun m z' hz' => by
        obtain ⟨dm, e1, e2⟩ := rr.at' hz'
        exact ⟨dm, e1, List.all_eq_true.mp hfl.2 dm (List.mem_of_getElem? e1), e2⟩
      refine ⟨a0, vs, v2, j, z, rfl, rfl, .inl (.inl hh), flat_cur hfl.1 rx, flat_reps rr hfl.2, hz, ?_, ?_, (Res.behind S (A1.trans A2) k).fz A2.wk A2.fd rfl⟩
      · obtain ⟨dm, e1, e2, e3⟩ := fl j z hz
        rw [eqF_cur e2 hfl.1 e3 rx]
        rw [List.getElem?_eq_getElem hj] at e1
        cases e1
        exact hp
      · intro m z' hm hz'
        obtain ⟨dm, e1, e2, e3⟩ := fl m z' hz'
        rw [eqF_cur e2 hfl.1 e3 rx]
        have := hlt m hm
        rw [List.getElem?_eq_getElem (Nat.lt_trans hm hj)] at e1
        cases e1
        simpa using this
    · cases h5
  · cases h5
theorem i_str (he : Snd X e f) : SndC false X tg e (iStrD f) := by
  refine pi_imp (pi_str he) fun σ H R q => ?_
  obtain ⟨B, F, wa, w, env, S, ds, w', hf, k⟩ := q
  unfold iStrD at hf
  obtain ⟨⟨⟨d1, st1⟩, w1⟩, h1, h2⟩ := Option.bind_eq_some_iff.mp hf
  refine ⟨B, F, wa, w, env, S, d1, st1, w1, h1, fun v F1 H1 A r => ?_⟩
  dsimp only at h2
  split at h2
  · rename_i z
    cases h2
    refine ⟨z, r.cur, k _ F1 H1 A fun F2 H2 g1 g2 g3 => ⟨fun i d hd => ?_, ?_⟩⟩
    · unfold signs at hd
      rw [List.getElem?_map] at hd
      obtain ⟨c, h5, h6⟩ := Option.map_eq_some_iff.mp hd
      subst h6
      have hc : z.cps[i]? = some c := by rw [← h5]; simp
      refine ⟨(Array.getElem?_eq_some_iff.mp hc).1, fun x H3 y => ?_⟩
      obtain ⟨e3, c', h7, h8⟩ := y
      subst e3
      rw [hc] at h7
      cases h7
      exact ⟨F2, fun w2 wk fd => Aft.refl wk fd, .inl h8⟩
    · show z.cps.size ≤ (signs z).length
      unfold signs; simp
  · cases h2
theorem s_pop (i j : Nat) {x apos cpos pos' : Pos} {nm y : Str} (hN : X.N.Nodup) (hj : X.N[j]? = some y) (hx : Loc X.env.scope y) (ho : PE X (.Name nm x) (tVar i))
    (hpe : ∀ {to : TE}, PE X (.Name nm x) to → PE X (.Call (.Attribute (.Name nm x) "pop" apos) [] [] cpos) (tBM0 X.K "list" rPop to) := by
      intro to h1; exact pe_bm0 PySem.F.plainAttrs_list PySem.F.slot_list_pop PySem.F.type_list_pop mt_pop h1)
    (hs : swapsWith (.Call (.Attribute (.Name nm x) "pop" apos) [] [] cpos) (some (.Name y pos')) pos.line X.env = pure false := by rfl) (hf : X.fn y = true ∨ X.env.scope.names.lookup y = some .local := by first | exact .inl rfl | exact .inr rfl | assumption) :
    SndS X (.Assign [.Name y pos'] (.Call (.Attribute (.Name nm x) "pop" apos) [] [] cpos) pos) (sPop i j) := by
  refine ps_imp (ps_set hN hj hx (hpe ho) hs hf) fun Dn σ H q => ?_
  obtain ⟨B, F, wa, w, env, S, out, hf, k⟩ := q
  unfold sPop at hf
  split at hf
  · rename_i ds hd
    split at hf
    · rename_i d hl
      cases hf
      obtain ⟨a, vs, g1, g2, g3, g4⟩ := own_lst S hd
      obtain ⟨v, hv, rv⟩ := g3.at hl
      refine ⟨.ref a, g1, .inl ⟨rfl, vs, .inl (.inl g2)⟩, ?_⟩
      refine ⟨a, vs, v, rfl, rfl, g2, by rw [← g3.len]; exact hv, ?_⟩
      have g5 : Reps X.K F wa H ds.dropLast vs.dropLast := by
        rw [List.dropLast_eq_take, List.dropLast_eq_take, ← g3.len]; exact g3.take _
      obtain ⟨A2, S2⟩ := S.write (d' := .lst ds.dropLast) (o := .lst vs.dropLast) hd g1 (.inl ⟨_, _, rfl, rfl, g5⟩)
      exact k _ F _ A2 (S2.set j (Rep.mono A2.sub A2.kf _ _ rv))
    · cases hf
  · cases hf
theorem enum_at : ∀ {xs : List D} {k : Int} {i : Nat} {d : D}, (enumD k xs)[i]? = some d → ∃ a, xs[i]? = some a ∧ d = .tup [.int (k + i), a]
  | [], _, _, _, h => nomatch h
  | x :: xs, k, 0, d, h => by
    simp [enumD] at h
    exact ⟨x, rfl, by rw [← h]; simp⟩
  | x :: xs, k, i + 1, d, h => by
    have h' : (enumD (k + 1) xs)[i]? = some d := h
    obtain ⟨a, h1, h2⟩ := enum_at h'
    refine ⟨a, by simpa using h1, ?_⟩
    rw [h2]
    have : k + 1 + (i : Int) = k + ((i + 1 : Nat) : Int) := by omega
    rw [this]
theorem enum_len : ∀ {xs : List D} {k : Int}, (enumD k xs).length = xs.length
  | [], _ => rfl
  | x :: xs, k => by simp [enumD, enum_len (xs := xs)]
theorem i_enum {p tpos : Pos} {elts : List Expr} {kk : Nat} {ga : EA} (hg : Gl X "enumerate") (hm : X.mg "enumerate" = none) (ha : SndA X [e] ga) (hone : ∀ env w ds w', ga env w = some (ds, w') → ds.length = 1) (hs : starEach [e] X.env = [(false, eval e X.env)] := by rfl) :
    SndC true X (.Tuple elts kk tpos) (.Call (.Name "enumerate" p) [e] [] pos) (iEnumD ga) := by
  refine pi_imp (pi_enum hg hm ha hs) fun σ H R q => ?_
  obtain ⟨B, F, wa, w, env, S, ds, w', hf, k⟩ := q
  unfold iEnumD at hf
  obtain ⟨⟨ps, w1⟩, h1, h2⟩ := Option.bind_eq_some_iff.mp hf
  have h0 := hone _ _ _ _ h1
  refine ⟨B, F, wa, w, env, S, ps, w1, h1, fun vs F1 H1 A r => ?_⟩
  have stab : ∀ {st : O3} {xs : List D} {v : V}, RS X.K B F1 wa H H1 (.lst xs) st v → ∃ a us, v = .ref a ∧ Reps X.K F1 wa H1 xs us ∧ ∀ H2, (∀ a o, F1 a → H1 a = some o → H2 a = some o) → (∀ a o, wa ≠ some a → H1 a = some o → H2 a = some o) → SqL X.K H2 a us := by
    intro st xs v r
    have own : ∀ a, OwnAt X.K F1 wa H1 (.lst xs) a → ∃ us, Reps X.K F1 wa H1 xs us ∧ ∀ H2, (∀ a o, F1 a → H1 a = some o → H2 a = some o) → (∀ a o, wa ≠ some a → H1 a = some o → H2 a = some o) → SqL X.K H2 a us := fun a o => by
      obtain ⟨_, o2, ⟨es, vs, e, h, rr⟩ | ⟨ks, es, vs, e, _⟩⟩ := o
      · cases e; exact ⟨vs, rr, fun H2 _ g => .inl (.inl (g _ _ o2 h))⟩
      · cases e
    cases st with
    | fz =>
      obtain ⟨a, vs, e, hF, h, rr⟩ := r
      exact ⟨a, vs, e, rr, fun H2 g _ => .inl (.inl (g _ _ hF h))⟩
    | ow => obtain ⟨a, e, o, _⟩ := r; obtain ⟨us, q1, q2⟩ := own a o; exact ⟨a, us, e, q1, q2⟩
    | bo => obtain ⟨a, e, o, _⟩ := r; obtain ⟨us, q1, q2⟩ := own a o; exact ⟨a, us, e, q1, q2⟩
  match ps, h0 with
  | [(d, st)], _ =>
    obtain ⟨r, _⟩ := r
    cases r with
    | @cons _ v1 _ _ r1 rr =>
      cases rr
      cases d with
      | lst xs =>
        cases h2
        obtain ⟨a, us, e1, p1, p2⟩ := stab r1
        refine ⟨a, us, by rw [show v1 = .ref a from e1], p2 H1 (fun _ _ _ h => h) (fun _ _ _ h => h), k _ F1 H1 A fun F2 H2 g1 g2 g3 => ?_⟩
        have q1 := p2 H2 g2 g3
        have s1 := p1.mono' g1 g2
        refine ⟨fun i d hd => ?_, ⟨us, q1, ?_⟩⟩
        · obtain ⟨x, z1, rfl⟩ := enum_at hd
          obtain ⟨vx, y1, y2⟩ := s1.at z1
          refine ⟨⟨us, vx, q1, y1⟩, fun x' H3 yl => ?_⟩
          obtain ⟨T, a1, e5, nT, e6, f1⟩ := yl
          have ex : a1 = vx := Option.some.inj ((f1 _ q1).symm.trans y1)
          subst ex e5 e6
          refine ⟨F2, fun w2 wk fd => Aft.new0 wk fd nT, .inr ⟨rfl, _, T, [.int (i : Nat), a1], rfl, rfl, .inl (.inl upd_same), ?_⟩⟩
          have m : ∀ d v, Rep X.K F2 wa H2 d v → Rep X.K F2 wa (upd H2 T (.tup [.int (i : Nat), a1])) d v := fun d v r => Rep.mono (fun _ z => z) (fun c o _ h => by rw [upd_ne (ne_of_none h nT)]; exact h) d v r
          exact ⟨.int (i : Nat), [a1], rfl, (by show V.int _ = V.int _; rw [Int.zero_add]), a1, [], rfl, m _ _ y2, rfl⟩
        · rw [enum_len, ← p1.len]
          exact Nat.le_refl _
      | _ => cases h2
end
end Dl

set_option Elab.async false
set_option linter.all false
set_option maxRecDepth 100000
set_option maxHeartbeats 4000000
namespace Dl
open PySem PySem.Spec PyProof.Rows L2
/-! ### order -/
/-- two data that can be compared -/
def cmpOk (a b : PyData) : Bool := PySem.W.alike a b && decide (min a.depth b.depth ≤ 60) && (match a with
  | .none => false
  | _ => true)
def rCmpD (K : PySem.W.Frag) (f : PyData → PyData → Bool) : R2 := fun x y H Q => ∃ d e, Dp K H x d ∧ Dp K H y e ∧ cmpOk d e = true ∧ Q (.bl (f d e)) H
theorem cmpOk_of {a b : PyData} (h : cmpOk a b = true) : PySem.W.alike a b = true ∧ min a.depth b.depth ≤ 60 ∧ a ≠ .none := by
  unfold cmpOk at h
  simp only [Bool.and_eq_true, decide_eq_true_eq] at h
  exact ⟨h.1.1, h.1.2, fun e => by subst e; exact absurd h.2 (by simp)⟩
section
variable {X : Cx} {K : PySem.W.Frag}
theorem op_ltD (hu : X.A.units + 64 < cLine) : OpR X (compareOp .Lt) (rCmpD X.K fun a b => PySem.W.dataLt a b) := by
  intro pins s σ H x y v u Q I rx ry h
  obtain ⟨d, e, hd, he, ok, q⟩ := h
  obtain ⟨o1, o2, o3⟩ := cmpOk_of ok
  obtain ⟨as, r1⟩ := Dp.reads I d x v hd rx
  obtain ⟨bs, r2⟩ := Dp.reads I e y u he ry
  exact PySem.W.lt_data r1 r2 o1 o3 (by omega) ⟨.bl _, H, I, rfl, q⟩
theorem op_gtD (hu : X.A.units + 64 < cLine) : OpR X (compareOp .Gt) (rCmpD X.K fun a b => PySem.W.dataLt b a) := by
  intro pins s σ H x y v u Q I rx ry h
  obtain ⟨d, e, hd, he, ok, q⟩ := h
  obtain ⟨o1, o2, o3⟩ := cmpOk_of ok
  obtain ⟨as, r1⟩ := Dp.reads I d x v hd rx
  obtain ⟨bs, r2⟩ := Dp.reads I e y u he ry
  exact PySem.W.gt_data r1 r2 o1 o3 (by omega) ⟨.bl _, H, I, rfl, q⟩
theorem op_leD (hu : X.A.units + 64 < cLine) : OpR X (compareOp .LtE) (rCmpD X.K fun a b => !PySem.W.dataLt b a) := by
  intro pins s σ H x y v u Q I rx ry h
  obtain ⟨d, e, hd, he, ok, q⟩ := h
  obtain ⟨o1, o2, o3⟩ := cmpOk_of ok
  obtain ⟨as, r1⟩ := Dp.reads I d x v hd rx
  obtain ⟨bs, r2⟩ := Dp.reads I e y u he ry
  exact PySem.W.le_data r1 r2 o1 o3 (by omega) ⟨.bl _, H, I, rfl, q⟩
theorem op_geD (hu : X.A.units + 64 < cLine) : OpR X (compareOp .GtE) (rCmpD X.K fun a b => !PySem.W.dataLt a b) := by
  intro pins s σ H x y v u Q I rx ry h
  obtain ⟨d, e, hd, he, ok, q⟩ := h
  obtain ⟨o1, o2, o3⟩ := cmpOk_of ok
  obtain ⟨as, r1⟩ := Dp.reads I d x v hd rx
  obtain ⟨bs, r2⟩ := Dp.reads I e y u he ry
  exact PySem.W.ge_data r1 r2 o1 o3 (by omega) ⟨.bl _, H, I, rfl, q⟩
/-- an order's answer over data -/
def dCmp (f : PyData → PyData → Bool) : D → D → Option DS := fun x y => match dPy x, dPy y with
  | some a, some b => if cmpOk a b = true then some (.bl (f a b), .fz) else none
  | _, _ => none
theorem sCmp (f : PyData → PyData → Bool) : OpS K (rCmpD K f) (dCmp f) := fun wa w F H x y d st v1 v2 wk fd c1 c2 e Q q => by
  unfold dCmp at e
  split at e
  · rename_i a b h1 h2
    split at e
    · rename_i hs
      cases e
      exact ⟨a, b, dPy_cur h1 c1, dPy_cur h2 c2, hs, q.fz wk fd rfl⟩
    · cases e
  · cases e
def dLtG : D → D → Option DS := dCmp fun a b => PySem.W.dataLt a b
def dGtG : D → D → Option DS := dCmp fun a b => PySem.W.dataLt b a
def dLeG : D → D → Option DS := dCmp fun a b => !PySem.W.dataLt b a
def dGeG : D → D → Option DS := dCmp fun a b => !PySem.W.dataLt a b
theorem sLtG : OpS K (rCmpD K fun a b => PySem.W.dataLt a b) dLtG := sCmp _
theorem sGtG : OpS K (rCmpD K fun a b => PySem.W.dataLt b a) dGtG := sCmp _
theorem sLeG : OpS K (rCmpD K fun a b => !PySem.W.dataLt b a) dLeG := sCmp _
theorem sGeG : OpS K (rCmpD K fun a b => !PySem.W.dataLt a b) dGeG := sCmp _
theorem dLtG_ii {i j : Int} : dLtG (.int i) (.int j) = some (.bl (decide (i < j)), .fz) := by
  show (if cmpOk (.int i) (.int j) = true then some (D.bl (PySem.W.dataLt (.int i) (.int j)), O3.fz) else none) = _
  rw [PySem.W.dataLt_int, if_pos (by simp [cmpOk, PySem.W.alike, PyData.depth])]
theorem dGtG_ii {i j : Int} : dGtG (.int i) (.int j) = some (.bl (decide (j < i)), .fz) := by
  show (if cmpOk (.int i) (.int j) = true then some (D.bl (PySem.W.dataLt (.int j) (.int i)), O3.fz) else none) = _
  rw [PySem.W.dataLt_int, if_pos (by simp [cmpOk, PySem.W.alike, PyData.depth])]
theorem dLeG_ii {i j : Int} : dLeG (.int i) (.int j) = some (.bl (decide (i ≤ j)), .fz) := by
  show (if cmpOk (.int i) (.int j) = true then some (D.bl (!PySem.W.dataLt (.int j) (.int i)), O3.fz) else none) = _
  rw [PySem.W.dataLt_int, if_pos (by simp [cmpOk, PySem.W.alike, PyData.depth]), PySem.W.not_lt_int]
theorem dGeG_ii {i j : Int} : dGeG (.int i) (.int j) = some (.bl (decide (j ≤ i)), .fz) := by
  show (if cmpOk (.int i) (.int j) = true then some (D.bl (!PySem.W.dataLt (.int i) (.int j)), O3.fz) else none) = _
  rw [PySem.W.dataLt_int, if_pos (by simp [cmpOk, PySem.W.alike, PyData.depth]), PySem.W.not_lt_int]
theorem dLtG_ss {i j : Str} : dLtG (.str i) (.str j) = some (.bl (decide (i.cps.toList < j.cps.toList)), .fz) := by
  show (if cmpOk (.str i) (.str j) = true then some (D.bl (PySem.W.dataLt (.str i) (.str j)), O3.fz) else none) = _
  rw [PySem.W.dataLt_str, if_pos (by simp [cmpOk, PySem.W.alike, PyData.depth])]
theorem dLeG_ss {i j : Str} : dLeG (.str i) (.str j) = some (.bl (decide (i.cps.toList ≤ j.cps.toList)), .fz) := by
  show (if cmpOk (.str i) (.str j) = true then some (D.bl (!PySem.W.dataLt (.str j) (.str i)), O3.fz) else none) = _
  rw [PySem.W.dataLt_str, if_pos (by simp [cmpOk, PySem.W.alike, PyData.depth]), PySem.W.not_lt_str]
theorem dGtG_ss {i j : Str} : dGtG (.str i) (.str j) = some (.bl (decide (j.cps.toList < i.cps.toList)), .fz) := by
  show (if cmpOk (.str i) (.str j) = true then some (D.bl (PySem.W.dataLt (.str j) (.str i)), O3.fz) else none) = _
  rw [PySem.W.dataLt_str, if_pos (by simp [cmpOk, PySem.W.alike, PyData.depth])]
theorem dGeG_ss {i j : Str} : dGeG (.str i) (.str j) = some (.bl (decide (j.cps.toList ≤ i.cps.toList)), .fz) := by
  show (if cmpOk (.str i) (.str j) = true then some (D.bl (!PySem.W.dataLt (.str i) (.str j)), O3.fz) else none) = _
  rw [PySem.W.dataLt_str, if_pos (by simp [cmpOk, PySem.W.alike, PyData.depth]), PySem.W.not_lt_str]
end
end Dl

set_option Elab.async false
set_option linter.all false
set_option maxRecDepth 100000
set_option maxHeartbeats 400000
namespace Dl
open PySem PySem.Spec PyProof.Rows L2
/-! ### reckoning with the forms: rows for simp that look at a part only when the part ahead is known -/
def bnd {α β : Type} (o : Option α) (f : α → Option β) : Option β := o.bind f
def cnd {β : Type} (c : Bool) (a b : Option β) : Option β := if c = true then a else b
@[simp] theorem bnd_some {α β : Type} (a : α) (f : α → Option β) : bnd (some a) f = f a := rfl
@[simp] theorem bnd_none {α β : Type} (f : α → Option β) : bnd none f = none := rfl
@[simp] theorem cnd_true {β : Type} (a b : Option β) : cnd true a b = a := rfl
@[simp] theorem cnd_false {β : Type} (a b : Option β) : cnd false a b = b := rfl
section
variable {env r : En} {w : Option Wd} {f g h f1 f2 f3 : EF} {t u : ET} {fa ga : EA} {sa sb : SB} {x : Option (D × Bool)} {d : D} {i : Nat}
@[simp] theorem eVar_0f : eVar 0 (some (d, false) :: r) w = some ((d, .fz), w) := rfl
@[simp] theorem eVar_0t : eVar 0 (some (d, true) :: r) w = some ((d, .bo), w) := rfl
@[simp] theorem eVar_s : eVar (i + 1) (x :: r) w = eVar i r w := rfl
@[simp] theorem eC_q : eC d env w = some ((d, .fz), w) := rfl
@[simp] theorem eDk0_q : eDk0 env w = some ((.dk [] [], .ow), w) := rfl
def fzP (p : DS × Option Wd) : Option (DS × Option Wd) := match p.1.2 with
  | .bo => none
  | _ => some ((p.1.1, .fz), p.2)
@[simp] theorem fzP_fz : fzP ((d, .fz), w) = some ((d, .fz), w) := rfl
@[simp] theorem fzP_ow : fzP ((d, .ow), w) = some ((d, .fz), w) := rfl
@[simp] theorem eFz_q : eFz f env w = bnd (f env w) fzP := rfl
def pairK {α : Type} (w : Option Wd) (r : α) : Option (α × Option Wd) := some (r, w)
@[simp] theorem pairK_q {α : Type} {r : α} : pairK w r = some (r, w) := rfl
theorem map_pair {α : Type} {o : Option α} {w : Option Wd} : (o.map fun r => (r, w)) = bnd o (pairK w) := by cases o <;> rfl
def opK2 (G : D → D → Option DS) (x : D) (q : DS × Option Wd) : Option (DS × Option Wd) := bnd (G x q.1.1) (pairK q.2)
@[simp] theorem opK2_q {G : D → D → Option DS} {x y : D} {s : O3} : opK2 G x ((y, s), w) = bnd (G x y) (pairK w) := rfl
def opK1 (G : D → D → Option DS) (g : EF) (env : En) (p : DS × Option Wd) : Option (DS × Option Wd) := bnd (g env p.2) (opK2 G p.1.1)
@[simp] theorem opK1_q {G : D → D → Option DS} {x : D} {s : O3} : opK1 G g env ((x, s), w) = bnd (g env w) (opK2 G x) := rfl
@[simp] theorem eOp_q {G : D → D → Option DS} : eOp G f g env w = bnd (f env w) (opK1 G g env) := by
  show (f env w).bind (fun p => (g env p.2).bind fun q => (G p.1.1 q.1.1).map fun r => (r, q.2)) = _
  refine congrArg (Option.bind _) (funext fun p => ?_)
  unfold opK1 bnd
  refine congrArg (Option.bind _) (funext fun q => ?_)
  exact map_pair
def unK (G : D → Option DS) (p : DS × Option Wd) : Option (DS × Option Wd) := bnd (G p.1.1) (pairK p.2)
@[simp] theorem unK_q {G : D → Option DS} {x : D} {s : O3} : unK G ((x, s), w) = bnd (G x) (pairK w) := rfl
@[simp] theorem eUn_q {G : D → Option DS} : eUn G f env w = bnd (f env w) (unK G) := by
  show (f env w).bind (fun p => (G p.1.1).map fun r => (r, p.2)) = _
  refine congrArg (Option.bind _) (funext fun p => ?_)
  exact map_pair
@[simp] theorem aNil_q : aNil env w = some ([], w) := rfl
def acK2 (x : DS) (q : List DS × Option Wd) : Option (List DS × Option Wd) := some (x :: q.1, q.2)
@[simp] theorem acK2_q {x : DS} {l : List DS} : acK2 x (l, w) = some (x :: l, w) := rfl
def acK1 (fa : EA) (env : En) (p : DS × Option Wd) : Option (List DS × Option Wd) := bnd (fa env p.2) (acK2 p.1)
@[simp] theorem acK1_q {x : DS} : acK1 fa env (x, w) = bnd (fa env w) (acK2 x) := rfl
@[simp] theorem aCons_q : aCons f fa env w = bnd (f env w) (acK1 fa env) := rfl
def eAK (G : List D → Option DS) (p : List DS × Option Wd) : Option (DS × Option Wd) := bnd (G (p.1.map (·.1))) (pairK p.2)
@[simp] theorem eAK_q {G : List D → Option DS} {l : List DS} : eAK G (l, w) = bnd (G (l.map (·.1))) (pairK w) := rfl
@[simp] theorem eA_q {G : List D → Option DS} : eA G fa env w = bnd (fa env w) (eAK G) := by
  show (fa env w).bind (fun p => (G (p.1.map (·.1))).map fun r => (r, p.2)) = _
  refine congrArg (Option.bind _) (funext fun p => ?_)
  exact map_pair
@[simp] theorem allFz_nil : allFz [] = true := rfl
@[simp] theorem allFz_cons {l : List DS} : allFz ((d, .fz) :: l) = allFz l := rfl
def eTupK (p : List DS × Option Wd) : Option (DS × Option Wd) := cnd (allFz p.1 && decide (p.1.length ≤ 1000)) (some ((.tup (p.1.map (·.1)), .fz), p.2)) none
@[simp] theorem eTupK_q {l : List DS} : eTupK (l, w) = cnd (allFz l && decide (l.length ≤ 1000)) (some ((.tup (l.map (·.1)), .fz), w)) none := rfl
@[simp] theorem eTup_q : eTup fa env w = bnd (fa env w) eTupK := by
  show (fa env w).bind (fun p => if allFz p.1 = true ∧ p.1.length ≤ 1000 then _ else none) = _
  refine congrArg (Option.bind _) (funext fun p => ?_)
  show (if allFz p.1 = true ∧ p.1.length ≤ 1000 then _ else none) = if (allFz p.1 && decide (p.1.length ≤ 1000)) = true then _ else none
  simp only [Bool.and_eq_true, decide_eq_true_eq]
def eLstK (p : List DS × Option Wd) : Option (DS × Option Wd) := cnd (allFz p.1 && decide (p.1.length ≤ 1000)) (some ((.lst (p.1.map (·.1)), .ow), p.2)) none
@[simp] theorem eLstK_q {l : List DS} : eLstK (l, w) = cnd (allFz l && decide (l.length ≤ 1000)) (some ((.lst (l.map (·.1)), .ow), w)) none := rfl
@[simp] theorem eLst_q : eLst fa env w = bnd (fa env w) eLstK := by
  show (fa env w).bind (fun p => if allFz p.1 = true ∧ p.1.length ≤ 1000 then _ else none) = _
  refine congrArg (Option.bind _) (funext fun p => ?_)
  show (if allFz p.1 = true ∧ p.1.length ≤ 1000 then _ else none) = if (allFz p.1 && decide (p.1.length ≤ 1000)) = true then _ else none
  simp only [Bool.and_eq_true, decide_eq_true_eq]
def callK (F : Fn) (p : List DS × Option Wd) : Option (DS × Option Wd) := cnd (allFz p.1) (F (p.1.map (·.1)) p.2) none
@[simp] theorem callK_q {F : Fn} {l : List DS} : callK F (l, w) = cnd (allFz l) (F (l.map (·.1)) w) none := rfl
@[simp] theorem eCall_q {F : Fn} : eCall F fa env w = bnd (fa env w) (callK F) := rfl
def ifK (f g : EF) (env : En) (p : Bool × Option Wd) : Option (DS × Option Wd) := if p.1 = true then f env p.2 else g env p.2
@[simp] theorem ifK_t : ifK f g env (true, w) = f env w := rfl
@[simp] theorem ifK_f : ifK f g env (false, w) = g env w := rfl
@[simp] theorem eIf_q : eIf t f g env w = bnd (t env w) (ifK f g env) := rfl
def notK (w : Option Wd) (b : Bool) : Option (DS × Option Wd) := some ((.bl (!b), .fz), w)
@[simp] theorem notK_q {b : Bool} : notK w b = some ((.bl (!b), .fz), w) := rfl
def notK1 (p : DS × Option Wd) : Option (DS × Option Wd) := bnd (truD p.1.1) (notK p.2)
@[simp] theorem notK1_q {x : D} {s : O3} : notK1 ((x, s), w) = bnd (truD x) (notK w) := rfl
@[simp] theorem eNot_q : eNot f env w = bnd (f env w) notK1 := by
  show (f env w).bind (fun p => (truD p.1.1).map fun b => ((D.bl (!b), O3.fz), p.2)) = _
  refine congrArg (Option.bind _) (funext fun p => ?_)
  show Option.map _ (truD p.1.1) = (truD p.1.1).bind _
  cases truD p.1.1 <;> rfl
def andK2 (g : EF) (env : En) (p : DS × Option Wd) (b : Bool) : Option (DS × Option Wd) := if b = true then g env p.2 else some p
@[simp] theorem andK2_t {x : DS} : andK2 g env (x, w) true = g env w := rfl
@[simp] theorem andK2_f {x : DS} : andK2 g env (x, w) false = some (x, w) := rfl
def andK1 (g : EF) (env : En) (p : DS × Option Wd) : Option (DS × Option Wd) := bnd (truD p.1.1) (andK2 g env p)
@[simp] theorem andK1_q {x : D} {s : O3} : andK1 g env ((x, s), w) = bnd (truD x) (andK2 g env ((x, s), w)) := rfl
@[simp] theorem eAnd_q : eAnd f g env w = bnd (f env w) (andK1 g env) := rfl
def orK2 (g : EF) (env : En) (p : DS × Option Wd) (b : Bool) : Option (DS × Option Wd) := if b = true then some p else g env p.2
@[simp] theorem orK2_f {x : DS} : orK2 g env (x, w) false = g env w := rfl
@[simp] theorem orK2_t {x : DS} : orK2 g env (x, w) true = some (x, w) := rfl
def orK1 (g : EF) (env : En) (p : DS × Option Wd) : Option (DS × Option Wd) := bnd (truD p.1.1) (orK2 g env p)
@[simp] theorem orK1_q {x : D} {s : O3} : orK1 g env ((x, s), w) = bnd (truD x) (orK2 g env ((x, s), w)) := rfl
@[simp] theorem eOr_q : eOr f g env w = bnd (f env w) (orK1 g env) := rfl
def valP (p : DS × Option Wd) : Option (Bool × Option Wd) := match p.1.1 with
  | .bl b => some (b, p.2)
  | _ => none
@[simp] theorem valP_bl {b : Bool} {s : O3} : valP ((.bl b, s), w) = some (b, w) := rfl
@[simp] theorem tVal_q : tVal f env w = bnd (f env w) valP := rfl
def truK (p : DS × Option Wd) : Option (Bool × Option Wd) := bnd (truD p.1.1) (pairK p.2)
@[simp] theorem truK_q {x : D} {s : O3} : truK ((x, s), w) = bnd (truD x) (pairK w) := rfl
@[simp] theorem tTru_q : tTru f env w = bnd (f env w) truK := by
  show (f env w).bind (fun p => (truD p.1.1).map fun b => (b, p.2)) = _
  refine congrArg (Option.bind _) (funext fun p => ?_)
  exact map_pair
def anK (u : ET) (env : En) (p : Bool × Option Wd) : Option (Bool × Option Wd) := if p.1 = true then u env p.2 else some (false, p.2)
@[simp] theorem anK_t : anK u env (true, w) = u env w := rfl
@[simp] theorem anK_f : anK u env (false, w) = some (false, w) := rfl
@[simp] theorem tAn_q : tAn t u env w = bnd (t env w) (anK u env) := rfl
def orK (u : ET) (env : En) (p : Bool × Option Wd) : Option (Bool × Option Wd) := if p.1 = true then some (true, p.2) else u env p.2
@[simp] theorem orK_f : orK u env (false, w) = u env w := rfl
@[simp] theorem orK_t : orK u env (true, w) = some (true, w) := rfl
@[simp] theorem tOrr_q : tOrr t u env w = bnd (t env w) (orK u env) := rfl
def noK (p : Bool × Option Wd) : Option (Bool × Option Wd) := some (!p.1, p.2)
@[simp] theorem noK_q {b : Bool} : noK (b, w) = some (!b, w) := rfl
@[simp] theorem tNo_q : tNo t env w = bnd (t env w) noK := rfl
@[simp] theorem tYes_q : tYesD env w = some (true, w) := rfl
@[simp] theorem oNone_q : oNone env w = some (none, w) := rfl
def intP (p : DS × Option Wd) : Option (Option Int × Option Wd) := match p.1.1 with
  | .int i => some (some i, p.2)
  | _ => none
@[simp] theorem intP_int {j : Int} {s : O3} : intP ((.int j, s), w) = some (some j, w) := rfl
@[simp] theorem oSome_q : oSome f env w = bnd (f env w) intP := rfl
def slK3 (G : D → Option Int → Option Int → Option DS) (x : D) (l : Option Int) (p : Option Int × Option Wd) : Option (DS × Option Wd) := bnd (G x l p.1) (pairK p.2)
@[simp] theorem slK3_q {G : D → Option Int → Option Int → Option DS} {x : D} {l h : Option Int} : slK3 G x l (h, w) = bnd (G x l h) (pairK w) := rfl
def slK2 (G : D → Option Int → Option Int → Option DS) (h : EO) (env : En) (x : D) (p : Option Int × Option Wd) : Option (DS × Option Wd) := bnd (h env p.2) (slK3 G x p.1)
@[simp] theorem slK2_q {G : D → Option Int → Option Int → Option DS} {h : EO} {x : D} {l : Option Int} : slK2 G h env x (l, w) = bnd (h env w) (slK3 G x l) := rfl
def slK1 (G : D → Option Int → Option Int → Option DS) (l h : EO) (env : En) (p : DS × Option Wd) : Option (DS × Option Wd) := bnd (l env p.2) (slK2 G h env p.1.1)
@[simp] theorem slK1_q {G : D → Option Int → Option Int → Option DS} {l h : EO} {x : D} {s : O3} : slK1 G l h env ((x, s), w) = bnd (l env w) (slK2 G h env x) := rfl
@[simp] theorem eSl_q {G : D → Option Int → Option Int → Option DS} {l h : EO} : eSl G f l h env w = bnd (f env w) (slK1 G l h env) := by
  show (f env w).bind (fun p => (l env p.2).bind fun q => (h env q.2).bind fun r => (G p.1.1 q.1 r.1).map fun d => (d, r.2)) = _
  refine congrArg (Option.bind _) (funext fun p => ?_)
  unfold slK1 bnd
  refine congrArg (Option.bind _) (funext fun q => ?_)
  unfold slK2 bnd
  refine congrArg (Option.bind _) (funext fun r => ?_)
  exact map_pair
/-! statements -/
@[simp] theorem sNil_q : sNil env w = some (.nx env w) := rfl
@[simp] theorem sBrk_q : sBrk env w = some (.bk env w) := rfl
@[simp] theorem sCnt_q : sCnt env w = some (.ct env w) := rfl
def nxt (h : SB) : Out → Option Out
  | .nx e w' => h e w'
  | o => some o
@[simp] theorem nxt_nx : nxt sb (.nx env w) = sb env w := rfl
@[simp] theorem nxt_rt {p : DS} : nxt sb (.rt p w) = some (.rt p w) := rfl
@[simp] theorem nxt_bk : nxt sb (.bk env w) = some (.bk env w) := rfl
@[simp] theorem nxt_ct : nxt sb (.ct env w) = some (.ct env w) := rfl
@[simp] theorem sSeq_q : sSeq sa sb env w = bnd (sa env w) (nxt sb) := by
  show (sa env w).bind _ = _
  refine congrArg (Option.bind _) (funext fun o => ?_)
  cases o <;> rfl
def setP (i : Nat) (env : En) (p : DS × Option Wd) : Option Out := match p.1.2 with
  | .fz => some (.nx (env.set i (some (p.1.1, false))) p.2)
  | .ow => some (.nx (env.set i (some (p.1.1, true))) p.2)
  | .bo => none
@[simp] theorem setP_fz : setP i env ((d, .fz), w) = some (.nx (env.set i (some (d, false))) w) := rfl
@[simp] theorem setP_ow : setP i env ((d, .ow), w) = some (.nx (env.set i (some (d, true))) w) := rfl
@[simp] theorem sSet_q : sSet i f env w = bnd (f env w) (setP i env) := rfl
def retK (p : DS × Option Wd) : Option Out := some (.rt p.1 p.2)
@[simp] theorem retK_q {x : DS} : retK (x, w) = some (.rt x w) := rfl
@[simp] theorem sRet_q : sRet f env w = bnd (f env w) retK := rfl
def drpK (env : En) (p : DS × Option Wd) : Option Out := some (.nx env p.2)
@[simp] theorem drpK_q {x : DS} : drpK env (x, w) = some (.nx env w) := rfl
@[simp] theorem sDrop_q : sDrop f env w = bnd (f env w) (drpK env) := rfl
def sifK (sa sb : SB) (env : En) (p : Bool × Option Wd) : Option Out := if p.1 = true then sa env p.2 else sb env p.2
@[simp] theorem sifK_t : sifK sa sb env (true, w) = sa env w := rfl
@[simp] theorem sifK_f : sifK sa sb env (false, w) = sb env w := rfl
@[simp] theorem sIf_q : sIf t sa sb env w = bnd (t env w) (sifK sa sb env) := rfl
@[simp] theorem clr_nil : clr [] env = env := rfl
def clr1 : Nat → En → En
  | 0, some (d, _) :: r => some (d, false) :: r
  | i + 1, x :: r => x :: clr1 i r
  | _, e => e
theorem clr1_ok : ∀ (i : Nat) (env : En), (match env[i]? with
  | some (some (d, _)) => env.set i (some (d, false))
  | _ => env) = clr1 i env
  | i, [] => by cases i <;> rfl
  | 0, none :: r => rfl
  | 0, some (d, b) :: r => rfl
  | i + 1, x :: r => by
    have ih := clr1_ok i r
    show (match r[i]? with
      | some (some (d, _)) => x :: r.set i (some (d, false))
      | _ => x :: r) = x :: clr1 i r
    rw [← ih]
    cases r[i]? with
    | none => rfl
    | some y => cases y with
      | none => rfl
      | some z => rfl
@[simp] theorem clr_cons {is : List Nat} : clr (i :: is) env = clr is (clr1 i env) := by
  rw [← clr1_ok]; rfl
@[simp] theorem clr1_0 {b : Bool} : clr1 0 (some (d, b) :: r) = some (d, false) :: r := rfl
@[simp] theorem clr1_0n : clr1 0 (none :: r) = none :: r := rfl
@[simp] theorem clr1_s : clr1 (i + 1) (x :: r) = x :: clr1 i r := rfl
@[simp] theorem sFrz_q {is : List Nat} : sFrz is sa env w = sa (clr is env) w := rfl
def getE : Nat → En → Option (D × Bool)
  | 0, x :: _ => x
  | i + 1, _ :: r => getE i r
  | _, [] => none
@[simp] theorem getE_0 : getE 0 (x :: r) = x := rfl
@[simp] theorem getE_s : getE (i + 1) (x :: r) = getE i r := rfl
theorem getE_ok : ∀ (i : Nat) (env : En), getE i env = (env[i]?).bind id
  | i, [] => by cases i <;> rfl
  | 0, x :: r => rfl
  | i + 1, x :: r => by
    show getE i r = _
    rw [getE_ok i r]; rfl
theorem get_id {i : Nat} {env : En} {d : D} {b : Bool} : env[i]? = some (some (d, b)) ↔ getE i env = some (d, b) := by
  rw [getE_ok]
  cases env[i]? with
  | none => simp
  | some x => simp
theorem sAug_q {G : D → D → Option DS} {d x : D} {w1 : Option Wd} {s : O3} {y : D} (h1 : getE i env = some (d, false)) (h2 : f env w = some ((x, s), w1)) (h3 : G d x = some (y, .fz)) : sAug i G f env w = some (.nx (env.set i (some (y, false))) w1) := by
  unfold sAug
  rw [get_id.mpr h1]
  show (f env w).bind _ = _
  rw [h2]
  show (G d x).bind _ = _
  rw [h3]; rfl
def appP (i : Nat) (env : En) (p : DS × Option Wd) : Option (D × Bool) → Option Out
  | some (.lst ds, true) => cnd (decide (ds.length < lim)) (some (.nx (env.set i (some (.lst (ds ++ [p.1.1]), true))) p.2)) none
  | _ => none
@[simp] theorem appP_q {p : DS × Option Wd} {ds : List D} : appP i env p (some (.lst ds, true)) = cnd (decide (ds.length < lim)) (some (.nx (env.set i (some (.lst (ds ++ [p.1.1]), true))) p.2)) none := rfl
theorem ite_cnd {β : Type} {c : Prop} [Decidable c] {a b : Option β} : (if c then a else b) = cnd (decide c) a b := by
  unfold cnd
  by_cases h : c <;> simp [h]
def appK (i : Nat) (env : En) (x : Option (D × Bool)) (p : DS × Option Wd) : Option Out := appP i env p x
@[simp] theorem appK_q {x : Option (D × Bool)} {y : DS} : appK i env x (y, w) = appP i env (y, w) x := rfl
@[simp] theorem sApp_q : sApp i f env w = bnd (eFz f env w) (appK i env (getE i env)) := by
  show (eFz f env w).bind _ = (eFz f env w).bind _
  refine congrArg (Option.bind _) (funext fun p => ?_)
  split
  · rename_i ds h
    rw [get_id.mp h, ite_cnd]; rfl
  · rename_i h
    cases hg : getE i env with
    | none => rfl
    | some x =>
      obtain ⟨d, b⟩ := x
      have := get_id.mpr hg
      cases d with
      | lst ds => cases b with
        | true => exact absurd this (h ds)
        | false => rfl
      | _ => rfl
def insP (i : Nat) (env : En) (p : DS × Option Wd) : Option (D × Bool) → Option Out
  | some (.lst ds, true) => cnd (decide (ds.length < lim)) (some (.nx (env.set i (some (.lst (p.1.1 :: ds), true))) p.2)) none
  | _ => none
@[simp] theorem insP_q {p : DS × Option Wd} {ds : List D} : insP i env p (some (.lst ds, true)) = cnd (decide (ds.length < lim)) (some (.nx (env.set i (some (.lst (p.1.1 :: ds), true))) p.2)) none := rfl
def insK (i : Nat) (env : En) (x : Option (D × Bool)) (p : DS × Option Wd) : Option Out := insP i env p x
@[simp] theorem insK_q {x : Option (D × Bool)} {y : DS} : insK i env x (y, w) = insP i env (y, w) x := rfl
@[simp] theorem sIns0_q : sIns0 i f env w = bnd (eFz f env w) (insK i env (getE i env)) := by
  show (eFz f env w).bind _ = (eFz f env w).bind _
  refine congrArg (Option.bind _) (funext fun p => ?_)
  split
  · rename_i ds h
    rw [get_id.mp h, ite_cnd]; rfl
  · rename_i h
    cases hg : getE i env with
    | none => rfl
    | some x =>
      obtain ⟨d, b⟩ := x
      have := get_id.mpr hg
      cases d with
      | lst ds => cases b with
        | true => exact absurd this (h ds)
        | false => rfl
      | _ => rfl
def extP (i : Nat) (env : En) (p : DS × Option Wd) : Option (D × Bool) → Option Out
  | some (.lst ds, true) => match p.1 with
    | (.lst es, .ow) => cnd (decide (ds.length + es.length < lim)) (some (.nx (env.set i (some (.lst (ds ++ es), true))) p.2)) none
    | _ => none
  | _ => none
@[simp] theorem extP_q {ds es : List D} : extP i env ((.lst es, .ow), w) (some (.lst ds, true)) = cnd (decide (ds.length + es.length < lim)) (some (.nx (env.set i (some (.lst (ds ++ es), true))) w)) none := rfl
theorem sExt_q {ds es : List D} {w1 : Option Wd} (h1 : getE i env = some (.lst ds, true)) (h2 : f env w = some ((.lst es, .ow), w1)) (h3 : ds.length + es.length < lim) : sExt i f env w = some (.nx (env.set i (some (.lst (ds ++ es), true))) w1) := by
  unfold sExt
  rw [h2, get_id.mpr h1]
  show (if ds.length + es.length < lim then _ else _) = _
  rw [if_pos h3]
@[simp] theorem sTick_q {W : Wd} : sTick 0 (some (.w, false) :: r) (some W) = some (.nx (some (.w, false) :: r) (some ⟨W.draws, W.ix + 1⟩)) := rfl
@[simp] theorem eWget_0 {W : Wd} {a : Bool} : eWget 0 a (some (.w, false) :: r) (some W) = some ((if a = true then .int W.ix else .lst (W.draws.map D.int), .fz), some W) := rfl
@[simp] theorem eWget_s {a : Bool} : eWget (i + 1) a (x :: r) w = eWget i a r w := rfl
def getP (ks : List Key) (ds : List D) (k : Key) (p : DS × Option Wd) : Option (DS × Option Wd) := some (match dFind ks ds k with
  | some x => (x, .fz)
  | none => p.1, p.2)
def getK3 (h : EF) (env : En) (ks : List Key) (ds : List D) (w : Option Wd) (k : Key) : Option (DS × Option Wd) := bnd (eFz h env w) (getP ks ds k)
@[simp] theorem getK3_q {ks : List Key} {ds : List D} {k : Key} : getK3 h env ks ds w k = bnd (eFz h env w) (getP ks ds k) := rfl
def getK2 (h : EF) (env : En) (ks : List Key) (ds : List D) (q : DS × Option Wd) : Option (DS × Option Wd) := bnd (keyD q.1.1) (getK3 h env ks ds q.2)
@[simp] theorem getK2_q {ks : List Key} {ds : List D} {x : D} {s : O3} : getK2 h env ks ds ((x, s), w) = bnd (keyD x) (getK3 h env ks ds w) := rfl
def get2P (g h : EF) (env : En) (p : DS × Option Wd) : Option (DS × Option Wd) := match p.1.1 with
  | .dk ks ds => bnd (g env p.2) (getK2 h env ks ds)
  | _ => none
@[simp] theorem get2P_q {ks : List Key} {ds : List D} {s : O3} : get2P g h env ((.dk ks ds, s), w) = bnd (g env w) (getK2 h env ks ds) := rfl
@[simp] theorem eGet2_q : eGet2 f g h env w = bnd (f env w) (get2P g h env) := by
  show (f env w).bind _ = _
  refine congrArg (Option.bind _) (funext fun p => ?_)
  obtain ⟨⟨d, s⟩, w'⟩ := p
  cases d <;> rfl
def nxK (w : Option Wd) (e : En) : Option Out := some (.nx e w)
@[simp] theorem nxK_q : nxK w env = some (.nx env w) := rfl
def unpK (set : ESet) (env : En) (p : DS × Option Wd) : Option Out := bnd (set p.1.1 env) (nxK p.2)
@[simp] theorem unpK_q {set : ESet} {x : D} {s : O3} : unpK set env ((x, s), w) = bnd (set x env) (nxK w) := rfl
@[simp] theorem sUnp_q {set : ESet} : sUnp set f env w = bnd (eFz f env w) (unpK set env) := by
  show (eFz f env w).bind (fun p => (set p.1.1 env).map fun e => Out.nx e p.2) = _
  refine congrArg (Option.bind _) (funext fun p => ?_)
  show Option.map _ (set p.1.1 env) = (set p.1.1 env).bind _
  cases set p.1.1 env <;> rfl
@[simp] theorem setN_q : setN i d env = some (env.set i (some (d, false))) := rfl
@[simp] theorem setT_q {is : List Nat} {ds : List D} : setT is (.tup ds) env = setL is ds env := rfl
@[simp] theorem setL_nil : setL [] [] env = some env := rfl
@[simp] theorem setL_cons {is : List Nat} {ds : List D} : setL (i :: is) (d :: ds) env = setL is ds (env.set i (some (d, false))) := rfl
def parP (i j : Nat) (env : En) (p : List DS × Option Wd) : Option Out := match p.1 with
  | [(d, s), (e, t)] => if s ≠ .bo ∧ t ≠ .bo then some (.nx ((env.set i (some (d, s == .ow))).set j (some (e, t == .ow))) p.2) else none
  | _ => none
@[simp] theorem parP_ff {j : Nat} {e : D} : parP i j env ([(d, .fz), (e, .fz)], w) = some (.nx ((env.set i (some (d, false))).set j (some (e, false))) w) := rfl
@[simp] theorem parP_fo {j : Nat} {e : D} : parP i j env ([(d, .fz), (e, .ow)], w) = some (.nx ((env.set i (some (d, false))).set j (some (e, true))) w) := rfl
@[simp] theorem parP_of {j : Nat} {e : D} : parP i j env ([(d, .ow), (e, .fz)], w) = some (.nx ((env.set i (some (d, true))).set j (some (e, false))) w) := rfl
@[simp] theorem parP_oo {j : Nat} {e : D} : parP i j env ([(d, .ow), (e, .ow)], w) = some (.nx ((env.set i (some (d, true))).set j (some (e, true))) w) := rfl
@[simp] theorem sPar_q {j : Nat} : sPar i j fa env w = bnd (fa env w) (parP i j env) := rfl
/-! sources, loops, comprehensions -/
@[simp] theorem itemsOf_lst {ds : List D} : itemsOf (.lst ds) = some ds := rfl
@[simp] theorem itemsOf_tup {ds : List D} : itemsOf (.tup ds) = some ds := rfl
def seqK (p : DS × Option Wd) : Option (List D × Option Wd) := bnd (itemsOf p.1.1) (pairK p.2)
@[simp] theorem seqK_q {x : D} {s : O3} : seqK ((x, s), w) = bnd (itemsOf x) (pairK w) := rfl
@[simp] theorem iSeq_q : iSeq f env w = bnd (f env w) seqK := by
  show (f env w).bind (fun p => (itemsOf p.1.1).map fun ds => (ds, p.2)) = _
  refine congrArg (Option.bind _) (funext fun p => ?_)
  exact map_pair
def rngK (p : List DS × Option Wd) : Option (List D × Option Wd) := match p.1 with
  | [(.int j, _)] => if -1000000 ≤ j ∧ j ≤ 1000000 then some (rangeD 0 j, p.2) else none
  | [(.int i, _), (.int j, _)] => if (-1000000 ≤ i ∧ i ≤ 1000000) ∧ -1000000 ≤ j ∧ j ≤ 1000000 then some (rangeD i j, p.2) else none
  | [(.int i, _), (.int j, _), (.int c, _)] => if ((-1000000 ≤ i ∧ i ≤ 1000000) ∧ -1000000 ≤ j ∧ j ≤ 1000000) ∧ c = -1 then some (downD i j, p.2) else none
  | _ => none
@[simp] theorem iRange_q : iRange fa env w = bnd (fa env w) rngK := rfl
theorem rngK_1 {j : Int} {s : O3} (h : -1000000 ≤ j ∧ j ≤ 1000000) : rngK ([(.int j, s)], w) = some (rangeD 0 j, w) := if_pos h
theorem rngK_2 {i j : Int} {s t : O3} (h : (-1000000 ≤ i ∧ i ≤ 1000000) ∧ -1000000 ≤ j ∧ j ≤ 1000000) : rngK ([(.int i, s), (.int j, t)], w) = some (rangeD i j, w) := if_pos h
theorem rngK_3 {i j : Int} {s t u : O3} (h : (-1000000 ≤ i ∧ i ≤ 1000000) ∧ -1000000 ≤ j ∧ j ≤ 1000000) : rngK ([(.int i, s), (.int j, t), (.int (-1), u)], w) = some (downD i j, w) := if_pos ⟨h, rfl⟩
def forK (set : ESet) (sa : SB) (env : En) (p : List D × Option Wd) : Option Out := forL set sa p.1 env p.2
@[simp] theorem forK_q {set : ESet} {l : List D} : forK set sa env (l, w) = forL set sa l env w := rfl
@[simp] theorem sFor_q {set : ESet} {fi : EI} : sFor set fi sa env w = bnd (fi env w) (forK set sa env) := rfl
@[simp] theorem forL_nil {set : ESet} : forL set sa [] env w = some (.nx env w) := rfl
def forP (set : ESet) (sa : SB) (ds : List D) : Out → Option Out
  | .nx e w' => forL set sa ds e w'
  | .ct e w' => forL set sa ds e w'
  | .bk e w' => some (.nx e w')
  | .rt r w' => some (.rt r w')
@[simp] theorem forP_nx {set : ESet} {ds : List D} : forP set sa ds (.nx env w) = forL set sa ds env w := rfl
@[simp] theorem forP_ct {set : ESet} {ds : List D} : forP set sa ds (.ct env w) = forL set sa ds env w := rfl
@[simp] theorem forP_bk {set : ESet} {ds : List D} : forP set sa ds (.bk env w) = some (.nx env w) := rfl
@[simp] theorem forP_rt {set : ESet} {ds : List D} {p : DS} : forP set sa ds (.rt p w) = some (.rt p w) := rfl
def forK2 (set : ESet) (sa : SB) (ds : List D) (w : Option Wd) (e1 : En) : Option Out := bnd (sa e1 w) (forP set sa ds)
@[simp] theorem forK2_q {set : ESet} {ds : List D} : forK2 set sa ds w env = bnd (sa env w) (forP set sa ds) := rfl
theorem forL_cons {set : ESet} {ds : List D} : forL set sa (d :: ds) env w = bnd (set d env) (forK2 set sa ds w) := by
  show (set d env).bind _ = (set d env).bind _
  refine congrArg (Option.bind _) (funext fun e1 => ?_)
  show (sa e1 w).bind _ = (sa e1 w).bind _
  refine congrArg (Option.bind _) (funext fun o => ?_)
  cases o <;> rfl
@[simp] theorem wipeE_nil : wipeE env [] = env := rfl
@[simp] theorem wipeE_cons {vs : List Nat} : wipeE env (i :: vs) = (wipeE env vs).set i none := rfl
def lcK2 (r : List D × Option Wd) : Option (DS × Option Wd) := some ((.lst r.1, .ow), r.2)
@[simp] theorem lcK2_q {l : List D} : lcK2 (l, w) = some ((.lst l, .ow), w) := rfl
def lcK (vs : List Nat) (set : ESet) (t : ET) (f : EF) (env : En) (p : List D × Option Wd) : Option (DS × Option Wd) := if p.1.length ≤ lim then bnd (lcL set t f p.1 (wipeE env vs) p.2) lcK2 else none
theorem lcK_q {vs : List Nat} {set : ESet} {l : List D} (h : l.length ≤ lim) : lcK vs set t f env (l, w) = bnd (lcL set t f l (wipeE env vs) w) lcK2 := if_pos h
@[simp] theorem eLC_q {vs : List Nat} {set : ESet} {fi : EI} : eLC vs set fi t f env w = bnd (fi env w) (lcK vs set t f env) := by
  show (fi env w).bind _ = (fi env w).bind _
  refine congrArg (Option.bind _) (funext fun p => ?_)
  show (if _ then _ else _) = if _ then _ else _
  congr 1
  show (lcL set t f p.1 (wipeE env vs) p.2).map _ = (lcL set t f p.1 (wipeE env vs) p.2).bind _
  cases lcL set t f p.1 (wipeE env vs) p.2 <;> rfl
@[simp] theorem lcL_nil {set : ESet} : lcL set t f [] env w = some ([], w) := rfl
def lcC (x : D) (r : List D × Option Wd) : Option (List D × Option Wd) := some (x :: r.1, r.2)
@[simp] theorem lcC_q {x : D} {l : List D} : lcC x (l, w) = some (x :: l, w) := rfl
def lcC3 (set : ESet) (t : ET) (f : EF) (ds : List D) (env : En) (q : DS × Option Wd) : Option (List D × Option Wd) := bnd (lcL set t f ds env q.2) (lcC q.1.1)
@[simp] theorem lcC3_q {set : ESet} {ds : List D} {x : D} {s : O3} : lcC3 set t f ds env ((x, s), w) = bnd (lcL set t f ds env w) (lcC x) := rfl
def lcC2 (set : ESet) (t : ET) (f : EF) (ds : List D) (env e1 : En) (p : Bool × Option Wd) : Option (List D × Option Wd) := if p.1 = true then bnd (eFz f e1 p.2) (lcC3 set t f ds env) else lcL set t f ds env p.2
@[simp] theorem lcC2_t {set : ESet} {ds : List D} {e1 : En} : lcC2 set t f ds env e1 (true, w) = bnd (eFz f e1 w) (lcC3 set t f ds env) := rfl
@[simp] theorem lcC2_f {set : ESet} {ds : List D} {e1 : En} : lcC2 set t f ds env e1 (false, w) = lcL set t f ds env w := rfl
def lcC1 (set : ESet) (t : ET) (f : EF) (ds : List D) (env : En) (w : Option Wd) (e1 : En) : Option (List D × Option Wd) := bnd (t e1 w) (lcC2 set t f ds env e1)
@[simp] theorem lcC1_q {set : ESet} {ds : List D} {e1 : En} : lcC1 set t f ds env w e1 = bnd (t e1 w) (lcC2 set t f ds env e1) := rfl
theorem lcL_cons {set : ESet} {ds : List D} : lcL set t f (d :: ds) env w = bnd (set d env) (lcC1 set t f ds env w) := by
  show (set d env).bind _ = (set d env).bind _
  refine congrArg (Option.bind _) (funext fun e1 => ?_)
  show (t e1 w).bind _ = (t e1 w).bind _
  refine congrArg (Option.bind _) (funext fun p => ?_)
  show (if p.1 = true then _ else _) = if p.1 = true then _ else _
  split
  · show (eFz f e1 p.2).bind _ = (eFz f e1 p.2).bind _
    refine congrArg (Option.bind _) (funext fun q => ?_)
    show (lcL set t f ds env q.2).map _ = (lcL set t f ds env q.2).bind _
    cases lcL set t f ds env q.2 <;> rfl
  · rfl
def whP (t : ET) (sa : SB) (n : Nat) : Out → Option Out
  | .nx e w' => sWhile t sa n e w'
  | .ct e w' => sWhile t sa n e w'
  | .bk e w' => some (.nx e w')
  | .rt r w' => some (.rt r w')
@[simp] theorem whP_nx {n : Nat} : whP t sa n (.nx env w) = sWhile t sa n env w := rfl
@[simp] theorem whP_ct {n : Nat} : whP t sa n (.ct env w) = sWhile t sa n env w := rfl
@[simp] theorem whP_bk {n : Nat} : whP t sa n (.bk env w) = some (.nx env w) := rfl
@[simp] theorem whP_rt {n : Nat} {p : DS} : whP t sa n (.rt p w) = some (.rt p w) := rfl
def whK (t : ET) (sa : SB) (n : Nat) (env : En) (p : Bool × Option Wd) : Option Out := if p.1 = true then bnd (sa env p.2) (whP t sa n) else some (.nx env p.2)
@[simp] theorem whK_t {n : Nat} : whK t sa n env (true, w) = bnd (sa env w) (whP t sa n) := rfl
@[simp] theorem whK_f {n : Nat} : whK t sa n env (false, w) = some (.nx env w) := rfl
theorem sWhile_s {n : Nat} : sWhile t sa (n + 1) env w = bnd (t env w) (whK t sa n env) := by
  show (t env w).bind _ = (t env w).bind _
  refine congrArg (Option.bind _) (funext fun p => ?_)
  show (if p.1 = true then _ else _) = if p.1 = true then _ else _
  split
  · show (sa env p.2).bind _ = (sa env p.2).bind _
    refine congrArg (Option.bind _) (funext fun o => ?_)
    cases o <;> rfl
  · rfl
def endP : Out → Option (DS × Option Wd)
  | .rt r w' => some (retD r, w')
  | .nx _ w' => some ((.non, .fz), w')
  | _ => none
@[simp] theorem endP_fz : endP (.rt (d, .fz) w) = some ((d, .fz), w) := rfl
@[simp] theorem endP_ow : endP (.rt (d, .ow) w) = some ((d, .ow), w) := rfl
@[simp] theorem endP_bo : endP (.rt (d, .bo) w) = some ((d, .ow), w) := rfl
@[simp] theorem endP_nx : endP (.nx env w) = some ((.non, .fz), w) := rfl
@[simp] theorem runFn_q {n p : Nat} {ds : List D} (hl : ds.length = p) : runFn n p sa ds w = bnd (sa (startE n ds) w) endP := by
  unfold runFn
  rw [if_pos hl]
  show (sa (startE n ds) w).bind _ = _
  refine congrArg (Option.bind _) (funext fun o => ?_)
  cases o <;> rfl
end
/-! values -/
@[simp] theorem truD_non : truD .non = some false := rfl
@[simp] theorem truD_bl {b : Bool} : truD (.bl b) = some b := rfl
@[simp] theorem truD_int {i : Int} : truD (.int i) = some (i != 0) := rfl
@[simp] theorem truD_lst {ds : List D} : truD (.lst ds) = some (!ds.isEmpty) := rfl
@[simp] theorem truD_tup {ds : List D} : truD (.tup ds) = some (!ds.isEmpty) := rfl
@[simp] theorem dII0_q {f : Int → Int → D} {i j : Int} : dII0 f (.int i) (.int j) = some (f i j, .fz) := rfl
@[simp] theorem dII_q {c : Int → Int → Bool} {f : Int → Int → D} {i j : Int} : dII c f (.int i) (.int j) = cnd (c i j) (some (f i j, .fz)) none := rfl
@[simp] theorem dAdd_ii {i j : Int} : els2 dAddI (els2 dCatL (els2 dCatT dCatS)) (.int i) (.int j) = some (.int (i + j), .fz) := rfl
theorem dAdd_ll {xs ys : List D} (h : xs.length + ys.length ≤ lim) : els2 dAddI (els2 dCatL (els2 dCatT dCatS)) (.lst xs) (.lst ys) = some (.lst (xs ++ ys), .ow) := by
  have e : dCatL (.lst xs) (.lst ys) = some (.lst (xs ++ ys), .ow) := if_pos h
  show (match dCatL (.lst xs) (.lst ys) with
    | some r => some r
    | none => _) = _
  rw [e]
theorem dAdd_tt {xs ys : List D} (h : xs.length + ys.length ≤ lim) : els2 dAddI (els2 dCatL (els2 dCatT dCatS)) (.tup xs) (.tup ys) = some (.tup (xs ++ ys), .fz) := by
  have e : dCatT (.tup xs) (.tup ys) = some (.tup (xs ++ ys), .fz) := if_pos h
  show (match dCatT (.tup xs) (.tup ys) with
    | some r => some r
    | none => _) = _
  rw [e]
def fzK (d : D) : Option DS := some (d, .fz)
@[simp] theorem fzK_q {d : D} : fzK d = some (d, .fz) := rfl
def fzKi (n : Int) : Option DS := some (.int n, .fz)
@[simp] theorem fzKi_q {n : Int} : fzKi n = some (.int n, .fz) := rfl
@[simp] theorem dIx_tup {ds : List D} {i : Int} : dIx (.tup ds) (.int i) = bnd (atI ds i) fzK := by
  show (atI ds i).map _ = (atI ds i).bind _
  cases atI ds i <;> rfl
@[simp] theorem dIx_lst {ds : List D} {i : Int} : dIx (.lst ds) (.int i) = bnd (atI ds i) fzK := by
  show (atI ds i).map _ = (atI ds i).bind _
  cases atI ds i <;> rfl
@[simp] theorem dIx_str {z : Str} {i : Int} : dIx (.str z) (.int i) = if z.length ≤ lim then (atI z.cps.toList i).map (fun c => (D.str ⟨#[c]⟩, O3.fz)) else none := rfl
@[simp] theorem dIx_scr {ns : List Int} {i : Int} : dIx (.scr ns) (.int i) = bnd (atI ns i) fzKi := by
  show (atI ns i).map _ = (atI ns i).bind _
  cases atI ns i <;> rfl
theorem atI_n {α : Type} {xs : List α} {j : Nat} : atI xs (j : Int) = xs[j]? := by
  unfold atI ixN
  rw [if_pos (Int.natCast_nonneg j)]
  by_cases h : (j : Int) < xs.length
  · rw [if_pos h]; simp
  · rw [if_neg h]
    show none = _
    rw [List.getElem?_eq_none (by omega)]
@[simp] theorem atI_0 {α : Type} {a : α} {xs : List α} : atI (a :: xs) 0 = some a := atI_n (j := 0)
@[simp] theorem atI_1 {α : Type} {a b : α} {xs : List α} : atI (a :: b :: xs) 1 = some b := atI_n (j := 1)
@[simp] theorem atI_2 {α : Type} {a b c : α} {xs : List α} : atI (a :: b :: c :: xs) 2 = some c := atI_n (j := 2)
@[simp] theorem atI_3 {α : Type} {a b c d : α} {xs : List α} : atI (a :: b :: c :: d :: xs) 3 = some d := atI_n (j := 3)
@[simp] theorem atI_end {α : Type} {a : α} {xs : List α} : atI (xs ++ [a]) (-1) = some a := atI_last xs a
@[simp] theorem atI_m1 {α : Type} {a : α} : atI [a] (-1) = some a := atI_last [] a
@[simp] theorem dLen_tup {ds : List D} : dLen [.tup ds] = some (.int (ds.length : Nat), .fz) := rfl
@[simp] theorem dLen_lst {ds : List D} : dLen [.lst ds] = some (.int (ds.length : Nat), .fz) := rfl
@[simp] theorem dLen_scr {ds : List Int} : dLen [.scr ds] = some (.int (ds.length : Nat), .fz) := rfl
@[simp] theorem dAbs_q {i : Int} : dAbs [.int i] = some (.int (if i < 0 then -i else i), .fz) := rfl
@[simp] theorem dInt_q {i : Int} : dInt [.int i] = some (.int i, .fz) := rfl
@[simp] theorem dInt_b {i : Bool} : dInt [.bl i] = some (.int (if i then 1 else 0), .fz) := rfl
@[simp] theorem dMax2_q {i j : Int} : dMax2 [.int i, .int j] = some (.int (if j > i then j else i), .fz) := rfl
@[simp] theorem dMin2_q {i j : Int} : dMin2 [.int i, .int j] = some (.int (if j < i then j else i), .fz) := rfl
@[simp] theorem dTuple_l {ds : List D} : dTuple [.lst ds] = some (.tup ds, .fz) := rfl
@[simp] theorem dTuple_t {ds : List D} : dTuple [.tup ds] = some (.tup ds, .fz) := rfl
@[simp] theorem dList_l {ds : List D} : dList [.lst ds] = some (.lst ds, .ow) := rfl
@[simp] theorem dList_t {ds : List D} : dList [.tup ds] = some (.lst ds, .ow) := rfl
@[simp] theorem dNeg_q {i : Int} : dNeg (.int i) = some (.int (-i), .fz) := rfl
@[simp] theorem keyD_i {i : Int} : keyD (.int i) = some (.inl i) := rfl
@[simp] theorem keyD_s {i : Str} : keyD (.str i) = some (.inr i) := rfl
@[simp] theorem dSl_t {ds : List D} {l h : Option Int} : dSl (.tup ds) l h = some (.tup (cutD ds l h), .fz) := rfl
@[simp] theorem dSl_l {ds : List D} {l h : Option Int} : dSl (.lst ds) l h = some (.lst (cutD ds l h), .ow) := rfl
theorem cut_take {ds : List D} {n : Nat} : cutD ds none (some (n : Int)) = ds.take n := by
  unfold cutD
  rw [HT.sIx_none, HT.sIx_nat, List.drop_zero, Nat.sub_zero, ← List.take_eq_take_min]
theorem cut_drop {ds : List D} {n : Nat} : cutD ds (some (n : Int)) none = ds.drop n := by
  unfold cutD
  rw [HT.sIx_none, HT.sIx_nat]
  by_cases h : n ≤ ds.length
  · rw [Nat.min_eq_left h, ← List.length_drop, List.take_length]
  · rw [Nat.min_eq_right (by omega), List.drop_length, List.drop_eq_nil_of_le (by omega)]; simp
@[simp] theorem cut_tail {d : D} {ds : List D} : cutD (d :: ds) (some 1) none = ds := cut_drop (n := 1)
@[simp] theorem cut_tail0 : cutD [] (some 1) none = [] := cut_drop (n := 1)
/-! comparisons -/
@[simp] theorem dEq_ii {i j : Int} : els2 (dEqF false) (dEqD false) (.int i) (.int j) = some (.bl (decide (i = j)), .fz) := rfl
@[simp] theorem dEq_ss {i j : Str} : els2 (dEqF false) (dEqD false) (.str i) (.str j) = some (.bl (decide (i = j)), .fz) := rfl
@[simp] theorem dEq_bb {i j : Bool} : els2 (dEqF false) (dEqD false) (.bl i) (.bl j) = some (.bl (i == j), .fz) := rfl
@[simp] theorem dEq_nn : els2 (dEqF false) (dEqD false) .non .non = some (.bl true, .fz) := rfl
@[simp] theorem dEq_ni {i : Int} : els2 (dEqF false) (dEqD false) .non (.int i) = some (.bl false, .fz) := rfl
@[simp] theorem dEq_in {i : Int} : els2 (dEqF false) (dEqD false) (.int i) .non = some (.bl false, .fz) := rfl
@[simp] theorem dNe_ii {i j : Int} : els2 (dEqF true) (dEqD true) (.int i) (.int j) = some (.bl (!(decide (i = j))), .fz) := rfl
@[simp] theorem dNe_ss {i j : Str} : els2 (dEqF true) (dEqD true) (.str i) (.str j) = some (.bl (!(decide (i = j))), .fz) := rfl
@[simp] theorem dNe_bb {i j : Bool} : els2 (dEqF true) (dEqD true) (.bl i) (.bl j) = some (.bl (!(i == j)), .fz) := rfl
@[simp] theorem dNe_nn : els2 (dEqF true) (dEqD true) .non .non = some (.bl false, .fz) := rfl
@[simp] theorem dNe_ni {i : Int} : els2 (dEqF true) (dEqD true) .non (.int i) = some (.bl true, .fz) := rfl
@[simp] theorem dNe_in {i : Int} : els2 (dEqF true) (dEqD true) (.int i) .non = some (.bl true, .fz) := rfl
def isK (neg b : Bool) : Option DS := some (.bl (if neg then !b else b), .fz)
@[simp] theorem isK_q {neg b : Bool} : isK neg b = some (.bl (if neg then !b else b), .fz) := rfl
@[simp] theorem dIs_q {neg : Bool} {x y : D} : dIs neg x y = bnd (isC x y) (isK neg) := by
  show (isC x y).map _ = (isC x y).bind _
  cases isC x y <;> rfl
@[simp] theorem isC_nn : isC .non .non = some true := rfl
@[simp] theorem isC_bb {a b : Bool} : isC (.bl a) (.bl b) = some (a == b) := rfl
@[simp] theorem isC_nb {b : Bool} : isC .non (.bl b) = some false := rfl
@[simp] theorem isC_bn {b : Bool} : isC (.bl b) .non = some false := rfl
@[simp] theorem isC_in {b : Int} : isC (.int b) .non = some false := rfl
@[simp] theorem isC_sn {b : Str} : isC (.str b) .non = some false := rfl
@[simp] theorem isC_tn {b : List D} : isC (.tup b) .non = some false := rfl
@[simp] theorem isC_ln {b : List D} : isC (.lst b) .non = some false := rfl
/-! == of data that is the same -/
mutual
def fine : Nat → D → Bool
  | _, .non => true
  | _, .bl _ => true
  | _, .int _ => true
  | _, .str x => PyData.strOk x
  | n + 1, .tup ds => fines n ds
  | n + 1, .lst ds => fines n ds
  | _, _ => false
def fines : Nat → List D → Bool
  | _, [] => true
  | n, d :: ds => fine n d && fines n ds
end
mutual
theorem fine_py : ∀ (n : Nat) (d : D), fine n d = true → ∃ p, dPy d = some p ∧ p.canLay0 = true ∧ p.depth ≤ n
  | n, .non, _ => ⟨_, rfl, by simp [PyData.canLay0], by simp [PyData.depth]⟩
  | n, .bl b, _ => ⟨_, rfl, by simp [PyData.canLay0], by simp [PyData.depth]⟩
  | n, .int b, _ => ⟨_, rfl, by simp [PyData.canLay0], by simp [PyData.depth]⟩
  | n, .str b, h => ⟨_, rfl, by
      have h' : PyData.strOk b = true := by simpa [fine] using h
      simp [PyData.canLay0, h'], by simp [PyData.depth]⟩
  | n + 1, .tup ds, h => by
    obtain ⟨ps, h1, h2, h3⟩ := fines_py n ds (by simpa [fine] using h)
    exact ⟨.tuple ps, by simp [dPy, h1], by simp [PyData.canLay0, h2], by simp [PyData.depth]; exact h3⟩
  | n + 1, .lst ds, h => by
    obtain ⟨ps, h1, h2, h3⟩ := fines_py n ds (by simpa [fine] using h)
    exact ⟨.list ps, by simp [dPy, h1], by simp [PyData.canLay0, h2], by simp [PyData.depth]; exact h3⟩
  | 0, .tup ds, h => by simp [fine] at h
  | 0, .lst ds, h => by simp [fine] at h
  | n, .dk _ _, h => by simp [fine] at h
  | n, .scr _, h => by simp [fine] at h
  | n, .ty _, h => by simp [fine] at h
  | n, .w, h => by simp [fine] at h
theorem fines_py : ∀ (n : Nat) (ds : List D), fines n ds = true → ∃ ps, dPys ds = some ps ∧ PyData.canLayAll0 ps = true ∧ PyData.depthAll ps ≤ n
  | n, [], _ => ⟨[], rfl, by simp [PyData.canLayAll0], by simp [PyData.depthAll]⟩
  | n, d :: ds, h => by
    have h' : fine n d = true ∧ fines n ds = true := by simpa [fines] using h
    obtain ⟨p, h1, h2, h3⟩ := fine_py n d h'.1
    obtain ⟨ps, h4, h5, h6⟩ := fines_py n ds h'.2
    exact ⟨p :: ps, by simp [dPys, h1, h4], by simp [PyData.canLayAll0, h2, h5], by simp [PyData.depthAll]; omega⟩
end
mutual
theorem eqv_self : ∀ p : PyData, p.canLay0 = true → PyData.eqv p p = true
  | .none, _ => by simp [PyData.eqv]
  | .bool b, _ => by simp [PyData.eqv]
  | .int b, _ => by simp [PyData.eqv]
  | .str b, _ => by simp [PyData.eqv]
  | .list ps, h => by simp only [PyData.eqv]; exact eqvAll_self ps (by simpa [PyData.canLay0] using h)
  | .tuple ps, h => by simp only [PyData.eqv]; exact eqvAll_self ps (by simpa [PyData.canLay0] using h)
  | .dict _, h => by simp [PyData.canLay0] at h
theorem eqvAll_self : ∀ ps : List PyData, PyData.canLayAll0 ps = true → PyData.eqvAll ps ps = true
  | [], _ => by simp [PyData.eqvAll]
  | p :: ps, h => by
    have h' : p.canLay0 = true ∧ PyData.canLayAll0 ps = true := by simpa [PyData.canLayAll0] using h
    simp [PyData.eqvAll, eqv_self p h'.1, eqvAll_self ps h'.2]
end
theorem dEqD_self {d : D} (h : fine 64 d = true) (neg : Bool) : dEqD neg d d = some (.bl (!neg), .fz) := by
  obtain ⟨p, h1, h2, h3⟩ := fine_py 64 d h
  unfold dEqD
  have hs : SeqAt.shaped p = true := by unfold SeqAt.shaped; simp [h2, h3]
  rw [h1]
  simp [hs, eqv_self p h2]
theorem dNe_self {d : D} (h : fine 64 d = true) : dNe d d = some (.bl false, .fz) := by
  cases d with
  | tup ds => exact dEqD_self h true
  | lst ds => exact dEqD_self h true
  | non => rfl
  | bl b => cases b <;> rfl
  | int i => show some (D.bl (!(i == i)), O3.fz) = _; simp
  | str i => show some (D.bl (!(i == i)), O3.fz) = _; simp
  | _ => simp [fine] at h
theorem dEq_self {d : D} (h : fine 64 d = true) : dEq d d = some (.bl true, .fz) := by
  cases d with
  | tup ds => exact dEqD_self h false
  | lst ds => exact dEqD_self h false
  | non => rfl
  | bl b => cases b <;> rfl
  | int i => show some (D.bl (i == i), O3.fz) = _; simp
  | str i => show some (D.bl (i == i), O3.fz) = _; simp
  | _ => simp [fine] at h
end Dl

set_option Elab.async false
set_option linter.all false
set_option maxRecDepth 100000
set_option maxHeartbeats 1000000
namespace Dl
open PySem PySem.Spec PyProof.Rows L2
@[simp] theorem startE_q {n : Nat} {ds : List D} : startE n ds = ds.map (fun d => some (d, false)) ++ List.replicate (n - ds.length) none := rfl
/-- a for that ends by itself, with what holds at each turn -/
theorem forL_inv {set : ESet} {sa : SB} (P : Nat → En → Option Wd → Prop) : ∀ (ds : List D) (i : Nat) (env : En) (w : Option Wd), P i env w →
    (∀ j d env w, ds[j]? = some d → P (i + j) env w → ∃ e1 o e w', set d env = some e1 ∧ sa e1 w = some o ∧ (o = .nx e w' ∨ o = .ct e w') ∧ P (i + j + 1) e w') → ∃ e w', forL set sa ds env w = some (.nx e w') ∧ P (i + ds.length) e w'
  | [], i, env, w, h, _ => ⟨env, w, rfl, h⟩
  | d :: ds, i, env, w, h, hs => by
    obtain ⟨e1, o, e, w', h1, h2, h3, h4⟩ := hs 0 d env w rfl h
    obtain ⟨e2, w2, h5, h6⟩ := forL_inv P ds (i + 1) e w' h4 fun j d' env w hd hp => by
      have e : i + 1 + j = i + (j + 1) := by omega
      rw [e] at hp ⊢
      exact hs (j + 1) d' env w hd hp
    refine ⟨e2, w2, ?_, by rw [List.length_cons]; have e : i + (ds.length + 1) = i + 1 + ds.length := by omega
                           rw [e]; exact h6⟩
    rw [forL_cons, h1, bnd_some, forK2_q, h2, bnd_some]
    rcases h3 with h3 | h3 <;> (subst h3; exact h5)
theorem range_at {lo hi : Int} {j : Nat} {d : D} (h : (rangeD lo hi)[j]? = some d) : d = .int (lo + j) ∧ (j : Int) < hi - lo := by
  unfold rangeD at h
  rw [List.getElem?_map] at h
  cases hr : (List.range (hi - lo).toNat)[j]? with
  | none => rw [hr] at h; cases h
  | some k =>
    obtain ⟨h1, h2⟩ := List.getElem?_eq_some_iff.mp hr
    rw [List.length_range] at h1
    rw [List.getElem_range] at h2
    subst h2
    rw [hr] at h
    cases h
    exact ⟨rfl, by omega⟩
theorem range_len {lo hi : Int} : (rangeD lo hi).length = (hi - lo).toNat := by unfold rangeD; simp
def bDraws : SB := (sSeq (sSet 2 (eLst aNil)) (sSeq (sSet 3 (eC (.int 7))) (sSeq (sFor (setN 4) (iRange (aCons (eA dLen (aCons (eVar 0) aNil)) aNil)) (sSeq (sSet 5 (eA dAbs (aCons (eA dInt (aCons (eOp dIx (eVar 0) (eVar 4)) aNil)) aNil))) (sSeq (sSet 3 (eOp dMod (eA dInt (aCons (eOp dAdd (eOp dAdd (eOp dMul (eVar 3) (eC (.int 48271))) (eOp dMod (eVar 5) (eC (.int 1000003)))) (eVar 4)) aNil)) (eC (.int 65537)))) (sSeq (sSet 6 (eC (.int 0))) (sSeq (sIf (tVal (eOp dGe (eVar 5) (eOp dPow (eC (.int 10)) (eC (.int 18))))) (sSet 6 (eVar 5)) (sSeq (sApp 2 (eOp dMod (eA dInt (aCons (eVar 5) aNil)) (eC (.int 997)))) (sApp 2 (eOp dMod (eOp dMod (eA dInt (aCons (eOp dAdd (eOp dMul (eVar 3) (eC (.int 69621))) (eC (.int 5))) aNil)) (eC (.int 65521))) (eC (.int 997)))))) (sFor (setN 7) (iRange (aCons (eC (.int 60)) aNil)) (sIf (tVal (eOp dGt (eVar 6) (eC (.int 0)))) (sSeq (sApp 2 (eOp dMod (eA dInt (aCons (eVar 6) aNil)) (eC (.int 997)))) (sSet 6 (eOp dFdiv (eVar 6) (eC (.int 997))))) (sNil)))))))) (sSeq (sFor (setN 4) (iRange (aCons (eVar 1) aNil)) (sSeq (sSet 3 (eOp dMod (eA dInt (aCons (eOp dAdd (eOp dAdd (eOp dMul (eVar 3) (eC (.int 16807))) (eVar 4)) (eC (.int 1))) aNil)) (eC (.int 65537)))) (sApp 2 (eOp dMod (eA dInt (aCons (eVar 3) aNil)) (eC (.int 997)))))) (sRet (eSl dSl (eVar 2) oNone (oSome (eVar 1))))))))
def fDraws : Fn := runFn 8 2 bDraws
/-- the slots of the draws' def -/
def DrE (ns : List Int) (m : Int) (xs : List Int) (mx : Int) (s4 s5 s6 s7 : Option (D × Bool)) : En := [some (.scr ns, false), some (.int m, false), some (.lst (xs.map D.int), true), some (.int mx, false), s4, s5, s6, s7]
theorem map_int_app (xs : List Int) (y : Int) : xs.map D.int ++ [D.int y] = (xs ++ [y]).map D.int := by simp
theorem drw_inner (ns : List Int) (m : Int) (w : Option Wd) (xs : List Int) (mx r : Int) (s4 s5 s7 : Option (D × Bool)) (hl : xs.length ≤ 10000) :
    ∃ xs' r' s7', forL (setN 7) (sIf (tVal (eOp dGt (eVar 6) (eC (.int 0)))) (sSeq (sApp 2 (eOp dMod (eA dInt (aCons (eVar 6) aNil)) (eC (.int 997)))) (sSet 6 (eOp dFdiv (eVar 6) (eC (.int 997))))) (sNil)) (rangeD 0 60) (DrE ns m xs mx s4 s5 (some (.int r, false)) s7) w
      = some (.nx (DrE ns m xs' mx s4 s5 (some (.int r', false)) s7') w) ∧ xs'.length ≤ xs.length + 60 := by
  obtain ⟨e, w', h1, xs', r', s7', h2, h3, h4⟩ := forL_inv (set := setN 7) (sa := sIf (tVal (eOp dGt (eVar 6) (eC (.int 0)))) (sSeq (sApp 2 (eOp dMod (eA dInt (aCons (eVar 6) aNil)) (eC (.int 997)))) (sSet 6 (eOp dFdiv (eVar 6) (eC (.int 997))))) (sNil))
    (fun i e w1 => ∃ xs' r' s7', e = DrE ns m xs' mx s4 s5 (some (.int r', false)) s7' ∧ w1 = w ∧ xs'.length ≤ xs.length + i) (rangeD 0 60) 0 _ w ⟨xs, r, s7, rfl, rfl, by omega⟩ fun j d env w1 hd hp => by
      obtain ⟨xs', r', s7', he, hw, hx⟩ := hp
      subst he hw
      obtain ⟨hd1, hd2⟩ := range_at hd
      subst hd1
      by_cases hr : 0 < r'
      · refine ⟨_, .nx (DrE ns m (xs' ++ [r' % 997]) mx s4 s5 (some (.int (r' / 997), false)) (some (.int (0 + (j : Int)), false))) w1, _, _, rfl, ?_, .inl rfl, _, _, _, rfl, rfl, by rw [List.length_append]; show xs'.length + 1 ≤ _; omega⟩
        have hlen : xs'.length < lim := lt_lim (by omega)
        simp -implicitDefEqProofs [DrE, hr, hlen]
      · refine ⟨_, .nx (DrE ns m xs' mx s4 s5 (some (.int r', false)) (some (.int (0 + (j : Int)), false))) w1, _, _, rfl, ?_, .inl rfl, _, _, _, rfl, rfl, by omega⟩
        simp -implicitDefEqProofs [DrE, hr]
  rw [range_len] at h4
  subst h2 h3
  exact ⟨xs', r', s7', h1, by simpa using h4⟩
abbrev bDrIn : SB := (sIf (tVal (eOp dGt (eVar 6) (eC (.int 0)))) (sSeq (sApp 2 (eOp dMod (eA dInt (aCons (eVar 6) aNil)) (eC (.int 997)))) (sSet 6 (eOp dFdiv (eVar 6) (eC (.int 997))))) (sNil))
abbrev bDr1 : SB := (sSeq (sSet 5 (eA dAbs (aCons (eA dInt (aCons (eOp dIx (eVar 0) (eVar 4)) aNil)) aNil))) (sSeq (sSet 3 (eOp dMod (eA dInt (aCons (eOp dAdd (eOp dAdd (eOp dMul (eVar 3) (eC (.int 48271))) (eOp dMod (eVar 5) (eC (.int 1000003)))) (eVar 4)) aNil)) (eC (.int 65537)))) (sSeq (sSet 6 (eC (.int 0))) (sSeq (sIf (tVal (eOp dGe (eVar 5) (eOp dPow (eC (.int 10)) (eC (.int 18))))) (sSet 6 (eVar 5)) (sSeq (sApp 2 (eOp dMod (eA dInt (aCons (eVar 5) aNil)) (eC (.int 997)))) (sApp 2 (eOp dMod (eOp dMod (eA dInt (aCons (eOp dAdd (eOp dMul (eVar 3) (eC (.int 69621))) (eC (.int 5))) aNil)) (eC (.int 65521))) (eC (.int 997)))))) (sFor (setN 7) (iRange (aCons (eC (.int 60)) aNil)) bDrIn)))))
abbrev bDr2 : SB := (sSeq (sSet 3 (eOp dMod (eA dInt (aCons (eOp dAdd (eOp dAdd (eOp dMul (eVar 3) (eC (.int 16807))) (eVar 4)) (eC (.int 1))) aNil)) (eC (.int 65537)))) (sApp 2 (eOp dMod (eA dInt (aCons (eVar 3) aNil)) (eC (.int 997)))))
theorem drw_turn (ns : List Int) (m : Int) (w : Option Wd) (xs : List Int) (mx : Int) (s5 s6 s7 : Option (D × Bool)) (j : Nat) (hj : j < ns.length) (hl : xs.length ≤ 9000) :
    ∃ xs' mx' s5' s6' s7', bDr1 (DrE ns m xs mx (some (.int (j : Int), false)) s5 s6 s7) w = some (.nx (DrE ns m xs' mx' (some (.int (j : Int), false)) s5' s6' s7') w) ∧ xs'.length ≤ xs.length + 62 := by
  have hix : atI ns (j : Int) = some ns[j] := by rw [atI_n]; simp [hj]
  have hp : ((10 : Int) ^ (18 : Int).toNat) = 1000000000000000000 := by decide
  generalize hc : (if ns[j] < 0 then -ns[j] else ns[j]) = cell
  have hl1 : xs.length < lim := lt_lim (by omega)
  have hl2 : xs.length + 1 < lim := lt_lim (by omega)
  by_cases hg : (1000000000000000000 : Int) ≤ cell
  · obtain ⟨xs', r', s7', h1, h2⟩ := drw_inner ns m w xs ((mx * 48271 + cell % 1000003 + j) % 65537) cell (some (.int (j : Int), false)) (some (.int cell, false)) s7 (by omega)
    refine ⟨xs', (mx * 48271 + cell % 1000003 + j) % 65537, some (.int cell, false), some (.int r', false), s7', ?_, by omega⟩
    simp only [DrE] at h1
    simp -implicitDefEqProofs [DrE, hix, hc, hp, hg, rngK_1, h1]
  · obtain ⟨xs', r', s7', h1, h2⟩ := drw_inner ns m w (xs ++ [cell % 997] ++ [(((mx * 48271 + cell % 1000003 + j) % 65537) * 69621 + 5) % 65521 % 997]) ((mx * 48271 + cell % 1000003 + j) % 65537) 0 (some (.int (j : Int), false)) (some (.int cell, false)) s7 (by simp; omega)
    refine ⟨xs', (mx * 48271 + cell % 1000003 + j) % 65537, some (.int cell, false), some (.int r', false), s7', ?_, by simp at h2; omega⟩
    simp -implicitDefEqProofs [DrE] at h1
    simp -implicitDefEqProofs [DrE, hix, hc, hp, hg, hl1, hl2, rngK_1, h1]
theorem draws_ok (ns : List Int) (hn : ns.length ≤ 63) (m : Int) (hm : 0 ≤ m ∧ m ≤ 100000) (w : Option Wd) : ∃ ds : List Int, fDraws [.scr ns, .int m] w = some ((.lst (ds.map D.int), .ow), w) := by
  obtain ⟨e, w', h1, xs, mx, s4, s5, s6, s7, h2, h3, h4⟩ := forL_inv (set := setN 4) (sa := bDr1)
    (fun i e w1 => ∃ xs mx s4 s5 s6 s7, e = DrE ns m xs mx s4 s5 s6 s7 ∧ w1 = w ∧ xs.length ≤ 62 * i) (rangeD 0 (ns.length : Int)) 0 (DrE ns m [] 7 none none none none) w ⟨[], 7, none, none, none, none, rfl, rfl, by simp⟩ fun j d env w1 hd hp => by
      obtain ⟨xs, mx, s4, s5, s6, s7, he, hw, hx⟩ := hp
      subst he hw
      obtain ⟨hd1, hd2⟩ := range_at hd
      subst hd1
      obtain ⟨xs', mx', s5', s6', s7', h1, h2⟩ := drw_turn ns m w1 xs mx s5 s6 s7 j (by omega) (by omega)
      refine ⟨DrE ns m xs mx (some (.int (j : Int), false)) s5 s6 s7, _, _, _, ?_, h1, .inl rfl, _, _, _, _, _, _, rfl, rfl, by omega⟩
      simp -implicitDefEqProofs [DrE]
  rw [range_len] at h4
  subst h2 h3
  obtain ⟨e2, w2, g1, xs2, mx2, t4, g2, g3, g4⟩ := forL_inv (set := setN 4) (sa := bDr2)
    (fun i e w1 => ∃ xs2 mx2 t4, e = DrE ns m xs2 mx2 t4 s5 s6 s7 ∧ w1 = w' ∧ xs2.length ≤ xs.length + i) (rangeD 0 m) 0 (DrE ns m xs mx s4 s5 s6 s7) w' ⟨xs, mx, s4, rfl, rfl, by simp⟩ fun j d env w1 hd hp => by
      obtain ⟨xs2, mx2, t4, he, hw, hx⟩ := hp
      subst he hw
      obtain ⟨hd1, hd2⟩ := range_at hd
      subst hd1
      have hl : xs2.length < lim := lt_lim (by omega)
      refine ⟨DrE ns m xs2 mx2 (some (.int (0 + (j : Int)), false)) s5 s6 s7, .nx (DrE ns m (xs2 ++ [((mx2 * 16807 + (0 + (j : Int)) + 1) % 65537) % 997]) ((mx2 * 16807 + (0 + (j : Int)) + 1) % 65537) (some (.int (0 + (j : Int)), false)) s5 s6 s7) w1, _, _, by simp -implicitDefEqProofs [DrE], ?_, .inl rfl, _, _, _, rfl, rfl, by rw [List.length_append]; show xs2.length + 1 ≤ _; omega⟩
      simp -implicitDefEqProofs [DrE, hl]
  subst g2 g3
  obtain ⟨mn, hmn⟩ : ∃ mn : Nat, m = mn := ⟨m.toNat, by omega⟩
  refine ⟨xs2.take mn, ?_⟩
  have hr1 : ∀ w, rngK ([(.int (ns.length : Int), .fz)], w) = some (rangeD 0 (ns.length : Int), w) := fun w => rngK_1 (by omega)
  have hr2 : ∀ w, rngK ([(.int m, .fz)], w) = some (rangeD 0 m, w) := fun w => rngK_1 (by omega)
  simp only [DrE, List.map_nil] at h1 g1
  have hc : cutD (xs2.map D.int) none (some m) = (xs2.take mn).map D.int := by rw [hmn, cut_take, List.map_take]
  simp [fDraws, bDraws, hr1, hr2, h1, g1, hc]
end Dl

set_option Elab.async false
set_option linter.all false
set_option maxRecDepth 100000
set_option maxHeartbeats 1000000
namespace Dl
open PySem PySem.Spec PyProof.Rows L2
/-! what the laws share: the next draw, a pick -/
def OkW (W : Wd) : Prop := 0 ≤ W.ix
def bNext : SB := (sSeq (sTick 0) (sSeq (sIf (tVal (eOp dGt (eWget 0 true) (eA dLen (aCons (eWget 0 false) aNil)))) (sRet (eC (.int 0))) (sNil)) (sRet (eOp dMod (eA dInt (aCons (eOp dIx (eWget 0 false) (eOp dSub (eWget 0 true) (eC (.int 1)))) aNil)) (eVar 1)))))
def fNext : Fn := runFn 2 2 bNext
theorem next_ok {W : Wd} (h0 : OkW W) {m : Int} (hm : 0 < m) : ∃ (r : Int) (W' : Wd), fNext [.w, .int m] (some W) = some ((.int r, .fz), some W') ∧ 0 ≤ r ∧ r < m ∧ OkW W' := by
  unfold OkW at h0
  refine (?_ : ∃ r : Int, fNext [.w, .int m] (some W) = some ((.int r, .fz), some ⟨W.draws, W.ix + 1⟩) ∧ 0 ≤ r ∧ r < m).elim fun r h => ⟨r, _, h.1, h.2.1, h.2.2, by unfold OkW; show 0 ≤ W.ix + 1; omega⟩
  by_cases h : (W.draws.length : Int) < W.ix + 1
  · exact ⟨0, by simp -implicitDefEqProofs [fNext, bNext, h], by omega, hm⟩
  · obtain ⟨j, hj⟩ : ∃ j : Nat, W.ix = j := ⟨W.ix.toNat, by omega⟩
    have hjl : j < W.draws.length := by omega
    refine ⟨W.draws[j] % m, ?_, Int.emod_nonneg _ (by omega), Int.emod_lt_of_pos _ hm⟩
    rw [hj] at h ⊢
    have e : (j : Int) + 1 - 1 = j := by omega
    simp -implicitDefEqProofs [fNext, bNext, hj, h, e, atI_n, hjl, hm]
def bPick (f : Fn) : SB := (sRet (eOp dIx (eVar 1) (eCall f (aCons (eFz (eVar 0)) (aCons (eFz (eA dLen (aCons (eVar 1) aNil))) aNil)))))
def fPick : Fn := runFn 2 2 (bPick fNext)
theorem pick_ok {W : Wd} (h0 : OkW W) {ds : List D} (hm : 0 < ds.length) : ∃ (d : D) (W' : Wd), fPick [.w, .lst ds] (some W) = some ((d, .fz), some W') ∧ d ∈ ds ∧ OkW W' := by
  obtain ⟨r, W', h1, h2, h3, h4⟩ := next_ok h0 (m := (ds.length : Int)) (by omega)
  obtain ⟨j, hj⟩ : ∃ j : Nat, r = j := ⟨r.toNat, by omega⟩
  subst hj
  have hjl : j < ds.length := by omega
  refine ⟨ds[j], W', ?_, List.getElem_mem _, h4⟩
  simp -implicitDefEqProofs [fPick, bPick, h1, atI_n, hjl]
/-! zip, more rows -/
def zipK (p : List DS × Option Wd) : Option (List D × Option Wd) := match p.1 with
  | [(.lst xs, _), (.lst ys, _)] => some (List.zipWith (fun a b => .tup [a, b]) xs ys, p.2)
  | _ => none
@[simp] theorem zipK_q {w : Option Wd} {xs ys : List D} {s t : O3} : zipK ([(.lst xs, s), (.lst ys, t)], w) = some (List.zipWith (fun a b => .tup [a, b]) xs ys, w) := rfl
@[simp] theorem iZipD_q {fa : EA} {env : En} {w : Option Wd} : iZipD fa env w = bnd (fa env w) zipK := rfl
theorem atI_m {α : Type} {xs : List α} {j : Int} (h : 0 ≤ j) : atI xs j = xs[j.toNat]? := by
  obtain ⟨n, hn⟩ : ∃ n : Nat, j = n := ⟨j.toNat, by omega⟩
  subst hn
  rw [atI_n]; simp
def dicK (r : List Key × List D) : Option DS := some (.dk r.1 r.2, .ow)
@[simp] theorem dicK_q {ks : List Key} {ds : List D} : dicK (ks, ds) = some (.dk ks ds, .ow) := rfl
theorem dDict_t {ps : List D} (h : ps.length ≤ lim) : dDict [.tup ps] = bnd (dMerge [] [] ps) dicK := by
  show (if ps.length ≤ lim then (dMerge [] [] ps).map _ else none) = _
  rw [if_pos h]
  cases dMerge [] [] ps <;> rfl
def findI : List Key → List Int → Key → Option Int
  | k :: ks, d :: ds, j => if k = j then some d else findI ks ds j
  | _, _, _ => none
theorem dFind_int : ∀ (ks : List Key) (ds : List Int) (k : Key), dFind ks (ds.map D.int) k = (findI ks ds k).map D.int
  | [], _, _ => by cases ‹List Int› <;> rfl
  | _ :: _, [], _ => rfl
  | k :: ks, d :: ds, j => by
    show (if k = j then some (D.int d) else dFind ks (ds.map D.int) j) = Option.map D.int (if k = j then some d else findI ks ds j)
    rw [dFind_int ks ds j]
    split <;> rfl
def updI : List Key → List Int → Key → Int → List Int
  | k :: ks, d :: ds, j, x => (if k = j then x else d) :: updI ks ds j x
  | _, ds, _, _ => ds
theorem dUpd_int : ∀ (ks : List Key) (ds : List Int) (k : Key) (x : Int), dUpd ks (ds.map D.int) k (.int x) = (updI ks ds k x).map D.int
  | [], [], _, _ => rfl
  | [], _ :: _, _, _ => rfl
  | _ :: _, [], _, _ => rfl
  | k :: ks, d :: ds, j, x => by
    show (if k = j then D.int x else D.int d) :: dUpd ks (ds.map D.int) j (.int x) = ((if k = j then x else d) :: updI ks ds j x).map D.int
    rw [dUpd_int ks ds j x]
    split <;> rfl
theorem dPut_int (ks : List Key) (ds : List Int) (k : Key) (x : Int) : ∃ ks' ds', dPut ks (ds.map D.int) k (.int x) = (ks', List.map D.int ds') := by
  unfold dPut
  split
  · exact ⟨ks, updI ks ds k x, by rw [dUpd_int]⟩
  · exact ⟨ks ++ [k], ds ++ [x], by simp⟩
theorem dMerge_int : ∀ (ps : List (D × Int)) (ks : List Key) (ds : List Int), (∀ p ∈ ps, ∃ k, keyD p.1 = some k) → ∃ ks' ds', dMerge ks (ds.map D.int) (ps.map fun p => .tup [p.1, .int p.2]) = some (ks', List.map D.int ds')
  | [], ks, ds, _ => ⟨ks, ds, rfl⟩
  | p :: ps, ks, ds, h => by
    obtain ⟨k, hk⟩ := h p List.mem_cons_self
    obtain ⟨ks1, ds1, e1⟩ := dPut_int ks ds k p.2
    obtain ⟨ks2, ds2, e2⟩ := dMerge_int ps ks1 ds1 fun q hq => h q (List.mem_cons_of_mem _ hq)
    refine ⟨ks2, ds2, ?_⟩
    show (keyD p.1).bind _ = _
    rw [hk]
    show dMerge (dPut ks (ds.map D.int) k (.int p.2)).1 (dPut ks (ds.map D.int) k (.int p.2)).2 _ = _
    rw [e1]; exact e2
theorem dEqD_nil {ds : List D} (h : fine 64 (.tup ds) = true) (neg : Bool) : dEqD neg (.tup ds) (.tup []) = some (.bl (if neg then !ds.isEmpty else ds.isEmpty), .fz) := by
  obtain ⟨p, h1, h2, h3⟩ := fine_py 64 _ h
  obtain ⟨q, g1, g2, g3⟩ := fine_py 64 (.tup []) rfl
  unfold dEqD
  have hs : SeqAt.shaped p = true := by unfold SeqAt.shaped; simp [h2, h3]
  have gs : SeqAt.shaped q = true := by unfold SeqAt.shaped; simp [g2, g3]
  rw [h1, g1]
  cases g1
  have : ∃ ps, p = .tuple ps ∧ PyData.eqvAll ps [] = ds.isEmpty := by
    cases ds with
    | nil => cases h1; exact ⟨_, rfl, by simp [PyData.eqvAll]⟩
    | cons d ds =>
      simp only [dPy, dPys] at h1
      cases e : dPy d with
      | none => simp [e] at h1
      | some a =>
        cases e2 : dPys ds with
        | none => simp [e, e2] at h1
        | some b => simp [e, e2] at h1; subst h1; exact ⟨_, rfl, by simp [PyData.eqvAll]⟩
  obtain ⟨ps, e, e2⟩ := this
  subst e
  simp [hs, gs, PyData.eqv, e2]
theorem dEq_tnil {ds : List D} (h : fine 64 (.tup ds) = true) : els2 (dEqF false) (dEqD false) (.tup ds) (.tup []) = some (.bl ds.isEmpty, .fz) := dEqD_nil h false
theorem dNe_tnil {ds : List D} (h : fine 64 (.tup ds) = true) : els2 (dEqF true) (dEqD true) (.tup ds) (.tup []) = some (.bl (!ds.isEmpty), .fz) := dEqD_nil h true
@[simp] theorem dIsi_ii {i : Int} : dIsi [.int i, .ty "int"] = some (.bl true, .fz) := rfl
@[simp] theorem dIsi_ib {i : Int} : dIsi [.int i, .ty "bool"] = some (.bl false, .fz) := rfl
@[simp] theorem dIsi_ti {ds : List D} : dIsi [.tup ds, .ty "int"] = some (.bl false, .fz) := rfl
@[simp] theorem dIsi_bb {b : Bool} : dIsi [.bl b, .ty "bool"] = some (.bl true, .fz) := rfl
@[simp] theorem dIsi_nb : dIsi [.non, .ty "bool"] = some (.bl false, .fz) := rfl
mutual
theorem fine_mono : ∀ (n m : Nat) (d : D), n ≤ m → fine n d = true → fine m d = true
  | _, _, .non, _, _ => by simp [fine]
  | _, _, .bl _, _, _ => by simp [fine]
  | _, _, .int _, _, _ => by simp [fine]
  | _, _, .str _, _, h => by simp [fine] at h ⊢; exact h
  | n + 1, m + 1, .tup ds, hl, h => by
    have h' : fines n ds = true := by simpa [fine] using h
    have := fines_mono n m ds (by omega) h'
    simpa [fine] using this
  | n + 1, m + 1, .lst ds, hl, h => by
    have h' : fines n ds = true := by simpa [fine] using h
    have := fines_mono n m ds (by omega) h'
    simpa [fine] using this
  | n + 1, 0, .tup ds, hl, h => by omega
  | n + 1, 0, .lst ds, hl, h => by omega
  | 0, _, .tup ds, _, h => by simp [fine] at h
  | 0, _, .lst ds, _, h => by simp [fine] at h
  | n, _, .dk _ _, _, h => by simp [fine] at h
  | n, _, .scr _, _, h => by simp [fine] at h
  | n, _, .ty _, _, h => by simp [fine] at h
  | n, _, .w, _, h => by simp [fine] at h
theorem fines_mono : ∀ (n m : Nat) (ds : List D), n ≤ m → fines n ds = true → fines m ds = true
  | _, _, [], _, _ => by simp [fines]
  | n, m, d :: ds, hl, h => by
    have h' : fine n d = true ∧ fines n ds = true := by simpa [fines] using h
    simp [fines, fine_mono n m d hl h'.1, fines_mono n m ds hl h'.2]
end
theorem fines_all (n : Nat) : ∀ ds : List D, fines n ds = true ↔ ∀ d ∈ ds, fine n d = true
  | [] => by simp [fines]
  | d :: ds => by simp [fines, fines_all n ds]
@[simp] theorem fine_tup {n : Nat} {ds : List D} : fine (n + 1) (.tup ds) = true ↔ ∀ d ∈ ds, fine n d = true := by
  simp only [fine]; exact fines_all n ds
@[simp] theorem fine_lst {n : Nat} {ds : List D} : fine (n + 1) (.lst ds) = true ↔ ∀ d ∈ ds, fine n d = true := by
  simp only [fine]; exact fines_all n ds
/-! texts of the program -/
theorem map_toNat_inj : ∀ (a b : List Char), a.map Char.toNat = b.map Char.toNat → a = b
  | [], [], _ => rfl
  | [], _ :: _, h => by cases h
  | _ :: _, [], h => by cases h
  | x :: a, y :: b, h => by
    have h1 : x.toNat = y.toNat := (List.cons.inj h).1
    have h2 := map_toNat_inj a b (List.cons.inj h).2
    have h3 : x = y := Char.ext (UInt32.toNat_inj.mp h1)
    rw [h2, h3]
theorem ofS_inj {a b : String} (h : Str.ofString a = Str.ofString b) : a = b := by
  rw [Str.ofString_eq_toList, Str.ofString_eq_toList] at h
  have h1 : (a.toList.map Char.toNat) = b.toList.map Char.toNat := by injection h with h; exact (Array.mk.inj h)
  exact String.toList_inj.mp (map_toNat_inj _ _ h1)
@[simp] theorem ofS_eq {a b : String} : (Str.ofString a = Str.ofString b) ↔ a = b := ⟨ofS_inj, fun h => by rw [h]⟩
@[simp] theorem ofS_beq {a b : String} : (Str.ofString a == Str.ofString b) = (a == b) := by
  by_cases h : a = b
  · subst h; simp
  · have h' : Str.ofString a ≠ Str.ofString b := fun e => h (ofS_inj e)
    rw [beq_eq_false_iff_ne.mpr h, beq_eq_false_iff_ne.mpr h']
/-! in -/
@[simp] theorem flatD_non : flatD .non = true := rfl
@[simp] theorem flatD_bl {b : Bool} : flatD (.bl b) = true := rfl
@[simp] theorem flatD_int {b : Int} : flatD (.int b) = true := rfl
@[simp] theorem flatD_str {b : Str} : flatD (.str b) = true := rfl
@[simp] theorem eqF_nn : eqF .non .non = true := rfl
@[simp] theorem eqF_ii {a b : Int} : eqF (.int a) (.int b) = decide (a = b) := rfl
@[simp] theorem eqF_ss {a b : Str} : eqF (.str a) (.str b) = decide (a = b) := rfl
@[simp] theorem eqF_ni {b : Int} : eqF .non (.int b) = false := rfl
@[simp] theorem eqF_in {b : Int} : eqF (.int b) .non = false := rfl
@[simp] theorem eqF_ns {b : Str} : eqF .non (.str b) = false := rfl
@[simp] theorem eqF_sn {b : Str} : eqF (.str b) .non = false := rfl
theorem dIn_tup {neg : Bool} {x : D} {ys : List D} (h : flatD x = true) (h2 : ys.all flatD = true) : dIn neg x (.tup ys) = some (.bl (if neg then !ys.any (fun z => eqF z x) else ys.any fun z => eqF z x), .fz) := by
  show (some ys).bind _ = _
  show (if flatD x = true ∧ ys.all flatD = true then fzO _ else none) = _
  rw [if_pos ⟨h, h2⟩]
theorem dIn_lst {neg : Bool} {x : D} {ys : List D} (h : flatD x = true) (h2 : ys.all flatD = true) : dIn neg x (.lst ys) = some (.bl (if neg then !ys.any (fun z => eqF z x) else ys.any fun z => eqF z x), .fz) := by
  show (some ys).bind _ = _
  show (if flatD x = true ∧ ys.all flatD = true then fzO _ else none) = _
  rw [if_pos ⟨h, h2⟩]
@[simp] theorem dIn_t2 {x b c : D} (h : flatD x = true) (hb : flatD b = true) (hc : flatD c = true) : dIn false x (.tup [b, c]) = some (.bl (eqF b x || eqF c x), .fz) := by
  rw [dIn_tup h (by simp [hb, hc])]; simp
/-! a value at each suffix -/
def tm {α β : Type} (f : List α → β) : List α → List β
  | [] => []
  | a :: r => f (a :: r) :: tm f r
@[simp] theorem tm_nil {α β : Type} (f : List α → β) : tm f [] = [] := rfl
@[simp] theorem tm_cons {α β : Type} (f : List α → β) (a : α) (r : List α) : tm f (a :: r) = f (a :: r) :: tm f r := rfl
@[simp] theorem tm_length {α β : Type} (f : List α → β) : ∀ l : List α, (tm f l).length = l.length
  | [] => rfl
  | a :: r => by simp [tm_length f r]
theorem tm_map {α β γ : Type} (f : List α → β) (g : β → γ) : ∀ l : List α, (tm f l).map g = tm (fun x => g (f x)) l
  | [] => rfl
  | a :: r => by simp [tm_map f g r]
theorem tm_zip {α β γ δ : Type} (f : List α → β) (g : List α → γ) (h : β → γ → δ) : ∀ l : List α, List.zipWith h (tm f l) (tm g l) = tm (fun x => h (f x) (g x)) l
  | [] => rfl
  | a :: r => by simp [tm_zip f g h r]
theorem tm_congr {α β : Type} (f g : List α → β) : ∀ l : List α, (∀ a r, f (a :: r) = g (a :: r)) → tm f l = tm g l
  | [], _ => rfl
  | a :: r, h => by simp [h, tm_congr f g r h]
theorem tm_tail {α β : Type} (f : List α → β) (b : β) : ∀ (a : α) (r : List α), tm f r ++ [b] = tm (fun x => if x.tail.isEmpty then b else f x.tail) (a :: r)
  | a, [] => by simp
  | a, c :: r => by
    have := tm_tail f b c r
    simp at this ⊢
    exact this
theorem tm_get {α β : Type} (f : List α → β) : ∀ (l : List α) (k : Nat), k < l.length → (tm f l)[k]? = some (f (l.drop k))
  | a :: r, 0, _ => rfl
  | a :: r, k + 1, h => by simp; exact tm_get f r k (by simpa using h)
theorem tm_at {α β : Type} (f : α → β) : ∀ l : List α, (∀ g : List α → β, (∀ a r, g (a :: r) = f a) → tm g l = l.map f)
  | [], g, h => rfl
  | a :: r, g, h => by simp [h, tm_at f r g h]
end Dl

set_option Elab.async false
set_option linter.all false
set_option maxRecDepth 100000
set_option maxHeartbeats 1000000
namespace Dl
open PySem PySem.Spec PyProof.Rows L2
/-! rows for the further operations -/
theorem els2_some {g h : D → D → Option DS} {x y : D} {r : DS} (e : g x y = some r) : els2 g h x y = some r := by
  unfold els2; rw [e]
theorem dInG_tup {neg : Bool} {x : D} {ys : List D} (h : flatD x = true) (h2 : ys.all flatD = true) : els2 (dIn neg) (dInS neg) x (.tup ys) = some (.bl (if neg then !ys.any (fun z => eqF z x) else ys.any fun z => eqF z x), .fz) := els2_some (dIn_tup h h2)
theorem dInG_lst {neg : Bool} {x : D} {ys : List D} (h : flatD x = true) (h2 : ys.all flatD = true) : els2 (dIn neg) (dInS neg) x (.lst ys) = some (.bl (if neg then !ys.any (fun z => eqF z x) else ys.any fun z => eqF z x), .fz) := els2_some (dIn_lst h h2)
@[simp] theorem dInG_t2 {neg : Bool} {x b c : D} (h : flatD x = true) (hb : flatD b = true) (hc : flatD c = true) : els2 (dIn neg) (dInS neg) x (.tup [b, c]) = some (.bl (if neg then !(eqF b x || eqF c x) else (eqF b x || eqF c x)), .fz) := by
  rw [dInG_tup h (by simp [hb, hc])]; simp
@[simp] theorem dInK_q {neg : Bool} {C : List D} {x : D} (h : flatD x = true) (h2 : C.all flatD = true) : dInK neg C x = some (.bl (if neg then !C.any (fun z => eqF z x) else C.any fun z => eqF z x), .fz) := dIn_tup h h2
@[simp] theorem intsD_nil : intsD [] = some [] := rfl
theorem intsD_map : ∀ ns : List Int, intsD (ns.map D.int) = some ns
  | [] => rfl
  | n :: ns => by show (intsD (ns.map D.int)).map _ = _; rw [intsD_map ns]; rfl
theorem bolsD_map : ∀ ns : List Bool, bolsD (ns.map D.bl) = some ns
  | [] => rfl
  | n :: ns => by show (bolsD (ns.map D.bl)).map _ = _; rw [bolsD_map ns]; rfl
theorem dSum_q {ns : List Int} : dSum [.lst (ns.map D.int)] = some (.int ns.sum, .fz) := by
  show (intsD (ns.map D.int)).map _ = _; rw [intsD_map]; rfl
theorem dAll_q {ns : List Bool} : dAll [.lst (ns.map D.bl)] = some (.bl (ns.all id), .fz) := by
  show (bolsD (ns.map D.bl)).map _ = _; rw [bolsD_map]; rfl
def strK (p : DS × Option Wd) : Option (List D × Option Wd) := match p.1.1 with
  | .str z => some (signs z, p.2)
  | _ => none
@[simp] theorem strK_q {z : Str} {s : O3} {w : Option Wd} : strK ((.str z, s), w) = some (signs z, w) := rfl
@[simp] theorem iStrD_q {f : EF} {env : En} {w : Option Wd} : iStrD f env w = bnd (f env w) strK := rfl
def enumK (p : List DS × Option Wd) : Option (List D × Option Wd) := match p.1 with
  | [(.lst xs, _)] => some (enumD 0 xs, p.2)
  | _ => none
@[simp] theorem enumK_q {xs : List D} {s : O3} {w : Option Wd} : enumK ([(.lst xs, s)], w) = some (enumD 0 xs, w) := rfl
@[simp] theorem iEnumD_q {fa : EA} {env : En} {w : Option Wd} : iEnumD fa env w = bnd (fa env w) enumK := rfl
@[simp] theorem enumD_nil {k : Int} : enumD k [] = [] := rfl
@[simp] theorem enumD_cons {k : Int} {x : D} {xs : List D} : enumD k (x :: xs) = .tup [.int k, x] :: enumD (k + 1) xs := rfl
@[simp] theorem dIsi_st {z : Str} : dIsi [.str z, .ty "str"] = some (.bl true, .fz) := rfl
@[simp] theorem dIsi_si {z : Str} : dIsi [.str z, .ty "int"] = some (.bl false, .fz) := rfl
@[simp] theorem dIsi_sb {z : Str} : dIsi [.str z, .ty "bool"] = some (.bl false, .fz) := rfl
@[simp] theorem dIsi_stu {z : Str} : dIsi [.str z, .ty "tuple"] = some (.bl false, .fz) := rfl
@[simp] theorem dIsi_is {i : Int} : dIsi [.int i, .ty "str"] = some (.bl false, .fz) := rfl
@[simp] theorem dIsi_it {i : Int} : dIsi [.int i, .ty "tuple"] = some (.bl false, .fz) := rfl
@[simp] theorem dIsi_tt {ds : List D} : dIsi [.tup ds, .ty "tuple"] = some (.bl true, .fz) := rfl
@[simp] theorem dIsi_ts {ds : List D} : dIsi [.tup ds, .ty "str"] = some (.bl false, .fz) := rfl
@[simp] theorem dIsi_tb {ds : List D} : dIsi [.tup ds, .ty "bool"] = some (.bl false, .fz) := rfl
@[simp] theorem dIsi_lt {ds : List D} : dIsi [.lst ds, .ty "tuple"] = some (.bl false, .fz) := rfl
@[simp] theorem dIsi_ll {ds : List D} : dIsi [.lst ds, .ty "list"] = some (.bl true, .fz) := rfl
@[simp] theorem dIsi_li {ds : List D} : dIsi [.lst ds, .ty "int"] = some (.bl false, .fz) := rfl
@[simp] theorem dIsi_ls {ds : List D} : dIsi [.lst ds, .ty "str"] = some (.bl false, .fz) := rfl
@[simp] theorem dIsi_nt : dIsi [.non, .ty "tuple"] = some (.bl false, .fz) := rfl
@[simp] theorem dIsi_ni : dIsi [.non, .ty "int"] = some (.bl false, .fz) := rfl
@[simp] theorem dIsi_ns : dIsi [.non, .ty "str"] = some (.bl false, .fz) := rfl
@[simp] theorem dIsi_bt {b : Bool} : dIsi [.bl b, .ty "tuple"] = some (.bl false, .fz) := rfl
@[simp] theorem dIsi_bi {b : Bool} : dIsi [.bl b, .ty "int"] = some (.bl true, .fz) := rfl
@[simp] theorem dIsi_bs {b : Bool} : dIsi [.bl b, .ty "str"] = some (.bl false, .fz) := rfl
theorem dSl_str : True := trivial
end Dl

set_option Elab.async false
set_option linter.all false
set_option maxRecDepth 100000
set_option maxHeartbeats 1000000
namespace Dl
open PySem PySem.Spec PyProof.Rows L2
/-! loops and comprehensions at once -/
theorem lcL_gen {α : Type} {set : ESet} {t : ET} {fe : EF} {env : En} {w : Option Wd} (φ : α → D) (p : α → Bool) (g : α → D) : ∀ (xs : List α),
    (∀ x ∈ xs, ∃ e1, set (φ x) env = some e1 ∧ t e1 w = some (p x, w) ∧ (p x = true → eFz fe e1 w = some ((g x, .fz), w))) → lcL set t fe (xs.map φ) env w = some ((xs.filter p).map g, w)
  | [], _ => rfl
  | x :: xs, h => by
    obtain ⟨e1, h1, h2, h3⟩ := h x List.mem_cons_self
    have ih := lcL_gen φ p g xs fun y hy => h y (List.mem_cons_of_mem _ hy)
    rw [List.map_cons, lcL_cons, h1, bnd_some, lcC1_q, h2, bnd_some]
    cases hp : p x with
    | true => rw [lcC2_t, h3 hp, bnd_some, lcC3_q, ih, List.filter_cons_of_pos hp]; rfl
    | false => rw [lcC2_f, ih, List.filter_cons_of_neg (by simp [hp])]
theorem lcL_all {α : Type} {set : ESet} {fe : EF} {env : En} {w : Option Wd} (φ : α → D) (g : α → D) (xs : List α)
    (h : ∀ x ∈ xs, ∃ e1, set (φ x) env = some e1 ∧ eFz fe e1 w = some ((g x, .fz), w)) : lcL set tYesD fe (xs.map φ) env w = some (xs.map g, w) := by
  have := lcL_gen (set := set) (t := tYesD) (fe := fe) (env := env) (w := w) φ (fun _ => true) g xs fun x hx => by
    obtain ⟨e1, h1, h2⟩ := h x hx
    exact ⟨e1, h1, rfl, fun _ => h2⟩
  rw [this, List.filter_eq_self.mpr fun _ _ => rfl]
/-- the same where the list stands as data -/
theorem lcL_genD {set : ESet} {t : ET} {fe : EF} {env : En} {w : Option Wd} (p : D → Bool) (g : D → D) (xs : List D)
    (h : ∀ x ∈ xs, ∃ e1, set x env = some e1 ∧ t e1 w = some (p x, w) ∧ (p x = true → eFz fe e1 w = some ((g x, .fz), w))) : lcL set t fe xs env w = some ((xs.filter p).map g, w) := by
  have := lcL_gen (set := set) (t := t) (fe := fe) (env := env) (w := w) id p g xs h
  rw [List.map_id] at this
  exact this
theorem range_map {n : Nat} : rangeD 0 (n : Int) = (List.range n).map fun k : Nat => .int (k : Int) := by
  unfold rangeD
  simp
theorem range_map2 {lo hi : Nat} : rangeD (lo : Int) (hi : Int) = (List.range' lo (hi - lo)).map fun k : Nat => .int (k : Int) := by
  unfold rangeD
  rw [show ((hi : Int) - (lo : Int)).toNat = hi - lo by omega, List.range'_eq_map_range, List.map_map]
  refine List.map_congr_left fun k _ => ?_
  show D.int _ = D.int _
  congr 1
theorem range_cons {lo hi : Int} (h : lo < hi) : rangeD lo hi = .int lo :: rangeD (lo + 1) hi := by
  unfold rangeD
  have e : (hi - lo).toNat = (hi - (lo + 1)).toNat + 1 := by omega
  rw [e, List.range_succ_eq_map, List.map_cons, List.map_map]
  refine congr (congrArg List.cons (by simp)) (List.map_congr_left fun k _ => ?_)
  show D.int _ = D.int _
  congr 1
  simp; omega
theorem range_none {lo hi : Int} (h : hi ≤ lo) : rangeD lo hi = [] := by
  unfold rangeD
  rw [show (hi - lo).toNat = 0 by omega]; rfl
/-- a for whose turns change the slots as a function of a state -/
theorem forL_fold {α σ : Type} {set : ESet} {sa : SB} {w : Option Wd} (φ : α → D) (E : σ → En) (f : σ → α → σ) (I : σ → Prop) : ∀ (xs : List α) (s : σ), I s →
    (∀ s, I s → ∀ x ∈ xs, I (f s x) ∧ ∃ e1, set (φ x) (E s) = some e1 ∧ sa e1 w = some (.nx (E (f s x)) w)) → forL set sa (xs.map φ) (E s) w = some (.nx (E (xs.foldl f s)) w)
  | [], _, _, _ => rfl
  | x :: xs, s, hi, h => by
    obtain ⟨hi2, e1, h1, h2⟩ := h s hi x List.mem_cons_self
    have ih := forL_fold (set := set) (sa := sa) (w := w) φ E f I xs (f s x) hi2 fun s hs y hy => h s hs y (List.mem_cons_of_mem _ hy)
    rw [List.map_cons, forL_cons, h1, bnd_some, forK2_q, h2, bnd_some, forP_nx, ih]; rfl
/-- a for that only looks, and never leaves -/
theorem forL_look {α : Type} {set : ESet} {sa : SB} {w : Option Wd} (φ : α → D) (P : En → Prop) : ∀ (xs : List α) (env : En), P env →
    (∀ env, P env → ∀ x ∈ xs, ∃ e1 e2, set (φ x) env = some e1 ∧ sa e1 w = some (.nx e2 w) ∧ P e2) → ∃ env', forL set sa (xs.map φ) env w = some (.nx env' w) ∧ P env'
  | [], env, hp, _ => ⟨env, rfl, hp⟩
  | x :: xs, env, hp, h => by
    obtain ⟨e1, e2, h1, h2, h3⟩ := h env hp x List.mem_cons_self
    obtain ⟨e3, h4, h5⟩ := forL_look (set := set) (sa := sa) (w := w) φ P xs e2 h3 fun e he y hy => h e he y (List.mem_cons_of_mem _ hy)
    exact ⟨e3, by rw [List.map_cons, forL_cons, h1, bnd_some, forK2_q, h2, bnd_some, forP_nx, h4], h5⟩
theorem head_tm {β : Type} (f : List D → β) (φ : β → D) {l : List D} (h : 0 < l.length) : atI ((tm f l).map φ) 0 = some (φ (f l)) := by
  match l, h with
  | a :: r, _ => simp
theorem tm_atI {β : Type} (f : List D → β) (φ : β → D) (run : List D) (j : Nat) (h : j < run.length) : atI ((tm f run).map φ) (j : Int) = some (φ (f (run.drop j))) := by
  rw [atI_n, List.getElem?_map, tm_get f run j h]; rfl
theorem tm_drop {α β : Type} (f : List α → β) : ∀ (l : List α) (k : Nat), (tm f l).drop k = tm f (l.drop k)
  | [], k => by simp
  | a :: r, 0 => rfl
  | a :: r, k + 1 => by simp [tm_drop f r k]
theorem tm_range {α β : Type} (g : List α → β) : ∀ (l : List α) (run : List α) (lo : Nat), run.drop lo = l → (List.range' lo l.length).map (fun k => g (run.drop k)) = tm g l
  | [], run, lo, h => rfl
  | a :: r, run, lo, h => by
    have h2 : run.drop (lo + 1) = r := by
      have := congrArg List.tail h
      simpa using this
    have ih := tm_range g r run (lo + 1) h2
    rw [List.length_cons, List.range'_succ, List.map_cons, h, ih]
    rfl
theorem tm_range0 {α β : Type} (g : List α → β) (run : List α) : (List.range run.length).map (fun k => g (run.drop k)) = tm g run := by
  rw [List.range_eq_range']; exact tm_range g run run 0 rfl
theorem any_t (L : List Bool) : (L.map D.bl).any (fun z => eqF z (.bl true)) = L.any id := by
  induction L with
  | nil => rfl
  | cons b L ih => rw [List.map_cons, List.any_cons, List.any_cons, ih]; cases b <;> rfl
theorem any_f (L : List Bool) : (L.map D.bl).any (fun z => eqF z (.bl false)) = !L.all id := by
  induction L with
  | nil => rfl
  | cons b L ih => rw [List.map_cons, List.any_cons, List.all_cons, ih]; cases b <;> simp [eqF]
theorem all_flat (L : List Bool) : (L.map D.bl).all flatD = true := by simp
theorem dEqD_lnil {ds : List D} (h : fine 64 (.lst ds) = true) (neg : Bool) : dEqD neg (.lst ds) (.lst []) = some (.bl (if neg then !ds.isEmpty else ds.isEmpty), .fz) := by
  obtain ⟨p, h1, h2, h3⟩ := fine_py 64 _ h
  obtain ⟨q, g1, g2, g3⟩ := fine_py 64 (.lst []) rfl
  unfold dEqD
  have hs : SeqAt.shaped p = true := by unfold SeqAt.shaped; simp [h2, h3]
  have gs : SeqAt.shaped q = true := by unfold SeqAt.shaped; simp [g2, g3]
  rw [h1, g1]
  cases g1
  have : ∃ ps, p = .list ps ∧ PyData.eqvAll ps [] = ds.isEmpty := by
    cases ds with
    | nil => cases h1; exact ⟨_, rfl, by simp [PyData.eqvAll]⟩
    | cons d ds =>
      simp only [dPy, dPys] at h1
      cases e : dPy d with
      | none => simp [e] at h1
      | some a =>
        cases e2 : dPys ds with
        | none => simp [e, e2] at h1
        | some b => simp [e, e2] at h1; subst h1; exact ⟨_, rfl, by simp [PyData.eqvAll]⟩
  obtain ⟨ps, e, e2⟩ := this
  subst e
  simp [hs, gs, PyData.eqv, e2]
theorem dNe_lnil {ds : List D} (h : fine 64 (.lst ds) = true) : els2 (dEqF true) (dEqD true) (.lst ds) (.lst []) = some (.bl (!ds.isEmpty), .fz) := dEqD_lnil h true
theorem dEq_lnil {ds : List D} (h : fine 64 (.lst ds) = true) : els2 (dEqF false) (dEqD false) (.lst ds) (.lst []) = some (.bl ds.isEmpty, .fz) := dEqD_lnil h false
theorem fine_str {n : Nat} {x : Str} : fine n (.str x) = PyData.strOk x := by cases n <;> simp [fine]
theorem fine_int {n : Nat} {x : Int} : fine n (.int x) = true := by cases n <;> simp [fine]
theorem fine_non {n : Nat} : fine n .non = true := by cases n <;> simp [fine]
theorem fine_bl {n : Nat} {b : Bool} : fine n (.bl b) = true := by cases n <;> simp [fine]
theorem len1_lim {a : D} : [a].length ≤ lim := le_lim (by simp)
theorem len2_lim {a b : D} : [a, b].length ≤ lim := le_lim (by simp)
end Dl

set_option Elab.async false
set_option linter.all false
set_option maxRecDepth 100000
set_option maxHeartbeats 1000000
namespace Dl
open PySem PySem.Spec PyProof.Rows L2
@[simp] theorem dLtG_q {i j : Int} : dLtG (.int i) (.int j) = some (.bl (decide (i < j)), .fz) := dLtG_ii
@[simp] theorem dLeG_q {i j : Int} : dLeG (.int i) (.int j) = some (.bl (decide (i ≤ j)), .fz) := dLeG_ii
@[simp] theorem dGtG_q {i j : Int} : dGtG (.int i) (.int j) = some (.bl (decide (j < i)), .fz) := dGtG_ii
@[simp] theorem dGeG_q {i j : Int} : dGeG (.int i) (.int j) = some (.bl (decide (j ≤ i)), .fz) := dGeG_ii
/-! names -/
def bIsName : SB := (sSeq (sIf ((tOrr (tNo (tTru (eA dIsi (aCons (eVar 0) (aCons (eC (.ty "str")) aNil))))) (tOrr (tVal (eOp dEq (eVar 0) (eC (.str "")))) (tVal (eOp (dInG true) (eOp dIx (eVar 0) (eC (.int 0))) (eC (.str "abcdefghijklmnopqrstuvwxyz"))))))) (sRet (eC (.bl false))) (sNil)) (sRet (eA dAll (aCons (eLC [1] (setN 1) (iStrD (eVar 0)) tYesD ((eOr (eOp (dInG false) (eVar 1) (eC (.str "abcdefghijklmnopqrstuvwxyz"))) (eOp (dInG false) (eVar 1) (eC (.str "0123456789")))))) aNil))))
def fIsName : Fn := runFn 2 1 bIsName
def bLawIsName : SB := (sSeq (sIf ((tOrr (tNo (tTru (eA dIsi (aCons (eVar 0) (aCons (eC (.ty "str")) aNil))))) (tOrr (tVal (eOp dEq (eVar 0) (eC (.str "")))) (tNo ((tAn (tVal (eOp dLeG (eC (.str "a")) (eOp dIx (eVar 0) (eC (.int 0))))) (tVal (eOp dLeG (eOp dIx (eVar 0) (eC (.int 0))) (eC (.str "z")))))))))) (sRet (eC (.bl false))) (sNil)) (sRet (eOp dEq (eLC [1] (setN 1) (iStrD (eVar 0)) (tNo ((tOrr ((tAn (tVal (eOp dLeG (eC (.str "a")) (eVar 1))) (tVal (eOp dLeG (eVar 1) (eC (.str "z")))))) ((tAn (tVal (eOp dLeG (eC (.str "0")) (eVar 1))) (tVal (eOp dLeG (eVar 1) (eC (.str "9"))))))))) (eVar 1)) (eLst aNil))))
def fLawIsName : Fn := runFn 2 1 bLawIsName
def isLet (c : Nat) : Bool := decide (97 ≤ c) && decide (c ≤ 122)
def isDig (c : Nat) : Bool := decide (48 ≤ c) && decide (c ≤ 57)
def nmL : List Nat → Bool
  | [] => false
  | c :: r => isLet c && (c :: r).all fun c => isLet c || isDig c
def nmOk (x : Str) : Bool := nmL x.cps.toList
abbrev sgn (c : Nat) : D := .str ⟨#[c]⟩
theorem let_in (c : Nat) : decide (c ∈ (Str.ofString "abcdefghijklmnopqrstuvwxyz").cps.toList) = isLet c := by
  have e : (Str.ofString "abcdefghijklmnopqrstuvwxyz").cps.toList = (List.range' 97 26) := by decide +kernel
  rw [e, isLet, Bool.eq_iff_iff]
  simp only [List.mem_range'_1, decide_eq_true_eq, Bool.and_eq_true]
  omega
theorem dig_in (c : Nat) : decide (c ∈ (Str.ofString "0123456789").cps.toList) = isDig c := by
  have e : (Str.ofString "0123456789").cps.toList = (List.range' 48 10) := by decide +kernel
  rw [e, isDig, Bool.eq_iff_iff]
  simp only [List.mem_range'_1, decide_eq_true_eq, Bool.and_eq_true]
  omega
theorem inS_let (neg : Bool) (c : Nat) : els2 (dIn neg) (dInS neg) (sgn c) (.str "abcdefghijklmnopqrstuvwxyz") = some (.bl (if neg then !isLet c else isLet c), .fz) := by
  show some (D.bl (if neg then !decide (c ∈ (Str.ofString "abcdefghijklmnopqrstuvwxyz").cps.toList) else decide (c ∈ (Str.ofString "abcdefghijklmnopqrstuvwxyz").cps.toList)), O3.fz) = _
  rw [let_in]
theorem inS_dig (neg : Bool) (c : Nat) : els2 (dIn neg) (dInS neg) (sgn c) (.str "0123456789") = some (.bl (if neg then !isDig c else isDig c), .fz) := by
  show some (D.bl (if neg then !decide (c ∈ (Str.ofString "0123456789").cps.toList) else decide (c ∈ (Str.ofString "0123456789").cps.toList)), O3.fz) = _
  rw [dig_in]
theorem one_le (a c : Nat) : decide ([a] ≤ [c]) = decide (a ≤ c) := by
  rw [Bool.eq_iff_iff]; simp
  constructor
  · intro h
    by_cases hc : a ≤ c
    · exact hc
    · exact absurd (List.Lex.rel (show c < a by omega) : [c] < [a]) (by exact h)
  · intro h hl
    cases hl with
    | rel h2 => omega
    | cons h2 => cases h2
theorem sg_a : (Str.ofString "a").cps.toList = [97] := by decide +kernel
theorem sg_z : (Str.ofString "z").cps.toList = [122] := by decide +kernel
theorem sg_0 : (Str.ofString "0").cps.toList = [48] := by decide +kernel
theorem sg_9 : (Str.ofString "9").cps.toList = [57] := by decide +kernel
theorem leS_a (c : Nat) : dLeG (.str "a") (sgn c) = some (.bl (decide (97 ≤ c)), .fz) := by rw [dLeG_ss, sg_a, one_le]
theorem leS_z (c : Nat) : dLeG (sgn c) (.str "z") = some (.bl (decide (c ≤ 122)), .fz) := by rw [dLeG_ss, sg_z, one_le]
theorem leS_0 (c : Nat) : dLeG (.str "0") (sgn c) = some (.bl (decide (48 ≤ c)), .fz) := by rw [dLeG_ss, sg_0, one_le]
theorem leS_9 (c : Nat) : dLeG (sgn c) (.str "9") = some (.bl (decide (c ≤ 57)), .fz) := by rw [dLeG_ss, sg_9, one_le]
theorem isName_ok (x : Str) (h : x.length ≤ 1000) (w) : fIsName [.str x] w = some ((.bl (nmOk x), .fz), w) := by
  obtain ⟨⟨l⟩⟩ := x
  show _ = some ((D.bl (nmL l), O3.fz), w)
  have hl : l.length ≤ 1000 := h
  cases l with
  | nil => 
    have e : (⟨#[]⟩ : Str) = Str.ofString "" := by decide +kernel
    simp -implicitDefEqProofs [fIsName, bIsName, e, nmL]
  | cons c r =>
    have e : (⟨⟨c :: r⟩⟩ : Str) ≠ Str.ofString "" := fun e => by
      have : (Str.ofString "") = ⟨#[]⟩ := by decide +kernel
      rw [this] at e; cases e
    have h1 : (⟨⟨c :: r⟩⟩ : Str).length ≤ lim := le_lim (Nat.le_trans hl (by decide))
    have hs := fun w s0 s1 => lcL_all (set := setN 1) (fe := (eOr (eOp (dInG false) (eVar 1) (eC (.str "abcdefghijklmnopqrstuvwxyz"))) (eOp (dInG false) (eVar 1) (eC (.str "0123456789"))))) (env := [s0, s1]) (w := w) sgn (fun c => .bl (isLet c || isDig c)) (c :: r) fun x _ => ⟨_, rfl, by
      have a1 := inS_let false x
      have a2 := inS_dig false x
      simp -implicitDefEqProofs at a1 a2
      cases hx : isLet x <;> rw [hx] at a1 <;> simp -implicitDefEqProofs [a1, a2]⟩
    have hsg : Dl.signs ⟨⟨c :: r⟩⟩ = (c :: r).map sgn := rfl
    have hll : ((c :: r).map sgn).length ≤ lim := le_lim (by rw [List.length_map]; omega)
    have hd := dAll_q (ns := (c :: r).map fun c => isLet c || isDig c)
    have e3 : ((c :: r).map fun c => isLet c || isDig c).map D.bl = (c :: r).map fun c => D.bl (isLet c || isDig c) := by rw [List.map_map]; rfl
    rw [e3] at hd
    have a0 := inS_let true c
    have e4 : (((c :: r).map fun c => isLet c || isDig c).all id) = (c :: r).all fun c => isLet c || isDig c := by rw [List.all_map]; rfl
    rw [e4] at hd
    show _ = some ((D.bl (isLet c && (c :: r).all fun c => isLet c || isDig c), O3.fz), w)
    generalize hA : (c :: r).map sgn = A at hs hsg hll
    generalize hB : ((c :: r).map fun c => D.bl (isLet c || isDig c)) = B at hs hd
    generalize hC : ((c :: r).all fun c => isLet c || isDig c) = C at hd ⊢
    cases hx : isLet c <;> rw [hx] at a0 <;> simp -implicitDefEqProofs at a0 <;> simp -implicitDefEqProofs [fIsName, bIsName, e, h1, a0, hsg, hs, lcK_q hll, hd]
theorem lawIsName_ok (x : Str) (h : x.length ≤ 1000) (hf : PyData.strOk x = true) (w) : fLawIsName [.str x] w = some ((.bl (nmOk x), .fz), w) := by
  obtain ⟨⟨l⟩⟩ := x
  show _ = some ((D.bl (nmL l), O3.fz), w)
  have hl : l.length ≤ 1000 := h
  have hf' : ∀ c ∈ l, c < 0x110000 := by
    intro c hc
    have : (l.toArray.all (· < 0x110000)) = true := hf
    rw [List.all_toArray, List.all_eq_true] at this
    simpa using this c hc
  cases l with
  | nil => 
    have e : (⟨#[]⟩ : Str) = Str.ofString "" := by decide +kernel
    simp -implicitDefEqProofs [fLawIsName, bLawIsName, e, nmL]
  | cons c r =>
    have e : (⟨⟨c :: r⟩⟩ : Str) ≠ Str.ofString "" := fun e => by
      have : (Str.ofString "") = ⟨#[]⟩ := by decide +kernel
      rw [this] at e; cases e
    have h1 : (⟨⟨c :: r⟩⟩ : Str).length ≤ lim := le_lim (Nat.le_trans hl (by decide))
    have tst : ∀ (x : Nat) (s0 : Option (D × Bool)) (w : Option Wd), (tNo ((tOrr ((tAn (tVal (eOp dLeG (eC (.str "a")) (eVar 1))) (tVal (eOp dLeG (eVar 1) (eC (.str "z")))))) ((tAn (tVal (eOp dLeG (eC (.str "0")) (eVar 1))) (tVal (eOp dLeG (eVar 1) (eC (.str "9"))))))))) [s0, some (sgn x, false)] w = some (!(isLet x || isDig x), w) := by
      intro x s0 w
      have b1 := leS_a x
      have b2 := leS_z x
      have b3 := leS_0 x
      have b4 := leS_9 x
      unfold isLet isDig
      by_cases g1 : 97 ≤ x <;> by_cases g2 : x ≤ 122 <;> by_cases g3 : 48 ≤ x <;> by_cases g4 : x ≤ 57 <;> simp only [g1, g2, g3, g4, decide_true, decide_false] at b1 b2 b3 b4 <;> simp -implicitDefEqProofs [b1, b2, b3, b4, g1, g2, g3, g4]
    have hs := fun w s0 s1 => lcL_gen (set := setN 1) (t := (tNo ((tOrr ((tAn (tVal (eOp dLeG (eC (.str "a")) (eVar 1))) (tVal (eOp dLeG (eVar 1) (eC (.str "z")))))) ((tAn (tVal (eOp dLeG (eC (.str "0")) (eVar 1))) (tVal (eOp dLeG (eVar 1) (eC (.str "9")))))))))) (fe := eVar 1) (env := [s0, s1]) (w := w) sgn (fun c => !(isLet c || isDig c)) sgn (c :: r) fun x _ => ⟨_, rfl, tst x s0 w, fun _ => by simp⟩
    have hsg : Dl.signs ⟨⟨c :: r⟩⟩ = (c :: r).map sgn := rfl
    have hll : ((c :: r).map sgn).length ≤ lim := le_lim (by rw [List.length_map]; omega)
    have hfi : fine 64 (.lst (((c :: r).filter fun c => !(isLet c || isDig c)).map sgn)) = true := by
      show fine (63 + 1) _ = true
      rw [fine_lst]
      intro d hd
      obtain ⟨y, hy, rfl⟩ := List.mem_map.mp hd
      rw [fine_str]
      have := hf' y (List.mem_filter.mp hy).1
      show ((#[y] : Array Nat).all (· < 0x110000)) = true
      simpa using this
    have hq := dEq_lnil hfi
    have e4 : (((c :: r).filter fun c => !(isLet c || isDig c)).map sgn).isEmpty = (c :: r).all fun c => isLet c || isDig c := by
      rw [List.isEmpty_map]
      generalize c :: r = l
      induction l with
      | nil => rfl
      | cons y l ih =>
        rw [List.all_cons, ← ih, List.filter_cons]
        cases (isLet y || isDig y) <;> rfl
    rw [e4] at hq
    have b1 := leS_a c
    have b2 := leS_z c
    show _ = some ((D.bl (isLet c && (c :: r).all fun c => isLet c || isDig c), O3.fz), w)
    generalize hA : (c :: r).map sgn = A at hs hsg hll
    generalize hB : (((c :: r).filter fun c => !(isLet c || isDig c)).map sgn) = B at hs hq
    generalize hC : ((c :: r).all fun c => isLet c || isDig c) = C at hq ⊢
    have hx : isLet c = (decide (97 ≤ c) && decide (c ≤ 122)) := rfl
    rw [hx]
    clear hx
    by_cases g1 : 97 ≤ c <;> by_cases g2 : c ≤ 122 <;> simp only [g1, g2, decide_true, decide_false] at b1 b2 <;> simp -implicitDefEqProofs [fLawIsName, bLawIsName, e, h1, b1, b2, g1, g2, hsg, hs, lcK_q hll, hq]
end Dl

set_option Elab.async false
set_option linter.all false
set_option maxRecDepth 100000
set_option maxHeartbeats 4000000
namespace Kk44
open PySem PySem.Spec PyProof.Rows L2 Dl
/-! ### the defs as forms -/
def b__law_draws : SB := (sSeq (sSet 2 (eLst aNil)) (sSeq (sSet 3 (eC (.int 7))) (sSeq (sFor (setN 4) (iRange (aCons (eA dLen (aCons (eVar 0) aNil)) aNil)) (sSeq (sSet 5 (eA dAbs (aCons (eA dInt (aCons (eOp dIx (eVar 0) (eVar 4)) aNil)) aNil))) (sSeq (sSet 3 (eOp dMod (eA dInt (aCons (eOp dAdd (eOp dAdd (eOp dMul (eVar 3) (eC (.int 48271))) (eOp dMod (eVar 5) (eC (.int 1000003)))) (eVar 4)) aNil)) (eC (.int 65537)))) (sSeq (sSet 6 (eC (.int 0))) (sSeq (sIf (tVal (eOp dGe (eVar 5) (eOp dPow (eC (.int 10)) (eC (.int 18))))) (sSet 6 (eVar 5)) (sSeq (sApp 2 (eOp dMod (eA dInt (aCons (eVar 5) aNil)) (eC (.int 997)))) (sApp 2 (eOp dMod (eOp dMod (eA dInt (aCons (eOp dAdd (eOp dMul (eVar 3) (eC (.int 69621))) (eC (.int 5))) aNil)) (eC (.int 65521))) (eC (.int 997)))))) (sFor (setN 7) (iRange (aCons (eC (.int 60)) aNil)) (sIf (tVal (eOp dGt (eVar 6) (eC (.int 0)))) (sSeq (sApp 2 (eOp dMod (eA dInt (aCons (eVar 6) aNil)) (eC (.int 997)))) (sSet 6 (eOp dFdiv (eVar 6) (eC (.int 997))))) (sNil)))))))) (sSeq (sFor (setN 4) (iRange (aCons (eVar 1) aNil)) (sSeq (sSet 3 (eOp dMod (eA dInt (aCons (eOp dAdd (eOp dAdd (eOp dMul (eVar 3) (eC (.int 16807))) (eVar 4)) (eC (.int 1))) aNil)) (eC (.int 65537)))) (sApp 2 (eOp dMod (eA dInt (aCons (eVar 3) aNil)) (eC (.int 997)))))) (sRet (eSl dSl (eVar 2) oNone (oSome (eVar 1))))))))
def f__law_draws : Fn := runFn 8 2 (b__law_draws)
def b__law_is_name : SB := (sSeq (sIf ((tOrr (tNo (tTru (eA dIsi (aCons (eVar 0) (aCons (eC (.ty "str")) aNil))))) (tOrr (tVal (eOp dEq (eVar 0) (eC (.str "")))) (tNo ((tAn (tVal (eOp dLeG (eC (.str "a")) (eOp dIx (eVar 0) (eC (.int 0))))) (tVal (eOp dLeG (eOp dIx (eVar 0) (eC (.int 0))) (eC (.str "z")))))))))) (sRet (eC (.bl false))) (sNil)) (sRet (eOp dEq (eLC [1] (setN 1) (iStrD (eVar 0)) (tNo ((tOrr ((tAn (tVal (eOp dLeG (eC (.str "a")) (eVar 1))) (tVal (eOp dLeG (eVar 1) (eC (.str "z")))))) ((tAn (tVal (eOp dLeG (eC (.str "0")) (eVar 1))) (tVal (eOp dLeG (eVar 1) (eC (.str "9"))))))))) (eVar 1)) (eLst aNil))))
def f__law_is_name : Fn := runFn 2 1 (b__law_is_name)
def b__law_is_number : SB := (sRet ((eAnd (eA dIsi (aCons (eVar 0) (aCons (eC (.ty "int")) aNil))) (eNot (eA dIsi (aCons (eVar 0) (aCons (eC (.ty "bool")) aNil)))))))
def f__law_is_number : Fn := runFn 1 1 (b__law_is_number)
def b__law_is_expr (f__law_is_expr : Fn) (f__law_is_name : Fn) (f__law_is_number : Fn) : SB := (sSeq (sIf (tTru (eCall f__law_is_number (aCons (eFz (eVar 0)) aNil))) (sRet (eC (.bl true))) (sNil)) (sSeq (sIf ((tOrr (tNo (tTru (eA dIsi (aCons (eVar 0) (aCons (eC (.ty "tuple")) aNil))))) (tOrr (tVal (eOp dEq (eVar 0) (eTup aNil))) (tNo (tTru (eA dIsi (aCons (eOp dIx (eVar 0) (eC (.int 0))) (aCons (eC (.ty "str")) aNil)))))))) (sRet (eC (.bl false))) (sNil)) (sSeq (sIf (tVal (eOp dEq (eOp dIx (eVar 0) (eC (.int 0))) (eC (.str "var")))) (sRet ((eAnd (eOp dEq (eA dLen (aCons (eVar 0) aNil)) (eC (.int 2))) (eCall f__law_is_name (aCons (eFz (eOp dIx (eVar 0) (eC (.int 1)))) aNil))))) (sNil)) (sSeq (sSet 1 (eIf (tVal (eOp (dInG false) (eOp dIx (eVar 0) (eC (.int 0))) (eTup (aCons (eFz (eC (.str "cell"))) (aCons (eFz (eC (.str "not"))) aNil))))) (eC (.int 2)) (eIf (tVal (eOp (dInG false) (eOp dIx (eVar 0) (eC (.int 0))) (eTup (aCons (eFz (eC (.str "add"))) (aCons (eFz (eC (.str "sub"))) (aCons (eFz (eC (.str "mul"))) (aCons (eFz (eC (.str "less"))) (aCons (eFz (eC (.str "same"))) aNil)))))))) (eC (.int 3)) (eC (.int 0))))) (sRet ((eAnd (eOp dEq (eA dLen (aCons (eVar 0) aNil)) (eVar 1)) (eOp dEq (eLC [2] (setN 2) (iSeq (eSl dSl (eVar 0) (oSome (eC (.int 1))) oNone)) (tNo (tTru (eCall f__law_is_expr (aCons (eFz (eVar 2)) aNil)))) (eVar 2)) (eLst aNil)))))))))
def f__law_is_expr : Nat → Fn
  | 0 => fun _ _ => none
  | k + 1 => runFn 3 1 (b__law_is_expr (f__law_is_expr k) f__law_is_name f__law_is_number)
def b__law_is_check (f__law_is_check : Fn) (f__law_is_expr : Fn) : SB := (sSeq (sIf ((tOrr (tNo (tTru (eA dIsi (aCons (eVar 0) (aCons (eC (.ty "tuple")) aNil))))) (tOrr (tVal (eOp dEq (eVar 0) (eTup aNil))) (tNo (tTru (eA dIsi (aCons (eOp dIx (eVar 0) (eC (.int 0))) (aCons (eC (.ty "str")) aNil)))))))) (sRet (eC (.bl false))) (sNil)) (sSeq (sIf (tVal (eOp dEq (eOp dIx (eVar 0) (eC (.int 0))) (eC (.str "at")))) (sRet ((eAnd (eOp dEq (eA dLen (aCons (eVar 0) aNil)) (eC (.int 2))) (eCall f__law_is_expr (aCons (eFz (eOp dIx (eVar 0) (eC (.int 1)))) aNil))))) (sNil)) (sSeq (sSet 1 (eIf (tVal (eOp (dInG false) (eOp dIx (eVar 0) (eC (.int 0))) (eTup (aCons (eFz (eC (.str "not"))) (aCons (eFz (eC (.str "next"))) aNil))))) (eC (.int 2)) (eIf (tVal (eOp (dInG false) (eOp dIx (eVar 0) (eC (.int 0))) (eTup (aCons (eFz (eC (.str "and"))) (aCons (eFz (eC (.str "until"))) aNil))))) (eC (.int 3)) (eC (.int 0))))) (sRet ((eAnd (eOp dEq (eA dLen (aCons (eVar 0) aNil)) (eVar 1)) (eOp dEq (eLC [2] (setN 2) (iSeq (eSl dSl (eVar 0) (oSome (eC (.int 1))) oNone)) (tNo (tTru (eCall f__law_is_check (aCons (eFz (eVar 2)) aNil)))) (eVar 2)) (eLst aNil))))))))
def f__law_is_check : Nat → Fn
  | 0 => fun _ _ => none
  | k + 1 => runFn 3 1 (b__law_is_check (f__law_is_check k) (f__law_is_expr 40))
def b_is_tuple_of : SB := (sRet ((eAnd (eA dIsi (aCons (eVar 0) (aCons (eC (.ty "tuple")) aNil))) (eOp dEq (eA dLen (aCons (eVar 0) aNil)) (eVar 1)))))
def f_is_tuple_of : Fn := runFn 2 2 (b_is_tuple_of)
def b_is_name : SB := (sSeq (sIf ((tOrr (tNo (tTru (eA dIsi (aCons (eVar 0) (aCons (eC (.ty "str")) aNil))))) (tOrr (tVal (eOp dEq (eVar 0) (eC (.str "")))) (tVal (eOp (dInG true) (eOp dIx (eVar 0) (eC (.int 0))) (eC (.str "abcdefghijklmnopqrstuvwxyz"))))))) (sRet (eC (.bl false))) (sNil)) (sRet (eA dAll (aCons (eLC [1] (setN 1) (iStrD (eVar 0)) tYesD ((eOr (eOp (dInG false) (eVar 1) (eC (.str "abcdefghijklmnopqrstuvwxyz"))) (eOp (dInG false) (eVar 1) (eC (.str "0123456789")))))) aNil))))
def f_is_name : Fn := runFn 2 1 (b_is_name)
def b_is_number : SB := (sRet ((eAnd (eA dIsi (aCons (eVar 0) (aCons (eC (.ty "int")) aNil))) (eNot (eA dIsi (aCons (eVar 0) (aCons (eC (.ty "bool")) aNil)))))))
def f_is_number : Fn := runFn 1 1 (b_is_number)
def b_is_expr (f_is_expr : Fn) (f_is_tuple_of : Fn) (f_is_name : Fn) (f_is_number : Fn) : SB := (sSeq (sIf (tTru (eCall f_is_number (aCons (eFz (eVar 0)) aNil))) (sRet (eC (.bl true))) (sNil)) (sSeq (sIf ((tOrr (tNo (tTru (eA dIsi (aCons (eVar 0) (aCons (eC (.ty "tuple")) aNil))))) (tOrr (tVal (eOp dEq (eVar 0) (eTup aNil))) (tNo (tTru (eA dIsi (aCons (eOp dIx (eVar 0) (eC (.int 0))) (aCons (eC (.ty "str")) aNil)))))))) (sRet (eC (.bl false))) (sNil)) (sSeq (sIf (tVal (eOp dEq (eOp dIx (eVar 0) (eC (.int 0))) (eC (.str "var")))) (sRet ((eAnd (eCall f_is_tuple_of (aCons (eFz (eVar 0)) (aCons (eFz (eC (.int 2))) aNil))) (eCall f_is_name (aCons (eFz (eOp dIx (eVar 0) (eC (.int 1)))) aNil))))) (sNil)) (sSeq (sIf (tVal (eOp (dInG false) (eOp dIx (eVar 0) (eC (.int 0))) (eTup (aCons (eFz (eC (.str "cell"))) (aCons (eFz (eC (.str "not"))) aNil))))) (sRet ((eAnd (eCall f_is_tuple_of (aCons (eFz (eVar 0)) (aCons (eFz (eC (.int 2))) aNil))) (eCall f_is_expr (aCons (eFz (eOp dIx (eVar 0) (eC (.int 1)))) aNil))))) (sNil)) (sRet ((eAnd (eUn (dInK false [.str "add", .str "sub", .str "mul", .str "less", .str "same"]) (eOp dIx (eVar 0) (eC (.int 0)))) (eAnd (eCall f_is_tuple_of (aCons (eFz (eVar 0)) (aCons (eFz (eC (.int 3))) aNil))) (eAnd (eCall f_is_expr (aCons (eFz (eOp dIx (eVar 0) (eC (.int 1)))) aNil)) (eCall f_is_expr (aCons (eFz (eOp dIx (eVar 0) (eC (.int 2)))) aNil)))))))))))
def f_is_expr : Nat → Fn
  | 0 => fun _ _ => none
  | k + 1 => runFn 1 1 (b_is_expr (f_is_expr k) f_is_tuple_of f_is_name f_is_number)
def b_is_check (f_is_check : Fn) (f_is_tuple_of : Fn) (f_is_expr : Fn) : SB := (sSeq (sIf ((tOrr (tNo (tTru (eA dIsi (aCons (eVar 0) (aCons (eC (.ty "tuple")) aNil))))) (tOrr (tVal (eOp dEq (eVar 0) (eTup aNil))) (tNo (tTru (eA dIsi (aCons (eOp dIx (eVar 0) (eC (.int 0))) (aCons (eC (.ty "str")) aNil)))))))) (sRet (eC (.bl false))) (sNil)) (sSeq (sIf (tVal (eOp dEq (eOp dIx (eVar 0) (eC (.int 0))) (eC (.str "at")))) (sRet ((eAnd (eCall f_is_tuple_of (aCons (eFz (eVar 0)) (aCons (eFz (eC (.int 2))) aNil))) (eCall f_is_expr (aCons (eFz (eOp dIx (eVar 0) (eC (.int 1)))) aNil))))) (sNil)) (sSeq (sIf (tVal (eOp (dInG false) (eOp dIx (eVar 0) (eC (.int 0))) (eTup (aCons (eFz (eC (.str "not"))) (aCons (eFz (eC (.str "next"))) aNil))))) (sRet ((eAnd (eCall f_is_tuple_of (aCons (eFz (eVar 0)) (aCons (eFz (eC (.int 2))) aNil))) (eCall f_is_check (aCons (eFz (eOp dIx (eVar 0) (eC (.int 1)))) aNil))))) (sNil)) (sRet ((eAnd (eOp (dInG false) (eOp dIx (eVar 0) (eC (.int 0))) (eTup (aCons (eFz (eC (.str "and"))) (aCons (eFz (eC (.str "until"))) aNil)))) (eAnd (eCall f_is_tuple_of (aCons (eFz (eVar 0)) (aCons (eFz (eC (.int 3))) aNil))) (eAnd (eCall f_is_check (aCons (eFz (eOp dIx (eVar 0) (eC (.int 1)))) aNil)) (eCall f_is_check (aCons (eFz (eOp dIx (eVar 0) (eC (.int 2)))) aNil))))))))))
def f_is_check : Nat → Fn
  | 0 => fun _ _ => none
  | k + 1 => runFn 1 1 (b_is_check (f_is_check k) f_is_tuple_of (f_is_expr 40))
def b__law_is_bit : SB := (sRet ((eOr ((eAnd (eVar 1) (eOp (dIs false) (eVar 0) (eC (.bl true))))) ((eAnd (eNot (eVar 1)) (eOp (dIs false) (eVar 0) (eC (.bl false))))))))
def f__law_is_bit : Fn := runFn 2 2 (b__law_is_bit)
def b__law_next : SB := (sSeq (sTick 0) (sSeq (sIf (tVal (eOp dGt (eWget 0 true) (eA dLen (aCons (eWget 0 false) aNil)))) (sRet (eC (.int 0))) (sNil)) (sRet (eOp dMod (eA dInt (aCons (eOp dIx (eWget 0 false) (eOp dSub (eWget 0 true) (eC (.int 1)))) aNil)) (eVar 1)))))
def f__law_next : Fn := runFn 2 2 (b__law_next)
def b_once : SB := (sRet (eTup (aCons (eFz (eC (.str "until"))) (aCons (eFz (eTup (aCons (eFz (eC (.str "at"))) (aCons (eFz (eC (.int 1))) aNil)))) (aCons (eFz (eVar 0)) aNil)))))
def f_once : Fn := runFn 1 1 (b_once)
def b_either : SB := (sRet (eTup (aCons (eFz (eC (.str "not"))) (aCons (eFz (eTup (aCons (eFz (eC (.str "and"))) (aCons (eFz (eTup (aCons (eFz (eC (.str "not"))) (aCons (eFz (eVar 0)) aNil)))) (aCons (eFz (eTup (aCons (eFz (eC (.str "not"))) (aCons (eFz (eVar 1)) aNil)))) aNil))))) aNil))))
def f_either : Fn := runFn 2 2 (b_either)
def b_always : SB := (sRet (eTup (aCons (eFz (eC (.str "not"))) (aCons (eFz (eTup (aCons (eFz (eC (.str "until"))) (aCons (eFz (eTup (aCons (eFz (eC (.str "at"))) (aCons (eFz (eC (.int 1))) aNil)))) (aCons (eFz (eTup (aCons (eFz (eC (.str "not"))) (aCons (eFz (eVar 0)) aNil)))) aNil))))) aNil))))
def f_always : Fn := runFn 1 1 (b_always)
def b_leads_to (f_once : Fn) (f_either : Fn) (f_always : Fn) : SB := (sRet (eCall f_always (aCons (eFz (eCall f_either (aCons (eFz (eTup (aCons (eFz (eC (.str "not"))) (aCons (eFz (eVar 0)) aNil)))) (aCons (eFz (eCall f_once (aCons (eFz (eVar 1)) aNil))) aNil)))) aNil)))
def f_leads_to : Fn := runFn 2 2 (b_leads_to f_once f_either f_always)
def b_worth (f_worth : Fn) (f_is_number : Fn) : SB := (sSeq (sIf (tTru (eCall f_is_number (aCons (eFz (eVar 0)) aNil))) (sRet (eVar 0)) (sNil)) (sSeq (sSet 3 (eOp dIx (eVar 0) (eC (.int 0)))) (sSeq (sIf (tVal (eOp dEq (eVar 3) (eC (.str "var")))) (sRet (eGet2 (eVar 1) (eOp dIx (eVar 0) (eC (.int 1))) (eC (.int 0)))) (sNil)) (sSeq (sIf (tVal (eOp dEq (eVar 3) (eC (.str "cell")))) (sRet (eGet2 (eVar 2) (eCall f_worth (aCons (eFz (eOp dIx (eVar 0) (eC (.int 1)))) (aCons (eFz (eVar 1)) (aCons (eFz (eVar 2)) aNil)))) (eC (.int 0)))) (sNil)) (sSeq (sIf (tVal (eOp dEq (eVar 3) (eC (.str "not")))) (sRet (eA dInt (aCons (eOp dEq (eCall f_worth (aCons (eFz (eOp dIx (eVar 0) (eC (.int 1)))) (aCons (eFz (eVar 1)) (aCons (eFz (eVar 2)) aNil)))) (eC (.int 0))) aNil))) (sNil)) (sSeq (sPar 4 5 (aCons (eCall f_worth (aCons (eFz (eOp dIx (eVar 0) (eC (.int 1)))) (aCons (eFz (eVar 1)) (aCons (eFz (eVar 2)) aNil)))) (aCons (eCall f_worth (aCons (eFz (eOp dIx (eVar 0) (eC (.int 2)))) (aCons (eFz (eVar 1)) (aCons (eFz (eVar 2)) aNil)))) aNil))) (sSeq (sIf (tVal (eOp dEq (eVar 3) (eC (.str "add")))) (sRet (eOp dAdd (eVar 4) (eVar 5))) (sNil)) (sSeq (sIf (tVal (eOp dEq (eVar 3) (eC (.str "sub")))) (sRet (eOp dSub (eVar 4) (eVar 5))) (sNil)) (sSeq (sIf (tVal (eOp dEq (eVar 3) (eC (.str "mul")))) (sRet (eOp dMul (eVar 4) (eVar 5))) (sNil)) (sRet (eIf (tVal (eOp dEq (eVar 3) (eC (.str "less")))) (eA dInt (aCons (eOp dLt (eVar 4) (eVar 5)) aNil)) (eA dInt (aCons (eOp dEq (eVar 4) (eVar 5)) aNil)))))))))))))
def f_worth : Nat → Fn
  | 0 => fun _ _ => none
  | k + 1 => runFn 6 3 (b_worth (f_worth k) f_is_number)
def b_cells_of : SB := (sRet (eA dDict (aCons (eOp dIx (eVar 0) (eC (.int 1))) aNil)))
def f_cells_of : Fn := runFn 1 1 (b_cells_of)
def b_is_over : SB := (sRet (eOp dEq (eOp dIx (eVar 0) (eC (.int 0))) (eTup aNil)))
def f_is_over : Fn := runFn 1 1 (b_is_over)
def b_facts (f_cells_of : Fn) (f_is_over : Fn) : SB := (sRet (eTup (aCons (eFz (eIf (tNo (tTru (eCall f_is_over (aCons (eFz (eVar 0)) aNil)))) (eA dDict (aCons (eOp dIx (eOp dIx (eOp dIx (eVar 0) (eC (.int 0))) (eUn dNeg (eC (.int 1)))) (eC (.int 2))) aNil)) (eDk0))) (aCons (eFz (eCall f_cells_of (aCons (eFz (eVar 0)) aNil))) aNil))))
def f_facts : Fn := runFn 1 1 (b_facts f_cells_of f_is_over)
def b_holds_along (f_holds_along : Fn) (f_worth : Fn) (f_facts : Fn) : SB := (sSeq (sIf (tVal (eOp dEq (eOp dIx (eVar 1) (eC (.int 0))) (eC (.str "at")))) (sSeq (sSet 2 (eLst aNil)) (sSeq (sFor (setN 3) (iSeq (eFz (eVar 0))) (sSeq (sUnp (setT [4, 5]) (eCall f_facts (aCons (eFz (eVar 3)) aNil))) (sApp 2 (eOp dNe (eCall f_worth (aCons (eFz (eOp dIx (eVar 1) (eC (.int 1)))) (aCons (eFz (eVar 4)) (aCons (eFz (eVar 5)) aNil)))) (eC (.int 0)))))) (sRet (eVar 2)))) (sNil)) (sSeq (sSet 6 (eCall f_holds_along (aCons (eFz (eVar 0)) (aCons (eFz (eOp dIx (eVar 1) (eC (.int 1)))) aNil)))) (sSeq (sIf (tVal (eOp dEq (eOp dIx (eVar 1) (eC (.int 0))) (eC (.str "not")))) (sRet (eLC [7] (setN 7) (iSeq (eVar 6)) tYesD (eNot (eVar 7)))) (sNil)) (sSeq (sIf (tVal (eOp dEq (eOp dIx (eVar 1) (eC (.int 0))) (eC (.str "next")))) (sRet (eOp dAdd (eSl dSl (eVar 6) (oSome (eC (.int 1))) oNone) (eLst (aCons (eFz (eC (.bl false))) aNil)))) (sNil)) (sSeq (sSet 8 (eCall f_holds_along (aCons (eFz (eVar 0)) (aCons (eFz (eOp dIx (eVar 1) (eC (.int 2)))) aNil)))) (sSeq (sIf (tVal (eOp dEq (eOp dIx (eVar 1) (eC (.int 0))) (eC (.str "and")))) (sRet (eLC [7, 9] (setT [7, 9]) (iZipD (aCons (eVar 6) (aCons (eVar 8) aNil))) tYesD ((eAnd (eVar 7) (eVar 9))))) (sNil)) (sSeq (sPar 2 10 (aCons (eLst aNil) (aCons (eC (.bl false)) aNil))) (sSeq (sFor (setN 11) (iRange (aCons (eOp dSub (eA dLen (aCons (eVar 0) aNil)) (eC (.int 1))) (aCons (eUn dNeg (eC (.int 1))) (aCons (eUn dNeg (eC (.int 1))) aNil)))) (sSeq (sSet 10 ((eOr (eOp dIx (eVar 8) (eVar 11)) ((eAnd (eOp dIx (eVar 6) (eVar 11)) (eVar 10)))))) (sIns0 2 (eVar 10)))) (sRet (eVar 2))))))))))
def f_holds_along : Nat → Fn
  | 0 => fun _ _ => none
  | k + 1 => runFn 12 2 (b_holds_along (f_holds_along k) (f_worth 40) f_facts)
def b_check_size (f_check_size : Fn) : SB := (sSeq (sIf (tVal (eOp dEq (eOp dIx (eVar 0) (eC (.int 0))) (eC (.str "at")))) (sRet (eC (.int 1))) (sNil)) (sRet (eOp dAdd (eC (.int 1)) (eA dSum (aCons (eLC [1] (setN 1) (iSeq (eSl dSl (eVar 0) (oSome (eC (.int 1))) oNone)) tYesD (eCall f_check_size (aCons (eFz (eVar 1)) aNil))) aNil)))))
def f_check_size : Nat → Fn
  | 0 => fun _ _ => none
  | k + 1 => runFn 2 1 (b_check_size (f_check_size k))
def b__law_size (f__law_size : Fn) : SB := (sRet (eIf (tVal (eOp dEq (eOp dIx (eVar 0) (eC (.int 0))) (eC (.str "at")))) (eC (.int 1)) (eOp dAdd (eC (.int 1)) (eA dSum (aCons (eLC [1] (setN 1) (iSeq (eSl dSl (eVar 0) (oSome (eC (.int 1))) oNone)) tYesD (eCall f__law_size (aCons (eFz (eVar 1)) aNil))) aNil)))))
def f__law_size : Nat → Fn
  | 0 => fun _ _ => none
  | k + 1 => runFn 2 1 (b__law_size (f__law_size k))
def b_last_true (f_holds_along : Fn) : SB := (sSeq (sSet 2 (eLC [3, 4] (setT [3, 4]) (iEnumD (aCons (eCall f_holds_along (aCons (eFz (eVar 0)) (aCons (eFz (eVar 1)) aNil))) aNil)) (tTru (eVar 4)) (eVar 3))) (sRet (eIf (tVal (eOp dNe (eVar 2) (eLst aNil))) (eOp dIx (eVar 2) (eUn dNeg (eC (.int 1)))) (eC .non))))
def f_last_true : Fn := runFn 5 2 (b_last_true (f_holds_along 40))
def b_first_false (f_holds_along : Fn) : SB := (sSeq (sSet 2 (eCall f_holds_along (aCons (eFz (eVar 0)) (aCons (eFz (eVar 1)) aNil)))) (sRet (eIf (tVal (eOp (dInG false) (eC (.bl false)) (eVar 2))) (eOp dIdx (eVar 2) (eC (.bl false))) (eC .non))))
def f_first_false : Fn := runFn 3 2 (b_first_false (f_holds_along 40))
def b_check_holds (f_holds_along : Fn) : SB := (sRet (eOp dIx (eCall f_holds_along (aCons (eFz (eVar 0)) (aCons (eFz (eVar 1)) aNil))) (eC (.int 0))))
def f_check_holds : Fn := runFn 2 2 (b_check_holds (f_holds_along 40))
def b__law_worth (f__law_worth : Fn) : SB := (sSeq (sIf (tTru (eA dIsi (aCons (eVar 0) (aCons (eC (.ty "int")) aNil)))) (sRet (eVar 0)) (sNil)) (sSeq (sIf (tVal (eOp dEq (eOp dIx (eVar 0) (eC (.int 0))) (eC (.str "var")))) (sRet (eGet2 (eVar 1) (eOp dIx (eVar 0) (eC (.int 1))) (eC (.int 0)))) (sNil)) (sSeq (sSet 3 (eLC [4] (setN 4) (iSeq (eSl dSl (eVar 0) (oSome (eC (.int 1))) oNone)) tYesD (eCall f__law_worth (aCons (eFz (eVar 4)) (aCons (eFz (eVar 1)) (aCons (eFz (eVar 2)) aNil)))))) (sSeq (sIf (tVal (eOp dEq (eOp dIx (eVar 0) (eC (.int 0))) (eC (.str "cell")))) (sRet (eGet2 (eVar 2) (eOp dIx (eVar 3) (eC (.int 0))) (eC (.int 0)))) (sNil)) (sSeq (sIf (tVal (eOp dEq (eOp dIx (eVar 0) (eC (.int 0))) (eC (.str "not")))) (sRet (eIf (tVal (eOp dEq (eOp dIx (eVar 3) (eC (.int 0))) (eC (.int 0)))) (eC (.int 1)) (eC (.int 0)))) (sNil)) (sSeq (sIf (tVal (eOp dEq (eOp dIx (eVar 0) (eC (.int 0))) (eC (.str "sub")))) (sRet (eOp dSub (eOp dIx (eVar 3) (eC (.int 0))) (eOp dIx (eVar 3) (eC (.int 1))))) (sNil)) (sRet (eIf ((tOrr ((tAn (tVal (eOp dLt (eOp dIx (eVar 3) (eC (.int 0))) (eOp dIx (eVar 3) (eC (.int 1))))) (tVal (eOp dEq (eOp dIx (eVar 0) (eC (.int 0))) (eC (.str "less")))))) ((tAn (tVal (eOp dEq (eOp dIx (eVar 3) (eC (.int 0))) (eOp dIx (eVar 3) (eC (.int 1))))) (tVal (eOp dEq (eOp dIx (eVar 0) (eC (.int 0))) (eC (.str "same")))))))) (eC (.int 1)) (eC (.int 0))))))))))
def f__law_worth : Nat → Fn
  | 0 => fun _ _ => none
  | k + 1 => runFn 5 3 (b__law_worth (f__law_worth k))
def b__law_at (f__law_worth : Fn) : SB := (sSeq (sSet 2 (eIf (tVal (eOp dNe (eOp dIx (eVar 0) (eC (.int 0))) (eTup aNil))) (eA dDict (aCons (eOp dIx (eOp dIx (eOp dIx (eVar 0) (eC (.int 0))) (eUn dNeg (eC (.int 1)))) (eC (.int 2))) aNil)) (eDk0))) (sFrz [2] (sRet (eOp dNe (eCall f__law_worth (aCons (eFz (eVar 1)) (aCons (eFz (eVar 2)) (aCons (eFz (eA dDict (aCons (eOp dIx (eVar 0) (eC (.int 1))) aNil))) aNil)))) (eC (.int 0))))))
def f__law_at : Fn := runFn 3 2 (b__law_at (f__law_worth 40))
def b__law_holds (f__law_holds : Fn) (f__law_at : Fn) : SB := (sSeq (sIf (tVal (eOp dEq (eOp dIx (eVar 2) (eC (.int 0))) (eC (.str "at")))) (sRet (eCall f__law_at (aCons (eFz (eOp dIx (eVar 0) (eVar 1))) (aCons (eFz (eOp dIx (eVar 2) (eC (.int 1)))) aNil)))) (sNil)) (sSeq (sIf (tVal (eOp dEq (eOp dIx (eVar 2) (eC (.int 0))) (eC (.str "not")))) (sRet (eNot (eCall f__law_holds (aCons (eFz (eVar 0)) (aCons (eFz (eVar 1)) (aCons (eFz (eOp dIx (eVar 2) (eC (.int 1)))) aNil)))))) (sNil)) (sSeq (sIf (tVal (eOp dEq (eOp dIx (eVar 2) (eC (.int 0))) (eC (.str "and")))) (sRet ((eAnd (eCall f__law_holds (aCons (eFz (eVar 0)) (aCons (eFz (eVar 1)) (aCons (eFz (eOp dIx (eVar 2) (eC (.int 1)))) aNil)))) (eCall f__law_holds (aCons (eFz (eVar 0)) (aCons (eFz (eVar 1)) (aCons (eFz (eOp dIx (eVar 2) (eC (.int 2)))) aNil))))))) (sNil)) (sSeq (sIf (tVal (eOp dEq (eOp dIx (eVar 2) (eC (.int 0))) (eC (.str "next")))) (sRet ((eAnd (eOp dLt (eOp dAdd (eVar 1) (eC (.int 1))) (eA dLen (aCons (eVar 0) aNil))) (eCall f__law_holds (aCons (eFz (eVar 0)) (aCons (eFz (eOp dAdd (eVar 1) (eC (.int 1)))) (aCons (eFz (eOp dIx (eVar 2) (eC (.int 1)))) aNil))))))) (sNil)) (sSeq (sFor (setN 3) (iRange (aCons (eVar 1) (aCons (eA dLen (aCons (eVar 0) aNil)) aNil))) (sSeq (sIf (tTru (eCall f__law_holds (aCons (eFz (eVar 0)) (aCons (eFz (eVar 3)) (aCons (eFz (eOp dIx (eVar 2) (eC (.int 2)))) aNil))))) (sRet (eC (.bl true))) (sNil)) (sIf (tNo (tTru (eCall f__law_holds (aCons (eFz (eVar 0)) (aCons (eFz (eVar 3)) (aCons (eFz (eOp dIx (eVar 2) (eC (.int 1)))) aNil)))))) (sRet (eC (.bl false))) (sNil)))) (sRet (eC (.bl false))))))))
def f__law_holds : Nat → Fn
  | 0 => fun _ _ => none
  | k + 1 => runFn 4 3 (b__law_holds (f__law_holds k) f__law_at)
def b__law_pick (f__law_next : Fn) : SB := (sRet (eOp dIx (eVar 1) (eCall f__law_next (aCons (eFz (eVar 0)) (aCons (eFz (eA dLen (aCons (eVar 1) aNil))) aNil)))))
def f__law_pick : Fn := runFn 2 2 (b__law_pick f__law_next)
def b__law_expr (f__law_pick : Fn) : SB := (sRet (eCall f__law_pick (aCons (eFz (eVar 0)) (aCons (eFz (eLst (aCons (eFz (eC (.int 0))) (aCons (eFz (eC (.int 1))) (aCons (eFz (eTup (aCons (eFz (eC (.str "var"))) (aCons (eFz (eC (.str "x"))) aNil)))) (aCons (eFz (eTup (aCons (eFz (eC (.str "not"))) (aCons (eFz (eTup (aCons (eFz (eC (.str "var"))) (aCons (eFz (eC (.str "x"))) aNil)))) aNil)))) (aCons (eFz (eTup (aCons (eFz (eC (.str "cell"))) (aCons (eFz (eC (.int 3))) aNil)))) (aCons (eFz (eTup (aCons (eFz (eC (.str "less"))) (aCons (eFz (eTup (aCons (eFz (eC (.str "var"))) (aCons (eFz (eC (.str "x"))) aNil)))) (aCons (eFz (eTup (aCons (eFz (eC (.str "cell"))) (aCons (eFz (eC (.int 3))) aNil)))) aNil))))) (aCons (eFz (eTup (aCons (eFz (eC (.str "same"))) (aCons (eFz (eTup (aCons (eFz (eC (.str "var"))) (aCons (eFz (eC (.str "y2"))) aNil)))) (aCons (eFz (eC (.int 1))) aNil))))) (aCons (eFz (eTup (aCons (eFz (eC (.str "sub"))) (aCons (eFz (eTup (aCons (eFz (eC (.str "cell"))) (aCons (eFz (eTup (aCons (eFz (eC (.str "var"))) (aCons (eFz (eC (.str "x"))) aNil)))) aNil)))) (aCons (eFz (eC (.int 1))) aNil))))) aNil)))))))))) aNil))))
def f__law_expr : Fn := runFn 1 1 (b__law_expr f__law_pick)
def b__law_check (f__law_check : Fn) (f__law_expr : Fn) (f__law_pick : Fn) : SB := (sSeq (sSet 2 (eIf (tVal (eOp dGt (eVar 1) (eC (.int 0)))) (eCall f__law_pick (aCons (eFz (eVar 0)) (aCons (eFz (eLst (aCons (eFz (eC (.str "at"))) (aCons (eFz (eC (.str "at"))) (aCons (eFz (eC (.str "not"))) (aCons (eFz (eC (.str "and"))) (aCons (eFz (eC (.str "next"))) (aCons (eFz (eC (.str "until"))) aNil)))))))) aNil))) (eC (.str "at")))) (sSeq (sIf (tVal (eOp dEq (eVar 2) (eC (.str "at")))) (sRet (eTup (aCons (eFz (eC (.str "at"))) (aCons (eFz (eCall f__law_expr (aCons (eFz (eVar 0)) aNil))) aNil)))) (sNil)) (sSeq (sIf (tVal (eOp (dInG false) (eVar 2) (eTup (aCons (eFz (eC (.str "not"))) (aCons (eFz (eC (.str "next"))) aNil))))) (sFrz [2] (sRet (eTup (aCons (eFz (eVar 2)) (aCons (eFz (eCall f__law_check (aCons (eFz (eVar 0)) (aCons (eFz (eOp dSub (eVar 1) (eC (.int 1)))) aNil)))) aNil))))) (sNil)) (sFrz [2] (sRet (eTup (aCons (eFz (eVar 2)) (aCons (eFz (eCall f__law_check (aCons (eFz (eVar 0)) (aCons (eFz (eOp dSub (eVar 1) (eC (.int 1)))) aNil)))) (aCons (eFz (eCall f__law_check (aCons (eFz (eVar 0)) (aCons (eFz (eOp dSub (eVar 1) (eC (.int 1)))) aNil)))) aNil)))))))))
def f__law_check : Nat → Fn
  | 0 => fun _ _ => none
  | k + 1 => runFn 3 2 (b__law_check (f__law_check k) f__law_expr f__law_pick)
def b__law_run_of (f__law_next : Fn) : SB := (sSeq (sSet 1 (eLst aNil)) (sSeq (sFor (setN 2) (iRange (aCons (eOp dAdd (eC (.int 1)) (eCall f__law_next (aCons (eFz (eVar 0)) (aCons (eFz (eC (.int 7))) aNil)))) aNil)) (sSeq (sSet 3 (eLC [6] (setN 6) (iSeq (eTup (aCons (eFz (eC (.str "x"))) (aCons (eFz (eC (.str "y2"))) aNil)))) (tVal (eOp dGt (eCall f__law_next (aCons (eFz (eVar 0)) (aCons (eFz (eC (.int 3))) aNil))) (eC (.int 0)))) (eTup (aCons (eFz (eVar 6)) (aCons (eFz (eOp dAdd (eC (.int 1)) (eCall f__law_next (aCons (eFz (eVar 0)) (aCons (eFz (eC (.int 3))) aNil))))) aNil))))) (sSeq (sSet 4 (eA dTuple (aCons (eLC [7] (setN 7) (iSeq (eTup (aCons (eFz (eC (.int 1))) (aCons (eFz (eC (.int 2))) (aCons (eFz (eC (.int 3))) aNil))))) (tVal (eOp dEq (eCall f__law_next (aCons (eFz (eVar 0)) (aCons (eFz (eC (.int 2))) aNil))) (eC (.int 0)))) (eTup (aCons (eFz (eVar 7)) (aCons (eFz (eOp dAdd (eC (.int 1)) (eCall f__law_next (aCons (eFz (eVar 0)) (aCons (eFz (eC (.int 3))) aNil))))) aNil)))) aNil))) (sSeq (sSet 5 (eIf (tVal (eOp dEq (eCall f__law_next (aCons (eFz (eVar 0)) (aCons (eFz (eC (.int 3))) aNil))) (eC (.int 0)))) (eTup (aCons (eFz (eTup (aCons (eFz (eC (.str "main"))) (aCons (eFz (eC (.int 0))) (aCons (eFz (eTup (aCons (eFz (eTup (aCons (eFz (eC (.str "x"))) (aCons (eFz (eC (.int 9))) aNil)))) aNil))) (aCons (eFz (eC .non)) aNil)))))) aNil)) (eTup aNil))) (sApp 1 (eTup (aCons (eFz (eOp dAdd (eVar 5) (eTup (aCons (eFz (eTup (aCons (eFz (eC (.str "f"))) (aCons (eFz (eVar 2)) (aCons (eFz (eA dTuple (aCons (eVar 3) aNil))) (aCons (eFz (eC (.str "x"))) aNil)))))) aNil)))) (aCons (eFz (eVar 4)) (aCons (eFz (eTup aNil)) (aCons (eFz (eC (.int 0))) aNil)))))))))) (sSeq (sIf (tVal (eOp dEq (eCall f__law_next (aCons (eFz (eVar 0)) (aCons (eFz (eC (.int 3))) aNil))) (eC (.int 0)))) (sApp 1 (eTup (aCons (eFz (eTup aNil)) (aCons (eFz (eOp dIx (eOp dIx (eVar 1) (eUn dNeg (eC (.int 1)))) (eC (.int 1)))) (aCons (eFz (eTup aNil)) (aCons (eFz (eC (.int 0))) aNil)))))) (sNil)) (sRet (eA dTuple (aCons (eVar 1) aNil))))))
def f__law_run_of : Fn := runFn 8 1 (b__law_run_of f__law_next)
def b_law (f__law_is_check : Fn) (f_is_check : Fn) (f__law_is_bit : Fn) (f__law_next : Fn) (f_leads_to : Fn) (f_once : Fn) (f_either : Fn) (f_always : Fn) (f_holds_along : Fn) (f_check_size : Fn) (f__law_size : Fn) (f_last_true : Fn) (f_first_false : Fn) (f_check_holds : Fn) (f__law_holds : Fn) (f__law_check : Fn) (f__law_run_of : Fn) : SB := (sSeq (sFor (setN 2) (iRange (aCons (eC (.int 5)) aNil)) (sSeq (sFrz [1] (sUnp (setT [12, 13, 14]) (eTup (aCons (eFz (eCall f__law_run_of (aCons (eFz (eVar 1)) aNil))) (aCons (eFz (eCall f__law_check (aCons (eFz (eVar 1)) (aCons (eFz (eC (.int 3))) aNil)))) (aCons (eFz (eCall f__law_check (aCons (eFz (eVar 1)) (aCons (eFz (eC (.int 1))) aNil)))) aNil)))))) (sSeq (sFrz [8, 12, 13] (sSet 3 (eLC [8] (setN 8) (iRange (aCons (eA dLen (aCons (eVar 12) aNil)) aNil)) tYesD (eCall f__law_holds (aCons (eFz (eVar 12)) (aCons (eFz (eVar 8)) (aCons (eFz (eVar 13)) aNil))))))) (sSeq (sFrz [8, 12, 14] (sSet 4 (eLC [8] (setN 8) (iRange (aCons (eA dLen (aCons (eVar 12) aNil)) aNil)) tYesD (eCall f__law_holds (aCons (eFz (eVar 12)) (aCons (eFz (eVar 8)) (aCons (eFz (eVar 14)) aNil))))))) (sSeq (sFrz [12, 13] (sIf ((tOrr (tVal (eOp dNe (eCall f_holds_along (aCons (eFz (eVar 12)) (aCons (eFz (eVar 13)) aNil))) (eVar 3))) (tNo (tTru (eCall f__law_is_bit (aCons (eFz (eCall f_check_holds (aCons (eFz (eVar 12)) (aCons (eFz (eVar 13)) aNil)))) (aCons (eFz (eOp dIx (eVar 3) (eC (.int 0)))) aNil))))))) (sRet (eC (.bl false))) (sNil))) (sSeq (sFrz [12, 13] (sIf (tVal (eOp dNe (eLC [15] (setN 15) (iSeq (eCall f_holds_along (aCons (eFz (eVar 12)) (aCons (eFz (eVar 13)) aNil)))) (tNo (tTru (eA dIsi (aCons (eVar 15) (aCons (eC (.ty "bool")) aNil))))) (eVar 15)) (eLst aNil))) (sRet (eC (.bl false))) (sNil))) (sSeq (sFrz [8, 12, 13] (sIf ((tOrr (tVal (eOp dNe (eCall f_first_false (aCons (eFz (eVar 12)) (aCons (eFz (eVar 13)) aNil))) (eOp dIx (eOp dAdd (eLC [8] (setN 8) (iRange (aCons (eA dLen (aCons (eVar 12) aNil)) aNil)) (tNo (tTru (eOp dIx (eVar 3) (eVar 8)))) (eVar 8)) (eLst (aCons (eFz (eC .non)) aNil))) (eC (.int 0))))) (tVal (eOp dNe (eCall f_last_true (aCons (eFz (eVar 12)) (aCons (eFz (eVar 13)) aNil))) (eOp dIx (eOp dAdd (eLst (aCons (eFz (eC .non)) aNil)) (eLC [8] (setN 8) (iRange (aCons (eA dLen (aCons (eVar 12) aNil)) aNil)) (tTru (eOp dIx (eVar 3) (eVar 8))) (eVar 8))) (eUn dNeg (eC (.int 1)))))))) (sRet (eC (.bl false))) (sNil))) (sSeq (sFrz [13] (sIf (tVal (eOp dNe (eCall f_check_size (aCons (eFz (eVar 13)) aNil)) (eCall f__law_size (aCons (eFz (eVar 13)) aNil)))) (sRet (eC (.bl false))) (sNil))) (sSeq (sFrz [13] (sSet 5 (eLst (aCons (eFz (eTup (aCons (eFz (eCall f_always (aCons (eFz (eVar 13)) aNil))) (aCons (eFz (eLC [8] (setN 8) (iRange (aCons (eA dLen (aCons (eVar 12) aNil)) aNil)) tYesD (eOp (dInG true) (eC (.bl false)) (eSl dSl (eVar 3) (oSome (eVar 8)) oNone)))) aNil)))) (aCons (eFz (eTup (aCons (eFz (eCall f_once (aCons (eFz (eVar 13)) aNil))) (aCons (eFz (eLC [8] (setN 8) (iRange (aCons (eA dLen (aCons (eVar 12) aNil)) aNil)) tYesD (eOp (dInG false) (eC (.bl true)) (eSl dSl (eVar 3) (oSome (eVar 8)) oNone)))) aNil)))) aNil))))) (sSeq (sFrz [13, 14] (sFor (setT [7, 6]) (iSeq (eFz (eOp dAdd (eVar 5) (eLst (aCons (eFz (eTup (aCons (eFz (eCall f_either (aCons (eFz (eVar 13)) (aCons (eFz (eVar 14)) aNil)))) (aCons (eFz (eLC [8] (setN 8) (iRange (aCons (eA dLen (aCons (eVar 12) aNil)) aNil)) tYesD ((eOr (eOp dIx (eVar 3) (eVar 8)) (eOp dIx (eVar 4) (eVar 8)))))) aNil)))) aNil))))) (sFrz [7, 12] (sIf ((tOrr (tNo (tTru (eCall f__law_is_check (aCons (eFz (eVar 7)) aNil)))) (tVal (eOp dNe (eCall f_holds_along (aCons (eFz (eVar 12)) (aCons (eFz (eVar 7)) aNil))) (eVar 6))))) (sRet (eC (.bl false))) (sNil))))) (sSeq (sSet 6 (eLC [8] (setN 8) (iRange (aCons (eA dLen (aCons (eVar 12) aNil)) aNil)) tYesD (eOp dEq (eLC [16] (setN 16) (iRange (aCons (eVar 8) (aCons (eA dLen (aCons (eVar 12) aNil)) aNil))) ((tAn (tTru (eOp dIx (eVar 3) (eVar 16))) (tVal (eOp (dInG true) (eC (.bl true)) (eSl dSl (eVar 4) (oSome (eVar 16)) oNone))))) (eVar 16)) (eLst aNil)))) (sSeq (sFrz [13, 14] (sSet 7 (eCall f_leads_to (aCons (eFz (eVar 13)) (aCons (eFz (eVar 14)) aNil))))) (sSeq (sFrz [7, 12] (sIf ((tOrr (tNo (tTru (eCall f__law_is_check (aCons (eFz (eVar 7)) aNil)))) (tVal (eOp dNe (eCall f_holds_along (aCons (eFz (eVar 12)) (aCons (eFz (eVar 7)) aNil))) (eVar 6))))) (sRet (eC (.bl false))) (sNil))) (sSeq (sFrz [13, 14] (sIf ((tOrr (tVal (eOp dNe (eCall f_always (aCons (eFz (eVar 13)) aNil)) (eTup (aCons (eFz (eC (.str "not"))) (aCons (eFz (eTup (aCons (eFz (eC (.str "until"))) (aCons (eFz (eTup (aCons (eFz (eC (.str "at"))) (aCons (eFz (eC (.int 1))) aNil)))) (aCons (eFz (eTup (aCons (eFz (eC (.str "not"))) (aCons (eFz (eVar 13)) aNil)))) aNil))))) aNil))))) (tOrr (tVal (eOp dNe (eCall f_once (aCons (eFz (eVar 13)) aNil)) (eTup (aCons (eFz (eC (.str "until"))) (aCons (eFz (eTup (aCons (eFz (eC (.str "at"))) (aCons (eFz (eC (.int 1))) aNil)))) (aCons (eFz (eVar 13)) aNil)))))) (tVal (eOp dNe (eCall f_either (aCons (eFz (eVar 13)) (aCons (eFz (eVar 14)) aNil))) (eTup (aCons (eFz (eC (.str "not"))) (aCons (eFz (eTup (aCons (eFz (eC (.str "and"))) (aCons (eFz (eTup (aCons (eFz (eC (.str "not"))) (aCons (eFz (eVar 13)) aNil)))) (aCons (eFz (eTup (aCons (eFz (eC (.str "not"))) (aCons (eFz (eVar 14)) aNil)))) aNil))))) aNil)))))))) (sRet (eC (.bl false))) (sNil))) (sSeq (sFrz [13, 14] (sIf (tVal (eOp dNe (eCall f_leads_to (aCons (eFz (eVar 13)) (aCons (eFz (eVar 14)) aNil))) (eCall f_always (aCons (eFz (eCall f_either (aCons (eFz (eTup (aCons (eFz (eC (.str "not"))) (aCons (eFz (eVar 13)) aNil)))) (aCons (eFz (eCall f_once (aCons (eFz (eVar 14)) aNil))) aNil)))) aNil)))) (sRet (eC (.bl false))) (sNil))) (sSeq (sFrz [1] (sSet 8 (eCall f__law_next (aCons (eFz (eVar 1)) (aCons (eFz (eA dLen (aCons (eVar 13) aNil))) aNil))))) (sSeq (sFrz [13] (sSet 9 (eLst (aCons (eFz (eVar 13)) (aCons (eFz (eA dList (aCons (eVar 13) aNil))) (aCons (eFz (eC .non)) (aCons (eFz (eTup aNil)) (aCons (eFz (eSl dSl (eVar 13) oNone (oSome (eC (.int 1))))) (aCons (eFz (eOp dAdd (eVar 13) (eTup (aCons (eFz (eTup (aCons (eFz (eC (.str "at"))) (aCons (eFz (eC (.int 1))) aNil)))) aNil)))) (aCons (eFz (eTup (aCons (eFz (eC (.str "at"))) aNil))) (aCons (eFz (eC (.int 3))) (aCons (eFz (eC (.str "at"))) (aCons (eFz (eTup (aCons (eFz (eC (.str "next"))) (aCons (eFz (eVar 13)) (aCons (eFz (eVar 13)) aNil))))) (aCons (eFz (eTup (aCons (eFz (eC (.str "until"))) (aCons (eFz (eVar 13)) aNil)))) (aCons (eFz (eTup (aCons (eFz (eC (.str "at"))) (aCons (eFz (eOp dIx (eVar 13) (eC (.int 1)))) aNil)))) aNil))))))))))))))) (sSeq (sFor (setN 10) (iSeq (eFz (eTup (aCons (eFz (eC (.str "at"))) (aCons (eFz (eC (.str "until"))) (aCons (eFz (eC (.str "or"))) (aCons (eFz (eC (.int 3))) (aCons (eFz (eC .non)) (aCons (eFz (eC (.bl true))) (aCons (eFz (eTup (aCons (eFz (eC (.str "at"))) (aCons (eFz (eC (.int 1))) aNil)))) (aCons (eFz (eTup (aCons (eFz (eC (.str "at"))) (aCons (eFz (eTup (aCons (eFz (eC (.str "var"))) (aCons (eFz (eC (.str "X"))) aNil)))) aNil)))) (aCons (eFz (eTup (aCons (eFz (eC (.str "at"))) (aCons (eFz (eC (.bl true))) aNil)))) (aCons (eFz (eTup (aCons (eFz (eC (.str "at"))) (aCons (eFz (eTup (aCons (eFz (eC (.str "cell"))) aNil))) aNil)))) (aCons (eFz (eTup aNil)) (aCons (eFz (eLst (aCons (eFz (eC (.str "at"))) (aCons (eFz (eC (.int 1))) aNil)))) (aCons (eFz (eTup (aCons (eFz (eC (.str "at"))) (aCons (eFz (eTup (aCons (eFz (eC (.str "mul"))) (aCons (eFz (eC (.int 2))) (aCons (eFz (eTup (aCons (eFz (eC (.str "add"))) (aCons (eFz (eC (.int 1))) (aCons (eFz (eC (.int 3))) aNil))))) aNil))))) aNil)))) aNil)))))))))))))))) (sApp 9 (eOp dAdd (eOp dAdd (eSl dSl (eVar 13) oNone (oSome (eVar 8))) (eTup (aCons (eFz (eVar 10)) aNil))) (eSl dSl (eVar 13) (oSome (eOp dAdd (eVar 8) (eC (.int 1)))) oNone)))) (sFrz [9] (sFor (setN 11) (iSeq (eFz (eVar 9))) (sIf (tNo (tTru (eCall f__law_is_bit (aCons (eFz (eCall f_is_check (aCons (eFz (eVar 11)) aNil))) (aCons (eFz (eCall f__law_is_check (aCons (eFz (eVar 11)) aNil))) aNil))))) (sRet (eC (.bl false))) (sNil)))))))))))))))))))))) (sRet (eC (.bl true))))
end Kk44

set_option Elab.async false
set_option linter.all false
set_option maxRecDepth 100000
set_option maxHeartbeats 4000000
namespace Kk44
open PySem PySem.Spec PyProof.Rows L2 Dl
/-! ### the text -/
def topS (i : Nat) : Stmt := PySem.Challenge.pw_stepswatched_k44_whole_checks_along_a_ru.main.body.getD i (.Pass ⟨0, 0, 0, 0⟩)
structure TX (K : PySem.W.Frag) (mg : Str → Option Value) : Prop where
  «range» : mg "range" = none
  «int» : mg "int" = none
  «len» : mg "len" = none
  «abs» : mg "abs" = none
  «str» : mg "str" = none
  «isinstance» : mg "isinstance" = none
  «bool» : mg "bool" = none
  «tuple» : mg "tuple" = none
  «all» : mg "all" = none
  «dict» : mg "dict" = none
  «zip» : mg "zip" = none
  «sum» : mg "sum" = none
  «enumerate» : mg "enumerate" = none
  «list» : mg "list" = none
  g_DIGITS : ∃ t, mg "DIGITS" = some (.str "0123456789" t)
  g_LETTERS : ∃ t, mg "LETTERS" = some (.str "abcdefghijklmnopqrstuvwxyz" t)
  g_PAIRS : ∃ A, mg "PAIRS" = some (.ref A) ∧ ∃ vs, ∀ F wa H, SqT K H A vs ∧ Reps K F wa H [.str "add", .str "sub", .str "mul", .str "less", .str "same"] vs
/-- a def as callers have it -/
def Cal (P : Program) (w : World) (K : PySem.W.Frag) (mg : Str → Option Value) (base : Heap) (k : Nat) (x : Str) (f : Addr) (fd : FuncData) (ps : List Str) (G : Fn) : Prop := FnOk P w K mg base CX0 k f fd ps (spD K G) ∧ mg x = some (.ref f) ∧ PySem.W.keepIn K (.ref f) = true ∧ Binds K fd ps []
theorem Cal.up {P : Program} {w : World} {K : PySem.W.Frag} {mg : Str → Option Value} {base : Heap} {j : Nat} {x : Str} {f : Addr} {fd : FuncData} {ps : List Str} {G : Fn} (h : Cal P w K mg base j x f fd ps G) {k : Nat} (hk : j ≤ k) : Cal P w K mg base k x f fd ps G := ⟨h.1.mono hk, h.2⟩
/-- a def as the top has left it -/
def Def0 (K : PySem.W.Frag) (mg : Str → Option Value) (x : Str) (st : Stmt) (f : Addr) (fd : FuncData) (ps : List Str) : Prop := Fun K x x st f fd ∧ mg x = some (.ref f) ∧ Binds K fd ps []
abbrev s__law_draws : Stmt := topS 26
theorem sc__law_draws : FnScope ["script", "many", "draws", "mixed", "k", "cell", "rest", "turn"] ["script", "many"] (defScope s__law_draws) := ⟨rfl, rfl, rfl, by decide +kernel, rfl, by decide +kernel, by decide +kernel⟩
abbrev s__law_is_name : Stmt := topS 31
theorem sc__law_is_name : FnScope ["thing", "sign"] ["thing"] (defScope s__law_is_name) := ⟨rfl, rfl, rfl, by decide +kernel, rfl, by decide +kernel, by decide +kernel⟩
abbrev s__law_is_number : Stmt := topS 29
theorem sc__law_is_number : FnScope ["thing"] ["thing"] (defScope s__law_is_number) := ⟨rfl, rfl, rfl, by decide +kernel, rfl, by decide +kernel, by decide +kernel⟩
abbrev s__law_is_expr : Stmt := topS 39
theorem sc__law_is_expr : FnScope ["thing", "many", "part"] ["thing"] (defScope s__law_is_expr) := ⟨rfl, rfl, rfl, by decide +kernel, rfl, by decide +kernel, by decide +kernel⟩
abbrev s__law_is_check : Stmt := topS 40
theorem sc__law_is_check : FnScope ["thing", "many", "part"] ["thing"] (defScope s__law_is_check) := ⟨rfl, rfl, rfl, by decide +kernel, rfl, by decide +kernel, by decide +kernel⟩
abbrev s_is_tuple_of : Stmt := topS 5
theorem sc_is_tuple_of : FnScope ["thing", "many"] ["thing", "many"] (defScope s_is_tuple_of) := ⟨rfl, rfl, rfl, by decide +kernel, rfl, by decide +kernel, by decide +kernel⟩
abbrev s_is_name : Stmt := topS 4
theorem sc_is_name : FnScope ["thing", "sign"] ["thing"] (defScope s_is_name) := ⟨rfl, rfl, rfl, by decide +kernel, rfl, by decide +kernel, by decide +kernel⟩
abbrev s_is_number : Stmt := topS 3
theorem sc_is_number : FnScope ["thing"] ["thing"] (defScope s_is_number) := ⟨rfl, rfl, rfl, by decide +kernel, rfl, by decide +kernel, by decide +kernel⟩
abbrev s_is_expr : Stmt := topS 8
theorem sc_is_expr : FnScope ["thing"] ["thing"] (defScope s_is_expr) := ⟨rfl, rfl, rfl, by decide +kernel, rfl, by decide +kernel, by decide +kernel⟩
abbrev s_is_check : Stmt := topS 14
theorem sc_is_check : FnScope ["thing"] ["thing"] (defScope s_is_check) := ⟨rfl, rfl, rfl, by decide +kernel, rfl, by decide +kernel, by decide +kernel⟩
abbrev s__law_is_bit : Stmt := topS 30
theorem sc__law_is_bit : FnScope ["said", "due"] ["said", "due"] (defScope s__law_is_bit) := ⟨rfl, rfl, rfl, by decide +kernel, rfl, by decide +kernel, by decide +kernel⟩
abbrev s__law_next : Stmt := topS 27
theorem sc__law_next : FnScope ["w", "many"] ["w", "many"] (defScope s__law_next) := ⟨rfl, rfl, rfl, by decide +kernel, rfl, by decide +kernel, by decide +kernel⟩
abbrev s_once : Stmt := topS 19
theorem sc_once : FnScope ["check"] ["check"] (defScope s_once) := ⟨rfl, rfl, rfl, by decide +kernel, rfl, by decide +kernel, by decide +kernel⟩
abbrev s_either : Stmt := topS 20
theorem sc_either : FnScope ["one", "other"] ["one", "other"] (defScope s_either) := ⟨rfl, rfl, rfl, by decide +kernel, rfl, by decide +kernel, by decide +kernel⟩
abbrev s_always : Stmt := topS 18
theorem sc_always : FnScope ["check"] ["check"] (defScope s_always) := ⟨rfl, rfl, rfl, by decide +kernel, rfl, by decide +kernel, by decide +kernel⟩
abbrev s_leads_to : Stmt := topS 21
theorem sc_leads_to : FnScope ["one", "other"] ["one", "other"] (defScope s_leads_to) := ⟨rfl, rfl, rfl, by decide +kernel, rfl, by decide +kernel, by decide +kernel⟩
abbrev s_worth : Stmt := topS 9
theorem sc_worth : FnScope ["expr", "variables", "cells", "word", "one", "other"] ["expr", "variables", "cells"] (defScope s_worth) := ⟨rfl, rfl, rfl, by decide +kernel, rfl, by decide +kernel, by decide +kernel⟩
abbrev s_cells_of : Stmt := topS 12
theorem sc_cells_of : FnScope ["state"] ["state"] (defScope s_cells_of) := ⟨rfl, rfl, rfl, by decide +kernel, rfl, by decide +kernel, by decide +kernel⟩
abbrev s_is_over : Stmt := topS 11
theorem sc_is_over : FnScope ["state"] ["state"] (defScope s_is_over) := ⟨rfl, rfl, rfl, by decide +kernel, rfl, by decide +kernel, by decide +kernel⟩
abbrev s_facts : Stmt := topS 15
theorem sc_facts : FnScope ["state"] ["state"] (defScope s_facts) := ⟨rfl, rfl, rfl, by decide +kernel, rfl, by decide +kernel, by decide +kernel⟩
abbrev s_holds_along : Stmt := topS 16
theorem sc_holds_along : FnScope ["run", "check", "found", "state", "variables", "cells", "first", "one", "second", "other", "later", "k"] ["run", "check"] (defScope s_holds_along) := ⟨rfl, rfl, rfl, by decide +kernel, rfl, by decide +kernel, by decide +kernel⟩
abbrev s_check_size : Stmt := topS 24
theorem sc_check_size : FnScope ["check", "part"] ["check"] (defScope s_check_size) := ⟨rfl, rfl, rfl, by decide +kernel, rfl, by decide +kernel, by decide +kernel⟩
abbrev s__law_size : Stmt := topS 38
theorem sc__law_size : FnScope ["check", "part"] ["check"] (defScope s__law_size) := ⟨rfl, rfl, rfl, by decide +kernel, rfl, by decide +kernel, by decide +kernel⟩
abbrev s_last_true : Stmt := topS 23
theorem sc_last_true : FnScope ["run", "check", "able", "k", "one"] ["run", "check"] (defScope s_last_true) := ⟨rfl, rfl, rfl, by decide +kernel, rfl, by decide +kernel, by decide +kernel⟩
abbrev s_first_false : Stmt := topS 22
theorem sc_first_false : FnScope ["run", "check", "told"] ["run", "check"] (defScope s_first_false) := ⟨rfl, rfl, rfl, by decide +kernel, rfl, by decide +kernel, by decide +kernel⟩
abbrev s_check_holds : Stmt := topS 17
theorem sc_check_holds : FnScope ["run", "check"] ["run", "check"] (defScope s_check_holds) := ⟨rfl, rfl, rfl, by decide +kernel, rfl, by decide +kernel, by decide +kernel⟩
abbrev s__law_worth : Stmt := topS 33
theorem sc__law_worth : FnScope ["expr", "variables", "cells", "own", "part"] ["expr", "variables", "cells"] (defScope s__law_worth) := ⟨rfl, rfl, rfl, by decide +kernel, rfl, by decide +kernel, by decide +kernel⟩
abbrev s__law_at : Stmt := topS 36
theorem sc__law_at : FnScope ["state", "expr", "variables"] ["state", "expr"] (defScope s__law_at) := ⟨rfl, rfl, rfl, by decide +kernel, rfl, by decide +kernel, by decide +kernel⟩
abbrev s__law_holds : Stmt := topS 37
theorem sc__law_holds : FnScope ["run", "k", "check", "j"] ["run", "k", "check"] (defScope s__law_holds) := ⟨rfl, rfl, rfl, by decide +kernel, rfl, by decide +kernel, by decide +kernel⟩
abbrev s__law_pick : Stmt := topS 28
theorem sc__law_pick : FnScope ["w", "rows"] ["w", "rows"] (defScope s__law_pick) := ⟨rfl, rfl, rfl, by decide +kernel, rfl, by decide +kernel, by decide +kernel⟩
abbrev s__law_expr : Stmt := topS 32
theorem sc__law_expr : FnScope ["w"] ["w"] (defScope s__law_expr) := ⟨rfl, rfl, rfl, by decide +kernel, rfl, by decide +kernel, by decide +kernel⟩
abbrev s__law_check : Stmt := topS 34
theorem sc__law_check : FnScope ["w", "deep", "kind"] ["w", "deep"] (defScope s__law_check) := ⟨rfl, rfl, rfl, by decide +kernel, rfl, by decide +kernel, by decide +kernel⟩
abbrev s__law_run_of : Stmt := topS 35
theorem sc__law_run_of : FnScope ["w", "run", "k", "pairs", "cells", "frames", "name", "place"] ["w"] (defScope s__law_run_of) := ⟨rfl, rfl, rfl, by decide +kernel, rfl, by decide +kernel, by decide +kernel⟩
abbrev s_law : Stmt := topS 41
theorem sc_law : FnScope ["script", "w", "turn", "told", "others", "mades", "due", "made", "k", "things", "bent", "thing", "run", "check", "other", "one", "j"] ["script"] (defScope s_law) := ⟨rfl, rfl, rfl, by decide +kernel, rfl, by decide +kernel, by decide +kernel⟩
theorem d__law_draws {P : Program} {w : World} {K : PySem.W.Frag} {mg : Str → Option Value} {base : Heap} {k : Nat} {f : Addr} {fd : FuncData} (TX : TX K mg) (D0 : Def0 K mg "_law_draws" s__law_draws f fd ["script", "many"]) : Cal P w K mg base (k + 1) "_law_draws" f fd ["script", "many"] (runFn 8 2 (b__law_draws)) :=
  ⟨fn_d D0.1 sc__law_draws (by decide) fun cdv A outer s H E hr => (show SndSs (cxOf CX0 P w K mg base ["script", "many", "draws", "mixed", "k", "cell", "rest", "turn"] "_law_draws" (defScope s__law_draws) f cdv A outer s H E).nox (defBody s__law_draws) (b__law_draws) from (ss_cons (s_set 2 sc__law_draws.nd rfl (by first | exact .inl rfl | exact .inr rfl) (e_lst a_nil)) (ss_cons (s_set 3 sc__law_draws.nd rfl (by first | exact .inl rfl | exact .inr rfl) (e_int)) (ss_cons (s_for PassesOwn.never rfl (SndI.x (i_range1 (by rfl) TX.range (a_cons (e_callB call_len sLen (by rfl) TX.len (by decide +kernel) (a_cons (e_var 0) a_nil)) a_nil) (hone := a1_len))) (g_name 4 sc__law_draws.nd rfl (by first | exact .inl rfl | exact .inr rfl)) (ss_cons (s_set 5 sc__law_draws.nd rfl (by first | exact .inl rfl | exact .inr rfl) (e_callB call_abs sAbs (by rfl) TX.abs (by decide +kernel) (a_cons (e_callTy call_int1 sInt (by rfl) TX.int (by decide +kernel) (a_cons (e_ix ix_seq sIx (e_var 0) (e_var 4)) a_nil)) a_nil))) (ss_cons (s_set 3 sc__law_draws.nd rfl (by first | exact .inl rfl | exact .inr rfl) (e_op op_mod sMod (e_callTy call_int1 sInt (by rfl) TX.int (by decide +kernel) (a_cons (e_op op_addG sAdd (e_op op_addG sAdd (e_op op_mul sMul (e_var 3) (e_int)) (e_op op_mod sMod (e_var 5) (e_int))) (e_var 4)) a_nil)) (e_int))) (ss_cons (s_set 6 sc__law_draws.nd rfl (by first | exact .inl rfl | exact .inr rfl) (e_int)) (ss_cons (s_if (t_cmp op_ge sGe (nomark _) (e_var 5) (e_op op_pow sPow (e_int) (e_int))) (ss_one (s_set 6 sc__law_draws.nd rfl (by first | exact .inl rfl | exact .inr rfl) (e_var 5))) (ss_cons (s_app 2 (pv 2) (e_op op_mod sMod (e_callTy call_int1 sInt (by rfl) TX.int (by decide +kernel) (a_cons (e_var 5) a_nil)) (e_int))) (ss_one (s_app 2 (pv 2) (e_op op_mod sMod (e_op op_mod sMod (e_callTy call_int1 sInt (by rfl) TX.int (by decide +kernel) (a_cons (e_op op_addG sAdd (e_op op_mul sMul (e_var 3) (e_int)) (e_int)) a_nil)) (e_int)) (e_int)))))) (ss_one (s_for PassesOwn.never rfl (SndI.x (i_range1 (by rfl) TX.range (a_cons (e_int) a_nil) (hone := a1_len))) (g_name 7 sc__law_draws.nd rfl (by first | exact .inl rfl | exact .inr rfl)) (ss_one (s_if (t_cmp op_gt sGt (nomark _) (e_var 6) (e_int)) (ss_cons (s_app 2 (pv 2) (e_op op_mod sMod (e_callTy call_int1 sInt (by rfl) TX.int (by decide +kernel) (a_cons (e_var 6) a_nil)) (e_int))) (ss_one (s_set 6 sc__law_draws.nd rfl (by first | exact .inl rfl | exact .inr rfl) (e_op op_fdiv sFdiv (e_var 6) (e_int))))) ss_nil))))))))) (ss_cons (s_for PassesOwn.never rfl (SndI.x (i_range1 (by rfl) TX.range (a_cons (e_var 1) a_nil) (hone := a1_len))) (g_name 4 sc__law_draws.nd rfl (by first | exact .inl rfl | exact .inr rfl)) (ss_cons (s_set 3 sc__law_draws.nd rfl (by first | exact .inl rfl | exact .inr rfl) (e_op op_mod sMod (e_callTy call_int1 sInt (by rfl) TX.int (by decide +kernel) (a_cons (e_op op_addG sAdd (e_op op_addG sAdd (e_op op_mul sMul (e_var 3) (e_int)) (e_var 4)) (e_int)) a_nil)) (e_int))) (ss_one (s_app 2 (pv 2) (e_op op_mod sMod (e_callTy call_int1 sInt (by rfl) TX.int (by decide +kernel) (a_cons (e_var 3) a_nil)) (e_int)))))) (ss_one (s_ret (e_sl sl_any sSl (e_var 2) o_none (o_some (e_var 1)))))))))), D0.2.1, D0.1.kp, D0.2.2⟩
theorem d__law_is_name {P : Program} {w : World} {K : PySem.W.Frag} {mg : Str → Option Value} {base : Heap} {k : Nat} {f : Addr} {fd : FuncData} (TX : TX K mg) (D0 : Def0 K mg "_law_is_name" s__law_is_name f fd ["thing"]) : Cal P w K mg base (k + 1) "_law_is_name" f fd ["thing"] (runFn 2 1 (b__law_is_name)) :=
  ⟨fn_d D0.1 sc__law_is_name (by decide) fun cdv A outer s H E hr => (show SndSs (cxOf CX0 P w K mg base ["thing", "sign"] "_law_is_name" (defScope s__law_is_name) f cdv A outer s H E).nox (defBody s__law_is_name) (b__law_is_name) from (ss_cons (s_if (t_w (w_or (t_not (t_tru (e_callB call_isi sIsi (by rfl) TX.isinstance (by decide +kernel) (a_cons (e_var 0) (a_cons (e_ty (n := "str") (by rfl) TX.str (by decide +kernel)) a_nil))))) (w_or (t_cmp (op_eqG hr.units) sEq (nomark _) (e_var 0) (e_str)) (w_or1 (t_not (t_w (w_and (t_cmp (op_leD hr.units) sLeG (nomark _) (e_str) (e_ix ix_seq sIx (e_var 0) (e_int))) (w_and1 (t_cmp (op_leD hr.units) sLeG (nomark _) (e_ix ix_seq sIx (e_var 0) (e_int)) (e_str)))))))))) (ss_one (s_ret (e_bl))) ss_nil) (ss_one (s_ret (e_cmp (op_eqG hr.units) sEq (nomark _) (e_lc (own := [("sign", 1)]) rfl sc__law_is_name.nd (SndC.x (i_str (e_var 0))) (blkOk_by (by kernel_rfl)) (by decide) (fun _ _ _ _ _ => (g_name 1 sc__law_is_name.nd rfl (by first | exact .inl rfl | exact .inr rfl))) (fun _ _ _ _ _ => (ts_one (t_not (t_w (w_or (t_w (w_and (t_cmp (op_leD hr.units) sLeG (nomark _) (e_str) (e_var 1)) (w_and1 (t_cmp (op_leD hr.units) sLeG (nomark _) (e_var 1) (e_str))))) (w_or1 (t_w (w_and (t_cmp (op_leD hr.units) sLeG (nomark _) (e_str) (e_var 1)) (w_and1 (t_cmp (op_leD hr.units) sLeG (nomark _) (e_var 1) (e_str))))))))))) (fun _ _ _ _ _ => (e_var 1))) (e_lst a_nil)))))), D0.2.1, D0.1.kp, D0.2.2⟩
theorem d__law_is_number {P : Program} {w : World} {K : PySem.W.Frag} {mg : Str → Option Value} {base : Heap} {k : Nat} {f : Addr} {fd : FuncData} (TX : TX K mg) (D0 : Def0 K mg "_law_is_number" s__law_is_number f fd ["thing"]) : Cal P w K mg base (k + 1) "_law_is_number" f fd ["thing"] (runFn 1 1 (b__law_is_number)) :=
  ⟨fn_d D0.1 sc__law_is_number (by decide) fun cdv A outer s H E hr => (show SndSs (cxOf CX0 P w K mg base ["thing"] "_law_is_number" (defScope s__law_is_number) f cdv A outer s H E).nox (defBody s__law_is_number) (b__law_is_number) from (ss_one (s_ret ((e_and (e_callB call_isi sIsi (by rfl) TX.isinstance (by decide +kernel) (a_cons (e_var 0) (a_cons (e_ty (n := "int") (by rfl) TX.int (by decide +kernel)) a_nil))) (e_one (e_not (e_callB call_isi sIsi (by rfl) TX.isinstance (by decide +kernel) (a_cons (e_var 0) (a_cons (e_ty (n := "bool") (by rfl) TX.bool (by decide +kernel)) a_nil)))))))))), D0.2.1, D0.1.kp, D0.2.2⟩
theorem d__law_is_expr {P : Program} {w : World} {K : PySem.W.Frag} {mg : Str → Option Value} {base : Heap} {k : Nat} {f : Addr} {fd : FuncData} (TX : TX K mg) (D0 : Def0 K mg "_law_is_expr" s__law_is_expr f fd ["thing"]) {a__law_is_expr : Addr} {d__law_is_expr : FuncData} {f__law_is_expr : Fn} (H__law_is_expr : Cal P w K mg base k "_law_is_expr" a__law_is_expr d__law_is_expr ["thing"] f__law_is_expr) {a__law_is_name : Addr} {d__law_is_name : FuncData} {f__law_is_name : Fn} (H__law_is_name : Cal P w K mg base k "_law_is_name" a__law_is_name d__law_is_name ["thing"] f__law_is_name) {a__law_is_number : Addr} {d__law_is_number : FuncData} {f__law_is_number : Fn} (H__law_is_number : Cal P w K mg base k "_law_is_number" a__law_is_number d__law_is_number ["thing"] f__law_is_number) : Cal P w K mg base (k + 1) "_law_is_expr" f fd ["thing"] (runFn 3 1 (b__law_is_expr f__law_is_expr f__law_is_name f__law_is_number)) :=
  ⟨fn_d D0.1 sc__law_is_expr (by decide) fun cdv A outer s H E hr => (show SndSs (cxOf CX0 P w K mg base ["thing", "many", "part"] "_law_is_expr" (defScope s__law_is_expr) f cdv A outer s H E).nox (defBody s__law_is_expr) (b__law_is_expr f__law_is_expr f__law_is_name f__law_is_number) from (ss_cons (s_if (t_tru (e_call H__law_is_number.1 hr (by rfl) H__law_is_number.2.1 H__law_is_number.2.2.1 H__law_is_number.2.2.2 (a_cons (e_fz (e_var 0)) a_nil))) (ss_one (s_ret (e_bl))) ss_nil) (ss_cons (s_if (t_w (w_or (t_not (t_tru (e_callB call_isi sIsi (by rfl) TX.isinstance (by decide +kernel) (a_cons (e_var 0) (a_cons (e_ty (n := "tuple") (by rfl) TX.tuple (by decide +kernel)) a_nil))))) (w_or (t_cmp (op_eqG hr.units) sEq (nomark _) (e_var 0) (e_tup a_nil)) (w_or1 (t_not (t_tru (e_callB call_isi sIsi (by rfl) TX.isinstance (by decide +kernel) (a_cons (e_ix ix_seq sIx (e_var 0) (e_int)) (a_cons (e_ty (n := "str") (by rfl) TX.str (by decide +kernel)) a_nil))))))))) (ss_one (s_ret (e_bl))) ss_nil) (ss_cons (s_if (t_cmp (op_eqG hr.units) sEq (nomark _) (e_ix ix_seq sIx (e_var 0) (e_int)) (e_str)) (ss_one (s_ret ((e_and (e_cmp (op_eqG hr.units) sEq (nomark _) (e_callB call_len sLen (by rfl) TX.len (by decide +kernel) (a_cons (e_var 0) a_nil)) (e_int)) (e_one (e_call H__law_is_name.1 hr (by rfl) H__law_is_name.2.1 H__law_is_name.2.2.1 H__law_is_name.2.2.2 (a_cons (e_fz (e_ix ix_seq sIx (e_var 0) (e_int))) a_nil))))))) ss_nil) (ss_cons (s_set 1 sc__law_is_expr.nd rfl (by first | exact .inl rfl | exact .inr rfl) (e_if (t_cmp op_inG (sInG false) (by rfl) (e_ix ix_seq sIx (e_var 0) (e_int)) (e_tup (a_cons (e_fz (e_str)) (a_cons (e_fz (e_str)) a_nil)))) (e_int) (e_if (t_cmp op_inG (sInG false) (by rfl) (e_ix ix_seq sIx (e_var 0) (e_int)) (e_tup (a_cons (e_fz (e_str)) (a_cons (e_fz (e_str)) (a_cons (e_fz (e_str)) (a_cons (e_fz (e_str)) (a_cons (e_fz (e_str)) a_nil))))))) (e_int) (e_int)))) (ss_one (s_ret ((e_and (e_cmp (op_eqG hr.units) sEq (nomark _) (e_callB call_len sLen (by rfl) TX.len (by decide +kernel) (a_cons (e_var 0) a_nil)) (e_var 1)) (e_one (e_cmp (op_eqG hr.units) sEq (nomark _) (e_lc (own := [("part", 2)]) rfl sc__law_is_expr.nd (SndC.x (i_seqC (e_sl sl_any sSl (e_var 0) (o_some (e_int)) o_none))) (blkOk_by (by kernel_rfl)) (by decide) (fun _ _ _ _ _ => (g_name 2 sc__law_is_expr.nd rfl (by first | exact .inl rfl | exact .inr rfl))) (fun _ _ _ _ _ => (ts_one (t_not (t_tru (e_call H__law_is_expr.1 hr (by rfl) H__law_is_expr.2.1 H__law_is_expr.2.2.1 H__law_is_expr.2.2.2 (a_cons (e_fz (e_var 2)) a_nil)))))) (fun _ _ _ _ _ => (e_var 2))) (e_lst a_nil)))))))))))), D0.2.1, D0.1.kp, D0.2.2⟩
theorem d__law_is_check {P : Program} {w : World} {K : PySem.W.Frag} {mg : Str → Option Value} {base : Heap} {k : Nat} {f : Addr} {fd : FuncData} (TX : TX K mg) (D0 : Def0 K mg "_law_is_check" s__law_is_check f fd ["thing"]) {a__law_is_check : Addr} {d__law_is_check : FuncData} {f__law_is_check : Fn} (H__law_is_check : Cal P w K mg base k "_law_is_check" a__law_is_check d__law_is_check ["thing"] f__law_is_check) {a__law_is_expr : Addr} {d__law_is_expr : FuncData} {f__law_is_expr : Fn} (H__law_is_expr : Cal P w K mg base k "_law_is_expr" a__law_is_expr d__law_is_expr ["thing"] f__law_is_expr) : Cal P w K mg base (k + 1) "_law_is_check" f fd ["thing"] (runFn 3 1 (b__law_is_check f__law_is_check f__law_is_expr)) :=
  ⟨fn_d D0.1 sc__law_is_check (by decide) fun cdv A outer s H E hr => (show SndSs (cxOf CX0 P w K mg base ["thing", "many", "part"] "_law_is_check" (defScope s__law_is_check) f cdv A outer s H E).nox (defBody s__law_is_check) (b__law_is_check f__law_is_check f__law_is_expr) from (ss_cons (s_if (t_w (w_or (t_not (t_tru (e_callB call_isi sIsi (by rfl) TX.isinstance (by decide +kernel) (a_cons (e_var 0) (a_cons (e_ty (n := "tuple") (by rfl) TX.tuple (by decide +kernel)) a_nil))))) (w_or (t_cmp (op_eqG hr.units) sEq (nomark _) (e_var 0) (e_tup a_nil)) (w_or1 (t_not (t_tru (e_callB call_isi sIsi (by rfl) TX.isinstance (by decide +kernel) (a_cons (e_ix ix_seq sIx (e_var 0) (e_int)) (a_cons (e_ty (n := "str") (by rfl) TX.str (by decide +kernel)) a_nil))))))))) (ss_one (s_ret (e_bl))) ss_nil) (ss_cons (s_if (t_cmp (op_eqG hr.units) sEq (nomark _) (e_ix ix_seq sIx (e_var 0) (e_int)) (e_str)) (ss_one (s_ret ((e_and (e_cmp (op_eqG hr.units) sEq (nomark _) (e_callB call_len sLen (by rfl) TX.len (by decide +kernel) (a_cons (e_var 0) a_nil)) (e_int)) (e_one (e_call H__law_is_expr.1 hr (by rfl) H__law_is_expr.2.1 H__law_is_expr.2.2.1 H__law_is_expr.2.2.2 (a_cons (e_fz (e_ix ix_seq sIx (e_var 0) (e_int))) a_nil))))))) ss_nil) (ss_cons (s_set 1 sc__law_is_check.nd rfl (by first | exact .inl rfl | exact .inr rfl) (e_if (t_cmp op_inG (sInG false) (by rfl) (e_ix ix_seq sIx (e_var 0) (e_int)) (e_tup (a_cons (e_fz (e_str)) (a_cons (e_fz (e_str)) a_nil)))) (e_int) (e_if (t_cmp op_inG (sInG false) (by rfl) (e_ix ix_seq sIx (e_var 0) (e_int)) (e_tup (a_cons (e_fz (e_str)) (a_cons (e_fz (e_str)) a_nil)))) (e_int) (e_int)))) (ss_one (s_ret ((e_and (e_cmp (op_eqG hr.units) sEq (nomark _) (e_callB call_len sLen (by rfl) TX.len (by decide +kernel) (a_cons (e_var 0) a_nil)) (e_var 1)) (e_one (e_cmp (op_eqG hr.units) sEq (nomark _) (e_lc (own := [("part", 2)]) rfl sc__law_is_check.nd (SndC.x (i_seqC (e_sl sl_any sSl (e_var 0) (o_some (e_int)) o_none))) (blkOk_by (by kernel_rfl)) (by decide) (fun _ _ _ _ _ => (g_name 2 sc__law_is_check.nd rfl (by first | exact .inl rfl | exact .inr rfl))) (fun _ _ _ _ _ => (ts_one (t_not (t_tru (e_call H__law_is_check.1 hr (by rfl) H__law_is_check.2.1 H__law_is_check.2.2.1 H__law_is_check.2.2.2 (a_cons (e_fz (e_var 2)) a_nil)))))) (fun _ _ _ _ _ => (e_var 2))) (e_lst a_nil))))))))))), D0.2.1, D0.1.kp, D0.2.2⟩
theorem d_is_tuple_of {P : Program} {w : World} {K : PySem.W.Frag} {mg : Str → Option Value} {base : Heap} {k : Nat} {f : Addr} {fd : FuncData} (TX : TX K mg) (D0 : Def0 K mg "is_tuple_of" s_is_tuple_of f fd ["thing", "many"]) : Cal P w K mg base (k + 1) "is_tuple_of" f fd ["thing", "many"] (runFn 2 2 (b_is_tuple_of)) :=
  ⟨fn_d D0.1 sc_is_tuple_of (by decide) fun cdv A outer s H E hr => (show SndSs (cxOf CX0 P w K mg base ["thing", "many"] "is_tuple_of" (defScope s_is_tuple_of) f cdv A outer s H E).nox (defBody s_is_tuple_of) (b_is_tuple_of) from (ss_one (s_ret ((e_and (e_callB call_isi sIsi (by rfl) TX.isinstance (by decide +kernel) (a_cons (e_var 0) (a_cons (e_ty (n := "tuple") (by rfl) TX.tuple (by decide +kernel)) a_nil))) (e_one (e_cmp (op_eqG hr.units) sEq (nomark _) (e_callB call_len sLen (by rfl) TX.len (by decide +kernel) (a_cons (e_var 0) a_nil)) (e_var 1)))))))), D0.2.1, D0.1.kp, D0.2.2⟩
theorem d_is_name {P : Program} {w : World} {K : PySem.W.Frag} {mg : Str → Option Value} {base : Heap} {k : Nat} {f : Addr} {fd : FuncData} (TX : TX K mg) (D0 : Def0 K mg "is_name" s_is_name f fd ["thing"]) : Cal P w K mg base (k + 1) "is_name" f fd ["thing"] (runFn 2 1 (b_is_name)) :=
  ⟨fn_d D0.1 sc_is_name (by decide) fun cdv A outer s H E hr => (show SndSs (cxOf CX0 P w K mg base ["thing", "sign"] "is_name" (defScope s_is_name) f cdv A outer s H E).nox (defBody s_is_name) (b_is_name) from (ss_cons (s_if (t_w (w_or (t_not (t_tru (e_callB call_isi sIsi (by rfl) TX.isinstance (by decide +kernel) (a_cons (e_var 0) (a_cons (e_ty (n := "str") (by rfl) TX.str (by decide +kernel)) a_nil))))) (w_or (t_cmp (op_eqG hr.units) sEq (nomark _) (e_var 0) (e_str)) (w_or1 (t_cmp op_notInG (sInG true) (by rfl) (e_ix ix_seq sIx (e_var 0) (e_int)) (e_gs (by rfl) TX.g_LETTERS)))))) (ss_one (s_ret (e_bl))) ss_nil) (ss_one (s_ret (e_callB (cr_all rfl) sAll (by rfl) TX.all (by decide +kernel) (a_cons (e_lc (own := [("sign", 1)]) rfl sc_is_name.nd (SndC.x (i_str (e_var 0))) (blkOk_by (by kernel_rfl)) (by decide) (fun _ _ _ _ _ => (g_name 1 sc_is_name.nd rfl (by first | exact .inl rfl | exact .inr rfl))) (fun _ _ _ _ _ => ts_nil) (fun _ _ _ _ _ => ((e_or (e_cmp op_inG (sInG false) (by rfl) (e_var 1) (e_gs (by rfl) TX.g_LETTERS)) (e_one (e_cmp op_inG (sInG false) (by rfl) (e_var 1) (e_gs (by rfl) TX.g_DIGITS))))))) a_nil)))))), D0.2.1, D0.1.kp, D0.2.2⟩
theorem d_is_number {P : Program} {w : World} {K : PySem.W.Frag} {mg : Str → Option Value} {base : Heap} {k : Nat} {f : Addr} {fd : FuncData} (TX : TX K mg) (D0 : Def0 K mg "is_number" s_is_number f fd ["thing"]) : Cal P w K mg base (k + 1) "is_number" f fd ["thing"] (runFn 1 1 (b_is_number)) :=
  ⟨fn_d D0.1 sc_is_number (by decide) fun cdv A outer s H E hr => (show SndSs (cxOf CX0 P w K mg base ["thing"] "is_number" (defScope s_is_number) f cdv A outer s H E).nox (defBody s_is_number) (b_is_number) from (ss_one (s_ret ((e_and (e_callB call_isi sIsi (by rfl) TX.isinstance (by decide +kernel) (a_cons (e_var 0) (a_cons (e_ty (n := "int") (by rfl) TX.int (by decide +kernel)) a_nil))) (e_one (e_not (e_callB call_isi sIsi (by rfl) TX.isinstance (by decide +kernel) (a_cons (e_var 0) (a_cons (e_ty (n := "bool") (by rfl) TX.bool (by decide +kernel)) a_nil)))))))))), D0.2.1, D0.1.kp, D0.2.2⟩
theorem d_is_expr {P : Program} {w : World} {K : PySem.W.Frag} {mg : Str → Option Value} {base : Heap} {k : Nat} {f : Addr} {fd : FuncData} (TX : TX K mg) (D0 : Def0 K mg "is_expr" s_is_expr f fd ["thing"]) {a_is_expr : Addr} {d_is_expr : FuncData} {f_is_expr : Fn} (H_is_expr : Cal P w K mg base k "is_expr" a_is_expr d_is_expr ["thing"] f_is_expr) {a_is_tuple_of : Addr} {d_is_tuple_of : FuncData} {f_is_tuple_of : Fn} (H_is_tuple_of : Cal P w K mg base k "is_tuple_of" a_is_tuple_of d_is_tuple_of ["thing", "many"] f_is_tuple_of) {a_is_name : Addr} {d_is_name : FuncData} {f_is_name : Fn} (H_is_name : Cal P w K mg base k "is_name" a_is_name d_is_name ["thing"] f_is_name) {a_is_number : Addr} {d_is_number : FuncData} {f_is_number : Fn} (H_is_number : Cal P w K mg base k "is_number" a_is_number d_is_number ["thing"] f_is_number) : Cal P w K mg base (k + 1) "is_expr" f fd ["thing"] (runFn 1 1 (b_is_expr f_is_expr f_is_tuple_of f_is_name f_is_number)) :=
  ⟨fn_d D0.1 sc_is_expr (by decide) fun cdv A outer s H E hr => (show SndSs (cxOf CX0 P w K mg base ["thing"] "is_expr" (defScope s_is_expr) f cdv A outer s H E).nox (defBody s_is_expr) (b_is_expr f_is_expr f_is_tuple_of f_is_name f_is_number) from (ss_cons (s_if (t_tru (e_call H_is_number.1 hr (by rfl) H_is_number.2.1 H_is_number.2.2.1 H_is_number.2.2.2 (a_cons (e_fz (e_var 0)) a_nil))) (ss_one (s_ret (e_bl))) ss_nil) (ss_cons (s_if (t_w (w_or (t_not (t_tru (e_callB call_isi sIsi (by rfl) TX.isinstance (by decide +kernel) (a_cons (e_var 0) (a_cons (e_ty (n := "tuple") (by rfl) TX.tuple (by decide +kernel)) a_nil))))) (w_or (t_cmp (op_eqG hr.units) sEq (nomark _) (e_var 0) (e_tup a_nil)) (w_or1 (t_not (t_tru (e_callB call_isi sIsi (by rfl) TX.isinstance (by decide +kernel) (a_cons (e_ix ix_seq sIx (e_var 0) (e_int)) (a_cons (e_ty (n := "str") (by rfl) TX.str (by decide +kernel)) a_nil))))))))) (ss_one (s_ret (e_bl))) ss_nil) (ss_cons (s_if (t_cmp (op_eqG hr.units) sEq (nomark _) (e_ix ix_seq sIx (e_var 0) (e_int)) (e_str)) (ss_one (s_ret ((e_and (e_call H_is_tuple_of.1 hr (by rfl) H_is_tuple_of.2.1 H_is_tuple_of.2.2.1 H_is_tuple_of.2.2.2 (a_cons (e_fz (e_var 0)) (a_cons (e_fz (e_int)) a_nil))) (e_one (e_call H_is_name.1 hr (by rfl) H_is_name.2.1 H_is_name.2.2.1 H_is_name.2.2.2 (a_cons (e_fz (e_ix ix_seq sIx (e_var 0) (e_int))) a_nil))))))) ss_nil) (ss_cons (s_if (t_cmp op_inG (sInG false) (by rfl) (e_ix ix_seq sIx (e_var 0) (e_int)) (e_tup (a_cons (e_fz (e_str)) (a_cons (e_fz (e_str)) a_nil)))) (ss_one (s_ret ((e_and (e_call H_is_tuple_of.1 hr (by rfl) H_is_tuple_of.2.1 H_is_tuple_of.2.2.1 H_is_tuple_of.2.2.2 (a_cons (e_fz (e_var 0)) (a_cons (e_fz (e_int)) a_nil))) (e_one (e_call H_is_expr.1 hr (by rfl) H_is_expr.2.1 H_is_expr.2.2.1 H_is_expr.2.2.2 (a_cons (e_fz (e_ix ix_seq sIx (e_var 0) (e_int))) a_nil))))))) ss_nil) (ss_one (s_ret ((e_and (e_inKx op_in_seq (by rfl) TX.g_PAIRS (by rfl) (by decide) (e_ix ix_seq sIx (e_var 0) (e_int))) (e_and (e_call H_is_tuple_of.1 hr (by rfl) H_is_tuple_of.2.1 H_is_tuple_of.2.2.1 H_is_tuple_of.2.2.2 (a_cons (e_fz (e_var 0)) (a_cons (e_fz (e_int)) a_nil))) (e_and (e_call H_is_expr.1 hr (by rfl) H_is_expr.2.1 H_is_expr.2.2.1 H_is_expr.2.2.2 (a_cons (e_fz (e_ix ix_seq sIx (e_var 0) (e_int))) a_nil)) (e_one (e_call H_is_expr.1 hr (by rfl) H_is_expr.2.1 H_is_expr.2.2.1 H_is_expr.2.2.2 (a_cons (e_fz (e_ix ix_seq sIx (e_var 0) (e_int))) a_nil)))))))))))))), D0.2.1, D0.1.kp, D0.2.2⟩
theorem d_is_check {P : Program} {w : World} {K : PySem.W.Frag} {mg : Str → Option Value} {base : Heap} {k : Nat} {f : Addr} {fd : FuncData} (TX : TX K mg) (D0 : Def0 K mg "is_check" s_is_check f fd ["thing"]) {a_is_check : Addr} {d_is_check : FuncData} {f_is_check : Fn} (H_is_check : Cal P w K mg base k "is_check" a_is_check d_is_check ["thing"] f_is_check) {a_is_tuple_of : Addr} {d_is_tuple_of : FuncData} {f_is_tuple_of : Fn} (H_is_tuple_of : Cal P w K mg base k "is_tuple_of" a_is_tuple_of d_is_tuple_of ["thing", "many"] f_is_tuple_of) {a_is_expr : Addr} {d_is_expr : FuncData} {f_is_expr : Fn} (H_is_expr : Cal P w K mg base k "is_expr" a_is_expr d_is_expr ["thing"] f_is_expr) : Cal P w K mg base (k + 1) "is_check" f fd ["thing"] (runFn 1 1 (b_is_check f_is_check f_is_tuple_of f_is_expr)) :=
  ⟨fn_d D0.1 sc_is_check (by decide) fun cdv A outer s H E hr => (show SndSs (cxOf CX0 P w K mg base ["thing"] "is_check" (defScope s_is_check) f cdv A outer s H E).nox (defBody s_is_check) (b_is_check f_is_check f_is_tuple_of f_is_expr) from (ss_cons (s_if (t_w (w_or (t_not (t_tru (e_callB call_isi sIsi (by rfl) TX.isinstance (by decide +kernel) (a_cons (e_var 0) (a_cons (e_ty (n := "tuple") (by rfl) TX.tuple (by decide +kernel)) a_nil))))) (w_or (t_cmp (op_eqG hr.units) sEq (nomark _) (e_var 0) (e_tup a_nil)) (w_or1 (t_not (t_tru (e_callB call_isi sIsi (by rfl) TX.isinstance (by decide +kernel) (a_cons (e_ix ix_seq sIx (e_var 0) (e_int)) (a_cons (e_ty (n := "str") (by rfl) TX.str (by decide +kernel)) a_nil))))))))) (ss_one (s_ret (e_bl))) ss_nil) (ss_cons (s_if (t_cmp (op_eqG hr.units) sEq (nomark _) (e_ix ix_seq sIx (e_var 0) (e_int)) (e_str)) (ss_one (s_ret ((e_and (e_call H_is_tuple_of.1 hr (by rfl) H_is_tuple_of.2.1 H_is_tuple_of.2.2.1 H_is_tuple_of.2.2.2 (a_cons (e_fz (e_var 0)) (a_cons (e_fz (e_int)) a_nil))) (e_one (e_call H_is_expr.1 hr (by rfl) H_is_expr.2.1 H_is_expr.2.2.1 H_is_expr.2.2.2 (a_cons (e_fz (e_ix ix_seq sIx (e_var 0) (e_int))) a_nil))))))) ss_nil) (ss_cons (s_if (t_cmp op_inG (sInG false) (by rfl) (e_ix ix_seq sIx (e_var 0) (e_int)) (e_tup (a_cons (e_fz (e_str)) (a_cons (e_fz (e_str)) a_nil)))) (ss_one (s_ret ((e_and (e_call H_is_tuple_of.1 hr (by rfl) H_is_tuple_of.2.1 H_is_tuple_of.2.2.1 H_is_tuple_of.2.2.2 (a_cons (e_fz (e_var 0)) (a_cons (e_fz (e_int)) a_nil))) (e_one (e_call H_is_check.1 hr (by rfl) H_is_check.2.1 H_is_check.2.2.1 H_is_check.2.2.2 (a_cons (e_fz (e_ix ix_seq sIx (e_var 0) (e_int))) a_nil))))))) ss_nil) (ss_one (s_ret ((e_and (e_cmp op_inG (sInG false) (by rfl) (e_ix ix_seq sIx (e_var 0) (e_int)) (e_tup (a_cons (e_fz (e_str)) (a_cons (e_fz (e_str)) a_nil)))) (e_and (e_call H_is_tuple_of.1 hr (by rfl) H_is_tuple_of.2.1 H_is_tuple_of.2.2.1 H_is_tuple_of.2.2.2 (a_cons (e_fz (e_var 0)) (a_cons (e_fz (e_int)) a_nil))) (e_and (e_call H_is_check.1 hr (by rfl) H_is_check.2.1 H_is_check.2.2.1 H_is_check.2.2.2 (a_cons (e_fz (e_ix ix_seq sIx (e_var 0) (e_int))) a_nil)) (e_one (e_call H_is_check.1 hr (by rfl) H_is_check.2.1 H_is_check.2.2.1 H_is_check.2.2.2 (a_cons (e_fz (e_ix ix_seq sIx (e_var 0) (e_int))) a_nil))))))))))))), D0.2.1, D0.1.kp, D0.2.2⟩
theorem d__law_is_bit {P : Program} {w : World} {K : PySem.W.Frag} {mg : Str → Option Value} {base : Heap} {k : Nat} {f : Addr} {fd : FuncData} (TX : TX K mg) (D0 : Def0 K mg "_law_is_bit" s__law_is_bit f fd ["said", "due"]) : Cal P w K mg base (k + 1) "_law_is_bit" f fd ["said", "due"] (runFn 2 2 (b__law_is_bit)) :=
  ⟨fn_d D0.1 sc__law_is_bit (by decide) fun cdv A outer s H E hr => (show SndSs (cxOf CX0 P w K mg base ["said", "due"] "_law_is_bit" (defScope s__law_is_bit) f cdv A outer s H E).nox (defBody s__law_is_bit) (b__law_is_bit) from (ss_one (s_ret ((e_or ((e_and (e_var 1) (e_one (e_cmp op_isC sIs (nomark _) (e_var 0) (e_bl))))) (e_one ((e_and (e_not (e_var 1)) (e_one (e_cmp op_isC sIs (nomark _) (e_var 0) (e_bl))))))))))), D0.2.1, D0.1.kp, D0.2.2⟩
theorem d__law_next {P : Program} {w : World} {K : PySem.W.Frag} {mg : Str → Option Value} {base : Heap} {k : Nat} {f : Addr} {fd : FuncData} (TX : TX K mg) (D0 : Def0 K mg "_law_next" s__law_next f fd ["w", "many"]) : Cal P w K mg base (k + 1) "_law_next" f fd ["w", "many"] (runFn 2 2 (b__law_next)) :=
  ⟨fn_d D0.1 sc__law_next (by decide) fun cdv A outer s H E hr => (show SndSs (cxOf CX0 P w K mg base ["w", "many"] "_law_next" (defScope s__law_next) f cdv A outer s H E).nox (defBody s__law_next) (b__law_next) from (ss_cons (s_tick 0 (hu_of hr) (pv 0)) (ss_cons (s_if (t_cmp op_gt sGt (nomark _) (e_wget 0 true (hu_of hr) (pv 0) rfl) (e_callB call_len sLen (by rfl) TX.len (by decide +kernel) (a_cons (e_wget 0 false (hu_of hr) (pv 0) rfl) a_nil))) (ss_one (s_ret (e_int))) ss_nil) (ss_one (s_ret (e_op op_mod sMod (e_callTy call_int1 sInt (by rfl) TX.int (by decide +kernel) (a_cons (e_ix ix_seq sIx (e_wget 0 false (hu_of hr) (pv 0) rfl) (e_op op_sub sSub (e_wget 0 true (hu_of hr) (pv 0) rfl) (e_int))) a_nil)) (e_var 1))))))), D0.2.1, D0.1.kp, D0.2.2⟩
theorem d_once {P : Program} {w : World} {K : PySem.W.Frag} {mg : Str → Option Value} {base : Heap} {k : Nat} {f : Addr} {fd : FuncData} (TX : TX K mg) (D0 : Def0 K mg "once" s_once f fd ["check"]) : Cal P w K mg base (k + 1) "once" f fd ["check"] (runFn 1 1 (b_once)) :=
  ⟨fn_d D0.1 sc_once (by decide) fun cdv A outer s H E hr => (show SndSs (cxOf CX0 P w K mg base ["check"] "once" (defScope s_once) f cdv A outer s H E).nox (defBody s_once) (b_once) from (ss_one (s_ret (e_tup (a_cons (e_fz (e_str)) (a_cons (e_fz (e_tup (a_cons (e_fz (e_str)) (a_cons (e_fz (e_int)) a_nil)))) (a_cons (e_fz (e_var 0)) a_nil))))))), D0.2.1, D0.1.kp, D0.2.2⟩
theorem d_either {P : Program} {w : World} {K : PySem.W.Frag} {mg : Str → Option Value} {base : Heap} {k : Nat} {f : Addr} {fd : FuncData} (TX : TX K mg) (D0 : Def0 K mg "either" s_either f fd ["one", "other"]) : Cal P w K mg base (k + 1) "either" f fd ["one", "other"] (runFn 2 2 (b_either)) :=
  ⟨fn_d D0.1 sc_either (by decide) fun cdv A outer s H E hr => (show SndSs (cxOf CX0 P w K mg base ["one", "other"] "either" (defScope s_either) f cdv A outer s H E).nox (defBody s_either) (b_either) from (ss_one (s_ret (e_tup (a_cons (e_fz (e_str)) (a_cons (e_fz (e_tup (a_cons (e_fz (e_str)) (a_cons (e_fz (e_tup (a_cons (e_fz (e_str)) (a_cons (e_fz (e_var 0)) a_nil)))) (a_cons (e_fz (e_tup (a_cons (e_fz (e_str)) (a_cons (e_fz (e_var 1)) a_nil)))) a_nil))))) a_nil)))))), D0.2.1, D0.1.kp, D0.2.2⟩
theorem d_always {P : Program} {w : World} {K : PySem.W.Frag} {mg : Str → Option Value} {base : Heap} {k : Nat} {f : Addr} {fd : FuncData} (TX : TX K mg) (D0 : Def0 K mg "always" s_always f fd ["check"]) : Cal P w K mg base (k + 1) "always" f fd ["check"] (runFn 1 1 (b_always)) :=
  ⟨fn_d D0.1 sc_always (by decide) fun cdv A outer s H E hr => (show SndSs (cxOf CX0 P w K mg base ["check"] "always" (defScope s_always) f cdv A outer s H E).nox (defBody s_always) (b_always) from (ss_one (s_ret (e_tup (a_cons (e_fz (e_str)) (a_cons (e_fz (e_tup (a_cons (e_fz (e_str)) (a_cons (e_fz (e_tup (a_cons (e_fz (e_str)) (a_cons (e_fz (e_int)) a_nil)))) (a_cons (e_fz (e_tup (a_cons (e_fz (e_str)) (a_cons (e_fz (e_var 0)) a_nil)))) a_nil))))) a_nil)))))), D0.2.1, D0.1.kp, D0.2.2⟩
theorem d_leads_to {P : Program} {w : World} {K : PySem.W.Frag} {mg : Str → Option Value} {base : Heap} {k : Nat} {f : Addr} {fd : FuncData} (TX : TX K mg) (D0 : Def0 K mg "leads_to" s_leads_to f fd ["one", "other"]) {a_once : Addr} {d_once : FuncData} {f_once : Fn} (H_once : Cal P w K mg base k "once" a_once d_once ["check"] f_once) {a_either : Addr} {d_either : FuncData} {f_either : Fn} (H_either : Cal P w K mg base k "either" a_either d_either ["one", "other"] f_either) {a_always : Addr} {d_always : FuncData} {f_always : Fn} (H_always : Cal P w K mg base k "always" a_always d_always ["check"] f_always) : Cal P w K mg base (k + 1) "leads_to" f fd ["one", "other"] (runFn 2 2 (b_leads_to f_once f_either f_always)) :=
  ⟨fn_d D0.1 sc_leads_to (by decide) fun cdv A outer s H E hr => (show SndSs (cxOf CX0 P w K mg base ["one", "other"] "leads_to" (defScope s_leads_to) f cdv A outer s H E).nox (defBody s_leads_to) (b_leads_to f_once f_either f_always) from (ss_one (s_ret (e_call H_always.1 hr (by rfl) H_always.2.1 H_always.2.2.1 H_always.2.2.2 (a_cons (e_fz (e_call H_either.1 hr (by rfl) H_either.2.1 H_either.2.2.1 H_either.2.2.2 (a_cons (e_fz (e_tup (a_cons (e_fz (e_str)) (a_cons (e_fz (e_var 0)) a_nil)))) (a_cons (e_fz (e_call H_once.1 hr (by rfl) H_once.2.1 H_once.2.2.1 H_once.2.2.2 (a_cons (e_fz (e_var 1)) a_nil))) a_nil)))) a_nil))))), D0.2.1, D0.1.kp, D0.2.2⟩
theorem d_worth {P : Program} {w : World} {K : PySem.W.Frag} {mg : Str → Option Value} {base : Heap} {k : Nat} {f : Addr} {fd : FuncData} (TX : TX K mg) (D0 : Def0 K mg "worth" s_worth f fd ["expr", "variables", "cells"]) {a_worth : Addr} {d_worth : FuncData} {f_worth : Fn} (H_worth : Cal P w K mg base k "worth" a_worth d_worth ["expr", "variables", "cells"] f_worth) {a_is_number : Addr} {d_is_number : FuncData} {f_is_number : Fn} (H_is_number : Cal P w K mg base k "is_number" a_is_number d_is_number ["thing"] f_is_number) : Cal P w K mg base (k + 1) "worth" f fd ["expr", "variables", "cells"] (runFn 6 3 (b_worth f_worth f_is_number)) :=
  ⟨fn_d D0.1 sc_worth (by decide) fun cdv A outer s H E hr => (show SndSs (cxOf CX0 P w K mg base ["expr", "variables", "cells", "word", "one", "other"] "worth" (defScope s_worth) f cdv A outer s H E).nox (defBody s_worth) (b_worth f_worth f_is_number) from (ss_cons (s_if (t_tru (e_call H_is_number.1 hr (by rfl) H_is_number.2.1 H_is_number.2.2.1 H_is_number.2.2.2 (a_cons (e_fz (e_var 0)) a_nil))) (ss_one (s_ret (e_var 0))) ss_nil) (ss_cons (s_set 3 sc_worth.nd rfl (by first | exact .inl rfl | exact .inr rfl) (e_ix ix_seq sIx (e_var 0) (e_int))) (ss_cons (s_if (t_cmp (op_eqG hr.units) sEq (nomark _) (e_var 3) (e_str)) (ss_one (s_ret (e_get2 (hu_of hr) (e_var 1) (e_ix ix_seq sIx (e_var 0) (e_int)) (e_int) ⟨rfl, rfl, rfl, rfl⟩))) ss_nil) (ss_cons (s_if (t_cmp (op_eqG hr.units) sEq (nomark _) (e_var 3) (e_str)) (ss_one (s_ret (e_get2 (hu_of hr) (e_var 2) (e_call H_worth.1 hr (by rfl) H_worth.2.1 H_worth.2.2.1 H_worth.2.2.2 (a_cons (e_fz (e_ix ix_seq sIx (e_var 0) (e_int))) (a_cons (e_fz (e_var 1)) (a_cons (e_fz (e_var 2)) a_nil)))) (e_int) ⟨rfl, rfl, rfl, rfl⟩))) ss_nil) (ss_cons (s_if (t_cmp (op_eqG hr.units) sEq (nomark _) (e_var 3) (e_str)) (ss_one (s_ret (e_callTy call_int1 sInt (by rfl) TX.int (by decide +kernel) (a_cons (e_cmp (op_eqG hr.units) sEq (nomark _) (e_call H_worth.1 hr (by rfl) H_worth.2.1 H_worth.2.2.1 H_worth.2.2.2 (a_cons (e_fz (e_ix ix_seq sIx (e_var 0) (e_int))) (a_cons (e_fz (e_var 1)) (a_cons (e_fz (e_var 2)) a_nil)))) (e_int)) a_nil)))) ss_nil) (ss_cons (s_par 4 5 rfl sc_worth.nd rfl rfl (by decide) rfl rfl (a_cons (e_call H_worth.1 hr (by rfl) H_worth.2.1 H_worth.2.2.1 H_worth.2.2.2 (a_cons (e_fz (e_ix ix_seq sIx (e_var 0) (e_int))) (a_cons (e_fz (e_var 1)) (a_cons (e_fz (e_var 2)) a_nil)))) (a_cons (e_call H_worth.1 hr (by rfl) H_worth.2.1 H_worth.2.2.1 H_worth.2.2.2 (a_cons (e_fz (e_ix ix_seq sIx (e_var 0) (e_int))) (a_cons (e_fz (e_var 1)) (a_cons (e_fz (e_var 2)) a_nil)))) a_nil))) (ss_cons (s_if (t_cmp (op_eqG hr.units) sEq (nomark _) (e_var 3) (e_str)) (ss_one (s_ret (e_op op_addG sAdd (e_var 4) (e_var 5)))) ss_nil) (ss_cons (s_if (t_cmp (op_eqG hr.units) sEq (nomark _) (e_var 3) (e_str)) (ss_one (s_ret (e_op op_sub sSub (e_var 4) (e_var 5)))) ss_nil) (ss_cons (s_if (t_cmp (op_eqG hr.units) sEq (nomark _) (e_var 3) (e_str)) (ss_one (s_ret (e_op op_mul sMul (e_var 4) (e_var 5)))) ss_nil) (ss_one (s_ret (e_if (t_cmp (op_eqG hr.units) sEq (nomark _) (e_var 3) (e_str)) (e_callTy call_int1 sInt (by rfl) TX.int (by decide +kernel) (a_cons (e_cmp op_lt sLt (nomark _) (e_var 4) (e_var 5)) a_nil)) (e_callTy call_int1 sInt (by rfl) TX.int (by decide +kernel) (a_cons (e_cmp (op_eqG hr.units) sEq (nomark _) (e_var 4) (e_var 5)) a_nil))))))))))))))), D0.2.1, D0.1.kp, D0.2.2⟩
theorem d_cells_of {P : Program} {w : World} {K : PySem.W.Frag} {mg : Str → Option Value} {base : Heap} {k : Nat} {f : Addr} {fd : FuncData} (TX : TX K mg) (D0 : Def0 K mg "cells_of" s_cells_of f fd ["state"]) : Cal P w K mg base (k + 1) "cells_of" f fd ["state"] (runFn 1 1 (b_cells_of)) :=
  ⟨fn_d D0.1 sc_cells_of (by decide) fun cdv A outer s H E hr => (show SndSs (cxOf CX0 P w K mg base ["state"] "cells_of" (defScope s_cells_of) f cdv A outer s H E).nox (defBody s_cells_of) (b_cells_of) from (ss_one (s_ret (e_callTy (call_dict rfl) sDict (by rfl) TX.dict (by decide +kernel) (a_cons (e_ix ix_seq sIx (e_var 0) (e_int)) a_nil))))), D0.2.1, D0.1.kp, D0.2.2⟩
theorem d_is_over {P : Program} {w : World} {K : PySem.W.Frag} {mg : Str → Option Value} {base : Heap} {k : Nat} {f : Addr} {fd : FuncData} (TX : TX K mg) (D0 : Def0 K mg "is_over" s_is_over f fd ["state"]) : Cal P w K mg base (k + 1) "is_over" f fd ["state"] (runFn 1 1 (b_is_over)) :=
  ⟨fn_d D0.1 sc_is_over (by decide) fun cdv A outer s H E hr => (show SndSs (cxOf CX0 P w K mg base ["state"] "is_over" (defScope s_is_over) f cdv A outer s H E).nox (defBody s_is_over) (b_is_over) from (ss_one (s_ret (e_cmp (op_eqG hr.units) sEq (nomark _) (e_ix ix_seq sIx (e_var 0) (e_int)) (e_tup a_nil))))), D0.2.1, D0.1.kp, D0.2.2⟩
theorem d_facts {P : Program} {w : World} {K : PySem.W.Frag} {mg : Str → Option Value} {base : Heap} {k : Nat} {f : Addr} {fd : FuncData} (TX : TX K mg) (D0 : Def0 K mg "facts" s_facts f fd ["state"]) {a_cells_of : Addr} {d_cells_of : FuncData} {f_cells_of : Fn} (H_cells_of : Cal P w K mg base k "cells_of" a_cells_of d_cells_of ["state"] f_cells_of) {a_is_over : Addr} {d_is_over : FuncData} {f_is_over : Fn} (H_is_over : Cal P w K mg base k "is_over" a_is_over d_is_over ["state"] f_is_over) : Cal P w K mg base (k + 1) "facts" f fd ["state"] (runFn 1 1 (b_facts f_cells_of f_is_over)) :=
  ⟨fn_d D0.1 sc_facts (by decide) fun cdv A outer s H E hr => (show SndSs (cxOf CX0 P w K mg base ["state"] "facts" (defScope s_facts) f cdv A outer s H E).nox (defBody s_facts) (b_facts f_cells_of f_is_over) from (ss_one (s_ret (e_tup (a_cons (e_fz (e_if (t_not (t_tru (e_call H_is_over.1 hr (by rfl) H_is_over.2.1 H_is_over.2.2.1 H_is_over.2.2.2 (a_cons (e_fz (e_var 0)) a_nil)))) (e_callTy (call_dict rfl) sDict (by rfl) TX.dict (by decide +kernel) (a_cons (e_ix ix_seq sIx (e_ix ix_seq sIx (e_ix ix_seq sIx (e_var 0) (e_int)) (e_neg (e_int))) (e_int)) a_nil)) (e_dict0))) (a_cons (e_fz (e_call H_cells_of.1 hr (by rfl) H_cells_of.2.1 H_cells_of.2.2.1 H_cells_of.2.2.2 (a_cons (e_fz (e_var 0)) a_nil))) a_nil)))))), D0.2.1, D0.1.kp, D0.2.2⟩
theorem d_holds_along {P : Program} {w : World} {K : PySem.W.Frag} {mg : Str → Option Value} {base : Heap} {k : Nat} {f : Addr} {fd : FuncData} (TX : TX K mg) (D0 : Def0 K mg "holds_along" s_holds_along f fd ["run", "check"]) {a_holds_along : Addr} {d_holds_along : FuncData} {f_holds_along : Fn} (H_holds_along : Cal P w K mg base k "holds_along" a_holds_along d_holds_along ["run", "check"] f_holds_along) {a_worth : Addr} {d_worth : FuncData} {f_worth : Fn} (H_worth : Cal P w K mg base k "worth" a_worth d_worth ["expr", "variables", "cells"] f_worth) {a_facts : Addr} {d_facts : FuncData} {f_facts : Fn} (H_facts : Cal P w K mg base k "facts" a_facts d_facts ["state"] f_facts) : Cal P w K mg base (k + 1) "holds_along" f fd ["run", "check"] (runFn 12 2 (b_holds_along f_holds_along f_worth f_facts)) :=
  ⟨fn_d D0.1 sc_holds_along (by decide) fun cdv A outer s H E hr => (show SndSs (cxOf CX0 P w K mg base ["run", "check", "found", "state", "variables", "cells", "first", "one", "second", "other", "later", "k"] "holds_along" (defScope s_holds_along) f cdv A outer s H E).nox (defBody s_holds_along) (b_holds_along f_holds_along f_worth f_facts) from (ss_cons (s_if (t_cmp (op_eqG hr.units) sEq (nomark _) (e_ix ix_seq sIx (e_var 1) (e_int)) (e_str)) (ss_cons (s_set 2 sc_holds_along.nd rfl (by first | exact .inl rfl | exact .inr rfl) (e_lst a_nil)) (ss_cons (s_for PassesOwn.never rfl (SndI.x (i_seq (e_var 0))) (g_name 3 sc_holds_along.nd rfl (by first | exact .inl rfl | exact .inr rfl)) (ss_cons (s_unp (e_call H_facts.1 hr (by rfl) H_facts.2.1 H_facts.2.2.1 H_facts.2.2.2 (a_cons (e_fz (e_var 3)) a_nil)) (g_tup rfl (gs_cons (g_name 4 sc_holds_along.nd rfl (by first | exact .inl rfl | exact .inr rfl)) (gs_cons (g_name 5 sc_holds_along.nd rfl (by first | exact .inl rfl | exact .inr rfl)) gs_nil)) rfl)) (ss_one (s_app 2 (pv 2) (e_cmp (op_neG hr.units) sNe (nomark _) (e_call H_worth.1 hr (by rfl) H_worth.2.1 H_worth.2.2.1 H_worth.2.2.2 (a_cons (e_fz (e_ix ix_seq sIx (e_var 1) (e_int))) (a_cons (e_fz (e_var 4)) (a_cons (e_fz (e_var 5)) a_nil)))) (e_int)))))) (ss_one (s_ret (e_var 2))))) ss_nil) (ss_cons (s_set 6 sc_holds_along.nd rfl (by first | exact .inl rfl | exact .inr rfl) (e_call H_holds_along.1 hr (by rfl) H_holds_along.2.1 H_holds_along.2.2.1 H_holds_along.2.2.2 (a_cons (e_fz (e_var 0)) (a_cons (e_fz (e_ix ix_seq sIx (e_var 1) (e_int))) a_nil)))) (ss_cons (s_if (t_cmp (op_eqG hr.units) sEq (nomark _) (e_ix ix_seq sIx (e_var 1) (e_int)) (e_str)) (ss_one (s_ret (e_lc (own := [("one", 7)]) rfl sc_holds_along.nd (SndC.x (i_seqC (e_var 6))) (blkOk_by (by kernel_rfl)) (by decide) (fun _ _ _ _ _ => (g_name 7 sc_holds_along.nd rfl (by first | exact .inl rfl | exact .inr rfl))) (fun _ _ _ _ _ => ts_nil) (fun _ _ _ _ _ => (e_not (e_var 7)))))) ss_nil) (ss_cons (s_if (t_cmp (op_eqG hr.units) sEq (nomark _) (e_ix ix_seq sIx (e_var 1) (e_int)) (e_str)) (ss_one (s_ret (e_op op_addG sAdd (e_sl sl_any sSl (e_var 6) (o_some (e_int)) o_none) (e_lst (a_cons (e_fz (e_bl)) a_nil))))) ss_nil) (ss_cons (s_set 8 sc_holds_along.nd rfl (by first | exact .inl rfl | exact .inr rfl) (e_call H_holds_along.1 hr (by rfl) H_holds_along.2.1 H_holds_along.2.2.1 H_holds_along.2.2.2 (a_cons (e_fz (e_var 0)) (a_cons (e_fz (e_ix ix_seq sIx (e_var 1) (e_int))) a_nil)))) (ss_cons (s_if (t_cmp (op_eqG hr.units) sEq (nomark _) (e_ix ix_seq sIx (e_var 1) (e_int)) (e_str)) (ss_one (s_ret (e_lc (own := [("one", 7), ("other", 9)]) rfl sc_holds_along.nd (i_zip (by rfl) TX.zip (a_cons (e_var 6) (a_cons (e_var 8) a_nil)) a2_len) (blkOk_by (by kernel_rfl)) (by decide) (fun _ _ _ _ _ => (g_tup rfl (gs_cons (g_name 7 sc_holds_along.nd rfl (by first | exact .inl rfl | exact .inr rfl)) (gs_cons (g_name 9 sc_holds_along.nd rfl (by first | exact .inl rfl | exact .inr rfl)) gs_nil)) rfl)) (fun _ _ _ _ _ => ts_nil) (fun _ _ _ _ _ => ((e_and (e_var 7) (e_one (e_var 9)))))))) ss_nil) (ss_cons (s_par 2 10 rfl sc_holds_along.nd rfl rfl (by decide) rfl rfl (a_cons (e_lst a_nil) (a_cons (e_bl) a_nil))) (ss_cons (s_for PassesOwn.never rfl (SndI.x (i_range3 (by rfl) TX.range (a_cons (e_op op_sub sSub (e_callB call_len sLen (by rfl) TX.len (by decide +kernel) (a_cons (e_var 0) a_nil)) (e_int)) (a_cons (e_neg (e_int)) (a_cons (e_neg (e_int)) a_nil))) a3_len)) (g_name 11 sc_holds_along.nd rfl (by first | exact .inl rfl | exact .inr rfl)) (ss_cons (s_set 10 sc_holds_along.nd rfl (by first | exact .inl rfl | exact .inr rfl) ((e_or (e_ix ix_seq sIx (e_var 8) (e_var 11)) (e_one ((e_and (e_ix ix_seq sIx (e_var 6) (e_var 11)) (e_one (e_var 10)))))))) (ss_one (s_ins0 2 (pv 2) (e_var 10))))) (ss_one (s_ret (e_var 2)))))))))))), D0.2.1, D0.1.kp, D0.2.2⟩
theorem d_check_size {P : Program} {w : World} {K : PySem.W.Frag} {mg : Str → Option Value} {base : Heap} {k : Nat} {f : Addr} {fd : FuncData} (TX : TX K mg) (D0 : Def0 K mg "check_size" s_check_size f fd ["check"]) {a_check_size : Addr} {d_check_size : FuncData} {f_check_size : Fn} (H_check_size : Cal P w K mg base k "check_size" a_check_size d_check_size ["check"] f_check_size) : Cal P w K mg base (k + 1) "check_size" f fd ["check"] (runFn 2 1 (b_check_size f_check_size)) :=
  ⟨fn_d D0.1 sc_check_size (by decide) fun cdv A outer s H E hr => (show SndSs (cxOf CX0 P w K mg base ["check", "part"] "check_size" (defScope s_check_size) f cdv A outer s H E).nox (defBody s_check_size) (b_check_size f_check_size) from (ss_cons (s_if (t_cmp (op_eqG hr.units) sEq (nomark _) (e_ix ix_seq sIx (e_var 0) (e_int)) (e_str)) (ss_one (s_ret (e_int))) ss_nil) (ss_one (s_ret (e_op op_addG sAdd (e_int) (e_callB (cr_sum rfl) sSum (by rfl) TX.sum (by decide +kernel) (a_cons (e_lc (own := [("part", 1)]) rfl sc_check_size.nd (SndC.x (i_seqC (e_sl sl_any sSl (e_var 0) (o_some (e_int)) o_none))) (blkOk_by (by kernel_rfl)) (by decide) (fun _ _ _ _ _ => (g_name 1 sc_check_size.nd rfl (by first | exact .inl rfl | exact .inr rfl))) (fun _ _ _ _ _ => ts_nil) (fun _ _ _ _ _ => (e_call H_check_size.1 hr (by rfl) H_check_size.2.1 H_check_size.2.2.1 H_check_size.2.2.2 (a_cons (e_fz (e_var 1)) a_nil)))) a_nil))))))), D0.2.1, D0.1.kp, D0.2.2⟩
theorem d__law_size {P : Program} {w : World} {K : PySem.W.Frag} {mg : Str → Option Value} {base : Heap} {k : Nat} {f : Addr} {fd : FuncData} (TX : TX K mg) (D0 : Def0 K mg "_law_size" s__law_size f fd ["check"]) {a__law_size : Addr} {d__law_size : FuncData} {f__law_size : Fn} (H__law_size : Cal P w K mg base k "_law_size" a__law_size d__law_size ["check"] f__law_size) : Cal P w K mg base (k + 1) "_law_size" f fd ["check"] (runFn 2 1 (b__law_size f__law_size)) :=
  ⟨fn_d D0.1 sc__law_size (by decide) fun cdv A outer s H E hr => (show SndSs (cxOf CX0 P w K mg base ["check", "part"] "_law_size" (defScope s__law_size) f cdv A outer s H E).nox (defBody s__law_size) (b__law_size f__law_size) from (ss_one (s_ret (e_if (t_cmp (op_eqG hr.units) sEq (nomark _) (e_ix ix_seq sIx (e_var 0) (e_int)) (e_str)) (e_int) (e_op op_addG sAdd (e_int) (e_callB (cr_sum rfl) sSum (by rfl) TX.sum (by decide +kernel) (a_cons (e_lc (own := [("part", 1)]) rfl sc__law_size.nd (SndC.x (i_seqC (e_sl sl_any sSl (e_var 0) (o_some (e_int)) o_none))) (blkOk_by (by kernel_rfl)) (by decide) (fun _ _ _ _ _ => (g_name 1 sc__law_size.nd rfl (by first | exact .inl rfl | exact .inr rfl))) (fun _ _ _ _ _ => ts_nil) (fun _ _ _ _ _ => (e_call H__law_size.1 hr (by rfl) H__law_size.2.1 H__law_size.2.2.1 H__law_size.2.2.2 (a_cons (e_fz (e_var 1)) a_nil)))) a_nil))))))), D0.2.1, D0.1.kp, D0.2.2⟩
theorem d_last_true {P : Program} {w : World} {K : PySem.W.Frag} {mg : Str → Option Value} {base : Heap} {k : Nat} {f : Addr} {fd : FuncData} (TX : TX K mg) (D0 : Def0 K mg "last_true" s_last_true f fd ["run", "check"]) {a_holds_along : Addr} {d_holds_along : FuncData} {f_holds_along : Fn} (H_holds_along : Cal P w K mg base k "holds_along" a_holds_along d_holds_along ["run", "check"] f_holds_along) : Cal P w K mg base (k + 1) "last_true" f fd ["run", "check"] (runFn 5 2 (b_last_true f_holds_along)) :=
  ⟨fn_d D0.1 sc_last_true (by decide) fun cdv A outer s H E hr => (show SndSs (cxOf CX0 P w K mg base ["run", "check", "able", "k", "one"] "last_true" (defScope s_last_true) f cdv A outer s H E).nox (defBody s_last_true) (b_last_true f_holds_along) from (ss_cons (s_setLc (own := [("k", 3), ("one", 4)]) 2 rfl sc_last_true.nd rfl rfl (sw_true rfl rfl rfl (by decide +kernel)) (i_enum (by rfl) TX.enumerate (a_cons (e_call H_holds_along.1 hr (by rfl) H_holds_along.2.1 H_holds_along.2.2.1 H_holds_along.2.2.2 (a_cons (e_fz (e_var 0)) (a_cons (e_fz (e_var 1)) a_nil))) a_nil) a1_len) (blkOk_by (by kernel_rfl)) (by decide) (fun _ _ _ _ _ => (g_tup rfl (gs_cons (g_name 3 sc_last_true.nd rfl (by first | exact .inl rfl | exact .inr rfl)) (gs_cons (g_name 4 sc_last_true.nd rfl (by first | exact .inl rfl | exact .inr rfl)) gs_nil)) rfl)) (fun _ _ _ _ _ => (ts_one (t_tru (e_var 4)))) (fun _ _ _ _ _ => (e_var 3))) (ss_one (s_ret (e_if (t_cmp (op_neG hr.units) sNe (nomark _) (e_var 2) (e_lst a_nil)) (e_ix ix_seq sIx (e_var 2) (e_neg (e_int))) (e_non)))))), D0.2.1, D0.1.kp, D0.2.2⟩
theorem d_first_false {P : Program} {w : World} {K : PySem.W.Frag} {mg : Str → Option Value} {base : Heap} {k : Nat} {f : Addr} {fd : FuncData} (TX : TX K mg) (D0 : Def0 K mg "first_false" s_first_false f fd ["run", "check"]) {a_holds_along : Addr} {d_holds_along : FuncData} {f_holds_along : Fn} (H_holds_along : Cal P w K mg base k "holds_along" a_holds_along d_holds_along ["run", "check"] f_holds_along) : Cal P w K mg base (k + 1) "first_false" f fd ["run", "check"] (runFn 3 2 (b_first_false f_holds_along)) :=
  ⟨fn_d D0.1 sc_first_false (by decide) fun cdv A outer s H E hr => (show SndSs (cxOf CX0 P w K mg base ["run", "check", "told"] "first_false" (defScope s_first_false) f cdv A outer s H E).nox (defBody s_first_false) (b_first_false f_holds_along) from (ss_cons (s_set 2 sc_first_false.nd rfl (by first | exact .inl rfl | exact .inr rfl) (e_call H_holds_along.1 hr (by rfl) H_holds_along.2.1 H_holds_along.2.2.1 H_holds_along.2.2.2 (a_cons (e_fz (e_var 0)) (a_cons (e_fz (e_var 1)) a_nil)))) (ss_one (s_ret (e_if (t_cmp op_inG (sInG false) (by rfl) (e_bl) (e_var 2)) (e_idx (e_var 2) (e_bl)) (e_non)))))), D0.2.1, D0.1.kp, D0.2.2⟩
theorem d_check_holds {P : Program} {w : World} {K : PySem.W.Frag} {mg : Str → Option Value} {base : Heap} {k : Nat} {f : Addr} {fd : FuncData} (TX : TX K mg) (D0 : Def0 K mg "check_holds" s_check_holds f fd ["run", "check"]) {a_holds_along : Addr} {d_holds_along : FuncData} {f_holds_along : Fn} (H_holds_along : Cal P w K mg base k "holds_along" a_holds_along d_holds_along ["run", "check"] f_holds_along) : Cal P w K mg base (k + 1) "check_holds" f fd ["run", "check"] (runFn 2 2 (b_check_holds f_holds_along)) :=
  ⟨fn_d D0.1 sc_check_holds (by decide) fun cdv A outer s H E hr => (show SndSs (cxOf CX0 P w K mg base ["run", "check"] "check_holds" (defScope s_check_holds) f cdv A outer s H E).nox (defBody s_check_holds) (b_check_holds f_holds_along) from (ss_one (s_ret (e_ix ix_seq sIx (e_call H_holds_along.1 hr (by rfl) H_holds_along.2.1 H_holds_along.2.2.1 H_holds_along.2.2.2 (a_cons (e_fz (e_var 0)) (a_cons (e_fz (e_var 1)) a_nil))) (e_int))))), D0.2.1, D0.1.kp, D0.2.2⟩
theorem d__law_worth {P : Program} {w : World} {K : PySem.W.Frag} {mg : Str → Option Value} {base : Heap} {k : Nat} {f : Addr} {fd : FuncData} (TX : TX K mg) (D0 : Def0 K mg "_law_worth" s__law_worth f fd ["expr", "variables", "cells"]) {a__law_worth : Addr} {d__law_worth : FuncData} {f__law_worth : Fn} (H__law_worth : Cal P w K mg base k "_law_worth" a__law_worth d__law_worth ["expr", "variables", "cells"] f__law_worth) : Cal P w K mg base (k + 1) "_law_worth" f fd ["expr", "variables", "cells"] (runFn 5 3 (b__law_worth f__law_worth)) :=
  ⟨fn_d D0.1 sc__law_worth (by decide) fun cdv A outer s H E hr => (show SndSs (cxOf CX0 P w K mg base ["expr", "variables", "cells", "own", "part"] "_law_worth" (defScope s__law_worth) f cdv A outer s H E).nox (defBody s__law_worth) (b__law_worth f__law_worth) from (ss_cons (s_if (t_tru (e_callB call_isi sIsi (by rfl) TX.isinstance (by decide +kernel) (a_cons (e_var 0) (a_cons (e_ty (n := "int") (by rfl) TX.int (by decide +kernel)) a_nil)))) (ss_one (s_ret (e_var 0))) ss_nil) (ss_cons (s_if (t_cmp (op_eqG hr.units) sEq (nomark _) (e_ix ix_seq sIx (e_var 0) (e_int)) (e_str)) (ss_one (s_ret (e_get2 (hu_of hr) (e_var 1) (e_ix ix_seq sIx (e_var 0) (e_int)) (e_int) ⟨rfl, rfl, rfl, rfl⟩))) ss_nil) (ss_cons (s_setLc (own := [("part", 4)]) 3 rfl sc__law_worth.nd rfl rfl (sw_true rfl rfl rfl (by decide +kernel)) (SndC.x (i_seqC (e_sl sl_any sSl (e_var 0) (o_some (e_int)) o_none))) (blkOk_by (by kernel_rfl)) (by decide) (fun _ _ _ _ _ => (g_name 4 sc__law_worth.nd rfl (by first | exact .inl rfl | exact .inr rfl))) (fun _ _ _ _ _ => ts_nil) (fun _ _ _ _ _ => (e_call H__law_worth.1 hr (by rfl) H__law_worth.2.1 H__law_worth.2.2.1 H__law_worth.2.2.2 (a_cons (e_fz (e_var 4)) (a_cons (e_fz (e_var 1)) (a_cons (e_fz (e_var 2)) a_nil)))))) (ss_cons (s_if (t_cmp (op_eqG hr.units) sEq (nomark _) (e_ix ix_seq sIx (e_var 0) (e_int)) (e_str)) (ss_one (s_ret (e_get2 (hu_of hr) (e_var 2) (e_ix ix_seq sIx (e_var 3) (e_int)) (e_int) ⟨rfl, rfl, rfl, rfl⟩))) ss_nil) (ss_cons (s_if (t_cmp (op_eqG hr.units) sEq (nomark _) (e_ix ix_seq sIx (e_var 0) (e_int)) (e_str)) (ss_one (s_ret (e_if (t_cmp (op_eqG hr.units) sEq (nomark _) (e_ix ix_seq sIx (e_var 3) (e_int)) (e_int)) (e_int) (e_int)))) ss_nil) (ss_cons (s_if (t_cmp (op_eqG hr.units) sEq (nomark _) (e_ix ix_seq sIx (e_var 0) (e_int)) (e_str)) (ss_one (s_ret (e_op op_sub sSub (e_ix ix_seq sIx (e_var 3) (e_int)) (e_ix ix_seq sIx (e_var 3) (e_int))))) ss_nil) (ss_one (s_ret (e_if (t_w (w_or (t_w (w_and (t_cmp op_lt sLt (nomark _) (e_ix ix_seq sIx (e_var 3) (e_int)) (e_ix ix_seq sIx (e_var 3) (e_int))) (w_and1 (t_cmp (op_eqG hr.units) sEq (nomark _) (e_ix ix_seq sIx (e_var 0) (e_int)) (e_str))))) (w_or1 (t_w (w_and (t_cmp (op_eqG hr.units) sEq (nomark _) (e_ix ix_seq sIx (e_var 3) (e_int)) (e_ix ix_seq sIx (e_var 3) (e_int))) (w_and1 (t_cmp (op_eqG hr.units) sEq (nomark _) (e_ix ix_seq sIx (e_var 0) (e_int)) (e_str)))))))) (e_int) (e_int))))))))))), D0.2.1, D0.1.kp, D0.2.2⟩
theorem d__law_at {P : Program} {w : World} {K : PySem.W.Frag} {mg : Str → Option Value} {base : Heap} {k : Nat} {f : Addr} {fd : FuncData} (TX : TX K mg) (D0 : Def0 K mg "_law_at" s__law_at f fd ["state", "expr"]) {a__law_worth : Addr} {d__law_worth : FuncData} {f__law_worth : Fn} (H__law_worth : Cal P w K mg base k "_law_worth" a__law_worth d__law_worth ["expr", "variables", "cells"] f__law_worth) : Cal P w K mg base (k + 1) "_law_at" f fd ["state", "expr"] (runFn 3 2 (b__law_at f__law_worth)) :=
  ⟨fn_d D0.1 sc__law_at (by decide) fun cdv A outer s H E hr => (show SndSs (cxOf CX0 P w K mg base ["state", "expr", "variables"] "_law_at" (defScope s__law_at) f cdv A outer s H E).nox (defBody s__law_at) (b__law_at f__law_worth) from (ss_cons (s_set 2 sc__law_at.nd rfl (by first | exact .inl rfl | exact .inr rfl) (e_if (t_cmp (op_neG hr.units) sNe (nomark _) (e_ix ix_seq sIx (e_var 0) (e_int)) (e_tup a_nil)) (e_callTy (call_dict rfl) sDict (by rfl) TX.dict (by decide +kernel) (a_cons (e_ix ix_seq sIx (e_ix ix_seq sIx (e_ix ix_seq sIx (e_var 0) (e_int)) (e_neg (e_int))) (e_int)) a_nil)) (e_dict0))) (ss_one (s_frz [2] (s_ret (e_cmp (op_neG hr.units) sNe (nomark _) (e_call H__law_worth.1 hr (by rfl) H__law_worth.2.1 H__law_worth.2.2.1 H__law_worth.2.2.2 (a_cons (e_fz (e_var 1)) (a_cons (e_fz (e_var 2)) (a_cons (e_fz (e_callTy (call_dict rfl) sDict (by rfl) TX.dict (by decide +kernel) (a_cons (e_ix ix_seq sIx (e_var 0) (e_int)) a_nil))) a_nil)))) (e_int))))))), D0.2.1, D0.1.kp, D0.2.2⟩
theorem d__law_holds {P : Program} {w : World} {K : PySem.W.Frag} {mg : Str → Option Value} {base : Heap} {k : Nat} {f : Addr} {fd : FuncData} (TX : TX K mg) (D0 : Def0 K mg "_law_holds" s__law_holds f fd ["run", "k", "check"]) {a__law_holds : Addr} {d__law_holds : FuncData} {f__law_holds : Fn} (H__law_holds : Cal P w K mg base k "_law_holds" a__law_holds d__law_holds ["run", "k", "check"] f__law_holds) {a__law_at : Addr} {d__law_at : FuncData} {f__law_at : Fn} (H__law_at : Cal P w K mg base k "_law_at" a__law_at d__law_at ["state", "expr"] f__law_at) : Cal P w K mg base (k + 1) "_law_holds" f fd ["run", "k", "check"] (runFn 4 3 (b__law_holds f__law_holds f__law_at)) :=
  ⟨fn_d D0.1 sc__law_holds (by decide) fun cdv A outer s H E hr => (show SndSs (cxOf CX0 P w K mg base ["run", "k", "check", "j"] "_law_holds" (defScope s__law_holds) f cdv A outer s H E).nox (defBody s__law_holds) (b__law_holds f__law_holds f__law_at) from (ss_cons (s_if (t_cmp (op_eqG hr.units) sEq (nomark _) (e_ix ix_seq sIx (e_var 2) (e_int)) (e_str)) (ss_one (s_ret (e_call H__law_at.1 hr (by rfl) H__law_at.2.1 H__law_at.2.2.1 H__law_at.2.2.2 (a_cons (e_fz (e_ix ix_seq sIx (e_var 0) (e_var 1))) (a_cons (e_fz (e_ix ix_seq sIx (e_var 2) (e_int))) a_nil))))) ss_nil) (ss_cons (s_if (t_cmp (op_eqG hr.units) sEq (nomark _) (e_ix ix_seq sIx (e_var 2) (e_int)) (e_str)) (ss_one (s_ret (e_not (e_call H__law_holds.1 hr (by rfl) H__law_holds.2.1 H__law_holds.2.2.1 H__law_holds.2.2.2 (a_cons (e_fz (e_var 0)) (a_cons (e_fz (e_var 1)) (a_cons (e_fz (e_ix ix_seq sIx (e_var 2) (e_int))) a_nil))))))) ss_nil) (ss_cons (s_if (t_cmp (op_eqG hr.units) sEq (nomark _) (e_ix ix_seq sIx (e_var 2) (e_int)) (e_str)) (ss_one (s_ret ((e_and (e_call H__law_holds.1 hr (by rfl) H__law_holds.2.1 H__law_holds.2.2.1 H__law_holds.2.2.2 (a_cons (e_fz (e_var 0)) (a_cons (e_fz (e_var 1)) (a_cons (e_fz (e_ix ix_seq sIx (e_var 2) (e_int))) a_nil)))) (e_one (e_call H__law_holds.1 hr (by rfl) H__law_holds.2.1 H__law_holds.2.2.1 H__law_holds.2.2.2 (a_cons (e_fz (e_var 0)) (a_cons (e_fz (e_var 1)) (a_cons (e_fz (e_ix ix_seq sIx (e_var 2) (e_int))) a_nil))))))))) ss_nil) (ss_cons (s_if (t_cmp (op_eqG hr.units) sEq (nomark _) (e_ix ix_seq sIx (e_var 2) (e_int)) (e_str)) (ss_one (s_ret ((e_and (e_cmp op_lt sLt (nomark _) (e_op op_addG sAdd (e_var 1) (e_int)) (e_callB call_len sLen (by rfl) TX.len (by decide +kernel) (a_cons (e_var 0) a_nil))) (e_one (e_call H__law_holds.1 hr (by rfl) H__law_holds.2.1 H__law_holds.2.2.1 H__law_holds.2.2.2 (a_cons (e_fz (e_var 0)) (a_cons (e_fz (e_op op_addG sAdd (e_var 1) (e_int))) (a_cons (e_fz (e_ix ix_seq sIx (e_var 2) (e_int))) a_nil))))))))) ss_nil) (ss_cons (s_for PassesOwn.never rfl (SndI.x (i_range2 (by rfl) TX.range (a_cons (e_var 1) (a_cons (e_callB call_len sLen (by rfl) TX.len (by decide +kernel) (a_cons (e_var 0) a_nil)) a_nil)) a2_len)) (g_name 3 sc__law_holds.nd rfl (by first | exact .inl rfl | exact .inr rfl)) (ss_cons (s_if (t_tru (e_call H__law_holds.1 hr (by rfl) H__law_holds.2.1 H__law_holds.2.2.1 H__law_holds.2.2.2 (a_cons (e_fz (e_var 0)) (a_cons (e_fz (e_var 3)) (a_cons (e_fz (e_ix ix_seq sIx (e_var 2) (e_int))) a_nil))))) (ss_one (s_ret (e_bl))) ss_nil) (ss_one (s_if (t_not (t_tru (e_call H__law_holds.1 hr (by rfl) H__law_holds.2.1 H__law_holds.2.2.1 H__law_holds.2.2.2 (a_cons (e_fz (e_var 0)) (a_cons (e_fz (e_var 3)) (a_cons (e_fz (e_ix ix_seq sIx (e_var 2) (e_int))) a_nil)))))) (ss_one (s_ret (e_bl))) ss_nil)))) (ss_one (s_ret (e_bl))))))))), D0.2.1, D0.1.kp, D0.2.2⟩
theorem d__law_pick {P : Program} {w : World} {K : PySem.W.Frag} {mg : Str → Option Value} {base : Heap} {k : Nat} {f : Addr} {fd : FuncData} (TX : TX K mg) (D0 : Def0 K mg "_law_pick" s__law_pick f fd ["w", "rows"]) {a__law_next : Addr} {d__law_next : FuncData} {f__law_next : Fn} (H__law_next : Cal P w K mg base k "_law_next" a__law_next d__law_next ["w", "many"] f__law_next) : Cal P w K mg base (k + 1) "_law_pick" f fd ["w", "rows"] (runFn 2 2 (b__law_pick f__law_next)) :=
  ⟨fn_d D0.1 sc__law_pick (by decide) fun cdv A outer s H E hr => (show SndSs (cxOf CX0 P w K mg base ["w", "rows"] "_law_pick" (defScope s__law_pick) f cdv A outer s H E).nox (defBody s__law_pick) (b__law_pick f__law_next) from (ss_one (s_ret (e_ix ix_seq sIx (e_var 1) (e_call H__law_next.1 hr (by rfl) H__law_next.2.1 H__law_next.2.2.1 H__law_next.2.2.2 (a_cons (e_fz (e_var 0)) (a_cons (e_fz (e_callB call_len sLen (by rfl) TX.len (by decide +kernel) (a_cons (e_var 1) a_nil))) a_nil))))))), D0.2.1, D0.1.kp, D0.2.2⟩
theorem d__law_expr {P : Program} {w : World} {K : PySem.W.Frag} {mg : Str → Option Value} {base : Heap} {k : Nat} {f : Addr} {fd : FuncData} (TX : TX K mg) (D0 : Def0 K mg "_law_expr" s__law_expr f fd ["w"]) {a__law_pick : Addr} {d__law_pick : FuncData} {f__law_pick : Fn} (H__law_pick : Cal P w K mg base k "_law_pick" a__law_pick d__law_pick ["w", "rows"] f__law_pick) : Cal P w K mg base (k + 1) "_law_expr" f fd ["w"] (runFn 1 1 (b__law_expr f__law_pick)) :=
  ⟨fn_d D0.1 sc__law_expr (by decide) fun cdv A outer s H E hr => (show SndSs (cxOf CX0 P w K mg base ["w"] "_law_expr" (defScope s__law_expr) f cdv A outer s H E).nox (defBody s__law_expr) (b__law_expr f__law_pick) from (ss_one (s_ret (e_call H__law_pick.1 hr (by rfl) H__law_pick.2.1 H__law_pick.2.2.1 H__law_pick.2.2.2 (a_cons (e_fz (e_var 0)) (a_cons (e_fz (e_lst (a_cons (e_fz (e_int)) (a_cons (e_fz (e_int)) (a_cons (e_fz (e_tup (a_cons (e_fz (e_str)) (a_cons (e_fz (e_str)) a_nil)))) (a_cons (e_fz (e_tup (a_cons (e_fz (e_str)) (a_cons (e_fz (e_tup (a_cons (e_fz (e_str)) (a_cons (e_fz (e_str)) a_nil)))) a_nil)))) (a_cons (e_fz (e_tup (a_cons (e_fz (e_str)) (a_cons (e_fz (e_int)) a_nil)))) (a_cons (e_fz (e_tup (a_cons (e_fz (e_str)) (a_cons (e_fz (e_tup (a_cons (e_fz (e_str)) (a_cons (e_fz (e_str)) a_nil)))) (a_cons (e_fz (e_tup (a_cons (e_fz (e_str)) (a_cons (e_fz (e_int)) a_nil)))) a_nil))))) (a_cons (e_fz (e_tup (a_cons (e_fz (e_str)) (a_cons (e_fz (e_tup (a_cons (e_fz (e_str)) (a_cons (e_fz (e_str)) a_nil)))) (a_cons (e_fz (e_int)) a_nil))))) (a_cons (e_fz (e_tup (a_cons (e_fz (e_str)) (a_cons (e_fz (e_tup (a_cons (e_fz (e_str)) (a_cons (e_fz (e_tup (a_cons (e_fz (e_str)) (a_cons (e_fz (e_str)) a_nil)))) a_nil)))) (a_cons (e_fz (e_int)) a_nil))))) a_nil)))))))))) a_nil)))))), D0.2.1, D0.1.kp, D0.2.2⟩
theorem d__law_check {P : Program} {w : World} {K : PySem.W.Frag} {mg : Str → Option Value} {base : Heap} {k : Nat} {f : Addr} {fd : FuncData} (TX : TX K mg) (D0 : Def0 K mg "_law_check" s__law_check f fd ["w", "deep"]) {a__law_check : Addr} {d__law_check : FuncData} {f__law_check : Fn} (H__law_check : Cal P w K mg base k "_law_check" a__law_check d__law_check ["w", "deep"] f__law_check) {a__law_expr : Addr} {d__law_expr : FuncData} {f__law_expr : Fn} (H__law_expr : Cal P w K mg base k "_law_expr" a__law_expr d__law_expr ["w"] f__law_expr) {a__law_pick : Addr} {d__law_pick : FuncData} {f__law_pick : Fn} (H__law_pick : Cal P w K mg base k "_law_pick" a__law_pick d__law_pick ["w", "rows"] f__law_pick) : Cal P w K mg base (k + 1) "_law_check" f fd ["w", "deep"] (runFn 3 2 (b__law_check f__law_check f__law_expr f__law_pick)) :=
  ⟨fn_d D0.1 sc__law_check (by decide) fun cdv A outer s H E hr => (show SndSs (cxOf CX0 P w K mg base ["w", "deep", "kind"] "_law_check" (defScope s__law_check) f cdv A outer s H E).nox (defBody s__law_check) (b__law_check f__law_check f__law_expr f__law_pick) from (ss_cons (s_set 2 sc__law_check.nd rfl (by first | exact .inl rfl | exact .inr rfl) (e_if (t_cmp op_gt sGt (nomark _) (e_var 1) (e_int)) (e_call H__law_pick.1 hr (by rfl) H__law_pick.2.1 H__law_pick.2.2.1 H__law_pick.2.2.2 (a_cons (e_fz (e_var 0)) (a_cons (e_fz (e_lst (a_cons (e_fz (e_str)) (a_cons (e_fz (e_str)) (a_cons (e_fz (e_str)) (a_cons (e_fz (e_str)) (a_cons (e_fz (e_str)) (a_cons (e_fz (e_str)) a_nil)))))))) a_nil))) (e_str))) (ss_cons (s_if (t_cmp (op_eqG hr.units) sEq (nomark _) (e_var 2) (e_str)) (ss_one (s_ret (e_tup (a_cons (e_fz (e_str)) (a_cons (e_fz (e_call H__law_expr.1 hr (by rfl) H__law_expr.2.1 H__law_expr.2.2.1 H__law_expr.2.2.2 (a_cons (e_fz (e_var 0)) a_nil))) a_nil))))) ss_nil) (ss_cons (s_if (t_cmp op_inG (sInG false) (by rfl) (e_var 2) (e_tup (a_cons (e_fz (e_str)) (a_cons (e_fz (e_str)) a_nil)))) (ss_one (s_frz [2] (s_ret (e_tup (a_cons (e_fz (e_var 2)) (a_cons (e_fz (e_call H__law_check.1 hr (by rfl) H__law_check.2.1 H__law_check.2.2.1 H__law_check.2.2.2 (a_cons (e_fz (e_var 0)) (a_cons (e_fz (e_op op_sub sSub (e_var 1) (e_int))) a_nil)))) a_nil)))))) ss_nil) (ss_one (s_frz [2] (s_ret (e_tup (a_cons (e_fz (e_var 2)) (a_cons (e_fz (e_call H__law_check.1 hr (by rfl) H__law_check.2.1 H__law_check.2.2.1 H__law_check.2.2.2 (a_cons (e_fz (e_var 0)) (a_cons (e_fz (e_op op_sub sSub (e_var 1) (e_int))) a_nil)))) (a_cons (e_fz (e_call H__law_check.1 hr (by rfl) H__law_check.2.1 H__law_check.2.2.1 H__law_check.2.2.2 (a_cons (e_fz (e_var 0)) (a_cons (e_fz (e_op op_sub sSub (e_var 1) (e_int))) a_nil)))) a_nil))))))))))), D0.2.1, D0.1.kp, D0.2.2⟩
theorem d__law_run_of {P : Program} {w : World} {K : PySem.W.Frag} {mg : Str → Option Value} {base : Heap} {k : Nat} {f : Addr} {fd : FuncData} (TX : TX K mg) (D0 : Def0 K mg "_law_run_of" s__law_run_of f fd ["w"]) {a__law_next : Addr} {d__law_next : FuncData} {f__law_next : Fn} (H__law_next : Cal P w K mg base k "_law_next" a__law_next d__law_next ["w", "many"] f__law_next) : Cal P w K mg base (k + 1) "_law_run_of" f fd ["w"] (runFn 8 1 (b__law_run_of f__law_next)) :=
  ⟨fn_d D0.1 sc__law_run_of (by decide) fun cdv A outer s H E hr => (show SndSs (cxOf CX0 P w K mg base ["w", "run", "k", "pairs", "cells", "frames", "name", "place"] "_law_run_of" (defScope s__law_run_of) f cdv A outer s H E).nox (defBody s__law_run_of) (b__law_run_of f__law_next) from (ss_cons (s_set 1 sc__law_run_of.nd rfl (by first | exact .inl rfl | exact .inr rfl) (e_lst a_nil)) (ss_cons (s_for PassesOwn.never rfl (SndI.x (i_range1 (by rfl) TX.range (a_cons (e_op op_addG sAdd (e_int) (e_call H__law_next.1 hr (by rfl) H__law_next.2.1 H__law_next.2.2.1 H__law_next.2.2.2 (a_cons (e_fz (e_var 0)) (a_cons (e_fz (e_int)) a_nil)))) a_nil) (hone := a1_len))) (g_name 2 sc__law_run_of.nd rfl (by first | exact .inl rfl | exact .inr rfl)) (ss_cons (s_setLc (own := [("name", 6)]) 3 rfl sc__law_run_of.nd rfl rfl (sw_true rfl rfl rfl (by decide +kernel)) (SndC.x (i_seqC (e_tup (a_cons (e_fz (e_str)) (a_cons (e_fz (e_str)) a_nil))))) (blkOk_by (by kernel_rfl)) (by decide) (fun _ _ _ _ _ => (g_name 6 sc__law_run_of.nd rfl (by first | exact .inl rfl | exact .inr rfl))) (fun _ _ _ _ _ => (ts_one (t_cmp op_gt sGt (nomark _) (e_call H__law_next.1 hr (by rfl) H__law_next.2.1 H__law_next.2.2.1 H__law_next.2.2.2 (a_cons (e_fz (e_var 0)) (a_cons (e_fz (e_int)) a_nil))) (e_int)))) (fun _ _ _ _ _ => (e_tup (a_cons (e_fz (e_var 6)) (a_cons (e_fz (e_op op_addG sAdd (e_int) (e_call H__law_next.1 hr (by rfl) H__law_next.2.1 H__law_next.2.2.1 H__law_next.2.2.2 (a_cons (e_fz (e_var 0)) (a_cons (e_fz (e_int)) a_nil))))) a_nil))))) (ss_cons (s_set 4 sc__law_run_of.nd rfl (by first | exact .inl rfl | exact .inr rfl) (e_callTy call_tupF sTuple (by rfl) TX.tuple (by decide +kernel) (a_cons (e_lc (own := [("place", 7)]) rfl sc__law_run_of.nd (SndC.x (i_seqC (e_tup (a_cons (e_fz (e_int)) (a_cons (e_fz (e_int)) (a_cons (e_fz (e_int)) a_nil)))))) (blkOk_by (by kernel_rfl)) (by decide) (fun _ _ _ _ _ => (g_name 7 sc__law_run_of.nd rfl (by first | exact .inl rfl | exact .inr rfl))) (fun _ _ _ _ _ => (ts_one (t_cmp (op_eqG hr.units) sEq (nomark _) (e_call H__law_next.1 hr (by rfl) H__law_next.2.1 H__law_next.2.2.1 H__law_next.2.2.2 (a_cons (e_fz (e_var 0)) (a_cons (e_fz (e_int)) a_nil))) (e_int)))) (fun _ _ _ _ _ => (e_tup (a_cons (e_fz (e_var 7)) (a_cons (e_fz (e_op op_addG sAdd (e_int) (e_call H__law_next.1 hr (by rfl) H__law_next.2.1 H__law_next.2.2.1 H__law_next.2.2.2 (a_cons (e_fz (e_var 0)) (a_cons (e_fz (e_int)) a_nil))))) a_nil))))) a_nil))) (ss_cons (s_set 5 sc__law_run_of.nd rfl (by first | exact .inl rfl | exact .inr rfl) (e_if (t_cmp (op_eqG hr.units) sEq (nomark _) (e_call H__law_next.1 hr (by rfl) H__law_next.2.1 H__law_next.2.2.1 H__law_next.2.2.2 (a_cons (e_fz (e_var 0)) (a_cons (e_fz (e_int)) a_nil))) (e_int)) (e_tup (a_cons (e_fz (e_tup (a_cons (e_fz (e_str)) (a_cons (e_fz (e_int)) (a_cons (e_fz (e_tup (a_cons (e_fz (e_tup (a_cons (e_fz (e_str)) (a_cons (e_fz (e_int)) a_nil)))) a_nil))) (a_cons (e_fz (e_non)) a_nil)))))) a_nil)) (e_tup a_nil))) (ss_one (s_app 1 (pv 1) (e_tup (a_cons (e_fz (e_op op_addG sAdd (e_var 5) (e_tup (a_cons (e_fz (e_tup (a_cons (e_fz (e_str)) (a_cons (e_fz (e_var 2)) (a_cons (e_fz (e_callTy call_tupF sTuple (by rfl) TX.tuple (by decide +kernel) (a_cons (e_var 3) a_nil))) (a_cons (e_fz (e_str)) a_nil)))))) a_nil)))) (a_cons (e_fz (e_var 4)) (a_cons (e_fz (e_tup a_nil)) (a_cons (e_fz (e_int)) a_nil))))))))))) (ss_cons (s_if (t_cmp (op_eqG hr.units) sEq (nomark _) (e_call H__law_next.1 hr (by rfl) H__law_next.2.1 H__law_next.2.2.1 H__law_next.2.2.2 (a_cons (e_fz (e_var 0)) (a_cons (e_fz (e_int)) a_nil))) (e_int)) (ss_one (s_app 1 (pv 1) (e_tup (a_cons (e_fz (e_tup a_nil)) (a_cons (e_fz (e_ix ix_seq sIx (e_ix ix_seq sIx (e_var 1) (e_neg (e_int))) (e_int))) (a_cons (e_fz (e_tup a_nil)) (a_cons (e_fz (e_int)) a_nil))))))) ss_nil) (ss_one (s_ret (e_callTy call_tupF sTuple (by rfl) TX.tuple (by decide +kernel) (a_cons (e_var 1) a_nil)))))))), D0.2.1, D0.1.kp, D0.2.2⟩
theorem d_law {P : Program} {w : World} {K : PySem.W.Frag} {mg : Str → Option Value} {base : Heap} {k : Nat} {f : Addr} {fd : FuncData} (TX : TX K mg) (D0 : Def0 K mg "law" s_law f fd ["script"]) {a__law_draws : Addr} {d__law_draws : FuncData} {f__law_draws : Fn} (H__law_draws : Cal P w K mg base k "_law_draws" a__law_draws d__law_draws ["script", "many"] f__law_draws) {a__law_is_check : Addr} {d__law_is_check : FuncData} {f__law_is_check : Fn} (H__law_is_check : Cal P w K mg base k "_law_is_check" a__law_is_check d__law_is_check ["thing"] f__law_is_check) {a_is_check : Addr} {d_is_check : FuncData} {f_is_check : Fn} (H_is_check : Cal P w K mg base k "is_check" a_is_check d_is_check ["thing"] f_is_check) {a__law_is_bit : Addr} {d__law_is_bit : FuncData} {f__law_is_bit : Fn} (H__law_is_bit : Cal P w K mg base k "_law_is_bit" a__law_is_bit d__law_is_bit ["said", "due"] f__law_is_bit) {a__law_next : Addr} {d__law_next : FuncData} {f__law_next : Fn} (H__law_next : Cal P w K mg base k "_law_next" a__law_next d__law_next ["w", "many"] f__law_next) {a_leads_to : Addr} {d_leads_to : FuncData} {f_leads_to : Fn} (H_leads_to : Cal P w K mg base k "leads_to" a_leads_to d_leads_to ["one", "other"] f_leads_to) {a_once : Addr} {d_once : FuncData} {f_once : Fn} (H_once : Cal P w K mg base k "once" a_once d_once ["check"] f_once) {a_either : Addr} {d_either : FuncData} {f_either : Fn} (H_either : Cal P w K mg base k "either" a_either d_either ["one", "other"] f_either) {a_always : Addr} {d_always : FuncData} {f_always : Fn} (H_always : Cal P w K mg base k "always" a_always d_always ["check"] f_always) {a_holds_along : Addr} {d_holds_along : FuncData} {f_holds_along : Fn} (H_holds_along : Cal P w K mg base k "holds_along" a_holds_along d_holds_along ["run", "check"] f_holds_along) {a_check_size : Addr} {d_check_size : FuncData} {f_check_size : Fn} (H_check_size : Cal P w K mg base k "check_size" a_check_size d_check_size ["check"] f_check_size) {a__law_size : Addr} {d__law_size : FuncData} {f__law_size : Fn} (H__law_size : Cal P w K mg base k "_law_size" a__law_size d__law_size ["check"] f__law_size) {a_last_true : Addr} {d_last_true : FuncData} {f_last_true : Fn} (H_last_true : Cal P w K mg base k "last_true" a_last_true d_last_true ["run", "check"] f_last_true) {a_first_false : Addr} {d_first_false : FuncData} {f_first_false : Fn} (H_first_false : Cal P w K mg base k "first_false" a_first_false d_first_false ["run", "check"] f_first_false) {a_check_holds : Addr} {d_check_holds : FuncData} {f_check_holds : Fn} (H_check_holds : Cal P w K mg base k "check_holds" a_check_holds d_check_holds ["run", "check"] f_check_holds) {a__law_holds : Addr} {d__law_holds : FuncData} {f__law_holds : Fn} (H__law_holds : Cal P w K mg base k "_law_holds" a__law_holds d__law_holds ["run", "k", "check"] f__law_holds) {a__law_check : Addr} {d__law_check : FuncData} {f__law_check : Fn} (H__law_check : Cal P w K mg base k "_law_check" a__law_check d__law_check ["w", "deep"] f__law_check) {a__law_run_of : Addr} {d__law_run_of : FuncData} {f__law_run_of : Fn} (H__law_run_of : Cal P w K mg base k "_law_run_of" a__law_run_of d__law_run_of ["w"] f__law_run_of)
    (math : ∀ ns : List Int, ns.length ≤ 63 → ∃ ds : List Int, f__law_draws [.scr ns, .int 400] none = some ((.lst (ds.map D.int), .ow), none) ∧ ∃ w', b_law f__law_is_check f_is_check f__law_is_bit f__law_next f_leads_to f_once f_either f_always f_holds_along f_check_size f__law_size f_last_true f_first_false f_check_holds f__law_holds f__law_check f__law_run_of ((startE 17 [.scr ns]).set 1 (some (.w, false))) (some ⟨ds, 0⟩) = some (.rt (.bl true, .fz) w')) : FnOk P w K mg base CX0 (k + 1) f fd ["script"] (spLaw K) :=
  law_d (Gd := f__law_draws) (n := 400) (iw := 1) D0.1 sc_law (by decide) rfl (fun cdv A outer s H E hr => ⟨ps_set (i := 1) sc_law.nd rfl (by first | exact .inl rfl | exact .inr rfl) (pe_disp (pps_cons pe_str (e_call H__law_draws.1 hr (by rfl) H__law_draws.2.1 H__law_draws.2.2.1 H__law_draws.2.2.2 (a_cons (e_var 0) (a_cons e_int a_nil))) (pps_cons pe_str pe_int pps_nil)) (by rfl) (by rfl) (fun z => by cases z) (by decide)), (show SndSs (cxOf CX0 P w K mg base ["script", "w", "turn", "told", "others", "mades", "due", "made", "k", "things", "bent", "thing", "run", "check", "other", "one", "j"] "law" (defScope s_law) f cdv A outer s H E).nox (defBody s_law).tail (b_law f__law_is_check f_is_check f__law_is_bit f__law_next f_leads_to f_once f_either f_always f_holds_along f_check_size f__law_size f_last_true f_first_false f_check_holds f__law_holds f__law_check f__law_run_of) from (ss_cons (s_for PassesOwn.never rfl (SndI.x (i_range1 (by rfl) TX.range (a_cons (e_int) a_nil) (hone := a1_len))) (g_name 2 sc_law.nd rfl (by first | exact .inl rfl | exact .inr rfl)) (ss_cons (s_frz [1] (s_unp (e_tup (a_cons (e_fz (e_call H__law_run_of.1 hr (by rfl) H__law_run_of.2.1 H__law_run_of.2.2.1 H__law_run_of.2.2.2 (a_cons (e_fz (e_var 1)) a_nil))) (a_cons (e_fz (e_call H__law_check.1 hr (by rfl) H__law_check.2.1 H__law_check.2.2.1 H__law_check.2.2.2 (a_cons (e_fz (e_var 1)) (a_cons (e_fz (e_int)) a_nil)))) (a_cons (e_fz (e_call H__law_check.1 hr (by rfl) H__law_check.2.1 H__law_check.2.2.1 H__law_check.2.2.2 (a_cons (e_fz (e_var 1)) (a_cons (e_fz (e_int)) a_nil)))) a_nil)))) (g_tup rfl (gs_cons (g_name 12 sc_law.nd rfl (by first | exact .inl rfl | exact .inr rfl)) (gs_cons (g_name 13 sc_law.nd rfl (by first | exact .inl rfl | exact .inr rfl)) (gs_cons (g_name 14 sc_law.nd rfl (by first | exact .inl rfl | exact .inr rfl)) gs_nil))) rfl))) (ss_cons (s_frz [8, 12, 13] (s_set 3 sc_law.nd rfl (by first | exact .inl rfl | exact .inr rfl) (e_lc (own := [("k", 8)]) rfl sc_law.nd (SndI.c (SndI.x (i_range1 (by rfl) TX.range (a_cons (e_callB call_len sLen (by rfl) TX.len (by decide +kernel) (a_cons (e_var 12) a_nil)) a_nil) (hone := a1_len)))) (blkOk_by (by kernel_rfl)) (by decide) (fun _ _ _ _ _ => (g_name 8 sc_law.nd rfl (by first | exact .inl rfl | exact .inr rfl))) (fun _ _ _ _ _ => ts_nil) (fun _ _ _ _ _ => (e_call H__law_holds.1 hr (by rfl) H__law_holds.2.1 H__law_holds.2.2.1 H__law_holds.2.2.2 (a_cons (e_fz (e_var 12)) (a_cons (e_fz (e_var 8)) (a_cons (e_fz (e_var 13)) a_nil)))))))) (ss_cons (s_frz [8, 12, 14] (s_set 4 sc_law.nd rfl (by first | exact .inl rfl | exact .inr rfl) (e_lc (own := [("k", 8)]) rfl sc_law.nd (SndI.c (SndI.x (i_range1 (by rfl) TX.range (a_cons (e_callB call_len sLen (by rfl) TX.len (by decide +kernel) (a_cons (e_var 12) a_nil)) a_nil) (hone := a1_len)))) (blkOk_by (by kernel_rfl)) (by decide) (fun _ _ _ _ _ => (g_name 8 sc_law.nd rfl (by first | exact .inl rfl | exact .inr rfl))) (fun _ _ _ _ _ => ts_nil) (fun _ _ _ _ _ => (e_call H__law_holds.1 hr (by rfl) H__law_holds.2.1 H__law_holds.2.2.1 H__law_holds.2.2.2 (a_cons (e_fz (e_var 12)) (a_cons (e_fz (e_var 8)) (a_cons (e_fz (e_var 14)) a_nil)))))))) (ss_cons (s_frz [12, 13] (s_if (t_w (w_or (t_cmp (op_neG hr.units) sNe (nomark _) (e_call H_holds_along.1 hr (by rfl) H_holds_along.2.1 H_holds_along.2.2.1 H_holds_along.2.2.2 (a_cons (e_fz (e_var 12)) (a_cons (e_fz (e_var 13)) a_nil))) (e_var 3)) (w_or1 (t_not (t_tru (e_call H__law_is_bit.1 hr (by rfl) H__law_is_bit.2.1 H__law_is_bit.2.2.1 H__law_is_bit.2.2.2 (a_cons (e_fz (e_call H_check_holds.1 hr (by rfl) H_check_holds.2.1 H_check_holds.2.2.1 H_check_holds.2.2.2 (a_cons (e_fz (e_var 12)) (a_cons (e_fz (e_var 13)) a_nil)))) (a_cons (e_fz (e_ix ix_seq sIx (e_var 3) (e_int))) a_nil)))))))) (ss_one (s_ret (e_bl))) ss_nil)) (ss_cons (s_frz [12, 13] (s_if (t_cmp (op_neG hr.units) sNe (nomark _) (e_lc (own := [("one", 15)]) rfl sc_law.nd (SndC.x (i_seqC (e_call H_holds_along.1 hr (by rfl) H_holds_along.2.1 H_holds_along.2.2.1 H_holds_along.2.2.2 (a_cons (e_fz (e_var 12)) (a_cons (e_fz (e_var 13)) a_nil))))) (blkOk_by (by kernel_rfl)) (by decide) (fun _ _ _ _ _ => (g_name 15 sc_law.nd rfl (by first | exact .inl rfl | exact .inr rfl))) (fun _ _ _ _ _ => (ts_one (t_not (t_tru (e_callB call_isi sIsi (by rfl) TX.isinstance (by decide +kernel) (a_cons (e_var 15) (a_cons (e_ty (n := "bool") (by rfl) TX.bool (by decide +kernel)) a_nil))))))) (fun _ _ _ _ _ => (e_var 15))) (e_lst a_nil)) (ss_one (s_ret (e_bl))) ss_nil)) (ss_cons (s_frz [8, 12, 13] (s_if (t_w (w_or (t_cmp (op_neG hr.units) sNe (nomark _) (e_call H_first_false.1 hr (by rfl) H_first_false.2.1 H_first_false.2.2.1 H_first_false.2.2.2 (a_cons (e_fz (e_var 12)) (a_cons (e_fz (e_var 13)) a_nil))) (e_ix ix_seq sIx (e_op op_addG sAdd (e_lc (own := [("k", 8)]) rfl sc_law.nd (SndI.c (SndI.x (i_range1 (by rfl) TX.range (a_cons (e_callB call_len sLen (by rfl) TX.len (by decide +kernel) (a_cons (e_var 12) a_nil)) a_nil) (hone := a1_len)))) (blkOk_by (by kernel_rfl)) (by decide) (fun _ _ _ _ _ => (g_name 8 sc_law.nd rfl (by first | exact .inl rfl | exact .inr rfl))) (fun _ _ _ _ _ => (ts_one (t_not (t_tru (e_ix ix_seq sIx (e_var 3) (e_var 8)))))) (fun _ _ _ _ _ => (e_var 8))) (e_lst (a_cons (e_fz (e_non)) a_nil))) (e_int))) (w_or1 (t_cmp (op_neG hr.units) sNe (nomark _) (e_call H_last_true.1 hr (by rfl) H_last_true.2.1 H_last_true.2.2.1 H_last_true.2.2.2 (a_cons (e_fz (e_var 12)) (a_cons (e_fz (e_var 13)) a_nil))) (e_ix ix_seq sIx (e_op op_addG sAdd (e_lst (a_cons (e_fz (e_non)) a_nil)) (e_lc (own := [("k", 8)]) rfl sc_law.nd (SndI.c (SndI.x (i_range1 (by rfl) TX.range (a_cons (e_callB call_len sLen (by rfl) TX.len (by decide +kernel) (a_cons (e_var 12) a_nil)) a_nil) (hone := a1_len)))) (blkOk_by (by kernel_rfl)) (by decide) (fun _ _ _ _ _ => (g_name 8 sc_law.nd rfl (by first | exact .inl rfl | exact .inr rfl))) (fun _ _ _ _ _ => (ts_one (t_tru (e_ix ix_seq sIx (e_var 3) (e_var 8))))) (fun _ _ _ _ _ => (e_var 8)))) (e_neg (e_int))))))) (ss_one (s_ret (e_bl))) ss_nil)) (ss_cons (s_frz [13] (s_if (t_cmp (op_neG hr.units) sNe (nomark _) (e_call H_check_size.1 hr (by rfl) H_check_size.2.1 H_check_size.2.2.1 H_check_size.2.2.2 (a_cons (e_fz (e_var 13)) a_nil)) (e_call H__law_size.1 hr (by rfl) H__law_size.2.1 H__law_size.2.2.1 H__law_size.2.2.2 (a_cons (e_fz (e_var 13)) a_nil))) (ss_one (s_ret (e_bl))) ss_nil)) (ss_cons (s_frz [13] (s_set 5 sc_law.nd rfl (by first | exact .inl rfl | exact .inr rfl) (e_lst (a_cons (e_fz (e_tup (a_cons (e_fz (e_call H_always.1 hr (by rfl) H_always.2.1 H_always.2.2.1 H_always.2.2.2 (a_cons (e_fz (e_var 13)) a_nil))) (a_cons (e_fz (e_lc (own := [("k", 8)]) rfl sc_law.nd (SndI.c (SndI.x (i_range1 (by rfl) TX.range (a_cons (e_callB call_len sLen (by rfl) TX.len (by decide +kernel) (a_cons (e_var 12) a_nil)) a_nil) (hone := a1_len)))) (blkOk_by (by kernel_rfl)) (by decide) (fun _ _ _ _ _ => (g_name 8 sc_law.nd rfl (by first | exact .inl rfl | exact .inr rfl))) (fun _ _ _ _ _ => ts_nil) (fun _ _ _ _ _ => (e_cmp op_notInG (sInG true) (by rfl) (e_bl) (e_sl sl_any sSl (e_var 3) (o_some (e_var 8)) o_none))))) a_nil)))) (a_cons (e_fz (e_tup (a_cons (e_fz (e_call H_once.1 hr (by rfl) H_once.2.1 H_once.2.2.1 H_once.2.2.2 (a_cons (e_fz (e_var 13)) a_nil))) (a_cons (e_fz (e_lc (own := [("k", 8)]) rfl sc_law.nd (SndI.c (SndI.x (i_range1 (by rfl) TX.range (a_cons (e_callB call_len sLen (by rfl) TX.len (by decide +kernel) (a_cons (e_var 12) a_nil)) a_nil) (hone := a1_len)))) (blkOk_by (by kernel_rfl)) (by decide) (fun _ _ _ _ _ => (g_name 8 sc_law.nd rfl (by first | exact .inl rfl | exact .inr rfl))) (fun _ _ _ _ _ => ts_nil) (fun _ _ _ _ _ => (e_cmp op_inG (sInG false) (by rfl) (e_bl) (e_sl sl_any sSl (e_var 3) (o_some (e_var 8)) o_none))))) a_nil)))) a_nil))))) (ss_cons (s_frz [13, 14] (s_for PassesOwn.never rfl (SndI.x (i_seq (e_op op_addG sAdd (e_var 5) (e_lst (a_cons (e_fz (e_tup (a_cons (e_fz (e_call H_either.1 hr (by rfl) H_either.2.1 H_either.2.2.1 H_either.2.2.2 (a_cons (e_fz (e_var 13)) (a_cons (e_fz (e_var 14)) a_nil)))) (a_cons (e_fz (e_lc (own := [("k", 8)]) rfl sc_law.nd (SndI.c (SndI.x (i_range1 (by rfl) TX.range (a_cons (e_callB call_len sLen (by rfl) TX.len (by decide +kernel) (a_cons (e_var 12) a_nil)) a_nil) (hone := a1_len)))) (blkOk_by (by kernel_rfl)) (by decide) (fun _ _ _ _ _ => (g_name 8 sc_law.nd rfl (by first | exact .inl rfl | exact .inr rfl))) (fun _ _ _ _ _ => ts_nil) (fun _ _ _ _ _ => ((e_or (e_ix ix_seq sIx (e_var 3) (e_var 8)) (e_one (e_ix ix_seq sIx (e_var 4) (e_var 8)))))))) a_nil)))) a_nil))))) (g_tup rfl (gs_cons (g_name 7 sc_law.nd rfl (by first | exact .inl rfl | exact .inr rfl)) (gs_cons (g_name 6 sc_law.nd rfl (by first | exact .inl rfl | exact .inr rfl)) gs_nil)) rfl) (ss_one (s_frz [7, 12] (s_if (t_w (w_or (t_not (t_tru (e_call H__law_is_check.1 hr (by rfl) H__law_is_check.2.1 H__law_is_check.2.2.1 H__law_is_check.2.2.2 (a_cons (e_fz (e_var 7)) a_nil)))) (w_or1 (t_cmp (op_neG hr.units) sNe (nomark _) (e_call H_holds_along.1 hr (by rfl) H_holds_along.2.1 H_holds_along.2.2.1 H_holds_along.2.2.2 (a_cons (e_fz (e_var 12)) (a_cons (e_fz (e_var 7)) a_nil))) (e_var 6))))) (ss_one (s_ret (e_bl))) ss_nil))))) (ss_cons (s_setLc (own := [("k", 8)]) 6 rfl sc_law.nd rfl rfl (sw_true rfl rfl rfl (by decide +kernel)) (SndI.c (SndI.x (i_range1 (by rfl) TX.range (a_cons (e_callB call_len sLen (by rfl) TX.len (by decide +kernel) (a_cons (e_var 12) a_nil)) a_nil) (hone := a1_len)))) (blkOk_by (by kernel_rfl)) (by decide) (fun _ _ _ _ _ => (g_name 8 sc_law.nd rfl (by first | exact .inl rfl | exact .inr rfl))) (fun _ _ _ _ _ => ts_nil) (fun _ _ _ _ _ => (e_cmp (op_eqG hr.units) sEq (nomark _) (e_lc (own := [("j", 16)]) rfl sc_law.nd (SndI.c (SndI.x (i_range2 (by rfl) TX.range (a_cons (e_var 8) (a_cons (e_callB call_len sLen (by rfl) TX.len (by decide +kernel) (a_cons (e_var 12) a_nil)) a_nil)) a2_len))) (blkOk_by (by kernel_rfl)) (by decide) (fun _ _ _ _ _ => (g_name 16 sc_law.nd rfl (by first | exact .inl rfl | exact .inr rfl))) (fun _ _ _ _ _ => (ts_one (t_w (w_and (t_tru (e_ix ix_seq sIx (e_var 3) (e_var 16))) (w_and1 (t_cmp op_notInG (sInG true) (by rfl) (e_bl) (e_sl sl_any sSl (e_var 4) (o_some (e_var 16)) o_none))))))) (fun _ _ _ _ _ => (e_var 16))) (e_lst a_nil)))) (ss_cons (s_frz [13, 14] (s_set 7 sc_law.nd rfl (by first | exact .inl rfl | exact .inr rfl) (e_call H_leads_to.1 hr (by rfl) H_leads_to.2.1 H_leads_to.2.2.1 H_leads_to.2.2.2 (a_cons (e_fz (e_var 13)) (a_cons (e_fz (e_var 14)) a_nil))))) (ss_cons (s_frz [7, 12] (s_if (t_w (w_or (t_not (t_tru (e_call H__law_is_check.1 hr (by rfl) H__law_is_check.2.1 H__law_is_check.2.2.1 H__law_is_check.2.2.2 (a_cons (e_fz (e_var 7)) a_nil)))) (w_or1 (t_cmp (op_neG hr.units) sNe (nomark _) (e_call H_holds_along.1 hr (by rfl) H_holds_along.2.1 H_holds_along.2.2.1 H_holds_along.2.2.2 (a_cons (e_fz (e_var 12)) (a_cons (e_fz (e_var 7)) a_nil))) (e_var 6))))) (ss_one (s_ret (e_bl))) ss_nil)) (ss_cons (s_frz [13, 14] (s_if (t_w (w_or (t_cmp (op_neG hr.units) sNe (nomark _) (e_call H_always.1 hr (by rfl) H_always.2.1 H_always.2.2.1 H_always.2.2.2 (a_cons (e_fz (e_var 13)) a_nil)) (e_tup (a_cons (e_fz (e_str)) (a_cons (e_fz (e_tup (a_cons (e_fz (e_str)) (a_cons (e_fz (e_tup (a_cons (e_fz (e_str)) (a_cons (e_fz (e_int)) a_nil)))) (a_cons (e_fz (e_tup (a_cons (e_fz (e_str)) (a_cons (e_fz (e_var 13)) a_nil)))) a_nil))))) a_nil)))) (w_or (t_cmp (op_neG hr.units) sNe (nomark _) (e_call H_once.1 hr (by rfl) H_once.2.1 H_once.2.2.1 H_once.2.2.2 (a_cons (e_fz (e_var 13)) a_nil)) (e_tup (a_cons (e_fz (e_str)) (a_cons (e_fz (e_tup (a_cons (e_fz (e_str)) (a_cons (e_fz (e_int)) a_nil)))) (a_cons (e_fz (e_var 13)) a_nil))))) (w_or1 (t_cmp (op_neG hr.units) sNe (nomark _) (e_call H_either.1 hr (by rfl) H_either.2.1 H_either.2.2.1 H_either.2.2.2 (a_cons (e_fz (e_var 13)) (a_cons (e_fz (e_var 14)) a_nil))) (e_tup (a_cons (e_fz (e_str)) (a_cons (e_fz (e_tup (a_cons (e_fz (e_str)) (a_cons (e_fz (e_tup (a_cons (e_fz (e_str)) (a_cons (e_fz (e_var 13)) a_nil)))) (a_cons (e_fz (e_tup (a_cons (e_fz (e_str)) (a_cons (e_fz (e_var 14)) a_nil)))) a_nil))))) a_nil)))))))) (ss_one (s_ret (e_bl))) ss_nil)) (ss_cons (s_frz [13, 14] (s_if (t_cmp (op_neG hr.units) sNe (nomark _) (e_call H_leads_to.1 hr (by rfl) H_leads_to.2.1 H_leads_to.2.2.1 H_leads_to.2.2.2 (a_cons (e_fz (e_var 13)) (a_cons (e_fz (e_var 14)) a_nil))) (e_call H_always.1 hr (by rfl) H_always.2.1 H_always.2.2.1 H_always.2.2.2 (a_cons (e_fz (e_call H_either.1 hr (by rfl) H_either.2.1 H_either.2.2.1 H_either.2.2.2 (a_cons (e_fz (e_tup (a_cons (e_fz (e_str)) (a_cons (e_fz (e_var 13)) a_nil)))) (a_cons (e_fz (e_call H_once.1 hr (by rfl) H_once.2.1 H_once.2.2.1 H_once.2.2.2 (a_cons (e_fz (e_var 14)) a_nil))) a_nil)))) a_nil))) (ss_one (s_ret (e_bl))) ss_nil)) (ss_cons (s_frz [1] (s_set 8 sc_law.nd rfl (by first | exact .inl rfl | exact .inr rfl) (e_call H__law_next.1 hr (by rfl) H__law_next.2.1 H__law_next.2.2.1 H__law_next.2.2.2 (a_cons (e_fz (e_var 1)) (a_cons (e_fz (e_callB call_len sLen (by rfl) TX.len (by decide +kernel) (a_cons (e_var 13) a_nil))) a_nil))))) (ss_cons (s_frz [13] (s_set 9 sc_law.nd rfl (by first | exact .inl rfl | exact .inr rfl) (e_lst (a_cons (e_fz (e_var 13)) (a_cons (e_fz (e_callTy call_list_of sList (by rfl) TX.list (by decide +kernel) (a_cons (e_var 13) a_nil))) (a_cons (e_fz (e_non)) (a_cons (e_fz (e_tup a_nil)) (a_cons (e_fz (e_sl sl_any sSl (e_var 13) o_none (o_some (e_int)))) (a_cons (e_fz (e_op op_addG sAdd (e_var 13) (e_tup (a_cons (e_fz (e_tup (a_cons (e_fz (e_str)) (a_cons (e_fz (e_int)) a_nil)))) a_nil)))) (a_cons (e_fz (e_tup (a_cons (e_fz (e_str)) a_nil))) (a_cons (e_fz (e_int)) (a_cons (e_fz (e_str)) (a_cons (e_fz (e_tup (a_cons (e_fz (e_str)) (a_cons (e_fz (e_var 13)) (a_cons (e_fz (e_var 13)) a_nil))))) (a_cons (e_fz (e_tup (a_cons (e_fz (e_str)) (a_cons (e_fz (e_var 13)) a_nil)))) (a_cons (e_fz (e_tup (a_cons (e_fz (e_str)) (a_cons (e_fz (e_ix ix_seq sIx (e_var 13) (e_int))) a_nil)))) a_nil))))))))))))))) (ss_cons (s_for PassesOwn.never rfl (SndI.x (i_seq (e_tup (a_cons (e_fz (e_str)) (a_cons (e_fz (e_str)) (a_cons (e_fz (e_str)) (a_cons (e_fz (e_int)) (a_cons (e_fz (e_non)) (a_cons (e_fz (e_bl)) (a_cons (e_fz (e_tup (a_cons (e_fz (e_str)) (a_cons (e_fz (e_int)) a_nil)))) (a_cons (e_fz (e_tup (a_cons (e_fz (e_str)) (a_cons (e_fz (e_tup (a_cons (e_fz (e_str)) (a_cons (e_fz (e_str)) a_nil)))) a_nil)))) (a_cons (e_fz (e_tup (a_cons (e_fz (e_str)) (a_cons (e_fz (e_bl)) a_nil)))) (a_cons (e_fz (e_tup (a_cons (e_fz (e_str)) (a_cons (e_fz (e_tup (a_cons (e_fz (e_str)) a_nil))) a_nil)))) (a_cons (e_fz (e_tup a_nil)) (a_cons (e_fz (e_lst (a_cons (e_fz (e_str)) (a_cons (e_fz (e_int)) a_nil)))) (a_cons (e_fz (e_tup (a_cons (e_fz (e_str)) (a_cons (e_fz (e_tup (a_cons (e_fz (e_str)) (a_cons (e_fz (e_int)) (a_cons (e_fz (e_tup (a_cons (e_fz (e_str)) (a_cons (e_fz (e_int)) (a_cons (e_fz (e_int)) a_nil))))) a_nil))))) a_nil)))) a_nil)))))))))))))))) (g_name 10 sc_law.nd rfl (by first | exact .inl rfl | exact .inr rfl)) (ss_one (s_app 9 (pv 9) (e_op op_addG sAdd (e_op op_addG sAdd (e_sl sl_any sSl (e_var 13) o_none (o_some (e_var 8))) (e_tup (a_cons (e_fz (e_var 10)) a_nil))) (e_sl sl_any sSl (e_var 13) (o_some (e_op op_addG sAdd (e_var 8) (e_int))) o_none))))) (ss_one (s_frz [9] (s_for PassesOwn.never rfl (SndI.x (i_seq (e_var 9))) (g_name 11 sc_law.nd rfl (by first | exact .inl rfl | exact .inr rfl)) (ss_one (s_if (t_not (t_tru (e_call H__law_is_bit.1 hr (by rfl) H__law_is_bit.2.1 H__law_is_bit.2.2.1 H__law_is_bit.2.2.2 (a_cons (e_fz (e_call H_is_check.1 hr (by rfl) H_is_check.2.1 H_is_check.2.2.1 H_is_check.2.2.2 (a_cons (e_fz (e_var 11)) a_nil))) (a_cons (e_fz (e_call H__law_is_check.1 hr (by rfl) H__law_is_check.2.1 H__law_is_check.2.2.1 H__law_is_check.2.2.2 (a_cons (e_fz (e_var 11)) a_nil))) a_nil))))) (ss_one (s_ret (e_bl))) ss_nil))))))))))))))))))))))) (ss_one (s_ret (e_bl)))))⟩) math
end Kk44

set_option Elab.async false
set_option linter.all false
set_option maxRecDepth 100000
set_option maxHeartbeats 4000000
namespace Kk44
open PySem PySem.Spec PyProof.Rows L2 Dl
/-! ### the end -/
section
variable {P : Program} {w : World} {K : PySem.W.Frag} {mg : Str → Option Value} {base : Heap}
theorem r__law_is_expr {k : Nat} {f : Addr} {fd : FuncData} (TX : TX K mg) (D0 : Def0 K mg "_law_is_expr" s__law_is_expr f fd ["thing"]) {a__law_is_name : Addr} {d__law_is_name : FuncData} (H__law_is_name : Cal P w K mg base k "_law_is_name" a__law_is_name d__law_is_name ["thing"] f__law_is_name) {a__law_is_number : Addr} {d__law_is_number : FuncData} (H__law_is_number : Cal P w K mg base k "_law_is_number" a__law_is_number d__law_is_number ["thing"] f__law_is_number) : ∀ n : Nat, Cal P w K mg base (k + n) "_law_is_expr" f fd ["thing"] (f__law_is_expr n)
  | 0 => ⟨fn_0, D0.2.1, D0.1.kp, D0.2.2⟩
  | n + 1 => by
    have ih := r__law_is_expr (k := k) TX D0 H__law_is_name H__law_is_number n
    exact d__law_is_expr (k := k + n) TX D0 (ih.up (by omega)) (H__law_is_name.up (by omega)) (H__law_is_number.up (by omega))
theorem r__law_is_check {k : Nat} {f : Addr} {fd : FuncData} (TX : TX K mg) (D0 : Def0 K mg "_law_is_check" s__law_is_check f fd ["thing"]) {a__law_is_expr : Addr} {d__law_is_expr : FuncData} (H__law_is_expr : Cal P w K mg base k "_law_is_expr" a__law_is_expr d__law_is_expr ["thing"] (f__law_is_expr 40)) : ∀ n : Nat, Cal P w K mg base (k + n) "_law_is_check" f fd ["thing"] (f__law_is_check n)
  | 0 => ⟨fn_0, D0.2.1, D0.1.kp, D0.2.2⟩
  | n + 1 => by
    have ih := r__law_is_check (k := k) TX D0 H__law_is_expr n
    exact d__law_is_check (k := k + n) TX D0 (ih.up (by omega)) (H__law_is_expr.up (by omega))
theorem r_is_expr {k : Nat} {f : Addr} {fd : FuncData} (TX : TX K mg) (D0 : Def0 K mg "is_expr" s_is_expr f fd ["thing"]) {a_is_tuple_of : Addr} {d_is_tuple_of : FuncData} (H_is_tuple_of : Cal P w K mg base k "is_tuple_of" a_is_tuple_of d_is_tuple_of ["thing", "many"] f_is_tuple_of) {a_is_name : Addr} {d_is_name : FuncData} (H_is_name : Cal P w K mg base k "is_name" a_is_name d_is_name ["thing"] f_is_name) {a_is_number : Addr} {d_is_number : FuncData} (H_is_number : Cal P w K mg base k "is_number" a_is_number d_is_number ["thing"] f_is_number) : ∀ n : Nat, Cal P w K mg base (k + n) "is_expr" f fd ["thing"] (f_is_expr n)
  | 0 => ⟨fn_0, D0.2.1, D0.1.kp, D0.2.2⟩
  | n + 1 => by
    have ih := r_is_expr (k := k) TX D0 H_is_tuple_of H_is_name H_is_number n
    exact d_is_expr (k := k + n) TX D0 (ih.up (by omega)) (H_is_tuple_of.up (by omega)) (H_is_name.up (by omega)) (H_is_number.up (by omega))
theorem r_is_check {k : Nat} {f : Addr} {fd : FuncData} (TX : TX K mg) (D0 : Def0 K mg "is_check" s_is_check f fd ["thing"]) {a_is_tuple_of : Addr} {d_is_tuple_of : FuncData} (H_is_tuple_of : Cal P w K mg base k "is_tuple_of" a_is_tuple_of d_is_tuple_of ["thing", "many"] f_is_tuple_of) {a_is_expr : Addr} {d_is_expr : FuncData} (H_is_expr : Cal P w K mg base k "is_expr" a_is_expr d_is_expr ["thing"] (f_is_expr 40)) : ∀ n : Nat, Cal P w K mg base (k + n) "is_check" f fd ["thing"] (f_is_check n)
  | 0 => ⟨fn_0, D0.2.1, D0.1.kp, D0.2.2⟩
  | n + 1 => by
    have ih := r_is_check (k := k) TX D0 H_is_tuple_of H_is_expr n
    exact d_is_check (k := k + n) TX D0 (ih.up (by omega)) (H_is_tuple_of.up (by omega)) (H_is_expr.up (by omega))
theorem r_worth {k : Nat} {f : Addr} {fd : FuncData} (TX : TX K mg) (D0 : Def0 K mg "worth" s_worth f fd ["expr", "variables", "cells"]) {a_is_number : Addr} {d_is_number : FuncData} (H_is_number : Cal P w K mg base k "is_number" a_is_number d_is_number ["thing"] f_is_number) : ∀ n : Nat, Cal P w K mg base (k + n) "worth" f fd ["expr", "variables", "cells"] (f_worth n)
  | 0 => ⟨fn_0, D0.2.1, D0.1.kp, D0.2.2⟩
  | n + 1 => by
    have ih := r_worth (k := k) TX D0 H_is_number n
    exact d_worth (k := k + n) TX D0 (ih.up (by omega)) (H_is_number.up (by omega))
theorem r_holds_along {k : Nat} {f : Addr} {fd : FuncData} (TX : TX K mg) (D0 : Def0 K mg "holds_along" s_holds_along f fd ["run", "check"]) {a_worth : Addr} {d_worth : FuncData} (H_worth : Cal P w K mg base k "worth" a_worth d_worth ["expr", "variables", "cells"] (f_worth 40)) {a_facts : Addr} {d_facts : FuncData} (H_facts : Cal P w K mg base k "facts" a_facts d_facts ["state"] f_facts) : ∀ n : Nat, Cal P w K mg base (k + n) "holds_along" f fd ["run", "check"] (f_holds_along n)
  | 0 => ⟨fn_0, D0.2.1, D0.1.kp, D0.2.2⟩
  | n + 1 => by
    have ih := r_holds_along (k := k) TX D0 H_worth H_facts n
    exact d_holds_along (k := k + n) TX D0 (ih.up (by omega)) (H_worth.up (by omega)) (H_facts.up (by omega))
theorem r_check_size {k : Nat} {f : Addr} {fd : FuncData} (TX : TX K mg) (D0 : Def0 K mg "check_size" s_check_size f fd ["check"]) : ∀ n : Nat, Cal P w K mg base (k + n) "check_size" f fd ["check"] (f_check_size n)
  | 0 => ⟨fn_0, D0.2.1, D0.1.kp, D0.2.2⟩
  | n + 1 => by
    have ih := r_check_size (k := k) TX D0 n
    exact d_check_size (k := k + n) TX D0 (ih.up (by omega))
theorem r__law_size {k : Nat} {f : Addr} {fd : FuncData} (TX : TX K mg) (D0 : Def0 K mg "_law_size" s__law_size f fd ["check"]) : ∀ n : Nat, Cal P w K mg base (k + n) "_law_size" f fd ["check"] (f__law_size n)
  | 0 => ⟨fn_0, D0.2.1, D0.1.kp, D0.2.2⟩
  | n + 1 => by
    have ih := r__law_size (k := k) TX D0 n
    exact d__law_size (k := k + n) TX D0 (ih.up (by omega))
theorem r__law_worth {k : Nat} {f : Addr} {fd : FuncData} (TX : TX K mg) (D0 : Def0 K mg "_law_worth" s__law_worth f fd ["expr", "variables", "cells"]) : ∀ n : Nat, Cal P w K mg base (k + n) "_law_worth" f fd ["expr", "variables", "cells"] (f__law_worth n)
  | 0 => ⟨fn_0, D0.2.1, D0.1.kp, D0.2.2⟩
  | n + 1 => by
    have ih := r__law_worth (k := k) TX D0 n
    exact d__law_worth (k := k + n) TX D0 (ih.up (by omega))
theorem r__law_holds {k : Nat} {f : Addr} {fd : FuncData} (TX : TX K mg) (D0 : Def0 K mg "_law_holds" s__law_holds f fd ["run", "k", "check"]) {a__law_at : Addr} {d__law_at : FuncData} (H__law_at : Cal P w K mg base k "_law_at" a__law_at d__law_at ["state", "expr"] f__law_at) : ∀ n : Nat, Cal P w K mg base (k + n) "_law_holds" f fd ["run", "k", "check"] (f__law_holds n)
  | 0 => ⟨fn_0, D0.2.1, D0.1.kp, D0.2.2⟩
  | n + 1 => by
    have ih := r__law_holds (k := k) TX D0 H__law_at n
    exact d__law_holds (k := k + n) TX D0 (ih.up (by omega)) (H__law_at.up (by omega))
theorem r__law_check {k : Nat} {f : Addr} {fd : FuncData} (TX : TX K mg) (D0 : Def0 K mg "_law_check" s__law_check f fd ["w", "deep"]) {a__law_expr : Addr} {d__law_expr : FuncData} (H__law_expr : Cal P w K mg base k "_law_expr" a__law_expr d__law_expr ["w"] f__law_expr) {a__law_pick : Addr} {d__law_pick : FuncData} (H__law_pick : Cal P w K mg base k "_law_pick" a__law_pick d__law_pick ["w", "rows"] f__law_pick) : ∀ n : Nat, Cal P w K mg base (k + n) "_law_check" f fd ["w", "deep"] (f__law_check n)
  | 0 => ⟨fn_0, D0.2.1, D0.1.kp, D0.2.2⟩
  | n + 1 => by
    have ih := r__law_check (k := k) TX D0 H__law_expr H__law_pick n
    exact d__law_check (k := k + n) TX D0 (ih.up (by omega)) (H__law_expr.up (by omega)) (H__law_pick.up (by omega))
end
abbrev MathT : Prop := ∀ ns : List Int, ns.length ≤ 63 → ∃ ds : List Int, f__law_draws [.scr ns, .int 400] none = some ((.lst (ds.map D.int), .ow), none) ∧ ∃ w', b_law (f__law_is_check 40) (f_is_check 40) f__law_is_bit f__law_next f_leads_to f_once f_either f_always (f_holds_along 40) (f_check_size 40) (f__law_size 40) f_last_true f_first_false f_check_holds (f__law_holds 40) (f__law_check 40) f__law_run_of ((startE 17 [.scr ns]).set 1 (some (.w, false))) (some ⟨ds, 0⟩) = some (.rt (.bl true, .fz) w')
set_option maxHeartbeats 16000000 in
theorem all_mk (math : MathT) {l : PySem.W.OpenLaw} {w : World} {K : PySem.W.Frag} {h : Heap} {mg : Str → Option Value} {fa : Addr} (X : K.In h) (G : h.Ns mainGlobals mg) (hfa : mg "law" = some (.ref fa))
    {a0 : Addr} {od0 an0 : Option Addr} {sl0 : Array (Option Value)} {oc0 kV0 dc0 pm0 cd0 ct0 : Value}
    {a1 : Addr} {od1 an1 : Option Addr} {sl1 : Array (Option Value)} {oc1 kV1 dc1 pm1 cd1 ct1 : Value}
    {a2 : Addr} {od2 an2 : Option Addr} {sl2 : Array (Option Value)} {oc2 kV2 dc2 pm2 cd2 ct2 : Value}
    {a3 : Addr} {od3 an3 : Option Addr} {sl3 : Array (Option Value)} {oc3 kV3 dc3 pm3 cd3 ct3 : Value}
    {a4 : Addr} {od4 an4 : Option Addr} {sl4 : Array (Option Value)} {oc4 kV4 dc4 pm4 cd4 ct4 : Value}
    {a5 : Addr} {od5 an5 : Option Addr} {sl5 : Array (Option Value)} {oc5 kV5 dc5 pm5 cd5 ct5 : Value}
    {a6 : Addr} {od6 an6 : Option Addr} {sl6 : Array (Option Value)} {oc6 kV6 dc6 pm6 cd6 ct6 : Value}
    {a7 : Addr} {od7 an7 : Option Addr} {sl7 : Array (Option Value)} {oc7 kV7 dc7 pm7 cd7 ct7 : Value}
    {a8 : Addr} {od8 an8 : Option Addr} {sl8 : Array (Option Value)} {oc8 kV8 dc8 pm8 cd8 ct8 : Value}
    {a9 : Addr} {od9 an9 : Option Addr} {sl9 : Array (Option Value)} {oc9 kV9 dc9 pm9 cd9 ct9 : Value}
    {a10 : Addr} {od10 an10 : Option Addr} {sl10 : Array (Option Value)} {oc10 kV10 dc10 pm10 cd10 ct10 : Value}
    {a11 : Addr} {od11 an11 : Option Addr} {sl11 : Array (Option Value)} {oc11 kV11 dc11 pm11 cd11 ct11 : Value}
    {a12 : Addr} {od12 an12 : Option Addr} {sl12 : Array (Option Value)} {oc12 kV12 dc12 pm12 cd12 ct12 : Value}
    {a13 : Addr} {od13 an13 : Option Addr} {sl13 : Array (Option Value)} {oc13 kV13 dc13 pm13 cd13 ct13 : Value}
    {a14 : Addr} {od14 an14 : Option Addr} {sl14 : Array (Option Value)} {oc14 kV14 dc14 pm14 cd14 ct14 : Value}
    {a15 : Addr} {od15 an15 : Option Addr} {sl15 : Array (Option Value)} {oc15 kV15 dc15 pm15 cd15 ct15 : Value}
    {a16 : Addr} {od16 an16 : Option Addr} {sl16 : Array (Option Value)} {oc16 kV16 dc16 pm16 cd16 ct16 : Value}
    {a17 : Addr} {od17 an17 : Option Addr} {sl17 : Array (Option Value)} {oc17 kV17 dc17 pm17 cd17 ct17 : Value}
    {a18 : Addr} {od18 an18 : Option Addr} {sl18 : Array (Option Value)} {oc18 kV18 dc18 pm18 cd18 ct18 : Value}
    {a19 : Addr} {od19 an19 : Option Addr} {sl19 : Array (Option Value)} {oc19 kV19 dc19 pm19 cd19 ct19 : Value}
    {a20 : Addr} {od20 an20 : Option Addr} {sl20 : Array (Option Value)} {oc20 kV20 dc20 pm20 cd20 ct20 : Value}
    {a21 : Addr} {od21 an21 : Option Addr} {sl21 : Array (Option Value)} {oc21 kV21 dc21 pm21 cd21 ct21 : Value}
    {a22 : Addr} {od22 an22 : Option Addr} {sl22 : Array (Option Value)} {oc22 kV22 dc22 pm22 cd22 ct22 : Value}
    {a23 : Addr} {od23 an23 : Option Addr} {sl23 : Array (Option Value)} {oc23 kV23 dc23 pm23 cd23 ct23 : Value}
    {a24 : Addr} {od24 an24 : Option Addr} {sl24 : Array (Option Value)} {oc24 kV24 dc24 pm24 cd24 ct24 : Value}
    {a25 : Addr} {od25 an25 : Option Addr} {sl25 : Array (Option Value)} {oc25 kV25 dc25 pm25 cd25 ct25 : Value}
    {a26 : Addr} {od26 an26 : Option Addr} {sl26 : Array (Option Value)} {oc26 kV26 dc26 pm26 cd26 ct26 : Value}
    {a27 : Addr} {od27 an27 : Option Addr} {sl27 : Array (Option Value)} {oc27 kV27 dc27 pm27 cd27 ct27 : Value}
    {a28 : Addr} {od28 an28 : Option Addr} {sl28 : Array (Option Value)} {oc28 kV28 dc28 pm28 cd28 ct28 : Value}
    {a29 : Addr} {od29 an29 : Option Addr} {sl29 : Array (Option Value)} {oc29 kV29 dc29 pm29 cd29 ct29 : Value}
    {a30 : Addr} {od30 an30 : Option Addr} {sl30 : Array (Option Value)} {oc30 kV30 dc30 pm30 cd30 ct30 : Value}
    {a31 : Addr} {od31 an31 : Option Addr} {sl31 : Array (Option Value)} {oc31 kV31 dc31 pm31 cd31 ct31 : Value}
    {a32 : Addr} {od32 an32 : Option Addr} {sl32 : Array (Option Value)} {oc32 kV32 dc32 pm32 cd32 ct32 : Value}
    {a33 : Addr} {od33 an33 : Option Addr} {sl33 : Array (Option Value)} {oc33 kV33 dc33 pm33 cd33 ct33 : Value}
    {tk0 : Tok}
    {tk1 : Tok}
    {ga2 : Addr} {god2 : Option Addr} {gsl2 : Array (Option Value)} {gn2 : Nat} {tk2_0 : Tok} {tk2_1 : Tok} {tk2_2 : Tok} {tk2_3 : Tok} {tk2_4 : Tok}
    (q0a : PySem.W.nsIn K mainGlobals "_law_draws" = some (some (.ref a0))) (q0b : K.lookup a0 = some ⟨oc0, od0, .func (PySem.W.fnOf "_law_draws" "_law_draws" (defArgs s__law_draws) (defBody s__law_draws) (defScope s__law_draws) .none kV0 dc0 pm0 an0 cd0 ct0), sl0⟩) (q0c : PySem.W.codeIn K cd0 "_law_draws" = true) (q0d : PySem.W.keepIn K (.ref a0) = true)
    (q1a : PySem.W.nsIn K mainGlobals "_law_is_name" = some (some (.ref a1))) (q1b : K.lookup a1 = some ⟨oc1, od1, .func (PySem.W.fnOf "_law_is_name" "_law_is_name" (defArgs s__law_is_name) (defBody s__law_is_name) (defScope s__law_is_name) .none kV1 dc1 pm1 an1 cd1 ct1), sl1⟩) (q1c : PySem.W.codeIn K cd1 "_law_is_name" = true) (q1d : PySem.W.keepIn K (.ref a1) = true)
    (q2a : PySem.W.nsIn K mainGlobals "_law_is_number" = some (some (.ref a2))) (q2b : K.lookup a2 = some ⟨oc2, od2, .func (PySem.W.fnOf "_law_is_number" "_law_is_number" (defArgs s__law_is_number) (defBody s__law_is_number) (defScope s__law_is_number) .none kV2 dc2 pm2 an2 cd2 ct2), sl2⟩) (q2c : PySem.W.codeIn K cd2 "_law_is_number" = true) (q2d : PySem.W.keepIn K (.ref a2) = true)
    (q3a : PySem.W.nsIn K mainGlobals "_law_is_expr" = some (some (.ref a3))) (q3b : K.lookup a3 = some ⟨oc3, od3, .func (PySem.W.fnOf "_law_is_expr" "_law_is_expr" (defArgs s__law_is_expr) (defBody s__law_is_expr) (defScope s__law_is_expr) .none kV3 dc3 pm3 an3 cd3 ct3), sl3⟩) (q3c : PySem.W.codeIn K cd3 "_law_is_expr" = true) (q3d : PySem.W.keepIn K (.ref a3) = true)
    (q4a : PySem.W.nsIn K mainGlobals "_law_is_check" = some (some (.ref a4))) (q4b : K.lookup a4 = some ⟨oc4, od4, .func (PySem.W.fnOf "_law_is_check" "_law_is_check" (defArgs s__law_is_check) (defBody s__law_is_check) (defScope s__law_is_check) .none kV4 dc4 pm4 an4 cd4 ct4), sl4⟩) (q4c : PySem.W.codeIn K cd4 "_law_is_check" = true) (q4d : PySem.W.keepIn K (.ref a4) = true)
    (q5a : PySem.W.nsIn K mainGlobals "is_tuple_of" = some (some (.ref a5))) (q5b : K.lookup a5 = some ⟨oc5, od5, .func (PySem.W.fnOf "is_tuple_of" "is_tuple_of" (defArgs s_is_tuple_of) (defBody s_is_tuple_of) (defScope s_is_tuple_of) .none kV5 dc5 pm5 an5 cd5 ct5), sl5⟩) (q5c : PySem.W.codeIn K cd5 "is_tuple_of" = true) (q5d : PySem.W.keepIn K (.ref a5) = true)
    (q6a : PySem.W.nsIn K mainGlobals "is_name" = some (some (.ref a6))) (q6b : K.lookup a6 = some ⟨oc6, od6, .func (PySem.W.fnOf "is_name" "is_name" (defArgs s_is_name) (defBody s_is_name) (defScope s_is_name) .none kV6 dc6 pm6 an6 cd6 ct6), sl6⟩) (q6c : PySem.W.codeIn K cd6 "is_name" = true) (q6d : PySem.W.keepIn K (.ref a6) = true)
    (q7a : PySem.W.nsIn K mainGlobals "is_number" = some (some (.ref a7))) (q7b : K.lookup a7 = some ⟨oc7, od7, .func (PySem.W.fnOf "is_number" "is_number" (defArgs s_is_number) (defBody s_is_number) (defScope s_is_number) .none kV7 dc7 pm7 an7 cd7 ct7), sl7⟩) (q7c : PySem.W.codeIn K cd7 "is_number" = true) (q7d : PySem.W.keepIn K (.ref a7) = true)
    (q8a : PySem.W.nsIn K mainGlobals "is_expr" = some (some (.ref a8))) (q8b : K.lookup a8 = some ⟨oc8, od8, .func (PySem.W.fnOf "is_expr" "is_expr" (defArgs s_is_expr) (defBody s_is_expr) (defScope s_is_expr) .none kV8 dc8 pm8 an8 cd8 ct8), sl8⟩) (q8c : PySem.W.codeIn K cd8 "is_expr" = true) (q8d : PySem.W.keepIn K (.ref a8) = true)
    (q9a : PySem.W.nsIn K mainGlobals "is_check" = some (some (.ref a9))) (q9b : K.lookup a9 = some ⟨oc9, od9, .func (PySem.W.fnOf "is_check" "is_check" (defArgs s_is_check) (defBody s_is_check) (defScope s_is_check) .none kV9 dc9 pm9 an9 cd9 ct9), sl9⟩) (q9c : PySem.W.codeIn K cd9 "is_check" = true) (q9d : PySem.W.keepIn K (.ref a9) = true)
    (q10a : PySem.W.nsIn K mainGlobals "_law_is_bit" = some (some (.ref a10))) (q10b : K.lookup a10 = some ⟨oc10, od10, .func (PySem.W.fnOf "_law_is_bit" "_law_is_bit" (defArgs s__law_is_bit) (defBody s__law_is_bit) (defScope s__law_is_bit) .none kV10 dc10 pm10 an10 cd10 ct10), sl10⟩) (q10c : PySem.W.codeIn K cd10 "_law_is_bit" = true) (q10d : PySem.W.keepIn K (.ref a10) = true)
    (q11a : PySem.W.nsIn K mainGlobals "_law_next" = some (some (.ref a11))) (q11b : K.lookup a11 = some ⟨oc11, od11, .func (PySem.W.fnOf "_law_next" "_law_next" (defArgs s__law_next) (defBody s__law_next) (defScope s__law_next) .none kV11 dc11 pm11 an11 cd11 ct11), sl11⟩) (q11c : PySem.W.codeIn K cd11 "_law_next" = true) (q11d : PySem.W.keepIn K (.ref a11) = true)
    (q12a : PySem.W.nsIn K mainGlobals "once" = some (some (.ref a12))) (q12b : K.lookup a12 = some ⟨oc12, od12, .func (PySem.W.fnOf "once" "once" (defArgs s_once) (defBody s_once) (defScope s_once) .none kV12 dc12 pm12 an12 cd12 ct12), sl12⟩) (q12c : PySem.W.codeIn K cd12 "once" = true) (q12d : PySem.W.keepIn K (.ref a12) = true)
    (q13a : PySem.W.nsIn K mainGlobals "either" = some (some (.ref a13))) (q13b : K.lookup a13 = some ⟨oc13, od13, .func (PySem.W.fnOf "either" "either" (defArgs s_either) (defBody s_either) (defScope s_either) .none kV13 dc13 pm13 an13 cd13 ct13), sl13⟩) (q13c : PySem.W.codeIn K cd13 "either" = true) (q13d : PySem.W.keepIn K (.ref a13) = true)
    (q14a : PySem.W.nsIn K mainGlobals "always" = some (some (.ref a14))) (q14b : K.lookup a14 = some ⟨oc14, od14, .func (PySem.W.fnOf "always" "always" (defArgs s_always) (defBody s_always) (defScope s_always) .none kV14 dc14 pm14 an14 cd14 ct14), sl14⟩) (q14c : PySem.W.codeIn K cd14 "always" = true) (q14d : PySem.W.keepIn K (.ref a14) = true)
    (q15a : PySem.W.nsIn K mainGlobals "leads_to" = some (some (.ref a15))) (q15b : K.lookup a15 = some ⟨oc15, od15, .func (PySem.W.fnOf "leads_to" "leads_to" (defArgs s_leads_to) (defBody s_leads_to) (defScope s_leads_to) .none kV15 dc15 pm15 an15 cd15 ct15), sl15⟩) (q15c : PySem.W.codeIn K cd15 "leads_to" = true) (q15d : PySem.W.keepIn K (.ref a15) = true)
    (q16a : PySem.W.nsIn K mainGlobals "worth" = some (some (.ref a16))) (q16b : K.lookup a16 = some ⟨oc16, od16, .func (PySem.W.fnOf "worth" "worth" (defArgs s_worth) (defBody s_worth) (defScope s_worth) .none kV16 dc16 pm16 an16 cd16 ct16), sl16⟩) (q16c : PySem.W.codeIn K cd16 "worth" = true) (q16d : PySem.W.keepIn K (.ref a16) = true)
    (q17a : PySem.W.nsIn K mainGlobals "cells_of" = some (some (.ref a17))) (q17b : K.lookup a17 = some ⟨oc17, od17, .func (PySem.W.fnOf "cells_of" "cells_of" (defArgs s_cells_of) (defBody s_cells_of) (defScope s_cells_of) .none kV17 dc17 pm17 an17 cd17 ct17), sl17⟩) (q17c : PySem.W.codeIn K cd17 "cells_of" = true) (q17d : PySem.W.keepIn K (.ref a17) = true)
    (q18a : PySem.W.nsIn K mainGlobals "is_over" = some (some (.ref a18))) (q18b : K.lookup a18 = some ⟨oc18, od18, .func (PySem.W.fnOf "is_over" "is_over" (defArgs s_is_over) (defBody s_is_over) (defScope s_is_over) .none kV18 dc18 pm18 an18 cd18 ct18), sl18⟩) (q18c : PySem.W.codeIn K cd18 "is_over" = true) (q18d : PySem.W.keepIn K (.ref a18) = true)
    (q19a : PySem.W.nsIn K mainGlobals "facts" = some (some (.ref a19))) (q19b : K.lookup a19 = some ⟨oc19, od19, .func (PySem.W.fnOf "facts" "facts" (defArgs s_facts) (defBody s_facts) (defScope s_facts) .none kV19 dc19 pm19 an19 cd19 ct19), sl19⟩) (q19c : PySem.W.codeIn K cd19 "facts" = true) (q19d : PySem.W.keepIn K (.ref a19) = true)
    (q20a : PySem.W.nsIn K mainGlobals "holds_along" = some (some (.ref a20))) (q20b : K.lookup a20 = some ⟨oc20, od20, .func (PySem.W.fnOf "holds_along" "holds_along" (defArgs s_holds_along) (defBody s_holds_along) (defScope s_holds_along) .none kV20 dc20 pm20 an20 cd20 ct20), sl20⟩) (q20c : PySem.W.codeIn K cd20 "holds_along" = true) (q20d : PySem.W.keepIn K (.ref a20) = true)
    (q21a : PySem.W.nsIn K mainGlobals "check_size" = some (some (.ref a21))) (q21b : K.lookup a21 = some ⟨oc21, od21, .func (PySem.W.fnOf "check_size" "check_size" (defArgs s_check_size) (defBody s_check_size) (defScope s_check_size) .none kV21 dc21 pm21 an21 cd21 ct21), sl21⟩) (q21c : PySem.W.codeIn K cd21 "check_size" = true) (q21d : PySem.W.keepIn K (.ref a21) = true)
    (q22a : PySem.W.nsIn K mainGlobals "_law_size" = some (some (.ref a22))) (q22b : K.lookup a22 = some ⟨oc22, od22, .func (PySem.W.fnOf "_law_size" "_law_size" (defArgs s__law_size) (defBody s__law_size) (defScope s__law_size) .none kV22 dc22 pm22 an22 cd22 ct22), sl22⟩) (q22c : PySem.W.codeIn K cd22 "_law_size" = true) (q22d : PySem.W.keepIn K (.ref a22) = true)
    (q23a : PySem.W.nsIn K mainGlobals "last_true" = some (some (.ref a23))) (q23b : K.lookup a23 = some ⟨oc23, od23, .func (PySem.W.fnOf "last_true" "last_true" (defArgs s_last_true) (defBody s_last_true) (defScope s_last_true) .none kV23 dc23 pm23 an23 cd23 ct23), sl23⟩) (q23c : PySem.W.codeIn K cd23 "last_true" = true) (q23d : PySem.W.keepIn K (.ref a23) = true)
    (q24a : PySem.W.nsIn K mainGlobals "first_false" = some (some (.ref a24))) (q24b : K.lookup a24 = some ⟨oc24, od24, .func (PySem.W.fnOf "first_false" "first_false" (defArgs s_first_false) (defBody s_first_false) (defScope s_first_false) .none kV24 dc24 pm24 an24 cd24 ct24), sl24⟩) (q24c : PySem.W.codeIn K cd24 "first_false" = true) (q24d : PySem.W.keepIn K (.ref a24) = true)
    (q25a : PySem.W.nsIn K mainGlobals "check_holds" = some (some (.ref a25))) (q25b : K.lookup a25 = some ⟨oc25, od25, .func (PySem.W.fnOf "check_holds" "check_holds" (defArgs s_check_holds) (defBody s_check_holds) (defScope s_check_holds) .none kV25 dc25 pm25 an25 cd25 ct25), sl25⟩) (q25c : PySem.W.codeIn K cd25 "check_holds" = true) (q25d : PySem.W.keepIn K (.ref a25) = true)
    (q26a : PySem.W.nsIn K mainGlobals "_law_worth" = some (some (.ref a26))) (q26b : K.lookup a26 = some ⟨oc26, od26, .func (PySem.W.fnOf "_law_worth" "_law_worth" (defArgs s__law_worth) (defBody s__law_worth) (defScope s__law_worth) .none kV26 dc26 pm26 an26 cd26 ct26), sl26⟩) (q26c : PySem.W.codeIn K cd26 "_law_worth" = true) (q26d : PySem.W.keepIn K (.ref a26) = true)
    (q27a : PySem.W.nsIn K mainGlobals "_law_at" = some (some (.ref a27))) (q27b : K.lookup a27 = some ⟨oc27, od27, .func (PySem.W.fnOf "_law_at" "_law_at" (defArgs s__law_at) (defBody s__law_at) (defScope s__law_at) .none kV27 dc27 pm27 an27 cd27 ct27), sl27⟩) (q27c : PySem.W.codeIn K cd27 "_law_at" = true) (q27d : PySem.W.keepIn K (.ref a27) = true)
    (q28a : PySem.W.nsIn K mainGlobals "_law_holds" = some (some (.ref a28))) (q28b : K.lookup a28 = some ⟨oc28, od28, .func (PySem.W.fnOf "_law_holds" "_law_holds" (defArgs s__law_holds) (defBody s__law_holds) (defScope s__law_holds) .none kV28 dc28 pm28 an28 cd28 ct28), sl28⟩) (q28c : PySem.W.codeIn K cd28 "_law_holds" = true) (q28d : PySem.W.keepIn K (.ref a28) = true)
    (q29a : PySem.W.nsIn K mainGlobals "_law_pick" = some (some (.ref a29))) (q29b : K.lookup a29 = some ⟨oc29, od29, .func (PySem.W.fnOf "_law_pick" "_law_pick" (defArgs s__law_pick) (defBody s__law_pick) (defScope s__law_pick) .none kV29 dc29 pm29 an29 cd29 ct29), sl29⟩) (q29c : PySem.W.codeIn K cd29 "_law_pick" = true) (q29d : PySem.W.keepIn K (.ref a29) = true)
    (q30a : PySem.W.nsIn K mainGlobals "_law_expr" = some (some (.ref a30))) (q30b : K.lookup a30 = some ⟨oc30, od30, .func (PySem.W.fnOf "_law_expr" "_law_expr" (defArgs s__law_expr) (defBody s__law_expr) (defScope s__law_expr) .none kV30 dc30 pm30 an30 cd30 ct30), sl30⟩) (q30c : PySem.W.codeIn K cd30 "_law_expr" = true) (q30d : PySem.W.keepIn K (.ref a30) = true)
    (q31a : PySem.W.nsIn K mainGlobals "_law_check" = some (some (.ref a31))) (q31b : K.lookup a31 = some ⟨oc31, od31, .func (PySem.W.fnOf "_law_check" "_law_check" (defArgs s__law_check) (defBody s__law_check) (defScope s__law_check) .none kV31 dc31 pm31 an31 cd31 ct31), sl31⟩) (q31c : PySem.W.codeIn K cd31 "_law_check" = true) (q31d : PySem.W.keepIn K (.ref a31) = true)
    (q32a : PySem.W.nsIn K mainGlobals "_law_run_of" = some (some (.ref a32))) (q32b : K.lookup a32 = some ⟨oc32, od32, .func (PySem.W.fnOf "_law_run_of" "_law_run_of" (defArgs s__law_run_of) (defBody s__law_run_of) (defScope s__law_run_of) .none kV32 dc32 pm32 an32 cd32 ct32), sl32⟩) (q32c : PySem.W.codeIn K cd32 "_law_run_of" = true) (q32d : PySem.W.keepIn K (.ref a32) = true)
    (q33a : PySem.W.nsIn K mainGlobals "law" = some (some (.ref a33))) (q33b : K.lookup a33 = some ⟨oc33, od33, .func (PySem.W.fnOf "law" "law" (defArgs s_law) (defBody s_law) (defScope s_law) .none kV33 dc33 pm33 an33 cd33 ct33), sl33⟩) (q33c : PySem.W.codeIn K cd33 "law" = true) (q33d : PySem.W.keepIn K (.ref a33) = true)
    (z0 : PySem.W.nsIn K mainGlobals "range" = some none) (z1 : PySem.W.nsIn K mainGlobals "int" = some none) (z2 : PySem.W.nsIn K mainGlobals "len" = some none) (z3 : PySem.W.nsIn K mainGlobals "abs" = some none) (z4 : PySem.W.nsIn K mainGlobals "str" = some none) (z5 : PySem.W.nsIn K mainGlobals "isinstance" = some none) (z6 : PySem.W.nsIn K mainGlobals "bool" = some none) (z7 : PySem.W.nsIn K mainGlobals "tuple" = some none) (z8 : PySem.W.nsIn K mainGlobals "all" = some none) (z9 : PySem.W.nsIn K mainGlobals "dict" = some none) (z10 : PySem.W.nsIn K mainGlobals "zip" = some none) (z11 : PySem.W.nsIn K mainGlobals "sum" = some none) (z12 : PySem.W.nsIn K mainGlobals "enumerate" = some none) (z13 : PySem.W.nsIn K mainGlobals "list" = some none) (c0a : PySem.W.nsIn K mainGlobals "DIGITS" = some (some (.str "0123456789" tk0))) (c1a : PySem.W.nsIn K mainGlobals "LETTERS" = some (some (.str "abcdefghijklmnopqrstuvwxyz" tk1))) (c2a : PySem.W.nsIn K mainGlobals "PAIRS" = some (some (.ref ga2))) (c2b : K.lookup ga2 = some ⟨.type "tuple", god2, .seq #[(.str "add" tk2_0), (.str "sub" tk2_1), (.str "mul" tk2_2), (.str "less" tk2_3), (.str "same" tk2_4)] gn2, gsl2⟩) :
    ∃ fd : FuncData, (∀ (s : Shared) (v : Value), BindsTo s fd ⟨[v], []⟩ [("script", v)]) ∧ ∀ base : Heap, K.In base → base.Ns mainGlobals mg → FnOk l.prog w K mg base CX0 83 fa fd ["script"] (spLaw K) := by
  have e := hfa.symm.trans (PySem.W.mg_of X G q33a)
  cases e
  have TX1 : TX K mg := ⟨PySem.W.mg_none_of X G z0, PySem.W.mg_none_of X G z1, PySem.W.mg_none_of X G z2, PySem.W.mg_none_of X G z3, PySem.W.mg_none_of X G z4, PySem.W.mg_none_of X G z5, PySem.W.mg_none_of X G z6, PySem.W.mg_none_of X G z7, PySem.W.mg_none_of X G z8, PySem.W.mg_none_of X G z9, PySem.W.mg_none_of X G z10, PySem.W.mg_none_of X G z11, PySem.W.mg_none_of X G z12, PySem.W.mg_none_of X G z13, ⟨_, PySem.W.mg_of X G c0a⟩, ⟨_, PySem.W.mg_of X G c1a⟩, ⟨_, PySem.W.mg_of X G c2a, [.str "add", .str "sub", .str "mul", .str "less", .str "same"], fun _ _ _ => ⟨.inr ⟨_, _, _, c2b, rfl, rfl, by show 5 ≤ sizeLine; rw [sizeLine_eq]; decide, .cons ⟨_, rfl⟩ (.cons ⟨_, rfl⟩ (.cons ⟨_, rfl⟩ (.cons ⟨_, rfl⟩ (.cons ⟨_, rfl⟩ (.nil)))))⟩, ⟨_, _, rfl, rfl, ⟨_, _, rfl, rfl, ⟨_, _, rfl, rfl, ⟨_, _, rfl, rfl, ⟨_, _, rfl, rfl, rfl⟩⟩⟩⟩⟩⟩⟩⟩
  have F0 := fun_mk (st := s__law_draws) q0b q0c q0d
  have D0 : Def0 K mg "_law_draws" s__law_draws a0 _ ["script", "many"] := ⟨F0, PySem.W.mg_of X G q0a, F0.binds (ps := ["script", "many"]) fun _ _ _ _ _ _ us hl => match us, hl with | [_, _], _ => rfl⟩
  have F1 := fun_mk (st := s__law_is_name) q1b q1c q1d
  have D1 : Def0 K mg "_law_is_name" s__law_is_name a1 _ ["thing"] := ⟨F1, PySem.W.mg_of X G q1a, F1.binds (ps := ["thing"]) fun _ _ _ _ _ _ us hl => match us, hl with | [_], _ => rfl⟩
  have F2 := fun_mk (st := s__law_is_number) q2b q2c q2d
  have D2 : Def0 K mg "_law_is_number" s__law_is_number a2 _ ["thing"] := ⟨F2, PySem.W.mg_of X G q2a, F2.binds (ps := ["thing"]) fun _ _ _ _ _ _ us hl => match us, hl with | [_], _ => rfl⟩
  have F3 := fun_mk (st := s__law_is_expr) q3b q3c q3d
  have D3 : Def0 K mg "_law_is_expr" s__law_is_expr a3 _ ["thing"] := ⟨F3, PySem.W.mg_of X G q3a, F3.binds (ps := ["thing"]) fun _ _ _ _ _ _ us hl => match us, hl with | [_], _ => rfl⟩
  have F4 := fun_mk (st := s__law_is_check) q4b q4c q4d
  have D4 : Def0 K mg "_law_is_check" s__law_is_check a4 _ ["thing"] := ⟨F4, PySem.W.mg_of X G q4a, F4.binds (ps := ["thing"]) fun _ _ _ _ _ _ us hl => match us, hl with | [_], _ => rfl⟩
  have F5 := fun_mk (st := s_is_tuple_of) q5b q5c q5d
  have D5 : Def0 K mg "is_tuple_of" s_is_tuple_of a5 _ ["thing", "many"] := ⟨F5, PySem.W.mg_of X G q5a, F5.binds (ps := ["thing", "many"]) fun _ _ _ _ _ _ us hl => match us, hl with | [_, _], _ => rfl⟩
  have F6 := fun_mk (st := s_is_name) q6b q6c q6d
  have D6 : Def0 K mg "is_name" s_is_name a6 _ ["thing"] := ⟨F6, PySem.W.mg_of X G q6a, F6.binds (ps := ["thing"]) fun _ _ _ _ _ _ us hl => match us, hl with | [_], _ => rfl⟩
  have F7 := fun_mk (st := s_is_number) q7b q7c q7d
  have D7 : Def0 K mg "is_number" s_is_number a7 _ ["thing"] := ⟨F7, PySem.W.mg_of X G q7a, F7.binds (ps := ["thing"]) fun _ _ _ _ _ _ us hl => match us, hl with | [_], _ => rfl⟩
  have F8 := fun_mk (st := s_is_expr) q8b q8c q8d
  have D8 : Def0 K mg "is_expr" s_is_expr a8 _ ["thing"] := ⟨F8, PySem.W.mg_of X G q8a, F8.binds (ps := ["thing"]) fun _ _ _ _ _ _ us hl => match us, hl with | [_], _ => rfl⟩
  have F9 := fun_mk (st := s_is_check) q9b q9c q9d
  have D9 : Def0 K mg "is_check" s_is_check a9 _ ["thing"] := ⟨F9, PySem.W.mg_of X G q9a, F9.binds (ps := ["thing"]) fun _ _ _ _ _ _ us hl => match us, hl with | [_], _ => rfl⟩
  have F10 := fun_mk (st := s__law_is_bit) q10b q10c q10d
  have D10 : Def0 K mg "_law_is_bit" s__law_is_bit a10 _ ["said", "due"] := ⟨F10, PySem.W.mg_of X G q10a, F10.binds (ps := ["said", "due"]) fun _ _ _ _ _ _ us hl => match us, hl with | [_, _], _ => rfl⟩
  have F11 := fun_mk (st := s__law_next) q11b q11c q11d
  have D11 : Def0 K mg "_law_next" s__law_next a11 _ ["w", "many"] := ⟨F11, PySem.W.mg_of X G q11a, F11.binds (ps := ["w", "many"]) fun _ _ _ _ _ _ us hl => match us, hl with | [_, _], _ => rfl⟩
  have F12 := fun_mk (st := s_once) q12b q12c q12d
  have D12 : Def0 K mg "once" s_once a12 _ ["check"] := ⟨F12, PySem.W.mg_of X G q12a, F12.binds (ps := ["check"]) fun _ _ _ _ _ _ us hl => match us, hl with | [_], _ => rfl⟩
  have F13 := fun_mk (st := s_either) q13b q13c q13d
  have D13 : Def0 K mg "either" s_either a13 _ ["one", "other"] := ⟨F13, PySem.W.mg_of X G q13a, F13.binds (ps := ["one", "other"]) fun _ _ _ _ _ _ us hl => match us, hl with | [_, _], _ => rfl⟩
  have F14 := fun_mk (st := s_always) q14b q14c q14d
  have D14 : Def0 K mg "always" s_always a14 _ ["check"] := ⟨F14, PySem.W.mg_of X G q14a, F14.binds (ps := ["check"]) fun _ _ _ _ _ _ us hl => match us, hl with | [_], _ => rfl⟩
  have F15 := fun_mk (st := s_leads_to) q15b q15c q15d
  have D15 : Def0 K mg "leads_to" s_leads_to a15 _ ["one", "other"] := ⟨F15, PySem.W.mg_of X G q15a, F15.binds (ps := ["one", "other"]) fun _ _ _ _ _ _ us hl => match us, hl with | [_, _], _ => rfl⟩
  have F16 := fun_mk (st := s_worth) q16b q16c q16d
  have D16 : Def0 K mg "worth" s_worth a16 _ ["expr", "variables", "cells"] := ⟨F16, PySem.W.mg_of X G q16a, F16.binds (ps := ["expr", "variables", "cells"]) fun _ _ _ _ _ _ us hl => match us, hl with | [_, _, _], _ => rfl⟩
  have F17 := fun_mk (st := s_cells_of) q17b q17c q17d
  have D17 : Def0 K mg "cells_of" s_cells_of a17 _ ["state"] := ⟨F17, PySem.W.mg_of X G q17a, F17.binds (ps := ["state"]) fun _ _ _ _ _ _ us hl => match us, hl with | [_], _ => rfl⟩
  have F18 := fun_mk (st := s_is_over) q18b q18c q18d
  have D18 : Def0 K mg "is_over" s_is_over a18 _ ["state"] := ⟨F18, PySem.W.mg_of X G q18a, F18.binds (ps := ["state"]) fun _ _ _ _ _ _ us hl => match us, hl with | [_], _ => rfl⟩
  have F19 := fun_mk (st := s_facts) q19b q19c q19d
  have D19 : Def0 K mg "facts" s_facts a19 _ ["state"] := ⟨F19, PySem.W.mg_of X G q19a, F19.binds (ps := ["state"]) fun _ _ _ _ _ _ us hl => match us, hl with | [_], _ => rfl⟩
  have F20 := fun_mk (st := s_holds_along) q20b q20c q20d
  have D20 : Def0 K mg "holds_along" s_holds_along a20 _ ["run", "check"] := ⟨F20, PySem.W.mg_of X G q20a, F20.binds (ps := ["run", "check"]) fun _ _ _ _ _ _ us hl => match us, hl with | [_, _], _ => rfl⟩
  have F21 := fun_mk (st := s_check_size) q21b q21c q21d
  have D21 : Def0 K mg "check_size" s_check_size a21 _ ["check"] := ⟨F21, PySem.W.mg_of X G q21a, F21.binds (ps := ["check"]) fun _ _ _ _ _ _ us hl => match us, hl with | [_], _ => rfl⟩
  have F22 := fun_mk (st := s__law_size) q22b q22c q22d
  have D22 : Def0 K mg "_law_size" s__law_size a22 _ ["check"] := ⟨F22, PySem.W.mg_of X G q22a, F22.binds (ps := ["check"]) fun _ _ _ _ _ _ us hl => match us, hl with | [_], _ => rfl⟩
  have F23 := fun_mk (st := s_last_true) q23b q23c q23d
  have D23 : Def0 K mg "last_true" s_last_true a23 _ ["run", "check"] := ⟨F23, PySem.W.mg_of X G q23a, F23.binds (ps := ["run", "check"]) fun _ _ _ _ _ _ us hl => match us, hl with | [_, _], _ => rfl⟩
  have F24 := fun_mk (st := s_first_false) q24b q24c q24d
  have D24 : Def0 K mg "first_false" s_first_false a24 _ ["run", "check"] := ⟨F24, PySem.W.mg_of X G q24a, F24.binds (ps := ["run", "check"]) fun _ _ _ _ _ _ us hl => match us, hl with | [_, _], _ => rfl⟩
  have F25 := fun_mk (st := s_check_holds) q25b q25c q25d
  have D25 : Def0 K mg "check_holds" s_check_holds a25 _ ["run", "check"] := ⟨F25, PySem.W.mg_of X G q25a, F25.binds (ps := ["run", "check"]) fun _ _ _ _ _ _ us hl => match us, hl with | [_, _], _ => rfl⟩
  have F26 := fun_mk (st := s__law_worth) q26b q26c q26d
  have D26 : Def0 K mg "_law_worth" s__law_worth a26 _ ["expr", "variables", "cells"] := ⟨F26, PySem.W.mg_of X G q26a, F26.binds (ps := ["expr", "variables", "cells"]) fun _ _ _ _ _ _ us hl => match us, hl with | [_, _, _], _ => rfl⟩
  have F27 := fun_mk (st := s__law_at) q27b q27c q27d
  have D27 : Def0 K mg "_law_at" s__law_at a27 _ ["state", "expr"] := ⟨F27, PySem.W.mg_of X G q27a, F27.binds (ps := ["state", "expr"]) fun _ _ _ _ _ _ us hl => match us, hl with | [_, _], _ => rfl⟩
  have F28 := fun_mk (st := s__law_holds) q28b q28c q28d
  have D28 : Def0 K mg "_law_holds" s__law_holds a28 _ ["run", "k", "check"] := ⟨F28, PySem.W.mg_of X G q28a, F28.binds (ps := ["run", "k", "check"]) fun _ _ _ _ _ _ us hl => match us, hl with | [_, _, _], _ => rfl⟩
  have F29 := fun_mk (st := s__law_pick) q29b q29c q29d
  have D29 : Def0 K mg "_law_pick" s__law_pick a29 _ ["w", "rows"] := ⟨F29, PySem.W.mg_of X G q29a, F29.binds (ps := ["w", "rows"]) fun _ _ _ _ _ _ us hl => match us, hl with | [_, _], _ => rfl⟩
  have F30 := fun_mk (st := s__law_expr) q30b q30c q30d
  have D30 : Def0 K mg "_law_expr" s__law_expr a30 _ ["w"] := ⟨F30, PySem.W.mg_of X G q30a, F30.binds (ps := ["w"]) fun _ _ _ _ _ _ us hl => match us, hl with | [_], _ => rfl⟩
  have F31 := fun_mk (st := s__law_check) q31b q31c q31d
  have D31 : Def0 K mg "_law_check" s__law_check a31 _ ["w", "deep"] := ⟨F31, PySem.W.mg_of X G q31a, F31.binds (ps := ["w", "deep"]) fun _ _ _ _ _ _ us hl => match us, hl with | [_, _], _ => rfl⟩
  have F32 := fun_mk (st := s__law_run_of) q32b q32c q32d
  have D32 : Def0 K mg "_law_run_of" s__law_run_of a32 _ ["w"] := ⟨F32, PySem.W.mg_of X G q32a, F32.binds (ps := ["w"]) fun _ _ _ _ _ _ us hl => match us, hl with | [_], _ => rfl⟩
  have F33 := fun_mk (st := s_law) q33b q33c q33d
  have D33 : Def0 K mg "law" s_law fa _ ["script"] := ⟨F33, PySem.W.mg_of X G q33a, F33.binds (ps := ["script"]) fun _ _ _ _ _ _ us hl => match us, hl with | [_], _ => rfl⟩
  refine ⟨PySem.W.fnOf "law" "law" (defArgs s_law) (defBody s_law) (defScope s_law) .none kV33 dc33 pm33 an33 cd33 ct33, fun s v => .of_eq rfl, fun base _ _ => ?_⟩
  have C0 : Cal l.prog w K mg base 1 "_law_draws" a0 _ ["script", "many"] f__law_draws := d__law_draws (k := 0) TX1 D0 
  have C1 : Cal l.prog w K mg base 1 "_law_is_name" a1 _ ["thing"] f__law_is_name := d__law_is_name (k := 0) TX1 D1 
  have C2 : Cal l.prog w K mg base 1 "_law_is_number" a2 _ ["thing"] f__law_is_number := d__law_is_number (k := 0) TX1 D2 
  have C3 : Cal l.prog w K mg base 41 "_law_is_expr" a3 _ ["thing"] (f__law_is_expr 40) := (r__law_is_expr (k := 1) TX1 D3 (C1.up (by decide)) (C2.up (by decide)) 40).up (by decide)
  have C4 : Cal l.prog w K mg base 81 "_law_is_check" a4 _ ["thing"] (f__law_is_check 40) := (r__law_is_check (k := 41) TX1 D4 (C3.up (by decide)) 40).up (by decide)
  have C5 : Cal l.prog w K mg base 1 "is_tuple_of" a5 _ ["thing", "many"] f_is_tuple_of := d_is_tuple_of (k := 0) TX1 D5 
  have C6 : Cal l.prog w K mg base 1 "is_name" a6 _ ["thing"] f_is_name := d_is_name (k := 0) TX1 D6 
  have C7 : Cal l.prog w K mg base 1 "is_number" a7 _ ["thing"] f_is_number := d_is_number (k := 0) TX1 D7 
  have C8 : Cal l.prog w K mg base 41 "is_expr" a8 _ ["thing"] (f_is_expr 40) := (r_is_expr (k := 1) TX1 D8 (C5.up (by decide)) (C6.up (by decide)) (C7.up (by decide)) 40).up (by decide)
  have C9 : Cal l.prog w K mg base 81 "is_check" a9 _ ["thing"] (f_is_check 40) := (r_is_check (k := 41) TX1 D9 (C5.up (by decide)) (C8.up (by decide)) 40).up (by decide)
  have C10 : Cal l.prog w K mg base 1 "_law_is_bit" a10 _ ["said", "due"] f__law_is_bit := d__law_is_bit (k := 0) TX1 D10 
  have C11 : Cal l.prog w K mg base 1 "_law_next" a11 _ ["w", "many"] f__law_next := d__law_next (k := 0) TX1 D11 
  have C12 : Cal l.prog w K mg base 1 "once" a12 _ ["check"] f_once := d_once (k := 0) TX1 D12 
  have C13 : Cal l.prog w K mg base 1 "either" a13 _ ["one", "other"] f_either := d_either (k := 0) TX1 D13 
  have C14 : Cal l.prog w K mg base 1 "always" a14 _ ["check"] f_always := d_always (k := 0) TX1 D14 
  have C15 : Cal l.prog w K mg base 2 "leads_to" a15 _ ["one", "other"] f_leads_to := d_leads_to (k := 1) TX1 D15 (C12.up (by decide)) (C13.up (by decide)) (C14.up (by decide))
  have C16 : Cal l.prog w K mg base 41 "worth" a16 _ ["expr", "variables", "cells"] (f_worth 40) := (r_worth (k := 1) TX1 D16 (C7.up (by decide)) 40).up (by decide)
  have C17 : Cal l.prog w K mg base 1 "cells_of" a17 _ ["state"] f_cells_of := d_cells_of (k := 0) TX1 D17 
  have C18 : Cal l.prog w K mg base 1 "is_over" a18 _ ["state"] f_is_over := d_is_over (k := 0) TX1 D18 
  have C19 : Cal l.prog w K mg base 2 "facts" a19 _ ["state"] f_facts := d_facts (k := 1) TX1 D19 (C17.up (by decide)) (C18.up (by decide))
  have C20 : Cal l.prog w K mg base 81 "holds_along" a20 _ ["run", "check"] (f_holds_along 40) := (r_holds_along (k := 41) TX1 D20 (C16.up (by decide)) (C19.up (by decide)) 40).up (by decide)
  have C21 : Cal l.prog w K mg base 40 "check_size" a21 _ ["check"] (f_check_size 40) := (r_check_size (k := 0) TX1 D21  40).up (by decide)
  have C22 : Cal l.prog w K mg base 40 "_law_size" a22 _ ["check"] (f__law_size 40) := (r__law_size (k := 0) TX1 D22  40).up (by decide)
  have C23 : Cal l.prog w K mg base 82 "last_true" a23 _ ["run", "check"] f_last_true := d_last_true (k := 81) TX1 D23 (C20.up (by decide))
  have C24 : Cal l.prog w K mg base 82 "first_false" a24 _ ["run", "check"] f_first_false := d_first_false (k := 81) TX1 D24 (C20.up (by decide))
  have C25 : Cal l.prog w K mg base 82 "check_holds" a25 _ ["run", "check"] f_check_holds := d_check_holds (k := 81) TX1 D25 (C20.up (by decide))
  have C26 : Cal l.prog w K mg base 40 "_law_worth" a26 _ ["expr", "variables", "cells"] (f__law_worth 40) := (r__law_worth (k := 0) TX1 D26  40).up (by decide)
  have C27 : Cal l.prog w K mg base 41 "_law_at" a27 _ ["state", "expr"] f__law_at := d__law_at (k := 40) TX1 D27 (C26.up (by decide))
  have C28 : Cal l.prog w K mg base 81 "_law_holds" a28 _ ["run", "k", "check"] (f__law_holds 40) := (r__law_holds (k := 41) TX1 D28 (C27.up (by decide)) 40).up (by decide)
  have C29 : Cal l.prog w K mg base 2 "_law_pick" a29 _ ["w", "rows"] f__law_pick := d__law_pick (k := 1) TX1 D29 (C11.up (by decide))
  have C30 : Cal l.prog w K mg base 3 "_law_expr" a30 _ ["w"] f__law_expr := d__law_expr (k := 2) TX1 D30 (C29.up (by decide))
  have C31 : Cal l.prog w K mg base 43 "_law_check" a31 _ ["w", "deep"] (f__law_check 40) := (r__law_check (k := 3) TX1 D31 (C30.up (by decide)) (C29.up (by decide)) 40).up (by decide)
  have C32 : Cal l.prog w K mg base 2 "_law_run_of" a32 _ ["w"] f__law_run_of := d__law_run_of (k := 1) TX1 D32 (C11.up (by decide))
  exact d_law (k := 82) TX1 D33 (C0.up (by decide)) (C4.up (by decide)) (C9.up (by decide)) (C10.up (by decide)) (C11.up (by decide)) (C15.up (by decide)) (C12.up (by decide)) (C13.up (by decide)) (C14.up (by decide)) (C20.up (by decide)) (C21.up (by decide)) (C22.up (by decide)) (C23.up (by decide)) (C24.up (by decide)) (C25.up (by decide)) (C28.up (by decide)) (C31.up (by decide)) (C32.up (by decide)) math
end Kk44

set_option Elab.async false
set_option linter.all false
set_option maxRecDepth 100000
set_option maxHeartbeats 1000000
namespace Kk44
open PySem PySem.Spec PyProof.Rows L2 Dl
theorem draws_is : f__law_draws = fDraws := rfl
theorem next_is : f__law_next = fNext := rfl
theorem pick_is : f__law_pick = fPick := rfl
/-! the eight expressions -/
abbrev xV : D := .tup [.str "var", .str "x"]
abbrev xC3 : D := .tup [.str "cell", .int 3]
abbrev xCV : D := .tup [.str "cell", xV]
def exs : List D := [.int 0, .int 1, xV, .tup [.str "not", xV], xC3, .tup [.str "less", xV, xC3], .tup [.str "same", .tup [.str "var", .str "y2"], .int 1], .tup [.str "sub", xCV, .int 1]]
theorem expr_ok {W : Wd} (h0 : OkW W) : ∃ (d : D) (W' : Wd), f__law_expr [.w] (some W) = some ((d, .fz), some W') ∧ d ∈ exs ∧ OkW W' := by
  obtain ⟨d, W', h1, h2, h3⟩ := pick_ok h0 (ds := exs) (by decide)
  refine ⟨d, W', ?_, h2, h3⟩
  unfold exs at h1
  simp -implicitDefEqProofs [f__law_expr, b__law_expr, pick_is, h1]
/-- worth of the eight -/
def get (ks : List Key) (vs : List Int) (k : Key) : Int := (findI ks vs k).getD 0
theorem getP_int {ks : List Key} {vs : List Int} {k : Key} {w : Option Wd} : getP ks (vs.map D.int) k ((.int 0, .fz), w) = some ((.int (get ks vs k), .fz), w) := by
  unfold getP get
  rw [dFind_int]
  cases findI ks vs k <;> rfl
theorem worth_s (k : Nat) : f_worth (k + 1) = runFn 6 3 (b_worth (f_worth k) f_is_number) := rfl
theorem lworth_s (k : Nat) : f__law_worth (k + 1) = runFn 5 3 (b__law_worth (f__law_worth k)) := rfl
theorem isn_i (i : Int) (w : Option Wd) : f_is_number [.int i] w = some ((.bl true, .fz), w) := by simp -implicitDefEqProofs [f_is_number, b_is_number]
theorem isn_t (ds : List D) (w : Option Wd) : f_is_number [.tup ds] w = some ((.bl false, .fz), w) := by simp -implicitDefEqProofs [f_is_number, b_is_number]
theorem w_int (k : Nat) (i : Int) (a b : D) (w : Option Wd) : f_worth (k + 1) [.int i, a, b] w = some ((.int i, .fz), w) := by
  simp -implicitDefEqProofs [worth_s, b_worth, isn_i]
theorem w_var (k : Nat) (x : Str) (ks : List Key) (vs : List Int) (b : D) (w : Option Wd) : f_worth (k + 1) [.tup [.str "var", .str x], .dk ks (vs.map D.int), b] w = some ((.int (get ks vs (.inr x)), .fz), w) := by
  simp -implicitDefEqProofs [worth_s, b_worth, isn_t, getP_int]
theorem w_cell (k : Nat) (e : D) (ks : List Key) (vs : List Int) (b : D) (n : Int) (w : Option Wd) (h : f_worth k [e, b, .dk ks (vs.map D.int)] w = some ((.int n, .fz), w)) : f_worth (k + 1) [.tup [.str "cell", e], b, .dk ks (vs.map D.int)] w = some ((.int (get ks vs (.inl n)), .fz), w) := by
  simp -implicitDefEqProofs [worth_s, b_worth, isn_t, getP_int, h]
theorem w_not (k : Nat) (e a b : D) (n : Int) (w : Option Wd) (h : f_worth k [e, a, b] w = some ((.int n, .fz), w)) : f_worth (k + 1) [.tup [.str "not", e], a, b] w = some ((.int (if n = 0 then 1 else 0), .fz), w) := by
  by_cases hn : n = 0 <;> simp -implicitDefEqProofs [worth_s, b_worth, isn_t, h, hn]
theorem w_less (k : Nat) (e f a b : D) (n m : Int) (w : Option Wd) (h : f_worth k [e, a, b] w = some ((.int n, .fz), w)) (g : f_worth k [f, a, b] w = some ((.int m, .fz), w)) : f_worth (k + 1) [.tup [.str "less", e, f], a, b] w = some ((.int (if n < m then 1 else 0), .fz), w) := by
  by_cases hn : n < m <;> simp -implicitDefEqProofs [worth_s, b_worth, isn_t, h, g, hn]
theorem w_same (k : Nat) (e f a b : D) (n m : Int) (w : Option Wd) (h : f_worth k [e, a, b] w = some ((.int n, .fz), w)) (g : f_worth k [f, a, b] w = some ((.int m, .fz), w)) : f_worth (k + 1) [.tup [.str "same", e, f], a, b] w = some ((.int (if n = m then 1 else 0), .fz), w) := by
  by_cases hn : n = m <;> simp -implicitDefEqProofs [worth_s, b_worth, isn_t, h, g, hn]
theorem w_sub (k : Nat) (e f a b : D) (n m : Int) (w : Option Wd) (h : f_worth k [e, a, b] w = some ((.int n, .fz), w)) (g : f_worth k [f, a, b] w = some ((.int m, .fz), w)) : f_worth (k + 1) [.tup [.str "sub", e, f], a, b] w = some ((.int (n - m), .fz), w) := by
  simp -implicitDefEqProofs [worth_s, b_worth, isn_t, h, g]
theorem l_int (k : Nat) (i : Int) (a b : D) (w : Option Wd) : f__law_worth (k + 1) [.int i, a, b] w = some ((.int i, .fz), w) := by
  simp -implicitDefEqProofs [lworth_s, b__law_worth]
theorem l_var (k : Nat) (x : Str) (ks : List Key) (vs : List Int) (b : D) (w : Option Wd) : f__law_worth (k + 1) [.tup [.str "var", .str x], .dk ks (vs.map D.int), b] w = some ((.int (get ks vs (.inr x)), .fz), w) := by
  simp -implicitDefEqProofs [lworth_s, b__law_worth, getP_int]
theorem one_lim : [(D.non)].length ≤ lim := le_lim (by decide)
theorem l_cell (k : Nat) (e : D) (ks : List Key) (vs : List Int) (b : D) (n : Int) (w : Option Wd) (h : f__law_worth k [e, b, .dk ks (vs.map D.int)] w = some ((.int n, .fz), w)) : f__law_worth (k + 1) [.tup [.str "cell", e], b, .dk ks (vs.map D.int)] w = some ((.int (get ks vs (.inl n)), .fz), w) := by
  simp -implicitDefEqProofs [lworth_s, b__law_worth, getP_int, h, lcK_q len1_lim, lcL_cons]
theorem l_not (k : Nat) (e a b : D) (n : Int) (w : Option Wd) (h : f__law_worth k [e, a, b] w = some ((.int n, .fz), w)) : f__law_worth (k + 1) [.tup [.str "not", e], a, b] w = some ((.int (if n = 0 then 1 else 0), .fz), w) := by
  by_cases hn : n = 0 <;> simp -implicitDefEqProofs [lworth_s, b__law_worth, h, hn, lcK_q len1_lim, lcL_cons]
theorem l_less (k : Nat) (e f a b : D) (n m : Int) (w : Option Wd) (h : f__law_worth k [e, a, b] w = some ((.int n, .fz), w)) (g : f__law_worth k [f, a, b] w = some ((.int m, .fz), w)) : f__law_worth (k + 1) [.tup [.str "less", e, f], a, b] w = some ((.int (if n < m then 1 else 0), .fz), w) := by
  by_cases hn : n < m <;> by_cases he : n = m <;> simp -implicitDefEqProofs [lworth_s, b__law_worth, h, g, hn, he, lcK_q len2_lim, lcL_cons]
theorem l_same (k : Nat) (e f a b : D) (n m : Int) (w : Option Wd) (h : f__law_worth k [e, a, b] w = some ((.int n, .fz), w)) (g : f__law_worth k [f, a, b] w = some ((.int m, .fz), w)) : f__law_worth (k + 1) [.tup [.str "same", e, f], a, b] w = some ((.int (if n = m then 1 else 0), .fz), w) := by
  by_cases hn : n < m <;> by_cases he : n = m <;> simp -implicitDefEqProofs [lworth_s, b__law_worth, h, g, hn, he, lcK_q len2_lim, lcL_cons]
theorem l_sub (k : Nat) (e f a b : D) (n m : Int) (w : Option Wd) (h : f__law_worth k [e, a, b] w = some ((.int n, .fz), w)) (g : f__law_worth k [f, a, b] w = some ((.int m, .fz), w)) : f__law_worth (k + 1) [.tup [.str "sub", e, f], a, b] w = some ((.int (n - m), .fz), w) := by
  simp -implicitDefEqProofs [lworth_s, b__law_worth, h, g, lcK_q len2_lim, lcL_cons]
theorem worth_ok (ks : List Key) (vs : List Int) (kc : List Key) (vc : List Int) (e : D) (he : e ∈ exs) : ∃ n : Int, ∀ w, f_worth 40 [e, .dk ks (vs.map D.int), .dk kc (vc.map D.int)] w = some ((.int n, .fz), w) ∧ f__law_worth 40 [e, .dk ks (vs.map D.int), .dk kc (vc.map D.int)] w = some ((.int n, .fz), w) := by
  simp only [exs, List.mem_cons, List.mem_nil_iff, or_false] at he
  rcases he with e | e | e | e | e | e | e | e <;> subst e
  · exact ⟨0, fun w => ⟨w_int 39 .., l_int 39 ..⟩⟩
  · exact ⟨1, fun w => ⟨w_int 39 .., l_int 39 ..⟩⟩
  · exact ⟨_, fun w => ⟨w_var 39 .., l_var 39 ..⟩⟩
  · exact ⟨_, fun w => ⟨w_not 39 _ _ _ _ _ (w_var 38 ..), l_not 39 _ _ _ _ _ (l_var 38 ..)⟩⟩
  · exact ⟨_, fun w => ⟨w_cell 39 _ _ _ _ _ _ (w_int 38 ..), l_cell 39 _ _ _ _ _ _ (l_int 38 ..)⟩⟩
  · exact ⟨_, fun w => ⟨w_less 39 _ _ _ _ _ _ _ (w_var 38 ..) (w_cell 38 _ _ _ _ _ _ (w_int 37 ..)), l_less 39 _ _ _ _ _ _ _ (l_var 38 ..) (l_cell 38 _ _ _ _ _ _ (l_int 37 ..))⟩⟩
  · exact ⟨_, fun w => ⟨w_same 39 _ _ _ _ _ _ _ (w_var 38 ..) (w_int 38 ..), l_same 39 _ _ _ _ _ _ _ (l_var 38 ..) (l_int 38 ..)⟩⟩
  · exact ⟨_, fun w => ⟨w_sub 39 _ _ _ _ _ _ _ (w_cell 38 _ _ _ _ _ _ (w_var 37 ..)) (w_int 38 ..), l_sub 39 _ _ _ _ _ _ _ (l_cell 38 _ _ _ _ _ _ (l_var 37 ..)) (l_int 38 ..)⟩⟩
end Kk44

set_option Elab.async false
set_option linter.all false
set_option maxRecDepth 100000
set_option maxHeartbeats 1000000
namespace Kk44
open PySem PySem.Spec PyProof.Rows L2 Dl
/-! states -/
def prs (ps : List (D × Int)) : List D := ps.map fun p => .tup [p.1, .int p.2]
structure GoodS (s : D) : Prop where
  fin : fine 60 s = true
  fac : ∃ (ks : List Key) (vs : List Int) (kc : List Key) (vc : List Int), ∀ w, f_facts [s] w = some ((.tup [.dk ks (vs.map D.int), .dk kc (vc.map D.int)], .fz), w) ∧
    ∀ e n, (∀ w, f__law_worth 40 [e, .dk ks (vs.map D.int), .dk kc (vc.map D.int)] w = some ((.int n, .fz), w)) → f__law_at [s, e] w = some ((.bl (!decide (n = 0)), .fz), w)
/-- pairs that dict takes -/
def KeyPs (ps : List (D × Int)) : Prop := ps.length ≤ 100 ∧ ∀ p ∈ ps, ∃ k, keyD p.1 = some k
theorem dict_prs {ps : List (D × Int)} (h : KeyPs ps) : ∃ ks vs, dDict [.tup (prs ps)] = some (.dk ks (List.map D.int vs), .ow) := by
  obtain ⟨ks, vs, e⟩ := dMerge_int ps [] [] h.2
  refine ⟨ks, vs, ?_⟩
  rw [dDict_t (by unfold prs; rw [List.length_map]; exact le_lim (by have := h.1; omega))]
  show bnd (dMerge [] (([] : List Int).map D.int) (prs ps)) dicK = _
  unfold prs
  rw [e]; rfl
def fr0 : D := .tup [.str "main", .int 0, .tup [.tup [.str "x", .int 9]], .non]
def frm (k : Int) (ps : List (D × Int)) : D := .tup [.str "f", .int k, .tup (prs ps), .str "x"]
/-- a key as a text or a number fits -/
def fineK (ps : List (D × Int)) : Prop := ∀ p ∈ ps, fine 10 p.1 = true
theorem fines_prs (n : Nat) : ∀ ps : List (D × Int), (∀ p ∈ ps, fine n p.1 = true) → fines (n + 1) (prs ps) = true
  | [], _ => rfl
  | p :: ps, h => by
    have h1 := h p List.mem_cons_self
    have h2 := fines_prs n ps fun q hq => h q (List.mem_cons_of_mem _ hq)
    simp only [prs] at h2
    simp [prs, fines, fine, h1, h2]
theorem over_ok {xs : List D} (h : fine 64 (.tup xs) = true) (r : List D) (w) : f_is_over [.tup (.tup xs :: r)] w = some ((.bl xs.isEmpty, .fz), w) := by
  simp -implicitDefEqProofs [f_is_over, b_is_over, dEq_tnil h]
theorem cells_ok {xs : D} {ps : List (D × Int)} {ks vs} (h : dDict [.tup (prs ps)] = some (.dk ks (List.map D.int vs), .ow)) (r : List D) (w) : f_cells_of [.tup (xs :: .tup (prs ps) :: r)] w = some ((.dk ks (List.map D.int vs), .ow), w) := by
  simp -implicitDefEqProofs [f_cells_of, b_cells_of, h]
theorem frm_2 {k : Int} {ps : List (D × Int)} : dIx (frm k ps) (.int 2) = some (.tup (prs ps), .fz) := by simp [frm]
/-- cells as the runs have them -/
def Shape (s : D) : Prop := ∃ (x : D) (cs : List (D × Int)), s = .tup [x, .tup (prs cs), .tup [], .int 0] ∧ KeyPs cs ∧ fineK cs
theorem fine_prs {cs : List (D × Int)} (h : fineK cs) : fine 12 (.tup (prs cs)) = true := by
  show fine (11 + 1) _ = true
  rw [fine_tup, ← fines_all]
  exact fines_prs 10 cs h
theorem sok_f : PyData.strOk (Str.ofString "f") = true := by decide +kernel
theorem sok_x : PyData.strOk (Str.ofString "x") = true := by decide +kernel
theorem sok_y2 : PyData.strOk (Str.ofString "y2") = true := by decide +kernel
theorem sok_main : PyData.strOk (Str.ofString "main") = true := by decide +kernel
theorem fine_frm {k : Int} {ps : List (D × Int)} (h : fineK ps) : fine 13 (frm k ps) = true := by
  have := fine_prs h
  simp only [frm, fine_tup, List.mem_cons, List.mem_nil_iff, or_false]
  intro d hd
  rcases hd with e | e | e | e <;> subst e
  · rw [fine_str]; exact sok_f
  · exact fine_int
  · exact this
  · rw [fine_str]; exact sok_x
theorem good_mk {fs : List D} {k : Int} {ps cs : List (D × Int)} (hp : KeyPs ps) (hc : KeyPs cs) (hfs : ∀ d ∈ fs, fine 58 d = true) (fp : fineK ps) (fc : fineK cs) : GoodS (.tup [.tup (fs ++ [frm k ps]), .tup (prs cs), .tup [], .int 0]) := by
  have hx : fine 59 (.tup (fs ++ [frm k ps])) = true := by
    rw [fine_tup]
    intro d hd
    rcases List.mem_append.mp hd with hd | hd
    · exact hfs d hd
    · rw [List.mem_singleton] at hd
      subst hd
      exact fine_mono 13 58 _ (by decide) (fine_frm fp)
  have hf : fine 60 (.tup [.tup (fs ++ [frm k ps]), .tup (prs cs), .tup [], .int 0]) = true := by
    show fine (59 + 1) _ = true
    rw [fine_tup]
    intro d hd
    simp only [List.mem_cons, List.mem_nil_iff, or_false] at hd
    rcases hd with e | e | e | e <;> subst e
    · exact hx
    · exact fine_mono 12 59 _ (by decide) (fine_prs fc)
    · rfl
    · rfl
  have hx := fine_mono 59 64 _ (by decide) hx
  refine ⟨hf, ?_⟩
  obtain ⟨ks, vs, e1⟩ := dict_prs hp
  obtain ⟨kc, vc, e2⟩ := dict_prs hc
  have hemp : (fs ++ [frm k ps]).isEmpty = false := by simp
  refine ⟨ks, vs, kc, vc, fun w => ⟨?_, fun e n hn => ?_⟩⟩
  · have ho := fun r w => over_ok hx r w
    rw [hemp] at ho
    have hcl := fun r w => cells_ok (xs := .tup (fs ++ [frm k ps])) e2 r w
    simp -implicitDefEqProofs [f_facts, b_facts, ho, hcl, e1, frm_2]
  · have hne := dNe_tnil hx
    rw [hemp] at hne
    simp -implicitDefEqProofs [f__law_at, b__law_at, hne, e1, e2, frm_2, hn]
theorem good_over {cs : List (D × Int)} (hc : KeyPs cs) (fc : fineK cs) : GoodS (.tup [.tup [], .tup (prs cs), .tup [], .int 0]) := by
  have hf : fine 60 (.tup [.tup [], .tup (prs cs), .tup [], .int 0]) = true := by
    show fine (59 + 1) _ = true
    rw [fine_tup]
    intro d hd
    simp only [List.mem_cons, List.mem_nil_iff, or_false] at hd
    rcases hd with e | e | e | e <;> subst e
    · rfl
    · exact fine_mono 12 59 _ (by decide) (fine_prs fc)
    · rfl
    · rfl
  refine ⟨hf, ?_⟩
  obtain ⟨kc, vc, e2⟩ := dict_prs hc
  have hx : fine 64 (.tup []) = true := rfl
  refine ⟨[], [], kc, vc, fun w => ⟨?_, fun e n hn => ?_⟩⟩
  · have ho := fun r w => over_ok hx r w
    have hcl := fun r w => cells_ok (xs := .tup []) e2 r w
    simp -implicitDefEqProofs [f_facts, b_facts, ho, hcl]
  · have hne := dNe_tnil hx
    simp -implicitDefEqProofs at hn
    simp -implicitDefEqProofs [f__law_at, b__law_at, hne, e2, hn]
/-! the runs -/
abbrev tX : ET := (tVal (eOp dGt (eCall fNext (aCons (eFz (eVar 0)) (aCons (eFz (eC (.int 3))) aNil))) (eC (.int 0))))
abbrev eX (i : Nat) : EF := (eTup (aCons (eFz (eVar i)) (aCons (eFz (eOp dAdd (eC (.int 1)) (eCall fNext (aCons (eFz (eVar 0)) (aCons (eFz (eC (.int 3))) aNil))))) aNil)))
abbrev tC : ET := (tVal (eOp dEq (eCall fNext (aCons (eFz (eVar 0)) (aCons (eFz (eC (.int 2))) aNil))) (eC (.int 0))))
theorem lc1 (s1 s2 s3 s4 s5 s6 s7 : Option (D × Bool)) : ∀ (ds : List D) (W : Wd), OkW W → ∃ ps W', lcL (setN 6) tX (eX 6) ds [some (.w, false), s1, s2, s3, s4, s5, s6, s7] (some W) = some (prs ps, some W') ∧ OkW W' ∧ ps.length ≤ ds.length ∧ ∀ p ∈ ps, p.1 ∈ ds
  | [], W, h => ⟨[], W, rfl, h, Nat.le_refl _, fun _ h => nomatch h⟩
  | d :: ds, W, h => by
    obtain ⟨r, W1, h1, h2, h3, h4⟩ := next_ok h (m := 3) (by decide)
    by_cases hr : 0 < r
    · obtain ⟨r2, W2, g1, g2, g3, g4⟩ := next_ok h4 (m := 3) (by decide)
      obtain ⟨ps, W', k1, k2, k3, k4⟩ := lc1 s1 s2 s3 s4 s5 s6 s7 ds W2 g4
      refine ⟨(d, 1 + r2) :: ps, W', ?_, k2, by simp; exact k3, ?_⟩
      · simp -implicitDefEqProofs [lcL_cons, h1, hr, g1, k1, prs]
      · intro p hp
        rcases List.mem_cons.mp hp with e | e
        · subst e; exact List.mem_cons_self
        · exact List.mem_cons_of_mem _ (k4 p e)
    · obtain ⟨ps, W', k1, k2, k3, k4⟩ := lc1 s1 s2 s3 s4 s5 s6 s7 ds W1 h4
      refine ⟨ps, W', ?_, k2, by simp; omega, fun p hp => List.mem_cons_of_mem _ (k4 p hp)⟩
      simp -implicitDefEqProofs [lcL_cons, h1, hr, k1]
theorem lc2 (s1 s2 s3 s4 s5 s6 s7 : Option (D × Bool)) : ∀ (ds : List D) (W : Wd), OkW W → ∃ ps W', lcL (setN 7) tC (eX 7) ds [some (.w, false), s1, s2, s3, s4, s5, s6, s7] (some W) = some (prs ps, some W') ∧ OkW W' ∧ ps.length ≤ ds.length ∧ ∀ p ∈ ps, p.1 ∈ ds
  | [], W, h => ⟨[], W, rfl, h, Nat.le_refl _, fun _ h => nomatch h⟩
  | d :: ds, W, h => by
    obtain ⟨r, W1, h1, h2, h3, h4⟩ := next_ok h (m := 2) (by decide)
    by_cases hr : r = 0
    · obtain ⟨r2, W2, g1, g2, g3, g4⟩ := next_ok h4 (m := 3) (by decide)
      obtain ⟨ps, W', k1, k2, k3, k4⟩ := lc2 s1 s2 s3 s4 s5 s6 s7 ds W2 g4
      refine ⟨(d, 1 + r2) :: ps, W', ?_, k2, by simp; exact k3, ?_⟩
      · simp -implicitDefEqProofs [lcL_cons, h1, hr, g1, k1, prs]
      · intro p hp
        rcases List.mem_cons.mp hp with e | e
        · subst e; exact List.mem_cons_self
        · exact List.mem_cons_of_mem _ (k4 p e)
    · obtain ⟨ps, W', k1, k2, k3, k4⟩ := lc2 s1 s2 s3 s4 s5 s6 s7 ds W1 h4
      refine ⟨ps, W', ?_, k2, by simp; omega, fun p hp => List.mem_cons_of_mem _ (k4 p hp)⟩
      simp -implicitDefEqProofs [lcL_cons, h1, hr, k1]
theorem keys1 {ps : List (D × Int)} (h : ps.length ≤ [D.str "x", D.str "y2"].length) (hm : ∀ p ∈ ps, p.1 ∈ [D.str "x", D.str "y2"]) : KeyPs ps ∧ fineK ps := by
  refine ⟨⟨by simp at h; omega, fun p hp => ?_⟩, fun p hp => ?_⟩
  · have := hm p hp
    simp only [List.mem_cons, List.mem_nil_iff, or_false] at this
    rcases this with e | e <;> rw [e] <;> exact ⟨_, rfl⟩
  · have := hm p hp
    simp only [List.mem_cons, List.mem_nil_iff, or_false] at this
    rcases this with e | e <;> rw [e, fine_str]
    · exact sok_x
    · exact sok_y2
theorem keys2 {ps : List (D × Int)} (h : ps.length ≤ [D.int 1, D.int 2, D.int 3].length) (hm : ∀ p ∈ ps, p.1 ∈ [D.int 1, D.int 2, D.int 3]) : KeyPs ps ∧ fineK ps := by
  refine ⟨⟨by simp at h; omega, fun p hp => ?_⟩, fun p hp => ?_⟩
  · have := hm p hp
    simp only [List.mem_cons, List.mem_nil_iff, or_false] at this
    rcases this with e | e | e <;> rw [e] <;> exact ⟨_, rfl⟩
  · have := hm p hp
    simp only [List.mem_cons, List.mem_nil_iff, or_false] at this
    rcases this with e | e | e <;> rw [e] <;> exact fine_int
end Kk44

set_option Elab.async false
set_option linter.all false
set_option maxRecDepth 100000
set_option maxHeartbeats 1000000
namespace Kk44
open PySem PySem.Spec PyProof.Rows L2 Dl
def GS (s : D) : Prop := GoodS s ∧ Shape s
abbrev bRun1 : SB := (sSeq (sSet 3 (eLC [6] (setN 6) (iSeq (eTup (aCons (eFz (eC (.str "x"))) (aCons (eFz (eC (.str "y2"))) aNil)))) tX (eX 6))) (sSeq (sSet 4 (eA dTuple (aCons (eLC [7] (setN 7) (iSeq (eTup (aCons (eFz (eC (.int 1))) (aCons (eFz (eC (.int 2))) (aCons (eFz (eC (.int 3))) aNil))))) tC (eX 7)) aNil))) (sSeq (sSet 5 (eIf (tVal (eOp dEq (eCall f__law_next (aCons (eFz (eVar 0)) (aCons (eFz (eC (.int 3))) aNil))) (eC (.int 0)))) (eTup (aCons (eFz (eTup (aCons (eFz (eC (.str "main"))) (aCons (eFz (eC (.int 0))) (aCons (eFz (eTup (aCons (eFz (eTup (aCons (eFz (eC (.str "x"))) (aCons (eFz (eC (.int 9))) aNil)))) aNil))) (aCons (eFz (eC .non)) aNil)))))) aNil)) (eTup aNil))) (sApp 1 (eTup (aCons (eFz (eOp dAdd (eVar 5) (eTup (aCons (eFz (eTup (aCons (eFz (eC (.str "f"))) (aCons (eFz (eVar 2)) (aCons (eFz (eA dTuple (aCons (eVar 3) aNil))) (aCons (eFz (eC (.str "x"))) aNil)))))) aNil)))) (aCons (eFz (eVar 4)) (aCons (eFz (eTup aNil)) (aCons (eFz (eC (.int 0))) aNil)))))))))
abbrev tRun : ET := (tVal (eOp dEq (eCall f__law_next (aCons (eFz (eVar 0)) (aCons (eFz (eC (.int 3))) aNil))) (eC (.int 0))))
abbrev sRun2 : SB := (sApp 1 (eTup (aCons (eFz (eTup aNil)) (aCons (eFz (eOp dIx (eOp dIx (eVar 1) (eUn dNeg (eC (.int 1)))) (eC (.int 1)))) (aCons (eFz (eTup aNil)) (aCons (eFz (eC (.int 0))) aNil))))))
theorem run_is : b__law_run_of f__law_next = (sSeq (sSet 1 (eLst aNil)) (sSeq (sFor (setN 2) (iRange (aCons (eOp dAdd (eC (.int 1)) (eCall f__law_next (aCons (eFz (eVar 0)) (aCons (eFz (eC (.int 7))) aNil)))) aNil)) bRun1) (sSeq (sIf tRun sRun2 sNil) (sRet (eA dTuple (aCons (eVar 1) aNil)))))) := rfl
theorem add_tt {xs ys : List D} (h : xs.length + ys.length ≤ 900000) : els2 dAddI (els2 dCatL (els2 dCatT dCatS)) (.tup xs) (.tup ys) = some (.tup (xs ++ ys), .fz) := dAdd_tt (le_lim h)
theorem run_turn (run : List D) (hl : run.length ≤ 100) (k : Int) (s3 s4 s5 s6 s7 : Option (D × Bool)) (W : Wd) (h : OkW W) :
    ∃ s t3 t4 t5 t6 t7 W', bRun1 [some (.w, false), some (.lst run, true), some (.int k, false), s3, s4, s5, s6, s7] (some W) = some (.nx [some (.w, false), some (.lst (run ++ [s]), true), some (.int k, false), t3, t4, t5, t6, t7] (some W')) ∧ OkW W' ∧ GS s := by
  obtain ⟨ps, W1, a1, a2, a3, a4⟩ := lc1 (some (.lst run, true)) (some (.int k, false)) s3 s4 s5 none s7 [D.str "x", D.str "y2"] W h
  obtain ⟨cs, W2, b1, b2, b3, b4⟩ := lc2 (some (.lst run, true)) (some (.int k, false)) (some (.lst (prs ps), true)) s4 s5 s6 none [D.int 1, D.int 2, D.int 3] W1 a2
  obtain ⟨r, W3, c1, c2, c3, c4⟩ := next_ok b2 (m := 3) (by decide)
  obtain ⟨kp, fp⟩ := keys1 a3 a4
  obtain ⟨kc, fc⟩ := keys2 b3 b4
  have hlim : run.length < lim := lt_lim (by omega)
  have l2 : [D.str "x", D.str "y2"].length ≤ lim := le_lim (by decide)
  have l3 : [D.int 1, D.int 2, D.int 3].length ≤ lim := le_lim (by decide)
  by_cases hr : r = 0
  · refine ⟨.tup [.tup ([fr0] ++ [frm k ps]), .tup (prs cs), .tup [], .int 0], some (.lst (prs ps), true), some (.tup (prs cs), false), some (.tup [fr0], false), s6, s7, W3, ?_, c4, good_mk kp kc ?_ fp fc, _, _, rfl, kc, fc⟩
    · have hadd : els2 dAddI (els2 dCatL (els2 dCatT dCatS)) (.tup [fr0]) (.tup [frm k ps]) = _ := add_tt (by simp)
      simp only [fr0, frm] at hadd
      simp -implicitDefEqProofs [lcK_q l2, lcK_q l3, a1, b1, next_is, c1, hr, hlim, hadd, fr0, frm]
    · intro d hd
      rw [List.mem_singleton] at hd
      subst hd
      decide +kernel
  · refine ⟨.tup [.tup ([] ++ [frm k ps]), .tup (prs cs), .tup [], .int 0], some (.lst (prs ps), true), some (.tup (prs cs), false), some (.tup [], false), s6, s7, W3, ?_, c4, good_mk kp kc (fun _ h => nomatch h) fp fc, _, _, rfl, kc, fc⟩
    have hadd : els2 dAddI (els2 dCatL (els2 dCatT dCatS)) (.tup []) (.tup [frm k ps]) = _ := add_tt (by simp)
    simp only [frm] at hadd
    simp -implicitDefEqProofs [lcK_q l2, lcK_q l3, a1, b1, next_is, c1, hr, hlim, hadd, frm]
theorem run_ok {W : Wd} (h : OkW W) : ∃ run W', f__law_run_of [.w] (some W) = some ((.tup run, .fz), some W') ∧ OkW W' ∧ 0 < run.length ∧ run.length ≤ 8 ∧ ∀ s ∈ run, GS s := by
  obtain ⟨r, W1, c1, c2, c3, c4⟩ := next_ok h (m := 7) (by decide)
  obtain ⟨e, w', h1, run, t3, t4, t5, t6, t7, s2, W2, h2, h3, h4, h5, h6⟩ := forL_inv (set := setN 2) (sa := bRun1)
    (fun i e w => ∃ run s3 s4 s5 s6 s7 s2 W, e = [some (.w, false), some (.lst run, true), s2, s3, s4, s5, s6, s7] ∧ w = some W ∧ OkW W ∧ run.length = i ∧ ∀ s ∈ run, GS s) (rangeD 0 (1 + r)) 0 [some (.w, false), some (.lst [], true), none, none, none, none, none, none] (some W1) ⟨[], none, none, none, none, none, none, W1, rfl, rfl, c4, rfl, fun _ h => nomatch h⟩ fun j d env w1 hd hp => by
      obtain ⟨run, s3, s4, s5, s6, s7, s2, W, he, hw, hW, hl, hr⟩ := hp
      subst he hw
      obtain ⟨hd1, hd2⟩ := range_at hd
      subst hd1
      obtain ⟨s, t3, t4, t5, t6, t7, W', k1, k2, k3⟩ := run_turn run (by omega) (0 + (j : Int)) s3 s4 s5 s6 s7 W hW
      refine ⟨_, _, _, _, rfl, k1, .inl rfl, run ++ [s], t3, t4, t5, t6, t7, _, W', rfl, rfl, k2, by simp [hl], ?_⟩
      intro x hx
      rcases List.mem_append.mp hx with hx | hx
      · exact hr x hx
      · rw [List.mem_singleton] at hx; subst hx; exact k3
  rw [range_len] at h5
  subst h2 h3
  have hr0 : ∀ w, rngK ([(.int (1 + r), .fz)], w) = some (rangeD 0 (1 + r), w) := fun w => rngK_1 (by omega)
  obtain ⟨r2, W3, d1, d2, d3, d4⟩ := next_ok h4 (m := 3) (by decide)
  have hlim : run.length < lim := lt_lim (by omega)
  by_cases hr : r2 = 0
  · have hne : run ≠ [] := by intro e; subst e; simp at h5; omega
    obtain ⟨init, s, hs⟩ : ∃ init s, run = init ++ [s] := ⟨run.dropLast, run.getLast hne, (List.dropLast_concat_getLast hne).symm⟩
    subst hs
    obtain ⟨hg, x, cs, hx, kc, fc⟩ := h6 s (by simp)
    subst hx
    have hlim2 : init.length + 1 < lim := by simpa using hlim
    refine ⟨init ++ [.tup [x, .tup (prs cs), .tup [], .int 0]] ++ [.tup [.tup [], .tup (prs cs), .tup [], .int 0]], W3, ?_, d4, by simp, by simp only [List.length_append, List.length_cons, List.length_nil] at h5 ⊢; omega, ?_⟩
    · unfold f__law_run_of
      rw [run_is]
      simp -implicitDefEqProofs [next_is, c1, hr0, h1, d1, hr, hlim2]
    · intro y hy
      rcases List.mem_append.mp hy with hy | hy
      · exact h6 y hy
      · rw [List.mem_singleton] at hy; subst hy; exact ⟨good_over kc fc, _, _, rfl, kc, fc⟩
  · refine ⟨run, W3, ?_, d4, by omega, by omega, h6⟩
    unfold f__law_run_of
    rw [run_is]
    simp -implicitDefEqProofs [next_is, c1, hr0, h1, d1, hr]
end Kk44

set_option Elab.async false
set_option linter.all false
set_option maxRecDepth 100000
set_option maxHeartbeats 1000000
namespace Kk44
open PySem PySem.Spec PyProof.Rows L2 Dl
inductive Ck where
  | at (e : D) | no (c : Ck) | nx (c : Ck) | an (c d : Ck) | un (c d : Ck)
def enc : Ck → D
  | .at e => .tup [.str "at", e]
  | .no c => .tup [.str "not", enc c]
  | .nx c => .tup [.str "next", enc c]
  | .an c d => .tup [.str "and", enc c, enc d]
  | .un c d => .tup [.str "until", enc c, enc d]
def dep : Ck → Nat
  | .at _ => 1
  | .no c => dep c + 1
  | .nx c => dep c + 1
  | .an c d => max (dep c) (dep d) + 1
  | .un c d => max (dep c) (dep d) + 1
def OkC : Ck → Prop
  | .at e => e ∈ exs
  | .no c => OkC c
  | .nx c => OkC c
  | .an c d => OkC c ∧ OkC d
  | .un c d => OkC c ∧ OkC d
theorem check_s (n : Nat) : f__law_check (n + 1) = runFn 3 2 (b__law_check (f__law_check n) f__law_expr f__law_pick) := rfl
def kinds : List D := [.str "at", .str "at", .str "not", .str "and", .str "next", .str "until"]
theorem check_ok : ∀ (n : Nat) (deep : Int) (W : Wd), OkW W → deep < n → ∃ c W', f__law_check (n + 1) [.w, .int deep] (some W) = some ((enc c, .fz), some W') ∧ OkW W' ∧ OkC c ∧ (dep c : Int) ≤ max deep 0 + 1
  | n, deep, W, h, hn => by
    by_cases hd : 0 < deep
    · obtain ⟨k, W1, a1, a2, a3⟩ := pick_ok h (ds := kinds) (by decide)
      unfold kinds at a1 a2
      obtain ⟨n, rfl⟩ : ∃ m, n = m + 1 := ⟨n - 1, by omega⟩
      simp only [List.mem_cons, List.mem_nil_iff, or_false] at a2
      rcases a2 with e | e | e | e | e | e <;> subst e
      · obtain ⟨e, W2, b1, b2, b3⟩ := expr_ok a3
        refine ⟨.at e, W2, ?_, b3, b2, by simp [dep]; omega⟩
        simp -implicitDefEqProofs [check_s, b__law_check, pick_is, a1, hd, b1, enc]
      · obtain ⟨e, W2, b1, b2, b3⟩ := expr_ok a3
        refine ⟨.at e, W2, ?_, b3, b2, by simp [dep]; omega⟩
        simp -implicitDefEqProofs [check_s, b__law_check, pick_is, a1, hd, b1, enc]
      · obtain ⟨c, W2, b1, b2, b3, b4⟩ := check_ok n (deep - 1) W1 a3 (by omega)
        refine ⟨.no c, W2, ?_, b2, b3, by simp [dep]; omega⟩
        rw [check_s]
        simp -implicitDefEqProofs [b__law_check, pick_is, a1, hd, b1, enc]
      · obtain ⟨c, W2, b1, b2, b3, b4⟩ := check_ok n (deep - 1) W1 a3 (by omega)
        obtain ⟨d, W3, c1, c2, c3, c4⟩ := check_ok n (deep - 1) W2 b2 (by omega)
        refine ⟨.an c d, W3, ?_, c2, ⟨b3, c3⟩, by simp [dep]; omega⟩
        rw [check_s]
        simp -implicitDefEqProofs [b__law_check, pick_is, a1, hd, b1, c1, enc]
      · obtain ⟨c, W2, b1, b2, b3, b4⟩ := check_ok n (deep - 1) W1 a3 (by omega)
        refine ⟨.nx c, W2, ?_, b2, b3, by simp [dep]; omega⟩
        rw [check_s]
        simp -implicitDefEqProofs [b__law_check, pick_is, a1, hd, b1, enc]
      · obtain ⟨c, W2, b1, b2, b3, b4⟩ := check_ok n (deep - 1) W1 a3 (by omega)
        obtain ⟨d, W3, c1, c2, c3, c4⟩ := check_ok n (deep - 1) W2 b2 (by omega)
        refine ⟨.un c d, W3, ?_, c2, ⟨b3, c3⟩, by simp [dep]; omega⟩
        rw [check_s]
        simp -implicitDefEqProofs [b__law_check, pick_is, a1, hd, b1, c1, enc]
    · obtain ⟨e, W2, b1, b2, b3⟩ := expr_ok h
      refine ⟨.at e, W2, ?_, b3, b2, by simp [dep]; omega⟩
      simp -implicitDefEqProofs [check_s, b__law_check, pick_is, hd, b1, enc]
end Kk44

set_option Elab.async false
set_option linter.all false
set_option maxRecDepth 100000
set_option maxHeartbeats 1000000
namespace Kk44
open PySem PySem.Spec PyProof.Rows L2 Dl
def vAt (s e : D) : Bool := match f__law_at [s, e] none with
  | some ((.bl b, _), _) => b
  | _ => false
theorem at_ok {s e : D} (h : GoodS s) (he : e ∈ exs) : ∃ ks vs kc vc, (∀ w, f_facts [s] w = some ((.tup [.dk ks (List.map D.int vs), .dk kc (List.map D.int vc)], .fz), w)) ∧ ∃ n : Int, (∀ w, f_worth 40 [e, .dk ks (List.map D.int vs), .dk kc (List.map D.int vc)] w = some ((.int n, .fz), w)) ∧
    (∀ w, f__law_at [s, e] w = some ((.bl (vAt s e), .fz), w)) ∧ (!decide (n = 0)) = vAt s e := by
  obtain ⟨ks, vs, kc, vc, h1⟩ := h.fac
  obtain ⟨n, hn⟩ := worth_ok ks vs kc vc e he
  have h2 := fun w => (h1 w).2 e n fun w => (hn w).2
  have h3 : vAt s e = !decide (n = 0) := by unfold vAt; rw [h2]
  exact ⟨ks, vs, kc, vc, fun w => (h1 w).1, n, fun w => (hn w).1, fun w => by rw [h3]; exact h2 w, h3.symm⟩
def unH (f g : List D → Bool) : List D → Bool
  | [] => false
  | s :: r => g (s :: r) || (f (s :: r) && unH f g r)
def hv : Ck → List D → Bool
  | .at e, l => match l with
    | [] => false
    | s :: _ => vAt s e
  | .no c, l => !hv c l
  | .nx c, l => if l.tail.isEmpty then false else hv c l.tail
  | .an c d, l => hv c l && hv d l
  | .un c d, l => unH (hv c) (hv d) l
theorem holds_s (n : Nat) : f_holds_along (n + 1) = runFn 12 2 (b_holds_along (f_holds_along n) (f_worth 40) f_facts) := rfl
abbrev bH1 : SB := (sSeq (sUnp (setT [4, 5]) (eCall f_facts (aCons (eFz (eVar 3)) aNil))) (sApp 2 (eOp dNe (eCall (f_worth 40) (aCons (eFz (eOp dIx (eVar 1) (eC (.int 1)))) (aCons (eFz (eVar 4)) (aCons (eFz (eVar 5)) aNil)))) (eC (.int 0)))))
abbrev bH2 : SB := (sSeq (sSet 10 ((eOr (eOp dIx (eVar 8) (eVar 11)) ((eAnd (eOp dIx (eVar 6) (eVar 11)) (eVar 10)))))) (sIns0 2 (eVar 10)))
theorem h_at (d : D) (e : D) (he : e ∈ exs) (s6 s7 s8 s9 s10 s11 : Option (D × Bool)) (w : Option Wd) : ∀ (l acc : List D) (s3 s4 s5 : Option (D × Bool)), (∀ s ∈ l, GoodS s) → acc.length + l.length ≤ 1000 →
    ∃ t3 t4 t5, forL (setN 3) bH1 l [some (d, false), some (.tup [.str "at", e], false), some (.lst acc, true), s3, s4, s5, s6, s7, s8, s9, s10, s11] w = some (.nx [some (d, false), some (.tup [.str "at", e], false), some (.lst (acc ++ l.map fun s => .bl (vAt s e)), true), t3, t4, t5, s6, s7, s8, s9, s10, s11] w)
  | [], acc, s3, s4, s5, _, _ => ⟨s3, s4, s5, by simp⟩
  | s :: l, acc, s3, s4, s5, h, hl => by
    obtain ⟨ks, vs, kc, vc, h1, n, h2, h3, h4⟩ := at_ok (h s List.mem_cons_self) he
    obtain ⟨t3, t4, t5, h5⟩ := h_at d e he s6 s7 s8 s9 s10 s11 w l (acc ++ [.bl (vAt s e)]) (some (s, false)) (some (.dk ks (List.map D.int vs), false)) (some (.dk kc (List.map D.int vc), false)) (fun x hx => h x (List.mem_cons_of_mem _ hx)) (by simp at hl ⊢; omega)
    refine ⟨t3, t4, t5, ?_⟩
    have hlim : acc.length < lim := lt_lim (by simp at hl; omega)
    simp -implicitDefEqProofs [forL_cons, h1, h2, hlim, h4]
    simpa using h5
theorem down_succ (j : Nat) : downD ((j : Int) + 1 - 1) (-1) = .int j :: downD ((j : Int) - 1) (-1) := by
  unfold downD
  have e1 : ((j : Int) + 1 - 1 - -1).toNat = j + 1 := by omega
  have e2 : ((j : Int) - 1 - -1).toNat = j := by omega
  rw [e1, e2, List.range_succ_eq_map, List.map_cons, List.map_map]
  refine congr (congrArg List.cons (by simp)) (List.map_congr_left fun k _ => ?_)
  show D.int _ = D.int _
  congr 1
  simp; omega
theorem down_zero : downD ((0 : Int) - 1) (-1) = [] := rfl
theorem drop_cons (run : List D) (j : Nat) (h : j < run.length) : run.drop j = run[j] :: run.drop (j + 1) := List.drop_eq_getElem_cons h
theorem h_un (f g : List D → Bool) (run : List D) (hr : run.length ≤ 1000) (d : D) (s3 s4 s5 s7 s9 : Option (D × Bool)) (w : Option Wd) : ∀ (k : Nat) (s11 : Option (D × Bool)), k ≤ run.length →
    ∃ t11, forL (setN 11) bH2 (downD ((k : Int) - 1) (-1)) [some (.tup run, false), some (d, false), some (.lst ((tm (unH f g) (run.drop k)).map D.bl), true), s3, s4, s5, some (.lst ((tm f run).map D.bl), true), s7, some (.lst ((tm g run).map D.bl), true), s9, some (.bl (unH f g (run.drop k)), false), s11] w
      = some (.nx [some (.tup run, false), some (d, false), some (.lst ((tm (unH f g) run).map D.bl), true), s3, s4, s5, some (.lst ((tm f run).map D.bl), true), s7, some (.lst ((tm g run).map D.bl), true), s9, some (.bl (unH f g run), false), t11] w)
  | 0, s11, _ => ⟨s11, by rw [Int.natCast_zero, down_zero]; simp⟩
  | j + 1, s11, h => by
    have hj : j < run.length := by omega
    obtain ⟨t, ht⟩ := h_un f g run hr d s3 s4 s5 s7 s9 w j (some (.int j, false)) (by omega)
    refine ⟨t, ?_⟩
    have e1 : ((j + 1 : Nat) : Int) - 1 = (j : Int) + 1 - 1 := by omega
    rw [e1, down_succ, forL_cons, ← ht]
    have hf := tm_atI f D.bl run j hj
    have hg := tm_atI g D.bl run j hj
    have hd := drop_cons run j hj
    have hlim : ((tm (unH f g) (run.drop (j + 1))).map D.bl).length < lim := lt_lim (by simp; omega)
    have hu : unH f g (run.drop j) = (g (run.drop j) || (f (run.drop j) && unH f g (run.drop (j + 1)))) := by rw [hd]; rfl
    have ht : tm (unH f g) (run.drop j) = unH f g (run.drop j) :: tm (unH f g) (run.drop (j + 1)) := by rw [hd]; rfl
    rw [ht, hu]
    cases h1 : g (run.drop j) <;> cases h2 : f (run.drop j) <;> simp -implicitDefEqProofs [hf, hg, h1, h2] <;> simp -implicitDefEqProofs at hlim <;> simp -implicitDefEqProofs [hlim]
end Kk44

set_option Elab.async false
set_option linter.all false
set_option maxRecDepth 100000
set_option maxHeartbeats 1000000
namespace Kk44
open PySem PySem.Spec PyProof.Rows L2 Dl
theorem lc_not (s0 s1 s2 s3 s4 s5 s6 s7 s8 s9 s10 s11 : Option (D × Bool)) (w : Option Wd) : ∀ l : List Bool, lcL (setN 7) tYesD (eNot (eVar 7)) (l.map D.bl) [s0, s1, s2, s3, s4, s5, s6, s7, s8, s9, s10, s11] w = some (l.map (fun b => .bl (!b)), w)
  | [] => rfl
  | b :: l => by
    have := lc_not s0 s1 s2 s3 s4 s5 s6 s7 s8 s9 s10 s11 w l
    simp -implicitDefEqProofs [lcL_cons, this]
theorem lc_and (s0 s1 s2 s3 s4 s5 s6 s7 s8 s9 s10 s11 : Option (D × Bool)) (w : Option Wd) : ∀ l m : List Bool, lcL (setT [7, 9]) tYesD (eAnd (eVar 7) (eVar 9)) (List.zipWith (fun a b => .tup [.bl a, .bl b]) l m) [s0, s1, s2, s3, s4, s5, s6, s7, s8, s9, s10, s11] w = some (List.zipWith (fun a b => .bl (a && b)) l m, w)
  | [], _ => by simp
  | _ :: _, [] => by simp
  | b :: l, c :: m => by
    have := lc_and s0 s1 s2 s3 s4 s5 s6 s7 s8 s9 s10 s11 w l m
    cases b <;> simp -implicitDefEqProofs [lcL_cons, this]
theorem holds_ok : ∀ (c : Ck) (n : Nat), dep c ≤ n → OkC c → ∀ (run : List D), (∀ s ∈ run, GoodS s) → 0 < run.length → run.length ≤ 900 → ∀ w, f_holds_along n [.tup run, enc c] w = some ((.lst ((tm (hv c) run).map D.bl), .ow), w)
  | .at e, n, hn, hc, run, hr, h0, hl, w => by
    obtain ⟨n, rfl⟩ : ∃ m, n = m + 1 := ⟨n - 1, by simp [dep] at hn; omega⟩
    obtain ⟨t3, t4, t5, h⟩ := h_at (.tup run) e hc none none none none none none w run [] none none none hr (by simp; omega)
    have e2 : (tm (hv (.at e)) run) = run.map (fun s => vAt s e) := tm_at _ run _ fun a r => rfl
    rw [holds_s]
    simp -implicitDefEqProofs at h
    simp -implicitDefEqProofs [b_holds_along, enc, h, e2]
  | .no c, n, hn, hc, run, hr, h0, hl, w => by
    obtain ⟨n, rfl⟩ : ∃ m, n = m + 1 := ⟨n - 1, by simp [dep] at hn; omega⟩
    have h := fun w => holds_ok c n (by simp [dep] at hn; omega) hc run hr h0 hl w
    have hlim : ((tm (hv c) run).map D.bl).length ≤ lim := le_lim (by simp; omega)
    have e2 : (tm (hv (.no c)) run) = (tm (hv c) run).map (fun b => !b) := (tm_map (hv c) (fun b => !b) run).symm
    rw [holds_s]
    simp -implicitDefEqProofs [b_holds_along, enc, h, e2, lcK_q hlim, lc_not]
  | .nx c, n, hn, hc, run, hr, h0, hl, w => by
    obtain ⟨n, rfl⟩ : ∃ m, n = m + 1 := ⟨n - 1, by simp [dep] at hn; omega⟩
    have h := fun w => holds_ok c n (by simp [dep] at hn; omega) hc run hr h0 hl w
    match run, h0 with
    | a :: r, _ =>
    have hadd : els2 dAddI (els2 dCatL (els2 dCatT dCatS)) (.lst ((tm (hv c) r).map D.bl)) (.lst [.bl false]) = _ := dAdd_ll (le_lim (by simp at hl ⊢; omega))
    have e2 : tm (hv (.nx c)) (a :: r) = tm (hv c) r ++ [false] := (tm_tail (hv c) false a r).symm
    rw [holds_s]
    simp -implicitDefEqProofs [tm] at h
    rw [e2]
    simp -implicitDefEqProofs [b_holds_along, enc, h, hadd]
  | .an c d, n, hn, hc, run, hr, h0, hl, w => by
    obtain ⟨n, rfl⟩ : ∃ m, n = m + 1 := ⟨n - 1, by simp [dep] at hn; omega⟩
    have h := fun w => holds_ok c n (by simp [dep] at hn; omega) hc.1 run hr h0 hl w
    have g := fun w => holds_ok d n (by simp [dep] at hn; omega) hc.2 run hr h0 hl w
    have hlim : (List.zipWith (fun a b => D.tup [D.bl a, D.bl b]) (tm (hv c) run) (tm (hv d) run)).length ≤ lim := le_lim (by simp; omega)
    have e2 : (tm (hv (.an c d)) run) = List.zipWith (fun a b => a && b) (tm (hv c) run) (tm (hv d) run) := (tm_zip (hv c) (hv d) (fun a b => a && b) run).symm
    rw [holds_s, e2]
    simp -implicitDefEqProofs [b_holds_along, enc, h, g, lcK_q hlim, lc_and]
  | .un c d, n, hn, hc, run, hr, h0, hl, w => by
    obtain ⟨n, rfl⟩ : ∃ m, n = m + 1 := ⟨n - 1, by simp [dep] at hn; omega⟩
    have h := fun w => holds_ok c n (by simp [dep] at hn; omega) hc.1 run hr h0 hl w
    have g := fun w => holds_ok d n (by simp [dep] at hn; omega) hc.2 run hr h0 hl w
    obtain ⟨t, ht⟩ := h_un (hv c) (hv d) run (by omega) (enc (.un c d)) none none none none none w run.length none (Nat.le_refl _)
    have hr3 : ∀ w, rngK ([(.int ((run.length : Int) - 1), .fz), (.int (-1), .fz), (.int (-1), .fz)], w) = some (downD ((run.length : Int) - 1) (-1), w) := fun w => rngK_3 (by omega)
    simp -implicitDefEqProofs [enc, unH] at ht
    rw [holds_s]
    simp -implicitDefEqProofs [b_holds_along, enc, h, g, hr3, ht]
    rfl
end Kk44

set_option Elab.async false
set_option linter.all false
set_option maxRecDepth 100000
set_option maxHeartbeats 2000000
namespace Kk44
open PySem PySem.Spec PyProof.Rows L2 Dl
structure Rn (run : List D) : Prop where
  gs : ∀ s ∈ run, GoodS s
  ps : 0 < run.length
  le : run.length ≤ 20
structure Dn (c : Ck) (n : Nat) : Prop where
  ok : OkC c
  dp : dep c ≤ n
theorem holdsD {c : Ck} {n : Nat} {run : List D} (hc : Dn c n) (hn : n ≤ 40) (hr : Rn run) (w) : f_holds_along 40 [.tup run, enc c] w = some ((.lst ((tm (hv c) run).map D.bl), .ow), w) := holds_ok c 40 (by have := hc.dp; omega) hc.ok run hr.gs hr.ps (by have := hr.le; omega) w
theorem chold_ok {c : Ck} {n : Nat} {run : List D} (hc : Dn c n) (hn : n ≤ 40) (hr : Rn run) (w) : f_check_holds [.tup run, enc c] w = some ((.bl (hv c run), .fz), w) := by
  have h := fun w => holdsD hc hn hr w
  have hh := head_tm (hv c) D.bl (l := run) hr.ps
  simp -implicitDefEqProofs [f_check_holds, b_check_holds, h, hh]
theorem isbit_ok (a b : Bool) (w) : f__law_is_bit [.bl a, .bl b] w = some ((.bl (a == b), .fz), w) := by
  cases a <;> cases b <;> simp -implicitDefEqProofs [f__law_is_bit, b__law_is_bit]
/-! the law's own look -/
theorem lh_s (n : Nat) : f__law_holds (n + 1) = runFn 4 3 (b__law_holds (f__law_holds n) f__law_at) := rfl
abbrev bU (f__law_holds : Fn) : SB := (sSeq (sIf (tTru (eCall f__law_holds (aCons (eFz (eVar 0)) (aCons (eFz (eVar 3)) (aCons (eFz (eOp dIx (eVar 2) (eC (.int 2)))) aNil))))) (sRet (eC (.bl true))) (sNil)) (sIf (tNo (tTru (eCall f__law_holds (aCons (eFz (eVar 0)) (aCons (eFz (eVar 3)) (aCons (eFz (eOp dIx (eVar 2) (eC (.int 1)))) aNil)))))) (sRet (eC (.bl false))) (sNil)))
theorem u_loop (F : Fn) (f g : List D → Bool) (run : List D) (c d : D) (w : Option Wd) (hf : ∀ j, j < run.length → ∀ w, F [.tup run, .int (j : Nat), c] w = some ((.bl (f (run.drop j)), .fz), w)) (hg : ∀ j, j < run.length → ∀ w, F [.tup run, .int (j : Nat), d] w = some ((.bl (g (run.drop j)), .fz), w)) (s1 : Option (D × Bool)) : ∀ (n j : Nat) (s3 : Option (D × Bool)), j + n = run.length →
    ∃ o, forL (setN 3) (bU F) (rangeD (j : Int) run.length) [some (.tup run, false), s1, some (.tup [.str "until", c, d], false), s3] w = some o ∧ (o = .rt (.bl (unH f g (run.drop j)), .fz) w ∨ ∃ e, o = .nx e w ∧ unH f g (run.drop j) = false)
  | 0, j, s3, h => ⟨_, by rw [range_none (by omega)]; rfl, .inr ⟨_, rfl, by rw [List.drop_eq_nil_of_le (by omega)]; rfl⟩⟩
  | n + 1, j, s3, h => by
    obtain ⟨o, h1, h2⟩ := u_loop F f g run c d w hf hg s1 n (j + 1) (some (.int j, false)) (by omega)
    have e : ((j + 1 : Nat) : Int) = (j : Int) + 1 := by omega
    rw [e] at h1
    have hd := List.drop_eq_getElem_cons (show j < run.length by omega)
    have hfj := hf j (by omega)
    have hgj := hg j (by omega)
    have hu : unH f g (run.drop j) = (g (run.drop j) || (f (run.drop j) && unH f g (run.drop (j + 1)))) := by
      rw [hd]; rfl
    rw [range_cons (by omega), forL_cons, hu]
    cases hg1 : g (run.drop j) with
    | true =>
      rw [hg1] at hgj
      exact ⟨.rt (.bl true, .fz) w, by simp -implicitDefEqProofs [hgj], .inl (by simp)⟩
    | false =>
      rw [hg1] at hgj
      cases hf1 : f (run.drop j) with
      | false =>
        rw [hf1] at hfj
        exact ⟨.rt (.bl false, .fz) w, by simp -implicitDefEqProofs [hgj, hfj], .inl (by simp)⟩
      | true =>
        rw [hf1] at hfj
        exact ⟨o, by simp -implicitDefEqProofs [hgj, hfj, h1], by simpa using h2⟩
theorem lh_ok (run : List D) (hr : ∀ s ∈ run, GoodS s) (hl : run.length ≤ 900) : ∀ (c : Ck) (n : Nat), dep c ≤ n → OkC c → ∀ k, k < run.length → ∀ w, f__law_holds n [.tup run, .int (k : Nat), enc c] w = some ((.bl (hv c (run.drop k)), .fz), w)
  | .at e, n, hn, hc, k, hk, w => by
    obtain ⟨n, rfl⟩ : ∃ m, n = m + 1 := ⟨n - 1, by simp [dep] at hn; omega⟩
    obtain ⟨ks, vs, kc, vc, h1, m, h2, h3, h4⟩ := at_ok (hr run[k] (List.getElem_mem _)) hc
    have hd := List.drop_eq_getElem_cons hk
    rw [hd]
    have hi : atI run (k : Int) = some run[k] := by rw [atI_n]; simp [hk]
    simp -implicitDefEqProofs [lh_s, b__law_holds, enc, hi, h3, hv]
  | .no c, n, hn, hc, k, hk, w => by
    obtain ⟨n, rfl⟩ : ∃ m, n = m + 1 := ⟨n - 1, by simp [dep] at hn; omega⟩
    have h := lh_ok run hr hl c n (by simp [dep] at hn; omega) hc k hk
    simp -implicitDefEqProofs [lh_s, b__law_holds, enc, h, hv]
  | .an c d, n, hn, hc, k, hk, w => by
    obtain ⟨n, rfl⟩ : ∃ m, n = m + 1 := ⟨n - 1, by simp [dep] at hn; omega⟩
    have h := lh_ok run hr hl c n (by simp [dep] at hn; omega) hc.1 k hk
    have g := lh_ok run hr hl d n (by simp [dep] at hn; omega) hc.2 k hk
    show _ = some ((D.bl (hv c (run.drop k) && hv d (run.drop k)), O3.fz), w)
    cases hb : hv c (run.drop k) <;> rw [hb] at h <;> simp -implicitDefEqProofs [lh_s, b__law_holds, enc, h, g]
  | .nx c, n, hn, hc, k, hk, w => by
    obtain ⟨n, rfl⟩ : ∃ m, n = m + 1 := ⟨n - 1, by simp [dep] at hn; omega⟩
    have ht : (run.drop k).tail = run.drop (k + 1) := by simp
    show _ = some ((D.bl (if (run.drop k).tail.isEmpty then false else hv c (run.drop k).tail), O3.fz), w)
    rw [ht]
    by_cases hk2 : k + 1 < run.length
    · have h := lh_ok run hr hl c n (by simp [dep] at hn; omega) hc (k + 1) hk2
      have e : ((k + 1 : Nat) : Int) = (k : Int) + 1 := by omega
      rw [e] at h
      have hb : (k : Int) + 1 < run.length := by omega
      have he : (run.drop (k + 1)).isEmpty = false := by rw [List.drop_eq_getElem_cons hk2]; rfl
      rw [he]
      simp -implicitDefEqProofs [lh_s, b__law_holds, enc, hb, h]
    · have hb : ¬ (k : Int) + 1 < run.length := by omega
      have he : (run.drop (k + 1)).isEmpty = true := by rw [List.drop_eq_nil_of_le (by omega)]; rfl
      rw [he]
      simp -implicitDefEqProofs [lh_s, b__law_holds, enc, hb]
  | .un c d, n, hn, hc, k, hk, w => by
    obtain ⟨n, rfl⟩ : ∃ m, n = m + 1 := ⟨n - 1, by simp [dep] at hn; omega⟩
    have h := fun j hj => lh_ok run hr hl c n (by simp [dep] at hn; omega) hc.1 j hj
    have g := fun j hj => lh_ok run hr hl d n (by simp [dep] at hn; omega) hc.2 j hj
    obtain ⟨o, h1, h2⟩ := u_loop (f__law_holds n) (hv c) (hv d) run (enc c) (enc d) w h g (some (.int (k : Nat), false)) (run.length - k) k none (by omega)
    have hr2 : ∀ w, rngK ([(.int (k : Nat), .fz), (.int (run.length : Int), .fz)], w) = some (rangeD (k : Int) run.length, w) := fun w => rngK_2 (by omega)
    show _ = some ((D.bl (unH (hv c) (hv d) (run.drop k)), O3.fz), w)
    rcases h2 with h2 | ⟨e, h2, h3⟩
    · subst h2
      simp -implicitDefEqProofs [lh_s, b__law_holds, enc, hr2, h1]
    · subst h2
      rw [h3]
      simp -implicitDefEqProofs [lh_s, b__law_holds, enc, hr2, h1]
/-! sizes -/
def csz : Ck → Nat
  | .at _ => 1
  | .no c => 1 + csz c
  | .nx c => 1 + csz c
  | .an c d => 1 + (csz c + csz d)
  | .un c d => 1 + (csz c + csz d)
theorem dSum1 {a : Int} : dSum [.lst [.int a]] = some (.int a, .fz) := (dSum_q (ns := [a])).trans (by simp)
theorem dSum2 {a b : Int} : dSum [.lst [.int a, .int b]] = some (.int (a + b), .fz) := (dSum_q (ns := [a, b])).trans (by simp)
theorem csize_s (n : Nat) : f_check_size (n + 1) = runFn 2 1 (b_check_size (f_check_size n)) := rfl
theorem lsize_s (n : Nat) : f__law_size (n + 1) = runFn 2 1 (b__law_size (f__law_size n)) := rfl
theorem size_ok : ∀ (c : Ck) (n : Nat), dep c ≤ n → ∀ w, f_check_size n [enc c] w = some ((.int (csz c : Nat), .fz), w) ∧ f__law_size n [enc c] w = some ((.int (csz c : Nat), .fz), w)
  | .at e, n, hn, w => by
    obtain ⟨n, rfl⟩ : ∃ m, n = m + 1 := ⟨n - 1, by simp [dep] at hn; omega⟩
    constructor <;> simp -implicitDefEqProofs [csize_s, b_check_size, lsize_s, b__law_size, enc, csz]
  | .no c, n, hn, w => by
    obtain ⟨n, rfl⟩ : ∃ m, n = m + 1 := ⟨n - 1, by simp [dep] at hn; omega⟩
    have h := fun w => size_ok c n (by simp [dep] at hn; omega) w
    constructor <;> simp -implicitDefEqProofs [csize_s, b_check_size, lsize_s, b__law_size, enc, csz, lcK_q len1_lim, lcL_cons, h, dSum1]
  | .nx c, n, hn, w => by
    obtain ⟨n, rfl⟩ : ∃ m, n = m + 1 := ⟨n - 1, by simp [dep] at hn; omega⟩
    have h := fun w => size_ok c n (by simp [dep] at hn; omega) w
    constructor <;> simp -implicitDefEqProofs [csize_s, b_check_size, lsize_s, b__law_size, enc, csz, lcK_q len1_lim, lcL_cons, h, dSum1]
  | .an c d, n, hn, w => by
    obtain ⟨n, rfl⟩ : ∃ m, n = m + 1 := ⟨n - 1, by simp [dep] at hn; omega⟩
    have h := fun w => size_ok c n (by simp [dep] at hn; omega) w
    have g := fun w => size_ok d n (by simp [dep] at hn; omega) w
    constructor <;> simp -implicitDefEqProofs [csize_s, b_check_size, lsize_s, b__law_size, enc, csz, lcK_q len2_lim, lcL_cons, h, g, dSum2]
  | .un c d, n, hn, w => by
    obtain ⟨n, rfl⟩ : ∃ m, n = m + 1 := ⟨n - 1, by simp [dep] at hn; omega⟩
    have h := fun w => size_ok c n (by simp [dep] at hn; omega) w
    have g := fun w => size_ok d n (by simp [dep] at hn; omega) w
    constructor <;> simp -implicitDefEqProofs [csize_s, b_check_size, lsize_s, b__law_size, enc, csz, lcK_q len2_lim, lcL_cons, h, g, dSum2]
theorem exs_fine : ∀ e ∈ exs, fine 3 e = true := by
  intro e he
  simp only [exs, List.mem_cons, List.mem_nil_iff, or_false] at he
  rcases he with e | e | e | e | e | e | e | e <;> subst e <;> decide +kernel
end Kk44

set_option Elab.async false
set_option linter.all false
set_option maxRecDepth 100000
set_option maxHeartbeats 4000000
namespace Kk44
open PySem PySem.Spec PyProof.Rows L2 Dl
theorem nm_is : f_is_name = fIsName := rfl
theorem lnm_is : f__law_is_name = fLawIsName := rfl
theorem isn_b (b : Bool) (w : Option Wd) : f_is_number [.bl b] w = some ((.bl false, .fz), w) := by simp -implicitDefEqProofs [f_is_number, b_is_number]
theorem isn_s (b : Str) (w : Option Wd) : f_is_number [.str b] w = some ((.bl false, .fz), w) := by simp -implicitDefEqProofs [f_is_number, b_is_number]
theorem isn_n (w : Option Wd) : f_is_number [.non] w = some ((.bl false, .fz), w) := by simp -implicitDefEqProofs [f_is_number, b_is_number]
theorem isn_l (b : List D) (w : Option Wd) : f_is_number [.lst b] w = some ((.bl false, .fz), w) := by simp -implicitDefEqProofs [f_is_number, b_is_number]
theorem ln_i (i : Int) (w : Option Wd) : f__law_is_number [.int i] w = some ((.bl true, .fz), w) := by simp -implicitDefEqProofs [f__law_is_number, b__law_is_number]
theorem ln_t (ds : List D) (w : Option Wd) : f__law_is_number [.tup ds] w = some ((.bl false, .fz), w) := by simp -implicitDefEqProofs [f__law_is_number, b__law_is_number]
theorem ln_b (b : Bool) (w : Option Wd) : f__law_is_number [.bl b] w = some ((.bl false, .fz), w) := by simp -implicitDefEqProofs [f__law_is_number, b__law_is_number]
theorem ln_s (b : Str) (w : Option Wd) : f__law_is_number [.str b] w = some ((.bl false, .fz), w) := by simp -implicitDefEqProofs [f__law_is_number, b__law_is_number]
theorem ln_n (w : Option Wd) : f__law_is_number [.non] w = some ((.bl false, .fz), w) := by simp -implicitDefEqProofs [f__law_is_number, b__law_is_number]
theorem ln_l (b : List D) (w : Option Wd) : f__law_is_number [.lst b] w = some ((.bl false, .fz), w) := by simp -implicitDefEqProofs [f__law_is_number, b__law_is_number]
theorem tupof (ds : List D) (m : Int) (w) : f_is_tuple_of [.tup ds, .int m] w = some ((.bl (decide ((ds.length : Int) = m)), .fz), w) := by
  simp -implicitDefEqProofs [f_is_tuple_of, b_is_tuple_of]
def nmD : D → Bool
  | .str x => nmOk x
  | _ => false
def Vd : Nat → D → Prop
  | _, .non => True
  | _, .bl _ => True
  | _, .int _ => True
  | _, .lst ds => fine 64 (.lst ds) = true
  | _, .str x => x.length ≤ 1000 ∧ PyData.strOk x = true
  | n + 1, .tup ds => ds.length ≤ 900 ∧ fine 64 (.tup ds) = true ∧ ∀ d ∈ ds, Vd n d
  | _, _ => False
theorem name_same {n : Nat} {d : D} (h : Vd n d) (w) : f_is_name [d] w = some ((.bl (nmD d), .fz), w) ∧ f__law_is_name [d] w = some ((.bl (nmD d), .fz), w) := by
  rw [nm_is, lnm_is]
  cases d with
  | str x =>
    have h' : x.length ≤ 1000 ∧ PyData.strOk x = true := by cases n <;> exact h
    exact ⟨isName_ok x h'.1 w, lawIsName_ok x h'.1 h'.2 w⟩
  | dk _ _ => cases n <;> exact h.elim
  | scr _ => cases n <;> exact h.elim
  | ty _ => cases n <;> exact h.elim
  | w => cases n <;> exact h.elim
  | _ => constructor <;> simp -implicitDefEqProofs [fIsName, bIsName, fLawIsName, bLawIsName, nmD]
theorem ie_s (n : Nat) : f_is_expr (n + 1) = runFn 1 1 (b_is_expr (f_is_expr n) f_is_tuple_of f_is_name f_is_number) := rfl
theorem le_s (n : Nat) : f__law_is_expr (n + 1) = runFn 3 1 (b__law_is_expr (f__law_is_expr n) f__law_is_name f__law_is_number) := rfl
theorem ie_flat (n : Nat) (d : D) (h : Vd 0 d) (w) : f_is_expr (n + 1) [d] w = some ((.bl (match d with | .int _ => true | _ => false), .fz), w) ∧ f__law_is_expr (n + 1) [d] w = some ((.bl (match d with | .int _ => true | _ => false), .fz), w) := by
  cases d with
  | tup _ => exact h.elim
  | dk _ _ => exact h.elim
  | scr _ => exact h.elim
  | ty _ => exact h.elim
  | w => exact h.elim
  | _ => constructor <;> simp -implicitDefEqProofs [ie_s, b_is_expr, le_s, b__law_is_expr, isn_i, isn_b, isn_s, isn_n, isn_l, ln_i, ln_b, ln_s, ln_n, ln_l]
/-- a tuple whose first is no text -/
theorem ie_nost (n : Nat) (d : D) (r : List D) (hd : Vd n d) (hs : ∀ x, d ≠ .str x) (hq : fine 64 (.tup (d :: r)) = true) (k : Nat) (w) : f_is_expr (k + 1) [.tup (d :: r)] w = some ((.bl false, .fz), w) ∧ f__law_is_expr (k + 1) [.tup (d :: r)] w = some ((.bl false, .fz), w) := by
  have hq := dEq_tnil hq
  simp -implicitDefEqProofs at hq
  cases d with
  | str x => exact absurd rfl (hs x)
  | dk _ _ => cases n <;> exact hd.elim
  | scr _ => cases n <;> exact hd.elim
  | ty _ => cases n <;> exact hd.elim
  | w => cases n <;> exact hd.elim
  | _ => constructor <;> simp -implicitDefEqProofs [ie_s, b_is_expr, le_s, b__law_is_expr, isn_t, ln_t, hq]
theorem ie_nil (k : Nat) (w) : f_is_expr (k + 1) [.tup []] w = some ((.bl false, .fz), w) ∧ f__law_is_expr (k + 1) [.tup []] w = some ((.bl false, .fz), w) := by
  have hq := dEq_tnil (show fine 64 (.tup []) = true from rfl)
  simp -implicitDefEqProofs at hq
  constructor <;> simp -implicitDefEqProofs [ie_s, b_is_expr, le_s, b__law_is_expr, isn_t, ln_t, hq]
def one (r : List D) (b : D → Bool) : Bool := match r with
  | [a] => b a
  | _ => false
def two (r : List D) (b : D → Bool) : Bool := match r with
  | [a, c] => b a && b c
  | _ => false
def spE (x : Str) (r : List D) (b nb : D → Bool) : Bool :=
  if x = "var" then one r nb else if x = "cell" then one r b else if x = "not" then one r b
  else if x = "add" then two r b else if x = "sub" then two r b else if x = "mul" then two r b else if x = "less" then two r b else if x = "same" then two r b else false
theorem ix1 {x a : D} {r : List D} : atI (x :: a :: r) 1 = some a := atI_1
theorem ie_tup (k : Nat) (x : Str) (r : List D) (hq : fine 64 (.tup (.str x :: r)) = true) (b nb : D → Bool) (hb : ∀ d ∈ r, ∀ w, f_is_expr k [d] w = some ((.bl (b d), .fz), w)) (hn : ∀ d ∈ r, ∀ w, f_is_name [d] w = some ((.bl (nb d), .fz), w)) (w) : f_is_expr (k + 1) [.tup (.str x :: r)] w = some ((.bl (spE x r b nb), .fz), w) := by
  have hq := dEq_tnil hq
  simp -implicitDefEqProofs at hq
  have key : ∀ y : String, y ∈ ["var", "cell", "not", "add", "sub", "mul", "less", "same"] → x = Str.ofString y → f_is_expr (k + 1) [.tup (.str x :: r)] w = some ((.bl (if y = "var" then one r nb else if y = "cell" ∨ y = "not" then one r b else two r b), .fz), w) := by
    intro y hy e
    subst e
    match r, hb, hn, hq with
    | [], hb, hn, hq =>
      simp only [List.mem_cons, List.mem_nil_iff, or_false] at hy
      rcases hy with e | e | e | e | e | e | e | e <;> subst e <;> simp -implicitDefEqProofs [ie_s, b_is_expr, isn_t, hq, tupof, one, two]
    | [a], hb, hn, hq =>
      have ha := hb a (by simp)
      have na := hn a (by simp)
      simp only [List.mem_cons, List.mem_nil_iff, or_false] at hy
      rcases hy with e | e | e | e | e | e | e | e <;> subst e <;> simp -implicitDefEqProofs [ie_s, b_is_expr, isn_t, hq, tupof, one, two, ha, na]
    | [a, c], hb, hn, hq =>
      have ha := hb a (by simp)
      have hc := hb c (by simp)
      simp only [List.mem_cons, List.mem_nil_iff, or_false] at hy
      cases hx : b a <;> rw [hx] at ha <;> rcases hy with e | e | e | e | e | e | e | e <;> subst e <;> simp -implicitDefEqProofs [ie_s, b_is_expr, isn_t, hq, tupof, one, two, ha, hc, hx]
    | a :: c :: e :: r', hb, hn, hq =>
      have l2 : ¬ ((r'.length : Int) + 1 + 1 + 1 + 1 = 2) := by omega
      have l3 : ¬ ((r'.length : Int) + 1 + 1 + 1 + 1 = 3) := by omega
      simp only [List.mem_cons, List.mem_nil_iff, or_false] at hy
      rcases hy with e | e | e | e | e | e | e | e <;> subst e <;> simp -implicitDefEqProofs [ie_s, b_is_expr, isn_t, hq, tupof, one, two, l2, l3]
  unfold spE
  by_cases h1 : x = "var"
  · rw [if_pos h1, key "var" (by simp) h1]; rfl
  by_cases h2 : x = "cell"
  · rw [if_neg h1, if_pos h2, key "cell" (by simp) h2]; simp
  by_cases h3 : x = "not"
  · rw [if_neg h1, if_neg h2, if_pos h3, key "not" (by simp) h3]; simp
  by_cases h4 : x = "add"
  · rw [if_neg h1, if_neg h2, if_neg h3, if_pos h4, key "add" (by simp) h4]; simp
  by_cases h5 : x = "sub"
  · rw [if_neg h1, if_neg h2, if_neg h3, if_neg h4, if_pos h5, key "sub" (by simp) h5]; simp
  by_cases h6 : x = "mul"
  · rw [if_neg h1, if_neg h2, if_neg h3, if_neg h4, if_neg h5, if_pos h6, key "mul" (by simp) h6]; simp
  by_cases h7 : x = "less"
  · rw [if_neg h1, if_neg h2, if_neg h3, if_neg h4, if_neg h5, if_neg h6, if_pos h7, key "less" (by simp) h7]; simp
  by_cases h8 : x = "same"
  · rw [if_neg h1, if_neg h2, if_neg h3, if_neg h4, if_neg h5, if_neg h6, if_neg h7, if_pos h8, key "same" (by simp) h8]; simp
  rw [if_neg h1, if_neg h2, if_neg h3, if_neg h4, if_neg h5, if_neg h6, if_neg h7, if_neg h8]
  simp -implicitDefEqProofs [ie_s, b_is_expr, isn_t, hq, tupof, h1, Ne.symm h2, Ne.symm h3, Ne.symm h4, Ne.symm h5, Ne.symm h6, Ne.symm h7, Ne.symm h8]
theorem dEqL {ds : List D} (h : ∀ d ∈ ds, fine 63 d = true) : els2 (dEqF false) (dEqD false) (.lst ds) (.lst []) = some (.bl ds.isEmpty, .fz) := dEq_lnil (show fine (63 + 1) _ = true by rw [fine_lst]; exact h)
theorem le_tup (k : Nat) (x : Str) (r : List D) (hq : fine 64 (.tup (.str x :: r)) = true) (hl : r.length ≤ 900) (b nb : D → Bool) (hb : ∀ d ∈ r, ∀ w, f__law_is_expr k [d] w = some ((.bl (b d), .fz), w)) (hn : ∀ d ∈ r, ∀ w, f__law_is_name [d] w = some ((.bl (nb d), .fz), w)) (w) : f__law_is_expr (k + 1) [.tup (.str x :: r)] w = some ((.bl (spE x r b nb), .fz), w) := by
  have hf : ∀ d ∈ r, fine 63 d = true := by
    have : fine (63 + 1) (.tup (.str x :: r)) = true := hq
    rw [fine_tup] at this
    exact fun d hd => this d (List.mem_cons_of_mem _ hd)
  have hq := dEq_tnil hq
  simp -implicitDefEqProofs at hq
  have key : ∀ y : String, y ∈ ["var", "cell", "not", "add", "sub", "mul", "less", "same"] → x = Str.ofString y → f__law_is_expr (k + 1) [.tup (.str x :: r)] w = some ((.bl (if y = "var" then one r nb else if y = "cell" ∨ y = "not" then one r b else two r b), .fz), w) := by
    intro y hy e
    subst e
    have t2 := fun (z : Str) => dInG_tup (neg := false) (x := .str z) (ys := [.str "cell", .str "not"]) rfl rfl
    have t5 := fun (z : Str) => dInG_tup (neg := false) (x := .str z) (ys := [.str "add", .str "sub", .str "mul", .str "less", .str "same"]) rfl rfl
    match r, hb, hn, hq, hf with
    | [], hb, hn, hq, hf =>
      simp only [List.mem_cons, List.mem_nil_iff, or_false] at hy
      rcases hy with e | e | e | e | e | e | e | e <;> subst e <;> simp -implicitDefEqProofs [le_s, b__law_is_expr, ln_t, hq, one, two, t2, t5]
    | [a], hb, hn, hq, hf =>
      have ha := hb a (by simp)
      have na := hn a (by simp)
      have q0 := dEqL (ds := []) (fun _ h => nomatch h)
      have q1 := dEqL (ds := [a]) hf
      simp -implicitDefEqProofs at q0 q1
      simp only [List.mem_cons, List.mem_nil_iff, or_false] at hy
      cases hx : b a <;> rw [hx] at ha <;> rcases hy with e | e | e | e | e | e | e | e <;> subst e <;> simp -implicitDefEqProofs [le_s, b__law_is_expr, ln_t, hq, one, two, ha, na, t2, t5, lcK_q len1_lim, lcL_cons, q0, q1, hx]
    | [a, c], hb, hn, hq, hf =>
      have ha := hb a (by simp)
      have hc := hb c (by simp)
      have q0 := dEqL (ds := []) (fun _ h => nomatch h)
      have q1 := dEqL (ds := [a]) (fun d hd => hf d (by simp at hd; simp [hd]))
      have q2 := dEqL (ds := [c]) (fun d hd => hf d (by simp at hd; simp [hd]))
      have q3 := dEqL (ds := [a, c]) hf
      simp -implicitDefEqProofs at q0 q1 q2 q3
      simp only [List.mem_cons, List.mem_nil_iff, or_false] at hy
      cases hx : b a <;> rw [hx] at ha <;> cases hx2 : b c <;> rw [hx2] at hc <;> rcases hy with e | e | e | e | e | e | e | e <;> subst e <;> simp -implicitDefEqProofs [le_s, b__law_is_expr, ln_t, hq, one, two, ha, hc, hx, hx2, t2, t5, lcK_q len2_lim, lcL_cons, q0, q1, q2, q3]
    | a :: c :: e :: r', hb, hn, hq, hf =>
      have l2 : ¬ ((r'.length : Int) + 1 + 1 + 1 + 1 = 2) := by omega
      have l3 : ¬ ((r'.length : Int) + 1 + 1 + 1 + 1 = 3) := by omega
      simp only [List.mem_cons, List.mem_nil_iff, or_false] at hy
      rcases hy with e | e | e | e | e | e | e | e <;> subst e <;> simp -implicitDefEqProofs [le_s, b__law_is_expr, ln_t, hq, one, two, l2, l3, t2, t5]
  have t2 := dInG_tup (neg := false) (x := .str x) (ys := [.str "cell", .str "not"]) rfl rfl
  have t5 := dInG_tup (neg := false) (x := .str x) (ys := [.str "add", .str "sub", .str "mul", .str "less", .str "same"]) rfl rfl
  unfold spE
  by_cases h1 : x = "var"
  · rw [if_pos h1, key "var" (by simp) h1]; rfl
  by_cases h2 : x = "cell"
  · rw [if_neg h1, if_pos h2, key "cell" (by simp) h2]; simp
  by_cases h3 : x = "not"
  · rw [if_neg h1, if_neg h2, if_pos h3, key "not" (by simp) h3]; simp
  by_cases h4 : x = "add"
  · rw [if_neg h1, if_neg h2, if_neg h3, if_pos h4, key "add" (by simp) h4]; simp
  by_cases h5 : x = "sub"
  · rw [if_neg h1, if_neg h2, if_neg h3, if_neg h4, if_pos h5, key "sub" (by simp) h5]; simp
  by_cases h6 : x = "mul"
  · rw [if_neg h1, if_neg h2, if_neg h3, if_neg h4, if_neg h5, if_pos h6, key "mul" (by simp) h6]; simp
  by_cases h7 : x = "less"
  · rw [if_neg h1, if_neg h2, if_neg h3, if_neg h4, if_neg h5, if_neg h6, if_pos h7, key "less" (by simp) h7]; simp
  by_cases h8 : x = "same"
  · rw [if_neg h1, if_neg h2, if_neg h3, if_neg h4, if_neg h5, if_neg h6, if_neg h7, if_pos h8, key "same" (by simp) h8]; simp
  rw [if_neg h1, if_neg h2, if_neg h3, if_neg h4, if_neg h5, if_neg h6, if_neg h7, if_neg h8]
  have l0 : ¬ ((r.length : Int) + 1 = 0) := by omega
  simp -implicitDefEqProofs [Ne.symm h2, Ne.symm h3, Ne.symm h4, Ne.symm h5, Ne.symm h6, Ne.symm h7, Ne.symm h8] at t5
  simp -implicitDefEqProofs [le_s, b__law_is_expr, ln_t, hq, h1, Ne.symm h2, Ne.symm h3, t5, l0]
theorem ex_same : ∀ (n : Nat) (d : D), Vd n d → ∀ k, n < k → ∃ b, ∀ w, f_is_expr k [d] w = some ((.bl b, .fz), w) ∧ f__law_is_expr k [d] w = some ((.bl b, .fz), w) := by
  intro n
  induction n with
  | zero =>
    intro d h k hk
    obtain ⟨k, rfl⟩ : ∃ m, k = m + 1 := ⟨k - 1, by omega⟩
    exact ⟨_, fun w => ie_flat k d h w⟩
  | succ n ih =>
    intro d h k hk
    obtain ⟨k, rfl⟩ : ∃ m, k = m + 1 := ⟨k - 1, by omega⟩
    cases d with
    | tup ds =>
      obtain ⟨h1, h2, h3⟩ : ds.length ≤ 900 ∧ fine 64 (.tup ds) = true ∧ ∀ d ∈ ds, Vd n d := h
      cases ds with
      | nil => exact ⟨false, fun w => ie_nil k w⟩
      | cons a r =>
        by_cases hs : ∃ x, a = .str x
        · obtain ⟨x, rfl⟩ := hs
          have hh : ∀ d ∈ r, ∃ b, ∀ w, f_is_expr k [d] w = some ((.bl b, .fz), w) ∧ f__law_is_expr k [d] w = some ((.bl b, .fz), w) := fun d hd => ih d (h3 d (List.mem_cons_of_mem _ hd)) k (by omega)
          have hbx : ∃ b : D → Bool, ∀ d ∈ r, ∀ w, f_is_expr k [d] w = some ((.bl (b d), .fz), w) ∧ f__law_is_expr k [d] w = some ((.bl (b d), .fz), w) := by
            refine ⟨fun d => match f_is_expr k [d] none with
              | some ((.bl b, _), _) => b
              | _ => false, fun d hd w => ?_⟩
            obtain ⟨b, hb⟩ := hh d hd
            dsimp only
            rw [(hb none).1]
            exact hb w
          obtain ⟨b, hb⟩ := hbx
          have hn : ∀ d ∈ r, ∀ w, f_is_name [d] w = some ((.bl (nmD d), .fz), w) ∧ f__law_is_name [d] w = some ((.bl (nmD d), .fz), w) := fun d hd w => name_same (h3 d (List.mem_cons_of_mem _ hd)) w
          exact ⟨spE x r b nmD, fun w => ⟨ie_tup k x r h2 b nmD (fun d hd w => (hb d hd w).1) (fun d hd w => (hn d hd w).1) w, le_tup k x r h2 (by simp at h1; omega) b nmD (fun d hd w => (hb d hd w).2) (fun d hd w => (hn d hd w).2) w⟩⟩
        · exact ⟨false, fun w => ie_nost n a r (h3 a List.mem_cons_self) (fun x e => hs ⟨x, e⟩) h2 k w⟩
    | dk _ _ => exact h.elim
    | scr _ => exact h.elim
    | ty _ => exact h.elim
    | w => exact h.elim
    | non => exact ⟨_, fun w => ie_flat k .non trivial w⟩
    | bl b => exact ⟨_, fun w => ie_flat k (.bl b) trivial w⟩
    | int b => exact ⟨_, fun w => ie_flat k (.int b) trivial w⟩
    | str b => exact ⟨_, fun w => ie_flat k (.str b) h w⟩
    | lst b => exact ⟨_, fun w => ie_flat k (.lst b) h w⟩
end Kk44

set_option Elab.async false
set_option linter.all false
set_option maxRecDepth 100000
set_option maxHeartbeats 4000000
namespace Kk44
open PySem PySem.Spec PyProof.Rows L2 Dl
theorem ic_s (n : Nat) : f_is_check (n + 1) = runFn 1 1 (b_is_check (f_is_check n) f_is_tuple_of (f_is_expr 40)) := rfl
theorem lc_s (n : Nat) : f__law_is_check (n + 1) = runFn 3 1 (b__law_is_check (f__law_is_check n) (f__law_is_expr 40)) := rfl
theorem ic_flat (n : Nat) (d : D) (h : Vd 0 d) (w) : f_is_check (n + 1) [d] w = some ((.bl false, .fz), w) ∧ f__law_is_check (n + 1) [d] w = some ((.bl false, .fz), w) := by
  cases d with
  | tup _ => exact h.elim
  | dk _ _ => exact h.elim
  | scr _ => exact h.elim
  | ty _ => exact h.elim
  | w => exact h.elim
  | _ => constructor <;> simp -implicitDefEqProofs [ic_s, b_is_check, lc_s, b__law_is_check]
theorem ic_nost (n : Nat) (d : D) (r : List D) (hd : Vd n d) (hs : ∀ x, d ≠ .str x) (hq : fine 64 (.tup (d :: r)) = true) (k : Nat) (w) : f_is_check (k + 1) [.tup (d :: r)] w = some ((.bl false, .fz), w) ∧ f__law_is_check (k + 1) [.tup (d :: r)] w = some ((.bl false, .fz), w) := by
  have hq := dEq_tnil hq
  simp -implicitDefEqProofs at hq
  cases d with
  | str x => exact absurd rfl (hs x)
  | dk _ _ => cases n <;> exact hd.elim
  | scr _ => cases n <;> exact hd.elim
  | ty _ => cases n <;> exact hd.elim
  | w => cases n <;> exact hd.elim
  | _ => constructor <;> simp -implicitDefEqProofs [ic_s, b_is_check, lc_s, b__law_is_check, hq]
theorem ic_nil (k : Nat) (w) : f_is_check (k + 1) [.tup []] w = some ((.bl false, .fz), w) ∧ f__law_is_check (k + 1) [.tup []] w = some ((.bl false, .fz), w) := by
  have hq := dEq_tnil (show fine 64 (.tup []) = true from rfl)
  simp -implicitDefEqProofs at hq
  constructor <;> simp -implicitDefEqProofs [ic_s, b_is_check, lc_s, b__law_is_check, hq]
def spC (x : Str) (r : List D) (b eb : D → Bool) : Bool :=
  if x = "at" then one r eb else if x = "not" then one r b else if x = "next" then one r b
  else if x = "and" then two r b else if x = "until" then two r b else false
theorem ic_tup (k : Nat) (x : Str) (r : List D) (hq : fine 64 (.tup (.str x :: r)) = true) (b nb : D → Bool) (hb : ∀ d ∈ r, ∀ w, f_is_check k [d] w = some ((.bl (b d), .fz), w)) (hn : ∀ d ∈ r, ∀ w, f_is_expr 40 [d] w = some ((.bl (nb d), .fz), w)) (w) : f_is_check (k + 1) [.tup (.str x :: r)] w = some ((.bl (spC x r b nb), .fz), w) := by
  have hq := dEq_tnil hq
  simp -implicitDefEqProofs at hq
  have key : ∀ y : String, y ∈ ["at", "not", "next", "and", "until"] → x = Str.ofString y → f_is_check (k + 1) [.tup (.str x :: r)] w = some ((.bl (if y = "at" then one r nb else if y = "not" ∨ y = "next" then one r b else two r b), .fz), w) := by
    intro y hy e
    subst e
    match r, hb, hn, hq with
    | [], hb, hn, hq =>
      simp only [List.mem_cons, List.mem_nil_iff, or_false] at hy
      rcases hy with e | e | e | e | e <;> subst e <;> simp -implicitDefEqProofs [ic_s, b_is_check, hq, tupof, one, two]
    | [a], hb, hn, hq =>
      have ha := hb a (by simp)
      have na := hn a (by simp)
      simp only [List.mem_cons, List.mem_nil_iff, or_false] at hy
      rcases hy with e | e | e | e | e <;> subst e <;> simp -implicitDefEqProofs [ic_s, b_is_check, hq, tupof, one, two, ha, na]
    | [a, c], hb, hn, hq =>
      have ha := hb a (by simp)
      have hc := hb c (by simp)
      simp only [List.mem_cons, List.mem_nil_iff, or_false] at hy
      cases hx : b a <;> rw [hx] at ha <;> rcases hy with e | e | e | e | e <;> subst e <;> simp -implicitDefEqProofs [ic_s, b_is_check, hq, tupof, one, two, ha, hc, hx]
    | a :: c :: e :: r', hb, hn, hq =>
      have l2 : ¬ ((r'.length : Int) + 1 + 1 + 1 + 1 = 2) := by omega
      have l3 : ¬ ((r'.length : Int) + 1 + 1 + 1 + 1 = 3) := by omega
      simp only [List.mem_cons, List.mem_nil_iff, or_false] at hy
      rcases hy with e | e | e | e | e <;> subst e <;> simp -implicitDefEqProofs [ic_s, b_is_check, hq, tupof, one, two, l2, l3]
  unfold spC
  by_cases h1 : x = "at"
  · rw [if_pos h1, key "at" (by simp) h1]; rfl
  by_cases h2 : x = "not"
  · rw [if_neg h1, if_pos h2, key "not" (by simp) h2]; simp
  by_cases h3 : x = "next"
  · rw [if_neg h1, if_neg h2, if_pos h3, key "next" (by simp) h3]; simp
  by_cases h4 : x = "and"
  · rw [if_neg h1, if_neg h2, if_neg h3, if_pos h4, key "and" (by simp) h4]; simp
  by_cases h5 : x = "until"
  · rw [if_neg h1, if_neg h2, if_neg h3, if_neg h4, if_pos h5, key "until" (by simp) h5]; simp
  rw [if_neg h1, if_neg h2, if_neg h3, if_neg h4, if_neg h5]
  simp -implicitDefEqProofs [ic_s, b_is_check, hq, tupof, h1, Ne.symm h2, Ne.symm h3, Ne.symm h4, Ne.symm h5]
theorem lc_tup (k : Nat) (x : Str) (r : List D) (hq : fine 64 (.tup (.str x :: r)) = true) (hl : r.length ≤ 900) (b nb : D → Bool) (hb : ∀ d ∈ r, ∀ w, f__law_is_check k [d] w = some ((.bl (b d), .fz), w)) (hn : ∀ d ∈ r, ∀ w, f__law_is_expr 40 [d] w = some ((.bl (nb d), .fz), w)) (w) : f__law_is_check (k + 1) [.tup (.str x :: r)] w = some ((.bl (spC x r b nb), .fz), w) := by
  have hf : ∀ d ∈ r, fine 63 d = true := by
    have : fine (63 + 1) (.tup (.str x :: r)) = true := hq
    rw [fine_tup] at this
    exact fun d hd => this d (List.mem_cons_of_mem _ hd)
  have hq := dEq_tnil hq
  simp -implicitDefEqProofs at hq
  have key : ∀ y : String, y ∈ ["at", "not", "next", "and", "until"] → x = Str.ofString y → f__law_is_check (k + 1) [.tup (.str x :: r)] w = some ((.bl (if y = "at" then one r nb else if y = "not" ∨ y = "next" then one r b else two r b), .fz), w) := by
    intro y hy e
    subst e
    match r, hb, hn, hq, hf with
    | [], hb, hn, hq, hf =>
      simp only [List.mem_cons, List.mem_nil_iff, or_false] at hy
      rcases hy with e | e | e | e | e <;> subst e <;> simp -implicitDefEqProofs [lc_s, b__law_is_check, hq, one, two]
    | [a], hb, hn, hq, hf =>
      have ha := hb a (by simp)
      have na := hn a (by simp)
      have q0 := dEqL (ds := []) (fun _ h => nomatch h)
      have q1 := dEqL (ds := [a]) hf
      simp -implicitDefEqProofs at q0 q1
      simp only [List.mem_cons, List.mem_nil_iff, or_false] at hy
      cases hx : b a <;> rw [hx] at ha <;> rcases hy with e | e | e | e | e <;> subst e <;> simp -implicitDefEqProofs [lc_s, b__law_is_check, hq, one, two, ha, na, lcK_q len1_lim, lcL_cons, q0, q1, hx]
    | [a, c], hb, hn, hq, hf =>
      have ha := hb a (by simp)
      have hc := hb c (by simp)
      have q0 := dEqL (ds := []) (fun _ h => nomatch h)
      have q1 := dEqL (ds := [a]) (fun d hd => hf d (by simp at hd; simp [hd]))
      have q2 := dEqL (ds := [c]) (fun d hd => hf d (by simp at hd; simp [hd]))
      have q3 := dEqL (ds := [a, c]) hf
      simp -implicitDefEqProofs at q0 q1 q2 q3
      simp only [List.mem_cons, List.mem_nil_iff, or_false] at hy
      cases hx : b a <;> rw [hx] at ha <;> cases hx2 : b c <;> rw [hx2] at hc <;> rcases hy with e | e | e | e | e <;> subst e <;> simp -implicitDefEqProofs [lc_s, b__law_is_check, hq, one, two, ha, hc, hx, hx2, lcK_q len2_lim, lcL_cons, q0, q1, q2, q3]
    | a :: c :: e :: r', hb, hn, hq, hf =>
      have l2 : ¬ ((r'.length : Int) + 1 + 1 + 1 + 1 = 2) := by omega
      have l3 : ¬ ((r'.length : Int) + 1 + 1 + 1 + 1 = 3) := by omega
      simp only [List.mem_cons, List.mem_nil_iff, or_false] at hy
      rcases hy with e | e | e | e | e <;> subst e <;> simp -implicitDefEqProofs [lc_s, b__law_is_check, hq, one, two, l2, l3]
  unfold spC
  by_cases h1 : x = "at"
  · rw [if_pos h1, key "at" (by simp) h1]; rfl
  by_cases h2 : x = "not"
  · rw [if_neg h1, if_pos h2, key "not" (by simp) h2]; simp
  by_cases h3 : x = "next"
  · rw [if_neg h1, if_neg h2, if_pos h3, key "next" (by simp) h3]; simp
  by_cases h4 : x = "and"
  · rw [if_neg h1, if_neg h2, if_neg h3, if_pos h4, key "and" (by simp) h4]; simp
  by_cases h5 : x = "until"
  · rw [if_neg h1, if_neg h2, if_neg h3, if_neg h4, if_pos h5, key "until" (by simp) h5]; simp
  rw [if_neg h1, if_neg h2, if_neg h3, if_neg h4, if_neg h5]
  have l0 : ¬ ((r.length : Int) + 1 = 0) := by omega
  simp -implicitDefEqProofs [lc_s, b__law_is_check, hq, h1, Ne.symm h2, Ne.symm h3, Ne.symm h4, Ne.symm h5, l0]
theorem pickB (F G : Fn) (r : List D) (hh : ∀ d ∈ r, ∃ b, ∀ w, F [d] w = some ((.bl b, .fz), w) ∧ G [d] w = some ((.bl b, .fz), w)) : ∃ b : D → Bool, ∀ d ∈ r, ∀ w, F [d] w = some ((.bl (b d), .fz), w) ∧ G [d] w = some ((.bl (b d), .fz), w) := by
  refine ⟨fun d => match F [d] none with
    | some ((.bl b, _), _) => b
    | _ => false, fun d hd w => ?_⟩
  obtain ⟨b, hb⟩ := hh d hd
  dsimp only
  rw [(hb none).1]
  exact hb w
theorem ck_same : ∀ (n : Nat) (d : D), n ≤ 30 → Vd n d → ∀ k, n < k → ∃ b, ∀ w, f_is_check k [d] w = some ((.bl b, .fz), w) ∧ f__law_is_check k [d] w = some ((.bl b, .fz), w) := by
  intro n
  induction n with
  | zero =>
    intro d _ h k hk
    obtain ⟨k, rfl⟩ : ∃ m, k = m + 1 := ⟨k - 1, by omega⟩
    exact ⟨_, fun w => ic_flat k d h w⟩
  | succ n ih =>
    intro d hn30 h k hk
    obtain ⟨k, rfl⟩ : ∃ m, k = m + 1 := ⟨k - 1, by omega⟩
    cases d with
    | tup ds =>
      obtain ⟨h1, h2, h3⟩ : ds.length ≤ 900 ∧ fine 64 (.tup ds) = true ∧ ∀ d ∈ ds, Vd n d := h
      cases ds with
      | nil => exact ⟨false, fun w => ic_nil k w⟩
      | cons a r =>
        by_cases hs : ∃ x, a = .str x
        · obtain ⟨x, rfl⟩ := hs
          obtain ⟨b, hb⟩ := pickB (f_is_check k) (f__law_is_check k) r fun d hd => ih d (by omega) (h3 d (List.mem_cons_of_mem _ hd)) k (by omega)
          obtain ⟨e, he⟩ := pickB (f_is_expr 40) (f__law_is_expr 40) r fun d hd => ex_same n d (h3 d (List.mem_cons_of_mem _ hd)) 40 (by omega)
          exact ⟨spC x r b e, fun w => ⟨ic_tup k x r h2 b e (fun d hd w => (hb d hd w).1) (fun d hd w => (he d hd w).1) w, lc_tup k x r h2 (by simp at h1; omega) b e (fun d hd w => (hb d hd w).2) (fun d hd w => (he d hd w).2) w⟩⟩
        · exact ⟨false, fun w => ic_nost n a r (h3 a List.mem_cons_self) (fun x e => hs ⟨x, e⟩) h2 k w⟩
    | dk _ _ => exact h.elim
    | scr _ => exact h.elim
    | ty _ => exact h.elim
    | w => exact h.elim
    | non => exact ⟨_, fun w => ic_flat k .non trivial w⟩
    | bl b => exact ⟨_, fun w => ic_flat k (.bl b) trivial w⟩
    | int b => exact ⟨_, fun w => ic_flat k (.int b) trivial w⟩
    | str b => exact ⟨_, fun w => ic_flat k (.str b) h w⟩
    | lst b => exact ⟨_, fun w => ic_flat k (.lst b) h w⟩
/-! what can be judged: by a look that reckons -/
def vd : Nat → D → Bool
  | _, .non => true
  | _, .bl _ => true
  | _, .int _ => true
  | _, .str x => decide (x.length ≤ 1000) && PyData.strOk x
  | n + 1, .tup ds => decide (ds.length ≤ 900) && ds.all (vd n)
  | n + 1, .lst ds => decide (ds.length ≤ 900) && ds.all (vd n)
  | _, _ => false
theorem vd_fine : ∀ (n : Nat) (d : D), vd n d = true → fine n d = true
  | n, .non, h => fine_non
  | n, .bl _, h => fine_bl
  | n, .int _, h => fine_int
  | n, .str x, h => by
    rw [fine_str]
    have : (decide (x.length ≤ 1000) && PyData.strOk x) = true := by cases n <;> exact h
    rw [Bool.and_eq_true] at this
    exact this.2
  | n + 1, .tup ds, h => by
    have h' : (decide (ds.length ≤ 900) && ds.all (vd n)) = true := h
    rw [Bool.and_eq_true, List.all_eq_true] at h'
    rw [fine_tup]
    exact fun d hd => vd_fine n d (h'.2 d hd)
  | n + 1, .lst ds, h => by
    have h' : (decide (ds.length ≤ 900) && ds.all (vd n)) = true := h
    rw [Bool.and_eq_true, List.all_eq_true] at h'
    rw [fine_lst]
    exact fun d hd => vd_fine n d (h'.2 d hd)
  | 0, .tup _, h => nomatch h
  | 0, .lst _, h => nomatch h
  | n, .dk _ _, h => by cases n <;> exact nomatch h
  | n, .scr _, h => by cases n <;> exact nomatch h
  | n, .ty _, h => by cases n <;> exact nomatch h
  | n, .w, h => by cases n <;> exact nomatch h
theorem vd_Vd : ∀ (n : Nat) (d : D), n ≤ 30 → vd n d = true → Vd n d
  | n, .non, _, h => by cases n <;> trivial
  | n, .bl _, _, h => by cases n <;> trivial
  | n, .int _, _, h => by cases n <;> trivial
  | n, .str x, _, h => by
    have : (decide (x.length ≤ 1000) && PyData.strOk x) = true := by cases n <;> exact h
    rw [Bool.and_eq_true] at this
    have := And.intro (of_decide_eq_true this.1) this.2
    cases n <;> exact this
  | n + 1, .tup ds, hn, h => by
    have hf := fine_mono _ 64 _ (by omega) (vd_fine (n + 1) (.tup ds) h)
    have h' : (decide (ds.length ≤ 900) && ds.all (vd n)) = true := h
    rw [Bool.and_eq_true, List.all_eq_true] at h'
    exact ⟨of_decide_eq_true h'.1, hf, fun d hd => vd_Vd n d (by omega) (h'.2 d hd)⟩
  | n + 1, .lst ds, hn, h => fine_mono _ 64 _ (by omega) (vd_fine (n + 1) (.lst ds) h)
  | 0, .tup _, _, h => nomatch h
  | 0, .lst _, _, h => nomatch h
  | n, .dk _ _, _, h => by cases n <;> exact nomatch h
  | n, .scr _, _, h => by cases n <;> exact nomatch h
  | n, .ty _, _, h => by cases n <;> exact nomatch h
  | n, .w, _, h => by cases n <;> exact nomatch h
theorem vd_mono : ∀ (n m : Nat) (d : D), n ≤ m → vd n d = true → vd m d = true
  | n, m, .non, _, h => by cases m <;> rfl
  | n, m, .bl _, _, h => by cases m <;> rfl
  | n, m, .int _, _, h => by cases m <;> rfl
  | n, m, .str x, _, h => by cases n <;> cases m <;> exact h
  | n + 1, m + 1, .tup ds, hl, h => by
    have h' : (decide (ds.length ≤ 900) && ds.all (vd n)) = true := h
    rw [Bool.and_eq_true, List.all_eq_true] at h'
    show (decide (ds.length ≤ 900) && ds.all (vd m)) = true
    rw [Bool.and_eq_true, List.all_eq_true]
    exact ⟨h'.1, fun d hd => vd_mono n m d (by omega) (h'.2 d hd)⟩
  | n + 1, m + 1, .lst ds, hl, h => by
    have h' : (decide (ds.length ≤ 900) && ds.all (vd n)) = true := h
    rw [Bool.and_eq_true, List.all_eq_true] at h'
    show (decide (ds.length ≤ 900) && ds.all (vd m)) = true
    rw [Bool.and_eq_true, List.all_eq_true]
    exact ⟨h'.1, fun d hd => vd_mono n m d (by omega) (h'.2 d hd)⟩
  | n + 1, 0, .tup _, h, _ => by omega
  | n + 1, 0, .lst _, h, _ => by omega
  | 0, _, .tup _, _, h => nomatch h
  | 0, _, .lst _, _, h => nomatch h
  | n, m, .dk _ _, _, h => by cases n <;> exact nomatch h
  | n, m, .scr _, _, h => by cases n <;> exact nomatch h
  | n, m, .ty _, _, h => by cases n <;> exact nomatch h
  | n, m, .w, _, h => by cases n <;> exact nomatch h
theorem vd_exs : ∀ e ∈ exs, vd 3 e = true := by
  intro e he
  simp only [exs, List.mem_cons, List.mem_nil_iff, or_false] at he
  rcases he with e | e | e | e | e | e | e | e <;> subst e <;> decide +kernel
def parts : Ck → List D
  | .at e => [.str "at", e]
  | .no c => [.str "not", enc c]
  | .nx c => [.str "next", enc c]
  | .an c d => [.str "and", enc c, enc d]
  | .un c d => [.str "until", enc c, enc d]
theorem enc_parts (c : Ck) : enc c = .tup (parts c) := by cases c <;> rfl
theorem vd_words : ∀ x ∈ ["at", "not", "next", "and", "until"], ∀ n, vd n (.str (Str.ofString x)) = true := by
  intro x hx n
  have : vd 0 (.str (Str.ofString x)) = true := by
    simp only [List.mem_cons, List.mem_nil_iff, or_false] at hx
    rcases hx with e | e | e | e | e <;> subst e <;> decide +kernel
  exact vd_mono 0 n _ (by omega) this
theorem vd_parts : ∀ (c : Ck), OkC c → ∀ n, dep c + 2 ≤ n → ∀ d ∈ parts c, vd n d = true
  | .at e, h, n, hn, d, hd => by
    simp only [parts, List.mem_cons, List.mem_nil_iff, or_false] at hd
    rcases hd with x | x <;> subst x
    · exact vd_words "at" (by simp) n
    · exact vd_mono 3 n _ (by simp [dep] at hn; omega) (vd_exs _ h)
  | .no c, h, n, hn, d, hd => by
    simp only [parts, List.mem_cons, List.mem_nil_iff, or_false] at hd
    rcases hd with x | x <;> subst x
    · exact vd_words "not" (by simp) n
    · obtain ⟨n, rfl⟩ : ∃ m, n = m + 1 := ⟨n - 1, by simp [dep] at hn; omega⟩
      rw [enc_parts]
      show (decide ((parts c).length ≤ 900) && (parts c).all (vd n)) = true
      rw [Bool.and_eq_true, List.all_eq_true]
      exact ⟨by cases c <;> rfl, fun d hd => vd_parts c h n (by simp [dep] at hn; omega) d hd⟩
  | .nx c, h, n, hn, d, hd => by
    simp only [parts, List.mem_cons, List.mem_nil_iff, or_false] at hd
    rcases hd with x | x <;> subst x
    · exact vd_words "next" (by simp) n
    · obtain ⟨n, rfl⟩ : ∃ m, n = m + 1 := ⟨n - 1, by simp [dep] at hn; omega⟩
      rw [enc_parts]
      show (decide ((parts c).length ≤ 900) && (parts c).all (vd n)) = true
      rw [Bool.and_eq_true, List.all_eq_true]
      exact ⟨by cases c <;> rfl, fun d hd => vd_parts c h n (by simp [dep] at hn; omega) d hd⟩
  | .an c e, h, n, hn, d, hd => by
    obtain ⟨n, rfl⟩ : ∃ m, n = m + 1 := ⟨n - 1, by simp [dep] at hn; omega⟩
    have A : ∀ c, OkC c → dep c + 2 ≤ n → (∀ d ∈ parts c, vd n d = true) → vd (n + 1) (enc c) = true := fun c hc hn hh => by
      rw [enc_parts]
      show (decide ((parts c).length ≤ 900) && (parts c).all (vd n)) = true
      rw [Bool.and_eq_true, List.all_eq_true]
      exact ⟨by cases c <;> rfl, hh⟩
    simp only [parts, List.mem_cons, List.mem_nil_iff, or_false] at hd
    rcases hd with x | x | x <;> subst x
    · exact vd_words "and" (by simp) _
    · exact A c h.1 (by simp [dep] at hn; omega) (vd_parts c h.1 n (by simp [dep] at hn; omega))
    · exact A e h.2 (by simp [dep] at hn; omega) (vd_parts e h.2 n (by simp [dep] at hn; omega))
  | .un c e, h, n, hn, d, hd => by
    obtain ⟨n, rfl⟩ : ∃ m, n = m + 1 := ⟨n - 1, by simp [dep] at hn; omega⟩
    have A : ∀ c, OkC c → dep c + 2 ≤ n → (∀ d ∈ parts c, vd n d = true) → vd (n + 1) (enc c) = true := fun c hc hn hh => by
      rw [enc_parts]
      show (decide ((parts c).length ≤ 900) && (parts c).all (vd n)) = true
      rw [Bool.and_eq_true, List.all_eq_true]
      exact ⟨by cases c <;> rfl, hh⟩
    simp only [parts, List.mem_cons, List.mem_nil_iff, or_false] at hd
    rcases hd with x | x | x <;> subst x
    · exact vd_words "until" (by simp) _
    · exact A c h.1 (by simp [dep] at hn; omega) (vd_parts c h.1 n (by simp [dep] at hn; omega))
    · exact A e h.2 (by simp [dep] at hn; omega) (vd_parts e h.2 n (by simp [dep] at hn; omega))
theorem vd_enc {c : Ck} (h : OkC c) {n : Nat} (hn : dep c + 3 ≤ n) : vd n (enc c) = true := by
  obtain ⟨n, rfl⟩ : ∃ m, n = m + 1 := ⟨n - 1, by omega⟩
  rw [enc_parts]
  show (decide ((parts c).length ≤ 900) && (parts c).all (vd n)) = true
  rw [Bool.and_eq_true, List.all_eq_true]
  exact ⟨by cases c <;> rfl, vd_parts c h n (by omega)⟩
/-- the law's look says that these are checks -/
def TE (k : Nat) (d : D) : Prop := ∀ w, f__law_is_expr k [d] w = some ((.bl true, .fz), w)
theorem te_int (k : Nat) (i : Int) : TE (k + 1) (.int i) := fun w => (ie_flat k (.int i) trivial w).2
theorem vdN {d : D} (h : vd 5 d = true) (w) : f__law_is_name [d] w = some ((.bl (nmD d), .fz), w) := (name_same (vd_Vd 5 d (by decide) h) w).2
theorem te_var (k : Nat) (x : Str) (h : vd 0 (.str x) = true) (hn : nmOk x = true) : TE (k + 2) (.tup [.str "var", .str x]) := fun w => by
  have hv : vd 5 (.str x) = true := vd_mono 0 5 _ (by decide) h
  have hf := fine_mono 6 64 _ (by decide) (vd_fine 6 (.tup [.str "var", .str x]) (by
    show (decide (2 ≤ 900) && [D.str "var", D.str x].all (vd 5)) = true
    rw [Bool.and_eq_true, List.all_eq_true]
    refine ⟨rfl, fun d hd => ?_⟩
    simp only [List.mem_cons, List.mem_nil_iff, or_false] at hd
    rcases hd with e | e <;> subst e
    · decide +kernel
    · exact hv))
  have := le_tup (k + 1) "var" [.str x] hf (by simp) (fun _ => false) nmD (fun d hd w => by
    rw [List.mem_singleton] at hd
    subst hd
    exact (ie_flat k (.str x) (by have := vd_Vd 0 _ (by decide) h; exact this) w).2) (fun d hd w => by
    rw [List.mem_singleton] at hd
    subst hd
    exact vdN hv w) w
  rw [this]
  simp [spE, one, nmD, hn]
theorem te_one (k : Nat) (y : Str) (hy : y = "not" ∨ y = "cell") (a : D) (hv : vd 5 a = true) (h : TE k a) : TE (k + 1) (.tup [.str y, a]) := fun w => by
  have hf := fine_mono 6 64 _ (by decide) (vd_fine 6 (.tup [.str y, a]) (by
    show (decide (2 ≤ 900) && [D.str y, a].all (vd 5)) = true
    rw [Bool.and_eq_true, List.all_eq_true]
    refine ⟨rfl, fun d hd => ?_⟩
    simp only [List.mem_cons, List.mem_nil_iff, or_false] at hd
    rcases hd with e | e <;> subst e
    · rcases hy with e | e <;> subst e <;> decide +kernel
    · exact hv))
  have := le_tup k y [a] hf (by simp) (fun _ => true) nmD (fun d hd w => by
    rw [List.mem_singleton] at hd
    subst hd
    exact h w) (fun d hd w => by
    rw [List.mem_singleton] at hd
    subst hd
    exact vdN hv w) w
  rw [this]
  rcases hy with e | e <;> subst e <;> simp [spE, one]
theorem te_two (k : Nat) (y : Str) (hy : y = "sub" ∨ y = "less" ∨ y = "same") (a c : D) (hv : vd 5 a = true) (hv2 : vd 5 c = true) (h : TE k a) (h2 : TE k c) : TE (k + 1) (.tup [.str y, a, c]) := fun w => by
  have hf := fine_mono 6 64 _ (by decide) (vd_fine 6 (.tup [.str y, a, c]) (by
    show (decide (3 ≤ 900) && [D.str y, a, c].all (vd 5)) = true
    rw [Bool.and_eq_true, List.all_eq_true]
    refine ⟨rfl, fun d hd => ?_⟩
    simp only [List.mem_cons, List.mem_nil_iff, or_false] at hd
    rcases hd with e | e | e <;> subst e
    · rcases hy with e | e | e <;> subst e <;> decide +kernel
    · exact hv
    · exact hv2))
  have := le_tup k y [a, c] hf (by simp) (fun _ => true) nmD (fun d hd w => by
    simp only [List.mem_cons, List.mem_nil_iff, or_false] at hd
    rcases hd with e | e <;> subst e
    · exact h w
    · exact h2 w) (fun d hd w => by
    simp only [List.mem_cons, List.mem_nil_iff, or_false] at hd
    rcases hd with e | e <;> subst e
    · exact vdN hv w
    · exact vdN hv2 w) w
  rw [this]
  rcases hy with e | e | e <;> subst e <;> simp [spE, two]
theorem te_exs : ∀ e ∈ exs, TE 40 e := by
  have hx := fun k => te_var k (Str.ofString "x") (by decide +kernel) (by decide +kernel)
  have hy := fun k => te_var k (Str.ofString "y2") (by decide +kernel) (by decide +kernel)
  have hc := te_one 38 "cell" (.inr rfl) (.int 3) (by decide +kernel) (te_int 37 3)
  have hcv := te_one 38 "cell" (.inr rfl) xV (by decide +kernel) (hx 36)
  intro e he
  simp only [exs, List.mem_cons, List.mem_nil_iff, or_false] at he
  rcases he with e | e | e | e | e | e | e | e <;> subst e
  · exact te_int 39 0
  · exact te_int 39 1
  · exact hx 38
  · exact te_one 39 "not" (.inl rfl) xV (by decide +kernel) (hx 37)
  · exact te_one 39 "cell" (.inr rfl) (.int 3) (by decide +kernel) (te_int 38 3)
  · exact te_two 39 "less" (.inr (.inl rfl)) xV xC3 (by decide +kernel) (by decide +kernel) (hx 37) hc
  · exact te_two 39 "same" (.inr (.inr rfl)) _ (.int 1) (by decide +kernel) (by decide +kernel) (hy 37) (te_int 38 1)
  · exact te_two 39 "sub" (.inl rfl) xCV (.int 1) (by decide +kernel) (by decide +kernel) hcv (te_int 38 1)
/-- an expression as the law's look finds it, on what can be judged -/
theorem le_any (d : D) {n : Nat} (hn : n ≤ 20) (hv : vd n d = true) : ∃ b, ∀ w, f__law_is_expr 40 [d] w = some ((.bl b, .fz), w) := by
  obtain ⟨b, hb⟩ := ex_same n d (vd_Vd n d (by omega) hv) 40 (by omega)
  exact ⟨b, fun w => (hb w).2⟩
theorem lck_ok : ∀ (c : Ck) (n : Nat), dep c ≤ n → dep c ≤ 15 → OkC c → ∀ w, f__law_is_check n [enc c] w = some ((.bl true, .fz), w) := by
  have pick1 : ∀ a : D, vd 20 a = true → ∃ e : D → Bool, ∀ w, f__law_is_expr 40 [a] w = some ((.bl (e a), .fz), w) := fun a ha => by
    obtain ⟨b, hb⟩ := le_any a (by decide) ha
    exact ⟨fun _ => b, hb⟩
  have pick2 : ∀ a c : D, vd 20 a = true → vd 20 c = true → ∃ e : D → Bool, (∀ w, f__law_is_expr 40 [a] w = some ((.bl (e a), .fz), w)) ∧ ∀ w, f__law_is_expr 40 [c] w = some ((.bl (e c), .fz), w) := fun a c ha hc => by
    obtain ⟨e, he⟩ := pickB (f__law_is_expr 40) (f__law_is_expr 40) [a, c] fun d hd => by
      have : vd 20 d = true := by
        simp only [List.mem_cons, List.mem_nil_iff, or_false] at hd
        rcases hd with e | e <;> subst e <;> assumption
      obtain ⟨b, hb⟩ := le_any d (by decide) this
      exact ⟨b, fun w => ⟨hb w, hb w⟩⟩
    exact ⟨e, fun w => (he a (by simp) w).1, fun w => (he c (by simp) w).1⟩
  have fineE : ∀ c, OkC c → dep c ≤ 15 → fine 64 (.tup (parts c)) = true := fun c h hd => by
    rw [← enc_parts]; exact fine_mono 18 64 _ (by decide) (vd_fine 18 _ (vd_enc h (by omega)))
  intro c
  induction c with
  | «at» e =>
    intro n hn h15 hc w
    obtain ⟨n, rfl⟩ : ∃ m, n = m + 1 := ⟨n - 1, by simp [dep] at hn; omega⟩
    have he := te_exs e hc
    have hq := dEq_tnil (fineE (.at e) hc h15)
    unfold parts at hq
    have he' : ∀ w, f__law_is_expr 40 [e] w = some ((.bl true, .fz), w) := he
    simp -implicitDefEqProofs at hq
    simp -implicitDefEqProofs [lc_s, b__law_is_check, enc, hq, he']
  | no c ih =>
    intro n hn h15 hc w
    obtain ⟨n, rfl⟩ : ∃ m, n = m + 1 := ⟨n - 1, by simp [dep] at hn; omega⟩
    have hd15 : dep c ≤ 15 := by simp [dep] at h15; omega
    obtain ⟨e, he⟩ := pick1 (enc c) (vd_enc (c := c) hc (by omega))
    have := lc_tup n "not" [enc c] (fineE (.no c) hc h15) (by simp) (fun _ => true) e (fun d hd w => by rw [List.mem_singleton] at hd; subst hd; exact ih n (by simp [dep] at hn; omega) hd15 hc w) (fun d hd w => by rw [List.mem_singleton] at hd; subst hd; exact he w) w
    rw [show enc (.no c) = .tup [.str "not", enc c] from rfl, this]
    simp [spC, one]
  | nx c ih =>
    intro n hn h15 hc w
    obtain ⟨n, rfl⟩ : ∃ m, n = m + 1 := ⟨n - 1, by simp [dep] at hn; omega⟩
    have hd15 : dep c ≤ 15 := by simp [dep] at h15; omega
    obtain ⟨e, he⟩ := pick1 (enc c) (vd_enc (c := c) hc (by omega))
    have := lc_tup n "next" [enc c] (fineE (.nx c) hc h15) (by simp) (fun _ => true) e (fun d hd w => by rw [List.mem_singleton] at hd; subst hd; exact ih n (by simp [dep] at hn; omega) hd15 hc w) (fun d hd w => by rw [List.mem_singleton] at hd; subst hd; exact he w) w
    rw [show enc (.nx c) = .tup [.str "next", enc c] from rfl, this]
    simp [spC, one]
  | an c d ih1 ih2 =>
    intro n hn h15 hc w
    obtain ⟨n, rfl⟩ : ∃ m, n = m + 1 := ⟨n - 1, by simp [dep] at hn; omega⟩
    have hd1 : dep c ≤ 15 := by simp [dep] at h15; omega
    have hd2 : dep d ≤ 15 := by simp [dep] at h15; omega
    obtain ⟨e, he1, he2⟩ := pick2 (enc c) (enc d) (vd_enc hc.1 (by omega)) (vd_enc hc.2 (by omega))
    have := lc_tup n "and" [enc c, enc d] (fineE (.an c d) hc h15) (by simp) (fun _ => true) e (fun x hx w => by
      simp only [List.mem_cons, List.mem_nil_iff, or_false] at hx
      rcases hx with e | e <;> subst e
      · exact ih1 n (by simp [dep] at hn; omega) hd1 hc.1 w
      · exact ih2 n (by simp [dep] at hn; omega) hd2 hc.2 w) (fun x hx w => by
      simp only [List.mem_cons, List.mem_nil_iff, or_false] at hx
      rcases hx with e | e <;> subst e
      · exact he1 w
      · exact he2 w) w
    rw [show enc (.an c d) = .tup [.str "and", enc c, enc d] from rfl, this]
    simp [spC, two]
  | un c d ih1 ih2 =>
    intro n hn h15 hc w
    obtain ⟨n, rfl⟩ : ∃ m, n = m + 1 := ⟨n - 1, by simp [dep] at hn; omega⟩
    have hd1 : dep c ≤ 15 := by simp [dep] at h15; omega
    have hd2 : dep d ≤ 15 := by simp [dep] at h15; omega
    obtain ⟨e, he1, he2⟩ := pick2 (enc c) (enc d) (vd_enc hc.1 (by omega)) (vd_enc hc.2 (by omega))
    have := lc_tup n "until" [enc c, enc d] (fineE (.un c d) hc h15) (by simp) (fun _ => true) e (fun x hx w => by
      simp only [List.mem_cons, List.mem_nil_iff, or_false] at hx
      rcases hx with e | e <;> subst e
      · exact ih1 n (by simp [dep] at hn; omega) hd1 hc.1 w
      · exact ih2 n (by simp [dep] at hn; omega) hd2 hc.2 w) (fun x hx w => by
      simp only [List.mem_cons, List.mem_nil_iff, or_false] at hx
      rcases hx with e | e <;> subst e
      · exact he1 w
      · exact he2 w) w
    rw [show enc (.un c d) = .tup [.str "until", enc c, enc d] from rfl, this]
    simp [spC, two]
end Kk44

set_option Elab.async false
set_option linter.all false
set_option maxRecDepth 100000
set_option maxHeartbeats 4000000
namespace Kk44
open PySem PySem.Spec PyProof.Rows L2 Dl
def alw (c : Ck) : Ck := .no (.un (.at (.int 1)) (.no c))
def onc (c : Ck) : Ck := .un (.at (.int 1)) c
def eit (c d : Ck) : Ck := .no (.an (.no c) (.no d))
def lea (c d : Ck) : Ck := alw (eit (.no c) (onc d))
theorem always_ok (c : Ck) (w) : f_always [enc c] w = some ((enc (alw c), .fz), w) := by simp -implicitDefEqProofs [f_always, b_always, alw, enc]
theorem once_ok (c : Ck) (w) : f_once [enc c] w = some ((enc (onc c), .fz), w) := by simp -implicitDefEqProofs [f_once, b_once, onc, enc]
theorem either_ok (c d : Ck) (w) : f_either [enc c, enc d] w = some ((enc (eit c d), .fz), w) := by simp -implicitDefEqProofs [f_either, b_either, eit, enc]
theorem leads_ok (c d : Ck) (w) : f_leads_to [enc c, enc d] w = some ((enc (lea c d), .fz), w) := by
  have h1 := fun w => always_ok (eit (.no c) (onc d)) w
  have h2 := fun w => once_ok d w
  have h3 := fun w => either_ok (.no c) (onc d) w
  have h4 : enc (.no c) = .tup [.str "not", enc c] := rfl
  rw [h4] at h3
  simp -implicitDefEqProofs [f_leads_to, b_leads_to, h1, h2, h3]
  rfl
theorem one_ex : D.int 1 ∈ exs := by unfold exs; simp
theorem Dn.alw {c : Ck} {n : Nat} (h : Dn c n) : Dn (alw c) (n + 3) := ⟨⟨one_ex, h.ok⟩, by have := h.dp; simp [Kk44.alw, dep]; omega⟩
theorem Dn.onc {c : Ck} {n : Nat} (h : Dn c n) : Dn (onc c) (n + 2) := ⟨⟨one_ex, h.ok⟩, by have := h.dp; simp [Kk44.onc, dep]; omega⟩
theorem Dn.eit {c d : Ck} {n : Nat} (h : Dn c n) (g : Dn d n) : Dn (eit c d) (n + 3) := ⟨⟨h.ok, g.ok⟩, by have := h.dp; have := g.dp; simp [Kk44.eit, dep]; omega⟩
theorem Dn.mono {c : Ck} {n m : Nat} (h : Dn c n) (hm : n ≤ m) : Dn c m := ⟨h.ok, Nat.le_trans h.dp hm⟩
theorem vAt_one {s : D} (h : GoodS s) : vAt s (.int 1) = true := by
  obtain ⟨ks, vs, kc, vc, h1, n, h2, _, h4⟩ := at_ok h one_ex
  have h3 := w_int 39 1 (.dk ks (List.map D.int vs)) (.dk kc (List.map D.int vc)) none
  rw [h2] at h3
  have hn : n = 1 := by cases h3; rfl
  rw [← h4, hn]; rfl
theorem un_any (g : List D → Bool) : ∀ l : List D, (∀ s ∈ l, GoodS s) → unH (hv (.at (.int 1))) g l = (tm g l).any id
  | [], _ => rfl
  | s :: r, h => by
    show (g (s :: r) || (vAt s (.int 1) && unH (hv (.at (.int 1))) g r)) = (g (s :: r) || (tm g r).any id)
    rw [vAt_one (h s List.mem_cons_self), un_any g r fun x hx => h x (List.mem_cons_of_mem _ hx)]
    rfl
theorem hv_onc (c : Ck) (l : List D) (h : ∀ s ∈ l, GoodS s) : hv (onc c) l = (tm (hv c) l).any id := un_any (hv c) l h
theorem tm_any_not {α : Type} (g : List α → Bool) (l : List α) : (!(tm (fun l => !g l) l).any id) = (tm g l).all id := by
  induction l with
  | nil => rfl
  | cons a l ih => rw [tm_cons, tm_cons, List.any_cons, List.all_cons, ← ih]; cases g (a :: l) <;> rfl
theorem hv_alw (c : Ck) (l : List D) (h : ∀ s ∈ l, GoodS s) : hv (alw c) l = (tm (hv c) l).all id := by
  show (!unH (hv (.at (.int 1))) (hv (.no c)) l) = _
  rw [un_any _ l h]
  exact tm_any_not (hv c) l
theorem hv_eit (c d : Ck) (l : List D) : hv (eit c d) l = (hv c l || hv d l) := by
  show (!(!hv c l && !hv d l)) = _
  cases hv c l <;> cases hv d l <;> rfl
theorem row_eq (g : List D → Bool) (run : List D) : ((List.range run.length).map fun k => D.bl (g (run.drop k))) = (tm g run).map D.bl := by
  rw [← tm_range0 g run, List.map_map]; rfl
/-! places that hold -/
def rg : List Bool → Nat → List Nat
  | [], _ => []
  | b :: r, k => if b then k :: rg r (k + 1) else rg r (k + 1)
theorem rg_filter : ∀ (L : List Bool) (k : Nat), (List.range' k L.length).filter (fun j => L.getD (j - k) false) = rg L k
  | [], k => rfl
  | b :: r, k => by
    have ih := rg_filter r (k + 1)
    have e : (List.range' (k + 1) r.length).filter (fun j => (b :: r).getD (j - k) false) = (List.range' (k + 1) r.length).filter (fun j => r.getD (j - (k + 1)) false) := by
      refine List.filter_congr fun j hj => ?_
      rw [List.mem_range'_1] at hj
      rw [show j - k = (j - (k + 1)) + 1 by omega]; rfl
    rw [List.length_cons, List.range'_succ, List.filter_cons, e, ih, Nat.sub_self]
    rfl
theorem rg_filter0 (L : List Bool) : (List.range L.length).filter (fun j => L.getD j false) = rg L 0 := by
  have := rg_filter L 0
  rw [List.range_eq_range']; exact this
theorem rg_head : ∀ (L : List Bool) (k : Nat), (rg L k).head? = (L.findIdx? id).map (k + ·)
  | [], k => rfl
  | b :: r, k => by
    unfold rg
    cases b with
    | true => simp [List.findIdx?_cons]
    | false =>
      have := rg_head r (k + 1)
      simp only [Bool.false_eq_true, if_false, this, List.findIdx?_cons, id]
      cases r.findIdx? id with
      | none => rfl
      | some j => simp; omega
theorem enum_lc (s0 s1 s2 s3 s4 : Option (D × Bool)) (w : Option Wd) : ∀ (L : List Bool) (k : Nat), lcL (setT [3, 4]) (tTru (eVar 4)) (eVar 3) (enumD (k : Int) (L.map D.bl)) [s0, s1, s2, s3, s4] w = some ((rg L k).map fun j : Nat => D.int j, w)
  | [], k => rfl
  | b :: L, k => by
    have ih := enum_lc s0 s1 s2 s3 s4 w L (k + 1)
    have e : ((k + 1 : Nat) : Int) = (k : Int) + 1 := by omega
    rw [e] at ih
    rw [List.map_cons, enumD_cons, lcL_cons]
    unfold rg
    cases b <;> simp -implicitDefEqProofs [ih]
theorem fineI (l : List Nat) : fine 64 (.lst (l.map fun j : Nat => D.int j)) = true := by
  show fine (63 + 1) _ = true
  rw [fine_lst]
  intro d hd
  obtain ⟨j, _, rfl⟩ := List.mem_map.mp hd
  exact fine_int
def lastD (l : List Nat) : D := match l.getLast? with
  | none => .non
  | some j => .int (j : Nat)
def headD (l : List Nat) : D := match l.head? with
  | none => .non
  | some j => .int (j : Nat)
theorem fine_last {n : Nat} {l : List Nat} : fine n (lastD l) = true := by
  unfold lastD; cases l.getLast? with
  | none => exact fine_non
  | some j => exact fine_int
theorem fine_head {n : Nat} {l : List Nat} : fine n (headD l) = true := by
  unfold headD; cases l.head? with
  | none => exact fine_non
  | some j => exact fine_int
theorem emp_app {α : Type} {l : List α} {a : α} : (l ++ [a]).isEmpty = false := by cases l <;> rfl
theorem la_ok {c : Ck} {n : Nat} {run : List D} (hc : Dn c n) (hn : n ≤ 40) (hr : Rn run) (w) : f_last_true [.tup run, enc c] w = some ((lastD (rg (tm (hv c) run) 0), .fz), w) := by
  have h := fun w => holdsD hc hn hr w
  have he := fun s0 s1 s2 s3 s4 w => enum_lc s0 s1 s2 s3 s4 w (tm (hv c) run) 0
  simp only [Int.natCast_zero] at he
  have hl : (enumD 0 ((tm (hv c) run).map D.bl)).length ≤ lim := le_lim (by rw [enum_len]; simp; have := hr.le; omega)
  have hne := dNe_lnil (fineI (rg (tm (hv c) run) 0))
  unfold lastD
  generalize (tm (hv c) run).map D.bl = A at h he hl
  generalize rg (tm (hv c) run) 0 = R at hne he ⊢
  rcases List.eq_nil_or_concat R with e | ⟨init, j, e⟩
  · subst e
    simp -implicitDefEqProofs at hne he
    simp -implicitDefEqProofs [f_last_true, b_last_true, h, lcK_q hl, he, hne]
  · rw [List.concat_eq_append] at e
    subst e
    rw [List.map_append, List.map_cons, List.map_nil] at hne
    simp only [List.map_append, List.map_cons, List.map_nil] at he
    rw [emp_app] at hne
    simp -implicitDefEqProofs at hne
    simp -implicitDefEqProofs [f_last_true, b_last_true, h, lcK_q hl, he, hne]
theorem idx_f : ∀ L : List Bool, (L.map D.bl).findIdx? (fun z => eqF z (.bl false)) = (L.map not).findIdx? id
  | [] => rfl
  | b :: L => by
    rw [List.map_cons, List.map_cons, List.findIdx?_cons, List.findIdx?_cons, idx_f L]
    cases b <;> rfl
theorem ff_ok {c : Ck} {n : Nat} {run : List D} (hc : Dn c n) (hn : n ≤ 40) (hr : Rn run) (w) : f_first_false [.tup run, enc c] w = some ((headD (rg ((tm (hv c) run).map not) 0), .fz), w) := by
  have h := fun w => holdsD hc hn hr w
  have hi := dInG_lst (neg := false) (x := .bl false) (ys := (tm (hv c) run).map D.bl) rfl (all_flat _)
  rw [any_f] at hi
  have hd : ∀ j, ((tm (hv c) run).map not).findIdx? id = some j → dIdx (.lst ((tm (hv c) run).map D.bl)) (.bl false) = some (.int (j : Nat), .fz) := fun j e => by
    show (if flatD (.bl false) = true ∧ ((tm (hv c) run).map D.bl).all flatD = true then _ else none) = _
    rw [if_pos ⟨rfl, all_flat _⟩, idx_f, e]; rfl
  have hall : ((tm (hv c) run).all id) = (((tm (hv c) run).map not).findIdx? id).isNone := by
    generalize tm (hv c) run = L
    induction L with
    | nil => rfl
    | cons b L ih =>
      rw [List.all_cons, List.map_cons, List.findIdx?_cons, ih]
      cases b
      · rfl
      · show _ = (Option.map _ _).isNone
        cases (L.map not).findIdx? id <;> rfl
  unfold headD
  rw [rg_head]
  generalize (tm (hv c) run).map D.bl = A at h hi hd
  cases e : ((tm (hv c) run).map not).findIdx? id with
  | none =>
    rw [e] at hall
    rw [hall] at hi
    simp -implicitDefEqProofs at hi
    simp -implicitDefEqProofs [f_first_false, b_first_false, h, hi]
  | some j =>
    rw [e] at hall
    rw [hall] at hi
    have hd := hd j e
    simp -implicitDefEqProofs at hi hd
    simp -implicitDefEqProofs [f_first_false, b_first_false, h, hi, hd]
theorem atI_bl (L : List Bool) (j : Nat) (h : j < L.length) : atI (L.map D.bl) (j : Int) = some (.bl (L.getD j false)) := by
  rw [atI_n, List.getElem?_map]
  simp [h]
end Kk44

set_option Elab.async false
set_option linter.all false
set_option maxRecDepth 100000
set_option maxHeartbeats 4000000
namespace Kk44
open PySem PySem.Spec PyProof.Rows L2 Dl
def bT1 : SB := (sFrz [1] (sUnp (setT [12, 13, 14]) (eTup (aCons (eFz (eCall f__law_run_of (aCons (eFz (eVar 1)) aNil))) (aCons (eFz (eCall (f__law_check 40) (aCons (eFz (eVar 1)) (aCons (eFz (eC (.int 3))) aNil)))) (aCons (eFz (eCall (f__law_check 40) (aCons (eFz (eVar 1)) (aCons (eFz (eC (.int 1))) aNil)))) aNil))))))
def bT2 : SB := (sFrz [8, 12, 13] (sSet 3 (eLC [8] (setN 8) (iRange (aCons (eA dLen (aCons (eVar 12) aNil)) aNil)) tYesD (eCall (f__law_holds 40) (aCons (eFz (eVar 12)) (aCons (eFz (eVar 8)) (aCons (eFz (eVar 13)) aNil)))))))
def bT3 : SB := (sFrz [8, 12, 14] (sSet 4 (eLC [8] (setN 8) (iRange (aCons (eA dLen (aCons (eVar 12) aNil)) aNil)) tYesD (eCall (f__law_holds 40) (aCons (eFz (eVar 12)) (aCons (eFz (eVar 8)) (aCons (eFz (eVar 14)) aNil)))))))
def bT4 : SB := (sFrz [12, 13] (sIf ((tOrr (tVal (eOp dNe (eCall (f_holds_along 40) (aCons (eFz (eVar 12)) (aCons (eFz (eVar 13)) aNil))) (eVar 3))) (tNo (tTru (eCall f__law_is_bit (aCons (eFz (eCall f_check_holds (aCons (eFz (eVar 12)) (aCons (eFz (eVar 13)) aNil)))) (aCons (eFz (eOp dIx (eVar 3) (eC (.int 0)))) aNil))))))) (sRet (eC (.bl false))) (sNil)))
def bT5 : SB := (sFrz [12, 13] (sIf (tVal (eOp dNe (eLC [15] (setN 15) (iSeq (eCall (f_holds_along 40) (aCons (eFz (eVar 12)) (aCons (eFz (eVar 13)) aNil)))) (tNo (tTru (eA dIsi (aCons (eVar 15) (aCons (eC (.ty "bool")) aNil))))) (eVar 15)) (eLst aNil))) (sRet (eC (.bl false))) (sNil)))
def bT6 : SB := (sFrz [8, 12, 13] (sIf ((tOrr (tVal (eOp dNe (eCall f_first_false (aCons (eFz (eVar 12)) (aCons (eFz (eVar 13)) aNil))) (eOp dIx (eOp dAdd (eLC [8] (setN 8) (iRange (aCons (eA dLen (aCons (eVar 12) aNil)) aNil)) (tNo (tTru (eOp dIx (eVar 3) (eVar 8)))) (eVar 8)) (eLst (aCons (eFz (eC .non)) aNil))) (eC (.int 0))))) (tVal (eOp dNe (eCall f_last_true (aCons (eFz (eVar 12)) (aCons (eFz (eVar 13)) aNil))) (eOp dIx (eOp dAdd (eLst (aCons (eFz (eC .non)) aNil)) (eLC [8] (setN 8) (iRange (aCons (eA dLen (aCons (eVar 12) aNil)) aNil)) (tTru (eOp dIx (eVar 3) (eVar 8))) (eVar 8))) (eUn dNeg (eC (.int 1)))))))) (sRet (eC (.bl false))) (sNil)))
def bT7 : SB := (sFrz [13] (sIf (tVal (eOp dNe (eCall (f_check_size 40) (aCons (eFz (eVar 13)) aNil)) (eCall (f__law_size 40) (aCons (eFz (eVar 13)) aNil)))) (sRet (eC (.bl false))) (sNil)))
def bT8 : SB := (sFrz [13] (sSet 5 (eLst (aCons (eFz (eTup (aCons (eFz (eCall f_always (aCons (eFz (eVar 13)) aNil))) (aCons (eFz (eLC [8] (setN 8) (iRange (aCons (eA dLen (aCons (eVar 12) aNil)) aNil)) tYesD (eOp (dInG true) (eC (.bl false)) (eSl dSl (eVar 3) (oSome (eVar 8)) oNone)))) aNil)))) (aCons (eFz (eTup (aCons (eFz (eCall f_once (aCons (eFz (eVar 13)) aNil))) (aCons (eFz (eLC [8] (setN 8) (iRange (aCons (eA dLen (aCons (eVar 12) aNil)) aNil)) tYesD (eOp (dInG false) (eC (.bl true)) (eSl dSl (eVar 3) (oSome (eVar 8)) oNone)))) aNil)))) aNil)))))
def bT9 : SB := (sFrz [13, 14] (sFor (setT [7, 6]) (iSeq (eFz (eOp dAdd (eVar 5) (eLst (aCons (eFz (eTup (aCons (eFz (eCall f_either (aCons (eFz (eVar 13)) (aCons (eFz (eVar 14)) aNil)))) (aCons (eFz (eLC [8] (setN 8) (iRange (aCons (eA dLen (aCons (eVar 12) aNil)) aNil)) tYesD ((eOr (eOp dIx (eVar 3) (eVar 8)) (eOp dIx (eVar 4) (eVar 8)))))) aNil)))) aNil))))) (sFrz [7, 12] (sIf ((tOrr (tNo (tTru (eCall (f__law_is_check 40) (aCons (eFz (eVar 7)) aNil)))) (tVal (eOp dNe (eCall (f_holds_along 40) (aCons (eFz (eVar 12)) (aCons (eFz (eVar 7)) aNil))) (eVar 6))))) (sRet (eC (.bl false))) (sNil)))))
def bT10 : SB := (sSet 6 (eLC [8] (setN 8) (iRange (aCons (eA dLen (aCons (eVar 12) aNil)) aNil)) tYesD (eOp dEq (eLC [16] (setN 16) (iRange (aCons (eVar 8) (aCons (eA dLen (aCons (eVar 12) aNil)) aNil))) ((tAn (tTru (eOp dIx (eVar 3) (eVar 16))) (tVal (eOp (dInG true) (eC (.bl true)) (eSl dSl (eVar 4) (oSome (eVar 16)) oNone))))) (eVar 16)) (eLst aNil))))
def bT11 : SB := (sFrz [13, 14] (sSet 7 (eCall f_leads_to (aCons (eFz (eVar 13)) (aCons (eFz (eVar 14)) aNil)))))
def bT12 : SB := (sFrz [7, 12] (sIf ((tOrr (tNo (tTru (eCall (f__law_is_check 40) (aCons (eFz (eVar 7)) aNil)))) (tVal (eOp dNe (eCall (f_holds_along 40) (aCons (eFz (eVar 12)) (aCons (eFz (eVar 7)) aNil))) (eVar 6))))) (sRet (eC (.bl false))) (sNil)))
def bT13 : SB := (sFrz [13, 14] (sIf ((tOrr (tVal (eOp dNe (eCall f_always (aCons (eFz (eVar 13)) aNil)) (eTup (aCons (eFz (eC (.str "not"))) (aCons (eFz (eTup (aCons (eFz (eC (.str "until"))) (aCons (eFz (eTup (aCons (eFz (eC (.str "at"))) (aCons (eFz (eC (.int 1))) aNil)))) (aCons (eFz (eTup (aCons (eFz (eC (.str "not"))) (aCons (eFz (eVar 13)) aNil)))) aNil))))) aNil))))) (tOrr (tVal (eOp dNe (eCall f_once (aCons (eFz (eVar 13)) aNil)) (eTup (aCons (eFz (eC (.str "until"))) (aCons (eFz (eTup (aCons (eFz (eC (.str "at"))) (aCons (eFz (eC (.int 1))) aNil)))) (aCons (eFz (eVar 13)) aNil)))))) (tVal (eOp dNe (eCall f_either (aCons (eFz (eVar 13)) (aCons (eFz (eVar 14)) aNil))) (eTup (aCons (eFz (eC (.str "not"))) (aCons (eFz (eTup (aCons (eFz (eC (.str "and"))) (aCons (eFz (eTup (aCons (eFz (eC (.str "not"))) (aCons (eFz (eVar 13)) aNil)))) (aCons (eFz (eTup (aCons (eFz (eC (.str "not"))) (aCons (eFz (eVar 14)) aNil)))) aNil))))) aNil)))))))) (sRet (eC (.bl false))) (sNil)))
def bT14 : SB := (sFrz [13, 14] (sIf (tVal (eOp dNe (eCall f_leads_to (aCons (eFz (eVar 13)) (aCons (eFz (eVar 14)) aNil))) (eCall f_always (aCons (eFz (eCall f_either (aCons (eFz (eTup (aCons (eFz (eC (.str "not"))) (aCons (eFz (eVar 13)) aNil)))) (aCons (eFz (eCall f_once (aCons (eFz (eVar 14)) aNil))) aNil)))) aNil)))) (sRet (eC (.bl false))) (sNil)))
def bT15 : SB := (sFrz [1] (sSet 8 (eCall f__law_next (aCons (eFz (eVar 1)) (aCons (eFz (eA dLen (aCons (eVar 13) aNil))) aNil)))))
def bT16 : SB := (sFrz [13] (sSet 9 (eLst (aCons (eFz (eVar 13)) (aCons (eFz (eA dList (aCons (eVar 13) aNil))) (aCons (eFz (eC .non)) (aCons (eFz (eTup aNil)) (aCons (eFz (eSl dSl (eVar 13) oNone (oSome (eC (.int 1))))) (aCons (eFz (eOp dAdd (eVar 13) (eTup (aCons (eFz (eTup (aCons (eFz (eC (.str "at"))) (aCons (eFz (eC (.int 1))) aNil)))) aNil)))) (aCons (eFz (eTup (aCons (eFz (eC (.str "at"))) aNil))) (aCons (eFz (eC (.int 3))) (aCons (eFz (eC (.str "at"))) (aCons (eFz (eTup (aCons (eFz (eC (.str "next"))) (aCons (eFz (eVar 13)) (aCons (eFz (eVar 13)) aNil))))) (aCons (eFz (eTup (aCons (eFz (eC (.str "until"))) (aCons (eFz (eVar 13)) aNil)))) (aCons (eFz (eTup (aCons (eFz (eC (.str "at"))) (aCons (eFz (eOp dIx (eVar 13) (eC (.int 1)))) aNil)))) aNil)))))))))))))))
def bT17 : SB := (sFor (setN 10) (iSeq (eFz (eTup (aCons (eFz (eC (.str "at"))) (aCons (eFz (eC (.str "until"))) (aCons (eFz (eC (.str "or"))) (aCons (eFz (eC (.int 3))) (aCons (eFz (eC .non)) (aCons (eFz (eC (.bl true))) (aCons (eFz (eTup (aCons (eFz (eC (.str "at"))) (aCons (eFz (eC (.int 1))) aNil)))) (aCons (eFz (eTup (aCons (eFz (eC (.str "at"))) (aCons (eFz (eTup (aCons (eFz (eC (.str "var"))) (aCons (eFz (eC (.str "X"))) aNil)))) aNil)))) (aCons (eFz (eTup (aCons (eFz (eC (.str "at"))) (aCons (eFz (eC (.bl true))) aNil)))) (aCons (eFz (eTup (aCons (eFz (eC (.str "at"))) (aCons (eFz (eTup (aCons (eFz (eC (.str "cell"))) aNil))) aNil)))) (aCons (eFz (eTup aNil)) (aCons (eFz (eLst (aCons (eFz (eC (.str "at"))) (aCons (eFz (eC (.int 1))) aNil)))) (aCons (eFz (eTup (aCons (eFz (eC (.str "at"))) (aCons (eFz (eTup (aCons (eFz (eC (.str "mul"))) (aCons (eFz (eC (.int 2))) (aCons (eFz (eTup (aCons (eFz (eC (.str "add"))) (aCons (eFz (eC (.int 1))) (aCons (eFz (eC (.int 3))) aNil))))) aNil))))) aNil)))) aNil)))))))))))))))) (sApp 9 (eOp dAdd (eOp dAdd (eSl dSl (eVar 13) oNone (oSome (eVar 8))) (eTup (aCons (eFz (eVar 10)) aNil))) (eSl dSl (eVar 13) (oSome (eOp dAdd (eVar 8) (eC (.int 1)))) oNone))))
def bT18 : SB := (sFrz [9] (sFor (setN 11) (iSeq (eFz (eVar 9))) (sIf (tNo (tTru (eCall f__law_is_bit (aCons (eFz (eCall (f_is_check 40) (aCons (eFz (eVar 11)) aNil))) (aCons (eFz (eCall (f__law_is_check 40) (aCons (eFz (eVar 11)) aNil))) aNil))))) (sRet (eC (.bl false))) (sNil))))
abbrev bT : SB := (sSeq bT1 (sSeq bT2 (sSeq bT3 (sSeq bT4 (sSeq bT5 (sSeq bT6 (sSeq bT7 (sSeq bT8 (sSeq bT9 (sSeq bT10 (sSeq bT11 (sSeq bT12 (sSeq bT13 (sSeq bT14 (sSeq bT15 (sSeq bT16 (sSeq bT17 bT18)))))))))))))))))
abbrev O := Option (D × Bool)
abbrev EV (run : List D) (c d : Ck) (s0 s2 a3 a4 a5 a6 a7 a8 a9 a10 a11 s15 s16 : O) : En := [s0, some (.w, false), s2, a3, a4, a5, a6, a7, a8, a9, a10, a11, some (.tup run, false), some (enc c, false), some (enc d, false), s15, s16]
def toldD (c : Ck) (run : List D) : D := .lst ((tm (hv c) run).map D.bl)
section
variable {s0 s2 s3 s4 s5 s6 s7 s8 s9 s10 s11 s15 s16 : O} {c d : Ck} {run : List D} {w : Option Wd}
theorem t1_ok {s12 s13 s14 : O} (W : Wd) (hW : OkW W) : ∃ run c d W', bT1 [s0, some (.w, false), s2, s3, s4, s5, s6, s7, s8, s9, s10, s11, s12, s13, s14, s15, s16] (some W) = some (.nx (EV run c d s0 s2 s3 s4 s5 s6 s7 s8 s9 s10 s11 s15 s16) (some W')) ∧ OkW W' ∧ Rn run ∧ Dn c 4 ∧ Dn d 4 := by
  obtain ⟨run, W1, a1, a2, a3, a4, a5⟩ := run_ok hW
  obtain ⟨c, W2, b1, b2, b3, b4⟩ := check_ok 39 3 W1 a2 (by decide)
  obtain ⟨d, W3, c1, c2, c3, c4⟩ := check_ok 39 1 W2 b2 (by decide)
  refine ⟨run, c, d, W3, ?_, c2, ⟨fun s hs => (a5 s hs).1, a3, by omega⟩, ⟨b3, by omega⟩, ⟨c3, by omega⟩⟩
  simp -implicitDefEqProofs [bT1, a1, b1, c1]
theorem q_holds {s3 s4 : O} {i : Nat} (hc : Dn c 4) (hr : Rn run) (env : En) (fe : EF) (h : ∀ k, k < run.length → ∃ e1, setN 8 (.int (k : Nat)) env = some e1 ∧ fe e1 w = f__law_holds 40 [.tup run, .int (k : Nat), enc c] w) : lcL (setN 8) tYesD fe (rangeD 0 run.length) env w = some ((tm (hv c) run).map D.bl, w) := by
  have H : ∀ k, k < run.length → ∀ w, f__law_holds 40 [.tup run, .int (k : Nat), enc c] w = some ((.bl (hv c (run.drop k)), .fz), w) := fun k hk w => lh_ok run hr.gs (by have := hr.le; omega) c 40 (by have := hc.dp; omega) hc.ok k hk w
  rw [range_map, lcL_all _ (fun k => D.bl (hv c (run.drop k))) (List.range run.length) fun k hk => ?_, row_eq]
  obtain ⟨e1, h1, h2⟩ := h k (List.mem_range.mp hk)
  exact ⟨e1, h1, by rw [eFz_q, h2, H k (List.mem_range.mp hk)]; rfl⟩
theorem hr1 (hr : Rn run) : ∀ w, rngK ([(.int (run.length : Int), .fz)], w) = some (rangeD 0 run.length, w) := fun w => rngK_1 (by have := hr.le; omega)
theorem l1 (hr : Rn run) : (rangeD 0 run.length).length ≤ lim := le_lim (by rw [range_len]; have := hr.le; omega)
theorem t2_ok (hc : Dn c 4) (hr : Rn run) : ∃ t8, bT2 (EV run c d s0 s2 s3 s4 s5 s6 s7 s8 s9 s10 s11 s15 s16) w = some (.nx (EV run c d s0 s2 (some (toldD c run, true)) s4 s5 s6 s7 t8 s9 s10 s11 s15 s16) w) := by
  have q : ∀ s8, lcL (setN 8) tYesD (eCall (f__law_holds 40) (aCons (eFz (eVar 12)) (aCons (eFz (eVar 8)) (aCons (eFz (eVar 13)) aNil)))) (rangeD 0 run.length) (EV run c d s0 s2 s3 s4 s5 s6 s7 s8 s9 s10 s11 s15 s16) w = some ((tm (hv c) run).map D.bl, w) := fun s8 => q_holds (s3 := s3) (s4 := s4) (i := 0) hc hr _ _ fun k hk => ⟨_, rfl, by simp -implicitDefEqProofs⟩
  have h1 := hr1 hr
  have h2 := l1 hr
  simp only [EV] at q
  unfold bT2 toldD
  rcases s8 with _ | ⟨d8, b8⟩
  · exact ⟨none, by simp -implicitDefEqProofs [h1, lcK_q h2, q]⟩
  · exact ⟨some (d8, false), by simp -implicitDefEqProofs [h1, lcK_q h2, q]⟩
theorem t3_ok (hc : Dn d 4) (hr : Rn run) : ∃ t8, bT3 (EV run c d s0 s2 s3 s4 s5 s6 s7 s8 s9 s10 s11 s15 s16) w = some (.nx (EV run c d s0 s2 s3 (some (toldD d run, true)) s5 s6 s7 t8 s9 s10 s11 s15 s16) w) := by
  have q : ∀ s8, lcL (setN 8) tYesD (eCall (f__law_holds 40) (aCons (eFz (eVar 12)) (aCons (eFz (eVar 8)) (aCons (eFz (eVar 14)) aNil)))) (rangeD 0 run.length) (EV run c d s0 s2 s3 s4 s5 s6 s7 s8 s9 s10 s11 s15 s16) w = some ((tm (hv d) run).map D.bl, w) := fun s8 => q_holds (s3 := s3) (s4 := s4) (i := 0) hc hr _ _ fun k hk => ⟨_, rfl, by simp -implicitDefEqProofs⟩
  have h1 := hr1 hr
  have h2 := l1 hr
  simp only [EV] at q
  unfold bT3 toldD
  rcases s8 with _ | ⟨d8, b8⟩
  · exact ⟨none, by simp -implicitDefEqProofs [h1, lcK_q h2, q]⟩
  · exact ⟨some (d8, false), by simp -implicitDefEqProofs [h1, lcK_q h2, q]⟩
theorem fine_bls (L : List Bool) : fine 64 (.lst (L.map D.bl)) = true := by
  show fine (63 + 1) _ = true
  rw [fine_lst]
  intro x hx
  obtain ⟨b, _, rfl⟩ := List.mem_map.mp hx
  exact fine_bl
theorem t4_ok (hc : Dn c 4) (hr : Rn run) : bT4 (EV run c d s0 s2 (some (toldD c run, true)) s4 s5 s6 s7 s8 s9 s10 s11 s15 s16) w = some (.nx (EV run c d s0 s2 (some (toldD c run, true)) s4 s5 s6 s7 s8 s9 s10 s11 s15 s16) w) := by
  have h1 := fun w => holdsD hc (by decide) hr w
  have h2 := fun w => chold_ok hc (by decide) hr w
  have h3 := head_tm (hv c) D.bl hr.ps
  have h4 := dNe_self (fine_bls (tm (hv c) run))
  have h5 := fun w => isbit_ok (hv c run) (hv c run) w
  simp only [dNe] at h4
  unfold bT4 toldD
  generalize (tm (hv c) run).map D.bl = A at h1 h3 h4 ⊢
  simp -implicitDefEqProofs [h1, h2, h3, h4, h5]
theorem t5_ok (hc : Dn c 4) (hr : Rn run) : bT5 (EV run c d s0 s2 s3 s4 s5 s6 s7 s8 s9 s10 s11 s15 s16) w = some (.nx (EV run c d s0 s2 s3 s4 s5 s6 s7 s8 s9 s10 s11 s15 s16) w) := by
  have h1 := fun w => holdsD hc (by decide) hr w
  have q : lcL (setN 15) (tNo (tTru (eA dIsi (aCons (eVar 15) (aCons (eC (.ty "bool")) aNil))))) (eVar 15) ((tm (hv c) run).map D.bl) (EV run c d s0 s2 s3 s4 s5 s6 s7 s8 s9 s10 s11 none s16) w = some ([], w) := by
    rw [lcL_gen D.bl (fun _ => false) (fun b => D.bl b) (tm (hv c) run) fun x _ => ⟨_, rfl, by simp -implicitDefEqProofs, fun h => nomatch h⟩]
    simp
  have hl : ((tm (hv c) run).map D.bl).length ≤ lim := le_lim (by simp; have := hr.le; omega)
  have h4 := dNe_lnil (show fine 64 (.lst []) = true from rfl)
  simp -implicitDefEqProofs at h4
  simp only [EV] at q
  unfold bT5
  generalize (tm (hv c) run).map D.bl = A at h1 q hl
  simp -implicitDefEqProofs [h1, q, h4, lcK_q hl]
theorem lst_head (R : List Nat) : atI (R.map (fun j : Nat => D.int j) ++ [D.non]) 0 = some (headD R) := by
  cases R with
  | nil => rfl
  | cons j r => simp [headD]
theorem lst_last (R : List Nat) : atI (D.non :: R.map (fun j : Nat => D.int j)) (-1) = some (lastD R) := by
  rcases List.eq_nil_or_concat R with e | ⟨init, j, e⟩
  · subst e; rfl
  · rw [List.concat_eq_append] at e
    subst e
    rw [List.map_append, List.map_cons, List.map_nil, ← List.cons_append, atI_end]
    simp [lastD]
theorem t6_ok (hc : Dn c 4) (hr : Rn run) : ∃ t8, bT6 (EV run c d s0 s2 (some (toldD c run, true)) s4 s5 s6 s7 s8 s9 s10 s11 s15 s16) w = some (.nx (EV run c d s0 s2 (some (toldD c run, true)) s4 s5 s6 s7 t8 s9 s10 s11 s15 s16) w) := by
  have h1 := fun w => ff_ok hc (by decide) hr w
  have h2 := fun w => la_ok hc (by decide) hr w
  have hlen : (tm (hv c) run).length = run.length := tm_length _ _
  have h3 := hr1 hr
  have h4 := l1 hr
  have q1 : ∀ s8, lcL (setN 8) (tNo (tTru (eOp dIx (eVar 3) (eVar 8)))) (eVar 8) (rangeD 0 run.length) (EV run c d s0 s2 (some (.lst ((tm (hv c) run).map D.bl), true)) s4 s5 s6 s7 s8 s9 s10 s11 s15 s16) w = some ((rg ((tm (hv c) run).map not) 0).map (fun j : Nat => D.int j), w) := fun s8 => by
    have e : rg ((tm (hv c) run).map not) 0 = (List.range run.length).filter fun k => !((tm (hv c) run).getD k false) := by
      rw [← rg_filter0, List.length_map, hlen]
      refine List.filter_congr fun k hk => ?_
      have hk : k < (tm (hv c) run).length := by rw [hlen]; exact List.mem_range.mp hk
      simp only [List.getD, List.getElem?_map, List.getElem?_eq_getElem hk]; rfl
    rw [e, range_map, lcL_gen _ (fun k => !((tm (hv c) run).getD k false)) (fun k => D.int (k : Nat)) _ fun k hk => ⟨_, rfl, by
      have := atI_bl (tm (hv c) run) k (by rw [hlen]; exact List.mem_range.mp hk)
      generalize (tm (hv c) run).map D.bl = A at this ⊢
      simp -implicitDefEqProofs [this], fun _ => by simp -implicitDefEqProofs⟩]
  have q2 : ∀ s8, lcL (setN 8) (tTru (eOp dIx (eVar 3) (eVar 8))) (eVar 8) (rangeD 0 run.length) (EV run c d s0 s2 (some (.lst ((tm (hv c) run).map D.bl), true)) s4 s5 s6 s7 s8 s9 s10 s11 s15 s16) w = some ((rg (tm (hv c) run) 0).map (fun j : Nat => D.int j), w) := fun s8 => by
    have e : rg (tm (hv c) run) 0 = (List.range run.length).filter fun k => ((tm (hv c) run).getD k false) := by
      rw [← rg_filter0, hlen]
    rw [e, range_map, lcL_gen _ (fun k => ((tm (hv c) run).getD k false)) (fun k => D.int (k : Nat)) _ fun k hk => ⟨_, rfl, by
      have := atI_bl (tm (hv c) run) k (by rw [hlen]; exact List.mem_range.mp hk)
      generalize (tm (hv c) run).map D.bl = A at this ⊢
      simp -implicitDefEqProofs [this], fun _ => by simp -implicitDefEqProofs⟩]
  have hR : ∀ L : List Bool, (rg L 0).length ≤ L.length := fun L => by rw [← rg_filter0]; exact Nat.le_trans (List.length_filter_le ..) (by simp)
  have p1 : els2 dAddI (els2 dCatL (els2 dCatT dCatS)) (.lst ((rg ((tm (hv c) run).map not) 0).map (fun j : Nat => D.int j))) (.lst [.non]) = _ := dAdd_ll (le_lim (by have h9 := hR ((tm (hv c) run).map not); have := hr.le; rw [List.length_map, hlen] at h9; rw [List.length_map]; show _ + 1 ≤ _; omega))
  have p2 : els2 dAddI (els2 dCatL (els2 dCatT dCatS)) (.lst [.non]) (.lst ((rg (tm (hv c) run) 0).map (fun j : Nat => D.int j))) = _ := dAdd_ll (le_lim (by have h9 := hR (tm (hv c) run); have := hr.le; rw [hlen] at h9; rw [List.length_map]; show 1 + _ ≤ _; omega))
  have i1 := lst_head (rg ((tm (hv c) run).map not) 0)
  have i2 := lst_last (rg (tm (hv c) run) 0)
  have e1 := dNe_self (d := headD (rg ((tm (hv c) run).map not) 0)) fine_head
  have e2 := dNe_self (d := lastD (rg (tm (hv c) run) 0)) fine_last
  simp only [dNe] at e1 e2
  simp only [EV] at q1 q2
  unfold bT6 toldD
  generalize rg ((tm (hv c) run).map not) 0 = R1 at *
  generalize rg (tm (hv c) run) 0 = R2 at *
  generalize (tm (hv c) run).map D.bl = A at *
  generalize headD R1 = v1 at *
  generalize lastD R2 = v2 at *
  simp -implicitDefEqProofs at p2
  rcases s8 with _ | ⟨d8, b8⟩
  · exact ⟨none, by simp -implicitDefEqProofs [h1, h2, h3, lcK_q h4, q1, q2, p1, p2, i1, i2, e1, e2]⟩
  · exact ⟨some (d8, false), by simp -implicitDefEqProofs [h1, h2, h3, lcK_q h4, q1, q2, p1, p2, i1, i2, e1, e2]⟩
theorem t7_ok (hc : Dn c 4) : bT7 (EV run c d s0 s2 s3 s4 s5 s6 s7 s8 s9 s10 s11 s15 s16) w = some (.nx (EV run c d s0 s2 s3 s4 s5 s6 s7 s8 s9 s10 s11 s15 s16) w) := by
  have h := fun w => size_ok c 40 (by have := hc.dp; omega) w
  unfold bT7
  simp -implicitDefEqProofs [h]
end
end Kk44

set_option Elab.async false
set_option linter.all false
set_option maxRecDepth 100000
set_option maxHeartbeats 4000000
namespace Kk44
open PySem PySem.Spec PyProof.Rows L2 Dl
section
variable {s0 s2 s3 s4 s5 s6 s7 s8 s9 s10 s11 s15 s16 : O} {c d : Ck} {run : List D} {w : Option Wd}
theorem drop_gs (hr : Rn run) (k : Nat) : ∀ s ∈ run.drop k, GoodS s := fun s hs => hr.gs s (List.mem_of_mem_drop hs)
theorem cut_told (c : Ck) (run : List D) (k : Nat) : cutD ((tm (hv c) run).map D.bl) (some (k : Int)) none = (tm (hv c) (run.drop k)).map D.bl := by rw [cut_drop, ← List.map_drop, tm_drop]
theorem q_alw (hr : Rn run) (f3 : Bool) (s8 : O) : lcL (setN 8) tYesD (eOp (dInG true) (eC (.bl false)) (eSl dSl (eVar 3) (oSome (eVar 8)) oNone)) (rangeD 0 run.length) (EV run c d s0 s2 (some (toldD c run, f3)) s4 s5 s6 s7 s8 s9 s10 s11 s15 s16) w = some ((tm (hv (alw c)) run).map D.bl, w) := by
  rw [range_map, lcL_all _ (fun k => D.bl (hv (alw c) (run.drop k))) (List.range run.length) fun k hk => ⟨_, rfl, ?_⟩, row_eq]
  have h := dInG_lst (neg := true) (x := .bl false) (ys := (tm (hv c) (run.drop k)).map D.bl) rfl (all_flat _)
  have e := cut_told c run k
  rw [any_f] at h
  rw [hv_alw c _ (drop_gs hr k)]
  unfold toldD
  generalize (tm (hv c) run).map D.bl = A at e ⊢
  generalize (tm (hv c) (run.drop k)).map D.bl = B at h e
  simp -implicitDefEqProofs at h
  cases f3 <;> simp -implicitDefEqProofs [e, h]
theorem q_onc (hr : Rn run) (f3 : Bool) (s8 : O) : lcL (setN 8) tYesD (eOp (dInG false) (eC (.bl true)) (eSl dSl (eVar 3) (oSome (eVar 8)) oNone)) (rangeD 0 run.length) (EV run c d s0 s2 (some (toldD c run, f3)) s4 s5 s6 s7 s8 s9 s10 s11 s15 s16) w = some ((tm (hv (onc c)) run).map D.bl, w) := by
  rw [range_map, lcL_all _ (fun k => D.bl (hv (onc c) (run.drop k))) (List.range run.length) fun k hk => ⟨_, rfl, ?_⟩, row_eq]
  have h := dInG_lst (neg := false) (x := .bl true) (ys := (tm (hv c) (run.drop k)).map D.bl) rfl (all_flat _)
  have e := cut_told c run k
  rw [any_t] at h
  rw [hv_onc c _ (drop_gs hr k)]
  unfold toldD
  generalize (tm (hv c) run).map D.bl = A at e ⊢
  generalize (tm (hv c) (run.drop k)).map D.bl = B at h e
  simp -implicitDefEqProofs at h
  cases f3 <;> simp -implicitDefEqProofs [e, h]
theorem q_eit (hr : Rn run) (f3 f4 : Bool) (s8 : O) : lcL (setN 8) tYesD (eOr (eOp dIx (eVar 3) (eVar 8)) (eOp dIx (eVar 4) (eVar 8))) (rangeD 0 run.length) (EV run c d s0 s2 (some (toldD c run, f3)) (some (toldD d run, f4)) s5 s6 s7 s8 s9 s10 s11 s15 s16) w = some ((tm (hv (eit c d)) run).map D.bl, w) := by
  rw [range_map, lcL_all _ (fun k => D.bl (hv (eit c d) (run.drop k))) (List.range run.length) fun k hk => ⟨_, rfl, ?_⟩, row_eq]
  have hk := List.mem_range.mp hk
  have h1 := tm_atI (hv c) D.bl run k hk
  have h2 := tm_atI (hv d) D.bl run k hk
  rw [hv_eit]
  unfold toldD
  generalize (tm (hv c) run).map D.bl = A at h1 ⊢
  generalize (tm (hv d) run).map D.bl = B at h2 ⊢
  cases hx : hv c (run.drop k) <;> rw [hx] at h1 <;> cases f3 <;> cases f4 <;> simp -implicitDefEqProofs [h1, h2]
def madeD (c : Ck) (run : List D) : D := .tup [enc c, toldD c run]
theorem t8_ok (hr : Rn run) : ∃ t8, bT8 (EV run c d s0 s2 (some (toldD c run, true)) s4 s5 s6 s7 s8 s9 s10 s11 s15 s16) w = some (.nx (EV run c d s0 s2 (some (toldD c run, true)) s4 (some (.lst [madeD (alw c) run, madeD (onc c) run], true)) s6 s7 t8 s9 s10 s11 s15 s16) w) := by
  have h1 := fun w => always_ok c w
  have h2 := fun w => once_ok c w
  have h3 := hr1 hr
  have h4 := l1 hr
  have q1 := fun s8 w => q_alw (c := c) (d := d) (s0 := s0) (s2 := s2) (s4 := s4) (s5 := s5) (s6 := s6) (s7 := s7) (s9 := s9) (s10 := s10) (s11 := s11) (s15 := s15) (s16 := s16) (w := w) hr true s8
  have q2 := fun s8 w => q_onc (c := c) (d := d) (s0 := s0) (s2 := s2) (s4 := s4) (s5 := s5) (s6 := s6) (s7 := s7) (s9 := s9) (s10 := s10) (s11 := s11) (s15 := s15) (s16 := s16) (w := w) hr true s8
  simp only [EV] at q1 q2
  unfold bT8 madeD
  unfold toldD at *
  exact ⟨s8, by simp -implicitDefEqProofs [h1, h2, h3, lcK_q h4, q1, q2]⟩
def bL9 : SB := (sFrz [7, 12] (sIf ((tOrr (tNo (tTru (eCall (f__law_is_check 40) (aCons (eFz (eVar 7)) aNil)))) (tVal (eOp dNe (eCall (f_holds_along 40) (aCons (eFz (eVar 12)) (aCons (eFz (eVar 7)) aNil))) (eVar 6))))) (sRet (eC (.bl false))) (sNil)))
theorem l9_ok {e : Ck} (he : Dn e 12) (hr : Rn run) (f6 f7 : Bool) : bL9 (EV run c d s0 s2 s3 s4 s5 (some (toldD e run, f6)) (some (enc e, f7)) s8 s9 s10 s11 s15 s16) w = some (.nx (EV run c d s0 s2 s3 s4 s5 (some (toldD e run, f6)) (some (enc e, false)) s8 s9 s10 s11 s15 s16) w) := by
  have h1 := fun w => lck_ok e 40 (by have := he.dp; omega) (by have := he.dp; omega) he.ok w
  have h2 := fun w => holdsD he (by decide) hr w
  have h4 := dNe_self (fine_bls (tm (hv e) run))
  simp only [dNe] at h4
  unfold bL9 toldD
  generalize (tm (hv e) run).map D.bl = A at h2 h4 ⊢
  cases f6 <;> simp -implicitDefEqProofs [h1, h2, h4]
theorem t9_ok (hr : Rn run) (hc : Dn c 4) (hd : Dn d 4) (f3 f4 : Bool) : ∃ t6 t7 t8, bT9 (EV run c d s0 s2 (some (toldD c run, f3)) (some (toldD d run, f4)) (some (.lst [madeD (alw c) run, madeD (onc c) run], true)) s6 s7 s8 s9 s10 s11 s15 s16) w = some (.nx (EV run c d s0 s2 (some (toldD c run, f3)) (some (toldD d run, f4)) (some (.lst [madeD (alw c) run, madeD (onc c) run], true)) t6 t7 t8 s9 s10 s11 s15 s16) w) := by
  have h1 := fun w => either_ok c d w
  have h3 := hr1 hr
  have h4 := l1 hr
  have q1 := fun s8 w => q_eit (c := c) (d := d) (s0 := s0) (s2 := s2) (s5 := (some (.lst [madeD (alw c) run, madeD (onc c) run], true))) (s6 := s6) (s7 := s7) (s9 := s9) (s10 := s10) (s11 := s11) (s15 := s15) (s16 := s16) (w := w) hr f3 f4 s8
  have p : els2 dAddI (els2 dCatL (els2 dCatT dCatS)) (.lst [madeD (alw c) run, madeD (onc c) run]) (.lst [madeD (eit c d) run]) = _ := dAdd_ll (le_lim (by simp))
  have b := fun (e : Ck) (he : Dn e 12) s6 s7 s8 w => l9_ok (c := c) (d := d) (s0 := s0) (s2 := s2) (s3 := (some (toldD c run, f3))) (s4 := (some (toldD d run, f4))) (s5 := (some (.lst [madeD (alw c) run, madeD (onc c) run], true))) (s8 := s8) (s9 := s9) (s10 := s10) (s11 := s11) (s15 := s15) (s16 := s16) (w := w) he hr s6 s7
  have b1 := b (alw c) (hc.alw.mono (by decide)) false false
  have b2 := b (onc c) (hc.onc.mono (by decide)) false false
  have b3 := b (eit c d) ((hc.eit hd).mono (by decide)) false false
  simp only [EV] at q1 b1 b2 b3
  simp -implicitDefEqProofs at p
  have e9 : bT9 = (sFrz [13, 14] (sFor (setT [7, 6]) (iSeq (eFz (eOp dAdd (eVar 5) (eLst (aCons (eFz (eTup (aCons (eFz (eCall f_either (aCons (eFz (eVar 13)) (aCons (eFz (eVar 14)) aNil)))) (aCons (eFz (eLC [8] (setN 8) (iRange (aCons (eA dLen (aCons (eVar 12) aNil)) aNil)) tYesD (eOr (eOp dIx (eVar 3) (eVar 8)) (eOp dIx (eVar 4) (eVar 8))))) aNil)))) aNil))))) bL9)) := rfl
  rw [e9]
  refine ⟨some (toldD (eit c d) run, false), some (enc (eit c d), false), s8, ?_⟩
  have hm : ∀ e : Ck, madeD e run = .tup [enc e, toldD e run] := fun _ => rfl
  have ht : (D.lst ((tm (hv (eit c d)) run).map D.bl)) = toldD (eit c d) run := rfl
  have hpair : D.tup [enc (eit c d), toldD (eit c d) run] = madeD (eit c d) run := rfl
  generalize hA : toldD c run = A at *
  generalize hB : toldD d run = B at *
  simp -implicitDefEqProofs only [sFrz_q, clr_nil, clr_cons, clr1_0, clr1_s, sFor_q, iSeq_q, eFz_q, eOp_q, eVar_s, eVar_0t, bnd_some, opK1_q, eLst_q, aCons_q, eTup_q, eCall_q, eVar_0f, fzP_fz, acK1_q, aNil_q, acK2_q, callK_q, allFz_cons, allFz_nil, cnd_true, List.map_cons, List.map_nil, h1, eLC_q, iRange_q, eA_q, eAK_q, dLen_tup, pairK_q, h3, lcK_q h4, wipeE_cons, wipeE_nil, List.set_cons_succ, List.set_cons_zero, q1, lcK2_q, fzP_ow, ht, eTupK_q, List.length_cons, List.length_nil, hpair, eLstK_q, opK2_q]
  simp -implicitDefEqProofs [p, hpair]
  clear b e9 p
  generalize D.lst [madeD (alw c) run, madeD (onc c) run] = S5 at *
  simp -implicitDefEqProofs [forL_cons, hm, b1, b2, b3]
theorem t10_ok (hr : Rn run) (hc : Dn c 4) (hd : Dn d 4) (f3 f4 : Bool) : bT10 (EV run c d s0 s2 (some (toldD c run, f3)) (some (toldD d run, f4)) s5 s6 s7 s8 s9 s10 s11 s15 s16) w = some (.nx (EV run c d s0 s2 (some (toldD c run, f3)) (some (toldD d run, f4)) s5 (some (toldD (lea c d) run, true)) s7 s8 s9 s10 s11 s15 s16) w) := by
  have h3 := hr1 hr
  have h4 := l1 hr
  have hr2 : ∀ (k : Nat), k < run.length → ∀ w, rngK ([(.int (k : Nat), .fz), (.int (run.length : Int), .fz)], w) = some (rangeD (k : Int) run.length, w) := fun k hk w => rngK_2 (by have := hr.le; omega)
  have l2 : ∀ k : Nat, (rangeD (k : Int) run.length).length ≤ lim := fun k => le_lim (by rw [range_len]; have := hr.le; omega)
  have q : ∀ (k : Nat), k < run.length → ∀ (s8 s16 : O) w, lcL (setN 16) ((tAn (tTru (eOp dIx (eVar 3) (eVar 16))) (tVal (eOp (dInG true) (eC (.bl true)) (eSl dSl (eVar 4) (oSome (eVar 16)) oNone))))) (eVar 16) (rangeD (k : Int) run.length) (EV run c d s0 s2 (some (toldD c run, f3)) (some (toldD d run, f4)) s5 s6 s7 s8 s9 s10 s11 s15 s16) w = some (((List.range' k (run.length - k)).filter fun j => hv c (run.drop j) && !hv (onc d) (run.drop j)).map (fun j : Nat => D.int j), w) := fun k hk s8 s16 w => by
    rw [range_map2, lcL_gen _ (fun j => hv c (run.drop j) && !hv (onc d) (run.drop j)) (fun j : Nat => D.int j) _ fun j hj => ⟨_, rfl, ?_, fun _ => by simp -implicitDefEqProofs⟩]
    rw [List.mem_range'_1] at hj
    have a1 := tm_atI (hv c) D.bl run j (by omega)
    have a2 := dInG_lst (neg := true) (x := .bl true) (ys := (tm (hv d) (run.drop j)).map D.bl) rfl (all_flat _)
    have a3 := cut_told d run j
    rw [any_t] at a2
    rw [hv_onc d _ (drop_gs hr j)]
    unfold toldD
    generalize (tm (hv c) run).map D.bl = A at a1 ⊢
    generalize (tm (hv d) run).map D.bl = B at a3 ⊢
    generalize (tm (hv d) (run.drop j)).map D.bl = C at a2 a3
    simp -implicitDefEqProofs at a2
    cases hx : hv c (run.drop j) <;> rw [hx] at a1 <;> cases f3 <;> cases f4 <;> simp -implicitDefEqProofs [a1, a2, a3]
  have q2 : ∀ (s8 : O) w, lcL (setN 8) tYesD (eOp dEq (eLC [16] (setN 16) (iRange (aCons (eVar 8) (aCons (eA dLen (aCons (eVar 12) aNil)) aNil))) ((tAn (tTru (eOp dIx (eVar 3) (eVar 16))) (tVal (eOp (dInG true) (eC (.bl true)) (eSl dSl (eVar 4) (oSome (eVar 16)) oNone))))) (eVar 16)) (eLst aNil)) (rangeD 0 run.length) (EV run c d s0 s2 (some (toldD c run, f3)) (some (toldD d run, f4)) s5 s6 s7 s8 s9 s10 s11 s15 s16) w = some ((tm (hv (lea c d)) run).map D.bl, w) := fun s8 w => by
    rw [range_map, lcL_all _ (fun k => D.bl (hv (lea c d) (run.drop k))) (List.range run.length) fun k hk => ⟨_, rfl, ?_⟩, row_eq]
    have hk := List.mem_range.mp hk
    have b1 := fun w s8 => q k hk s8 none w
    have b2 := hr2 k hk
    have b3 := l2 k
    have b4 := dEq_lnil (fineI ((List.range' k (run.length - k)).filter fun j => hv c (run.drop j) && !hv (onc d) (run.drop j)))
    have b5 : (((List.range' k (run.length - k)).filter fun j => hv c (run.drop j) && !hv (onc d) (run.drop j)).map (fun j : Nat => D.int j)).isEmpty = hv (lea c d) (run.drop k) := by
      have e1 := tm_range (fun l => hv (eit (.no c) (onc d)) l) (run.drop k) run k rfl
      rw [List.length_drop] at e1
      show _ = hv (alw (eit (.no c) (onc d))) (run.drop k)
      rw [hv_alw _ _ (drop_gs hr k), ← e1, List.isEmpty_map]
      generalize List.range' k (run.length - k) = R
      induction R with
      | nil => rfl
      | cons j R ih =>
        rw [List.map_cons, List.all_cons, ← ih, List.filter_cons, hv_eit]
        show _ = (((!hv c (run.drop j)) || hv (onc d) (run.drop j)) && _)
        cases hv c (run.drop j) <;> cases hv (onc d) (run.drop j) <;> rfl
    rw [b5] at b4
    simp only [EV] at b1 ⊢
    generalize toldD c run = A at *
    generalize toldD d run = B at *
    generalize (((List.range' k (run.length - k)).filter fun j => hv c (run.drop j) && !hv (onc d) (run.drop j)).map (fun j : Nat => D.int j)) = R at b1 b4
    simp -implicitDefEqProofs [b2, lcK_q b3, b1, b4]
  simp only [EV] at q2
  unfold bT10
  have e : toldD (lea c d) run = .lst ((tm (hv (lea c d)) run).map D.bl) := rfl
  rw [e]
  generalize toldD c run = A at *
  generalize toldD d run = B at *
  simp -implicitDefEqProofs [h3, lcK_q h4, q2]
theorem t11_ok : bT11 (EV run c d s0 s2 s3 s4 s5 s6 s7 s8 s9 s10 s11 s15 s16) w = some (.nx (EV run c d s0 s2 s3 s4 s5 s6 (some (enc (lea c d), false)) s8 s9 s10 s11 s15 s16) w) := by
  have h1 := fun w => leads_ok c d w
  unfold bT11
  simp -implicitDefEqProofs [h1]
theorem Dn.lea (hc : Dn c 4) (hd : Dn d 4) : Dn (lea c d) 12 := by
  have h1 : Dn (.no c) 6 := ⟨hc.ok, by have := hc.dp; simp [dep]; omega⟩
  exact ((h1.eit (hd.onc)).alw).mono (by decide)
theorem t12_ok (hr : Rn run) (hc : Dn c 4) (hd : Dn d 4) (f6 : Bool) : bT12 (EV run c d s0 s2 s3 s4 s5 (some (toldD (lea c d) run, f6)) (some (enc (lea c d), false)) s8 s9 s10 s11 s15 s16) w = some (.nx (EV run c d s0 s2 s3 s4 s5 (some (toldD (lea c d) run, f6)) (some (enc (lea c d), false)) s8 s9 s10 s11 s15 s16) w) :=
  l9_ok (e := lea c d) (hc.lea hd) hr f6 false
theorem fine_enc (h : OkC c) (hd : dep c ≤ 20) : fine 64 (enc c) = true := fine_mono 23 64 _ (by decide) (vd_fine 23 _ (vd_enc h (by omega)))
theorem t13_ok (hc : Dn c 4) (hd : Dn d 4) : bT13 (EV run c d s0 s2 s3 s4 s5 s6 s7 s8 s9 s10 s11 s15 s16) w = some (.nx (EV run c d s0 s2 s3 s4 s5 s6 s7 s8 s9 s10 s11 s15 s16) w) := by
  have h1 := fun w => always_ok c w
  have h2 := fun w => once_ok c w
  have h3 := fun w => either_ok c d w
  have e1 := dNe_self (fine_enc (c := alw c) (hc.alw).ok (by have := hc.alw.dp; omega))
  have e2 := dNe_self (fine_enc (c := onc c) (hc.onc).ok (by have := hc.onc.dp; omega))
  have e3 := dNe_self (fine_enc (c := eit c d) (hc.eit hd).ok (by have := (hc.eit hd).dp; omega))
  simp only [alw, onc, eit, enc, dNe] at h1 h2 h3 e1 e2 e3
  unfold bT13
  simp -implicitDefEqProofs [h1, h2, h3, e1, e2, e3]
theorem t14_ok (hc : Dn c 4) (hd : Dn d 4) : bT14 (EV run c d s0 s2 s3 s4 s5 s6 s7 s8 s9 s10 s11 s15 s16) w = some (.nx (EV run c d s0 s2 s3 s4 s5 s6 s7 s8 s9 s10 s11 s15 s16) w) := by
  have h1 := fun w => always_ok (eit (.no c) (onc d)) w
  have h2 := fun w => once_ok d w
  have h3 := fun w => either_ok (.no c) (onc d) w
  have h4 : enc (.no c) = .tup [.str "not", enc c] := rfl
  have h5 := fun w => leads_ok c d w
  have e3 := dNe_self (fine_enc (c := lea c d) (hc.lea hd).ok (by have := (hc.lea hd).dp; omega))
  have h6 : enc (alw (eit (.no c) (onc d))) = enc (lea c d) := rfl
  rw [h4] at h3
  rw [h6] at h1
  simp only [dNe] at e3
  unfold bT14
  simp -implicitDefEqProofs [h1, h2, h3, h5, e3]
end
end Kk44

set_option Elab.async false
set_option linter.all false
set_option maxRecDepth 100000
set_option maxHeartbeats 4000000
namespace Kk44
open PySem PySem.Spec PyProof.Rows L2 Dl
section
variable {s0 s2 s3 s4 s5 s6 s7 s8 s9 s10 s11 s15 s16 : O} {c d : Ck} {run : List D} {w : Option Wd}
theorem parts_len (c : Ck) : 2 ≤ (parts c).length ∧ (parts c).length ≤ 3 := by cases c <;> simp [parts]
theorem t15_ok (W : Wd) (hW : OkW W) : ∃ (k : Nat) (W' : Wd), bT15 (EV run c d s0 s2 s3 s4 s5 s6 s7 s8 s9 s10 s11 s15 s16) (some W) = some (.nx (EV run c d s0 s2 s3 s4 s5 s6 s7 (some (.int (k : Nat), false)) s9 s10 s11 s15 s16) (some W')) ∧ OkW W' := by
  have hl := parts_len c
  obtain ⟨r, W', h1, h2, h3, h4⟩ := next_ok hW (m := ((parts c).length : Int)) (by omega)
  obtain ⟨k, rfl⟩ : ∃ k : Nat, r = k := ⟨r.toNat, by omega⟩
  refine ⟨k, W', ?_, h4⟩
  have e : f__law_next = fNext := rfl
  unfold bT15
  simp only [EV, enc_parts c]
  simp -implicitDefEqProofs [e, h1]
def Ths (ths : List D) (n : Nat) : Prop := ths.length ≤ n ∧ ∀ x ∈ ths, vd 20 x = true
theorem vd_tup (ds : List D) (hl : ds.length ≤ 900) {n : Nat} (h : ∀ d ∈ ds, vd n d = true) : vd (n + 1) (.tup ds) = true := by
  show (decide (ds.length ≤ 900) && ds.all (vd n)) = true
  rw [Bool.and_eq_true, List.all_eq_true]
  exact ⟨decide_eq_true hl, h⟩
theorem vd_lst (ds : List D) (hl : ds.length ≤ 900) {n : Nat} (h : ∀ d ∈ ds, vd n d = true) : vd (n + 1) (.lst ds) = true := vd_tup ds hl h
theorem cut_sub {xs : List D} {lo hi : Option Int} : ∀ x ∈ Dl.cutD xs lo hi, x ∈ xs := fun x hx => List.mem_of_mem_drop (List.mem_of_mem_take hx)
theorem cut_len {xs : List D} {lo hi : Option Int} : (Dl.cutD xs lo hi).length ≤ xs.length := by unfold Dl.cutD; rw [List.length_take, List.length_drop]; omega
theorem t16_ok (hc : Dn c 4) : ∃ ths, Ths ths 20 ∧ bT16 (EV run c d s0 s2 s3 s4 s5 s6 s7 s8 s9 s10 s11 s15 s16) w = some (.nx (EV run c d s0 s2 s3 s4 s5 s6 s7 s8 (some (.lst ths, true)) s10 s11 s15 s16) w) := by
  have hl := parts_len c
  have hp : ∀ x ∈ parts c, vd 19 x = true := vd_parts c hc.ok 19 (by have := hc.dp; omega)
  have hp18 : ∀ x ∈ parts c, vd 18 x = true := vd_parts c hc.ok 18 (by have := hc.dp; omega)
  have hcv : vd 20 (.tup (parts c)) = true := vd_tup _ (by omega) hp
  have hc19 : vd 19 (.tup (parts c)) = true := vd_tup _ (by omega) hp18
  obtain ⟨e, he, hm⟩ : ∃ e, atI (parts c) 1 = some e ∧ e ∈ parts c := by
    have : atI (parts c) ((1 : Nat) : Int) = some (parts c)[1] := by rw [atI_n]; simp
    exact ⟨_, this, List.getElem_mem _⟩
  have hadd : els2 dAddI (els2 dCatL (els2 dCatT dCatS)) (.tup (parts c)) (.tup [.tup [.str "at", .int 1]]) = _ := dAdd_tt (le_lim (by simp; omega))
  refine ⟨[.tup (parts c), .lst (parts c), .non, .tup [], .tup (Dl.cutD (parts c) none (some 1)), .tup (parts c ++ [.tup [.str "at", .int 1]]), .tup [.str "at"], .int 3, .str "at", .tup [.str "next", .tup (parts c), .tup (parts c)], .tup [.str "until", .tup (parts c)], .tup [.str "at", e]], ⟨by simp, fun x hx => ?_⟩, ?_⟩
  · simp only [List.mem_cons, List.mem_nil_iff, or_false] at hx
    have hat : ∀ n, vd n (.str "at") = true := vd_words "at" (by simp)
    rcases hx with h | h | h | h | h | h | h | h | h | h | h | h <;> subst h
    · exact hcv
    · exact vd_lst _ (by omega) hp
    · rfl
    · rfl
    · exact vd_tup _ (Nat.le_trans cut_len (by omega)) fun x hx => hp x (cut_sub x hx)
    · refine vd_tup _ (by simp; omega) fun x hx => ?_
      rcases List.mem_append.mp hx with h | h
      · exact hp x h
      · rw [List.mem_singleton] at h; subst h; decide +kernel
    · decide +kernel
    · rfl
    · exact hat _
    · refine vd_tup _ (by simp) fun x hx => ?_
      simp only [List.mem_cons, List.mem_nil_iff, or_false] at hx
      rcases hx with h | h | h <;> subst h
      · exact vd_words "next" (by simp) _
      · exact hc19
      · exact hc19
    · refine vd_tup _ (by simp) fun x hx => ?_
      simp only [List.mem_cons, List.mem_nil_iff, or_false] at hx
      rcases hx with h | h <;> subst h
      · exact vd_words "until" (by simp) _
      · exact hc19
    · refine vd_tup _ (by simp) fun x hx => ?_
      simp only [List.mem_cons, List.mem_nil_iff, or_false] at hx
      rcases hx with h | h <;> subst h
      · exact hat _
      · exact hp _ hm
  · unfold bT16
    simp only [EV, enc_parts c]
    try simp -implicitDefEqProofs at hadd
    simp -implicitDefEqProofs [he, hadd]
def bents : List D := [.str "at", .str "until", .str "or", .int 3, .non, .bl true, .tup [.str "at", .int 1], .tup [.str "at", .tup [.str "var", .str "X"]], .tup [.str "at", .bl true], .tup [.str "at", .tup [.str "cell"]], .tup [], .lst [.str "at", .int 1], .tup [.str "at", .tup [.str "mul", .int 2, .tup [.str "add", .int 1, .int 3]]]]
theorem bents_vd : ∀ x ∈ bents, vd 19 x = true := by
  intro x hx
  simp only [bents, List.mem_cons, List.mem_nil_iff, or_false] at hx
  rcases hx with h | h | h | h | h | h | h | h | h | h | h | h | h <;> subst h <;> decide +kernel
def bL17 : SB := (sApp 9 (eOp dAdd (eOp dAdd (eSl dSl (eVar 13) oNone (oSome (eVar 8))) (eTup (aCons (eFz (eVar 10)) aNil))) (eSl dSl (eVar 13) (oSome (eOp dAdd (eVar 8) (eC (.int 1)))) oNone)))
theorem t17_ok (hc : Dn c 4) (k : Nat) (ths : List D) (hth : Ths ths 20) : ∃ ths' t10, Ths ths' 33 ∧ bT17 (EV run c d s0 s2 s3 s4 s5 s6 s7 (some (.int (k : Nat), false)) (some (.lst ths, true)) s10 s11 s15 s16) w = some (.nx (EV run c d s0 s2 s3 s4 s5 s6 s7 (some (.int (k : Nat), false)) (some (.lst ths', true)) t10 s11 s15 s16) w) := by
  have hl := parts_len c
  have hp : ∀ x ∈ parts c, vd 19 x = true := vd_parts c hc.ok 19 (by have := hc.dp; omega)
  obtain ⟨e, w', h1, ths', t10, h2, h3, h4⟩ := forL_inv (set := setN 10) (sa := bL17)
    (fun i e w1 => ∃ ths' t10, e = EV run c d s0 s2 s3 s4 s5 s6 s7 (some (.int (k : Nat), false)) (some (.lst ths', true)) t10 s11 s15 s16 ∧ w1 = w ∧ Ths ths' (20 + i)) bents 0 (EV run c d s0 s2 s3 s4 s5 s6 s7 (some (.int (k : Nat), false)) (some (.lst ths, true)) s10 s11 s15 s16) w ⟨ths, s10, rfl, rfl, hth⟩ fun j b env w1 hb hp1 => by
      obtain ⟨th, t10, he, hw, ht⟩ := hp1
      subst he hw
      have hbm : b ∈ bents := List.mem_of_getElem? hb
      have hj : j < 13 := by
        have := (List.getElem?_eq_some_iff.mp hb).1
        exact this
      have hlim : th.length < lim := lt_lim (by have := ht.1; omega)
      have a1 : els2 dAddI (els2 dCatL (els2 dCatT dCatS)) (.tup (Dl.cutD (parts c) none (some (k : Int)))) (.tup [b]) = _ := dAdd_tt (le_lim (by have := cut_len (xs := parts c) (lo := none) (hi := some (k : Int)); simp; omega))
      have a2 : els2 dAddI (els2 dCatL (els2 dCatT dCatS)) (.tup (Dl.cutD (parts c) none (some (k : Int)) ++ [b])) (.tup (Dl.cutD (parts c) (some ((k : Int) + 1)) none)) = _ := dAdd_tt (le_lim (by have := cut_len (xs := parts c) (lo := none) (hi := some (k : Int)); have := cut_len (xs := parts c) (lo := some ((k : Int) + 1)) (hi := none); simp; omega))
      refine ⟨_, .nx (EV run c d s0 s2 s3 s4 s5 s6 s7 (some (.int (k : Nat), false)) (some (.lst (th ++ [.tup (Dl.cutD (parts c) none (some (k : Int)) ++ [b] ++ Dl.cutD (parts c) (some ((k : Int) + 1)) none)]), true)) (some (b, false)) s11 s15 s16) w1, _, _, rfl, ?_, .inl rfl, _, _, rfl, rfl, by have := ht.1; simp; omega, fun x hx => ?_⟩
      · unfold bL17
        simp only [EV, enc_parts c]
        simp -implicitDefEqProofs [a1, a2, hlim]
      · rcases List.mem_append.mp hx with h | h
        · exact ht.2 x h
        · rw [List.mem_singleton] at h
          subst h
          refine vd_tup _ (by have := cut_len (xs := parts c) (lo := none) (hi := some (k : Int)); have := cut_len (xs := parts c) (lo := some ((k : Int) + 1)) (hi := none); simp; omega) fun y hy => ?_
          rcases List.mem_append.mp hy with hy | hy
          · rcases List.mem_append.mp hy with hy | hy
            · exact hp y (cut_sub y hy)
            · rw [List.mem_singleton] at hy; subst hy; exact bents_vd _ hbm
          · exact hp y (cut_sub y hy)
  subst h2 h3
  refine ⟨ths', t10, h4, ?_⟩
  unfold bT17
  unfold bents bL17 at h1
  simp only [EV] at h1 ⊢
  simp -implicitDefEqProofs [h1]
def bL18 : SB := (sIf (tNo (tTru (eCall f__law_is_bit (aCons (eFz (eCall (f_is_check 40) (aCons (eFz (eVar 11)) aNil))) (aCons (eFz (eCall (f__law_is_check 40) (aCons (eFz (eVar 11)) aNil))) aNil))))) (sRet (eC (.bl false))) (sNil))
theorem t18_ok (ths : List D) (hth : Ths ths 33) : ∃ t11, bT18 (EV run c d s0 s2 s3 s4 s5 s6 s7 s8 (some (.lst ths, true)) s10 s11 s15 s16) w = some (.nx (EV run c d s0 s2 s3 s4 s5 s6 s7 s8 (some (.lst ths, false)) s10 t11 s15 s16) w) := by
  obtain ⟨e, h1, t11, h2⟩ := forL_look (set := setN 11) (sa := bL18) (w := w) id (fun e => ∃ t11, e = EV run c d s0 s2 s3 s4 s5 s6 s7 s8 (some (.lst ths, false)) s10 t11 s15 s16) ths (EV run c d s0 s2 s3 s4 s5 s6 s7 s8 (some (.lst ths, false)) s10 s11 s15 s16) ⟨s11, rfl⟩ fun env he x hx => by
    obtain ⟨t, rfl⟩ := he
    obtain ⟨b, hb⟩ := ck_same 20 x (by decide) (vd_Vd 20 x (by decide) (hth.2 x hx)) 40 (by decide)
    have h5 := fun w => isbit_ok b b w
    refine ⟨_, _, rfl, ?_, some (x, false), rfl⟩
    unfold bL18
    simp -implicitDefEqProofs [hb, h5]
  subst h2
  refine ⟨t11, ?_⟩
  rw [List.map_id] at h1
  unfold bT18
  unfold bL18 at h1
  simp only [EV] at h1 ⊢
  simp -implicitDefEqProofs [h1]
theorem turn_ok {s12 s13 s14 : O} (W : Wd) (hW : OkW W) : ∃ t3 t4 t5 t6 t7 t8 t9 t10 t11 t12 t13 t14 W', bT [s0, some (.w, false), s2, s3, s4, s5, s6, s7, s8, s9, s10, s11, s12, s13, s14, s15, s16] (some W) = some (.nx [s0, some (.w, false), s2, t3, t4, t5, t6, t7, t8, t9, t10, t11, t12, t13, t14, s15, s16] (some W')) ∧ OkW W' := by
  obtain ⟨run, c, d, W1, e1, w1, hr, hc, hd⟩ := t1_ok (s0 := s0) (s2 := s2) (s3 := s3) (s4 := s4) (s5 := s5) (s6 := s6) (s7 := s7) (s8 := s8) (s9 := s9) (s10 := s10) (s11 := s11) (s12 := s12) (s13 := s13) (s14 := s14) (s15 := s15) (s16 := s16) W hW
  obtain ⟨t8, e2⟩ := t2_ok (d := d) (s0 := s0) (s2 := s2) (s3 := s3) (s4 := s4) (s5 := s5) (s6 := s6) (s7 := s7) (s8 := s8) (s9 := s9) (s10 := s10) (s11 := s11) (s15 := s15) (s16 := s16) (w := some W1) hc hr
  obtain ⟨t8, e3⟩ := t3_ok (c := c) (s0 := s0) (s2 := s2) (s3 := some (toldD c run, true)) (s4 := s4) (s5 := s5) (s6 := s6) (s7 := s7) (s8 := t8) (s9 := s9) (s10 := s10) (s11 := s11) (s15 := s15) (s16 := s16) (w := some W1) hd hr
  have e4 := t4_ok (d := d) (s0 := s0) (s2 := s2) (s4 := some (toldD d run, true)) (s5 := s5) (s6 := s6) (s7 := s7) (s8 := t8) (s9 := s9) (s10 := s10) (s11 := s11) (s15 := s15) (s16 := s16) (w := some W1) hc hr
  have e5 := t5_ok (d := d) (s0 := s0) (s2 := s2) (s3 := some (toldD c run, true)) (s4 := some (toldD d run, true)) (s5 := s5) (s6 := s6) (s7 := s7) (s8 := t8) (s9 := s9) (s10 := s10) (s11 := s11) (s15 := s15) (s16 := s16) (w := some W1) hc hr
  obtain ⟨t8, e6⟩ := t6_ok (d := d) (s0 := s0) (s2 := s2) (s4 := some (toldD d run, true)) (s5 := s5) (s6 := s6) (s7 := s7) (s8 := t8) (s9 := s9) (s10 := s10) (s11 := s11) (s15 := s15) (s16 := s16) (w := some W1) hc hr
  have e7 := t7_ok (d := d) (run := run) (s0 := s0) (s2 := s2) (s3 := some (toldD c run, true)) (s4 := some (toldD d run, true)) (s5 := s5) (s6 := s6) (s7 := s7) (s8 := t8) (s9 := s9) (s10 := s10) (s11 := s11) (s15 := s15) (s16 := s16) (w := some W1) hc
  obtain ⟨t8, e8⟩ := t8_ok (c := c) (d := d) (s0 := s0) (s2 := s2) (s4 := some (toldD d run, true)) (s5 := s5) (s6 := s6) (s7 := s7) (s8 := t8) (s9 := s9) (s10 := s10) (s11 := s11) (s15 := s15) (s16 := s16) (w := some W1) hr
  obtain ⟨t6, t7, t8, e9⟩ := t9_ok (s0 := s0) (s2 := s2) (s6 := s6) (s7 := s7) (s8 := t8) (s9 := s9) (s10 := s10) (s11 := s11) (s15 := s15) (s16 := s16) (w := some W1) hr hc hd true true
  have e10 := t10_ok (s0 := s0) (s2 := s2) (s5 := (some (.lst [madeD (alw c) run, madeD (onc c) run], true))) (s6 := t6) (s7 := t7) (s8 := t8) (s9 := s9) (s10 := s10) (s11 := s11) (s15 := s15) (s16 := s16) (w := some W1) hr hc hd true true
  have e11 := t11_ok (c := c) (d := d) (run := run) (s0 := s0) (s2 := s2) (s3 := some (toldD c run, true)) (s4 := some (toldD d run, true)) (s5 := (some (.lst [madeD (alw c) run, madeD (onc c) run], true))) (s6 := some (toldD (lea c d) run, true)) (s7 := t7) (s8 := t8) (s9 := s9) (s10 := s10) (s11 := s11) (s15 := s15) (s16 := s16) (w := some W1)
  have e12 := t12_ok (s0 := s0) (s2 := s2) (s3 := some (toldD c run, true)) (s4 := some (toldD d run, true)) (s5 := (some (.lst [madeD (alw c) run, madeD (onc c) run], true))) (s8 := t8) (s9 := s9) (s10 := s10) (s11 := s11) (s15 := s15) (s16 := s16) (w := some W1) hr hc hd true
  have e13 := t13_ok (run := run) (s0 := s0) (s2 := s2) (s3 := some (toldD c run, true)) (s4 := some (toldD d run, true)) (s5 := (some (.lst [madeD (alw c) run, madeD (onc c) run], true))) (s6 := some (toldD (lea c d) run, true)) (s7 := some (enc (lea c d), false)) (s8 := t8) (s9 := s9) (s10 := s10) (s11 := s11) (s15 := s15) (s16 := s16) (w := some W1) hc hd
  have e14 := t14_ok (run := run) (s0 := s0) (s2 := s2) (s3 := some (toldD c run, true)) (s4 := some (toldD d run, true)) (s5 := (some (.lst [madeD (alw c) run, madeD (onc c) run], true))) (s6 := some (toldD (lea c d) run, true)) (s7 := some (enc (lea c d), false)) (s8 := t8) (s9 := s9) (s10 := s10) (s11 := s11) (s15 := s15) (s16 := s16) (w := some W1) hc hd
  obtain ⟨k, W2, e15, w2⟩ := t15_ok (run := run) (c := c) (d := d) (s0 := s0) (s2 := s2) (s3 := some (toldD c run, true)) (s4 := some (toldD d run, true)) (s5 := (some (.lst [madeD (alw c) run, madeD (onc c) run], true))) (s6 := some (toldD (lea c d) run, true)) (s7 := some (enc (lea c d), false)) (s8 := t8) (s9 := s9) (s10 := s10) (s11 := s11) (s15 := s15) (s16 := s16) W1 w1
  obtain ⟨ths, hth, e16⟩ := t16_ok (run := run) (d := d) (s0 := s0) (s2 := s2) (s3 := some (toldD c run, true)) (s4 := some (toldD d run, true)) (s5 := (some (.lst [madeD (alw c) run, madeD (onc c) run], true))) (s6 := some (toldD (lea c d) run, true)) (s7 := some (enc (lea c d), false)) (s8 := some (.int (k : Nat), false)) (s9 := s9) (s10 := s10) (s11 := s11) (s15 := s15) (s16 := s16) (w := some W2) hc
  obtain ⟨ths2, t10, hth2, e17⟩ := t17_ok (run := run) (d := d) (s0 := s0) (s2 := s2) (s3 := some (toldD c run, true)) (s4 := some (toldD d run, true)) (s5 := (some (.lst [madeD (alw c) run, madeD (onc c) run], true))) (s6 := some (toldD (lea c d) run, true)) (s7 := some (enc (lea c d), false)) (s10 := s10) (s11 := s11) (s15 := s15) (s16 := s16) (w := some W2) hc k ths hth
  obtain ⟨t11, e18⟩ := t18_ok (run := run) (c := c) (d := d) (s0 := s0) (s2 := s2) (s3 := some (toldD c run, true)) (s4 := some (toldD d run, true)) (s5 := (some (.lst [madeD (alw c) run, madeD (onc c) run], true))) (s6 := some (toldD (lea c d) run, true)) (s7 := some (enc (lea c d), false)) (s8 := some (.int (k : Nat), false)) (s10 := t10) (s11 := s11) (s15 := s15) (s16 := s16) (w := some W2) ths2 hth2
  refine ⟨some (toldD c run, true), some (toldD d run, true), (some (.lst [madeD (alw c) run, madeD (onc c) run], true)), some (toldD (lea c d) run, true), some (enc (lea c d), false), some (.int (k : Nat), false), some (.lst ths2, false), t10, t11, some (.tup run, false), some (enc c, false), some (enc d, false), W2, ?_, w2⟩
  unfold bT
  rw [sSeq_q, e1, bnd_some, nxt_nx, sSeq_q, e2, bnd_some, nxt_nx, sSeq_q, e3, bnd_some, nxt_nx, sSeq_q, e4, bnd_some, nxt_nx, sSeq_q, e5, bnd_some, nxt_nx, sSeq_q, e6, bnd_some, nxt_nx, sSeq_q, e7, bnd_some, nxt_nx, sSeq_q, e8, bnd_some, nxt_nx, sSeq_q, e9, bnd_some, nxt_nx, sSeq_q, e10, bnd_some, nxt_nx, sSeq_q, e11, bnd_some, nxt_nx, sSeq_q, e12, bnd_some, nxt_nx, sSeq_q, e13, bnd_some, nxt_nx, sSeq_q, e14, bnd_some, nxt_nx, sSeq_q, e15, bnd_some, nxt_nx, sSeq_q, e16, bnd_some, nxt_nx, sSeq_q, e17, bnd_some, nxt_nx]
  exact e18
end
theorem math : MathT := by
  intro ns hn
  obtain ⟨ds, hd⟩ := draws_ok ns hn 400 (by decide) none
  refine ⟨ds, hd, ?_⟩
  obtain ⟨e, w', h1, s2, t3, t4, t5, t6, t7, t8, t9, t10, t11, t12, t13, t14, W', h2, h3, h4⟩ := forL_inv (set := setN 2) (sa := bT)
    (fun i e w => ∃ s2 s3 s4 s5 s6 s7 s8 s9 s10 s11 s12 s13 s14 W, e = [some (.scr ns, false), some (.w, false), s2, s3, s4, s5, s6, s7, s8, s9, s10, s11, s12, s13, s14, none, none] ∧ w = some W ∧ OkW W) (rangeD 0 5) 0 [some (.scr ns, false), some (.w, false), none, none, none, none, none, none, none, none, none, none, none, none, none, none, none] (some ⟨ds, 0⟩) ⟨none, none, none, none, none, none, none, none, none, none, none, none, none, ⟨ds, 0⟩, rfl, rfl, Int.le_refl 0⟩ fun j d env w hd hp => by
      obtain ⟨s2, s3, s4, s5, s6, s7, s8, s9, s10, s11, s12, s13, s14, W, he, hw, hW⟩ := hp
      subst he hw
      obtain ⟨t3, t4, t5, t6, t7, t8, t9, t10, t11, t12, t13, t14, W', g1, g2⟩ := turn_ok (s0 := some (.scr ns, false)) (s2 := some (d, false)) (s3 := s3) (s4 := s4) (s5 := s5) (s6 := s6) (s7 := s7) (s8 := s8) (s9 := s9) (s10 := s10) (s11 := s11) (s12 := s12) (s13 := s13) (s14 := s14) (s15 := none) (s16 := none) W hW
      exact ⟨_, _, _, _, rfl, g1, .inl rfl, _, t3, t4, t5, t6, t7, t8, t9, t10, t11, t12, t13, t14, W', rfl, rfl, g2⟩
  subst h2 h3
  have hr5 : ∀ w, rngK ([(.int 5, .fz)], w) = some (rangeD 0 5, w) := fun w => rngK_1 (by decide)
  refine ⟨some W', ?_⟩
  unfold bT bT1 bT2 bT3 bT4 bT5 bT6 bT7 bT8 bT9 bT10 bT11 bT12 bT13 bT14 bT15 bT16 bT17 bT18 at h1
  simp -implicitDefEqProofs [b_law, hr5, h1]
end Kk44

set_option Elab.async false
set_option linter.all false
set_option maxRecDepth 100000
set_option maxHeartbeats 4000000
namespace Kk44
open PySem PySem.Spec PyProof.Rows L2 Dl
end Kk44
open PySem PySem.W PyProof.Rows
set_option maxHeartbeats 0 in
theorem PySem.Challenge.cw_stepswatched_k44_whole_checks_along_a_ru_holds : PySem.Challenge.rw_stepswatched_k44_whole_checks_along_a_ru.Holds := by
  w_on; o_law; k_head; (case hw => w_witness2)
  k_fill
  refine L2.walk_of (l := PySem.Challenge.rw_stepswatched_k44_whole_checks_along_a_ru) (n := 63) (k := 83) (x := "script") (CX := fun _ => L2.CX0) (sp := fun w => Dl.spLaw _) rfl (by decide) rfl ⟨rfl, by decide, by decide⟩ (fun w h Y => PySem.W.kIn_of Y) ?F (fun _ _ a ns hl _ hS => ⟨a, ns, rfl, hS, hl, fun _ => rfl⟩) (fun _ _ _ _ _ h => h)
  case F =>
    intro w mg fa h KX G hmg
    refine' Kk44.all_mk Kk44.math KX G hmg ?q0a ?q0b ?q0c ?q0d ?q1a ?q1b ?q1c ?q1d ?q2a ?q2b ?q2c ?q2d ?q3a ?q3b ?q3c ?q3d ?q4a ?q4b ?q4c ?q4d ?q5a ?q5b ?q5c ?q5d ?q6a ?q6b ?q6c ?q6d ?q7a ?q7b ?q7c ?q7d ?q8a ?q8b ?q8c ?q8d ?q9a ?q9b ?q9c ?q9d ?q10a ?q10b ?q10c ?q10d ?q11a ?q11b ?q11c ?q11d ?q12a ?q12b ?q12c ?q12d ?q13a ?q13b ?q13c ?q13d ?q14a ?q14b ?q14c ?q14d ?q15a ?q15b ?q15c ?q15d ?q16a ?q16b ?q16c ?q16d ?q17a ?q17b ?q17c ?q17d ?q18a ?q18b ?q18c ?q18d ?q19a ?q19b ?q19c ?q19d ?q20a ?q20b ?q20c ?q20d ?q21a ?q21b ?q21c ?q21d ?q22a ?q22b ?q22c ?q22d ?q23a ?q23b ?q23c ?q23d ?q24a ?q24b ?q24c ?q24d ?q25a ?q25b ?q25c ?q25d ?q26a ?q26b ?q26c ?q26d ?q27a ?q27b ?q27c ?q27d ?q28a ?q28b ?q28c ?q28d ?q29a ?q29b ?q29c ?q29d ?q30a ?q30b ?q30c ?q30d ?q31a ?q31b ?q31c ?q31d ?q32a ?q32b ?q32c ?q32d ?q33a ?q33b ?q33c ?q33d ?z0 ?z1 ?z2 ?z3 ?z4 ?z5 ?z6 ?z7 ?z8 ?z9 ?z10 ?z11 ?z12 ?z13 ?c0a ?c1a ?c2a ?c2b
    (case q0a => k_is); (case q0b => k_is); (case q0c => k_is); (case q0d => k_is); (case q1a => k_is); (case q1b => k_is); (case q1c => k_is); (case q1d => k_is); (case q2a => k_is); (case q2b => k_is); (case q2c => k_is); (case q2d => k_is); (case q3a => k_is); (case q3b => k_is); (case q3c => k_is); (case q3d => k_is); (case q4a => k_is); (case q4b => k_is); (case q4c => k_is); (case q4d => k_is); (case q5a => k_is); (case q5b => k_is); (case q5c => k_is); (case q5d => k_is); (case q6a => k_is); (case q6b => k_is); (case q6c => k_is); (case q6d => k_is); (case q7a => k_is); (case q7b => k_is); (case q7c => k_is); (case q7d => k_is); (case q8a => k_is); (case q8b => k_is); (case q8c => k_is); (case q8d => k_is); (case q9a => k_is); (case q9b => k_is); (case q9c => k_is); (case q9d => k_is); (case q10a => k_is); (case q10b => k_is); (case q10c => k_is); (case q10d => k_is); (case q11a => k_is); (case q11b => k_is); (case q11c => k_is); (case q11d => k_is); (case q12a => k_is); (case q12b => k_is); (case q12c => k_is); (case q12d => k_is); (case q13a => k_is); (case q13b => k_is); (case q13c => k_is); (case q13d => k_is); (case q14a => k_is); (case q14b => k_is); (case q14c => k_is); (case q14d => k_is); (case q15a => k_is); (case q15b => k_is); (case q15c => k_is); (case q15d => k_is); (case q16a => k_is); (case q16b => k_is); (case q16c => k_is); (case q16d => k_is); (case q17a => k_is); (case q17b => k_is); (case q17c => k_is); (case q17d => k_is); (case q18a => k_is); (case q18b => k_is); (case q18c => k_is); (case q18d => k_is); (case q19a => k_is); (case q19b => k_is); (case q19c => k_is); (case q19d => k_is); (case q20a => k_is); (case q20b => k_is); (case q20c => k_is); (case q20d => k_is); (case q21a => k_is); (case q21b => k_is); (case q21c => k_is); (case q21d => k_is); (case q22a => k_is); (case q22b => k_is); (case q22c => k_is); (case q22d => k_is); (case q23a => k_is); (case q23b => k_is); (case q23c => k_is); (case q23d => k_is); (case q24a => k_is); (case q24b => k_is); (case q24c => k_is); (case q24d => k_is); (case q25a => k_is); (case q25b => k_is); (case q25c => k_is); (case q25d => k_is); (case q26a => k_is); (case q26b => k_is); (case q26c => k_is); (case q26d => k_is); (case q27a => k_is); (case q27b => k_is); (case q27c => k_is); (case q27d => k_is); (case q28a => k_is); (case q28b => k_is); (case q28c => k_is); (case q28d => k_is); (case q29a => k_is); (case q29b => k_is); (case q29c => k_is); (case q29d => k_is); (case q30a => k_is); (case q30b => k_is); (case q30c => k_is); (case q30d => k_is); (case q31a => k_is); (case q31b => k_is); (case q31c => k_is); (case q31d => k_is); (case q32a => k_is); (case q32b => k_is); (case q32c => k_is); (case q32d => k_is); (case q33a => k_is); (case q33b => k_is); (case q33c => k_is); (case q33d => k_is); (case z0 => k_is); (case z1 => k_is); (case z2 => k_is); (case z3 => k_is); (case z4 => k_is); (case z5 => k_is); (case z6 => k_is); (case z7 => k_is); (case z8 => k_is); (case z9 => k_is); (case z10 => k_is); (case z11 => k_is); (case z12 => k_is); (case z13 => k_is); (case c0a => k_is); (case c1a => k_is); (case c2a => k_is); (case c2b => k_is)
