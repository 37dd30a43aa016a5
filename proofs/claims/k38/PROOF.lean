import PyProof.Rows.All
import Wide.All
import OpenK.AllK
import Wide.FinOn
import HandS.ForMost
import HandS.Star
import HandS.TupAny
import HandS.Sort
import HandS.IsInst
import HandS.Codes
import HandS.Property
import HandS.More
import HandS.Walk
import HandS.Style
import KE.KDictKeyed
import KE.KeyNested
import HandS.DictComp
import HandS.Iter
import KE.GoesEnum
import KE.SortData
import HandS.SetFor
import HandS.Strs
import HandS.Zip
import HandS.Defaults
import HandS.HeadHook2
import PySem.Challenge.RW_stillstruck_k38_whole_alike_scripts
import HandS.Head0
import HandS.Head1
import HandS.Head2
import HandS.HeadEnd
import HandS.HeadHook1
set_option Elab.async false
set_option linter.all false
set_option maxRecDepth 100000
set_option maxHeartbeats 2000000
/-! The data layer: immutable data D, what represents it (Rep) in the pure part G of the abstract heap, readings over data alone. -/
namespace Dl
open PySem L2

/-- keys of the dicts of the program: None, whole numbers, tuples of whole numbers -/
inductive Ky where
  | non | int (i : Int) | tup (l : List Int)
  deriving DecidableEq

inductive D where
  | non | bl (b : Bool) | int (i : Int) | str (s : Str)
  | tup (l : List D) | lst (l : List D)
  | ins (c : Nat) (l : List D)
  | dct (kvs : List (Ky × D))
  | raw (v : V)

/-- the classes by number: where each stands, its instances' attributes in order; the hash of a key -/
structure Pm where
  cl : Nat → Addr
  nm : Nat → List Str
  hs : Ky → Int

/-- at a stands a plain dict with these entries: hash, key, value -/
def DictIs (a : Addr) (es : List (Int × V × V)) (h : Heap) : Prop :=
  ∃ o ents ep, h.get? a = some o ∧ o.ExactDict ∧ o.data = .dict ents ep ∧ (a == sysModules) = false ∧
    Paired (fun (e : Int × V × V) (x : DictEntry) => x.hash = e.1 ∧ RelV e.2.1 x.key ∧ RelV e.2.2 x.val) es ents.toList ∧ es.length ≤ sizeLine

mutual
inductive Rep (m : Pm) (G : Hp) : V → D → Prop
  | non : Rep m G .non .non
  | bl (b : Bool) : Rep m G (.bl b) (.bl b)
  | int (i : Int) : Rep m G (.int i) (.int i)
  | str (s : Str) : Rep m G (.str s) (.str s)
  | tup {a : Addr} {vs : List V} {ds : List D} : G a = some (.tup vs) → Reps m G vs ds → Rep m G (.ref a) (.tup ds)
  | lst {a : Addr} {vs : List V} {ds : List D} : G a = some (.lst vs) → Reps m G vs ds → Rep m G (.ref a) (.lst ds)
  | ins {a dx : Addr} {c : Nat} {vs : List V} {ds : List D} : G a = some (.ins (m.cl c) dx ((m.nm c).zip vs)) → vs.length = (m.nm c).length → Reps m G vs ds → Rep m G (.ref a) (.ins c ds)
  | dct {a : Addr} {es : List (Int × V × V)} {kvs : List (Ky × D)} : G a = some (.ext (DictIs a es)) → RepE m G es kvs → (kvs.map (·.1)).Nodup → Rep m G (.ref a) (.dct kvs)
  | raw (v : V) : Rep m G v (.raw v)
inductive Reps (m : Pm) (G : Hp) : List V → List D → Prop
  | nil : Reps m G [] []
  | cons {v : V} {d : D} {vs : List V} {ds : List D} : Rep m G v d → Reps m G vs ds → Reps m G (v :: vs) (d :: ds)
inductive RepE (m : Pm) (G : Hp) : List (Int × V × V) → List (Ky × D) → Prop
  | nil : RepE m G [] []
  | cons {k : Ky} {u v : V} {d : D} {es : List (Int × V × V)} {kvs : List (Ky × D)} : RepK m G u k → Rep m G v d → RepE m G es kvs → RepE m G ((m.hs k, u, v) :: es) ((k, d) :: kvs)
inductive RepK (m : Pm) (G : Hp) : V → Ky → Prop
  | non : RepK m G .non .non
  | int (i : Int) : RepK m G (.int i) (.int i)
  | tup {a : Addr} {l : List Int} : G a = some (.tup (l.map V.int)) → RepK m G (.ref a) (.tup l)
end

section
variable {m : Pm} {G G' : Hp}
theorem same_rd {a : Addr} {u : HO} (e : Same G G') (h : Rd G a u) : Rd G' a u := by
  rcases h with h | ⟨o, h⟩
  · exact .inl (e _ _ h)
  · exact .inr ⟨o, e _ _ h⟩
theorem same_t {K : PySem.W.Frag} {a : Addr} {xs : List V} (e : Same G G') (h : SqT K G a xs) : SqT K G' a xs := by
  rcases h with h | h
  · exact .inl (same_rd e h)
  · exact .inr h
theorem same_l {K : PySem.W.Frag} {a : Addr} {xs : List V} (e : Same G G') (h : SqL K G a xs) : SqL K G' a xs := by
  rcases h with h | h
  · exact .inl (same_rd e h)
  · exact .inr h
theorem RepK.mono {v : V} {k : Ky} (e : Same G G') (h : RepK m G v k) : RepK m G' v k := by
  cases h with
  | non => exact .non
  | int i => exact .int i
  | tup h => exact .tup (e _ _ h)
mutual
theorem Rep.mono {v : V} {d : D} (e : Same G G') (h : Rep m G v d) : Rep m G' v d := by
  cases h with
  | non => exact .non
  | bl b => exact .bl b
  | int i => exact .int i
  | str s => exact .str s
  | tup h r => exact .tup (e _ _ h) (Reps.mono e r)
  | lst h r => exact .lst (e _ _ h) (Reps.mono e r)
  | ins h z r => exact .ins (e _ _ h) z (Reps.mono e r)
  | dct h r n => exact .dct (e _ _ h) (RepE.mono e r) n
  | raw v => exact .raw v
theorem Reps.mono {vs : List V} {ds : List D} (e : Same G G') (h : Reps m G vs ds) : Reps m G' vs ds := by
  cases h with
  | nil => exact .nil
  | cons a r => exact .cons (Rep.mono e a) (Reps.mono e r)
theorem RepE.mono {vs : List (Int × V × V)} {ds : List (Ky × D)} (e : Same G G') (h : RepE m G vs ds) : RepE m G' vs ds := by
  cases h with
  | nil => exact .nil
  | cons k a r => exact .cons (RepK.mono e k) (Rep.mono e a) (RepE.mono e r)
end
end
end Dl
set_option Elab.async false
set_option linter.all false
set_option maxRecDepth 100000
set_option maxHeartbeats 2000000
namespace Dl
open PySem L2

section
variable {m : Pm} {G G' H H' : Hp}
theorem Reps.length : ∀ {vs : List V} {ds : List D}, Reps m G vs ds → vs.length = ds.length
  | _, _, .nil => rfl
  | _, _, .cons _ r => congrArg (· + 1) (Reps.length r)
theorem Reps.get : ∀ {vs : List V} {ds : List D} {i : Nat} {d : D}, Reps m G vs ds → ds[i]? = some d → ∃ v, vs[i]? = some v ∧ Rep m G v d
  | _, _, _, _, .nil, e => by simp at e
  | _, _, 0, _, .cons a _, e => by
    simp at e
    subst e
    exact ⟨_, rfl, a⟩
  | _, _, i + 1, _, .cons _ r, e => by
    obtain ⟨v, h1, h2⟩ := Reps.get (i := i) r (by simpa using e)
    exact ⟨v, by simpa using h1, h2⟩
theorem Reps.getV : ∀ {vs : List V} {ds : List D} {i : Nat} {v : V}, Reps m G vs ds → vs[i]? = some v → ∃ d, ds[i]? = some d ∧ Rep m G v d
  | _, _, _, _, .nil, e => by simp at e
  | _, _, 0, _, .cons a _, e => by
    simp at e
    subst e
    exact ⟨_, rfl, a⟩
  | _, _, i + 1, _, .cons _ r, e => by
    obtain ⟨v, h1, h2⟩ := Reps.getV (i := i) r (by simpa using e)
    exact ⟨v, by simpa using h1, h2⟩
theorem Reps.append : ∀ {vs us : List V} {ds es : List D}, Reps m G vs ds → Reps m G us es → Reps m G (vs ++ us) (ds ++ es)
  | _, _, _, _, .nil, s => s
  | _, _, _, _, .cons a r, s => .cons a (Reps.append r s)
theorem Reps.take : ∀ (n : Nat) {vs : List V} {ds : List D}, Reps m G vs ds → Reps m G (vs.take n) (ds.take n)
  | 0, _, _, _ => .nil
  | _ + 1, _, _, .nil => .nil
  | n + 1, _, _, .cons a r => .cons a (Reps.take n r)
theorem Reps.drop : ∀ (n : Nat) {vs : List V} {ds : List D}, Reps m G vs ds → Reps m G (vs.drop n) (ds.drop n)
  | 0, _, _, r => r
  | _ + 1, _, _, .nil => .nil
  | n + 1, _, _, .cons _ r => Reps.drop n r
theorem Reps.eraseIdx : ∀ (n : Nat) {vs : List V} {ds : List D}, Reps m G vs ds → Reps m G (vs.eraseIdx n) (ds.eraseIdx n)
  | _, _, _, .nil => .nil
  | 0, _, _, .cons _ r => r
  | n + 1, _, _, .cons a r => .cons a (Reps.eraseIdx n r)
theorem Reps.ints : ∀ (l : List Int), Reps m G (l.map V.int) (l.map D.int)
  | [] => .nil
  | i :: r => .cons (.int i) (Reps.ints r)
theorem Reps.of_ints : ∀ {l : List Int} {vs : List V}, Reps m G vs (l.map D.int) → vs = l.map V.int
  | [], _, .nil => rfl
  | i :: r, _, .cons a t => by
    cases a
    rw [Reps.of_ints (l := r) t]
    rfl
theorem Reps.of_bls : ∀ {l : List Bool} {vs : List V}, Reps m G vs (l.map D.bl) → vs = l.map V.bl
  | [], _, .nil => rfl
  | i :: r, _, .cons a t => by
    cases a
    rw [Reps.of_bls (l := r) t]
    rfl
theorem look_zip : ∀ {ns : List Str} {vs : List V} {i : Nat} {x : Str} {v : V}, ns.Nodup → ns[i]? = some x → vs[i]? = some v → (ns.zip vs).lookup x = some v
  | [], _, _, _, _, _, e, _ => by simp at e
  | _ :: _, [], _, _, _, _, _, e => by simp at e
  | n :: ns, w :: vs, 0, x, v, _, e1, e2 => by
    simp at e1 e2
    subst e1 e2
    simp [List.lookup_cons]
  | n :: ns, w :: vs, i + 1, x, v, h, e1, e2 => by
    have h1 := List.nodup_cons.mp h
    have e3 : ns[i]? = some x := by simpa using e1
    have ne : (x == n) = false := by
      rw [beq_eq_false_iff_ne]
      intro z
      subst z
      exact h1.1 (List.mem_of_getElem? e3)
    simp only [List.zip_cons_cons, List.lookup_cons, ne]
    exact look_zip h1.2 e3 (by simpa using e2)
theorem look_zipN : ∀ {ns : List Str} {vs : List V} {x : Str}, x ∉ ns → (ns.zip vs).lookup x = none
  | [], _, _, _ => rfl
  | _ :: _, [], _, _ => rfl
  | n :: ns, w :: vs, x, h => by
    have ne : (x == n) = false := by
      rw [beq_eq_false_iff_ne]
      intro z
      exact h (by rw [z]; exact List.mem_cons_self)
    simp only [List.zip_cons_cons, List.lookup_cons, ne]
    exact look_zipN fun z => h (List.mem_cons_of_mem _ z)
end

/-- a thing that calls may change: which addresses it takes, what stays true of it -/
structure Res where
  M : Addr → Prop
  ok : Hp → Prop
  st : ∀ H H' : Hp, (∀ b o, M b → H b = some o → H' b = some o) → ok H → ok H'
def Res.nil : Res := ⟨fun _ => False, fun _ => True, fun _ _ _ _ => trivial⟩

structure GH (R : Res) (G H : Hp) : Prop where
  s : Same G H
  ok : R.ok H
  m : ∀ b, R.M b → G b = none ∧ ∃ o, H b = some o

structure Ext (R : Res) (G H G' H' : Hp) : Prop where
  gg : Same G G'
  gh : GH R G' H'
  hh : ∀ b o, H b = some o → ¬ R.M b → H' b = some o
  fr : ∀ b o, G' b = some o → G b = some o ∨ H b = none

theorem ne_m {R : Res} {b p : Addr} (hb : R.M b) (hm : ¬ R.M p) : b ≠ p := fun z => hm (by rw [← z]; exact hb)
section
variable {R : Res} {G H G1 H1 G2 H2 : Hp}
theorem Ext.refl (h : GH R G H) : Ext R G H G H := ⟨Same.refl _, h, fun _ _ e _ => e, fun _ _ e => .inl e⟩
theorem Ext.trans (a : Ext R G H G1 H1) (b : Ext R G1 H1 G2 H2) : Ext R G H G2 H2 := by
  refine ⟨a.gg.trans b.gg, b.gh, fun c o e n => b.hh c o (a.hh c o e n) n, fun c o e => ?_⟩
  rcases b.fr c o e with h | h
  · exact a.fr c o h
  · refine .inr ?_
    cases q : H c with
    | none => rfl
    | some u =>
      by_cases hm : R.M c
      · obtain ⟨_, v, hv⟩ := a.gh.m c hm
        rw [h] at hv
        cases hv
      · rw [a.hh c u q hm] at h
        cases h
theorem GH.new {p : Addr} {o : HO} (h : GH R G H) (hp : H p = none) : GH R (upd G p o) (upd H p o) := by
  have np : ∀ b, R.M b → b ≠ p := fun b hb e => by
    obtain ⟨_, u, hu⟩ := h.m b hb
    rw [e, hp] at hu
    cases hu
  refine ⟨fun b u e => ?_, R.st H _ (fun b u hb e => by rw [upd_ne (np b hb)]; exact e) h.ok, fun b hb => ?_⟩
  · by_cases q : b = p
    · subst q
      rw [upd_same] at e ⊢
      exact e
    · rw [upd_ne q] at e ⊢
      exact h.s _ _ e
  · obtain ⟨h1, u, h2⟩ := h.m b hb
    exact ⟨by rw [upd_ne (np b hb)]; exact h1, u, by rw [upd_ne (np b hb)]; exact h2⟩
/-- a new object, part of the data from now on -/
theorem Ext.new {p : Addr} {o : HO} (h : GH R G H) (hp : H p = none) : Ext R G H (upd G p o) (upd H p o) := by
  have gp : G p = none := h.s.free hp
  refine ⟨fun b u e => by rw [upd_ne (ne_of_none e gp)]; exact e, h.new hp, fun b u e _ => by rw [upd_ne (ne_of_none e hp)]; exact e, fun b u e => ?_⟩
  by_cases q : b = p
  · subst q
    exact .inr hp
  · rw [upd_ne q] at e
    exact .inl e
/-- a new object, not (yet) data -/
theorem GH.side {p : Addr} {o : HO} (h : GH R G H) (hp : G p = none) (hm : ¬ R.M p) : GH R G (upd H p o) := by
  refine ⟨fun b u e => by rw [upd_ne (ne_of_none e hp)]; exact h.s _ _ e, R.st H _ (fun b u hb e => by rw [upd_ne (ne_m hb hm)]; exact e) h.ok, fun b hb => ?_⟩
  obtain ⟨h1, u, h2⟩ := h.m b hb
  exact ⟨h1, u, by rw [upd_ne (ne_m hb hm)]; exact h2⟩
theorem GH.notM {p : Addr} (h : GH R G H) (hp : H p = none) : ¬ R.M p := fun hm => by
  obtain ⟨_, o, e⟩ := h.m p hm
  rw [hp] at e
  cases e
theorem Ext.side {p : Addr} {o : HO} (h : GH R G H) (hp : H p = none) : Ext R G H G (upd H p o) :=
  ⟨Same.refl _, h.side (h.s.free hp) (h.notM hp), fun b u e _ => by rw [upd_ne (ne_of_none e hp)]; exact e, fun _ _ e => .inl e⟩
/-- what was side becomes data -/
theorem GH.adopt {p : Addr} {o : HO} (h : GH R G H) (hp : G p = none) (e : H p = some o) (hm : ¬ R.M p) : GH R (upd G p o) H := by
  refine ⟨fun b u q => ?_, h.ok, fun b hb => ?_⟩
  · by_cases z : b = p
    · subst z
      rw [upd_same] at q
      rw [← q]
      exact e
    · rw [upd_ne z] at q
      exact h.s _ _ q
  · obtain ⟨h1, u, h2⟩ := h.m b hb
    exact ⟨by rw [upd_ne (ne_m hb hm)]; exact h1, u, h2⟩
theorem same_new {p : Addr} {o : HO} (hp : G p = none) : Same G (upd G p o) := fun b u e => by
  rw [upd_ne (ne_of_none e hp)]
  exact e
end

/-- a def's local name: not known; data; a list of its own that grows; an instance that is being made; a list of two dicts of its own -/
inductive Sl where
  | no
  | val (d : D)
  | own (ds : List D)
  | obj (x : Addr) (c : Nat) (ds : List D)
  | grp (k0 k1 : List (Ky × D))
abbrev Rho := List Sl
abbrev TdE := Rho → (D → Prop) → Prop
abbrev TdT := Rho → (Bool → Prop) → Prop
abbrev TdA := Rho → (List D → Prop) → Prop

structure EnvE (m : Pm) (G : Hp) (ρ : Rho) (σ : L2.St) : Prop where
  len : ρ.length = σ.length
  at_ : ∀ (i : Nat) (d : D), ρ[i]? = some (.val d) → ∃ v, σ[i]? = some (some v) ∧ Rep m G v d
theorem EnvE.mono {m : Pm} {G G' : Hp} {ρ : Rho} {σ : L2.St} (h : EnvE m G ρ σ) (e : Same G G') : EnvE m G' ρ σ :=
  ⟨h.len, fun i d q => let ⟨v, h1, h2⟩ := h.at_ i d q; ⟨v, h1, h2.mono e⟩⟩

def SemE (m : Pm) (R : Res) (t : TE) (td : TdE) : Prop := ∀ (ρ : Rho) (σ : L2.St) (G H : Hp) (k : D → Prop) (Q : VK), EnvE m G ρ σ → GH R G H → td ρ k →
  (∀ v d G' H', Ext R G H G' H' → Rep m G' v d → k d → Q v H') → t σ H Q
def SemT (m : Pm) (R : Res) (t : TT) (td : TdT) : Prop := ∀ (ρ : Rho) (σ : L2.St) (G H : Hp) (k : Bool → Prop) (Q : Bool → Hp → Prop), EnvE m G ρ σ → GH R G H → td ρ k →
  (∀ b G' H', Ext R G H G' H' → k b → Q b H') → t σ H Q
def SemA (m : Pm) (R : Res) (t : TA) (td : TdA) : Prop := ∀ (ρ : Rho) (σ : L2.St) (G H : Hp) (k : List D → Prop) (Q : List V → Hp → Prop), EnvE m G ρ σ → GH R G H → td ρ k →
  (∀ vs ds G' H', Ext R G H G' H' → Reps m G' vs ds → k ds → Q vs H') → t σ H Q

structure PD (m : Pm) (R : Res) (X : Cx) (e : Expr) (t : TE) (td : TdE) : Prop where
  pe : PE X e t
  sem : SemE m R t td
structure PDT (m : Pm) (R : Res) (X : Cx) (e : Expr) (t : TT) (td : TdT) : Prop where
  pe : PT X e t
  sem : SemT m R t td
structure PDW (m : Pm) (R : Res) (X : Cx) (e : Expr) (t : TT) (td : TdT) : Prop where
  pe : PW X e t
  sem : SemT m R t td
structure PDA (m : Pm) (R : Res) (X : Cx) (es : List Expr) (t : TA) (td : TdA) : Prop where
  pe : PA X es t
  sem : SemA m R t td
/-- an operation of two values, by values and by data -/
structure OpD (m : Pm) (R : Res) (X : Cx) (f : Value → Value → Sem Value) (r : R2) (op : D → D → (D → Prop) → Prop) : Prop where
  pe : OpR X f r
  sem : ∀ (x y : V) (dx dy : D) (G H : Hp) (k : D → Prop) (Q : VK), GH R G H → Rep m G x dx → Rep m G y dy → op dx dy k →
    (∀ v d G' H', Ext R G H G' H' → Rep m G' v d → k d → Q v H') → r x y H Q
/-- a call by values -/
structure ClD (m : Pm) (R : Res) (X : Cx) (f : Value) (r : List V → Hp → VK → Prop) (op : List D → (D → Prop) → Prop) : Prop where
  pe : CallR X f r
  sem : ∀ (vs : List V) (ds : List D) (G H : Hp) (k : D → Prop) (Q : VK), GH R G H → Reps m G vs ds → op ds k →
    (∀ v d G' H', Ext R G H G' H' → Rep m G' v d → k d → Q v H') → r vs H Q
end Dl
set_option Elab.async false
set_option linter.all false
set_option maxRecDepth 100000
set_option maxHeartbeats 2000000
namespace Dl
open PySem L2

section
variable {m : Pm} {R : Res} {X : Cx}

/-! names, constants -/
def dVar (i : Nat) : TdE := fun ρ k => match ρ[i]? with
  | some (.val d) => k d
  | _ => False
def dC (d : D) : TdE := fun _ k => k d
theorem sem_var (i : Nat) : SemE m R (tVar i) (dVar i) := by
  intro ρ σ G H k Q he gh h q
  unfold dVar at h
  split at h
  · rename_i d e
    obtain ⟨v, h1, h2⟩ := he.at_ i d e
    exact ⟨v, h1, q v d G H (Ext.refl gh) h2 h⟩
  · exact h.elim
theorem sem_c {v : V} {d : D} (r : ∀ G, Rep m G v d) : SemE m R (tC v) (dC d) := fun ρ σ G H k Q he gh h q => q v d G H (Ext.refl gh) (r G) h
theorem pd (i : Nat) {x : Str} {pos : Pos} (hN : X.N[i]? = some x := by rfl) (hv : Vis X.env.scope x := by first | exact Or.inl rfl | exact Or.inr (Or.inl rfl) | exact Or.inr (Or.inr rfl)) (hd : (x == ("__debug__" : Str)) = false := by decide)
    (hcd : (x == ("__classdict__" : Str)) = false := by decide) : PD m R X (.Name x pos) (tVar i) (dVar i) := ⟨pv i hN hv hd hcd, sem_var i⟩
theorem pd_int {i : Int} {j : Nat} {pos : Pos} : PD m R X (.Constant (.int i) j pos) (tC (.int i)) (dC (.int i)) := ⟨pe_int, sem_c fun _ => .int i⟩
theorem pd_bl {b : Bool} {j : Nat} {pos : Pos} : PD m R X (.Constant (.bool b) j pos) (tC (.bl b)) (dC (.bl b)) := ⟨pe_bl, sem_c fun _ => .bl b⟩
theorem pd_non {j : Nat} {pos : Pos} : PD m R X (.Constant .none j pos) (tC .non) (dC .non) := ⟨pe_non, sem_c fun _ => .non⟩
theorem pd_str {s : Str} {j : Nat} {pos : Pos} : PD m R X (.Constant (.str s) j pos) (tC (.str s)) (dC (.str s)) := ⟨pe_str, sem_c fun _ => .str s⟩
theorem pd_globI {x : Str} {i : Int} {t : Tok} {pos : Pos} (hg : Gl X x) (hm : X.mg x = some (.int i t)) (hd : (x == ("__debug__" : Str)) = false := by decide) : PD m R X (.Name x pos) (tC (.int i)) (dC (.int i)) := ⟨pe_glob hg hm ⟨t, rfl⟩ hd, sem_c fun _ => .int i⟩
theorem pd_globS {x : Str} {s : Str} {t : Tok} {pos : Pos} (hg : Gl X x) (hm : X.mg x = some (.str s t)) (hd : (x == ("__debug__" : Str)) = false := by decide) : PD m R X (.Name x pos) (tC (.str s)) (dC (.str s)) := ⟨pe_glob hg hm ⟨t, rfl⟩ hd, sem_c fun _ => .str s⟩

/-! two-place operations -/
def dOp (o : D → D → (D → Prop) → Prop) (da db : TdE) : TdE := fun ρ k => da ρ fun x => db ρ fun y => o x y k
theorem sem_op {r : R2} {o : D → D → (D → Prop) → Prop} {ta tb : TE} {da db : TdE} (ho : ∀ (x y : V) (dx dy : D) (G H : Hp) (k : D → Prop) (Q : VK), GH R G H → Rep m G x dx → Rep m G y dy → o dx dy k →
    (∀ v d G' H', Ext R G H G' H' → Rep m G' v d → k d → Q v H') → r x y H Q) (ha : SemE m R ta da) (hb : SemE m R tb db) : SemE m R (tOp r ta tb) (dOp o da db) := by
  intro ρ σ G H k Q he gh h q
  refine ha ρ σ G H _ _ he gh h fun x dx G1 H1 e1 r1 h1 => ?_
  refine hb ρ σ G1 H1 _ _ (he.mono e1.gg) e1.gh h1 fun y dy G2 H2 e2 r2 h2 => ?_
  exact ho x y dx dy G2 H2 k Q e2.gh (r1.mono e2.gg) r2 h2 fun v d G3 H3 e3 r3 h3 => q v d G3 H3 ((e1.trans e2).trans e3) r3 h3
theorem pd_op {op : Operator} {r : R2} {o : D → D → (D → Prop) → Prop} {a b : Expr} {ta tb : TE} {da db : TdE} {pos : Pos} (ho : OpD m R X (binaryOp op) r o) (ha : PD m R X a ta da) (hb : PD m R X b tb db) :
    PD m R X (.BinOp a op b pos) (tOp r ta tb) (dOp o da db) := ⟨pe_op ho.pe ha.pe hb.pe, sem_op ho.sem ha.sem hb.sem⟩
theorem pd_cmp {op : CmpOp} {r : R2} {o : D → D → (D → Prop) → Prop} {a b : Expr} {ta tb : TE} {da db : TdE} {pos : Pos} (ho : OpD m R X (compareOp op) r o) (ha : PD m R X a ta da) (hb : PD m R X b tb db) (hm : behindInMarks op b = false := by first | exact nomark _ | rfl) :
    PD m R X (.Compare a [op] [b] pos) (tOp r ta tb) (dOp o da db) := ⟨pe_cmpR ho.pe ha.pe hb.pe hm, sem_op ho.sem ha.sem hb.sem⟩
/-- an expression's data as a test -/
def dTest (da : TdE) : TdT := fun ρ k => da ρ fun d => match d with
  | .bl b => k b
  | _ => False
theorem sem_test {ta : TE} {da : TdE} (ha : SemE m R ta da) : SemT m R (tTest ta) (dTest da) := by
  intro ρ σ G H k Q he gh h q
  refine ha ρ σ G H _ _ he gh h fun x dx G1 H1 e1 r1 h1 => ?_
  cases r1 with
  | bl b => exact ⟨b, rfl, q b G1 H1 e1 h1⟩
  | _ => exact h1.elim
theorem pdt_cmp {op : CmpOp} {r : R2} {o : D → D → (D → Prop) → Prop} {a b : Expr} {ta tb : TE} {da db : TdE} {pos : Pos} (ho : OpD m R X (compareOp op) r o) (ha : PD m R X a ta da) (hb : PD m R X b tb db) (hm : behindInMarks op b = false := by first | exact nomark _ | rfl) :
    PDT m R X (.Compare a [op] [b] pos) (tTest (tOp r ta tb)) (dTest (dOp o da db)) := ⟨pt_cmpR ho.pe ha.pe hb.pe hm, sem_test (sem_op ho.sem ha.sem hb.sem)⟩
theorem pdt_val {e : Expr} {t : TE} {d : TdE} (h : PD m R X e t d) (he : ∀ whole, isTrue e X.env whole = (do let v ← whole; standAt e.pos; holding [v] (truthy v)) := by intro _; rfl) : PDT m R X e (tB t) (dTest d) := ⟨pt_val h.pe he, sem_test h.sem⟩

/-! a chain a <= b <= c -/
def dChain (o o' : D → D → (D → Prop) → Prop) (da db dc : TdE) : TdE := fun ρ k => da ρ fun x => db ρ fun y => o x y fun z => match z with
  | .bl b => if b = true then dc ρ fun w => o' y w k else k (.bl false)
  | _ => False
theorem sem_chain {r r' : R2} {o o' : D → D → (D → Prop) → Prop} {op op' : CmpOp} {ta tb tc : TE} {da db dc : TdE} (ho : OpD m R X (compareOp op) r o) (ho' : OpD m R X (compareOp op') r' o') (ha : SemE m R ta da) (hb : SemE m R tb db) (hc : SemE m R tc dc) :
    SemE m R (tChain r r' ta tb tc) (dChain o o' da db dc) := by
  intro ρ σ G H k Q he gh h q
  refine ha ρ σ G H _ _ he gh h fun x dx G1 H1 e1 r1 h1 => ?_
  refine hb ρ σ G1 H1 _ _ (he.mono e1.gg) e1.gh h1 fun y dy G2 H2 e2 r2 h2 => ?_
  refine ho.sem x y dx dy G2 H2 _ _ e2.gh (r1.mono e2.gg) r2 h2 fun z dz G3 H3 e3 r3 h3 => ?_
  cases r3 with
  | bl b =>
    refine ⟨b, rfl, ?_⟩
    cases b with
    | true =>
      refine hc ρ σ G3 H3 _ _ (he.mono (e1.gg.trans (e2.gg.trans e3.gg))) e3.gh h3 fun w dw G4 H4 e4 r4 h4 => ?_
      exact ho'.sem y w dy dw G4 H4 k Q e4.gh (r2.mono (e3.gg.trans e4.gg)) r4 h4 fun v d G5 H5 e5 r5 h5 => q v d G5 H5 ((e1.trans (e2.trans (e3.trans e4))).trans e5) r5 h5
    | false => exact q (.bl false) (.bl false) G3 H3 (e1.trans (e2.trans e3)) (.bl false) h3
  | _ => exact h3.elim
theorem pd_chain {r r' : R2} {o o' : D → D → (D → Prop) → Prop} {op op' : CmpOp} {a b c : Expr} {ta tb tc : TE} {da db dc : TdE} {pos : Pos} (ho : OpD m R X (compareOp op) r o) (ho' : OpD m R X (compareOp op') r' o') (ha : PD m R X a ta da) (hb : PD m R X b tb db) (hc : PD m R X c tc dc)
    (hm : lastMarks [op, op'] [b, c] = false := by with_unfolding_all rfl) : PD m R X (.Compare a [op, op'] [b, c] pos) (tChain r r' ta tb tc) (dChain o o' da db dc) :=
  ⟨pe_chain ho.pe ho'.pe ha.pe hb.pe hc.pe hm, sem_chain ho ho' ha.sem hb.sem hc.sem⟩
theorem pdt_chain {r r' : R2} {o o' : D → D → (D → Prop) → Prop} {op op' : CmpOp} {a b c : Expr} {ta tb tc : TE} {da db dc : TdE} {pos : Pos} (ho : OpD m R X (compareOp op) r o) (ho' : OpD m R X (compareOp op') r' o') (ha : PD m R X a ta da) (hb : PD m R X b tb db) (hc : PD m R X c tc dc)
    (hm : lastMarks [op, op'] [b, c] = false := by with_unfolding_all rfl) : PDT m R X (.Compare a [op, op'] [b, c] pos) (tTest (tChain r r' ta tb tc)) (dTest (dChain o o' da db dc)) :=
  ⟨pt_chain ho.pe ho'.pe ha.pe hb.pe hc.pe hm, sem_test (sem_chain ho ho' ha.sem hb.sem hc.sem)⟩

/-! and, or, not, if else -/
def dAnd (t u : TdT) : TdT := fun ρ k => t ρ fun b => if b = true then u ρ k else k false
def dOr (t u : TdT) : TdT := fun ρ k => t ρ fun b => if b = true then k true else u ρ k
def dNot (t : TdT) : TdT := fun ρ k => t ρ fun b => k (!b)
def dAndV (t u : TdE) : TdE := fun ρ k => t ρ fun d => match d with
  | .bl b => if b = true then u ρ k else k (.bl false)
  | _ => False
def dOrV (t u : TdE) : TdE := fun ρ k => t ρ fun d => match d with
  | .bl b => if b = true then k (.bl true) else u ρ k
  | _ => False
def dNotV (t : TdE) : TdE := fun ρ k => t ρ fun d => match d with
  | .bl b => k (.bl (!b))
  | _ => False
def dIf (t : TdT) (a b : TdE) : TdE := fun ρ k => t ρ fun c => if c = true then a ρ k else b ρ k
theorem sem_and {t u : TT} {dt du : TdT} (ht : SemT m R t dt) (hu : SemT m R u du) : SemT m R (tAnd t u) (dAnd dt du) := by
  intro ρ σ G H k Q he gh h q
  refine ht ρ σ G H _ _ he gh h fun b G1 H1 e1 h1 => ?_
  cases b with
  | true => exact hu ρ σ G1 H1 k Q (he.mono e1.gg) e1.gh h1 fun c G2 H2 e2 h2 => q c G2 H2 (e1.trans e2) h2
  | false => exact q false G1 H1 e1 h1
theorem sem_or {t u : TT} {dt du : TdT} (ht : SemT m R t dt) (hu : SemT m R u du) : SemT m R (tOr t u) (dOr dt du) := by
  intro ρ σ G H k Q he gh h q
  refine ht ρ σ G H _ _ he gh h fun b G1 H1 e1 h1 => ?_
  cases b with
  | true => exact q true G1 H1 e1 h1
  | false => exact hu ρ σ G1 H1 k Q (he.mono e1.gg) e1.gh h1 fun c G2 H2 e2 h2 => q c G2 H2 (e1.trans e2) h2
theorem sem_not {t : TT} {dt : TdT} (ht : SemT m R t dt) : SemT m R (tNot t) (dNot dt) := by
  intro ρ σ G H k Q he gh h q
  exact ht ρ σ G H _ _ he gh h fun b G1 H1 e1 h1 => q (!b) G1 H1 e1 h1
theorem sem_andV {t u : TE} {dt du : TdE} (ht : SemE m R t dt) (hu : SemE m R u du) : SemE m R (tAndV t u) (dAndV dt du) := by
  intro ρ σ G H k Q he gh h q
  refine ht ρ σ G H _ _ he gh h fun x d G1 H1 e1 r1 h1 => ?_
  cases r1 with
  | bl b =>
    refine ⟨b, rfl, ?_⟩
    cases b with
    | true => exact hu ρ σ G1 H1 k Q (he.mono e1.gg) e1.gh h1 fun v d G2 H2 e2 r2 h2 => q v d G2 H2 (e1.trans e2) r2 h2
    | false => exact q _ _ G1 H1 e1 (.bl false) h1
  | _ => exact h1.elim
theorem sem_orV {t u : TE} {dt du : TdE} (ht : SemE m R t dt) (hu : SemE m R u du) : SemE m R (tOrV t u) (dOrV dt du) := by
  intro ρ σ G H k Q he gh h q
  refine ht ρ σ G H _ _ he gh h fun x d G1 H1 e1 r1 h1 => ?_
  cases r1 with
  | bl b =>
    refine ⟨b, rfl, ?_⟩
    cases b with
    | true => exact q _ _ G1 H1 e1 (.bl true) h1
    | false => exact hu ρ σ G1 H1 k Q (he.mono e1.gg) e1.gh h1 fun v d G2 H2 e2 r2 h2 => q v d G2 H2 (e1.trans e2) r2 h2
  | _ => exact h1.elim
theorem sem_notV {t : TE} {dt : TdE} (ht : SemE m R t dt) : SemE m R (tNotV t) (dNotV dt) := by
  intro ρ σ G H k Q he gh h q
  refine ht ρ σ G H _ _ he gh h fun x d G1 H1 e1 r1 h1 => ?_
  cases r1 with
  | bl b => exact ⟨b, rfl, q _ _ G1 H1 e1 (.bl (!b)) h1⟩
  | _ => exact h1.elim
theorem sem_if {t : TT} {ta tb : TE} {dt : TdT} {da db : TdE} (ht : SemT m R t dt) (ha : SemE m R ta da) (hb : SemE m R tb db) : SemE m R (tIf t ta tb) (dIf dt da db) := by
  intro ρ σ G H k Q he gh h q
  refine ht ρ σ G H _ _ he gh h fun b G1 H1 e1 h1 => ?_
  cases b with
  | true => exact ha ρ σ G1 H1 k Q (he.mono e1.gg) e1.gh h1 fun v d G2 H2 e2 r2 h2 => q v d G2 H2 (e1.trans e2) r2 h2
  | false => exact hb ρ σ G1 H1 k Q (he.mono e1.gg) e1.gh h1 fun v d G2 H2 e2 r2 h2 => q v d G2 H2 (e1.trans e2) r2 h2
variable {a b c : Expr} {rest : List Expr} {pos : Pos} {t u : TT} {dt du : TdT} {ta tb : TE} {da db : TdE}
theorem pdw_and1 (ha : PDT m R X a t dt) : PDW m R X (.BoolOp .And [a] pos) t dt := ⟨pw_and1 ha.pe, ha.sem⟩
theorem pdw_or1 (ha : PDT m R X a t dt) : PDW m R X (.BoolOp .Or [a] pos) t dt := ⟨pw_or1 ha.pe, ha.sem⟩
theorem pdw_and (ha : PDT m R X a t dt) (hb : PDW m R X (.BoolOp .And (b :: rest) pos) u du) : PDW m R X (.BoolOp .And (a :: b :: rest) pos) (tAnd t u) (dAnd dt du) := ⟨pw_and ha.pe hb.pe, sem_and ha.sem hb.sem⟩
theorem pdw_or (ha : PDT m R X a t dt) (hb : PDW m R X (.BoolOp .Or (b :: rest) pos) u du) : PDW m R X (.BoolOp .Or (a :: b :: rest) pos) (tOr t u) (dOr dt du) := ⟨pw_or ha.pe hb.pe, sem_or ha.sem hb.sem⟩
theorem PDW.pt {e : Expr} (h : PDW m R X e t dt) : PDT m R X e t dt := ⟨h.pe.pt, h.sem⟩
theorem pdt_not (ha : PDT m R X a t dt) : PDT m R X (.UnaryOp .Not a pos) (tNot t) (dNot dt) := ⟨pt_not ha.pe, sem_not ha.sem⟩
theorem pd_one {op : PySem.BoolOp} (h : PD m R X a ta da) : PD m R X (.BoolOp op [a] pos) ta da := ⟨pe_one h.pe, h.sem⟩
theorem pd_and (ha : PD m R X a ta da) (hb : PD m R X (.BoolOp .And (b :: rest) pos) tb db) : PD m R X (.BoolOp .And (a :: b :: rest) pos) (tAndV ta tb) (dAndV da db) := ⟨pe_and ha.pe hb.pe, sem_andV ha.sem hb.sem⟩
theorem pd_or (ha : PD m R X a ta da) (hb : PD m R X (.BoolOp .Or (b :: rest) pos) tb db) : PD m R X (.BoolOp .Or (a :: b :: rest) pos) (tOrV ta tb) (dOrV da db) := ⟨pe_or ha.pe hb.pe, sem_orV ha.sem hb.sem⟩
theorem pd_not (ha : PD m R X a ta da) : PD m R X (.UnaryOp .Not a pos) (tNotV ta) (dNotV da) := ⟨pe_not ha.pe, sem_notV ha.sem⟩
theorem pd_if (hc : PDT m R X c t dt) (ha : PD m R X a ta da) (hb : PD m R X b tb db) : PD m R X (.IfExp c a b pos) (tIf t ta tb) (dIf dt da db) := ⟨pe_ifExp hc.pe ha.pe hb.pe, sem_if hc.sem ha.sem hb.sem⟩
end
end Dl
set_option Elab.async false
set_option linter.all false
set_option maxRecDepth 100000
set_option maxHeartbeats 2000000
namespace Dl
open PySem L2

/-! == of data -/
mutual
def D.eqb : D → D → Bool
  | .non, .non => true
  | .bl a, .bl b => a == b
  | .int a, .int b => a == b
  | .str a, .str b => a == b
  | .tup a, .tup b => D.eqbs a b
  | .lst a, .lst b => D.eqbs a b
  | _, _ => false
def D.eqbs : List D → List D → Bool
  | [], [] => true
  | a :: as, b :: bs => D.eqb a b && D.eqbs as bs
  | _, _ => false
end
mutual
/-- None, ints, tuples and lists of these, at most n deep -/
def D.nob : D → Nat → Bool
  | .non, _ => true
  | .int _, _ => true
  | .tup l, n => (match n with
    | 0 => false
    | n + 1 => D.nobs l n)
  | .lst l, n => (match n with
    | 0 => false
    | n + 1 => D.nobs l n)
  | .str s, _ => (PyData.str s).canLay0
  | .bl _, _ => false
  | .ins _ _, _ => false
  | .dct _, _ => false
  | .raw _, _ => false
def D.nobs : List D → Nat → Bool
  | [], _ => true
  | a :: as, n => D.nob a n && D.nobs as n
end
mutual
def D.toP : D → PyData
  | .non => .none
  | .int i => .int i
  | .str s => .str s
  | .tup l => .tuple (D.toPs l)
  | .lst l => .list (D.toPs l)
  | _ => .none
def D.toPs : List D → List PyData
  | [] => []
  | a :: as => D.toP a :: D.toPs as
end
mutual
theorem nob_eqv : ∀ (n k : Nat) (a b : D), a.nob n = true → b.nob k = true → PyData.eqv a.toP b.toP = a.eqb b
  | n, k, a, b, ha, hb => by
    cases a <;> cases b <;> first
      | rfl
      | (simp [D.nob] at ha; done)
      | (simp [D.nob] at hb; done)
      | (simp only [D.toP, D.eqb, PyData.eqv]; done)
      | skip
    case tup.tup l l' =>
      cases n with
      | zero => simp [D.nob] at ha
      | succ n =>
        cases k with
        | zero => simp [D.nob] at hb
        | succ k =>
          simp only [D.toP, D.eqb, PyData.eqv]
          exact nobs_eqv n k l l' (by simpa [D.nob] using ha) (by simpa [D.nob] using hb)
    case lst.lst l l' =>
      cases n with
      | zero => simp [D.nob] at ha
      | succ n =>
        cases k with
        | zero => simp [D.nob] at hb
        | succ k =>
          simp only [D.toP, D.eqb, PyData.eqv]
          exact nobs_eqv n k l l' (by simpa [D.nob] using ha) (by simpa [D.nob] using hb)
theorem nobs_eqv : ∀ (n k : Nat) (a b : List D), D.nobs a n = true → D.nobs b k = true → PyData.eqvAll (D.toPs a) (D.toPs b) = D.eqbs a b
  | _, _, [], [], _, _ => by simp only [D.toPs, D.eqbs, PyData.eqvAll]
  | _, _, [], _ :: _, _, _ => by simp only [D.toPs, D.eqbs, PyData.eqvAll]
  | _, _, _ :: _, [], _, _ => by simp only [D.toPs, D.eqbs, PyData.eqvAll]
  | n, k, a :: as, b :: bs, ha, hb => by
    simp only [D.nobs, Bool.and_eq_true] at ha hb
    simp only [D.toPs, D.eqbs, PyData.eqvAll]
    rw [nob_eqv n k a b ha.1 hb.1, nobs_eqv n k as bs ha.2 hb.2]
end
mutual
theorem nob_lay : ∀ (n : Nat) (a : D), a.nob n = true → a.toP.canLay0 = true ∧ a.toP.depth ≤ n + 1
  | n, a, ha => by
    cases a <;> first
      | (simp [D.nob] at ha; done)
      | (simp [D.toP, PyData.canLay0, PyData.depth]; done)
      | skip
    case str s =>
      refine ⟨ha, ?_⟩
      simp [D.toP, PyData.depth]
    case tup l =>
      cases n with
      | zero => simp [D.nob] at ha
      | succ n =>
        obtain ⟨h1, h2⟩ := nobs_lay n l (by simpa [D.nob] using ha)
        simp only [D.toP, PyData.canLay0, PyData.depth]
        exact ⟨h1, by omega⟩
    case lst l =>
      cases n with
      | zero => simp [D.nob] at ha
      | succ n =>
        obtain ⟨h1, h2⟩ := nobs_lay n l (by simpa [D.nob] using ha)
        simp only [D.toP, PyData.canLay0, PyData.depth]
        exact ⟨h1, by omega⟩
theorem nobs_lay : ∀ (n : Nat) (a : List D), D.nobs a n = true → PyData.canLayAll0 (D.toPs a) = true ∧ PyData.depthAll (D.toPs a) ≤ n + 1
  | _, [], _ => by simp [D.toPs, PyData.canLayAll0, PyData.depthAll]
  | n, a :: as, ha => by
    simp only [D.nobs, Bool.and_eq_true] at ha
    obtain ⟨h1, h2⟩ := nob_lay n a ha.1
    obtain ⟨h3, h4⟩ := nobs_lay n as ha.2
    simp only [D.toPs, PyData.canLayAll0, PyData.depthAll, h1, h3]
    exact ⟨rfl, by omega⟩
end
theorem nob_shaped {n : Nat} {a : D} (hn : n ≤ 60) (h : a.nob n = true) : SeqAt.shaped a.toP = true := by
  obtain ⟨h1, h2⟩ := nob_lay n a h
  unfold SeqAt.shaped
  rw [h1]
  simp only [Bool.true_and, decide_eq_true_eq]
  omega
mutual
theorem Rep.dp {m : Pm} {K : PySem.W.Frag} {G H : Hp} (e : Same G H) : ∀ (n : Nat) {v : V} {d : D}, d.nob n = true → Rep m G v d → Dp K H v d.toP
  | _, _, _, _, .non => .non
  | _, _, _, _, .int i => .int i
  | _, _, _, _, .str s => .str s
  | n + 1, _, _, hd, .tup h r => .tup (SqT.of (e _ _ h)) (Reps.dp e n (by simpa [D.nob] using hd) r)
  | n + 1, _, _, hd, .lst h r => .lst (SqL.of (e _ _ h)) (Reps.dp e n (by simpa [D.nob] using hd) r)
  | 0, _, _, hd, .tup h r => by simp [D.nob] at hd
  | 0, _, _, hd, .lst h r => by simp [D.nob] at hd
  | _, _, _, hd, .bl _ => by simp [D.nob] at hd
  | _, _, _, hd, .ins _ _ _ => by simp [D.nob] at hd
  | _, _, _, hd, .dct _ _ _ => by simp [D.nob] at hd
  | _, _, _, hd, .raw _ => by simp [D.nob] at hd
theorem Reps.dp {m : Pm} {K : PySem.W.Frag} {G H : Hp} (e : Same G H) : ∀ (n : Nat) {vs : List V} {ds : List D}, D.nobs ds n = true → Reps m G vs ds → DpAll K H vs (D.toPs ds)
  | _, _, _, _, .nil => .nil
  | n, _, _, hd, .cons a r => by
    simp only [D.nobs, Bool.and_eq_true] at hd
    exact .cons (Rep.dp e n hd.1 a) (Reps.dp e n hd.2 r)
end

section
variable {m : Pm} {R : Res} {X : Cx}
/-- scalars: None, bools, ints, texts -/
def D.sc : D → Option V
  | .non => some .non
  | .bl b => some (.bl b)
  | .int i => some (.int i)
  | .str s => some (.str s)
  | _ => none
theorem Rep.sc_eq {G : Hp} {v u : V} {d : D} (r : Rep m G v d) (e : d.sc = some u) : v = u := by
  cases r <;> simp [D.sc] at e <;> exact e
def opEq (neg : Bool) (x y : D) (k : D → Prop) : Prop := match x.sc, y.sc with
  | some a, some b => scal a b = true ∧ k (.bl (if neg then !decide (a = b) else decide (a = b)))
  | _, _ => (∃ n, n ≤ 60 ∧ x.nob n = true ∧ y.nob n = true) ∧ k (.bl (if neg then !x.eqb y else x.eqb y))
theorem od_eq (hu : X.A.units + 64 < cLine) : OpD m R X (compareOp .Eq) (fun x y H Q => rEq x y H Q ∨ rEqD X.K x y H Q) (opEq false) := by
  refine ⟨OpR.or op_eq (op_eqD hu), fun x y dx dy G H k Q gh rx ry h q => ?_⟩
  unfold opEq at h
  split at h
  · rename_i a b ea eb
    rw [rx.sc_eq ea, ry.sc_eq eb]
    exact .inl ⟨h.1, q _ _ G H (Ext.refl gh) (.bl _) h.2⟩
  · obtain ⟨⟨n, hn, h1, h2⟩, h3⟩ := h
    refine .inr ⟨dx.toP, dy.toP, rx.dp gh.s n h1, ry.dp gh.s n h2, nob_shaped hn h1, nob_shaped hn h2, ?_⟩
    rw [nob_eqv n n dx dy h1 h2]
    exact q _ _ G H (Ext.refl gh) (.bl _) h3
theorem od_ne (hu : X.A.units + 64 < cLine) : OpD m R X (compareOp .NotEq) (fun x y H Q => rNe x y H Q ∨ rNeD X.K x y H Q) (opEq true) := by
  refine ⟨OpR.or op_ne (op_neD hu), fun x y dx dy G H k Q gh rx ry h q => ?_⟩
  unfold opEq at h
  split at h
  · rename_i a b ea eb
    rw [rx.sc_eq ea, ry.sc_eq eb]
    exact .inl ⟨h.1, q _ _ G H (Ext.refl gh) (.bl _) h.2⟩
  · obtain ⟨⟨n, hn, h1, h2⟩, h3⟩ := h
    refine .inr ⟨dx.toP, dy.toP, rx.dp gh.s n h1, ry.dp gh.s n h2, nob_shaped hn h1, nob_shaped hn h2, ?_⟩
    rw [nob_eqv n n dx dy h1 h2]
    exact q _ _ G H (Ext.refl gh) (.bl _) h3

/-! ints -/
def opI (C : Int → Int → Prop) (g : Int → Int → D) (x y : D) (k : D → Prop) : Prop := match x, y with
  | .int i, .int j => C i j ∧ k (g i j)
  | _, _ => False
def opI0 (g : Int → Int → D) (x y : D) (k : D → Prop) : Prop := match x, y with
  | .int i, .int j => k (g i j)
  | _, _ => False
theorem od_I {f : Value → Value → Sem Value} {C : Int → Int → Prop} {g : Int → Int → V} {g' : Int → Int → D} (h : OpR X f (rI C g)) (hr : ∀ i j G, Rep m G (g i j) (g' i j)) : OpD m R X f (rI C g) (opI C g') := by
  refine ⟨h, fun x y dx dy G H k Q gh rx ry h q => ?_⟩
  cases rx with
  | int i => cases ry with
    | int j => exact ⟨i, j, rfl, rfl, h.1, q _ _ G H (Ext.refl gh) (hr i j G) h.2⟩
    | _ => exact h.elim
  | _ => exact h.elim
theorem od_I0 {f : Value → Value → Sem Value} {g : Int → Int → V} {g' : Int → Int → D} (h : OpR X f (rI0 g)) (hr : ∀ i j G, Rep m G (g i j) (g' i j)) : OpD m R X f (rI0 g) (opI0 g') := by
  refine ⟨h, fun x y dx dy G H k Q gh rx ry h q => ?_⟩
  cases rx with
  | int i => cases ry with
    | int j => exact ⟨i, j, rfl, rfl, q _ _ G H (Ext.refl gh) (hr i j G) h⟩
    | _ => exact h.elim
  | _ => exact h.elim
theorem od_sub : OpD m R X (binaryOp .Sub) (rI0 fun i j => .int (i - j)) (opI0 fun i j => .int (i - j)) := od_I0 op_sub fun _ _ _ => .int _
theorem od_mod : OpD m R X (binaryOp .Mod) (rI (fun _ j => 0 < j) fun i j => .int (i % j)) (opI (fun _ j => 0 < j) fun i j => .int (i % j)) := od_I op_mod fun _ _ _ => .int _
theorem od_fdiv : OpD m R X (binaryOp .FloorDiv) (rI CDiv fun i j => .int (i / j)) (opI CDiv fun i j => .int (i / j)) := od_I op_fdiv fun _ _ _ => .int _
theorem od_pow : OpD m R X (binaryOp .Pow) (rI CPow fun i j => .int (i ^ j.toNat)) (opI CPow fun i j => .int (i ^ j.toNat)) := od_I op_pow fun _ _ _ => .int _
theorem od_lt : OpD m R X (compareOp .Lt) (rI0 fun i j => .bl (decide (i < j))) (opI0 fun i j => .bl (decide (i < j))) := od_I0 op_lt fun _ _ _ => .bl _
theorem od_le : OpD m R X (compareOp .LtE) (rI0 fun i j => .bl (decide (i ≤ j))) (opI0 fun i j => .bl (decide (i ≤ j))) := od_I0 op_le fun _ _ _ => .bl _
theorem od_gt : OpD m R X (compareOp .Gt) (rI0 fun i j => .bl (decide (j < i))) (opI0 fun i j => .bl (decide (j < i))) := od_I0 op_gt fun _ _ _ => .bl _
theorem od_ge : OpD m R X (compareOp .GtE) (rI0 fun i j => .bl (decide (j ≤ i))) (opI0 fun i j => .bl (decide (j ≤ i))) := od_I0 op_ge fun _ _ _ => .bl _

/-! + of ints, tuples, lists -/
def opAdd (x y : D) (k : D → Prop) : Prop := match x, y with
  | .int i, .int j => k (.int (i + j))
  | .tup a, .tup b => a.length + b.length ≤ sizeLine ∧ k (.tup (a ++ b))
  | .lst a, .lst b => a.length + b.length ≤ sizeLine ∧ k (.lst (a ++ b))
  | _, _ => False
theorem Rep.newT {G : Hp} {p : Addr} {vs : List V} {ds : List D} (hp : G p = none) (r : Reps m G vs ds) : Rep m (upd G p (.tup vs)) (.ref p) (.tup ds) := .tup upd_same (r.mono (same_new hp))
theorem Rep.newL {G : Hp} {p : Addr} {vs : List V} {ds : List D} (hp : G p = none) (r : Reps m G vs ds) : Rep m (upd G p (.lst vs)) (.ref p) (.lst ds) := .lst upd_same (r.mono (same_new hp))
theorem Reps.nil_iff {G : Hp} {vs : List V} {ds : List D} (r : Reps m G vs ds) : vs = [] ↔ ds = [] := by
  cases r with
  | nil => simp
  | cons _ _ => simp
theorem od_add : OpD m R X (binaryOp .Add) (fun x y H Q => rI0 (fun i j => .int (i + j)) x y H Q ∨ rCatA X.K x y H Q ∨ rCat x y H Q) opAdd := by
  refine ⟨OpR.or op_add (OpR.or op_catA op_cat), fun x y dx dy G H k Q gh rx ry h q => ?_⟩
  cases rx with
  | int i => cases ry with
    | int j => exact .inl ⟨i, j, rfl, rfl, q _ _ G H (Ext.refl gh) (.int _) h⟩
    | _ => exact h.elim
  | @tup a va la ha ra => cases ry with
    | @tup b vb lb hb rb =>
      obtain ⟨h1, h2⟩ := h
      refine .inr (.inl ⟨a, b, va, vb, rfl, rfl, SqT.of (gh.s _ _ ha), SqT.of (gh.s _ _ hb), by rw [ra.length, rb.length]; exact h1, fun e => ?_, fun _ e => ?_, fun _ _ p hp => ?_⟩)
      · have e2 := ra.nil_iff.mp e
        rw [e2, List.nil_append] at h2
        exact q _ _ G H (Ext.refl gh) (.tup hb rb) h2
      · have e2 := rb.nil_iff.mp e
        rw [e2, List.append_nil] at h2
        exact q _ _ G H (Ext.refl gh) (.tup ha ra) h2
      · exact q _ _ _ _ (Ext.new gh hp) (Rep.newT (gh.s.free hp) (ra.append rb)) h2
    | _ => exact h.elim
  | @lst a va la ha ra => cases ry with
    | @lst b vb lb hb rb =>
      obtain ⟨h1, h2⟩ := h
      refine .inr (.inr ⟨a, b, va, vb, rfl, rfl, gh.s _ _ ha, gh.s _ _ hb, by rw [ra.length, rb.length]; exact h1, fun p hp => ?_⟩)
      exact q _ _ _ _ (Ext.new gh hp) (Rep.newL (gh.s.free hp) (ra.append rb)) h2
    | _ => exact h.elim
  | _ => exact h.elim

/-! * of ints, of a list and an int -/
def opMul (x y : D) (k : D → Prop) : Prop := match x, y with
  | .int i, .int j => CMul i j ∧ k (.int (i * j))
  | .lst a, .int j => (-(2 ^ 63) ≤ j ∧ j < 2 ^ 63) ∧ a.length * j.toNat ≤ sizeLine ∧ k (.lst (List.replicate j.toNat a).flatten)
  | _, _ => False
theorem Reps.rep {G : Hp} {vs : List V} {ds : List D} (r : Reps m G vs ds) : ∀ n : Nat, Reps m G (List.replicate n vs).flatten (List.replicate n ds).flatten
  | 0 => .nil
  | n + 1 => by
    simp only [List.replicate_succ, List.flatten_cons]
    exact r.append (r.rep n)
theorem od_mul : OpD m R X (binaryOp .Mult) (fun x y H Q => rI CMul (fun i j => .int (i * j)) x y H Q ∨ rRep x y H Q) opMul := by
  refine ⟨OpR.or op_mul op_rep, fun x y dx dy G H k Q gh rx ry h q => ?_⟩
  cases rx with
  | int i => cases ry with
    | int j => exact .inl ⟨i, j, rfl, rfl, h.1, q _ _ G H (Ext.refl gh) (.int _) h.2⟩
    | _ => exact h.elim
  | @lst a va la ha ra => cases ry with
    | int j =>
      obtain ⟨h1, h2, h3⟩ := h
      refine .inr ⟨a, j, va, rfl, rfl, gh.s _ _ ha, h1.1, h1.2, by rw [ra.length]; exact h2, fun p hp => ?_⟩
      exact q _ _ _ _ (Ext.new gh hp) (Rep.newL (gh.s.free hp) (ra.rep _)) h3
    | _ => exact h.elim
  | _ => exact h.elim

/-! is None -/
def opIs (neg : Bool) (x y : D) (k : D → Prop) : Prop := match x, y with
  | .non, .non => k (.bl (!neg))
  | .raw _, _ => False
  | _, .non => k (.bl neg)
  | _, _ => False
theorem od_is : OpD m R X (compareOp .Is) (fun x y H Q => y = .non ∧ Q (.bl (decide (x = .non))) H) (opIs false) := by
  refine ⟨op_isN, fun x y dx dy G H k Q gh rx ry h q => ?_⟩
  cases ry with
  | non =>
    refine ⟨rfl, ?_⟩
    cases rx <;> first | exact h.elim | exact q _ _ G H (Ext.refl gh) (.bl _) (by simpa [opIs] using h)
  | _ => cases rx <;> exact h.elim
theorem od_isn : OpD m R X (compareOp .IsNot) (fun x y H Q => y = .non ∧ Q (.bl (!decide (x = .non))) H) (opIs true) := by
  refine ⟨op_notN, fun x y dx dy G H k Q gh rx ry h q => ?_⟩
  cases ry with
  | non =>
    refine ⟨rfl, ?_⟩
    cases rx <;> first | exact h.elim | exact q _ _ G H (Ext.refl gh) (.bl _) (by simpa [opIs] using h)
  | _ => cases rx <;> exact h.elim

/-! x in a tuple or list of flat things -/
def D.scs : List D → Option (List V)
  | [] => some []
  | d :: ds => match d.sc, D.scs ds with
    | some v, some vs => some (v :: vs)
    | _, _ => none
theorem Reps.scs_eq {G : Hp} : ∀ {vs us : List V} {ds : List D}, Reps m G vs ds → D.scs ds = some us → vs = us
  | _, _, _, .nil, e => by
    simp [D.scs] at e
    exact e.symm
  | _, _, _, .cons a r, e => by
    unfold D.scs at e
    split at e
    · rename_i u us h1 h2
      cases e
      rw [a.sc_eq h1, Reps.scs_eq r h2]
    · cases e
theorem sc_flat {d : D} {v : V} (e : d.sc = some v) : flatV v = true := by
  cases d <;> simp [D.sc] at e <;> subst e <;> rfl
theorem scs_flat : ∀ {ds : List D} {vs : List V}, D.scs ds = some vs → vs.all flatV = true
  | [], _, e => by
    simp [D.scs] at e
    subst e
    rfl
  | d :: ds, _, e => by
    unfold D.scs at e
    split at e
    · rename_i u us h1 h2
      cases e
      rw [List.all_cons, sc_flat h1, scs_flat h2]
      rfl
    · cases e
def opIn (neg : Bool) (x y : D) (k : D → Prop) : Prop := match x.sc, y with
  | some v, .tup l => (match D.scs l with
    | some vs => k (.bl (if neg then !inV v vs else inV v vs))
    | none => False)
  | some v, .lst l => (match D.scs l with
    | some vs => k (.bl (if neg then !inV v vs else inV v vs))
    | none => False)
  | _, _ => False
theorem sem_in {neg : Bool} (x y : V) (dx dy : D) (G H : Hp) (k : D → Prop) (Q : VK) (gh : GH R G H) (rx : Rep m G x dx) (ry : Rep m G y dy) (h : opIn neg dx dy k)
    (q : ∀ v d G' H', Ext R G H G' H' → Rep m G' v d → k d → Q v H') : rIn X.K neg x y H Q := by
  unfold opIn at h
  split at h
  · rename_i v l e
    split at h
    · rename_i vs e2
      cases ry with
      | @tup a va _ ha ra =>
        refine ⟨a, va, rfl, .inr (SqT.of (gh.s _ _ ha)), ?_, ?_, ?_⟩
        · rw [rx.sc_eq e]; exact sc_flat e
        · rw [ra.scs_eq e2]; exact scs_flat e2
        · rw [ra.scs_eq e2, rx.sc_eq e]
          exact q _ _ G H (Ext.refl gh) (.bl _) h
    · exact h.elim
  · rename_i v l e
    split at h
    · rename_i vs e2
      cases ry with
      | @lst a va _ ha ra =>
        refine ⟨a, va, rfl, .inl (SqL.of (gh.s _ _ ha)), ?_, ?_, ?_⟩
        · rw [rx.sc_eq e]; exact sc_flat e
        · rw [ra.scs_eq e2]; exact scs_flat e2
        · rw [ra.scs_eq e2, rx.sc_eq e]
          exact q _ _ G H (Ext.refl gh) (.bl _) h
    · exact h.elim
  · exact h.elim
theorem od_in : OpD m R X (compareOp .In) (rIn X.K false) (opIn false) := ⟨op_in_seq, sem_in⟩
theorem od_nin : OpD m R X (compareOp .NotIn) (rIn X.K true) (opIn true) := ⟨op_notIn_seq, sem_in⟩
end
end Dl
set_option Elab.async false
set_option linter.all false
set_option maxRecDepth 100000
set_option maxHeartbeats 2000000
namespace Dl
open PySem L2

section
variable {m : Pm} {R : Res} {X : Cx} {e o : Expr} {es : List Expr} {te tl th : TE} {de dl dh : TdE} {t : TA} {dt : TdA} {pos p p2 : Pos} {x : Str}

/-! arguments, displays -/
def dNil : TdA := fun _ k => k []
def dCons (a : TdE) (r : TdA) : TdA := fun ρ k => a ρ fun d => r ρ fun ds => k (d :: ds)
def dStar (a : TdE) (r : TdA) : TdA := fun ρ k => a ρ fun d => match d with
  | .tup l => r ρ fun ds => k (l ++ ds)
  | .lst l => r ρ fun ds => k (l ++ ds)
  | _ => False
def dTup (a : TdA) : TdE := fun ρ k => a ρ fun ds => ds.length ≤ sizeLine ∧ k (.tup ds)
def dLst (a : TdA) : TdE := fun ρ k => a ρ fun ds => ds.length ≤ sizeLine ∧ k (.lst ds)
theorem pda_nil : PDA m R X [] tNil dNil := ⟨pa_nil, fun ρ σ G H k Q he gh h q => q [] [] G H (Ext.refl gh) .nil h⟩
theorem sem_cons (ha : SemE m R te de) (hr : SemA m R t dt) : SemA m R (tCons te t) (dCons de dt) := by
  intro ρ σ G H k Q he gh h q
  refine ha ρ σ G H _ _ he gh h fun v d G1 H1 e1 r1 h1 => ?_
  exact hr ρ σ G1 H1 _ _ (he.mono e1.gg) e1.gh h1 fun vs ds G2 H2 e2 r2 h2 => q _ _ G2 H2 (e1.trans e2) (.cons (r1.mono e2.gg) r2) h2
theorem pda_cons (ha : PD m R X e te de) (hr : PDA m R X es t dt) (hs : starEach (e :: es) X.env = (false, eval e X.env) :: starEach es X.env := by rfl) : PDA m R X (e :: es) (tCons te t) (dCons de dt) := ⟨pa_cons ha.pe hr.pe hs, sem_cons ha.sem hr.sem⟩
theorem pda_star (ha : PD m R X e te de) (hr : PDA m R X es t dt) (hs : starEach (.Starred e p :: es) X.env = (true, eval e X.env) :: starEach es X.env := by rfl) : PDA m R X (.Starred e p :: es) (StX.tStar X.K te t) (dStar de dt) := by
  refine ⟨StX.pa_star ha.pe hr.pe hs, fun ρ σ G H k Q he gh h q => ?_⟩
  refine ha.sem ρ σ G H _ _ he gh h fun v d G1 H1 e1 r1 h1 => ?_
  cases r1 with
  | @tup a vs ds hx rs => exact ⟨a, vs, rfl, .inl (SqT.of (e1.gh.s _ _ hx)), hr.sem ρ σ G1 H1 _ _ (he.mono e1.gg) e1.gh h1 fun us bs G2 H2 e2 r2 h2 => q _ _ G2 H2 (e1.trans e2) ((rs.mono e2.gg).append r2) h2⟩
  | @lst a vs ds hx rs => exact ⟨a, vs, rfl, .inr (SqL.of (e1.gh.s _ _ hx)), hr.sem ρ σ G1 H1 _ _ (he.mono e1.gg) e1.gh h1 fun us bs G2 H2 e2 r2 h2 => q _ _ G2 H2 (e1.trans e2) ((rs.mono e2.gg).append r2) h2⟩
  | _ => exact h1.elim
theorem sem_tup (ha : SemA m R t dt) : SemE m R (tTup t) (dTup dt) := by
  intro ρ σ G H k Q he gh h q
  refine ha ρ σ G H _ _ he gh h fun vs ds G1 H1 e1 r1 h1 => ⟨by rw [r1.length]; exact h1.1, fun a na => ?_⟩
  exact q _ _ _ _ (e1.trans (Ext.new e1.gh na)) (Rep.newT (e1.gh.s.free na) r1) h1.2
theorem sem_lst (ha : SemA m R t dt) : SemE m R (tLst t) (dLst dt) := by
  intro ρ σ G H k Q he gh h q
  refine ha ρ σ G H _ _ he gh h fun vs ds G1 H1 e1 r1 h1 => ⟨by rw [r1.length]; exact h1.1, fun a na => ?_⟩
  exact q _ _ _ _ (e1.trans (Ext.new e1.gh na)) (Rep.newL (e1.gh.s.free na) r1) h1.2
theorem pd_tup {y : Nat} (h : PDA m R X es t dt) : PD m R X (.Tuple es y pos) (tTup t) (dTup dt) := ⟨pe_tup h.pe, sem_tup h.sem⟩
theorem pd_lst (h : PDA m R X es t dt) : PD m R X (.List es pos) (tLst t) (dLst dt) := ⟨pe_lst h.pe, sem_lst h.sem⟩

/-! - of an int -/
def dNeg (a : TdE) : TdE := fun ρ k => a ρ fun d => match d with
  | .int i => k (.int (-i))
  | _ => False
theorem pd_neg (h : PD m R X e te de) : PD m R X (.UnaryOp .USub e pos) (tUn (rU fun i => .int (-i)) te) (dNeg de) := by
  refine ⟨pe_un un_neg h.pe, fun ρ σ G H k Q he gh hw q => ?_⟩
  refine h.sem ρ σ G H _ _ he gh hw fun v d G1 H1 e1 r1 h1 => ?_
  cases r1 with
  | int i => exact ⟨i, rfl, q _ _ G1 H1 e1 (.int _) h1⟩
  | _ => exact h1.elim

/-! items, cuts -/
def opIx (x y : D) (k : D → Prop) : Prop := match x, y with
  | .tup l, .int i => (match atI l i with
    | some d => k d
    | none => False)
  | .lst l, .int i => (match atI l i with
    | some d => k d
    | none => False)
  | _, _ => False
theorem Reps.atI {G : Hp} {vs : List V} {ds : List D} {i : Int} {d : D} (r : Reps m G vs ds) (e : atI ds i = some d) : ∃ v, L2.atI vs i = some v ∧ Rep m G v d := by
  unfold L2.atI at e ⊢
  rw [r.length]
  cases h : ixN ds.length i with
  | none => simp [h] at e
  | some j =>
    rw [h] at e
    exact r.get (by simpa using e)
theorem sem_ix (x y : V) (dx dy : D) (G H : Hp) (k : D → Prop) (Q : VK) (gh : GH R G H) (rx : Rep m G x dx) (ry : Rep m G y dy) (h : opIx dx dy k)
    (q : ∀ v d G' H', Ext R G H G' H' → Rep m G' v d → k d → Q v H') : rIxT X.K x y H Q ∨ rIxL X.K x y H Q := by
  cases rx with
  | @tup a va la ha ra => cases ry with
    | int i =>
      have h : (match atI la i with
        | some d => k d
        | none => False) := h
      split at h
      · rename_i d e
        obtain ⟨v, e1, r1⟩ := ra.atI e
        exact .inl ⟨a, va, i, v, rfl, rfl, SqT.of (gh.s _ _ ha), e1, q _ _ G H (Ext.refl gh) r1 h⟩
      · exact h.elim
    | _ => exact h.elim
  | @lst a va la ha ra => cases ry with
    | int i =>
      have h : (match atI la i with
        | some d => k d
        | none => False) := h
      split at h
      · rename_i d e
        obtain ⟨v, e1, r1⟩ := ra.atI e
        exact .inr ⟨a, va, i, v, rfl, rfl, SqL.of (gh.s _ _ ha), e1, q _ _ G H (Ext.refl gh) r1 h⟩
      · exact h.elim
    | _ => exact h.elim
  | _ => exact h.elim
theorem pd_ix (ha : PD m R X e te de) (hb : PD m R X o tl dl) (hs : PlainIx o := by exact fun _ _ => rfl) : PD m R X (.Subscript e o pos) (tOp (fun x y H Q => rIxT X.K x y H Q ∨ rIxL X.K x y H Q) te tl) (dOp opIx de dl) :=
  ⟨pe_ix (IxR.or ix_tup ix_list) ha.pe hb.pe hs, sem_op sem_ix ha.sem hb.sem⟩
def cutL {α : Type} (l : List α) (lo hi : Option Int) : List α := (l.drop (HT.sIx l.length 0 lo)).take (HT.sIx l.length l.length hi - HT.sIx l.length 0 lo)
theorem Reps.cut {G : Hp} {vs : List V} {ds : List D} (r : Reps m G vs ds) (lo hi : Option Int) : Reps m G (cutV vs lo hi) (cutL ds lo hi) := by
  unfold cutV cutL
  rw [r.length]
  exact (r.drop _).take _
theorem cutL_all {α : Type} (l : List α) {lo hi : Option Int} (h : HT.sIx l.length 0 lo = 0 ∧ HT.sIx l.length l.length hi = l.length) : cutL l lo hi = l := by
  unfold cutL
  rw [h.1, h.2]
  simp
abbrev TdO := Rho → (Option Int → Prop) → Prop
def SemO (m : Pm) (R : Res) (t : TO) (td : TdO) : Prop := ∀ (ρ : Rho) (σ : L2.St) (G H : Hp) (k : Option Int → Prop) (Q : Option Int → Hp → Prop), EnvE m G ρ σ → GH R G H → td ρ k →
  (∀ b G' H', Ext R G H G' H' → k b → Q b H') → t σ H Q
structure PDO (m : Pm) (R : Res) (X : Cx) (e : Option Expr) (t : TO) (td : TdO) : Prop where
  pe : PO X e t
  sem : SemO m R t td
def dNoPart : TdO := fun _ k => k none
def dPart (a : TdE) : TdO := fun ρ k => a ρ fun d => match d with
  | .int i => k (some i)
  | _ => False
theorem pdo_none : PDO m R X none tNoPart dNoPart := ⟨po_none, fun ρ σ G H k Q he gh h q => q none G H (Ext.refl gh) h⟩
theorem pdo_some (h : PD m R X e te de) : PDO m R X (some e) (tPart te) (dPart de) := by
  refine ⟨po_some h.pe, fun ρ σ G H k Q he gh hw q => ?_⟩
  refine h.sem ρ σ G H _ _ he gh hw fun v d G1 H1 e1 r1 h1 => ?_
  cases r1 with
  | int i => exact ⟨i, rfl, q _ G1 H1 e1 h1⟩
  | _ => exact h1.elim
def dSl (a : TdE) (l h : TdO) : TdE := fun ρ k => a ρ fun x => l ρ fun lo => h ρ fun hi => match x with
  | .tup ds => k (.tup (cutL ds lo hi))
  | .lst ds => k (.lst (cutL ds lo hi))
  | _ => False
theorem pd_slice {lo hi : Option Expr} {tlo thi : TO} {dlo dhi : TdO} (ha : PD m R X e te de) (hl : PDO m R X lo tlo dlo) (hh : PDO m R X hi thi dhi) :
    PD m R X (.Subscript e (.Slice lo hi none p2) pos) (tSl (fun x lo hi H Q => rSlA X.K x lo hi H Q ∨ rSlL X.K x lo hi H Q) te tlo thi) (dSl de dlo dhi) := by
  refine ⟨pe_slice (SlR.or sl_tupA sl_list) ha.pe hl.pe hh.pe, fun ρ σ G H k Q he gh h q => ?_⟩
  refine ha.sem ρ σ G H _ _ he gh h fun v d G1 H1 e1 r1 h1 => ?_
  refine hl.sem ρ σ G1 H1 _ _ (he.mono e1.gg) e1.gh h1 fun lo G2 H2 e2 h2 => ?_
  refine hh.sem ρ σ G2 H2 _ _ (he.mono (e1.gg.trans e2.gg)) e2.gh h2 fun hi G3 H3 e3 h3 => ?_
  have e12 := e1.trans (e2.trans e3)
  cases r1 with
  | @tup a va la hx ra =>
    have hx3 : G3 a = some (.tup va) := e3.gg _ _ (e2.gg _ _ hx)
    have ra3 := ra.mono (e2.gg.trans e3.gg)
    refine .inl ⟨a, va, rfl, SqT.of (e3.gh.s _ _ hx3), fun hw => ?_, fun _ p hp => ?_⟩
    · have h3 : k (.tup (cutL la lo hi)) := h3
      rw [cutL_all la (by rw [← ra.length]; exact hw)] at h3
      exact q _ _ G3 H3 e12 (.tup hx3 ra3) h3
    · exact q _ _ _ _ (e12.trans (Ext.new e3.gh hp)) (Rep.newT (e3.gh.s.free hp) (ra3.cut lo hi)) h3
  | @lst a va la hx ra =>
    have hx3 : G3 a = some (.lst va) := e3.gg _ _ (e2.gg _ _ hx)
    have ra3 := ra.mono (e2.gg.trans e3.gg)
    exact .inr ⟨a, va, rfl, SqL.of (e3.gh.s _ _ hx3), fun p hp => q _ _ _ _ (e12.trans (Ext.new e3.gh hp)) (Rep.newL (e3.gh.s.free hp) (ra3.cut lo hi)) h3⟩
  | _ => exact h3.elim

/-! calls of built-ins -/
def dCall (f : List D → (D → Prop) → Prop) (a : TdA) : TdE := fun ρ k => a ρ fun ds => f ds k
theorem sem_call {r : List V → Hp → VK → Prop} {f : List D → (D → Prop) → Prop} (hc : ∀ (vs : List V) (ds : List D) (G H : Hp) (k : D → Prop) (Q : VK), GH R G H → Reps m G vs ds → f ds k → (∀ v d G' H', Ext R G H G' H' → Rep m G' v d → k d → Q v H') → r vs H Q)
    (ha : SemA m R t dt) : SemE m R (tCB r t) (dCall f dt) := by
  intro ρ σ G H k Q he gh h q
  refine ha ρ σ G H _ _ he gh h fun vs ds G1 H1 e1 r1 h1 => ?_
  exact hc vs ds G1 H1 k Q e1.gh r1 h1 fun v d G2 H2 e2 r2 h2 => q v d G2 H2 (e1.trans e2) r2 h2
theorem pd_callB {id : String} {r : List V → Hp → VK → Prop} {f : List D → (D → Prop) → Prop} (hc : ClD m R X (.builtin id) r f) (hg : Gl X x) (hm : X.mg x = none) (hv : bootBuiltins x = some (.builtin id)) (ha : PDA m R X (e :: es) t dt) (hn : x ≠ "__name__" := by decide) (hdb : (x == ("__debug__" : Str)) = false := by decide)
    (he : starEach (e :: es) X.env = (false, eval e X.env) :: starEach es X.env := by rfl) (hpl : (backTo pos (starEach es X.env)).any (·.1) = false := by rfl) : PD m R X (.Call (.Name x p) (e :: es) [] pos) (tCB r t) (dCall f dt) := ⟨pe_callB hc.pe hg hm hv ha.pe hn hdb he hpl, sem_call hc.sem ha.sem⟩
theorem pd_callTy {T : String} {r : List V → Hp → VK → Prop} {f : List D → (D → Prop) → Prop} (hc : ClD m R X (.type T) r f) (hg : Gl X x) (hm : X.mg x = none) (hv : bootBuiltins x = some (.type T)) (ha : PDA m R X (e :: es) t dt) (hn : x ≠ "__name__" := by decide) (hdb : (x == ("__debug__" : Str)) = false := by decide)
    (he : starEach (e :: es) X.env = (false, eval e X.env) :: starEach es X.env := by rfl) (hpl : (backTo pos (starEach es X.env)).any (·.1) = false := by rfl) : PD m R X (.Call (.Name x p) (e :: es) [] pos) (tCB r t) (dCall f dt) := ⟨pe_callTy hc.pe hg hm hv ha.pe hn hdb he hpl, sem_call hc.sem ha.sem⟩

def fLen (ds : List D) (k : D → Prop) : Prop := match ds with
  | [.tup l] => k (.int l.length)
  | [.lst l] => k (.int l.length)
  | _ => False
theorem cd_len : ClD m R X (.builtin "len") (fun xs H Q => ∃ p ys, xs = [.ref p] ∧ (SqL X.K H p ys ∨ SqT X.K H p ys) ∧ Q (.int ys.length) H) fLen := by
  refine ⟨call_len_seq, fun vs ds G H k Q gh r h q => ?_⟩
  cases r with
  | nil => exact h.elim
  | cons a r => cases r with
    | cons _ _ => cases a <;> exact h.elim
    | nil => cases a with
      | @tup a va la ha ra => exact ⟨a, va, rfl, .inr (SqT.of (gh.s _ _ ha)), by rw [ra.length]; exact q _ _ G H (Ext.refl gh) (.int _) h⟩
      | @lst a va la ha ra => exact ⟨a, va, rfl, .inl (SqL.of (gh.s _ _ ha)), by rw [ra.length]; exact q _ _ G H (Ext.refl gh) (.int _) h⟩
      | _ => exact h.elim
def fAbs (ds : List D) (k : D → Prop) : Prop := match ds with
  | [.int i] => k (.int (if i < 0 then -i else i))
  | _ => False
theorem cd_abs : ClD m R X (.builtin "abs") (fun xs H Q => ∃ i, xs = [.int i] ∧ Q (.int (if i < 0 then -i else i)) H) fAbs := by
  refine ⟨call_abs, fun vs ds G H k Q gh r h q => ?_⟩
  cases r with
  | nil => exact h.elim
  | cons a r => cases r with
    | cons _ _ => cases a <;> exact h.elim
    | nil => cases a with
      | int i => exact ⟨i, rfl, q _ _ G H (Ext.refl gh) (.int _) h⟩
      | _ => exact h.elim
def D.ints : List D → Option (List Int)
  | [] => some []
  | .int i :: ds => (D.ints ds).map (i :: ·)
  | _ :: _ => none
theorem Reps.of_intsO {G : Hp} : ∀ {vs : List V} {ds : List D} {ns : List Int}, Reps m G vs ds → D.ints ds = some ns → vs = ns.map V.int
  | _, _, _, .nil, e => by
    cases e
    rfl
  | _, _, _, .cons a r, e => by
    cases a <;> simp [D.ints] at e
    obtain ⟨ns, e1, rfl⟩ := e
    rw [Reps.of_intsO r e1]
    rfl
theorem D.ints_map (l : List Int) : D.ints (l.map D.int) = some l := by
  induction l with
  | nil => rfl
  | cons i r ih => simp [D.ints, ih]
def D.bls : List D → Option (List Bool)
  | [] => some []
  | .bl i :: ds => (D.bls ds).map (i :: ·)
  | _ :: _ => none
theorem Reps.of_blsO {G : Hp} : ∀ {vs : List V} {ds : List D} {ns : List Bool}, Reps m G vs ds → D.bls ds = some ns → vs = ns.map V.bl
  | _, _, _, .nil, e => by
    cases e
    rfl
  | _, _, _, .cons a r, e => by
    cases a <;> simp [D.bls] at e
    obtain ⟨ns, e1, rfl⟩ := e
    rw [Reps.of_blsO r e1]
    rfl
theorem D.bls_map (l : List Bool) : D.bls (l.map D.bl) = some l := by
  induction l with
  | nil => rfl
  | cons i r ih => simp [D.bls, ih]
/-- of two ints, or of a list of ints -/
def fMax (ds : List D) (k : D → Prop) : Prop := match ds with
  | [.int i, .int j] => k (.int (if j > i then j else i))
  | [.lst l] => (match D.ints l with
    | some ns => 0 < ns.length ∧ ∀ m, m ∈ ns → (∀ y, y ∈ ns → y ≤ m) → k (.int m)
    | none => False)
  | _ => False
def fMin (ds : List D) (k : D → Prop) : Prop := match ds with
  | [.int i, .int j] => k (.int (if j < i then j else i))
  | [.lst l] => (match D.ints l with
    | some ns => 0 < ns.length ∧ ∀ m, m ∈ ns → (∀ y, y ∈ ns → m ≤ y) → k (.int m)
    | none => False)
  | _ => False
theorem cd_max (hc : X.calm = true) : ClD m R X (.builtin "max") (fun xs H Q => (∃ i j, xs = [.int i, .int j] ∧ Q (.int (if j > i then j else i)) H) ∨ rMax X.K xs H Q) fMax := by
  refine ⟨CallR.or (call_max2 hc) (cr_max hc), fun vs ds G H k Q gh r h q => ?_⟩
  unfold fMax at h
  split at h
  · rename_i i j
    cases r with
    | cons a r => cases r with
      | cons b r => cases r with
        | nil => cases a with
          | int _ => cases b with
            | int _ => exact .inl ⟨i, j, rfl, q _ _ G H (Ext.refl gh) (.int _) h⟩
  · rename_i l
    split at h
    · rename_i ns e
      cases r with
      | cons a r => cases r with
        | nil => cases a with
          | @lst a va la ha ra =>
            refine .inr ⟨a, ns, rfl, ?_, h.1, fun m h1 h2 => q _ _ G H (Ext.refl gh) (.int _) (h.2 m h1 h2)⟩
            rw [← ra.of_intsO e]
            exact SqL.of (gh.s _ _ ha)
    · exact h.elim
  · exact h.elim
theorem cd_min (hc : X.calm = true) : ClD m R X (.builtin "min") (fun xs H Q => (∃ i j, xs = [.int i, .int j] ∧ Q (.int (if j < i then j else i)) H) ∨ rMin X.K xs H Q) fMin := by
  refine ⟨CallR.or (call_min2 hc) (cr_min hc), fun vs ds G H k Q gh r h q => ?_⟩
  unfold fMin at h
  split at h
  · rename_i i j
    cases r with
    | cons a r => cases r with
      | cons b r => cases r with
        | nil => cases a with
          | int _ => cases b with
            | int _ => exact .inl ⟨i, j, rfl, q _ _ G H (Ext.refl gh) (.int _) h⟩
  · rename_i l
    split at h
    · rename_i ns e
      cases r with
      | cons a r => cases r with
        | nil => cases a with
          | @lst a va la ha ra =>
            refine .inr ⟨a, ns, rfl, ?_, h.1, fun m h1 h2 => q _ _ G H (Ext.refl gh) (.int _) (h.2 m h1 h2)⟩
            rw [← ra.of_intsO e]
            exact SqL.of (gh.s _ _ ha)
    · exact h.elim
  · exact h.elim
def fSum (ds : List D) (k : D → Prop) : Prop := match ds with
  | [.lst l] => (match D.ints l with
    | some ns => k (.int ns.sum)
    | none => False)
  | _ => False
theorem cd_sum (hc : X.calm = true) : ClD m R X (.builtin "sum") (rSum X.K) fSum := by
  refine ⟨cr_sum hc, fun vs ds G H k Q gh r h q => ?_⟩
  unfold fSum at h
  split at h
  · rename_i l
    split at h
    · rename_i ns e
      cases r with
      | cons a r => cases r with
        | nil => cases a with
          | @lst a va la ha ra =>
            refine ⟨a, ns, rfl, ?_, q _ _ G H (Ext.refl gh) (.int _) h⟩
            rw [← ra.of_intsO e]
            exact SqL.of (gh.s _ _ ha)
    · exact h.elim
  · exact h.elim
def fAll (ds : List D) (k : D → Prop) : Prop := match ds with
  | [.lst l] => (match D.bls l with
    | some ns => k (.bl (ns.all id))
    | none => False)
  | _ => False
def fAny (ds : List D) (k : D → Prop) : Prop := match ds with
  | [.lst l] => (match D.bls l with
    | some ns => k (.bl (ns.any id))
    | none => False)
  | _ => False
theorem cd_all (hc : X.calm = true) : ClD m R X (.builtin "all") (rAll X.K) fAll := by
  refine ⟨cr_all hc, fun vs ds G H k Q gh r h q => ?_⟩
  unfold fAll at h
  split at h
  · rename_i l
    split at h
    · rename_i ns e
      cases r with
      | cons a r => cases r with
        | nil => cases a with
          | @lst a va la ha ra =>
            refine ⟨a, ns, rfl, ?_, q _ _ G H (Ext.refl gh) (.bl _) h⟩
            rw [← ra.of_blsO e]
            exact SqL.of (gh.s _ _ ha)
    · exact h.elim
  · exact h.elim
theorem cd_any (hc : X.calm = true) : ClD m R X (.builtin "any") (rAny X.K) fAny := by
  refine ⟨cr_any hc, fun vs ds G H k Q gh r h q => ?_⟩
  unfold fAny at h
  split at h
  · rename_i l
    split at h
    · rename_i ns e
      cases r with
      | cons a r => cases r with
        | nil => cases a with
          | @lst a va la ha ra =>
            refine ⟨a, ns, rfl, ?_, q _ _ G H (Ext.refl gh) (.bl _) h⟩
            rw [← ra.of_blsO e]
            exact SqL.of (gh.s _ _ ha)
    · exact h.elim
  · exact h.elim
def fList (ds : List D) (k : D → Prop) : Prop := match ds with
  | [.tup l] => k (.lst l)
  | [.lst l] => k (.lst l)
  | _ => False
theorem cd_list : ClD m R X (.type "list") (fun xs H Q => ∃ p ys, xs = [.ref p] ∧ (SqL X.K H p ys ∨ SqT X.K H p ys) ∧ ∀ l, H l = none → Q (.ref l) (upd H l (.lst ys))) fList := by
  refine ⟨call_list_of, fun vs ds G H k Q gh r h q => ?_⟩
  cases r with
  | nil => exact h.elim
  | cons a r => cases r with
    | cons _ _ => cases a <;> exact h.elim
    | nil => cases a with
      | @tup a va la ha ra => exact ⟨a, va, rfl, .inr (SqT.of (gh.s _ _ ha)), fun l hl => q _ _ _ _ (Ext.new gh hl) (Rep.newL (gh.s.free hl) ra) h⟩
      | @lst a va la ha ra => exact ⟨a, va, rfl, .inl (SqL.of (gh.s _ _ ha)), fun l hl => q _ _ _ _ (Ext.new gh hl) (Rep.newL (gh.s.free hl) ra) h⟩
      | _ => exact h.elim
def fTuple (ds : List D) (k : D → Prop) : Prop := match ds with
  | [.tup l] => k (.tup l)
  | [.lst l] => k (.tup l)
  | _ => False
theorem cd_tuple : ClD m R X (.type "tuple") (fun xs H Q => ∃ p ys, xs = [.ref p] ∧ ((SqL X.K H p ys ∧ ∀ l, H l = none → Q (.ref l) (upd H l (.tup ys))) ∨ (SqT X.K H p ys ∧ Q (.ref p) H))) fTuple := by
  refine ⟨call_tuple_of, fun vs ds G H k Q gh r h q => ?_⟩
  cases r with
  | nil => exact h.elim
  | cons a r => cases r with
    | cons _ _ => cases a <;> exact h.elim
    | nil => cases a with
      | @tup a va la ha ra => exact ⟨a, va, rfl, .inr ⟨SqT.of (gh.s _ _ ha), q _ _ G H (Ext.refl gh) (.tup ha ra) h⟩⟩
      | @lst a va la ha ra => exact ⟨a, va, rfl, .inl ⟨SqL.of (gh.s _ _ ha), fun l hl => q _ _ _ _ (Ext.new gh hl) (Rep.newT (gh.s.free hl) ra) h⟩⟩
      | _ => exact h.elim
def fInt (ds : List D) (k : D → Prop) : Prop := match ds with
  | [.int i] => k (.int i)
  | [.bl b] => k (.int (if b then 1 else 0))
  | _ => False
theorem cd_int : ClD m R X (.type "int") (fun xs H Q => (∃ i, xs = [.int i] ∧ Q (.int i) H) ∨ ∃ k, xs = [.bl k] ∧ Q (.int (if k then 1 else 0)) H) fInt := by
  refine ⟨call_int1, fun vs ds G H k Q gh r h q => ?_⟩
  cases r with
  | nil => exact h.elim
  | cons a r => cases r with
    | cons _ _ => cases a <;> exact h.elim
    | nil => cases a with
      | int i => exact .inl ⟨i, rfl, q _ _ G H (Ext.refl gh) (.int _) h⟩
      | bl b => exact .inr ⟨b, rfl, q _ _ G H (Ext.refl gh) (.int _) h⟩
      | _ => exact h.elim
end
end Dl
set_option Elab.async false
set_option linter.all false
set_option maxRecDepth 100000
set_option maxHeartbeats 2000000
namespace Dl
open PySem L2

/-- a promise over data -/
abbrev DSp := Res → List D → (D → Prop) → Prop
def spD (m : Pm) (f : DSp) : Sp := fun vs H Q _ => ∃ R ds G k, Reps m G vs ds ∧ GH R G H ∧ f R ds k ∧ ∀ v d G' H', Ext R G H G' H' → Rep m G' v d → k d → Q v H'

section
variable {m : Pm} {R : Res} {X : Cx} {e o fe : Expr} {es : List Expr} {te tl th tf : TE} {de dl dh df : TdE} {t : TA} {dt : TdA} {pos p p2 apos : Pos} {x nm : Str} {n k j : Nat} {g f : Addr} {sp : DSp}

/-- the callee of a positional promise runs (one step of the C stack below) -/
theorem run_in1 {pins : List (Addr × Obj)} {σ : L2.St} {H : Hp} {s : Shared} {k : Nat} {f : Addr} {sp : Sp} {Q : VK} {us : List Value} {vs : List V} {Ex : Value → Shared → Prop} (F : FnR X.prog X.w X.K X.mg X.base CX0 k f sp) (hr : Room (k + 1) X.A) (I : Inv X pins σ H s) (r : Vals vs us) (h : sp vs H Q E0) :
    wpAny (model X.prog X.w) X.A.in1 (call (.ref f) us) (EP X pins σ Q) Ex s := by
  refine wpAny_call (codeAny_mono (F X.A.in1 X.stack s H us vs Q E0 hr.in1 I.env0.in1 r h) fun z s' hq => ?_)
  cases z with
  | error er => exact False.elim hq
  | ok fl =>
    cases fl with
    | ret u => exact I.after hq
    | next => exact False.elim hq
    | brk => exact False.elim hq
    | cont => exact False.elim hq
theorem run_in0 {pins : List (Addr × Obj)} {σ : L2.St} {H : Hp} {s : Shared} {k : Nat} {f : Addr} {sp : Sp} {Q : VK} {us : List Value} {vs : List V} (F : FnR X.prog X.w X.K X.mg X.base CX0 k f sp) (hr : Room k X.A) (I : Inv X pins σ H s) (r : Vals vs us) (h : sp vs H Q E0) :
    wpAny (model X.prog X.w) X.A (call (.ref f) us) (EP X pins σ Q) X.xe s := wpAny_call (run_fnR F hr pass0 I r h)

/-! a def's call -/
theorem pe_callR {spr : Sp} (F : FnR X.prog X.w X.K X.mg X.base CX0 k f spr) (hr : Room k X.A) (hg : Gl X x) (hm : X.mg x = some (.ref f)) (hk : PySem.W.keepIn X.K (.ref f) = true) (ha : PA X (e :: es) t)
    (hdb : (x == ("__debug__" : Str)) = false := by decide) (he : starEach (e :: es) X.env = (false, eval e X.env) :: starEach es X.env := by rfl) (hpl : (backTo pos (starEach es X.env)).any (·.1) = false := by rfl) :
    PE X (.Call (.Name x p) (e :: es) [] pos) (tCB (fun vs H Q => spr vs H Q E0) t) := by
  refine ⟨fun pins s σ H Q I hw => wpAny_Call_Name_kw (ld_glob I hg hm ?_ hdb)⟩
  exact PySem.W.callWith_K (h₀ := X.base) I.ok.mod.kin hk (thn (ha.run pos pins s σ H _ I hw) fun us s1 ⟨vs, H1, I1, r, q⟩ => ⟨I1.kIn, run_in0 F hr I1 r q⟩) he hpl
theorem sem_spD (vs : List V) (ds : List D) (G H : Hp) (kk : D → Prop) (Q : VK) (gh : GH R G H) (r : Reps m G vs ds) (h : sp R ds kk) (q : ∀ v d G' H', Ext R G H G' H' → Rep m G' v d → kk d → Q v H') : spD m sp vs H Q E0 :=
  ⟨R, ds, G, kk, r, gh, h, q⟩
theorem pd_call (F : FnR X.prog X.w X.K X.mg X.base CX0 k f (spD m sp)) (hr : Room k X.A) (hg : Gl X x) (hm : X.mg x = some (.ref f)) (hk : PySem.W.keepIn X.K (.ref f) = true) (ha : PDA m R X (e :: es) t dt)
    (hdb : (x == ("__debug__" : Str)) = false := by decide) (he : starEach (e :: es) X.env = (false, eval e X.env) :: starEach es X.env := by rfl) (hpl : (backTo pos (starEach es X.env)).any (·.1) = false := by rfl) :
    PD m R X (.Call (.Name x p) (e :: es) [] pos) (tCB (fun vs H Q => spD m sp vs H Q E0) t) (dCall (sp R) dt) := ⟨pe_callR F hr hg hm hk ha.pe hdb he hpl, sem_call (fun vs ds G H kk Q gh r h q => sem_spD vs ds G H kk Q gh r h q) ha.sem⟩

/-! what a class has: its number n -/
structure ClsN (m : Pm) (K : PySem.W.Frag) (n : Nat) : Prop where
  cls : Cls K (m.cl n)
  nd : (m.nm n).Nodup
/-- an attribute -/
def dFld (n i : Nat) (a : TdE) : TdE := fun ρ k => a ρ fun d => match d with
  | .ins c ds => c = n ∧ (match ds[i]? with
    | some d => k d
    | none => False)
  | _ => False
theorem pd_fld (i : Nat) (he : PD m R X e te de) (C : ClsN m X.K n) (hi : (m.nm n)[i]? = some nm) (na : NoAttr X.K (m.cl n) nm) (hb : attributeBase e nm X.env (eval e X.env) = eval e X.env := by rfl) :
    PD m R X (.Attribute e nm pos) (tFld X.K te nm) (dFld n i de) := by
  refine ⟨pe_fld he.pe hb, fun ρ σ G H kk Q hv gh h q => ?_⟩
  refine he.sem ρ σ G H _ _ hv gh h fun v d G1 H1 e1 r1 h1 => ?_
  cases r1 with
  | @ins a dx c vs ds ha hz rs =>
    obtain ⟨rfl, h1⟩ := h1
    split at h1
    · rename_i d hd
      obtain ⟨v, hv1, rv⟩ := rs.get hd
      exact ⟨a, m.cl c, dx, _, v, rfl, e1.gh.s _ _ ha, C.cls, na, look_zip C.nd hi hv1, q _ _ G1 H1 e1 rv h1⟩
    · exact h1.elim
  | _ => exact h1.elim

/-- a method's call, by data: the object first -/
def dMeth (n : Nat) (f : List D → (D → Prop) → Prop) (a : TdE) (r : TdA) : TdE := fun ρ k => a ρ fun d => match d with
  | .ins c l => c = n ∧ r ρ fun ds => f (.ins c l :: ds) k
  | _ => False
theorem pd_meth {pl : Sem Bool} (he : PD m R X o te de) (C : ClsN m X.K n) (M : Meth X.K (m.cl n) nm f) (nn : nm ∉ m.nm n) (F : FnR X.prog X.w X.K X.mg X.base CX0 k f (spD m sp)) (hr : Room k X.A) (ha : PDA m R X (e :: es) t dt)
    (hst : starEach (e :: es) X.env = (false, eval e X.env) :: starEach es X.env := by rfl) (hpl : (backTo pos (starEach es X.env)).any (·.1) = false := by rfl)
    (ht : eval (.Call (.Attribute o nm apos) (e :: es) [] pos) X.env = (do
      let ov ← eval o X.env
      standAt apos.atName
      let (f, first) ← holding [ov] (getMethod ov nm pl)
      callWith pos f first (backTo pos (starEach (e :: es) X.env)) (backToKw pos (keywordEach [] X.env))) := by rfl) :
    PD m R X (.Call (.Attribute o nm apos) (e :: es) [] pos) (tMethR (m.cl n) nm (spD m sp) E0 te t) (dMeth n (sp R) de dt) := by
  refine ⟨pe_methR he.pe C.cls M F hr pass0 ha.pe hst hpl ht, fun ρ σ G H kk Q hv gh h q => ?_⟩
  refine he.sem ρ σ G H _ _ hv gh h fun v d G1 H1 e1 r1 h1 => ?_
  cases r1 with
  | @ins a dx c vs ds hx hz rs =>
    obtain ⟨rfl, h1⟩ := h1
    refine ⟨a, dx, _, rfl, e1.gh.s _ _ hx, look_zipN nn, ?_⟩
    refine ha.sem ρ σ G1 H1 _ _ (hv.mono e1.gg) e1.gh h1 fun us bs G2 H2 e2 r2 h2 => ?_
    exact ⟨R, _, G2, kk, .cons (.ins (e2.gg _ _ hx) hz (rs.mono e2.gg)) r2, e2.gh, h2, fun v d G3 H3 e3 r3 h3 => q v d G3 H3 ((e1.trans e2).trans e3) r3 h3⟩
  | _ => exact h1.elim
theorem pe_meth0R {spr : Sp} {C : Addr} {pl : Sem Bool} (he : PE X o te) (c : Cls X.K C) (M : Meth X.K C nm f) (F : FnR X.prog X.w X.K X.mg X.base CX0 k f spr) (hr : Room k X.A)
    (ht : eval (.Call (.Attribute o nm apos) [] [] pos) X.env = (do
      let ov ← eval o X.env
      standAt apos.atName
      let (f, first) ← holding [ov] (getMethod ov nm pl)
      callWith pos f first (backTo pos (starEach [] X.env)) (backToKw pos (keywordEach [] X.env))) := by rfl) :
    PE X (.Call (.Attribute o nm apos) [] [] pos) (tMethR C nm spr E0 te tNil) := by
  refine ⟨fun pins s σ H Q I hw => ?_⟩
  refine PySem.W.methodCall_KW (pl := pl) (thn (he.run pins s σ H _ I hw) fun u s1 ⟨x, H1, I1, rx, a, dx, fs, ex, ea, l, q⟩ => ?_) ht
  subst ex
  cases rx
  exact getmeth_ok I1 ea c M l (PySem.W.callWith_K0 (first := [.ref a]) I1.kIn M.kp (run_in0 (us := [.ref a]) (vs := [.ref a]) F hr I1 (.cons rfl .nil) q))
theorem pd_meth0 {pl : Sem Bool} (he : PD m R X o te de) (C : ClsN m X.K n) (M : Meth X.K (m.cl n) nm f) (nn : nm ∉ m.nm n) (F : FnR X.prog X.w X.K X.mg X.base CX0 k f (spD m sp)) (hr : Room k X.A)
    (ht : eval (.Call (.Attribute o nm apos) [] [] pos) X.env = (do
      let ov ← eval o X.env
      standAt apos.atName
      let (f, first) ← holding [ov] (getMethod ov nm pl)
      callWith pos f first (backTo pos (starEach [] X.env)) (backToKw pos (keywordEach [] X.env))) := by rfl) :
    PD m R X (.Call (.Attribute o nm apos) [] [] pos) (tMethR (m.cl n) nm (spD m sp) E0 te tNil) (dMeth n (sp R) de dNil) := by
  refine ⟨pe_meth0R he.pe C.cls M F hr ht, fun ρ σ G H kk Q hv gh h q => ?_⟩
  refine he.sem ρ σ G H _ _ hv gh h fun v d G1 H1 e1 r1 h1 => ?_
  cases r1 with
  | @ins a dx c vs ds hx hz rs =>
    obtain ⟨rfl, h1⟩ := h1
    exact ⟨a, dx, _, rfl, e1.gh.s _ _ hx, look_zipN nn, R, _, G1, kk, .cons (.ins hx hz rs) .nil, e1.gh, h1, fun v d G3 H3 e3 r3 h3 => q v d G3 H3 (e1.trans e3) r3 h3⟩
  | _ => exact h1.elim
/-- a property -/
theorem pd_prop {fd : FuncData} {ps : List Str} {pa : Addr} (he : PD m R X e te de) (C : ClsN m X.K n) (hp : PropOf X.K (m.cl n) nm pa g) (F : FnOk X.prog X.w X.K X.mg X.base CX0 k g fd ps (spD m sp)) (hb : Binds X.K fd ps []) (hr : Room (k + 1) X.A)
    (hab : attributeBase e nm X.env (eval e X.env) = eval e X.env := by rfl) : PD m R X (.Attribute e nm pos) (tProp (m.cl n) (spD m sp) [] E0 te) (dMeth n (sp R) de dNil) := by
  refine ⟨pe_prop he.pe C.cls hp F hr hb .nil pass0 hab, fun ρ σ G H kk Q hv gh h q => ?_⟩
  refine he.sem ρ σ G H _ _ hv gh h fun v d G1 H1 e1 r1 h1 => ?_
  cases r1 with
  | @ins a dx c vs ds hx hz rs =>
    obtain ⟨rfl, h1⟩ := h1
    exact ⟨a, dx, _, rfl, e1.gh.s _ _ hx, R, _, G1, kk, .cons (.ins hx hz rs) .nil, e1.gh, h1, fun v d G3 H3 e3 r3 h3 => q v d G3 H3 (e1.trans e3) r3 h3⟩
  | _ => exact h1.elim
/-- an instance called -/
theorem pd_callO (hf : PD m R X fe tf df) (c : StX.CallO X.K (m.cl n) g) (F : FnR X.prog X.w X.K X.mg X.base CX0 k g (spD m sp)) (hr : Room k X.A) (ha : PDA m R X (e :: es) t dt)
    (ht : eval (.Call fe (e :: es) [] pos) X.env = (do callWith pos (← eval fe X.env) [] (backTo pos (starEach (e :: es) X.env)) (backToKw pos (keywordEach [] X.env))) := by rfl)
    (he : starEach (e :: es) X.env = (false, eval e X.env) :: starEach es X.env := by rfl) (hpl : (backTo pos (starEach es X.env)).any (·.1) = false := by rfl) :
    PD m R X (.Call fe (e :: es) [] pos) (StX.tCallO X (m.cl n) (spD m sp) E0 tf t) (dMeth n (sp R) df dt) := by
  refine ⟨StX.pe_callO hf.pe c F hr pass0 ha.pe ht he hpl, fun ρ σ G H kk Q hv gh h q => ?_⟩
  refine hf.sem ρ σ G H _ _ hv gh h fun v d G1 H1 e1 r1 h1 => ?_
  cases r1 with
  | @ins a dx c vs ds hx hz rs =>
    obtain ⟨rfl, h1⟩ := h1
    refine ⟨a, rfl, ?_⟩
    refine ha.sem ρ σ G1 H1 _ _ (hv.mono e1.gg) e1.gh h1 fun us bs G2 H2 e2 r2 h2 => ⟨.inr ⟨dx, _, e2.gh.s _ _ (e2.gg _ _ hx)⟩, ?_⟩
    exact ⟨R, _, G2, kk, .cons (.ins (e2.gg _ _ hx) hz (rs.mono e2.gg)) r2, e2.gh, h2, fun v d G3 H3 e3 r3 h3 => q v d G3 H3 ((e1.trans e2).trans e3) r3 h3⟩
  | _ => exact h1.elim

/-! own operators -/
structure OwnM (K : PySem.W.Frag) (C : Addr) (name : Str) (g : Addr) : Prop where
  at_ : PySem.W.findIn K (.ref C) name = some (some (.ref g))
  fn : PySem.W.isFn K (.ref g) = true
theorem inst_at {pins : List (Addr × Obj)} {σ : L2.St} {H : Hp} {s : Shared} {a C dx : Addr} {fs : List (Str × V)} (I : Inv X pins σ H s) (h : H a = some (.ins C dx fs)) : ∃ ox od, PySem.W.InstAt s.heap a ox C od := by
  obtain ⟨mA, O, _⟩ := ins_get I.hok h
  obtain ⟨od, J, _⟩ := O.look
  exact ⟨_, _, J⟩
/-- x in o, by __contains__ -/
def rInO (C : Addr) (sp : Sp) (neg : Bool) : R2 := fun x y H Q => ∃ a dx fs, y = .ref a ∧ H a = some (.ins C dx fs) ∧ sp [y, x] H (fun v H' => ∃ b, v = .bl b ∧ Q (.bl (if neg then !b else b)) H') E0
theorem op_inO {C : Addr} {spr : Sp} (c : OwnM X.K C "__contains__" g) (F : FnR X.prog X.w X.K X.mg X.base CX0 k g spr) (hr : Room k X.A) : OpR X (compareOp .In) (rInO C spr false) := by
  intro pins s σ H x y v u Q I rx ry h
  obtain ⟨a, dx, fs, rfl, ha, q⟩ := h
  cases ry
  obtain ⟨m0, Fr0⟩ := I.fr
  obtain ⟨ox, od, J⟩ := inst_at I ha
  refine PySem.W.in_K Fr0 I.mod.kin J c.at_ c.fn (thn (run_in0 (us := [.ref a, v]) (vs := [.ref a, x]) F hr I (.cons rfl (.cons rx .nil)) q) fun r s1 ⟨z, H1, I1, rz, b, ez, q1⟩ => ?_)
  subst ez
  cases rz
  exact wpAny_truthy_bool ⟨.bl b, H1, I1, rfl, q1⟩
theorem op_ninO {C : Addr} {spr : Sp} (c : OwnM X.K C "__contains__" g) (F : FnR X.prog X.w X.K X.mg X.base CX0 k g spr) (hr : Room k X.A) : OpR X (compareOp .NotIn) (rInO C spr true) := by
  intro pins s σ H x y v u Q I rx ry h
  obtain ⟨a, dx, fs, rfl, ha, q⟩ := h
  cases ry
  obtain ⟨m0, Fr0⟩ := I.fr
  obtain ⟨ox, od, J⟩ := inst_at I ha
  refine PySem.W.notIn_K Fr0 I.mod.kin J c.at_ c.fn (thn (run_in0 (us := [.ref a, v]) (vs := [.ref a, x]) F hr I (.cons rfl (.cons rx .nil)) q) fun r s1 ⟨z, H1, I1, rz, b, ez, q1⟩ => ?_)
  subst ez
  cases rz
  exact wpAny_truthy_bool ⟨.bl (!b), H1, I1, rfl, q1⟩
def opInO (n : Nat) (f : List D → (D → Prop) → Prop) (neg : Bool) (x y : D) (k : D → Prop) : Prop := match y with
  | .ins c l => c = n ∧ f [.ins c l, x] fun d => match d with
    | .bl b => k (.bl (if neg then !b else b))
    | _ => False
  | _ => False
theorem sem_inO {neg : Bool} (x y : V) (dx dy : D) (G H : Hp) (kk : D → Prop) (Q : VK) (gh : GH R G H) (rx : Rep m G x dx) (ry : Rep m G y dy) (h : opInO n (sp R) neg dx dy kk)
    (q : ∀ v d G' H', Ext R G H G' H' → Rep m G' v d → kk d → Q v H') : rInO (m.cl n) (spD m sp) neg x y H Q := by
  cases ry with
  | @ins a dx c vs ds hx hz rs =>
    obtain ⟨rfl, h⟩ := h
    refine ⟨a, dx, _, rfl, gh.s _ _ hx, R, _, G, _, .cons (.ins hx hz rs) (.cons rx .nil), gh, h, fun v d G1 H1 e1 r1 h1 => ?_⟩
    cases r1 with
    | bl b => exact ⟨b, rfl, q _ _ G1 H1 e1 (.bl _) h1⟩
    | _ => exact h1.elim
  | _ => exact h.elim
theorem od_inO (c : OwnM X.K (m.cl n) "__contains__" g) (F : FnR X.prog X.w X.K X.mg X.base CX0 k g (spD m sp)) (hr : Room k X.A) : OpD m R X (compareOp .In) (rInO (m.cl n) (spD m sp) false) (opInO n (sp R) false) := ⟨op_inO c F hr, sem_inO⟩
theorem od_ninO (c : OwnM X.K (m.cl n) "__contains__" g) (F : FnR X.prog X.w X.K X.mg X.base CX0 k g (spD m sp)) (hr : Room k X.A) : OpD m R X (compareOp .NotIn) (rInO (m.cl n) (spD m sp) true) (opInO n (sp R) true) := ⟨op_ninO c F hr, sem_inO⟩

/-- len(o), by __len__ -/
theorem call_lenO {C : Addr} {spr : Sp} (c : OwnM X.K C "__len__" g) (F : FnR X.prog X.w X.K X.mg X.base CX0 k g spr) (hr : Room (k + 1) X.A) :
    CallR X (.builtin "len") (fun xs H Q => ∃ a dx fs, xs = [.ref a] ∧ H a = some (.ins C dx fs) ∧ spr xs H (fun v H' => ∃ i, v = .int i ∧ (0 ≤ i ∧ i < 2 ^ 63) ∧ Q (.int i) H') E0) := by
  intro pins s σ H xs us Q I r h
  obtain ⟨a, dx, fs, rfl, ha, q⟩ := h
  cases r with
  | cons ra rn =>
    cases ra
    cases rn
    obtain ⟨m0, Fr0⟩ := I.fr
    obtain ⟨ox, od, J⟩ := inst_at I ha
    refine PySem.W.len_K Fr0 I.mod.kin J c.at_ c.fn (thn (run_in1 (us := [.ref a]) (vs := [.ref a]) F hr I (.cons rfl .nil) q) fun z s1 ⟨v, H1, I1, rz, i, ev, hb, q1⟩ => ?_)
    subst ev
    obtain ⟨tk, rfl⟩ := rz
    exact ⟨hb, .int i, H1, I1.tok _, ⟨_, rfl⟩, q1⟩
def fLenO (n : Nat) (f : List D → (D → Prop) → Prop) (ds : List D) (k : D → Prop) : Prop := match ds with
  | [.ins c l] => c = n ∧ f [.ins c l] fun d => match d with
    | .int i => (0 ≤ i ∧ i < 2 ^ 63) ∧ k (.int i)
    | _ => False
  | _ => False
theorem cd_lenO (c : OwnM X.K (m.cl n) "__len__" g) (F : FnR X.prog X.w X.K X.mg X.base CX0 k g (spD m sp)) (hr : Room (k + 1) X.A) :
    ClD m R X (.builtin "len") (fun xs H Q => ∃ a dx fs, xs = [.ref a] ∧ H a = some (.ins (m.cl n) dx fs) ∧ spD m sp xs H (fun v H' => ∃ i, v = .int i ∧ (0 ≤ i ∧ i < 2 ^ 63) ∧ Q (.int i) H') E0) (fLenO n (sp R)) := by
  refine ⟨call_lenO c F hr, fun vs ds G H kk Q gh r h q => ?_⟩
  cases r with
  | nil => exact h.elim
  | cons a r => cases r with
    | cons _ _ => cases a <;> exact h.elim
    | nil => cases a with
      | @ins a dx c vs ds hx hz rs =>
        obtain ⟨rfl, h⟩ := h
        refine ⟨a, dx, _, rfl, gh.s _ _ hx, R, _, G, _, .cons (.ins hx hz rs) .nil, gh, h, fun v d G1 H1 e1 r1 h1 => ?_⟩
        cases r1 with
        | int i => exact ⟨i, rfl, h1.1, q _ _ G1 H1 e1 (.int _) h1.2⟩
        | _ => exact h1.elim
      | _ => exact h.elim

/-- o + o', both of one class, by __add__ -/
def rAddO (C : Addr) (sp : Sp) : R2 := fun x y H Q => ∃ a dx fs b dy gs, x = .ref a ∧ y = .ref b ∧ H a = some (.ins C dx fs) ∧ H b = some (.ins C dy gs) ∧ sp [x, y] H (fun v H' => ∃ z, v = .ref z ∧ Q v H') E0
theorem op_addO {C : Addr} {spr : Sp} (c : OwnM X.K C "__add__" g) (hc : PySem.W.selfFirst X.K C = true) (F : FnR X.prog X.w X.K X.mg X.base CX0 k g spr) (hr : Room k X.A) : OpR X (binaryOp .Add) (rAddO C spr) := by
  intro pins s σ H x y v u Q I rx ry h
  obtain ⟨a, dx, fs, b, dy, gs, rfl, rfl, ha, hb, q⟩ := h
  cases rx
  cases ry
  obtain ⟨m0, Fr0⟩ := I.fr
  obtain ⟨ox, od, J⟩ := inst_at I ha
  obtain ⟨oy, oe, J2⟩ := inst_at I hb
  refine PySem.W.binop_K Fr0 I.mod.kin J J2.type hc c.at_ c.fn (thn (run_in0 (us := [.ref a, .ref b]) (vs := [.ref a, .ref b]) F hr I (.cons rfl (.cons rfl .nil)) q) fun r s1 ⟨z, H1, I1, rz, w, ez, q1⟩ => ?_)
  subst ez
  cases rz
  exact ⟨.ref w, H1, I1, rfl, q1⟩
def opAddO (n : Nat) (f : List D → (D → Prop) → Prop) (x y : D) (k : D → Prop) : Prop := match x, y with
  | .ins c l, .ins c' l' => c = n ∧ c' = n ∧ f [.ins c l, .ins c' l'] fun d => match d with
    | .ins c2 l2 => k (.ins c2 l2)
    | _ => False
  | _, _ => False
theorem od_addO (c : OwnM X.K (m.cl n) "__add__" g) (hc : PySem.W.selfFirst X.K (m.cl n) = true) (F : FnR X.prog X.w X.K X.mg X.base CX0 k g (spD m sp)) (hr : Room k X.A) : OpD m R X (binaryOp .Add) (rAddO (m.cl n) (spD m sp)) (opAddO n (sp R)) := by
  refine ⟨op_addO c hc F hr, fun x y dx dy G H kk Q gh rx ry h q => ?_⟩
  cases rx with
  | @ins a da c vs ds hx hz rs => cases ry with
    | @ins b db c' us bs hy hz' rs' =>
      obtain ⟨rfl, h0, h⟩ := h
      cases h0
      refine ⟨a, da, _, b, db, _, rfl, rfl, gh.s _ _ hx, gh.s _ _ hy, R, _, G, _, .cons (.ins hx hz rs) (.cons (.ins hy hz' rs') .nil), gh, h, fun v d G1 H1 e1 r1 h1 => ?_⟩
      cases r1 with
      | ins h2 h3 h4 => exact ⟨_, rfl, q _ _ G1 H1 e1 (.ins h2 h3 h4) h1⟩
      | _ => exact h1.elim
    | _ => exact h.elim
  | _ => exact h.elim
end
end Dl
set_option Elab.async false
set_option linter.all false
set_option maxRecDepth 100000
set_option maxHeartbeats 2000000
namespace Dl
open PySem L2

/-- the entry of a def (data, heap), and data that must stay -/
structure Start where
  G : Hp
  H : Hp
  B : Hp

def SlOk (m : Pm) (S : Start) (G H : Hp) (s : Sl) (w : Option (Option V)) : Prop := match s with
  | .no => True
  | .val d => ∃ v, w = some (some v) ∧ Rep m G v d
  | .own ds => ∃ l vs, w = some (some (.ref l)) ∧ H l = some (.lst vs) ∧ S.H l = none ∧ G l = none ∧ Reps m G vs ds
  | .obj x c ds => ∃ dx vs, w = some (some (.ref x)) ∧ H x = some (.ins (m.cl c) dx ((m.nm c).zip vs)) ∧ vs.length ≤ (m.nm c).length ∧ S.H x = none ∧ G x = none ∧ Reps m G vs ds
  | .grp k0 k1 => ∃ l a0 a1 es0 es1, w = some (some (.ref l)) ∧ H l = some (.lst [.ref a0, .ref a1]) ∧ H a0 = some (.ext (DictIs a0 es0)) ∧ H a1 = some (.ext (DictIs a1 es1)) ∧ (S.H l = none ∧ S.H a0 = none ∧ S.H a1 = none) ∧
    (G l = none ∧ G a0 = none ∧ G a1 = none) ∧ a0 ≠ a1 ∧ (RepE m G es0 k0 ∧ (k0.map (·.1)).Nodup) ∧ (RepE m G es1 k1 ∧ (k1.map (·.1)).Nodup)
/-- the addresses that are a slot's own -/
def Owns (H : Hp) (s : Sl) (w : Option (Option V)) (a : Addr) : Prop := match s with
  | .own _ => w = some (some (.ref a))
  | .obj _ _ _ => w = some (some (.ref a))
  | .grp _ _ => ∃ l a0 a1, w = some (some (.ref l)) ∧ H l = some (.lst [.ref a0, .ref a1]) ∧ (a = l ∨ a = a0 ∨ a = a1)
  | _ => False
structure StOk (m : Pm) (R : Res) (S : Start) (ρ : Rho) (σ : L2.St) (G H : Hp) : Prop where
  s0 : GH R S.G S.H
  ext : Ext R S.G S.H G H
  bs : Same S.B G
  len : ρ.length = σ.length
  at_ : ∀ (i : Nat) (s : Sl), ρ[i]? = some s → SlOk m S G H s σ[i]?
  dj : ∀ (i j : Nat) (s t : Sl) (a : Addr), ρ[i]? = some s → ρ[j]? = some t → Owns H s σ[i]? a → Owns H t σ[j]? a → i = j

section
variable {m : Pm} {R : Res} {S : Start} {ρ : Rho} {σ : L2.St} {G H G' H' : Hp}
theorem StOk.gh (h : StOk m R S ρ σ G H) : GH R G H := h.ext.gh
theorem StOk.envE (h : StOk m R S ρ σ G H) : EnvE m G ρ σ := ⟨h.len, fun i d e => h.at_ i _ e⟩
theorem StOk.notM (h : StOk m R S ρ σ G H) {a : Addr} (e : S.H a = none) : ¬ R.M a := h.s0.notM e
theorem ext_none (gh : GH R G H) (e : Ext R G H G' H') {a : Addr} {o : HO} (h : H a = some o) (g : G a = none) : G' a = none := by
  cases q : G' a with
  | none => rfl
  | some u =>
    rcases e.fr a u q with z | z
    · rw [g] at z
      cases z
    · rw [h] at z
      cases z
/-- the addresses of one's own are tracked, no data, younger than the entry -/
theorem SlOk.owned {s : Sl} {w : Option (Option V)} {a : Addr} (h : SlOk m S G H s w) (o : Owns H s w a) : (∃ u, H a = some u) ∧ S.H a = none ∧ G a = none := by
  cases s with
  | own ds =>
    obtain ⟨l, vs, h1, h2, h3, h4, h5⟩ := h
    rw [show w = some (some (.ref a)) from o] at h1
    cases h1
    exact ⟨⟨_, h2⟩, h3, h4⟩
  | obj x c ds =>
    obtain ⟨dx, vs, h1, h2, h3, h4, h5, h6⟩ := h
    rw [show w = some (some (.ref a)) from o] at h1
    cases h1
    exact ⟨⟨_, h2⟩, h4, h5⟩
  | grp k0 k1 =>
    obtain ⟨l, a0, a1, es0, es1, h1, h2, h3, h4, h5, h6, _⟩ := h
    obtain ⟨l', b0, b1, o1, o2, o3⟩ := o
    rw [h1] at o1
    cases o1
    rw [h2] at o2
    cases o2
    rcases o3 with rfl | rfl | rfl
    · exact ⟨⟨_, h2⟩, h5.1, h6.1⟩
    · exact ⟨⟨_, h3⟩, h5.2.1, h6.2.1⟩
    · exact ⟨⟨_, h4⟩, h5.2.2, h6.2.2⟩
  | _ => exact o.elim
/-- what a slot says stays where its own objects stay and data grows -/
theorem SlOk.step {s : Sl} {w : Option (Option V)} (h : SlOk m S G H s w) (gg : Same G G') (keep : ∀ a u, Owns H s w a → H a = some u → H' a = some u ∧ G' a = none) : SlOk m S G' H' s w ∧ ∀ a, Owns H' s w a → Owns H s w a := by
  cases s with
  | no => exact ⟨trivial, fun a o => o⟩
  | val d =>
    obtain ⟨v, h1, h2⟩ := h
    exact ⟨⟨v, h1, h2.mono gg⟩, fun a o => o⟩
  | own ds =>
    obtain ⟨l, vs, h1, h2, h3, h4, h5⟩ := h
    obtain ⟨k1, k2⟩ := keep l _ h1 h2
    exact ⟨⟨l, vs, h1, k1, h3, k2, h5.mono gg⟩, fun a o => o⟩
  | obj x c ds =>
    obtain ⟨dx, vs, h1, h2, h3, h4, h5, h6⟩ := h
    obtain ⟨k1, k2⟩ := keep x _ h1 h2
    exact ⟨⟨dx, vs, h1, k1, h3, h4, k2, h6.mono gg⟩, fun a o => o⟩
  | grp k0 k1 =>
    obtain ⟨l, a0, a1, es0, es1, h1, h2, h3, h4, h5, h6, h7, h8, h9⟩ := h
    obtain ⟨p1, p2⟩ := keep l _ ⟨l, a0, a1, h1, h2, .inl rfl⟩ h2
    obtain ⟨q1, q2⟩ := keep a0 _ ⟨l, a0, a1, h1, h2, .inr (.inl rfl)⟩ h3
    obtain ⟨r1, r2⟩ := keep a1 _ ⟨l, a0, a1, h1, h2, .inr (.inr rfl)⟩ h4
    refine ⟨⟨l, a0, a1, es0, es1, h1, p1, q1, r1, h5, ⟨p2, q2, r2⟩, h7, ⟨h8.1.mono gg, h8.2⟩, ⟨h9.1.mono gg, h9.2⟩⟩, fun a o => ?_⟩
    obtain ⟨l', b0, b1, o1, o2, o3⟩ := o
    rw [h1] at o1
    cases o1
    rw [p1] at o2
    cases o2
    exact ⟨l, a0, a1, h1, h2, o3⟩
/-- an expression has been evaluated -/
theorem StOk.step (h : StOk m R S ρ σ G H) (e : Ext R G H G' H') : StOk m R S ρ σ G' H' := by
  have key : ∀ (i : Nat) (s : Sl), ρ[i]? = some s → SlOk m S G' H' s σ[i]? ∧ ∀ a, Owns H' s σ[i]? a → Owns H s σ[i]? a := fun i s hs =>
    (h.at_ i s hs).step e.gg fun a u o hu => ⟨e.hh _ _ hu (h.notM ((h.at_ i s hs).owned o).2.1), ext_none h.gh e hu ((h.at_ i s hs).owned o).2.2⟩
  exact ⟨h.s0, h.ext.trans e, h.bs.trans e.gg, h.len, fun i s hs => (key i s hs).1, fun i j s t a hs ht o1 o2 => h.dj i j s t a hs ht ((key i s hs).2 a o1) ((key j t ht).2 a o2)⟩
theorem StOk.base {B : Hp} (h : StOk m R S ρ σ G H) (b : Same B G) : StOk m R { S with B := B } ρ σ G H := ⟨h.s0, h.ext, b, h.len, h.at_, h.dj⟩
theorem StOk.weakB {B : Hp} (h : StOk m R { S with B := B } ρ σ G H) (b : Same S.B B) : StOk m R S ρ σ G H := ⟨h.s0, h.ext, b.trans h.bs, h.len, h.at_, h.dj⟩
theorem get_set {α : Type} {l : List α} {i j : Nat} {x y : α} (h : (l.set i x)[j]? = some y) : (j = i ∧ y = x) ∨ (j ≠ i ∧ l[j]? = some y) := by
  by_cases e : j = i
  · subst e
    have hl : j < (l.set j x).length := (List.getElem?_eq_some_iff.mp h).1
    rw [List.length_set] at hl
    rw [List.getElem?_set_self hl] at h
    exact .inl ⟨rfl, (Option.some.inj h).symm⟩
  · rw [List.getElem?_set_ne (Ne.symm e)] at h
    exact .inr ⟨e, h⟩
theorem at_set {i : Nat} {s s' : Sl} {w : Option V} (hl : ρ.length = σ.length) (h : (ρ.set i s)[i]? = some s') : (σ.set i w)[i]? = some w := by
  have h1 : i < (ρ.set i s).length := (List.getElem?_eq_some_iff.mp h).1
  rw [List.length_set] at h1
  rw [List.getElem?_set_self (by rw [← hl]; exact h1)]
/-- slot i gets a new content, whose own addresses are no other slot's -/
theorem StOk.put {i : Nat} {v : V} {s : Sl} (h : StOk m R S ρ σ G H) (ok : SlOk m S G H s (some (some v))) (hn : ∀ (j : Nat) (t : Sl) (a : Addr), j ≠ i → ρ[j]? = some t → Owns H t σ[j]? a → ¬ Owns H s (some (some v)) a) :
    StOk m R S (ρ.set i s) (σ.set i (some v)) G H := by
  refine ⟨h.s0, h.ext, h.bs, by rw [List.length_set, List.length_set]; exact h.len, fun j s' hs => ?_, fun j k s' t a hs ht o1 o2 => ?_⟩
  · rcases get_set hs with ⟨rfl, rfl⟩ | ⟨ne, hs'⟩
    · rw [at_set h.len hs]
      exact ok
    · rw [List.getElem?_set_ne (Ne.symm ne)]
      exact h.at_ j s' hs'
  · rcases get_set hs with ⟨rfl, rfl⟩ | ⟨ne, hs'⟩
    · rcases get_set ht with ⟨rfl, rfl⟩ | ⟨ne', ht'⟩
      · rfl
      · rw [at_set h.len hs] at o1
        rw [List.getElem?_set_ne (Ne.symm ne')] at o2
        exact absurd o1 (hn k t a ne' ht' o2)
    · rcases get_set ht with ⟨rfl, rfl⟩ | ⟨ne', ht'⟩
      · rw [at_set h.len ht] at o2
        rw [List.getElem?_set_ne (Ne.symm ne)] at o1
        exact absurd o2 (hn j s' a ne hs' o1)
      · rw [List.getElem?_set_ne (Ne.symm ne)] at o1
        rw [List.getElem?_set_ne (Ne.symm ne')] at o2
        exact h.dj j k s' t a hs' ht' o1 o2
/-- slot i becomes data -/
theorem StOk.setV {i : Nat} {v : V} {d : D} (h : StOk m R S ρ σ G H) (r : Rep m G v d) : StOk m R S (ρ.set i (.val d)) (σ.set i (some v)) G H :=
  h.put ⟨v, rfl, r⟩ fun _ _ _ _ _ _ z => z
theorem StOk.fresh (h : StOk m R S ρ σ G H) {l : Addr} (hl : H l = none) : S.H l = none := by
  cases q : S.H l with
  | none => rfl
  | some o =>
    by_cases hm : R.M l
    · obtain ⟨_, u, hu⟩ := h.gh.m l hm
      rw [hl] at hu
      cases hu
    · rw [h.ext.hh l o q hm] at hl
      cases hl
/-- an own object of slot i is changed -/
theorem StOk.wr {i : Nat} {l : Addr} {o : HO} {s0 s1 : Sl} (h : StOk m R S ρ σ G H) (hi : ρ[i]? = some s0) (m0 : Owns H s0 σ[i]? l) (ok : SlOk m S G (upd H l o) s1 σ[i]?)
    (ow : ∀ a, Owns (upd H l o) s1 σ[i]? a → Owns H s0 σ[i]? a) : StOk m R S (ρ.set i s1) σ G (upd H l o) := by
  obtain ⟨⟨u, hu⟩, hs, hg⟩ := (h.at_ i s0 hi).owned m0
  have nM := h.notM hs
  have key : ∀ (j : Nat) (s : Sl), j ≠ i → ρ[j]? = some s → SlOk m S G (upd H l o) s σ[j]? ∧ ∀ a, Owns (upd H l o) s σ[j]? a → Owns H s σ[j]? a := fun j s ne hs' =>
    (h.at_ j s hs').step (Same.refl G) fun a v oa hv => by
      have nl : a ≠ l := fun z => ne (h.dj j i s s0 l hs' hi (by rw [← z]; exact oa) m0)
      exact ⟨by rw [upd_ne nl]; exact hv, ((h.at_ j s hs').owned oa).2.2⟩
  refine ⟨h.s0, ⟨h.ext.gg, h.gh.side hg nM, fun b v q n => ?_, h.ext.fr⟩, h.bs, by rw [List.length_set]; exact h.len, fun j s hs' => ?_, fun j k s t a hs' ht o1 o2 => ?_⟩
  · rw [upd_ne (ne_of_none q hs)]
    exact h.ext.hh b v q n
  · rcases get_set hs' with ⟨rfl, rfl⟩ | ⟨ne, hs2⟩
    · exact ok
    · exact (key j s ne hs2).1
  · have back : ∀ (j : Nat) (s : Sl), (ρ.set i s1)[j]? = some s → Owns (upd H l o) s σ[j]? a → ∃ s', ρ[j]? = some s' ∧ Owns H s' σ[j]? a := fun j s hj ho => by
      rcases get_set hj with ⟨rfl, rfl⟩ | ⟨ne, hj2⟩
      · exact ⟨s0, hi, ow a ho⟩
      · exact ⟨s, hj2, (key j s ne hj2).2 a ho⟩
    obtain ⟨s', q1, q2⟩ := back j s hs' o1
    obtain ⟨t', q3, q4⟩ := back k t ht o2
    exact h.dj j k s' t' a q1 q3 q2 q4
/-- an own object becomes data; slot i changes so -/
theorem StOk.adopt {i : Nat} {l : Addr} {o : HO} {s0 s1 : Sl} (h : StOk m R S ρ σ G H) (hi : ρ[i]? = some s0) (m0 : Owns H s0 σ[i]? l) (hl : H l = some o) (ok : SlOk m S (upd G l o) H s1 σ[i]?)
    (ow : ∀ a, Owns H s1 σ[i]? a → Owns H s0 σ[i]? a) : Same G (upd G l o) ∧ StOk m R S (ρ.set i s1) σ (upd G l o) H := by
  obtain ⟨_, hs, hg⟩ := (h.at_ i s0 hi).owned m0
  have nM := h.notM hs
  have sm : Same G (upd G l o) := same_new hg
  refine ⟨sm, h.s0, ⟨h.ext.gg.trans sm, h.gh.adopt hg hl nM, h.ext.hh, fun b u e => ?_⟩, h.bs.trans sm, by rw [List.length_set]; exact h.len, fun j s hs' => ?_, fun j k s t a hs' ht o1 o2 => ?_⟩
  · by_cases z : b = l
    · subst z
      exact .inr hs
    · rw [upd_ne z] at e
      exact h.ext.fr b u e
  · rcases get_set hs' with ⟨rfl, rfl⟩ | ⟨ne, hs2⟩
    · exact ok
    · refine ((h.at_ j s hs2).step sm fun a v oa hv => ⟨hv, ?_⟩).1
      have nl : a ≠ l := fun z => ne (h.dj j i s s0 l hs2 hi (by rw [← z]; exact oa) m0)
      rw [upd_ne nl]
      exact ((h.at_ j s hs2).owned oa).2.2
  · have back : ∀ (j : Nat) (s : Sl), (ρ.set i s1)[j]? = some s → Owns H s σ[j]? a → ∃ s', ρ[j]? = some s' ∧ Owns H s' σ[j]? a := fun j s hj ho => by
      rcases get_set hj with ⟨rfl, rfl⟩ | ⟨ne, hj2⟩
      · exact ⟨s0, hi, ow a ho⟩
      · exact ⟨s, hj2, ho⟩
    obtain ⟨s', q1, q2⟩ := back j s hs' o1
    obtain ⟨t', q3, q4⟩ := back k t ht o2
    exact h.dj j k s' t' a q1 q3 q2 q4
/-- a list of one's own becomes data -/
theorem StOk.freeze {i : Nat} {ds : List D} (h : StOk m R S ρ σ G H) (hi : ρ[i]? = some (.own ds)) : ∃ G', Same G G' ∧ StOk m R S (ρ.set i (.val (.lst ds))) σ G' H := by
  obtain ⟨l, vs, g1, g2, g3, g4, g5⟩ := h.at_ i _ hi
  exact ⟨_, h.adopt hi g1 g2 ⟨.ref l, g1, Rep.newL g4 g5⟩ fun a z => z.elim⟩
end

/-! statements -/
structure EndsD where
  nx : Rho → Prop
  rt : D → Prop
  bk : Rho → Prop := fun _ => False
  ct : Rho → Prop := fun _ => False
abbrev TdS := EndsD → Rho → Prop
structure Compat (m : Pm) (R : Res) (S : Start) (De : EndsD) (Dd : Ends) : Prop where
  nx : ∀ ρ σ G H, StOk m R S ρ σ G H → De.nx ρ → Dd.nx σ H
  rt : ∀ v d G H, Ext R S.G S.H G H → Rep m G v d → De.rt d → Dd.rt v H
  bk : ∀ ρ σ G H, StOk m R S ρ σ G H → De.bk ρ → Dd.bk σ H
  ct : ∀ ρ σ G H, StOk m R S ρ σ G H → De.ct ρ → Dd.ct σ H
def SemS (m : Pm) (R : Res) (t : TS) (td : TdS) : Prop := ∀ (S : Start) (ρ : Rho) (σ : L2.St) (G H : Hp) (De : EndsD) (Dd : Ends), StOk m R S ρ σ G H → Compat m R S De Dd → td De ρ → t Dd σ H
structure PDS (m : Pm) (R : Res) (X : Cx) (st : Stmt) (t : TS) (td : TdS) : Prop where
  pe : PS X st t
  sem : SemS m R t td
structure PDSs (m : Pm) (R : Res) (X : Cx) (st : List Stmt) (t : TS) (td : TdS) : Prop where
  pe : PSs X st t
  sem : SemS m R t td

section
variable {m : Pm} {R : Res} {X : Cx} {st : Stmt} {rest : List Stmt} {t u : TS} {dt du : TdS} {e o : Expr} {te : TE} {de : TdE} {pos p : Pos} {x : Str}
def dNext : TdS := fun De ρ => De.nx ρ
def dSeq (t u : TdS) : TdS := fun De ρ => t { De with nx := u De } ρ
def dRet (e : TdE) : TdS := fun De ρ => e ρ De.rt
def dNever : TdS := fun _ _ => False
def dDrop (e : TdE) : TdS := fun De ρ => e ρ fun _ => De.nx ρ
def dIfS (c : TdT) (t u : TdS) : TdS := fun De ρ => c ρ fun b => if b = true then t De ρ else u De ρ
def dAsg (i : Nat) (e : TdE) : TdS := fun De ρ => e ρ fun d => De.nx (ρ.set i (.val d))
theorem sem_next : SemS m R tNext dNext := fun S ρ σ G H De Dd st c h => c.nx ρ σ G H st h
theorem pdss_nil : PDSs m R X [] tNext dNext := ⟨pss_nil, sem_next⟩
theorem sem_seq (h1 : SemS m R t dt) (h2 : SemS m R u du) : SemS m R (tSeq t u) (dSeq dt du) := fun S ρ σ G H De Dd st c h =>
  h1 S ρ σ G H { De with nx := du De } { Dd with nx := u Dd } st ⟨fun ρ' σ' G' H' st' h' => h2 S ρ' σ' G' H' De Dd st' c h', c.rt, c.bk, c.ct⟩ h
theorem pdss_cons (h1 : PDS m R X st t dt) (h2 : PDSs m R X rest u du) : PDSs m R X (st :: rest) (tSeq t u) (dSeq dt du) := ⟨pss_cons h1.pe h2.pe, sem_seq h1.sem h2.sem⟩
theorem pdss_one (h1 : PDS m R X st t dt) : PDSs m R X [st] t dt := ⟨pss_one h1.pe, h1.sem⟩
theorem pds_never : PDS m R X st tNever dNever := ⟨ps_never, fun _ _ _ _ _ _ _ _ _ h => h.elim⟩
theorem pds_pass : PDS m R X (.Pass pos) tNext dNext := ⟨ps_pass, sem_next⟩
theorem pds_ret (he : PD m R X e te de) : PDS m R X (.Return (some e) pos) (tRet te) (dRet de) := by
  refine ⟨ps_ret he.pe, fun S ρ σ G H De Dd st c h => ?_⟩
  exact he.sem ρ σ G H _ _ st.envE st.gh h fun v d G1 H1 e1 r1 h1 => c.rt v d G1 H1 (st.ext.trans e1) r1 h1
theorem pds_expr (he : PD m R X e te de) (hs : swapsWith e none pos.line X.env = pure false := by rfl) : PDS m R X (.Expr e pos) (tDrop te) (dDrop de) := by
  refine ⟨ps_expr he.pe hs, fun S ρ σ G H De Dd st c h => ?_⟩
  exact he.sem ρ σ G H _ _ st.envE st.gh h fun v d G1 H1 e1 r1 h1 => c.nx ρ σ G1 H1 (st.step e1) h1
theorem pds_if {c : Expr} {a b : List Stmt} {tc : TT} {dc : TdT} (hc : PDT m R X c tc dc) (ha : PDSs m R X a t dt) (hb : PDSs m R X b u du) : PDS m R X (.If c a b pos) (tIfS tc t u) (dIfS dc dt du) := by
  refine ⟨ps_if hc.pe ha.pe hb.pe, fun S ρ σ G H De Dd st c h => ?_⟩
  refine hc.sem ρ σ G H _ _ st.envE st.gh h fun b G1 H1 e1 h1 => ?_
  cases b with
  | true => exact ha.sem S ρ σ G1 H1 De Dd (st.step e1) c h1
  | false => exact hb.sem S ρ σ G1 H1 De Dd (st.step e1) c h1
theorem sem_asg {i : Nat} (he : SemE m R te de) : SemS m R (tAsg te (gName i)) (dAsg i de) := fun S ρ σ G H De Dd st c h =>
  he ρ σ G H _ _ st.envE st.gh h fun v d G1 H1 e1 r1 h1 => c.nx _ _ G1 H1 ((st.step e1).setV r1) h1
theorem pds_set (i : Nat) {px : Pos} (hN : X.N.Nodup) (he : PD m R X e te de) (hi : X.N[i]? = some x := by rfl) (hx : Loc X.env.scope x := by first | exact Or.inl rfl | exact Or.inr rfl) (hs : swapsWith e (some (.Name x px)) pos.line X.env = pure false := by rfl)
    (hf : X.fn x = true ∨ X.env.scope.names.lookup x = some .local := by first | exact .inl rfl | exact .inr rfl) : PDS m R X (.Assign [.Name x px] e pos) (tAsg te (gName i)) (dAsg i de) := ⟨ps_set hN hi hx he.pe hs hf, sem_asg he.sem⟩

/-! a list of one's own -/
/-- a slot's new content: data, or a new list -/
def SlNew (m : Pm) (G H G' H' : Hp) (v : V) (s : Sl) : Prop := match s with
  | .val d => Rep m G' v d
  | .own ds => ∃ l vs, v = .ref l ∧ H' l = some (.lst vs) ∧ H l = none ∧ G' l = none ∧ Reps m G' vs ds
  | _ => False
abbrev TdSl := Rho → (Sl → Prop) → Prop
def SemSl (m : Pm) (R : Res) (t : TE) (td : TdSl) : Prop := ∀ (ρ : Rho) (σ : L2.St) (G H : Hp) (k : Sl → Prop) (Q : VK), EnvE m G ρ σ → GH R G H → td ρ k →
  (∀ v s G' H', Ext R G H G' H' → SlNew m G H G' H' v s → k s → Q v H') → t σ H Q
structure PDSl (m : Pm) (R : Res) (X : Cx) (e : Expr) (t : TE) (td : TdSl) : Prop where
  pe : PE X e t
  sem : SemSl m R t td
def dVal (e : TdE) : TdSl := fun ρ k => e ρ fun d => k (.val d)
def dOwn (a : TdA) : TdSl := fun ρ k => a ρ fun ds => ds.length ≤ sizeLine ∧ k (.own ds)
theorem sl_val (h : PD m R X e te de) : PDSl m R X e te (dVal de) := ⟨h.pe, fun ρ σ G H k Q he gh hw q => h.sem ρ σ G H _ _ he gh hw fun v d G1 H1 e1 r1 h1 => q v (.val d) G1 H1 e1 r1 h1⟩
theorem sl_lst {es : List Expr} {ta : TA} {da : TdA} (h : PDA m R X es ta da) : PDSl m R X (.List es pos) (tLst ta) (dOwn da) := by
  refine ⟨pe_lst h.pe, fun ρ σ G H k Q he gh hw q => ?_⟩
  refine h.sem ρ σ G H _ _ he gh hw fun vs ds G1 H1 e1 r1 h1 => ⟨by rw [r1.length]; exact h1.1, fun a na => ?_⟩
  have hn : H a = none := by
    cases z : H a with
    | none => rfl
    | some o =>
      by_cases hm : R.M a
      · obtain ⟨_, u, hu⟩ := e1.gh.m a hm
        rw [na] at hu
        cases hu
      · rw [e1.hh a o z hm] at na
        cases na
  exact q (.ref a) (.own ds) G1 (upd H1 a (.lst vs)) (e1.trans (Ext.side e1.gh na)) ⟨a, vs, rfl, upd_same, hn, e1.gh.s.free na, r1⟩ h1.2
def dAsgS (i : Nat) (e : TdSl) : TdS := fun De ρ => e ρ fun s => De.nx (ρ.set i s)
theorem StOk.setS {S : Start} {ρ : Rho} {σ : L2.St} {G H G' H' : Hp} {i : Nat} {v : V} {s : Sl} (h : StOk m R S ρ σ G H) (e : Ext R G H G' H') (r : SlNew m G H G' H' v s) : StOk m R S (ρ.set i s) (σ.set i (some v)) G' H' := by
  cases s with
  | val d => exact (h.step e).setV r
  | own ds =>
    obtain ⟨l, vs, rfl, h1, h2, h3, h4⟩ := r
    refine (h.step e).put ⟨l, vs, rfl, h1, h.fresh h2, h3, h4⟩ fun j t a _ hs ms e2 => ?_
    have e3 : a = l := by
      have z : some (some (V.ref l)) = some (some (V.ref a)) := e2
      cases z
      rfl
    subst e3
    have key := (h.at_ j t hs).step e.gg fun b u o hu => ⟨e.hh _ _ hu (h.notM ((h.at_ j t hs).owned o).2.1), ext_none h.gh e hu ((h.at_ j t hs).owned o).2.2⟩
    obtain ⟨⟨u, hu⟩, _⟩ := (h.at_ j t hs).owned (key.2 a ms)
    rw [h2] at hu
    cases hu
  | _ => exact r.elim
theorem pds_setS (i : Nat) {px : Pos} {ds : TdSl} (hN : X.N.Nodup) (he : PDSl m R X e te ds) (hi : X.N[i]? = some x := by rfl) (hx : Loc X.env.scope x := by first | exact Or.inl rfl | exact Or.inr rfl) (hs : swapsWith e (some (.Name x px)) pos.line X.env = pure false := by rfl)
    (hf : X.fn x = true ∨ X.env.scope.names.lookup x = some .local := by first | exact .inl rfl | exact .inr rfl) : PDS m R X (.Assign [.Name x px] e pos) (tAsg te (gName i)) (dAsgS i ds) :=
  ⟨ps_set hN hi hx he.pe hs hf, fun S ρ σ G H De Dd st c h => he.sem ρ σ G H _ _ st.envE st.gh h fun v s G1 H1 e1 r1 h1 => c.nx _ _ G1 H1 (st.setS e1 r1) h1⟩
/-- i := a list that is read from now on -/
def dFrz (i : Nat) (t : TdS) : TdS := fun De ρ => match ρ[i]? with
  | some (.own ds) => t De (ρ.set i (.val (.lst ds)))
  | _ => False
theorem sem_frz {i : Nat} (h : SemS m R t dt) : SemS m R t (dFrz i dt) := fun S ρ σ G H De Dd st c hw => by
  unfold dFrz at hw
  split at hw
  · rename_i ds e
    obtain ⟨G', sm, st'⟩ := st.freeze e
    exact h S _ σ G' H De Dd st' c hw
  · exact hw.elim
theorem pdss_frz (i : Nat) (h : PDSs m R X rest t dt) : PDSs m R X rest t (dFrz i dt) := ⟨h.pe, sem_frz h.sem⟩
/-- l.append(e) -/
def dApp (i : Nat) (e : TdE) : TdS := fun De ρ => match ρ[i]? with
  | some (.own ds) => e ρ fun d => ds.length < sizeLine ∧ De.nx (ρ.set i (.own (ds ++ [d])))
  | _ => False
theorem pds_app (i : Nat) {px apos cpos : Pos} (he : PD m R X e te de) (hi : X.N[i]? = some x := by rfl) (hv : Vis X.env.scope x := by first | exact Or.inl rfl | exact Or.inr (Or.inl rfl) | exact Or.inr (Or.inr rfl)) (hd : (x == ("__debug__" : Str)) = false := by decide)
    (hcd : (x == ("__classdict__" : Str)) = false := by decide) (hbase : attributeBase (.Name x px) "append" X.env (eval (.Name x px) X.env) = eval (.Name x px) X.env := by rfl)
    (hfew : ((backTo cpos (starEach (e :: []) X.env)).all (fun x => !x.1) && (backToKw cpos (keywordEach [] X.env)).all (fun x => x.1.isSome)
      && decide ((e :: []).length + ([] : List Keyword).length + (if ([] : List Keyword).isEmpty then 0 else 1) < 30)) = true := by rfl)
    (hline : (apos.endLine == cpos.line) = true := by rfl) (hs : starEach (e :: []) X.env = (false, eval e X.env) :: starEach [] X.env := by rfl) (hplain : (backTo cpos (starEach [] X.env)).any (·.1) = false := by rfl)
    (hsw : swapsWith (.Call (.Attribute (.Name x px) "append" apos) [e] [] cpos) none pos.line X.env = pure false := by rfl) :
    PDS m R X (.Expr (.Call (.Attribute (.Name x px) "append" apos) [e] [] cpos) pos) (tDrop (tBM X.K "list" rAppend (tVar i) (tCons te tNil))) (dApp i de) := by
  refine ⟨ps_expr (pe_bm PySem.F.plainAttrs_list PySem.F.slot_list_append PySem.F.type_list_append mt_append (pv i hi hv hd hcd) (pa_cons he.pe pa_nil hs) hbase hfew hline hs hplain) hsw, fun S ρ σ G H De Dd st c h => ?_⟩
  unfold dApp at h
  split at h
  · rename_i ds e
    obtain ⟨l, vs, g1, g2, g3, g4, g5⟩ := st.at_ i _ e
    refine ⟨.ref l, g1, .inl ⟨rfl, _, SqL.of g2⟩, ?_⟩
    refine he.sem ρ σ G H _ _ st.envE st.gh h fun v d G1 H1 e1 r1 h1 => ?_
    have st1 := st.step e1
    have g2' : H1 l = some (.lst vs) := e1.hh _ _ g2 (st.notM g3)
    refine ⟨l, vs, v, rfl, rfl, g2', by rw [g5.length]; exact h1.1, ?_⟩
    refine c.nx _ σ G1 _ (st1.wr (s1 := .own (ds ++ [d])) e g1 ⟨l, vs ++ [v], g1, upd_same, g3, ext_none st.gh e1 g2 g4, (g5.mono e1.gg).append (.cons r1 .nil)⟩ fun a z => z) h1.2
  · exact h.elim
/-- l.extend(e), e a list -/
def dExt (i : Nat) (e : TdE) : TdS := fun De ρ => match ρ[i]? with
  | some (.own ds) => e ρ fun d => match d with
    | .lst es => ds.length + es.length ≤ sizeLine ∧ De.nx (ρ.set i (.own (ds ++ es)))
    | _ => False
  | _ => False
theorem pds_ext (i : Nat) {px apos cpos : Pos} (he : PD m R X e te de) (hi : X.N[i]? = some x := by rfl) (hv : Vis X.env.scope x := by first | exact Or.inl rfl | exact Or.inr (Or.inl rfl) | exact Or.inr (Or.inr rfl)) (hd : (x == ("__debug__" : Str)) = false := by decide)
    (hcd : (x == ("__classdict__" : Str)) = false := by decide) (hbase : attributeBase (.Name x px) "extend" X.env (eval (.Name x px) X.env) = eval (.Name x px) X.env := by rfl)
    (hfew : ((backTo cpos (starEach (e :: []) X.env)).all (fun x => !x.1) && (backToKw cpos (keywordEach [] X.env)).all (fun x => x.1.isSome)
      && decide ((e :: []).length + ([] : List Keyword).length + (if ([] : List Keyword).isEmpty then 0 else 1) < 30)) = true := by rfl)
    (hline : (apos.endLine == cpos.line) = true := by rfl) (hs : starEach (e :: []) X.env = (false, eval e X.env) :: starEach [] X.env := by rfl) (hplain : (backTo cpos (starEach [] X.env)).any (·.1) = false := by rfl)
    (hsw : swapsWith (.Call (.Attribute (.Name x px) "extend" apos) [e] [] cpos) none pos.line X.env = pure false := by rfl) :
    PDS m R X (.Expr (.Call (.Attribute (.Name x px) "extend" apos) [e] [] cpos) pos) (tDrop (tBM X.K "list" rExtend (tVar i) (tCons te tNil))) (dExt i de) := by
  refine ⟨ps_expr (pe_bm PySem.F.plainAttrs_list PySem.F.slot_list_extend PySem.F.type_list_extend mt_extend (pv i hi hv hd hcd) (pa_cons he.pe pa_nil hs) hbase hfew hline hs hplain) hsw, fun S ρ σ G H De Dd st c h => ?_⟩
  unfold dExt at h
  split at h
  · rename_i ds e
    obtain ⟨l, vs, g1, g2, g3, g4, g5⟩ := st.at_ i _ e
    refine ⟨.ref l, g1, .inl ⟨rfl, _, SqL.of g2⟩, ?_⟩
    refine he.sem ρ σ G H _ _ st.envE st.gh h fun v d G1 H1 e1 r1 h1 => ?_
    have st1 := st.step e1
    have g2' : H1 l = some (.lst vs) := e1.hh _ _ g2 (st.notM g3)
    cases r1 with
    | @lst b us es hb rb =>
      refine ⟨l, b, vs, us, rfl, rfl, g2', e1.gh.s _ _ hb, by rw [g5.length, rb.length]; exact h1.1, ?_⟩
      exact c.nx _ σ G1 _ (st1.wr (s1 := .own (ds ++ es)) e g1 ⟨l, vs ++ us, g1, upd_same, g3, ext_none st.gh e1 g2 g4, (g5.mono e1.gg).append rb⟩ fun a z => z) h1.2
    | _ => exact h1.elim
  · exact h.elim
end
end Dl
set_option Elab.async false
set_option linter.all false
set_option maxRecDepth 100000
set_option maxHeartbeats 2000000
namespace Dl
open PySem L2

/-! targets -/
abbrev TdG := D → Rho → (Rho → Prop) → Prop
def putD (l : List (Nat × V × D)) (ρ : Rho) : Rho := l.foldl (fun r p => r.set p.1 (.val p.2.2)) ρ
def putV (l : List (Nat × V × D)) (σ : L2.St) : L2.St := l.foldl (fun s p => s.set p.1 (some p.2.1)) σ
def SemG (m : Pm) (js : List Nat) (g : TG) (dg : TdG) : Prop := ∀ (G H : Hp) (v : V) (d : D) (ρ : Rho) (σ : L2.St) (k : Rho → Prop) (Q : L2.St → Hp → Prop), Same G H → Rep m G v d → dg d ρ k →
  (∀ l : List (Nat × V × D), (∀ p ∈ l, p.1 ∈ js ∧ Rep m G p.2.1 p.2.2) → k (putD l ρ) → Q (putV l σ) H) → g v σ H Q
structure PDG (m : Pm) (X : Cx) (js : List Nat) (tg : Expr) (g : TG) (dg : TdG) : Prop where
  pe : PG X tg g
  sem : SemG m js g dg
def dgName (i : Nat) : TdG := fun d ρ k => k (ρ.set i (.val d))
def dgTup (is : List Nat) : TdG := fun d ρ k => match d with
  | .tup ds => ds.length = is.length ∧ k ((is.zip ds).foldl (fun r p => r.set p.1 (.val p.2)) ρ)
  | _ => False
def gNames : List Nat → TGs
  | [] => gNil
  | i :: is => gCons (gName i) (gNames is)

section
variable {m : Pm} {R : Res} {X : Cx}
theorem sem_gname (i : Nat) : SemG m [i] (gName i) (dgName i) := fun G H v d ρ σ k Q sm r h q => q [(i, v, d)] (fun p hp => by
  have e : p = (i, v, d) := by simpa using hp
  subst e
  exact ⟨by simp, r⟩) h
theorem gnames_run {js : List Nat} {G H : Hp} {Q : L2.St → Hp → Prop} : ∀ (is : List Nat) (vs : List V) (ds : List D) (ρ : Rho) (σ : L2.St) (k : Rho → Prop), (∀ i ∈ is, i ∈ js) → Reps m G vs ds → ds.length = is.length →
    k ((is.zip ds).foldl (fun r p => r.set p.1 (.val p.2)) ρ) → (∀ l : List (Nat × V × D), (∀ p ∈ l, p.1 ∈ js ∧ Rep m G p.2.1 p.2.2) → k (putD l ρ) → Q (putV l σ) H) → gNames is vs σ H Q
  | [], vs, ds, ρ, σ, k, _, r, hl, h, q => by
    cases r with
    | nil => exact ⟨rfl, q [] (fun p hp => by cases hp) h⟩
    | cons _ _ => cases hl
  | i :: is, vs, ds, ρ, σ, k, hj, r, hl, h, q => by
    cases r with
    | nil => cases hl
    | @cons v d vs ds a r =>
      refine ⟨v, vs, rfl, ?_⟩
      show gNames is vs (σ.set i (some v)) H Q
      refine gnames_run is vs ds (ρ.set i (.val d)) (σ.set i (some v)) k (fun j hh => hj j (List.mem_cons_of_mem _ hh)) r (by simpa using hl) h fun l hl' hk => ?_
      exact q ((i, v, d) :: l) (fun p hp => by
        rcases List.mem_cons.mp hp with e | e
        · subst e
          exact ⟨hj i List.mem_cons_self, a⟩
        · exact hl' p e) hk
theorem sem_gtup (K : PySem.W.Frag) (is : List Nat) : SemG m is (gTup K is.length (gNames is)) (dgTup is) := fun G H v d ρ σ k Q sm r h q => by
  cases r with
  | @tup a vs ds ha rs => exact ⟨a, vs, rfl, SqT.of (sm _ _ ha), by rw [rs.length]; exact h.1, gnames_run is vs ds ρ σ k (fun _ z => z) rs h.1 h.2 q⟩
  | _ => exact h.elim
theorem pdg_name (i : Nat) {x : Str} {pos : Pos} (hN : X.N.Nodup) (hi : X.N[i]? = some x := by rfl) (hx : Loc X.env.scope x := by first | exact Or.inl rfl | exact Or.inr rfl) (hf : X.fn x = true ∨ X.env.scope.names.lookup x = some .local := by first | exact .inl rfl | exact .inr rfl) :
    PDG m X [i] (.Name x pos) (gName i) (dgName i) := ⟨pg_name hN hi hx hf, sem_gname i⟩
theorem pgn_nil : PGs X [] (gNames []) := pgs_nil
theorem pgn_cons (i : Nat) {is : List Nat} {x : Str} {px : Pos} {es : List Expr} (hN : X.N.Nodup) (h2 : PGs X es (gNames is)) (hi : X.N[i]? = some x := by rfl) (hx : Loc X.env.scope x := by first | exact Or.inl rfl | exact Or.inr rfl) (hf : X.fn x = true ∨ X.env.scope.names.lookup x = some .local := by first | exact .inl rfl | exact .inr rfl)
    (hs : (assignEach (.Name x px :: es) X.env).map (·.2) = assign (.Name x px) X.env :: (assignEach es X.env).map (·.2) := by rfl) : PGs X (.Name x px :: es) (gNames (i :: is)) := pgs_cons (pg_name hN hi hx hf) h2 hs
theorem pdg_tup {is : List Nat} {es : List Expr} {kk : Nat} {pos : Pos} (hc : X.calm = true) (h : PGs X es (gNames is)) (hn : (assignEach es X.env).length = is.length := by rfl) (hst : (assignEach es X.env).findIdx? (·.1) = none := by rfl) :
    PDG m X is (.Tuple es kk pos) (gTup X.K is.length (gNames is)) (dgTup is) := ⟨pg_tup hc h hn hst, sem_gtup X.K is⟩

theorem putD_len : ∀ (l : List (Nat × V × D)) (ρ : Rho), (putD l ρ).length = ρ.length
  | [], _ => rfl
  | p :: l, ρ => by
    show (putD l (ρ.set p.1 (.val p.2.2))).length = _
    rw [putD_len l, List.length_set]
theorem EnvE.set {G : Hp} {ρ : Rho} {σ : L2.St} {i : Nat} {v : V} {d : D} (h : EnvE m G ρ σ) (r : Rep m G v d) : EnvE m G (ρ.set i (.val d)) (σ.set i (some v)) := by
  refine ⟨by rw [List.length_set, List.length_set]; exact h.len, fun j d' hs => ?_⟩
  rcases get_set hs with ⟨e1, e⟩ | ⟨ne, hs'⟩
  · cases e
    subst e1
    have hl : j < (ρ.set j (.val d)).length := (List.getElem?_eq_some_iff.mp hs).1
    rw [List.length_set] at hl
    exact ⟨v, by rw [List.getElem?_set_self (by rw [← h.len]; exact hl)], r⟩
  · rw [List.getElem?_set_ne (Ne.symm ne)]
    exact h.at_ j d' hs'
theorem EnvE.sets {G : Hp} : ∀ (l : List (Nat × V × D)) {ρ : Rho} {σ : L2.St}, EnvE m G ρ σ → (∀ p ∈ l, Rep m G p.2.1 p.2.2) → EnvE m G (putD l ρ) (putV l σ)
  | [], _, _, h, _ => h
  | p :: l, _, _, h, r => EnvE.sets l (h.set (r p List.mem_cons_self)) fun q hq => r q (List.mem_cons_of_mem _ hq)
theorem StOk.sets {S : Start} {G H : Hp} : ∀ (l : List (Nat × V × D)) {ρ : Rho} {σ : L2.St}, StOk m R S ρ σ G H → (∀ p ∈ l, Rep m G p.2.1 p.2.2) → StOk m R S (putD l ρ) (putV l σ) G H
  | [], _, _, h, _ => h
  | p :: l, _, _, h, r => StOk.sets l (h.setV (r p List.mem_cons_self)) fun q hq => r q (List.mem_cons_of_mem _ hq)
/-- data level: the block's own names forgotten -/
def wipeR (ρ : Rho) : List Nat → Rho
  | [] => ρ
  | v :: vs => (wipeR ρ vs).set v .no
theorem wipe_get {σ : L2.St} {i : Nat} : ∀ {vs : List Nat}, i ∉ vs → (wipe σ vs)[i]? = σ[i]?
  | [], _ => rfl
  | v :: vs, h => by
    show ((wipe σ vs).set v none)[i]? = _
    rw [List.getElem?_set_ne (fun z => h (by rw [z]; exact List.mem_cons_self))]
    exact wipe_get fun z => h (List.mem_cons_of_mem _ z)
theorem wipeR_len (ρ : Rho) : ∀ vs : List Nat, (wipeR ρ vs).length = ρ.length
  | [] => rfl
  | v :: vs => by
    show ((wipeR ρ vs).set v .no).length = _
    rw [List.length_set]
    exact wipeR_len ρ vs
theorem wipeR_val {ρ : Rho} {i : Nat} {d : D} : ∀ {vs : List Nat}, (wipeR ρ vs)[i]? = some (.val d) → ρ[i]? = some (.val d) ∧ i ∉ vs
  | [], h => ⟨h, by simp⟩
  | v :: vs, h => by
    rcases get_set (show ((wipeR ρ vs).set v .no)[i]? = _ from h) with ⟨_, e⟩ | ⟨ne, h'⟩
    · cases e
    · obtain ⟨h1, h2⟩ := wipeR_val h'
      exact ⟨h1, fun z => by
        rcases List.mem_cons.mp z with z | z
        · exact ne z
        · exact h2 z⟩
theorem EnvE.wipe {G : Hp} {ρ : Rho} {σ : L2.St} (h : EnvE m G ρ σ) (vs : List Nat) : EnvE m G (wipeR ρ vs) (L2.wipe σ vs) :=
  ⟨by rw [wipeR_len, wipe_length]; exact h.len, fun i d e => by
    obtain ⟨h1, h2⟩ := wipeR_val e
    rw [wipe_get h2]
    exact h.at_ i d h1⟩
theorem wipe_set {σ : L2.St} {w : Option V} {j : Nat} : ∀ {vs : List Nat}, j ∈ vs → wipe (σ.set j w) vs = wipe σ vs
  | v :: vs, h => by
    show (wipe (σ.set j w) vs).set v none = (wipe σ vs).set v none
    by_cases e : j ∈ vs
    · rw [wipe_set e]
    · have e2 : j = v := (List.mem_cons.mp h).resolve_right e
      subst e2
      refine List.ext_getElem? fun i => ?_
      by_cases hi : i = j
      · subst hi
        by_cases hl : i < σ.length
        · rw [List.getElem?_set_self (by rw [wipe_length, List.length_set]; exact hl), List.getElem?_set_self (by rw [wipe_length]; exact hl)]
        · rw [List.getElem?_eq_none (by rw [List.length_set, wipe_length, List.length_set]; omega), List.getElem?_eq_none (by rw [List.length_set, wipe_length]; omega)]
      · rw [List.getElem?_set_ne (Ne.symm hi), List.getElem?_set_ne (Ne.symm hi)]
        by_cases hv : i ∈ vs
        · have key : ∀ (τ : L2.St) (vs : List Nat), i ∈ vs → (wipe τ vs)[i]? = if i < τ.length then some none else none := by
            intro τ vs
            induction vs with
            | nil => intro z; cases z
            | cons u us ih =>
              intro z
              show ((wipe τ us).set u none)[i]? = _
              by_cases hu : i = u
              · subst hu
                by_cases hl : i < τ.length
                · rw [List.getElem?_set_self (by rw [wipe_length]; exact hl), if_pos hl]
                · rw [List.getElem?_eq_none (by rw [List.length_set, wipe_length]; omega), if_neg hl]
              · rw [List.getElem?_set_ne (Ne.symm hu)]
                exact ih ((List.mem_cons.mp z).resolve_left hu)
          rw [key _ _ hv, key _ _ hv, List.length_set]
        · rw [wipe_get hv, wipe_get hv, List.getElem?_set_ne (Ne.symm hi)]
theorem wipe_wipe (σ : L2.St) (vs : List Nat) : wipe (wipe σ vs) vs = wipe σ vs := by
  refine List.ext_getElem? fun i => ?_
  by_cases hv : i ∈ vs
  · have key : ∀ (τ : L2.St) (vs : List Nat), i ∈ vs → (wipe τ vs)[i]? = if i < τ.length then some none else none := by
      intro τ vs
      induction vs with
      | nil => intro z; cases z
      | cons u us ih =>
        intro z
        show ((wipe τ us).set u none)[i]? = _
        by_cases hu : i = u
        · subst hu
          by_cases hl : i < τ.length
          · rw [List.getElem?_set_self (by rw [wipe_length]; exact hl), if_pos hl]
          · rw [List.getElem?_eq_none (by rw [List.length_set, wipe_length]; omega), if_neg hl]
        · rw [List.getElem?_set_ne (Ne.symm hu)]
          exact ih ((List.mem_cons.mp z).resolve_left hu)
    rw [key _ _ hv, key _ _ hv, wipe_length]
  · rw [wipe_get hv, wipe_get hv]
theorem wipe_putV {js vs : List Nat} (hj : ∀ j ∈ js, j ∈ vs) : ∀ (l : List (Nat × V × D)) (σ : L2.St), (∀ p ∈ l, p.1 ∈ js) → wipe (putV l σ) vs = wipe σ vs
  | [], _, _ => rfl
  | p :: l, σ, h => by
    show wipe (putV l (σ.set p.1 (some p.2.1))) vs = _
    rw [wipe_putV hj l _ fun q hq => h q (List.mem_cons_of_mem _ hq), wipe_set (hj _ (h p List.mem_cons_self))]
end

/-! what is walked -/
abbrev TdI := Rho → (List D → Prop) → Prop
structure WalkD (m : Pm) (R : Res) (J : It) (ds : List D) (G : Hp) : Prop where
  goes : ∀ i G2 H2, i < ds.length → Same G G2 → GH R G2 H2 → J.go i H2
  stops : ∀ G2 H2, Same G G2 → GH R G2 H2 → J.stop ds.length H2
  yields : ∀ i G2 H2 x H3, i < ds.length → Same G G2 → GH R G2 H2 → J.yld i H2 x H3 → ∃ d G3, ds[i]? = some d ∧ Ext R G2 H2 G3 H3 ∧ Rep m G3 x d
def SemI (m : Pm) (R : Res) (wi : TI) (di : TdI) : Prop := ∀ (ρ : Rho) (σ : L2.St) (G H : Hp) (k : List D → Prop) (RR : It → Hp → Prop), EnvE m G ρ σ → GH R G H → di ρ k →
  (∀ J ds G' H', Ext R G H G' H' → WalkD m R J ds G' → k ds → RR J H') → wi σ H RR
structure PDI (m : Pm) (R : Res) (X : Cx) (tg iter : Expr) (wi : TI) (di : TdI) : Prop where
  pe : PI X tg iter wi
  sem : SemI m R wi di
section
variable {m : Pm} {R : Res} {X : Cx} {e tg : Expr} {te : TE} {de : TdE} {ta : TA} {da : TdA} {p pos : Pos}
theorem walkD_list {K : PySem.W.Frag} {a : Addr} {vs : List V} {ds : List D} {G : Hp} (h : G a = some (.lst vs)) (r : Reps m G vs ds) : WalkD m R (Itl K a) ds G := by
  have w := @walk_list K a vs
  refine ⟨fun i G2 H2 hi sm gh => w.goes i H2 (by rw [r.length]; exact hi) (SqL.of (gh.s _ _ (sm _ _ h))), fun G2 H2 sm gh => by rw [← r.length]; exact w.stops H2 (SqL.of (gh.s _ _ (sm _ _ h))), fun i G2 H2 x H3 hi sm gh y => ?_⟩
  obtain ⟨e1, e2⟩ := w.yields i H2 x H3 (by rw [r.length]; exact hi) (SqL.of (gh.s _ _ (sm _ _ h))) y
  subst e1
  obtain ⟨d, h1, h2⟩ := r.getV e2
  exact ⟨d, G2, h1, Ext.refl gh, h2.mono sm⟩
theorem walkD_tup {K : PySem.W.Frag} {a : Addr} {vs : List V} {ds : List D} {G : Hp} (h : G a = some (.tup vs)) (r : Reps m G vs ds) : WalkD m R (Itt K a) ds G := by
  have w := @walk_tup K a vs
  refine ⟨fun i G2 H2 hi sm gh => w.goes i H2 (by rw [r.length]; exact hi) (SqT.of (gh.s _ _ (sm _ _ h))), fun G2 H2 sm gh => by rw [← r.length]; exact w.stops H2 (SqT.of (gh.s _ _ (sm _ _ h))), fun i G2 H2 x H3 hi sm gh y => ?_⟩
  obtain ⟨e1, e2⟩ := w.yields i H2 x H3 (by rw [r.length]; exact hi) (SqT.of (gh.s _ _ (sm _ _ h))) y
  subst e1
  obtain ⟨d, h1, h2⟩ := r.getV e2
  exact ⟨d, G2, h1, Ext.refl gh, h2.mono sm⟩
def rngD (lo : Int) (n : Nat) : List D := (List.range n).map fun (i : Nat) => .int (lo + (i : Int))
theorem walkD_range {lo : Int} {n : Nat} {G : Hp} : WalkD m R (Itr lo n) (rngD lo n) G := by
  have hl : (rngD lo n).length = n := by simp [rngD]
  have w := @walk_range lo n
  refine ⟨fun i G2 H2 hi sm gh => w.goes i H2 (by rw [← hl]; exact hi) trivial, fun G2 H2 sm gh => by rw [hl]; exact w.stops H2 trivial, fun i G2 H2 x H3 hi sm gh y => ?_⟩
  rw [hl] at hi
  obtain ⟨e1, e2⟩ := w.yields i H2 x H3 hi trivial y
  subst e1 e2
  exact ⟨.int (lo + i), G2, by simp [rngD, hi], Ext.refl gh, .int _⟩
/-- a list or a tuple -/
def dIter (de : TdE) : TdI := fun ρ k => de ρ fun d => match d with
  | .tup ds => k ds
  | .lst ds => k ds
  | _ => False
theorem pi_or {iter : Expr} {w1 w2 : TI} (h1 : PI X tg iter w1) (h2 : PI X tg iter w2) : PI X tg iter (fun σ H RR => w1 σ H RR ∨ w2 σ H RR) := ⟨fun pins s σ H RR I h => h.elim (h1.run pins s σ H RR I) (h2.run pins s σ H RR I)⟩
/-- the expression is run once; what it gives is looked at then -/
def iSeq (K : PySem.W.Frag) (te : TE) : TI := fun σ H RR => te σ H fun x H1 => (∃ a, x = .ref a ∧ (∃ xs, SqT K H1 a xs) ∧ RR (Itt K a) H1) ∨ ∃ a, x = .ref a ∧ (∃ xs, SqL K H1 a xs) ∧ RR (Itl K a) H1
theorem pi_seq {l : Expr} {tl : TE} (hl : PE X l tl) : PI X tg l (iSeq X.K tl) := by
  refine ⟨fun pins s σ H RR I h => thn (hl.run pins s σ H _ I h) fun v s1 ⟨x, H1, I1, r1, q1⟩ => ?_⟩
  have c1 : PE (X := X) l (fun _ _ _ => False) := ⟨fun _ _ _ _ _ _ z => z.elim⟩
  rcases q1 with ⟨a, rfl, ⟨xs, hq⟩, q⟩ | ⟨a, rfl, ⟨xs, hq⟩, q⟩
  · cases r1
    obtain ⟨its, rv, pt, hz⟩ := I1.tuple hq
    exact wpAny_pyIter_tuple pt (pi_one (tk := s1.toks) I1 _ (turn_tuple a _) ⟨_, Heap.get?_push_size _ rfl, rfl, rfl⟩ q)
  · cases r1
    obtain ⟨its, rv, pt, hz⟩ := I1.list hq
    exact wpAny_pyIter_list pt.isList (pi_one (tk := s1.toks) I1 _ (turn_list a _) ⟨_, Heap.get?_push_size _ rfl, rfl, rfl⟩ q)
theorem pdi_seq (he : PD m R X e te de) : PDI m R X tg e (iSeq X.K te) (dIter de) := by
  refine ⟨pi_seq he.pe, fun ρ σ G H k RR hv gh h q => ?_⟩
  refine he.sem ρ σ G H _ _ hv gh h fun v d G1 H1 e1 r1 h1 => ?_
  cases r1 with
  | @tup a vs ds ha rs => exact .inl ⟨a, rfl, ⟨vs, SqT.of (e1.gh.s _ _ ha)⟩, q _ ds G1 H1 e1 (walkD_tup ha rs) h1⟩
  | @lst a vs ds ha rs => exact .inr ⟨a, rfl, ⟨vs, SqL.of (e1.gh.s _ _ ha)⟩, q _ ds G1 H1 e1 (walkD_list ha rs) h1⟩
  | _ => exact h1.elim
def dRng1 (da : TdA) : TdI := fun ρ k => da ρ fun ds => match ds with
  | [.int n] => (-(2 ^ 62) ≤ n ∧ n < 2 ^ 62) ∧ k (rngD 0 n.toNat)
  | _ => False
def dRng2 (da : TdA) : TdI := fun ρ k => da ρ fun ds => match ds with
  | [.int a, .int b] => (-(2 ^ 62) ≤ a ∧ a < 2 ^ 62 ∧ -(2 ^ 62) ≤ b ∧ b < 2 ^ 62) ∧ k (rngD a (b - a).toNat)
  | _ => False
theorem pdi_rng1 (hg : Gl X "range") (hm : X.mg "range" = none) (ha : PDA m R X [e] ta da) (hs : starEach [e] X.env = [(false, eval e X.env)] := by rfl) : PDI m R X tg (.Call (.Name "range" p) [e] [] pos) (iRng1 ta) (dRng1 da) := by
  refine ⟨pi_range1 hg hm ha.pe hs, fun ρ σ G H k RR hv gh h q => ?_⟩
  refine ha.sem ρ σ G H _ _ hv gh h fun vs ds G1 H1 e1 r1 h1 => ?_
  split at h1
  · rename_i n
    cases r1 with
    | cons a r => cases r with
      | nil => cases a with
        | int _ => exact ⟨n, rfl, h1.1.1, h1.1.2, q _ _ G1 H1 e1 walkD_range h1.2⟩
  · exact h1.elim
theorem pdi_rng2 {f : Expr} (hg : Gl X "range") (hm : X.mg "range" = none) (ha : PDA m R X [e, f] ta da) (hs : starEach [e, f] X.env = [(false, eval e X.env), (false, eval f X.env)] := by rfl) (hs2 : starEach [f] X.env = [(false, eval f X.env)] := by rfl) :
    PDI m R X tg (.Call (.Name "range" p) [e, f] [] pos) (iRng2 ta) (dRng2 da) := by
  refine ⟨pi_range2 hg hm ha.pe hs hs2, fun ρ σ G H k RR hv gh h q => ?_⟩
  refine ha.sem ρ σ G H _ _ hv gh h fun vs ds G1 H1 e1 r1 h1 => ?_
  split at h1
  · rename_i a b
    cases r1 with
    | cons x r => cases r with
      | cons y r => cases r with
        | nil => cases x with
          | int _ => cases y with
            | int _ => exact ⟨a, b, rfl, h1.1, q _ _ G1 H1 e1 walkD_range h1.2⟩
  · exact h1.elim
end
end Dl
set_option Elab.async false
set_option linter.all false
set_option maxRecDepth 100000
set_option maxHeartbeats 2000000
namespace Dl
open PySem L2

section
variable {m : Pm} {R : Res} {X : Cx} {e tg iter c : Expr} {te : TE} {de : TdE} {ta : TA} {da : TdA} {p pos : Pos} {wi : TI} {di : TdI} {g : TG} {dg : TdG} {js : List Nat} {t : TS} {td : TdS} {tt : TT} {dt : TdT}
/-! for -/
def dFor (di : TdI) (dg : TdG) (body : TdS) : TdS := fun De ρ => di ρ fun ds => ∃ I : Nat → Rho → Prop, I 0 ρ ∧
  (∀ (i : Nat) (d : D) (ρ' : Rho), ds[i]? = some d → I i ρ' → dg d ρ' fun ρ2 => body { De with nx := I (i + 1), ct := I (i + 1), bk := De.nx } ρ2) ∧ ∀ ρ', I ds.length ρ' → De.nx ρ'
theorem sem_for (hi : SemI m R wi di) (hg : SemG m js g dg) (hb : SemS m R t td) : SemS m R (tFor wi g t) (dFor di dg td) := by
  intro S ρ σ G H De Dd st cm h
  refine hi ρ σ G H _ _ st.envE st.gh h fun J ds G1 H1 e1 wk ⟨I, h0, hs, hd⟩ => ?_
  have st1 := (st.step e1).base (Same.refl G1)
  have sB : Same S.B G1 := st.bs.trans e1.gg
  refine ⟨fun i n σ' H' => n = ds.length - i ∧ i ≤ ds.length ∧ ∃ ρ' G', StOk m R { S with B := G1 } ρ' σ' G' H' ∧ I i ρ', ⟨_, rfl, Nat.zero_le _, ρ, G1, st1, h0⟩, ?_⟩
  rintro i n σ' H' ⟨rfl, hil, ρ', G', st', hI⟩
  by_cases hlt : i < ds.length
  · refine .inr ⟨wk.goes i G' H' hlt st'.bs st'.gh, fun σ2 H2 => ∃ ρ2 G2, StOk m R { S with B := G1 } ρ2 σ2 G2 H2 ∧ I (i + 1) ρ2, fun σ2 H2 hh => ⟨ds.length - (i + 1), by omega, rfl, hlt, hh⟩, fun x H2 y => ?_⟩
    obtain ⟨d, G2, hd1, e2, r2⟩ := wk.yields i G' H' x H2 hlt st'.bs st'.gh y
    have st2 := st'.step e2
    refine hg G2 H2 x d ρ' σ' _ _ st2.gh.s r2 (hs i d ρ' hd1 hI) fun l hl hk => ?_
    refine hb { S with B := G1 } _ _ G2 H2 { De with nx := I (i + 1), ct := I (i + 1), bk := De.nx } _ (StOk.sets l st2 fun q hq => (hl q hq).2) ⟨fun ρ3 σ3 G3 H3 s3 h3 => ⟨ρ3, G3, s3, h3⟩, fun v d G3 H3 e3 r3 h3 => cm.rt v d G3 H3 e3 r3 h3, fun ρ3 σ3 G3 H3 s3 h3 => cm.nx ρ3 σ3 G3 H3 (s3.weakB sB) h3, fun ρ3 σ3 G3 H3 s3 h3 => ⟨ρ3, G3, s3, h3⟩⟩ hk
  · have e : i = ds.length := by omega
    subst e
    exact .inl ⟨wk.stops G' H' st'.bs st'.gh, cm.nx ρ' σ' G' H' (st'.weakB sB) (hd ρ' hI)⟩
theorem pds_for {body : List Stmt} (hc : X.calm = true) (hi : PDI m R X tg iter wi di) (hg : PDG m X js tg g dg) (hb : PDSs m R X body t td) (hp : PassesOwn (model X.prog X.w) X.A X.env X.xe := by exact PassesOwn.never)
    (hs : ∀ x, foldedSetIterable iter X.env x = pure x := by intro _; rfl) : PDS m R X (.For tg iter body [] pos) (tFor wi g t) (dFor di dg td) := ⟨ps_for hp hc hi.pe hg.pe hb.pe hs, sem_for hi.sem hg.sem hb.sem⟩

/-! while -/
def dWhile (dc : TdT) (body : TdS) : TdS := fun De ρ => ∃ I : Nat → Rho → Prop, (∃ n, I n ρ) ∧ ∀ n ρ', I n ρ' → dc ρ' fun b => if b = true then body { De with nx := fun ρ2 => ∃ n', n' < n ∧ I n' ρ2, ct := fun ρ2 => ∃ n', n' < n ∧ I n' ρ2, bk := De.nx } ρ' else De.nx ρ'
theorem sem_while (hc : SemT m R tt dt) (hb : SemS m R t td) : SemS m R (tWhile tt t) (dWhile dt td) := by
  intro S ρ σ G H De Dd st cm ⟨I, ⟨n0, h0⟩, hs⟩
  refine ⟨fun n σ' H' => ∃ ρ' G', StOk m R S ρ' σ' G' H' ∧ I n ρ', ⟨n0, ρ, G, st, h0⟩, ?_⟩
  rintro n σ' H' ⟨ρ', G', st', hI⟩
  refine hc ρ' σ' G' H' _ _ st'.envE st'.gh (hs n ρ' hI) fun b G1 H1 e1 h1 => ?_
  cases b with
  | true =>
    refine ⟨fun σ2 H2 => ∃ ρ2 G2, StOk m R S ρ2 σ2 G2 H2 ∧ ∃ n', n' < n ∧ I n' ρ2, fun σ2 H2 ⟨ρ2, G2, s2, n', hn, hI2⟩ => ⟨n', hn, ρ2, G2, s2, hI2⟩, ?_⟩
    exact hb S ρ' σ' G1 H1 { De with nx := fun ρ2 => ∃ n', n' < n ∧ I n' ρ2, ct := fun ρ2 => ∃ n', n' < n ∧ I n' ρ2, bk := De.nx } _ (st'.step e1) ⟨fun ρ3 σ3 G3 H3 s3 h3 => ⟨ρ3, G3, s3, h3⟩, cm.rt, fun ρ3 σ3 G3 H3 s3 h3 => cm.nx ρ3 σ3 G3 H3 s3 h3, fun ρ3 σ3 G3 H3 s3 h3 => ⟨ρ3, G3, s3, h3⟩⟩ h1
  | false => exact cm.nx ρ' σ' G1 H1 (st'.step e1) h1
theorem pds_while {body : List Stmt} (hc : PDT m R X c tt dt) (hb : PDSs m R X body t td) (hp : PassesOwn (model X.prog X.w) X.A X.env X.xe := by exact PassesOwn.never) : PDS m R X (.While c body [] pos) (tWhile tt t) (dWhile dt td) := ⟨ps_while hp hc.pe hb.pe, sem_while hc.sem hb.sem⟩

/-! a, b = x, y -/
def dPar (i j : Nat) (a b : TdSl) : TdS := fun De ρ => a ρ fun s => b ρ fun u => De.nx ((ρ.set i s).set j u)
theorem slNew_step {G H G1 H1 G2 H2 : Hp} {v : V} {s : Sl} (gh : GH R G H) (g1 : GH R G1 H1) (e2 : Ext R G1 H1 G2 H2) (r : SlNew m G H G1 H1 v s) : SlNew m G H G2 H2 v s := by
  cases s with
  | val d => exact Rep.mono e2.gg r
  | own ds =>
    obtain ⟨l, vs, h1, h2, h3, h4, h5⟩ := r
    exact ⟨l, vs, h1, e2.hh _ _ h2 (gh.notM h3), h3, ext_none g1 e2 h2 h4, h5.mono e2.gg⟩
  | no => exact r
  | obj _ _ _ => exact r
  | grp _ _ => exact r
/-- two new lists stand apart, and apart from what is mine already -/
theorem StOk.setSS {S : Start} {ρ : Rho} {σ : L2.St} {G H G1 H1 G2 H2 : Hp} {i j : Nat} {v w : V} {s u : Sl} (h : StOk m R S ρ σ G H) (e1 : Ext R G H G1 H1) (r1 : SlNew m G H G1 H1 v s) (e2 : Ext R G1 H1 G2 H2) (r2 : SlNew m G1 H1 G2 H2 w u) :
    StOk m R S ((ρ.set i s).set j u) ((σ.set i (some v)).set j (some w)) G2 H2 := (h.setS e1 r1).setS e2 r2
theorem pds_par {i j : Nat} {x y : Str} {a b : Expr} {a1 b1 : TE} {sa sb : TdSl} {px py pt : Pos} {kt k2 : Nat} {pt2 : Pos} (hc : X.calm = true) (hN : X.N.Nodup) (ha : PDSl m R X a a1 sa) (hb : PDSl m R X b b1 sb) (hij : i ≠ j := by decide)
    (hi : X.N[i]? = some x := by rfl) (hj : X.N[j]? = some y := by rfl) (hx : X.env.scope.names.lookup x = some .local := by rfl) (hy : X.env.scope.names.lookup y = some .local := by rfl)
    (h1 : starEach [a, b] X.env = (false, eval a X.env) :: starEach [b] X.env := by rfl) (h2 : starEach [b] X.env = (false, eval b X.env) :: starEach [] X.env := by rfl)
    (hw : swappedStores [.Tuple [.Name x px, .Name y py] kt pt] (.Tuple [a, b] k2 pt2) X.env = pure (some [x, y]) := by rfl)
    (hs : swapsWithSole [.Tuple [.Name x px, .Name y py] kt pt] (.Tuple [a, b] k2 pt2) pos.line X.env = pure false := by rfl) :
    PDS m R X (.Assign [.Tuple [.Name x px, .Name y py] kt pt] (.Tuple [a, b] k2 pt2) pos) (tPar i j (tCons a1 (tCons b1 tNil))) (dPar i j sa sb) := by
  refine ⟨ps_par hc hN hi hj hij hx hy (pa_cons ha.pe (pa_cons hb.pe pa_nil h2) h1) hw hs, fun S ρ σ G H De Dd st cm h => ?_⟩
  refine ha.sem ρ σ G H _ _ st.envE st.gh h fun v s G1 H1 e1 r1 k1 => ?_
  refine hb.sem ρ σ G1 H1 _ _ (st.step e1).envE e1.gh k1 fun w u G2 H2 e2 r2 k2 => ?_
  exact ⟨v, w, rfl, cm.nx _ _ G2 H2 (st.setSS e1 r1 e2 r2) k2⟩
def dPar3 (i j l : Nat) (a b c : TdSl) : TdS := fun De ρ => a ρ fun s => b ρ fun u => c ρ fun w => De.nx (((ρ.set i s).set j u).set l w)
theorem pds_par3 {i j l : Nat} {x y z : Str} {a b c : Expr} {a1 b1 c1 : TE} {sa sb sc : TdSl} {px py pz pt : Pos} {kt k2 : Nat} {pt2 : Pos} (hc : X.calm = true) (hN : X.N.Nodup) (ha : PDSl m R X a a1 sa) (hb : PDSl m R X b b1 sb) (hd : PDSl m R X c c1 sc)
    (hij : i ≠ j := by decide) (hil : i ≠ l := by decide) (hjl : j ≠ l := by decide) (hi : X.N[i]? = some x := by rfl) (hj : X.N[j]? = some y := by rfl) (hl : X.N[l]? = some z := by rfl)
    (hx : X.env.scope.names.lookup x = some .local := by rfl) (hy : X.env.scope.names.lookup y = some .local := by rfl) (hz : X.env.scope.names.lookup z = some .local := by rfl)
    (h1 : starEach [a, b, c] X.env = (false, eval a X.env) :: starEach [b, c] X.env := by rfl) (h2 : starEach [b, c] X.env = (false, eval b X.env) :: starEach [c] X.env := by rfl) (h3 : starEach [c] X.env = (false, eval c X.env) :: starEach [] X.env := by rfl)
    (hw : swappedStores [.Tuple [.Name x px, .Name y py, .Name z pz] kt pt] (.Tuple [a, b, c] k2 pt2) X.env = pure (some [x, y, z]) := by rfl)
    (hs : swapsWithSole [.Tuple [.Name x px, .Name y py, .Name z pz] kt pt] (.Tuple [a, b, c] k2 pt2) pos.line X.env = pure false := by rfl) :
    PDS m R X (.Assign [.Tuple [.Name x px, .Name y py, .Name z pz] kt pt] (.Tuple [a, b, c] k2 pt2) pos) (tPar3 i j l (tCons a1 (tCons b1 (tCons c1 tNil)))) (dPar3 i j l sa sb sc) := by
  refine ⟨ps_par3 hc hN hi hj hl hij hil hjl hx hy hz (pa_cons ha.pe (pa_cons hb.pe (pa_cons hd.pe pa_nil h3) h2) h1) hw hs, fun S ρ σ G H De Dd st cm h => ?_⟩
  refine ha.sem ρ σ G H _ _ st.envE st.gh h fun v s G1 H1 e1 r1 k1 => ?_
  refine hb.sem ρ σ G1 H1 _ _ (st.step e1).envE e1.gh k1 fun w u G2 H2 e2 r2 k2 => ?_
  refine hd.sem ρ σ G2 H2 _ _ ((st.step e1).step e2).envE e2.gh k2 fun w3 u3 G3 H3 e3 r3 k3 => ?_
  exact ⟨v, w, w3, rfl, cm.nx _ _ G3 H3 ((st.setSS e1 r1 e2 r2).setS e3 r3) k3⟩

/-! list comprehensions -/
abbrev TdTs := TdT
def dYes : TdT := fun _ k => k true
theorem sem_yes : SemT m R tYes dYes := fun ρ σ G H k Q he gh h q => q true G H (Ext.refl gh) h
def dLc (di : TdI) (dg : TdG) (dt : TdT) (de : TdE) (vs : List Nat) : TdE := fun ρ k => di ρ fun ds => ∃ I : Nat → List D → Prop, I 0 [] ∧
  (∀ (i : Nat) (d : D) (acc : List D), ds[i]? = some d → I i acc → dg d (wipeR ρ vs) fun ρ2 => dt ρ2 fun b => if b = true then de ρ2 fun y => acc.length < sizeLine ∧ I (i + 1) (acc ++ [y]) else I (i + 1) acc) ∧ ∀ acc, I ds.length acc → k (.lst acc)
/-- the same, the list one's own -/
def dLcO (di : TdI) (dg : TdG) (dt : TdT) (de : TdE) (vs : List Nat) : TdSl := fun ρ k => di ρ fun ds => ∃ I : Nat → List D → Prop, I 0 [] ∧
  (∀ (i : Nat) (d : D) (acc : List D), ds[i]? = some d → I i acc → dg d (wipeR ρ vs) fun ρ2 => dt ρ2 fun b => if b = true then de ρ2 fun y => acc.length < sizeLine ∧ I (i + 1) (acc ++ [y]) else I (i + 1) acc) ∧ ∀ acc, I ds.length acc → k (.own acc)
/-- what is walked, in one place -/
def SemIAt (m : Pm) (R : Res) (wi : TI) (di : TdI) (ρ : Rho) (σ : L2.St) (G H : Hp) : Prop := ∀ (k : List D → Prop) (RR : It → Hp → Prop), di ρ k → (∀ J ds G' H', Ext R G H G' H' → WalkD m R J ds G' → k ds → RR J H') → wi σ H RR
theorem sem_lcOat {vs : List Nat} {ρ : Rho} {σ : L2.St} {G H : Hp} {k : Sl → Prop} {Q : VK} (hi : SemIAt m R wi di ρ σ G H) (hg : SemG m js g dg) (ht : SemT m R tt dt) (he : SemE m R te de) (hj : ∀ j ∈ js, j ∈ vs) (hv : EnvE m G ρ σ) (gh : GH R G H) (h : dLcO di dg dt de vs ρ k)
    (q : ∀ v s G' H', Ext R G H G' H' → SlNew m G H G' H' v s → k s → Q v H') : tLc wi g tt te vs σ H Q := by
  refine hi _ _ h fun J ds G1 H1 e1 wk ⟨I, h0, hs, hd⟩ => ?_
  intro Dl hD
  have hDG : G1 Dl = none := e1.gh.s.free hD
  have hDM : ¬ R.M Dl := e1.gh.notM hD
  have hv1 : EnvE m G1 (wipeR ρ vs) (wipe σ vs) := (hv.mono e1.gg).wipe vs
  refine ⟨fun i n H' => n = ds.length - i ∧ i ≤ ds.length ∧ ∃ G' us acc, Ext R G1 H1 G' H' ∧ H' Dl = some (.lst us) ∧ G' Dl = none ∧ Reps m G' us acc ∧ I i acc, ⟨_, rfl, Nat.zero_le _, G1, [], [], Ext.side e1.gh hD, upd_same, hDG, .nil, h0⟩, ?_⟩
  rintro i n H' ⟨rfl, hil, G', us, acc, ex, hL, hG', rs, hI⟩
  by_cases hlt : i < ds.length
  · refine .inr ⟨wk.goes i G' H' hlt ex.gg ex.gh, fun H2 => ∃ G' us acc, Ext R G1 H1 G' H2 ∧ H2 Dl = some (.lst us) ∧ G' Dl = none ∧ Reps m G' us acc ∧ I (i + 1) acc, fun H2 hh => ⟨ds.length - (i + 1), by omega, rfl, hlt, hh⟩, fun x H2 y => ?_⟩
    obtain ⟨d, G2, hd1, e2, r2⟩ := wk.yields i G' H' x H2 hlt ex.gg ex.gh y
    have hL2 : H2 Dl = some (.lst us) := e2.hh _ _ hL hDM
    have hG2 : G2 Dl = none := ext_none ex.gh e2 hL hG'
    refine hg G2 H2 x d (wipeR ρ vs) (wipe σ vs) _ _ e2.gh.s r2 (hs i d acc hd1 hI) fun l hl hk => ?_
    refine ⟨by rw [wipe_putV hj l _ fun z hz => (hl z hz).1, wipe_wipe], ?_⟩
    have hv2 : EnvE m G2 (putD l (wipeR ρ vs)) (putV l (wipe σ vs)) := EnvE.sets l (hv1.mono (ex.gg.trans e2.gg)) fun z hz => (hl z hz).2
    refine ht _ _ G2 H2 _ _ hv2 e2.gh hk fun b G3 H3 e3 h3 => ?_
    have hL3 : H3 Dl = some (.lst us) := e3.hh _ _ hL2 hDM
    have hG3 : G3 Dl = none := ext_none e2.gh e3 hL2 hG2
    cases b with
    | true =>
      refine he _ _ G3 H3 _ _ (hv2.mono e3.gg) e3.gh h3 fun v d4 G4 H4 e4 r4 h4 => ?_
      have hL4 : H4 Dl = some (.lst us) := e4.hh _ _ hL3 hDM
      have hG4 : G4 Dl = none := ext_none e3.gh e4 hL3 hG3
      have rs4 := rs.mono (e2.gg.trans (e3.gg.trans e4.gg))
      have ex4 := ex.trans (e2.trans (e3.trans e4))
      refine ⟨us, hL4, by rw [rs4.length]; exact h4.1, G4, us ++ [v], acc ++ [d4], ?_, upd_same, hG4, rs4.append (.cons r4 .nil), h4.2⟩
      refine ⟨ex4.gg, ex4.gh.side hG4 hDM, fun z o ez nz => ?_, ex4.fr⟩
      rw [upd_ne (ne_of_none ez hD)]
      exact ex4.hh z o ez nz
    | false => exact ⟨G3, us, acc, ex.trans (e2.trans e3), hL3, hG3, rs.mono (e2.gg.trans e3.gg), h3⟩
  · have e : i = ds.length := by omega
    subst e
    refine .inl ⟨wk.stops G' H' ex.gg ex.gh, q (.ref Dl) (.own acc) G' H' (e1.trans ex) ⟨Dl, us, rfl, hL, ?_, hG', rs⟩ (hd acc hI)⟩
    cases z : H Dl with
    | none => rfl
    | some o =>
      by_cases hm : R.M Dl
      · exact absurd hm hDM
      · rw [e1.hh _ o z hm] at hD
        cases hD
theorem sem_lcO {vs : List Nat} (hi : SemI m R wi di) (hg : SemG m js g dg) (ht : SemT m R tt dt) (he : SemE m R te de) (hj : ∀ j ∈ js, j ∈ vs) : SemSl m R (tLc wi g tt te vs) (dLcO di dg dt de vs) :=
  fun ρ σ G H k Q hv gh h q => sem_lcOat (fun k RR h q => hi ρ σ G H k RR hv gh h q) hg ht he hj hv gh h q
theorem sem_lc {vs : List Nat} (hi : SemI m R wi di) (hg : SemG m js g dg) (ht : SemT m R tt dt) (he : SemE m R te de) (hj : ∀ j ∈ js, j ∈ vs) : SemE m R (tLc wi g tt te vs) (dLc di dg dt de vs) := by
  intro ρ σ G H k Q hv gh h q
  refine sem_lcO hi hg ht he hj ρ σ G H (fun s => match s with
    | .own ds => k (.lst ds)
    | _ => False) Q hv gh h fun v s G1 H1 e1 r1 h1 => ?_
  cases s with
  | own ds =>
    obtain ⟨l, us, rfl, hL, h0, hg0, rs⟩ := r1
    have nM : ¬ R.M l := gh.notM h0
    have sm : Same G1 (upd G1 l (.lst us)) := same_new hg0
    refine q (.ref l) (.lst ds) (upd G1 l (.lst us)) H1 ⟨e1.gg.trans sm, e1.gh.adopt hg0 hL nM, e1.hh, fun b o e => ?_⟩ (Rep.newL hg0 rs) h1
    by_cases z : b = l
    · subst z
      exact .inr h0
    · rw [upd_ne z] at e
      exact e1.fr b o e
  | _ => exact h1.elim
structure PDTs (m : Pm) (R : Res) (X : Cx) (ifs : List Expr) (t : TT) (td : TdT) : Prop where
  pe : PTs X ifs t
  sem : SemT m R t td
theorem pdts_nil : PDTs m R X [] tYes dYes := ⟨pts_nil, sem_yes⟩
theorem pdts_one (h : PDT m R X c tt dt) : PDTs m R X [c] tt dt := ⟨pts_one h.pe, h.sem⟩
end
end Dl
set_option Elab.async false
set_option linter.all false
set_option maxRecDepth 100000
set_option maxHeartbeats 4000000
/-! Dicts whose keys are None, whole numbers, tuples of whole numbers, in any mix: at the library's level. -/
namespace Dl
open PySem

def Ky.nk : Ky → NestedKey
  | .non => .none
  | .int i => .num i
  | .tup l => .tup (l.map .num)
theorem nums_inj : ∀ {a b : List Int}, a.map NestedKey.num = b.map NestedKey.num → a = b
  | [], [], _ => rfl
  | [], _ :: _, e => by simp at e
  | _ :: _, [], e => by simp at e
  | x :: a, y :: b, e => by
    simp only [List.map_cons, List.cons.injEq, NestedKey.num.injEq] at e
    rw [e.1, nums_inj e.2]
theorem nk_inj {a b : Ky} (e : a.nk = b.nk) : a = b := by
  cases a <;> cases b <;> simp [Ky.nk] at e
  · rfl
  · rw [e]
  · rename_i l l'
    have h : l.map NestedKey.num = l'.map NestedKey.num := e
    rw [nums_inj h]
theorem depthAll_nums : ∀ l : List Int, NestedKey.depthAll (l.map NestedKey.num) ≤ 1
  | [] => by simp [NestedKey.depthAll]
  | i :: l => by
    have := depthAll_nums l
    simp only [List.map_cons, NestedKey.depthAll, NestedKey.depth]
    omega
theorem nk_depth (k : Ky) : k.nk.depth ≤ 2 := by
  cases k with
  | non => simp [Ky.nk, NestedKey.depth]
  | int i => simp [Ky.nk, NestedKey.depth]
  | tup l =>
    have := depthAll_nums l
    simp only [Ky.nk, NestedKey.depth]
    omega

/-- at d stands a dict with these entries: key, the key's value, the value -/
def RawD (w : World) (h : Heap) (d : Addr) (xs : List (Ky × Value × Value)) : Prop :=
  ∃ o es ep, h.get? d = some o ∧ o.ExactDict ∧ o.data = .dict es ep ∧ es.toList = xs.map (fun x => (⟨x.1.nk.hash w, x.2.1, x.2.2⟩ : DictEntry)) ∧ (∀ x ∈ xs, NestedIs h x.1.nk x.2.1) ∧ (xs.map (·.1)).Nodup
def lookR (xs : List (Ky × Value × Value)) (k : Ky) : Option Value := (xs.find? fun x => decide (x.1 = k)).map (·.2.2)
def putR (xs : List (Ky × Value × Value)) (k : Ky) (u v : Value) : List (Ky × Value × Value) :=
  if (xs.any fun x => decide (x.1 = k)) = true then xs.map fun x => if x.1 = k then (x.1, x.2.1, v) else x else xs ++ [(k, u, v)]

section
variable {prog : Program} {w : World} {A : Around} {E : Value → Shared → Prop} {s : Shared} {d : Addr} {xs : List (Ky × Value × Value)} {k : Ky} {u : Value}
theorem entryR {es : Array DictEntry} (he : es.toList = xs.map (fun x => (⟨x.1.nk.hash w, x.2.1, x.2.2⟩ : DictEntry))) (j : Nat) : es[j]? = (xs[j]?).map (fun x => (⟨x.1.nk.hash w, x.2.1, x.2.2⟩ : DictEntry)) := by
  rw [← Array.getElem?_toList, he, List.getElem?_map]
theorem eq_key {h : Heap} {a b : Ky} {u v : Value} {Q : Bool → Shared → Prop} (ha : NestedIs s.heap a.nk u) (hb : NestedIs s.heap b.nk v) (hu : A.units + 8 < cLine) (h : Q (decide (a = b)) s) : wpAny (model prog w) A (eqBool u v) Q E s := by
  have h1 := nk_depth a
  refine eqAt_key a.nk b.nk A s u v ha hb (by omega) prog w E Q ?_
  have e : NestedKey.beq a.nk b.nk = decide (a = b) := by
    rw [← NestedKey.decide_eq]
    by_cases z : a = b
    · subst z
      simp
    · rw [decide_eq_false z, decide_eq_false (fun q => z (nk_inj q))]
  rw [e]
  exact h
theorem tellQuiet {stored : List Value} {Q : Bool → Shared → Prop} (hk : NestedIs s.heap k.nk u) (hst : ∀ v ∈ stored, ∃ k' : Ky, NestedIs s.heap k'.nk v) (h : Q false s) : wpAny (model prog w) A (tableMayTell u stored) Q E s := by
  have q : ∀ {k' : Ky} {v : Value} {Q' : Bool → Shared → Prop}, NestedIs s.heap k'.nk v → Q' true s → wpAny (model prog w) A (eqIsQuiet 8 v) Q' E s := fun {k' v Q'} hv hq => quiet_key k'.nk v 8 s hv (by have := nk_depth k'; omega) A E Q' hq
  unfold tableMayTell
  cases stored with
  | nil => exact wpAny_pure h
  | cons v0 vs =>
    refine wpAny_bind (q hk ?_)
    simp only [Bool.not_true, Bool.false_eq_true, if_false]
    refine wpAny_bind (wpAny_forIn_list _ (fun rest r s' => s' = s ∧ r = (none, ()) ∧ ∀ v ∈ rest, ∃ k' : Ky, NestedIs s.heap k'.nk v) _ ?_ ?_ _ _ ⟨rfl, rfl, hst⟩)
    · rintro x rest r s' ⟨rfl, rfl, hr⟩
      obtain ⟨k', hx⟩ := hr x List.mem_cons_self
      refine wpAny_bind (q hx ?_)
      simp only [Bool.not_true, Bool.false_eq_true, if_false]
      exact wpAny_pure ⟨rfl, rfl, fun v hv => hr v (List.mem_cons_of_mem _ hv)⟩
    · rintro r s' ⟨rfl, rfl, _⟩
      exact wpAny_pure h
theorem ite_wp {α : Type} {M : Model} {c : Prop} [Decidable c] {a b : Sem α} {Q : α → Shared → Prop} (h1 : c → wpAny M A a Q E s) (h2 : ¬ c → wpAny M A b Q E s) : wpAny M A (if c then a else b) Q E s := by
  by_cases h : c
  · rw [if_pos h]
    exact h1 h
  · rw [if_neg h]
    exact h2 h
theorem nodup_at (hn : (xs.map (·.1)).Nodup) {i j : Nat} {x y : Ky × Value × Value} (a : xs[i]? = some x) (b : xs[j]? = some y) (e : x.1 = y.1) : i = j := by
  have ha : (xs.map (·.1))[i]? = some x.1 := by rw [List.getElem?_map, a] <;> rfl
  have hb : (xs.map (·.1))[j]? = some x.1 := by rw [List.getElem?_map, b, e] <;> rfl
  obtain ⟨h1, e1⟩ := List.getElem?_eq_some_iff.mp ha
  obtain ⟨h2, e2⟩ := List.getElem?_eq_some_iff.mp hb
  exact (List.getElem_inj hn).mp (e1.trans e2.symm)
theorem findR {o : Obj} {es : Array DictEntry} {ep : Nat} {Q : Option Nat → Shared → Prop} (hu : A.units + 8 < cLine) (hk : NestedIs s.heap k.nk u) (hns : ∀ y t, u ≠ .str y t) (ho : s.heap.get? d = some o) (hd : o.data = .dict es ep)
    (he : es.toList = xs.map (fun x => (⟨x.1.nk.hash w, x.2.1, x.2.2⟩ : DictEntry))) (his : ∀ x ∈ xs, NestedIs s.heap x.1.nk x.2.1) (hn : (xs.map (·.1)).Nodup)
    (h0 : (∀ x ∈ xs, x.1 ≠ k) → Q none s) (h1 : ∀ j x, xs[j]? = some x → x.1 = k → Q (some j) s) : wpAny (model prog w) A (dictFind d u (k.nk.hash w)) Q E s := by
  have hat := entryR he
  have hsz : es.size = xs.length := by rw [← Array.length_toList, he, List.length_map]
  have hmem : ∀ i, i ∈ placesWithHash es.size (fun i => es[i]?.map (·.hash)) (k.nk.hash w) ↔ i < es.size ∧ es[i]?.map (·.hash) = some (k.nk.hash w) := fun i => by
    unfold placesWithHash
    rw [List.mem_filter, List.mem_range, beq_iff_eq]
  have hstored : ∀ v ∈ (placesWithHash es.size (fun i => es[i]?.map (·.hash)) (k.nk.hash w)).filterMap (fun i => es[i]?.map (·.key)), ∃ k' : Ky, NestedIs s.heap k'.nk v := by
    intro v hv
    obtain ⟨i, _, hi⟩ := List.mem_filterMap.mp hv
    rw [hat i] at hi
    cases q : xs[i]? with
    | none => rw [q] at hi; cases hi
    | some x =>
      rw [q] at hi
      simp only [Option.map_some, Option.some.injEq] at hi
      subst hi
      exact ⟨x.1, his x (List.mem_of_getElem? q)⟩
  have hend : ∀ done : List Nat, placesWithHash es.size (fun i => es[i]?.map (·.hash)) (k.nk.hash w) = done → (∀ i ∈ done, ∀ x, xs[i]? = some x → x.1 ≠ k) → ∀ x ∈ xs, x.1 ≠ k := by
    intro done e hdn x hx hxk
    obtain ⟨j, hj⟩ := List.mem_iff_getElem?.mp hx
    have hlt : j < xs.length := (List.getElem?_eq_some_iff.mp hj).1
    refine hdn j ?_ x hj hxk
    rw [← e, hmem]
    refine ⟨by rw [hsz]; exact hlt, ?_⟩
    rw [hat j, hj, ← hxk]
    rfl
  have plain : wpAny (model prog w) A (dictWalkPlain d u (k.nk.hash w) es (placesWithHash es.size (fun i => es[i]?.map (·.hash)) (k.nk.hash w))) Q E s := by
    unfold dictWalkPlain
    refine wpAny_bind (wpAny_forIn_list _ (fun rest b s' => s' = s ∧ b = (none, ()) ∧ ∃ done, placesWithHash es.size (fun i => es[i]?.map (·.hash)) (k.nk.hash w) = done ++ rest ∧ ∀ i ∈ done, ∀ x, xs[i]? = some x → x.1 ≠ k) _ ?_ ?_ _ _ ⟨rfl, rfl, [], rfl, fun _ z => by cases z⟩)
    · rintro i rest b s' ⟨rfl, rfl, done, hp, hdone⟩
      have hi := (hmem i).mp (by rw [hp]; simp)
      obtain ⟨x, hx⟩ : ∃ x, xs[i]? = some x := ⟨xs[i]'(by rw [← hsz]; exact hi.1), List.getElem?_eq_getElem _⟩
      have hex := hat i
      rw [hx] at hex
      simp only [Option.map_some] at hex
      have hh : x.1.nk.hash w = k.nk.hash w := by
        have h2 := hi.2
        rw [hex] at h2
        simpa using h2
      rw [hex]
      dsimp only
      rw [if_pos (by rw [hh]; simp)]
      refine wpAny_bind (wpAny_dictEpoch ho hd (wpAny_bind (eq_key (h := s'.heap) (his x (List.mem_of_getElem? hx)) hk hu (wpAny_bind (wpAny_dictEpoch ho hd ?_)))))
      rw [if_neg (by simp)]
      by_cases z : x.1 = k
      · rw [decide_eq_true z]
        exact wpAny_bind (wpAny_rule (wpAny_pure (wpAny_pure (h1 i x hx z))))
      · rw [decide_eq_false z]
        refine wpAny_bind (wpAny_rule (wpAny_pure ⟨rfl, rfl, done ++ [i], by rw [hp]; simp, fun j hj y hy => ?_⟩))
        rcases List.mem_append.mp hj with q | q
        · exact hdone j q y hy
        · have e : j = i := by simpa using q
          subst e
          rw [hx] at hy
          cases hy
          exact z
    · rintro b s' ⟨rfl, rfl, done, hp, hdone⟩
      exact wpAny_pure (h0 (hend done (by rw [hp]; simp) hdone))
  unfold dictFind
  try with_reducible refine wpAny_holding ?_
  refine wpAny_bind (wpAny_dictEntries ho hd ?_)
  have hany : ∀ a, u = .ref a → ¬ (es.any fun e => e.key == Value.ref a && e.hash != k.nk.hash w) = true := by
    rintro a rfl
    rw [← Array.any_toList, he, List.any_eq_true]
    rintro ⟨e, hin, hc⟩
    obtain ⟨x, hx, rfl⟩ := List.mem_map.mp hin
    simp only [Bool.and_eq_true, beq_iff_eq, bne_iff_ne, ne_eq] at hc
    obtain ⟨hxa, hne⟩ := hc
    have hi := his x hx
    rw [hxa] at hi
    exact hne (by rw [NestedIs.inj _ _ _ hi hk])
  have shape : ∀ {y : Value}, (∃ b, y = .bool b) ∨ y = .none ∨ (∃ i t, y = .int i t) ∨ (∃ a, y = .ref a) ∨ (∃ z t, y = .str z t) ∨ ¬ NestedIs s.heap k.nk y := by
    intro y
    cases y <;> first
      | exact .inl ⟨_, rfl⟩
      | exact .inr (.inl rfl)
      | exact .inr (.inr (.inl ⟨_, _, rfl⟩))
      | exact .inr (.inr (.inr (.inl ⟨_, rfl⟩)))
      | exact .inr (.inr (.inr (.inr (.inl ⟨_, _, rfl⟩))))
      | exact .inr (.inr (.inr (.inr (.inr (by intro z; cases k <;> cases z)))))
  rcases shape (y := u) with ⟨b, rfl⟩ | rfl | ⟨i, t, rfl⟩ | ⟨a, rfl⟩ | ⟨z, t, rfl⟩ | nh
  case inr.inr.inr.inr.inl => exact absurd rfl (hns z t)
  case inr.inr.inr.inr.inr => exact absurd hk nh
  case inr.inr.inr.inl =>
    dsimp only
    rw [if_neg (by simp [carriedByValue])]
    rw [if_neg (hany a rfl)]
    refine ite_wp (fun hs1 => wpAny_bind (wpAny_pure ?_)) (fun hs1 => wpAny_bind (tellQuiet hk hstored ?_))
    all_goals (rw [if_neg (by simp)])
    all_goals (
      refine wpAny_bind (wpAny_forIn_list _ (fun rest b s' => s' = s ∧ ∃ hit, b = (none, hit) ∧ ∃ done, placesWithHash es.size (fun i => es[i]?.map (·.hash)) (k.nk.hash w) = done ++ rest ∧
        ((hit = none ∧ ∀ i ∈ done, ∀ x, xs[i]? = some x → x.1 ≠ k) ∨ ∃ j x, hit = some j ∧ j ∈ done ∧ xs[j]? = some x ∧ x.1 = k)) _ ?_ ?_ _ _ ⟨rfl, none, rfl, [], rfl, .inl ⟨rfl, fun _ z => by cases z⟩⟩)
      · rintro i rest b s' ⟨rfl, hit, rfl, done, hp, hd2⟩
        have hi := (hmem i).mp (by rw [hp]; simp)
        obtain ⟨x, hx⟩ : ∃ x, xs[i]? = some x := ⟨xs[i]'(by rw [← hsz]; exact hi.1), List.getElem?_eq_getElem _⟩
        have hex := hat i
        rw [hx] at hex
        simp only [Option.map_some] at hex
        have hh : x.1.nk.hash w = k.nk.hash w := by
          have h2 := hi.2
          rw [hex] at h2
          simpa using h2
        rw [hex]
        dsimp only
        rw [if_pos (by rw [hh]; simp)]
        refine wpAny_bind (wpAny_dictEpoch ho hd (wpAny_bind (eq_key (h := s'.heap) (his x (List.mem_of_getElem? hx)) hk hu (wpAny_bind (wpAny_dictEpoch ho hd ?_)))))
        rw [if_neg (by simp)]
        by_cases z : x.1 = k
        · rw [decide_eq_true z]
          rcases hd2 with ⟨rfl, hdone⟩ | ⟨j, y, rfl, hj, hy, hyk⟩
          · refine wpAny_bind (wpAny_rule (ite_wp (fun _ => wpAny_pure (wpAny_pure (h1 i x hx z))) (fun _ => wpAny_pure ⟨rfl, some i, rfl, done ++ [i], by rw [hp]; simp, .inr ⟨i, x, rfl, by simp, hx, z⟩⟩)))
          · have e : j = i := nodup_at hn hy hx (by rw [hyk, z])
            subst e
            exfalso
            have nd : (placesWithHash es.size (fun i => es[i]?.map (·.hash)) (k.nk.hash w)).Nodup := List.Pairwise.filter _ List.nodup_range
            rw [hp] at nd
            exact (List.nodup_append.mp nd).2.2 j hj j List.mem_cons_self rfl
        · rw [decide_eq_false z]
          refine wpAny_bind (wpAny_rule (wpAny_pure ⟨rfl, hit, rfl, done ++ [i], by rw [hp]; simp, ?_⟩))
          rcases hd2 with ⟨rfl, hdone⟩ | ⟨j, y, rfl, hj, hy, hyk⟩
          · refine .inl ⟨rfl, fun j hj y hy => ?_⟩
            rcases List.mem_append.mp hj with q | q
            · exact hdone j q y hy
            · have e : j = i := by simpa using q
              subst e
              rw [hx] at hy
              cases hy
              exact z
          · exact .inr ⟨j, y, rfl, List.mem_append_left _ hj, hy, hyk⟩
      · rintro b s' ⟨rfl, hit, rfl, done, hp, hd2⟩
        rcases hd2 with ⟨rfl, hdone⟩ | ⟨j, y, rfl, hj, hy, hyk⟩
        · exact wpAny_pure (h0 (hend done (by rw [hp]; simp) hdone))
        · exact wpAny_pure (h1 j y hy hyk))
  all_goals
    dsimp only
    refine ite_wp (fun hall => plain) (fun hall => ?_)
    first
      | refine ite_wp (fun hs1 => wpAny_bind (wpAny_pure ?_)) (fun hs1 => wpAny_bind (tellQuiet hk hstored ?_))
      | refine wpAny_bind (tellQuiet hk hstored ?_)
    all_goals (rw [if_neg (by simp)])
    all_goals (
      refine wpAny_bind (wpAny_forIn_list _ (fun rest b s' => s' = s ∧ ∃ hit, b = (none, hit) ∧ ∃ done, placesWithHash es.size (fun i => es[i]?.map (·.hash)) (k.nk.hash w) = done ++ rest ∧
        ((hit = none ∧ ∀ i ∈ done, ∀ x, xs[i]? = some x → x.1 ≠ k) ∨ ∃ j x, hit = some j ∧ j ∈ done ∧ xs[j]? = some x ∧ x.1 = k)) _ ?_ ?_ _ _ ⟨rfl, none, rfl, [], rfl, .inl ⟨rfl, fun _ z => by cases z⟩⟩)
      · rintro i rest b s' ⟨rfl, hit, rfl, done, hp, hd2⟩
        have hi := (hmem i).mp (by rw [hp]; simp)
        obtain ⟨x, hx⟩ : ∃ x, xs[i]? = some x := ⟨xs[i]'(by rw [← hsz]; exact hi.1), List.getElem?_eq_getElem _⟩
        have hex := hat i
        rw [hx] at hex
        simp only [Option.map_some] at hex
        have hh : x.1.nk.hash w = k.nk.hash w := by
          have h2 := hi.2
          rw [hex] at h2
          simpa using h2
        rw [hex]
        dsimp only
        rw [if_pos (by rw [hh]; simp)]
        refine wpAny_bind (wpAny_dictEpoch ho hd (wpAny_bind (eq_key (h := s'.heap) (his x (List.mem_of_getElem? hx)) hk hu (wpAny_bind (wpAny_dictEpoch ho hd ?_)))))
        rw [if_neg (by simp)]
        by_cases z : x.1 = k
        · rw [decide_eq_true z]
          rcases hd2 with ⟨rfl, hdone⟩ | ⟨j, y, rfl, hj, hy, hyk⟩
          · refine wpAny_bind (wpAny_rule (ite_wp (fun _ => wpAny_pure (wpAny_pure (h1 i x hx z))) (fun _ => wpAny_pure ⟨rfl, some i, rfl, done ++ [i], by rw [hp]; simp, .inr ⟨i, x, rfl, by simp, hx, z⟩⟩)))
          · have e : j = i := nodup_at hn hy hx (by rw [hyk, z])
            subst e
            exfalso
            have nd : (placesWithHash es.size (fun i => es[i]?.map (·.hash)) (k.nk.hash w)).Nodup := List.Pairwise.filter _ List.nodup_range
            rw [hp] at nd
            exact (List.nodup_append.mp nd).2.2 j hj j List.mem_cons_self rfl
        · rw [decide_eq_false z]
          refine wpAny_bind (wpAny_rule (wpAny_pure ⟨rfl, hit, rfl, done ++ [i], by rw [hp]; simp, ?_⟩))
          rcases hd2 with ⟨rfl, hdone⟩ | ⟨j, y, rfl, hj, hy, hyk⟩
          · refine .inl ⟨rfl, fun j hj y hy => ?_⟩
            rcases List.mem_append.mp hj with q | q
            · exact hdone j q y hy
            · have e : j = i := by simpa using q
              subst e
              rw [hx] at hy
              cases hy
              exact z
          · exact .inr ⟨j, y, rfl, List.mem_append_left _ hj, hy, hyk⟩
      · rintro b s' ⟨rfl, hit, rfl, done, hp, hd2⟩
        rcases hd2 with ⟨rfl, hdone⟩ | ⟨j, y, rfl, hj, hy, hyk⟩
        · exact wpAny_pure (h0 (hend done (by rw [hp]; simp) hdone))
        · exact wpAny_pure (h1 j y hy hyk))

theorem key_noStr (hk : NestedIs s.heap k.nk u) : ∀ y t, u ≠ .str y t := by
  rintro y t rfl
  cases k <;> cases hk
theorem dictGetR {Q : Option Value → Shared → Prop} (hu : A.units + 8 < cLine) (hk : NestedIs s.heap k.nk u) (hm : RawD w s.heap d xs) (h : ∀ t, Q (lookR xs k) { s with toks := t }) : wpAny (model prog w) A (dictGet d u) Q E s := by
  obtain ⟨o, es, ep, ho, _, hd, he, his, hn⟩ := hm
  have dp := nk_depth k
  unfold dictGet
  try with_reducible refine wpAny_holding ?_
  refine wpAny_bind (pyHash_key k.nk u A s _ hk (by omega) (wpAny_bind (findR (s := { s with toks := s.toks + k.nk.draws }) hu hk (key_noStr hk) ho hd he his hn (fun hno => ?_) fun j x hj hx => ?_)))
  · have e : lookR xs k = none := by
      unfold lookR
      rw [List.find?_eq_none.mpr fun x hx => by simp [hno x hx]]
      rfl
    have h1 := h (s.toks + k.nk.draws)
    rw [e] at h1
    exact wpAny_pure h1
  · have e : lookR xs k = some x.2.2 := by
      unfold lookR
      have hf : xs.find? (fun y => decide (y.1 = k)) = some x := by
        rw [List.find?_eq_some_iff_getElem]
        have hlt := (List.getElem?_eq_some_iff.mp hj).1
        refine ⟨by simp [hx], j, hlt, (List.getElem?_eq_some_iff.mp hj).2, fun i hi => ?_⟩
        have hil : i < xs.length := by omega
        simp only [Bool.not_eq_true', decide_eq_false_iff_not]
        intro z
        have q := nodup_at hn (List.getElem?_eq_getElem hil) hj (by rw [z, hx])
        omega
      rw [hf]
      rfl
    have h1 := h (s.toks + k.nk.draws)
    rw [e] at h1
    refine wpAny_bind (wpAny_dictEntries (s := { s with toks := s.toks + k.nk.draws }) ho hd ?_)
    rw [entryR he j, hj]
    exact wpAny_pure h1
theorem nestedKeeps {h h' : Heap} {d : Addr} {o : Obj} {es : Array DictEntry} {ep : Nat} {x : NestedKey} {v : Value} (n : NestedIs h x v) (ho : h.get? d = some o) (hd : o.data = .dict es ep) (sb : Heap.SameBut d h h') : NestedIs h' x v := by
  refine NestedIs.at (fun b ob vs m hb hc => (sb.2 b fun e => ?_).trans hb) x v n
  subst e
  rw [ho] at hb
  cases hb
  rw [hd] at hc
  cases hc
theorem dictSetR {v : Value} {Q : Unit → Shared → Prop} (hu : A.units + 8 < cLine) (hk : NestedIs s.heap k.nk u) (hm : RawD w s.heap d xs) (hz : xs.length ≤ sizeLine)
    (h : ∀ h' t, RawD w h' d (putR xs k u v) → Heap.SameBut d s.heap h' → Q () { s with heap := h', toks := t }) : wpAny (model prog w) A (dictSet d u v) Q E s := by
  obtain ⟨o, es, ep, ho, hc, hd, he, his, hn⟩ := hm
  have dp := nk_depth k
  have hsz : es.size = xs.length := by rw [← Array.length_toList, he, List.length_map]
  unfold dictSet
  try with_reducible refine wpAny_holding ?_
  refine wpAny_bind (pyHash_key k.nk u A s _ hk (by omega) ?_)
  unfold dictSetHashed
  try with_reducible refine wpAny_holding ?_
  refine wpAny_bind (findR (s := { s with toks := s.toks + k.nk.draws }) hu hk (key_noStr hk) ho hd he his hn (fun hno => ?_) fun j x hj hx => ?_)
  · have e : putR xs k u v = xs ++ [(k, u, v)] := by
      unfold putR
      rw [if_neg]
      rw [List.any_eq_true]
      rintro ⟨x, hx, ex⟩
      exact hno x hx (by simpa using ex)
    refine wpAny_bind (wpAny_rule (wpAny_updateDictKeys (hz := by omega) (s := { s with toks := s.toks + k.nk.draws }) ho hd ?_))
    have sb : Heap.SameBut d s.heap (s.heap.update d (Obj.mapDictKeys fun x => x.push ⟨k.nk.hash w, u, v⟩)) := Heap.SameBut.update ..
    refine h _ _ ?_ sb
    rw [e]
    refine ⟨_, _, ep + 1, Heap.get?_update_self _ ho (Obj.isFreed_of_dict (Obj.data_mapDictKeys hd _)), hc.mapDictKeys _, Obj.data_mapDictKeys hd _, by simp [he], fun x hx => ?_, ?_⟩
    · rcases List.mem_append.mp hx with q | q
      · exact nestedKeeps (his x q) ho hd sb
      · have e2 : x = (k, u, v) := by simpa using q
        subst e2
        exact nestedKeeps hk ho hd sb
    · rw [List.map_append, List.nodup_append]
      refine ⟨hn, by simp, fun a ha b hb => ?_⟩
      have e2 : b = k := by simpa using hb
      subst e2
      obtain ⟨x, hx, rfl⟩ := List.mem_map.mp ha
      exact hno x hx
  · have e : putR xs k u v = xs.map fun x => if x.1 = k then (x.1, x.2.1, v) else x := by
      unfold putR
      rw [if_pos]
      rw [List.any_eq_true]
      exact ⟨x, List.mem_of_getElem? hj, by simp [hx]⟩
    refine wpAny_bind (wpAny_rule (wpAny_bind (wpAny_updateDict (s := { s with toks := s.toks + k.nk.draws }) ho hd (wpAny_point ?_))))
    have sb : Heap.SameBut d s.heap (s.heap.update d (Obj.mapDict fun x => x.modify j fun e => { e with val := v })) := Heap.SameBut.update ..
    refine h _ _ ?_ sb
    rw [e]
    refine ⟨_, _, ep, Heap.get?_update_self _ ho (Obj.isFreed_of_dict (Obj.data_mapDict hd _)), hc.mapDict _, Obj.data_mapDict hd _, ?_, fun y hy => ?_, ?_⟩
    · refine List.ext_getElem? fun i => ?_
      rw [Array.toList_modify, List.getElem?_modify, he, List.getElem?_map, List.getElem?_map, List.getElem?_map]
      cases q : xs[i]? with
      | none => simp
      | some y =>
        by_cases z : j = i
        · subst z
          rw [hj] at q
          cases q
          simp [hx]
        · have ny : y.1 ≠ k := fun z2 => z (nodup_at hn hj q (by rw [hx, z2]))
          simp [z, ny]
    · obtain ⟨y0, hy0, rfl⟩ := List.mem_map.mp hy
      have q := nestedKeeps (his y0 hy0) ho hd sb
      split <;> exact q
    · have e3 : (xs.map fun x => if x.1 = k then (x.1, x.2.1, v) else x).map (·.1) = xs.map (·.1) := by
        rw [List.map_map]
        refine List.map_congr_left fun y _ => ?_
        simp only [Function.comp]
        split <;> rfl
      rw [e3]
      exact hn
theorem RawD.typeIs (hm : RawD w s.heap d xs) : s.TypeIs (.ref d) "dict" := by
  obtain ⟨o, es, ep, ho, hc, _⟩ := hm
  exact ⟨o, ho, hc.1⟩
theorem containsR {Q : Bool → Shared → Prop} (hu : A.units + 9 < cLine) (hk : NestedIs s.heap k.nk u) (hd : (d == sysModules) = false) (hm : RawD w s.heap d xs) (h : ∀ t, Q (lookR xs k).isSome { s with toks := t }) : wpAny (model prog w) A (contains (.ref d) u) Q E s := by
  refine wpAny_contains_slot hm.typeIs F.slot_dict_contains ?_
  refine call_meetsIn F.slot_dict_contains hm.typeIs F.entry_dict_contains (F.args_dict_contains_2 _ _) (S := fun A' R s' => A' = A ∧ s' = s ∧ ∀ t, R (.ok (.ret (.bool (lookR xs k).isSome))) { s with toks := t }) (fun A' R s' hS => ?_) ⟨rfl, rfl, fun t => wpAny_truthy_bool (h t)⟩
  obtain ⟨rfl, rfl, hq⟩ := hS
  show wpAny _ _ (dictGet d u >>= _) _ _ _
  refine wpAny_bind (dictGetR (by show A'.units + 1 + 8 < cLine; omega) hk hm fun t => ?_)
  have hq' := hq t
  cases hf : lookR xs k with
  | some p =>
    rw [hf] at hq'
    exact wpAny_pure hq'
  | none =>
    rw [hf] at hq'
    show wpAny _ _ (Builtin.Dict.pendingKey? d u >>= _) _ _ _
    exact wpAny_bind (wpAny_pendingKey_other hd (wpAny_pure hq'))
theorem inR {Q : Value → Shared → Prop} (hu : A.units + 9 < cLine) (hk : NestedIs s.heap k.nk u) (hd : (d == sysModules) = false) (hm : RawD w s.heap d xs) (h : ∀ t, Q (.bool (lookR xs k).isSome) { s with toks := t }) : wpAny (model prog w) A (compareOp .In u (.ref d)) Q E s := by
  show wpAny _ _ (do return .bool (← contains (.ref d) u)) Q E s
  exact wpAny_bind (containsR hu hk hd hm fun t => wpAny_pure (h t))
theorem ninR {Q : Value → Shared → Prop} (hu : A.units + 9 < cLine) (hk : NestedIs s.heap k.nk u) (hd : (d == sysModules) = false) (hm : RawD w s.heap d xs) (h : ∀ t, Q (.bool (!(lookR xs k).isSome)) { s with toks := t }) : wpAny (model prog w) A (compareOp .NotIn u (.ref d)) Q E s := by
  show wpAny _ _ (do return .bool (!(← contains (.ref d) u))) Q E s
  exact wpAny_bind (containsR hu hk hd hm fun t => wpAny_pure (h t))
theorem setItemR {v : Value} {Q : Unit → Shared → Prop} (hu : A.units + 9 < cLine) (hk : NestedIs s.heap k.nk u) (hm : RawD w s.heap d xs) (hz : xs.length ≤ sizeLine)
    (h : ∀ h' t, RawD w h' d (putR xs k u v) → Heap.SameBut d s.heap h' → Q () { s with heap := h', toks := t }) : wpAny (model prog w) A (setItem (.ref d) u v) Q E s := by
  unfold setItem
  try with_reducible refine wpAny_holding ?_
  refine wpAny_bind (wpAny_sequenceKey hm.typeIs (by decide) ?_)
  refine wpAny_bind (wpAny_callSpecial?_slot (name := Str.ofString "__setitem__") hm.typeIs slot_dict_setitem (wpAny_call_entry slot_dict_setitem hm.typeIs entry_dict_setitem ?_ (args_dict_setitem _ _ _)))
  show wpAny _ _ (Builtin.Dict.notOrdered "__setitem__" ⟨[.ref d, u, v], []⟩ >>= _) _ _ s
  refine wpAny_bind (wpAny_notOrdered_dict hm.typeIs ?_)
  show wpAny _ _ (dictSet d u v >>= _) _ _ s
  exact wpAny_bind (dictSetR (by show A.units + 1 + 8 < cLine; omega) hk hm hz fun h' t hm' hs' => wpAny_pure ⟨.none, rfl, wpAny_pure (h h' t hm' hs')⟩)
theorem getR {v : Value} {Q : Value → Shared → Prop} (hu : A.units + 9 < cLine) (hk : NestedIs s.heap k.nk u) (hd : (d == sysModules) = false) (hm : RawD w s.heap d xs) (h : ∀ t, Q ((lookR xs k).getD v) { s with toks := t }) :
    wpAny (model prog w) A (call (.builtin "dict.get") [.ref d, u, v]) Q E s := by
  have meets : MeetsIn prog w (Builtin.«dict.get» ⟨[.ref d, u, v], []⟩) (fun A R s => A.units + 9 < cLine ∧ NestedIs s.heap k.nk u ∧ RawD w s.heap d xs ∧ ∀ t, R (.ok (.ret ((lookR xs k).getD v))) { s with toks := t }) :=
    .of_wp fun A R s ⟨hu, hk, hm, h⟩ => by
      show wpAny _ _ (dictGet d u >>= _) _ _ s
      refine wpAny_bind (dictGetR (by show A.units + 1 + 8 < cLine; omega) hk hm fun t => ?_)
      have h1 := h t
      cases hf : lookR xs k with
      | some z =>
        rw [hf] at h1
        exact wpAny_pure ⟨z, rfl, h1⟩
      | none =>
        rw [hf] at h1
        show wpAny _ _ (Builtin.Dict.missed d u >>= _) _ _ _
        exact wpAny_bind (wpAny_missed_other hd (wpAny_pure ⟨v, rfl, h1⟩))
  exact call_meetsIn F.slot_dict_get hm.typeIs F.entry_dict_get (F.args_dict_get_3 _ _ _) meets ⟨hu, hk, hm, h⟩
end
end Dl
set_option Elab.async false
set_option linter.all false
set_option maxRecDepth 100000
set_option maxHeartbeats 2000000
/-! Dicts as data: lookups, comprehensions. -/
namespace Dl
open PySem L2

def lookD (kvs : List (Ky × D)) (k : Ky) : Option D := (kvs.find? fun x => decide (x.1 = k)).map (·.2)
def insD (kvs : List (Ky × D)) (k : Ky) (d : D) : List (Ky × D) :=
  if (kvs.any fun x => decide (x.1 = k)) = true then kvs.map fun x => if x.1 = k then (x.1, d) else x else kvs ++ [(k, d)]
def D.key : D → Option Ky
  | .non => some .non
  | .int i => some (.int i)
  | .tup l => (D.ints l).map .tup
  | _ => none
structure Row where
  k : Ky
  u : V
  v : V
  a : Value
  b : Value
  d : D
structure RowOk (m : Pm) (G : Hp) (q : Row) : Prop where
  k : RepK m G q.u q.k
  d : Rep m G q.v q.d
  u : RelV q.u q.a
  v : RelV q.v q.b
section
variable {m : Pm} {G H : Hp} {w : World} {P : Program} {h : Heap}
theorem Rep.toK {v : V} {d : D} {k : Ky} (r : Rep m G v d) (e : d.key = some k) : RepK m G v k := by
  cases r with
  | non =>
    cases e
    exact .non
  | int i =>
    cases e
    exact .int i
  | tup ha rs =>
    simp only [D.key, Option.map_eq_some_iff] at e
    obtain ⟨l, e1, rfl⟩ := e
    have := rs.of_intsO e1
    subst this
    exact .tup ha
  | _ => cases e
theorem nestedAll_nums {h : Heap} : ∀ {l : List Int} {its : List Value}, Vals (l.map V.int) its → NestedAll h (l.map .num) its
  | [], _, .nil => .nil
  | i :: l, _, .cons a r => by
    obtain ⟨t, rfl⟩ := a
    exact .cons (.int _ _) (nestedAll_nums r)
theorem nested_of {u : V} {k : Ky} {a : Value} (ok : HOk P w H h) (sm : Same G H) (r : RepK m G u k) (ra : RelV u a) : NestedIs h k.nk a := by
  cases r with
  | non =>
    cases ra
    exact .none
  | int i =>
    obtain ⟨t, rfl⟩ := ra
    exact .int _ _
  | @tup p l hp =>
    cases ra
    obtain ⟨_, its, rv, o, h1, h2, n, h3⟩ := (show ObjOk P w H h p (.tup (l.map V.int)) from ok p _ (sm _ _ hp))
    exact .tup h1 h2 h3 (by simpa using nestedAll_nums rv)
theorem rows_of : ∀ {es : List (Int × V × V)} {kvs : List (Ky × D)} {ents : List DictEntry}, RepE m G es kvs → Paired (fun (e : Int × V × V) (x : DictEntry) => x.hash = e.1 ∧ RelV e.2.1 x.key ∧ RelV e.2.2 x.val) es ents →
    ∃ qs : List Row, es = qs.map (fun q => (m.hs q.k, q.u, q.v)) ∧ kvs = qs.map (fun q => (q.k, q.d)) ∧ ents = qs.map (fun q => (⟨m.hs q.k, q.a, q.b⟩ : DictEntry)) ∧ ∀ q ∈ qs, RowOk m G q
  | _, _, _, .nil, .nil => ⟨[], rfl, rfl, rfl, fun q z => by cases z⟩
  | _, _, _, @RepE.cons _ _ k u v d es kvs r1 r2 r3, @Paired.cons _ _ _ _ x _ ents p1 p2 => by
    obtain ⟨qs, h1, h2, h3, h4⟩ := rows_of r3 p2
    obtain ⟨e1, e2, e3⟩ := p1
    refine ⟨⟨k, u, v, x.key, x.val, d⟩ :: qs, by rw [h1]; rfl, by rw [h2]; rfl, ?_, fun q hq => ?_⟩
    · rw [h3]
      cases x
      simp only [List.map_cons] at *
      rw [e1]
    · rcases List.mem_cons.mp hq with rfl | hq
      · exact ⟨r1, r2, e2, e3⟩
      · exact h4 q hq
theorem rows_to : ∀ {qs : List Row}, (∀ q ∈ qs, RowOk m G q) → RepE m G (qs.map (fun q => (m.hs q.k, q.u, q.v))) (qs.map (fun q => (q.k, q.d))) ∧ Paired (fun (e : Int × V × V) (x : DictEntry) => x.hash = e.1 ∧ RelV e.2.1 x.key ∧ RelV e.2.2 x.val) (qs.map (fun q => (m.hs q.k, q.u, q.v))) (qs.map (fun q => (⟨m.hs q.k, q.a, q.b⟩ : DictEntry)))
  | [], _ => ⟨.nil, .nil⟩
  | q :: qs, h => by
    obtain ⟨h1, h2⟩ := rows_to (qs := qs) fun q z => h q (List.mem_cons_of_mem _ z)
    obtain ⟨k1, k2, k3, k4⟩ := h q List.mem_cons_self
    exact ⟨.cons k1 k2 h1, .cons ⟨rfl, k3, k4⟩ h2⟩
def rowsX (qs : List Row) : List (Ky × Value × Value) := qs.map fun q => (q.k, q.a, q.b)
theorem look_rows {k : Ky} : ∀ {qs : List Row}, (∀ q ∈ qs, RowOk m G q) → (lookD (qs.map (fun q => (q.k, q.d))) k = none ∧ lookR (rowsX qs) k = none) ∨ ∃ d v b, lookD (qs.map (fun q => (q.k, q.d))) k = some d ∧ lookR (rowsX qs) k = some b ∧ RelV v b ∧ Rep m G v d
  | [], _ => .inl ⟨rfl, rfl⟩
  | q :: qs, h => by
    by_cases e : q.k = k
    · refine .inr ⟨q.d, q.v, q.b, ?_, ?_, (h q List.mem_cons_self).v, (h q List.mem_cons_self).d⟩
      · simp [lookD, e]
      · simp [lookR, rowsX, e]
    · have e1 : lookD ((q :: qs).map (fun q => (q.k, q.d))) k = lookD (qs.map (fun q => (q.k, q.d))) k := by simp [lookD, e]
      have e2 : lookR (rowsX (q :: qs)) k = lookR (rowsX qs) k := by simp [lookR, rowsX, e]
      rw [e1, e2]
      exact look_rows fun q z => h q (List.mem_cons_of_mem _ z)
def putQ (qs : List Row) (k : Ky) (u v : V) (a b : Value) (d : D) : List Row :=
  if (qs.any fun x => decide (x.k = k)) = true then qs.map fun x => if x.k = k then { x with v := v, b := b, d := d } else x else qs ++ [⟨k, u, v, a, b, d⟩]
theorem putQ_x (qs : List Row) (k : Ky) (u v : V) (a b : Value) (d : D) : rowsX (putQ qs k u v a b d) = putR (rowsX qs) k a b := by
  have e : ((rowsX qs).any fun x => decide (x.1 = k)) = (qs.any fun x => decide (x.k = k)) := by simp [rowsX, List.any_map, Function.comp_def]
  unfold putQ putR
  rw [e]
  split
  · simp only [rowsX, List.map_map]
    refine List.map_congr_left fun q _ => ?_
    simp only [Function.comp]
    split <;> rfl
  · simp [rowsX]
theorem putQ_d (qs : List Row) (k : Ky) (u v : V) (a b : Value) (d : D) : (putQ qs k u v a b d).map (fun q => (q.k, q.d)) = insD (qs.map fun q => (q.k, q.d)) k d := by
  have e : ((qs.map fun q => (q.k, q.d)).any fun x => decide (x.1 = k)) = (qs.any fun x => decide (x.k = k)) := by simp [List.any_map, Function.comp_def]
  unfold putQ insD
  rw [e]
  split
  · simp only [List.map_map]
    refine List.map_congr_left fun q _ => ?_
    simp only [Function.comp]
    split <;> rfl
  · simp
theorem putQ_ok {qs : List Row} {k : Ky} {u v : V} {a b : Value} {d : D} (h : ∀ q ∈ qs, RowOk m G q) (h0 : RowOk m G ⟨k, u, v, a, b, d⟩) : ∀ q ∈ putQ qs k u v a b d, RowOk m G q := by
  unfold putQ
  intro q hq
  split at hq
  · obtain ⟨q0, h1, rfl⟩ := List.mem_map.mp hq
    obtain ⟨k1, k2, k3, k4⟩ := h q0 h1
    split
    · exact ⟨k1, h0.d, k3, h0.v⟩
    · exact ⟨k1, k2, k3, k4⟩
  · rcases List.mem_append.mp hq with z | z
    · exact h q z
    · have : q = ⟨k, u, v, a, b, d⟩ := by simpa using z
      subst this
      exact h0
theorem putQ_len (qs : List Row) (k : Ky) (u v : V) (a b : Value) (d : D) : (putQ qs k u v a b d).length ≤ qs.length + 1 := by
  unfold putQ
  split <;> simp
theorem insD_nodup {kvs : List (Ky × D)} {k : Ky} {d : D} (h : (kvs.map (·.1)).Nodup) : ((insD kvs k d).map (·.1)).Nodup := by
  unfold insD
  split
  · have e : (kvs.map fun x => if x.1 = k then (x.1, d) else x).map (·.1) = kvs.map (·.1) := by
      rw [List.map_map]
      refine List.map_congr_left fun y _ => ?_
      simp only [Function.comp]
      split <;> rfl
    rw [e]
    exact h
  · rename_i hn
    rw [List.map_append, List.nodup_append]
    refine ⟨h, by simp, fun a ha b hb => ?_⟩
    have e2 : b = k := by simpa using hb
    subst e2
    obtain ⟨x, hx, rfl⟩ := List.mem_map.mp ha
    intro z
    exact hn (List.any_eq_true.mpr ⟨x, hx, by simpa using z⟩)
/-- the hash by keys is the world's -/
def HsOk (m : Pm) (w : World) : Prop := ∀ k : Ky, m.hs k = k.nk.hash w
theorem raw_of {a : Addr} {es : List (Int × V × V)} {kvs : List (Ky × D)} (hh : HsOk m w) (ok : HOk P w H h) (sm : Same G H) (e : H a = some (.ext (DictIs a es))) (r : RepE m G es kvs) (nd : (kvs.map (·.1)).Nodup) :
    ∃ qs : List Row, es = qs.map (fun q => (m.hs q.k, q.u, q.v)) ∧ kvs = qs.map (fun q => (q.k, q.d)) ∧ (∀ q ∈ qs, RowOk m G q) ∧ RawD w h a (rowsX qs) ∧ (a == sysModules) = false ∧ qs.length ≤ sizeLine := by
  obtain ⟨⟨o, ents, ep, h1, h2, h3, h4, h5, h6⟩, _, _⟩ := (show ObjOk P w H h a (.ext (DictIs a es)) from ok a _ e)
  obtain ⟨qs, e1, e2, e3, e4⟩ := rows_of r h5
  refine ⟨qs, e1, e2, e4, ⟨o, ents, ep, h1, h2, h3, ?_, fun x hx => ?_, ?_⟩, h4, by rw [e1, List.length_map] at h6; exact h6⟩
  · rw [e3]
    simp only [rowsX, List.map_map]
    refine List.map_congr_left fun q _ => ?_
    simp only [Function.comp]
    rw [hh q.k]
  · obtain ⟨q, hq, rfl⟩ := List.mem_map.mp hx
    exact nested_of ok sm (e4 q hq).k (e4 q hq).u
  · rw [e2] at nd
    simpa [rowsX, List.map_map, Function.comp_def] using nd
theorem raw_to {a : Addr} {qs : List Row} (hh : HsOk m w) (h4 : ∀ q ∈ qs, RowOk m G q) (r : RawD w h a (rowsX qs)) (hs : (a == sysModules) = false) (hl : qs.length ≤ sizeLine) : DictIs a (qs.map (fun q => (m.hs q.k, q.u, q.v))) h := by
  obtain ⟨o, ents, ep, h1, h2, h3, e3, _, _⟩ := r
  refine ⟨o, ents, ep, h1, h2, h3, hs, ?_, by rw [List.length_map]; exact hl⟩
  have e : ents.toList = qs.map (fun q => (⟨m.hs q.k, q.a, q.b⟩ : DictEntry)) := by
    rw [e3]
    simp only [rowsX, List.map_map]
    refine List.map_congr_left fun q _ => ?_
    simp only [Function.comp]
    rw [hh q.k]
  rw [e]
  exact (rows_to h4).2
theorem dictIs_ext {a : Addr} {es : List (Int × V × V)} {H' : Hp} (e : DictIs a es h) : ObjOk P w H' h a (.ext (DictIs a es)) := by
  obtain ⟨o, ents, ep, h1, r⟩ := e
  refine ⟨⟨o, ents, ep, h1, r⟩, ⟨o, h1⟩, ?_⟩
  rintro a1 a2 ⟨o', ents', ep', k1, r'⟩ k
  exact ⟨o', ents', ep', k o' k1, r'⟩
end

section
variable {X : Cx} {m : Pm} {pins : List (Addr × Obj)} {σ : L2.St} {G H : Hp} {s : Shared} {a : Addr} {A : Around} {E : Value → Shared → Prop} {es : List (Int × V × V)} {kvs : List (Ky × D)} {k : Ky} {x : V} {u : Value}
/-- the dict at a, as data -/
structure DAt (m : Pm) (G H : Hp) (a : Addr) (es : List (Int × V × V)) (kvs : List (Ky × D)) : Prop where
  at_ : H a = some (.ext (DictIs a es))
  rep : RepE m G es kvs
  nd : (kvs.map (·.1)).Nodup
theorem x_in {Q : Value → Shared → Prop} (hh : HsOk m X.w) (hu : A.units + 9 < cLine) (I : Inv X pins σ H s) (sm : Same G H) (e : DAt m G H a es kvs) (rk : RepK m G x k) (ru : RelV x u) (h : ∀ s', Inv X pins σ H s' → Q (.bool (lookD kvs k).isSome) s') :
    wpAny (model X.prog X.w) A (compareOp .In u (.ref a)) Q E s := by
  obtain ⟨qs, e1, e2, e4, rd, hd, _⟩ := raw_of hh I.hok sm e.at_ e.rep e.nd
  refine inR hu (nested_of I.hok sm rk ru) hd rd fun t => ?_
  have h1 := h _ (I.tok t)
  rw [e2] at h1
  rcases look_rows (k := k) e4 with ⟨q1, q2⟩ | ⟨d, v, b, q1, q2, _, _⟩
  · rw [q1] at h1
    rw [q2]
    exact h1
  · rw [q1] at h1
    rw [q2]
    exact h1
theorem x_nin {Q : Value → Shared → Prop} (hh : HsOk m X.w) (hu : A.units + 9 < cLine) (I : Inv X pins σ H s) (sm : Same G H) (e : DAt m G H a es kvs) (rk : RepK m G x k) (ru : RelV x u) (h : ∀ s', Inv X pins σ H s' → Q (.bool (!(lookD kvs k).isSome)) s') :
    wpAny (model X.prog X.w) A (compareOp .NotIn u (.ref a)) Q E s := by
  obtain ⟨qs, e1, e2, e4, rd, hd, _⟩ := raw_of hh I.hok sm e.at_ e.rep e.nd
  refine ninR hu (nested_of I.hok sm rk ru) hd rd fun t => ?_
  have h1 := h _ (I.tok t)
  rw [e2] at h1
  rcases look_rows (k := k) e4 with ⟨q1, q2⟩ | ⟨d, v, b, q1, q2, _, _⟩
  · rw [q1] at h1
    rw [q2]
    exact h1
  · rw [q1] at h1
    rw [q2]
    exact h1
theorem x_get {Q : Value → Shared → Prop} {y : V} {r : Value} {dy : D} (hh : HsOk m X.w) (hu : A.units + 9 < cLine) (I : Inv X pins σ H s) (sm : Same G H) (e : DAt m G H a es kvs) (rk : RepK m G x k) (ru : RelV x u) (ry : RelV y r) (rd : Rep m G y dy)
    (h : ∀ v' w' s', Inv X pins σ H s' → RelV v' w' → Rep m G v' ((lookD kvs k).getD dy) → Q w' s') :
    wpAny (model X.prog X.w) A (call (.builtin "dict.get") [.ref a, u, r]) Q E s := by
  obtain ⟨qs, e1, e2, e4, rw', hd, _⟩ := raw_of hh I.hok sm e.at_ e.rep e.nd
  refine getR hu (nested_of I.hok sm rk ru) hd rw' fun t => ?_
  rcases look_rows (k := k) e4 with ⟨q1, q2⟩ | ⟨d, v, b, q1, q2, q3, q4⟩
  · rw [q2]
    exact h y r _ (I.tok t) ry (by rw [e2, q1]; exact rd)
  · rw [q2]
    exact h v b _ (I.tok t) q3 (by rw [e2, q1]; exact q4)
theorem x_write {h' : Heap} {t : Nat} {v : V} {r : Value} {d : D} {qs : List Row} (hh : HsOk m X.w) (I : Inv X pins σ H s) (e : H a = some (.ext (DictIs a es))) (e4 : ∀ q ∈ qs, RowOk m G q) (hd : (a == sysModules) = false) (hl : qs.length < sizeLine) (ok : RowOk m G ⟨k, x, v, u, r, d⟩)
    (hm' : RawD X.w h' a (putR (rowsX qs) k u r)) (hs' : Heap.SameBut a s.heap h') : Inv X pins σ (upd H a (.ext (DictIs a ((putQ qs k x v u r d).map fun q => (m.hs q.k, q.u, q.v))))) { s with heap := h', toks := t } := by
  have hl' : (putQ qs k x v u r d).length ≤ sizeLine := by
    have := putQ_len qs k x v u r d
    omega
  rw [← putQ_x qs k x v u r d] at hm'
  have di := raw_to hh (putQ_ok e4 ok) hm' hd hl'
  have he : ∃ q, h'.get? a = some q := let ⟨o, _, _, h1, _⟩ := di; ⟨o, h1⟩
  exact d_write I (by rw [e]; exact True.intro) hs' he (dictIs_ext di)
theorem x_dictSet {Q : Unit → Shared → Prop} {v : V} {r : Value} {d : D} (hh : HsOk m X.w) (hu : A.units + 8 < cLine) (I : Inv X pins σ H s) (sm : Same G H) (e : DAt m G H a es kvs) (hl : kvs.length < sizeLine) (rk : RepK m G x k) (ru : RelV x u) (rv : RelV v r) (rd : Rep m G v d)
    (h : ∀ es' s', RepE m G es' (insD kvs k d) → Inv X pins σ (upd H a (.ext (DictIs a es'))) s' → Q () s') :
    wpAny (model X.prog X.w) A (dictSet a u r) Q E s := by
  obtain ⟨qs, e1, e2, e4, rw', hd, hq⟩ := raw_of hh I.hok sm e.at_ e.rep e.nd
  have hlq : qs.length < sizeLine := by
    rw [e2, List.length_map] at hl
    exact hl
  have ok : RowOk m G ⟨k, x, v, u, r, d⟩ := ⟨rk, rd, ru, rv⟩
  refine dictSetR hu (nested_of I.hok sm rk ru) rw' (by simp [rowsX]; omega) fun h' t hm' hs' => ?_
  refine h _ _ ?_ (x_write hh I e.at_ e4 hd hlq ok hm' hs')
  rw [e2, ← putQ_d qs k x v u r d]
  exact (rows_to (putQ_ok e4 ok)).1
theorem x_setItem {Q : Unit → Shared → Prop} {v : V} {r : Value} {d : D} (hh : HsOk m X.w) (hu : A.units + 9 < cLine) (I : Inv X pins σ H s) (sm : Same G H) (e : DAt m G H a es kvs) (hl : kvs.length < sizeLine) (rk : RepK m G x k) (ru : RelV x u) (rv : RelV v r) (rd : Rep m G v d)
    (h : ∀ es' s', RepE m G es' (insD kvs k d) → Inv X pins σ (upd H a (.ext (DictIs a es'))) s' → Q () s') :
    wpAny (model X.prog X.w) A (setItem (.ref a) u r) Q E s := by
  obtain ⟨qs, e1, e2, e4, rw', hd, hq⟩ := raw_of hh I.hok sm e.at_ e.rep e.nd
  have hlq : qs.length < sizeLine := by
    rw [e2, List.length_map] at hl
    exact hl
  have ok : RowOk m G ⟨k, x, v, u, r, d⟩ := ⟨rk, rd, ru, rv⟩
  refine setItemR hu (nested_of I.hok sm rk ru) rw' (by simp [rowsX]; omega) fun h' t hm' hs' => ?_
  refine h _ _ ?_ (x_write hh I e.at_ e4 hd hlq ok hm' hs')
  rw [e2, ← putQ_d qs k x v u r d]
  exact (rows_to (putQ_ok e4 ok)).1
theorem x_empty {P : Program} {w : World} {H' : Hp} (h : Heap) (hb : sysModules < h.objs.size) : ObjOk P w H' (h.push { cls := .type "dict", data := .dict #[] }) h.objs.size (.ext (DictIs h.objs.size [])) :=
  dictIs_ext ⟨_, #[], 0, Heap.get?_push_size _ rfl, ⟨rfl, rfl, rfl⟩, rfl, beq_eq_false_iff_ne.mpr (Ne.symm (Nat.ne_of_lt hb)), .nil, Nat.zero_le _⟩
end
end Dl
set_option Elab.async false
set_option linter.all false
set_option maxRecDepth 100000
set_option maxHeartbeats 2000000
namespace Dl
open PySem L2

section
variable {m : Pm} {R : Res} {X : Cx} {e f o : Expr} {te tf to_ : TE} {de df do_ : TdE} {pos p apos cpos : Pos}
/-! in, not in -/
def rInX (m : Pm) (neg : Bool) : R2 := fun x y H Q => ∃ a G es kvs k, y = .ref a ∧ Same G H ∧ DAt m G H a es kvs ∧ RepK m G x k ∧ Q (.bl (if neg then !(lookD kvs k).isSome else (lookD kvs k).isSome)) H
def opInD (neg : Bool) (x y : D) (k : D → Prop) : Prop := match y, x.key with
  | .dct kvs, some q => k (.bl (if neg then !(lookD kvs q).isSome else (lookD kvs q).isSome))
  | _, _ => False
theorem od_inD (hh : HsOk m X.w) (hu : X.A.units + 9 < cLine) : OpD m R X (compareOp .In) (rInX m false) (opInD false) := by
  refine ⟨fun pins s σ H x y v u Q I rx ry h => ?_, fun x y dx dy G H k Q gh rx ry h q => ?_⟩
  · obtain ⟨a, G, es, kvs, k, rfl, sm, da, rk, q⟩ := h
    cases ry
    exact x_in hh hu I sm da rk rx fun s' I' => ⟨.bl (lookD kvs k).isSome, H, I', rfl, q⟩
  · unfold opInD at h
    split at h
    · rename_i kvs kk hk
      cases ry with
      | @dct a es _ ha r n => exact ⟨a, G, es, kvs, kk, rfl, gh.s, ⟨gh.s _ _ ha, r, n⟩, rx.toK hk, q _ _ G H (Ext.refl gh) (.bl _) h⟩
    · exact h.elim
theorem od_ninD (hh : HsOk m X.w) (hu : X.A.units + 9 < cLine) : OpD m R X (compareOp .NotIn) (rInX m true) (opInD true) := by
  refine ⟨fun pins s σ H x y v u Q I rx ry h => ?_, fun x y dx dy G H k Q gh rx ry h q => ?_⟩
  · obtain ⟨a, G, es, kvs, k, rfl, sm, da, rk, q⟩ := h
    cases ry
    exact x_nin hh hu I sm da rk rx fun s' I' => ⟨.bl (!(lookD kvs k).isSome), H, I', rfl, q⟩
  · unfold opInD at h
    split at h
    · rename_i kvs kk hk
      cases ry with
      | @dct a es _ ha r n => exact ⟨a, G, es, kvs, kk, rfl, gh.s, ⟨gh.s _ _ ha, r, n⟩, rx.toK hk, q _ _ G H (Ext.refl gh) (.bl _) h⟩
    · exact h.elim

/-! {} -/
def tNewX : TE := fun _ H Q => ∀ p, H p = none → Q (.ref p) (upd H p (.ext (DictIs p [])))
theorem pe_newX : PE X (.Dict [] [] pos) tNewX := ⟨fun pins s σ H Q I h =>
  wpAny_Dict_empty ⟨.ref s.heap.objs.size, _, I.laid (a := s.heap.objs.size) (o := .ext (DictIs s.heap.objs.size [])) (t' := s.toks) (fun _ _ q => Heap.get?_push_of_some _ q) (Nat.le_refl _) (x_empty s.heap I.big), rfl, h _ (I.hok.fresh (Nat.le_refl _))⟩⟩
theorem pd_newD : PD m R X (.Dict [] [] pos) tNewX (dC (.dct [])) :=
  ⟨pe_newX, fun ρ σ G H k Q he gh h q p hp => q _ _ _ _ (Ext.new gh hp) (.dct upd_same .nil .nil) h⟩

/-! d.get(k, x) -/
def tGetX (m : Pm) (td ty tx : TE) : TE := fun σ H Q => td σ H fun x H1 => ∃ a, x = .ref a ∧ (∃ es, H1 a = some (.ext (DictIs a es))) ∧ ty σ H1 fun y H2 => tx σ H2 fun z H3 =>
  ∃ G es kvs k dz, Same G H3 ∧ DAt m G H3 a es kvs ∧ RepK m G y k ∧ Rep m G z dz ∧ ∀ v', Rep m G v' ((lookD kvs k).getD dz) → Q v' H3
theorem isX_at {pins : List (Addr × Obj)} {σ : L2.St} {H : Hp} {s : Shared} {a : Addr} {es : List (Int × V × V)} (I : Inv X pins σ H s) (d : H a = some (.ext (DictIs a es))) :
    s.TypeIs (.ref a) "dict" ∧ (∀ b, Value.ref a = .ref b → ∃ ob, s.heap.get? b = some ob ∧ ob.dict = none) ∧ (a == sysModules) = false := by
  obtain ⟨⟨o, ents, ep, h1, h2, h3, h4, h5, h6⟩, _, _⟩ := (show ObjOk X.prog X.w H s.heap a (.ext (DictIs a es)) from I.hok a _ d)
  refine ⟨⟨o, h1, h2.1⟩, fun b q => ?_, h4⟩
  cases q
  exact ⟨o, h1, h2.2.1⟩
theorem pe_getX (hh : HsOk m X.w) (hu : X.A.units + 9 < cLine) (ho : PE X o to_) (he : PE X e te) (hf : PE X f tf)
    (base : attributeBase o "get" X.env (eval o X.env) = eval o X.env := by rfl)
    (few : ((backTo cpos (starEach [e, f] X.env)).all (fun x => !x.1) && (backToKw cpos (keywordEach [] X.env)).all (fun x => x.1.isSome) && decide (([e, f] : List Expr).length + ([] : List Keyword).length + (if ([] : List Keyword).isEmpty then 0 else 1) < 30)) = true := by rfl)
    (line : (apos.endLine == cpos.line) = true := by rfl) (trees : backTo cpos (starEach [e, f] X.env) = [(false, eval e X.env), (false, eval f X.env)] := by rfl) :
    PE X (.Call (.Attribute o "get" apos) [e, f] [] cpos) (tGetX m to_ te tf) := by
  refine ⟨fun pins s σ H Q I h => ?_⟩
  refine wpAny_Call_method base few line PySem.F.plainAttrs_dict PySem.F.slot_dict_get PySem.F.type_dict_get (thn (ho.run pins s σ H _ I h) fun u s1 ⟨x, H1, I1, rx, a, ex, ⟨es, d⟩, q1⟩ => ?_)
  subst ex
  obtain rfl : u = Value.ref a := rx
  obtain ⟨t1, t2, _⟩ := isX_at I1 d
  refine ⟨t1, t2, ?_⟩
  rw [trees]
  refine Calls.callWith_builtin rfl (Calls.evalArgs_plain (Calls.spliced_cons (thn (he.run pins s1 σ H1 _ I1 q1) fun iv s2 ⟨y, H2, I2, ry, q2⟩ =>
    Calls.spliced_cons (thn (hf.run pins s2 σ H2 _ I2 q2) fun fv s3 ⟨z, H3, I3, rz, G, es, kvs, k, dz, sm, da, rk, rd, q3⟩ => Calls.spliced_nil ?_))))
  exact x_get hh hu I3 sm da rk ry rz rd fun v' w' s4 I4 rw' rr => ⟨v', H3, I4, rw', q3 v' rr⟩
def dGet (a b c : TdE) : TdE := fun ρ k => a ρ fun x => match x with
  | .dct kvs => b ρ fun y => match y.key with
    | some q => c ρ fun z => k ((lookD kvs q).getD z)
    | none => False
  | _ => False
theorem pd_get (hh : HsOk m X.w) (hu : X.A.units + 9 < cLine) (ho : PD m R X o to_ do_) (he : PD m R X e te de) (hf : PD m R X f tf df)
    (base : attributeBase o "get" X.env (eval o X.env) = eval o X.env := by rfl)
    (few : ((backTo cpos (starEach [e, f] X.env)).all (fun x => !x.1) && (backToKw cpos (keywordEach [] X.env)).all (fun x => x.1.isSome) && decide (([e, f] : List Expr).length + ([] : List Keyword).length + (if ([] : List Keyword).isEmpty then 0 else 1) < 30)) = true := by rfl)
    (line : (apos.endLine == cpos.line) = true := by rfl) (trees : backTo cpos (starEach [e, f] X.env) = [(false, eval e X.env), (false, eval f X.env)] := by rfl) :
    PD m R X (.Call (.Attribute o "get" apos) [e, f] [] cpos) (tGetX m to_ te tf) (dGet do_ de df) := by
  refine ⟨pe_getX hh hu ho.pe he.pe hf.pe base few line trees, fun ρ σ G H k Q hv gh h q => ?_⟩
  refine ho.sem ρ σ G H _ _ hv gh h fun v d G1 H1 e1 r1 h1 => ?_
  cases r1 with
  | @dct a es kvs ha rr nd =>
    refine ⟨a, rfl, ⟨es, e1.gh.s _ _ ha⟩, ?_⟩
    refine he.sem ρ σ G1 H1 _ _ (hv.mono e1.gg) e1.gh h1 fun v2 d2 G2 H2 e2 r2 h2 => ?_
    split at h2
    · rename_i q2 hk
      refine hf.sem ρ σ G2 H2 _ _ (hv.mono (e1.gg.trans e2.gg)) e2.gh h2 fun v3 d3 G3 H3 e3 r3 h3 => ?_
      have sg := e2.gg.trans e3.gg
      exact ⟨G3, es, kvs, q2, d3, e3.gh.s, ⟨e3.gh.s _ _ (sg _ _ ha), rr.mono sg, nd⟩, (r2.mono e3.gg).toK hk, r3, fun v' rv => q v' _ G3 H3 (e1.trans (e2.trans e3)) rv h3⟩
    · exact h2.elim
  | _ => exact h1.elim
end
end Dl
set_option Elab.async false
set_option linter.all false
set_option maxRecDepth 100000
set_option maxHeartbeats 2000000
/-! Dict comprehensions with keys of any of the three kinds (the block's frame follows the library's core for its own kind of dict). -/
namespace Dl
open PySem PySem.Spec PyProof.Rows L2

section
variable {m : Pm} {R : Res} {X : Cx}
def tDx (m : Pm) (wi : TI) (g : TG) (tt : TT) (tk tv : TE) (vs : List Nat) : TE := fun σ H Q => wi σ H fun J H1 => ∀ B, H1 B = none → ∃ W : Nat → Nat → Hp → Prop, (∃ n, W 0 n (upd H1 B (.ext (DictIs B [])))) ∧ ∀ i n H, W i n H →
  (J.stop i H ∧ Q (.ref B) H) ∨ (J.go i H ∧ ∃ Nx : Hp → Prop, (∀ H', Nx H' → ∃ n', n' < n ∧ W (i + 1) n' H') ∧ ∀ x H', J.yld i H x H' → g x (wipe σ vs) H' fun σ2 H2 => wipe σ2 vs = wipe σ vs ∧ tt σ2 H2 fun b H3 =>
    if b = true then tk σ2 H3 fun y H4 => tv σ2 H4 fun z H5 => ∃ G es kvs k d, Same G H5 ∧ DAt m G H5 B es kvs ∧ kvs.length < sizeLine ∧ RepK m G y k ∧ Rep m G z d ∧ ∀ es', RepE m G es' (insD kvs k d) → Nx (upd H5 B (.ext (DictIs B es'))) else Nx H3)
theorem dx_core {pins : List (Addr × Obj)} {s : Shared} {σ : L2.St} {H : Hp} {Q : VK} {kx vx tg iter : Expr} {ifs : List Expr} {scope : Scope} {own : List (Str × Nat)} {pos pos' : Pos} {wi : TI} {g : TG} {tt : TT} {tk tv : TE} {use : Option (Value → Sem Unit)} {Qf : Value → Shared → Prop}
    (hh : HsOk m X.w) (hu : X.A.units + 8 < cLine) (hc : X.calm = true) (hN : X.N.Nodup) (I : Inv X pins σ H s) (hi : PI X tg iter wi) (ok : BlkOk X.N X.env.scope scope own)
    (hg : ∀ (s : Shared) (H : Hp) (C : Addr) (cl : List (Str × Addr)) (fp : List Addr), PG (X.blk s H scope (compEnvC scope cl C X.env) fp) tg g) (ht : ∀ (s : Shared) (H : Hp) (C : Addr) (cl : List (Str × Addr)) (fp : List Addr), PTs (X.blk s H scope (compEnvC scope cl C X.env) fp) ifs tt)
    (hk : ∀ (s : Shared) (H : Hp) (C : Addr) (cl : List (Str × Addr)) (fp : List Addr), PE (X.blk s H scope (compEnvC scope cl C X.env) fp) kx tk)
    (he : ∀ (s : Shared) (H : Hp) (C : Addr) (cl : List (Str × Addr)) (fp : List Addr), PE (X.blk s H scope (compEnvC scope cl C X.env) fp) vx tv) (hs : ∀ x, foldedSetIterable iter X.env x = pure x)
    (h : tDx m wi g tt tk tv (own.map (·.2)) σ H Q)
    (hRR : ∀ B C s' n H', Inv X pins σ H' s' → Q (.ref B) H' → s'.heap.Ns C n → FpOk X pins H' C → compPost (model X.prog X.w) X.A X.xe use Qf (.ref B) C (.ok .next) s') :
    wpAny (model X.prog X.w) X.A (comprehension (.DictComp kx vx [⟨tg, iter, ifs, 0⟩] scope pos) scope X.env pos' newDict false (eval iter X.env) use) Qf X.xe s := by
  have hfree : ∀ y ∈ scope.names, y.2 = .free → ∃ c, X.env.cells.lookup y.1 = some c := fun y hy e => by
    rcases ok.free y hy e with k | k
    · exact I.ok.has _ (.inl k)
    · exact I.ok.has _ (.inr k)
  refine wpAny_comprehension_free (use := use) rfl hs (closure_ok hfree) ok.kind (fun y hy e => by rw [ok.uniq y hy, e])
    (thn (hi.run pins s σ H _ I h) fun xv s1 hx => thn hx fun itv s2 h2 => ?_)
  obtain ⟨it, fp, tn, J, H2, e, I2, T, st2, f2, q⟩ := h2
  subst e
  refine wpAny_newObj_type (newEnv_comp ?_)
  generalize hD : s2.heap.objs.size = B
  have hDn : H2 B = none := I2.hok.fresh (Nat.le_of_eq hD)
  obtain ⟨W, ⟨m0, w0⟩, turn⟩ := q B hDn
  generalize hs3 : ({ s2 with heap := s2.heap.push { cls := .type "dict", data := .dict #[] } } : Shared) = s3
  have I3 : Inv X pins σ (upd H2 B (.ext (DictIs B []))) s3 := by
    rw [← hs3]
    refine I2.laid (t' := s2.toks) (fun b o e => Heap.get?_push_of_some _ e) (Nat.le_of_eq hD) ?_
    rw [← hD]
    exact x_empty s2.heap I2.big
  have h3 : s3.heap = s2.heap.push { cls := .type "dict", data := .dict #[] } := by rw [← hs3]
  have sz : ∀ b ∈ fp, b < s2.heap.objs.size := fun b hb => by
    obtain ⟨o, e, _⟩ := T.obj _ _ st2 b hb
    exact Heap.lt_size e
  have f3 : ∀ b ∈ fp, FpOk X pins (upd H2 B (.ext (DictIs B []))) b ∧ b < s3.heap.objs.size := fun b hb => by
    have hlt := sz b hb
    refine ⟨⟨?_, (f2 b hb).2⟩, by rw [h3, Heap.size_push]; exact Nat.lt_succ_of_lt hlt⟩
    rw [upd_ne (by rw [← hD]; exact Nat.ne_of_lt hlt)]
    exact (f2 b hb).1
  have st3 : tn 0 s3.heap := T.keep _ _ _ st2 fun b _ o e => by rw [h3]; exact Heap.get?_push_of_some _ e
  have I4 := block_start I3 ok hN f3
  have pg := hg s3 (upd H2 B (.ext (DictIs B []))) s3.heap.objs.size (cellsFrom (s3.heap.objs.size + 1) scope.names (cloFrom X.env.cells scope.names [])) fp
  have pt := ht s3 (upd H2 B (.ext (DictIs B []))) s3.heap.objs.size (cellsFrom (s3.heap.objs.size + 1) scope.names (cloFrom X.env.cells scope.names [])) fp
  have pk := hk s3 (upd H2 B (.ext (DictIs B []))) s3.heap.objs.size (cellsFrom (s3.heap.objs.size + 1) scope.names (cloFrom X.env.cells scope.names [])) fp
  have pe := he s3 (upd H2 B (.ext (DictIs B []))) s3.heap.objs.size (cellsFrom (s3.heap.objs.size + 1) scope.names (cloFrom X.env.cells scope.names [])) fp
  show codeAny _ _ (.compStart (.DictComp kx vx [⟨tg, iter, ifs, 0⟩] scope pos) 0 (.ref it) (.ref B) (compEnvC scope (cellsFrom (s3.heap.objs.size + 1) scope.names (cloFrom X.env.cells scope.names [])) s3.heap.objs.size X.env)) (compPost (model X.prog X.w) X.A X.xe use Qf (.ref B) s3.heap.objs.size) { s3 with heap := pushCells (s3.heap.push { cls := .type "dict", data := .dict #[] }) scope.names }
  have nfp : ∀ b ∈ fp, (upd H2 B (.ext (DictIs B []))) b = none := fun b hb => (f3 b hb).1.1
  generalize hce : compEnvC scope (cellsFrom (s3.heap.objs.size + 1) scope.names (cloFrom X.env.cells scope.names [])) s3.heap.objs.size X.env = ce at I4 pg pt pk pe ⊢
  have cL : ce.locals = s3.heap.objs.size := by subst hce; rfl
  generalize hH3 : upd H2 B (.ext (DictIs B [])) = H3 at I3 I4 pg pt pk pe w0 nfp f3
  generalize hs4 : ({ s3 with heap := pushCells (s3.heap.push { cls := .type "dict", data := .dict #[] }) scope.names } : Shared) = s4 at I4 ⊢
  have st4 : tn 0 s4.heap := T.keep _ _ _ st3 fun b _ o e => by rw [← hs4]; exact pushCells_keeps _ _ _ _ (Heap.get?_push_of_some _ e)
  have stat : ∀ {σ' : L2.St} {H' : Hp} {s' : Shared}, Inv (X.blk s3 H3 scope ce fp) [] σ' H' s' → (∀ b ∈ fp, H' b = none) → ∀ b ∈ fp, FpOk (X.blk s3 H3 scope ce fp) [] H' b := fun {σ' H' s'} I' hn b hb =>
    ⟨hn b hb, (I'.ok.exf b hb).1, I'.ok.exfs b hb, .inl hb, fun x c e => (I'.ok.exf b hb).2 x c e, fun p hp => absurd (show p ∈ ([] : List (Addr × Obj)) ++ [] from hp) (by simp)⟩
  have loop : codeAny (model X.prog X.w) X.A (.compLoop (.DictComp kx vx [⟨tg, iter, ifs, 0⟩] scope pos) 0 (.ref it) (.ref B) ce) (compPost (model X.prog X.w) X.A X.xe use Qf (.ref B) s3.heap.objs.size) s4 := by
    refine compLoop_anyD (fun n s' => ∃ i H', Inv (X.blk s3 H3 scope ce fp) [] (wipe σ (own.map (·.2))) H' s' ∧ tn i s'.heap ∧ (∀ b ∈ fp, H' b = none) ∧ W i n H') ?_ m0 ⟨0, H3, I4, st4, nfp, w0⟩
    rintro n s5 ⟨i, H5, I5, st5, n5, w5⟩
    rcases turn i n H5 w5 with ⟨stop, qq⟩ | ⟨go, Nx, hNx, step⟩
    · have td := T.done (X.blk s3 H3 scope ce fp) rfl rfl rfl hc i [] s5 _ H5 (fun _ _ => False) I5 (stat I5 n5) st5 stop
      refine thnF td fun r s6 ⟨hr, I6⟩ => ?_
      subst hr
      have I7 : Inv X pins σ H5 s6 := I3.call' (ch := fp) I6.os I6.base I6.hok I6.bare fun b hb => ⟨(f3 b hb).1.2.2.2.1, (f3 b hb).1.2.1, (f3 b hb).1.2.2.2.2.1, (f3 b hb).1.2.2.2.2.2⟩
      have nC : H5 s3.heap.objs.size = none := by
        have z : H5 ce.locals = none := I6.free
        rw [cL] at z
        exact z
      obtain ⟨n', hn, _⟩ := I6.loc
      have hn : s6.heap.Ns ce.locals n' := hn
      rw [cL] at hn
      exact hRR B s3.heap.objs.size s6 n' H5 I7 qq hn (I3.fpOk (Nat.le_refl _) nC)
    · have ti := T.item (X.blk s3 H3 scope ce fp) rfl rfl rfl hc i [] s5 _ H5 (fun _ _ => False) I5 (stat I5 n5) st5 go
      refine thnF ti fun r s6 ⟨u, hr, h6⟩ => ?_
      subst hr
      refine thnF h6 fun _ s7 ⟨x, H7, I7, r7, y7, st7, n7⟩ => ?_
      have I7' := I7.pinned (stat I7 n7) (T.obj _ _ st7)
      refine thnF (pg.run _ s7 _ H7 x u _ I7' r7 (step x H7 y7)) fun _ s8 ⟨σ8, H8, I8, hw8, q8⟩ => ?_
      refine thnF (pt.run _ s8 σ8 H8 _ I8 q8) fun b s9 ⟨H9, I9, q9⟩ => ?_
      have fin : ∀ {s' : Shared} {H' : Hp}, Inv (X.blk s3 H3 scope ce fp) ([] ++ pinsAt fp s7.heap) σ8 H' s' → Nx H' → ∃ n', n' < n ∧ ∃ i H', Inv (X.blk s3 H3 scope ce fp) [] (wipe σ (own.map (·.2))) H' s' ∧ tn i s'.heap ∧ (∀ b ∈ fp, H' b = none) ∧ W i n' H' := fun {s' H'} I' nx => by
        obtain ⟨n', hm, w'⟩ := hNx H' nx
        have pin' : ∀ b ∈ fp, ∀ o, s7.heap.get? b = some o → s'.heap.get? b = some o ∧ H' b = none := fun b hb o e =>
          let z := I'.pin (b, o) (List.mem_append_right _ (List.mem_append_right _ (mem_pinsAt hb e)))
          ⟨z.1, z.2.1⟩
        have hl : (wipe σ (own.map (·.2))).length = σ8.length := by rw [← hw8, wipe_length]
        refine ⟨n', hm, i + 1, H', (I'.unpinned (pins := [])).weak hl (fun j v e => ?_), T.keep _ _ _ st7 fun b hb o e => (pin' b hb o e).1, fun b hb => ?_, w'⟩
        · rw [← hw8] at e
          exact (wipe_some e).1
        · obtain ⟨o, e, _⟩ := T.obj _ _ st7 b hb
          exact (pin' b hb o e).2
      cases b with
      | false =>
        simp only [Bool.false_eq_true, if_false] at q9 ⊢
        exact fin I9 q9
      | true =>
        simp only [if_true] at q9 ⊢
        refine thnF (pk.run _ s9 σ8 H9 _ I9 q9) fun z s10 ⟨yk, H10, I10, r10, q10⟩ => ?_
        refine thnF (pe.run _ s10 σ8 H10 _ I10 q10) fun z2 s11 ⟨yv, H11, I11, r11, G, es, kvs, k, d, sm, da, hz11, rk, rd, nx⟩ => ?_
        exact x_dictSet (X := X.blk s3 H3 scope ce fp) hh hu I11 sm da hz11 rk r10 r11 rd fun es' s12 re I12 => fin I12 (nx es' re)
  exact codeAny_compStart_dict loop (T.self X.A 0 _ _ _ st4 loop)
theorem pe_dx {kx vx tg iter : Expr} {ifs : List Expr} {scope : Scope} {own : List (Str × Nat)} {pos : Pos} {wi : TI} {g : TG} {tt : TT} {tk tv : TE} (hh : HsOk m X.w) (hu : X.A.units + 8 < cLine) (hc : X.calm = true) (hN : X.N.Nodup) (hi : PI X tg iter wi) (ok : BlkOk X.N X.env.scope scope own)
    (hg : ∀ (s : Shared) (H : Hp) (C : Addr) (cl : List (Str × Addr)) (fp : List Addr), PG (X.blk s H scope (compEnvC scope cl C X.env) fp) tg g) (ht : ∀ (s : Shared) (H : Hp) (C : Addr) (cl : List (Str × Addr)) (fp : List Addr), PTs (X.blk s H scope (compEnvC scope cl C X.env) fp) ifs tt)
    (hk : ∀ (s : Shared) (H : Hp) (C : Addr) (cl : List (Str × Addr)) (fp : List Addr), PE (X.blk s H scope (compEnvC scope cl C X.env) fp) kx tk)
    (he : ∀ (s : Shared) (H : Hp) (C : Addr) (cl : List (Str × Addr)) (fp : List Addr), PE (X.blk s H scope (compEnvC scope cl C X.env) fp) vx tv) (hs : ∀ x, foldedSetIterable iter X.env x = pure x := by intro _; rfl) :
    PE X (.DictComp kx vx [⟨tg, iter, ifs, 0⟩] scope pos) (tDx m wi g tt tk tv (own.map (·.2))) := by
  refine ⟨fun pins s σ H Q I h => ?_⟩
  rw [arm_eval_DictComp]
  refine dx_core hh hu hc hN I hi ok hg ht hk he hs h fun B C s' n H' I' q hn f => ⟨n, hn, fun h'' sb => ?_⟩
  obtain ⟨f0, f1, f2, f3, f4, f5⟩ := f
  exact ⟨.ref B, H', I'.turned (t' := s'.toks) (fun b o hb e => (sb.2 b hb).trans e) f0 f1 f3 f4 f5, rfl, q⟩
end

section
variable {m : Pm} {R : Res} {X : Cx} {wi : TI} {di : TdI} {g : TG} {dg : TdG} {js : List Nat} {tt : TT} {dt : TdT} {tk tv : TE} {dk dv : TdE}
def dDx (di : TdI) (dg : TdG) (dt : TdT) (dk dv : TdE) (vs : List Nat) : TdE := fun ρ k => di ρ fun ds => ∃ I : Nat → List (Ky × D) → Prop, I 0 [] ∧
  (∀ (i : Nat) (d : D) (acc : List (Ky × D)), ds[i]? = some d → I i acc → dg d (wipeR ρ vs) fun ρ2 => dt ρ2 fun b => if b = true then dk ρ2 fun y => match y.key with
    | some q => dv ρ2 fun z => acc.length < sizeLine ∧ I (i + 1) (insD acc q z)
    | none => False else I (i + 1) acc) ∧ ∀ acc, I ds.length acc → k (.dct acc)
theorem sem_dxAt {vs : List Nat} {ρ : Rho} {σ : L2.St} {G H : Hp} {k : D → Prop} {Q : VK} (hi : SemIAt m R wi di ρ σ G H) (hg : SemG m js g dg) (ht : SemT m R tt dt) (hk : SemE m R tk dk) (he : SemE m R tv dv) (hj : ∀ j ∈ js, j ∈ vs) (hv : EnvE m G ρ σ) (gh : GH R G H) (h : dDx di dg dt dk dv vs ρ k)
    (q : ∀ v d G' H', Ext R G H G' H' → Rep m G' v d → k d → Q v H') : tDx m wi g tt tk tv vs σ H Q := by
  refine hi _ _ h fun J ds G1 H1 e1 wk ⟨I, h0, hs, hd⟩ => ?_
  intro B hD
  have hDG : G1 B = none := e1.gh.s.free hD
  have hDM : ¬ R.M B := e1.gh.notM hD
  have hv1 : EnvE m G1 (wipeR ρ vs) (wipe σ vs) := (hv.mono e1.gg).wipe vs
  refine ⟨fun i n H' => n = ds.length - i ∧ i ≤ ds.length ∧ ∃ G' es acc, Ext R G1 H1 G' H' ∧ DAt m G' H' B es acc ∧ G' B = none ∧ I i acc, ⟨_, rfl, Nat.zero_le _, G1, [], [], Ext.side e1.gh hD, ⟨upd_same, .nil, .nil⟩, hDG, h0⟩, ?_⟩
  rintro i n H' ⟨rfl, hil, G', es, acc, ex, hL, hG', hI⟩
  by_cases hlt : i < ds.length
  · refine .inr ⟨wk.goes i G' H' hlt ex.gg ex.gh, fun H2 => ∃ G' es acc, Ext R G1 H1 G' H2 ∧ DAt m G' H2 B es acc ∧ G' B = none ∧ I (i + 1) acc, fun H2 hh => ⟨ds.length - (i + 1), by omega, rfl, hlt, hh⟩, fun x H2 y => ?_⟩
    obtain ⟨d, G2, hd1, e2, r2⟩ := wk.yields i G' H' x H2 hlt ex.gg ex.gh y
    have hL2 : H2 B = some (.ext (DictIs B es)) := e2.hh _ _ hL.at_ hDM
    have hG2 : G2 B = none := ext_none ex.gh e2 hL.at_ hG'
    refine hg G2 H2 x d (wipeR ρ vs) (wipe σ vs) _ _ e2.gh.s r2 (hs i d acc hd1 hI) fun l hl hk' => ?_
    refine ⟨by rw [wipe_putV hj l _ fun z hz => (hl z hz).1, wipe_wipe], ?_⟩
    have hv2 : EnvE m G2 (putD l (wipeR ρ vs)) (putV l (wipe σ vs)) := EnvE.sets l (hv1.mono (ex.gg.trans e2.gg)) fun z hz => (hl z hz).2
    refine ht _ _ G2 H2 _ _ hv2 e2.gh hk' fun b G3 H3 e3 h3 => ?_
    have hL3 : H3 B = some (.ext (DictIs B es)) := e3.hh _ _ hL2 hDM
    have hG3 : G3 B = none := ext_none e2.gh e3 hL2 hG2
    cases b with
    | true =>
      refine hk _ _ G3 H3 _ _ (hv2.mono e3.gg) e3.gh h3 fun v d4 G4 H4 e4 r4 h4 => ?_
      have hL4 : H4 B = some (.ext (DictIs B es)) := e4.hh _ _ hL3 hDM
      have hG4 : G4 B = none := ext_none e3.gh e4 hL3 hG3
      split at h4
      · rename_i kq hkq
        refine he _ _ G4 H4 _ _ (hv2.mono (e3.gg.trans e4.gg)) e4.gh h4 fun v5 d5 G5 H5 e5 r5 h5 => ?_
        have hL5 : H5 B = some (.ext (DictIs B es)) := e5.hh _ _ hL4 hDM
        have hG5 : G5 B = none := ext_none e4.gh e5 hL4 hG4
        have sg := e2.gg.trans (e3.gg.trans (e4.gg.trans e5.gg))
        have ex5 := ex.trans (e2.trans (e3.trans (e4.trans e5)))
        refine ⟨G5, es, acc, kq, d5, e5.gh.s, ⟨hL5, hL.rep.mono sg, hL.nd⟩, h5.1, (r4.mono e5.gg).toK hkq, r5, fun es' re => ?_⟩
        refine ⟨G5, es', insD acc kq d5, ?_, ⟨upd_same, re, insD_nodup hL.nd⟩, hG5, h5.2⟩
        refine ⟨ex5.gg, ex5.gh.side hG5 hDM, fun z o ez nz => ?_, ex5.fr⟩
        rw [upd_ne (ne_of_none ez hD)]
        exact ex5.hh z o ez nz
      · exact h4.elim
    | false => exact ⟨G3, es, acc, ex.trans (e2.trans e3), ⟨hL3, hL.rep.mono (e2.gg.trans e3.gg), hL.nd⟩, hG3, h3⟩
  · have e : i = ds.length := by omega
    subst e
    refine .inl ⟨wk.stops G' H' ex.gg ex.gh, ?_⟩
    have h0 : H B = none := by
      cases z : H B with
      | none => rfl
      | some o => rw [e1.hh _ o z hDM] at hD; cases hD
    have sm : Same G' (upd G' B (.ext (DictIs B es))) := same_new hG'
    have e1x := e1.trans ex
    refine q (.ref B) (.dct acc) (upd G' B (.ext (DictIs B es))) H' ⟨e1x.gg.trans sm, e1x.gh.adopt hG' hL.at_ hDM, e1x.hh, fun b o e => ?_⟩ (.dct upd_same (hL.rep.mono sm) hL.nd) (hd acc hI)
    by_cases z : b = B
    · subst z
      exact .inr h0
    · rw [upd_ne z] at e
      exact e1x.fr b o e
theorem sem_dx {vs : List Nat} (hi : SemI m R wi di) (hg : SemG m js g dg) (ht : SemT m R tt dt) (hk : SemE m R tk dk) (he : SemE m R tv dv) (hj : ∀ j ∈ js, j ∈ vs) : SemE m R (tDx m wi g tt tk tv vs) (dDx di dg dt dk dv vs) :=
  fun ρ σ G H k Q hv gh h q => sem_dxAt (fun k RR h q => hi ρ σ G H k RR hv gh h q) hg ht hk he hj hv gh h q
end
end Dl
set_option Elab.async false
set_option linter.all false
set_option maxRecDepth 100000
set_option maxHeartbeats 2000000
/-! A list of two dicts of lists, of one's own. -/
namespace Dl
open PySem L2

section
variable {m : Pm} {R : Res} {X : Cx} {pos : Pos}
/-- d[k] = v -/
def rSetX (m : Pm) : TSet := fun o i v H Q => ∃ a G es kvs k d, o = .ref a ∧ Same G H ∧ DAt m G H a es kvs ∧ kvs.length < sizeLine ∧ RepK m G i k ∧ Rep m G v d ∧ ∀ es', RepE m G es' (insD kvs k d) → Q (upd H a (.ext (DictIs a es')))
theorem set_X (hh : HsOk m X.w) (hu : X.A.units + 9 < cLine) : PSet X (rSetX m) := by
  intro pins s σ H o i v ov iv u Q I ro ri rv h
  obtain ⟨a, G, es, kvs, k, d, rfl, sm, da, hl, rk, rd, q⟩ := h
  cases ro
  exact x_setItem hh hu I sm da hl rk ri rv rd fun es' s' re I' => ⟨_, I', q es' re⟩
def dGrp0 (i : Nat) : TdS := fun De ρ => De.nx (ρ.set i (.grp [] []))
theorem StOk.grp0 {S : Start} {ρ : Rho} {σ : L2.St} {G H : Hp} {i : Nat} {a0 a1 l : Addr} (h : StOk m R S ρ σ G H) (h0 : H a0 = none) (h1 : (upd H a0 (.ext (DictIs a0 []))) a1 = none) (h2 : (upd (upd H a0 (.ext (DictIs a0 []))) a1 (.ext (DictIs a1 []))) l = none) :
    StOk m R S (ρ.set i (.grp [] [])) (σ.set i (some (.ref l))) G (upd (upd (upd H a0 (.ext (DictIs a0 []))) a1 (.ext (DictIs a1 []))) l (.lst [.ref a0, .ref a1])) := by
  have e0 := Ext.side (o := .ext (DictIs a0 [])) h.gh h0
  have e1 := Ext.side (o := .ext (DictIs a1 [])) e0.gh h1
  have e2 := Ext.side (o := .lst [.ref a0, .ref a1]) e1.gh h2
  have n10 : a1 ≠ a0 := fun z => by rw [z, upd_same] at h1; cases h1
  have k1 : H a1 = none := by rw [upd_ne n10] at h1; exact h1
  have nl1 : l ≠ a1 := fun z => by rw [z, upd_same] at h2; cases h2
  have h3 := h2
  rw [upd_ne nl1] at h3
  have nl0 : l ≠ a0 := fun z => by rw [z, upd_same] at h3; cases h3
  rw [upd_ne nl0] at h3
  have e := e0.trans (e1.trans e2)
  have key := fun j t (hj : ρ[j]? = some t) => (h.at_ j t hj).step (Same.refl G) fun a v o hv => ⟨e.hh _ _ hv (h.notM ((h.at_ j t hj).owned o).2.1), ((h.at_ j t hj).owned o).2.2⟩
  refine (h.step e).put ⟨l, a0, a1, [], [], rfl, upd_same, ?_, ?_, ⟨h.fresh h3, h.fresh h0, h.fresh k1⟩, ⟨h.gh.s.free h3, h.gh.s.free h0, h.gh.s.free k1⟩, Ne.symm n10, ⟨.nil, .nil⟩, ⟨.nil, .nil⟩⟩ fun j t a _ hj ot og => ?_
  · rw [upd_ne (Ne.symm nl0), upd_ne (Ne.symm n10), upd_same]
  · rw [upd_ne (Ne.symm nl1), upd_same]
  · obtain ⟨⟨u, hu⟩, _⟩ := (h.at_ j t hj).owned ((key j t hj).2 a ot)
    obtain ⟨l', b0, b1, o1, o2, o3⟩ := og
    cases o1
    rw [upd_same] at o2
    cases o2
    rcases o3 with rfl | rfl | rfl
    · rw [h3] at hu; cases hu
    · rw [h0] at hu; cases hu
    · rw [k1] at hu; cases hu
theorem pds_grp0 (i : Nat) {x : Str} {px pl p0 p1 : Pos} (hN : X.N.Nodup) (hi : X.N[i]? = some x := by rfl) (hx : Loc X.env.scope x := by first | exact Or.inl rfl | exact Or.inr rfl) (hs : swapsWith (.List [.Dict [] [] p0, .Dict [] [] p1] pl) (some (.Name x px)) pos.line X.env = pure false := by rfl)
    (hf : X.fn x = true ∨ X.env.scope.names.lookup x = some .local := by first | exact .inl rfl | exact .inr rfl)
    (s1 : starEach [.Dict [] [] p0, .Dict [] [] p1] X.env = (false, eval (.Dict [] [] p0) X.env) :: starEach [.Dict [] [] p1] X.env := by rfl) (s2 : starEach [.Dict [] [] p1] X.env = (false, eval (.Dict [] [] p1) X.env) :: starEach [] X.env := by rfl) :
    PDS m R X (.Assign [.Name x px] (.List [.Dict [] [] p0, .Dict [] [] p1] pl) pos) (tAsg (tLst (tCons tNewX (tCons tNewX tNil))) (gName i)) (dGrp0 i) := by
  refine ⟨ps_set hN hi hx (pe_lst (pa_cons pe_newX (pa_cons pe_newX pa_nil s2) s1)) hs hf, fun S ρ σ G H De Dd st c h => ?_⟩
  intro a0 h0 a1 h1
  exact ⟨show 2 ≤ sizeLine by decide +kernel, fun l h2 => c.nx _ _ G _ (st.grp0 h0 h1 h2) h⟩

/-- g[s][o] = [*g[s].get(o, []), d] -/
def dGrpPut (i j o d : Nat) : TdS := fun De ρ => match ρ[i]?, ρ[j]?, ρ[o]?, ρ[d]? with
  | some (.grp k0 k1), some (.val (.int s)), some (.val x), some (.val y) => ∃ q, x.key = some q ∧
    ((s = 0 ∧ k0.length < sizeLine ∧ ∃ l, (lookD k0 q).getD (.lst []) = .lst l ∧ l.length < sizeLine ∧ De.nx (ρ.set i (.grp (insD k0 q (.lst (l ++ [y]))) k1))) ∨
     (s = 1 ∧ k1.length < sizeLine ∧ ∃ l, (lookD k1 q).getD (.lst []) = .lst l ∧ l.length < sizeLine ∧ De.nx (ρ.set i (.grp k0 (insD k1 q (.lst (l ++ [y])))))))
  | _, _, _, _ => False
theorem sem_grpPut {K : PySem.W.Frag} {i j o d : Nat} : SemS m R (tAsg (tLst (StX.tStar K (tGetX m (tOp (fun x y H Q => rIxT K x y H Q ∨ rIxL K x y H Q) (tVar i) (tVar j)) (tVar o) (tLst tNil)) (tCons (tVar d) tNil))) (gSub (tOp (fun x y H Q => rIxT K x y H Q ∨ rIxL K x y H Q) (tVar i) (tVar j)) (tVar o) (rSetX m))) (dGrpPut i j o d) := by
  intro S ρ σ G H De Dd st c h
  unfold dGrpPut at h
  split at h
  · rename_i k0 k1 s x y ei ej eo ed
    obtain ⟨q, hq, h⟩ := h
    have gi := st.at_ i _ ei
    obtain ⟨l, a0, a1, es0, es1, g1, g2, g3, g4, g5, g6, g7, g8, g9⟩ := gi
    obtain ⟨vj, sj, rj⟩ := st.at_ j _ ej
    obtain ⟨vo, so, ro⟩ := st.at_ o _ eo
    obtain ⟨vd, sd, rd⟩ := st.at_ d _ ed
    cases rj
    have nMl : ¬ R.M l := st.notM g5.1
    -- one of the two
    have main : ∀ (a : Addr) (es : List (Int × V × V)) (kvs : List (Ky × D)) (ls : List D), (L2.atI [V.ref a0, V.ref a1] s = some (.ref a)) → H a = some (.ext (DictIs a es)) → S.H a = none → G a = none → RepE m G es kvs → (kvs.map (·.1)).Nodup → kvs.length < sizeLine →
        (lookD kvs q).getD (.lst []) = .lst ls → ls.length < sizeLine → (∀ G' H' es', Ext R G H G' H' → H' a = some (.ext (DictIs a es)) → G' a = none → RepE m G' es' (insD kvs q (.lst (ls ++ [y]))) → Dd.nx σ (upd H' a (.ext (DictIs a es')))) →
        tAsg (tLst (StX.tStar K (tGetX m (tOp (fun x y H Q => rIxT K x y H Q ∨ rIxL K x y H Q) (tVar i) (tVar j)) (tVar o) (tLst tNil)) (tCons (tVar d) tNil))) (gSub (tOp (fun x y H Q => rIxT K x y H Q ∨ rIxL K x y H Q) (tVar i) (tVar j)) (tVar o) (rSetX m)) Dd σ H := by
      intro a es kvs ls ha hHa hSa hGa re nd hlen hlk hls fin
      have nMa : ¬ R.M a := st.notM hSa
      refine ⟨_, g1, _, sj, .inr ⟨l, [V.ref a0, V.ref a1], s, .ref a, rfl, rfl, SqL.of g2, ha, a, rfl, ⟨es, hHa⟩, vo, so, by decide +kernel, fun p hp => ?_⟩⟩
      have e1 := Ext.new (o := .lst []) st.gh hp
      have hH1 : (upd H p (.lst [])) a = some (.ext (DictIs a es)) := e1.hh _ _ hHa nMa
      refine ⟨upd G p (.lst []), es, kvs, q, .lst [], e1.gh.s, ⟨hH1, re.mono e1.gg, nd⟩, (ro.mono e1.gg).toK hq, Rep.newL (st.gh.s.free hp) .nil, fun v' rv => ?_⟩
      rw [hlk] at rv
      cases rv with
      | @lst b vs _ hb rs =>
        refine ⟨b, vs, rfl, .inr (SqL.of (e1.gh.s _ _ hb)), vd, sd, ?_⟩
        have hl2 : (vs ++ [vd]).length ≤ sizeLine := by
          rw [List.length_append, rs.length]
          simp only [List.length_cons, List.length_nil]
          omega
        refine ⟨hl2, fun p2 hp2 => ?_⟩
        have e2 := e1.trans (Ext.new (o := .lst (vs ++ [vd])) e1.gh hp2)
        have hG1 : (upd G p (.lst [])) a = none := ext_none st.gh e1 hHa hGa
        have hH2 := e2.hh _ _ hHa nMa
        have hG2 := ext_none st.gh e2 hHa hGa
        refine ⟨_, g1, _, sj, .inr ⟨l, [V.ref a0, V.ref a1], s, .ref a, rfl, rfl, SqL.of (e2.hh _ _ g2 nMl), ha, vo, so, ?_⟩⟩
        refine ⟨a, _, es, kvs, q, .lst (ls ++ [y]), rfl, e2.gh.s, ⟨hH2, re.mono e2.gg, nd⟩, hlen, (ro.mono e2.gg).toK hq, Rep.newL (e1.gh.s.free hp2) (rs.append (.cons (rd.mono e1.gg) .nil)), fun es' re' => ?_⟩
        exact fin _ _ es' e2 hH2 hG2 re'
    rcases h with ⟨rfl, hl, ls, e1, e2, hn⟩ | ⟨rfl, hl, ls, e1, e2, hn⟩
    · refine main a0 es0 k0 ls rfl g3 g5.2.1 g6.2.1 g8.1 g8.2 hl e1 e2 fun G' H' es' ex hH hG re => ?_
      have st1 := st.step ex
      have nM1 : ¬ R.M a1 := st.notM g5.2.2
      have hl1 : H' l = some (.lst [.ref a0, .ref a1]) := ex.hh _ _ g2 nMl
      have nl0 : l ≠ a0 := fun z => by
        rw [z, hH] at hl1
        cases hl1
      refine c.nx _ σ G' _ (st1.wr (s1 := .grp (insD k0 q (.lst (ls ++ [y]))) k1) ei ⟨l, a0, a1, g1, hl1, .inr (.inl rfl)⟩ ⟨l, a0, a1, es', es1, g1, by rw [upd_ne nl0]; exact hl1, upd_same, by rw [upd_ne (Ne.symm g7)]; exact ex.hh _ _ g4 nM1, g5, ⟨ext_none st.gh ex g2 g6.1, hG, ext_none st.gh ex g4 g6.2.2⟩, g7, ⟨re, insD_nodup g8.2⟩, ⟨g9.1.mono ex.gg, g9.2⟩⟩ fun b ob => ?_) hn
      obtain ⟨l', b0, b1, o1, o2, o3⟩ := ob
      rw [g1] at o1
      cases o1
      rw [upd_ne nl0] at o2
      exact ⟨l, b0, b1, g1, o2, o3⟩
    · refine main a1 es1 k1 ls rfl g4 g5.2.2 g6.2.2 g9.1 g9.2 hl e1 e2 fun G' H' es' ex hH hG re => ?_
      have st1 := st.step ex
      have nM0 : ¬ R.M a0 := st.notM g5.2.1
      have hl1 : H' l = some (.lst [.ref a0, .ref a1]) := ex.hh _ _ g2 nMl
      have nl1 : l ≠ a1 := fun z => by
        rw [z, hH] at hl1
        cases hl1
      refine c.nx _ σ G' _ (st1.wr (s1 := .grp k0 (insD k1 q (.lst (ls ++ [y])))) ei ⟨l, a0, a1, g1, hl1, .inr (.inr rfl)⟩ ⟨l, a0, a1, es0, es', g1, by rw [upd_ne nl1]; exact hl1, by rw [upd_ne g7]; exact ex.hh _ _ g3 nM0, upd_same, g5, ⟨ext_none st.gh ex g2 g6.1, ext_none st.gh ex g3 g6.2.1, hG⟩, g7, ⟨g8.1.mono ex.gg, g8.2⟩, ⟨re, insD_nodup g9.2⟩⟩ fun b ob => ?_) hn
      obtain ⟨l', b0, b1, o1, o2, o3⟩ := ob
      rw [g1] at o1
      cases o1
      rw [upd_ne nl1] at o2
      exact ⟨l, b0, b1, g1, o2, o3⟩
  · exact h.elim
theorem pds_grpPut (i j o d : Nat) {x1 x2 x3 x4 : Str} {p1 p2 p3 p4 p5 p6 p7 p8 p9 p10 p11 p12 p13 : Pos} (hh : HsOk m X.w) (hu : X.A.units + 9 < cLine)
    (h1 : PE X (.Name x1 p1) (tVar i)) (h2 : PE X (.Name x2 p2) (tVar j)) (h3 : PE X (.Name x3 p4) (tVar o)) (h1' : PE X (.Name x1 p6) (tVar i)) (h2' : PE X (.Name x2 p7) (tVar j)) (h3' : PE X (.Name x3 p10) (tVar o)) (h4 : PE X (.Name x4 p12) (tVar d))
    (base : attributeBase (.Subscript (.Name x1 p6) (.Name x2 p7) p8) "get" X.env (eval (.Subscript (.Name x1 p6) (.Name x2 p7) p8) X.env) = eval (.Subscript (.Name x1 p6) (.Name x2 p7) p8) X.env := by rfl)
    (few : ((backTo p11 (starEach [.Name x3 p10, .List [] p13] X.env)).all (fun x => !x.1) && (backToKw p11 (keywordEach [] X.env)).all (fun x => x.1.isSome) && decide (([.Name x3 p10, .List [] p13] : List Expr).length + ([] : List Keyword).length + (if ([] : List Keyword).isEmpty then 0 else 1) < 30)) = true := by rfl)
    (line : (p9.endLine == p11.line) = true := by rfl) (trees : backTo p11 (starEach [.Name x3 p10, .List [] p13] X.env) = [(false, eval (.Name x3 p10) X.env), (false, eval (.List [] p13) X.env)] := by rfl)
    {q1 q2 : Pos}
    (s1 : starEach [.Starred (.Call (.Attribute (.Subscript (.Name x1 p6) (.Name x2 p7) p8) "get" p9) [.Name x3 p10, .List [] p13] [] p11) q1, .Name x4 p12] X.env = (true, eval (.Call (.Attribute (.Subscript (.Name x1 p6) (.Name x2 p7) p8) "get" p9) [.Name x3 p10, .List [] p13] [] p11) X.env) :: starEach [.Name x4 p12] X.env := by rfl)
    (s2 : starEach [.Name x4 p12] X.env = (false, eval (.Name x4 p12) X.env) :: starEach [] X.env := by rfl)
    (ha : ∀ v, assign (.Subscript (.Subscript (.Name x1 p1) (.Name x2 p2) p3) (.Name x3 p4) p5) X.env v = (do
      let ov ← holding [v] (eval (.Subscript (.Name x1 p1) (.Name x2 p2) p3) X.env)
      let iv ← holding [v, ov] (eval (.Name x3 p4) X.env)
      standAt p5
      holding [v, ov, iv] (setItem ov iv v)
      release [v, ov, iv] []) := by intro _; rfl)
    (hs : swapsWithSole [.Subscript (.Subscript (.Name x1 p1) (.Name x2 p2) p3) (.Name x3 p4) p5] (.List [.Starred (.Call (.Attribute (.Subscript (.Name x1 p6) (.Name x2 p7) p8) "get" p9) [.Name x3 p10, .List [] p13] [] p11) q1, .Name x4 p12] q2) pos.line X.env = pure false := by rfl)
    (hw : swappedStores [.Subscript (.Subscript (.Name x1 p1) (.Name x2 p2) p3) (.Name x3 p4) p5] (.List [.Starred (.Call (.Attribute (.Subscript (.Name x1 p6) (.Name x2 p7) p8) "get" p9) [.Name x3 p10, .List [] p13] [] p11) q1, .Name x4 p12] q2) X.env = pure none := by rfl) :
    PDS m R X (.Assign [.Subscript (.Subscript (.Name x1 p1) (.Name x2 p2) p3) (.Name x3 p4) p5] (.List [.Starred (.Call (.Attribute (.Subscript (.Name x1 p6) (.Name x2 p7) p8) "get" p9) [.Name x3 p10, .List [] p13] [] p11) q1, .Name x4 p12] q2) pos)
      (tAsg (tLst (StX.tStar X.K (tGetX m (tOp (fun x y H Q => rIxT X.K x y H Q ∨ rIxL X.K x y H Q) (tVar i) (tVar j)) (tVar o) (tLst tNil)) (tCons (tVar d) tNil))) (gSub (tOp (fun x y H Q => rIxT X.K x y H Q ∨ rIxL X.K x y H Q) (tVar i) (tVar j)) (tVar o) (rSetX m))) (dGrpPut i j o d) := by
  have ix : ∀ {p}, PE X (.Subscript (.Name x1 p1) (.Name x2 p2) p) (tOp (fun x y H Q => rIxT X.K x y H Q ∨ rIxL X.K x y H Q) (tVar i) (tVar j)) := fun {p} => pe_ix (IxR.or ix_tup ix_list) h1 h2 (by exact fun _ _ => rfl)
  have ix' : ∀ {p}, PE X (.Subscript (.Name x1 p6) (.Name x2 p7) p) (tOp (fun x y H Q => rIxT X.K x y H Q ∨ rIxL X.K x y H Q) (tVar i) (tVar j)) := fun {p} => pe_ix (IxR.or ix_tup ix_list) h1' h2' (by exact fun _ _ => rfl)
  exact ⟨ps_asg (pe_lst (StX.pa_star (pe_getX hh hu ix' h3' (pe_lst pa_nil) base few line trees) (pa_cons h4 pa_nil s2) s1)) (pg_sub ix h3 (set_X hh hu) ha) hs hw, sem_grpPut⟩

/-- the two dicts become data -/
def dGrpFrz (i : Nat) (t : TdS) : TdS := fun De ρ => match ρ[i]? with
  | some (.grp k0 k1) => t De (ρ.set i (.val (.lst [.dct k0, .dct k1])))
  | _ => False
theorem StOk.freezeG {S : Start} {ρ : Rho} {σ : L2.St} {G H : Hp} {i : Nat} {k0 k1 : List (Ky × D)} (h : StOk m R S ρ σ G H) (hi : ρ[i]? = some (.grp k0 k1)) : ∃ G', Same G G' ∧ StOk m R S (ρ.set i (.val (.lst [.dct k0, .dct k1]))) σ G' H := by
  obtain ⟨l, a0, a1, es0, es1, g1, g2, g3, g4, g5, g6, g7, g8, g9⟩ := h.at_ i _ hi
  have nl0 : l ≠ a0 := fun z => by
    rw [z, g3] at g2
    cases g2
  have nl1 : l ≠ a1 := fun z => by
    rw [z, g4] at g2
    cases g2
  have m0 := h.notM g5.2.1
  have m1 := h.notM g5.2.2
  have ml := h.notM g5.1
  have s0 : Same G (upd G a0 (.ext (DictIs a0 es0))) := same_new g6.2.1
  have ga1 : (upd G a0 (.ext (DictIs a0 es0))) a1 = none := by rw [upd_ne (Ne.symm g7)]; exact g6.2.2
  have s1 : Same (upd G a0 (.ext (DictIs a0 es0))) (upd (upd G a0 (.ext (DictIs a0 es0))) a1 (.ext (DictIs a1 es1))) := same_new ga1
  have gl : (upd (upd G a0 (.ext (DictIs a0 es0))) a1 (.ext (DictIs a1 es1))) l = none := by rw [upd_ne nl1, upd_ne nl0]; exact g6.1
  have s2 : Same (upd (upd G a0 (.ext (DictIs a0 es0))) a1 (.ext (DictIs a1 es1))) (upd (upd (upd G a0 (.ext (DictIs a0 es0))) a1 (.ext (DictIs a1 es1))) l (.lst [.ref a0, .ref a1])) := same_new gl
  have sm := s0.trans (s1.trans s2)
  have gh1 := h.gh.adopt g6.2.1 g3 m0
  have gh2 := gh1.adopt ga1 g4 m1
  have gh3 := gh2.adopt gl g2 ml
  refine ⟨_, sm, h.s0, ⟨h.ext.gg.trans sm, gh3, h.ext.hh, fun b u e => ?_⟩, h.bs.trans sm, by rw [List.length_set]; exact h.len, fun j s hs' => ?_, fun j k s t a hs' ht o1 o2 => ?_⟩
  · by_cases z : b = l
    · subst z
      exact .inr g5.1
    · rw [upd_ne z] at e
      by_cases z1 : b = a1
      · subst z1
        exact .inr g5.2.2
      · rw [upd_ne z1] at e
        by_cases z0 : b = a0
        · subst z0
          exact .inr g5.2.1
        · rw [upd_ne z0] at e
          exact h.ext.fr b u e
  · rcases get_set hs' with ⟨rfl, rfl⟩ | ⟨ne, hs2⟩
    · refine ⟨.ref l, g1, .lst upd_same (.cons (.dct ?_ (g8.1.mono sm) g8.2) (.cons (.dct ?_ (g9.1.mono sm) g9.2) .nil))⟩
      · rw [upd_ne (Ne.symm nl0), upd_ne g7, upd_same]
      · rw [upd_ne (Ne.symm nl1), upd_same]
    · have no : ∀ a, Owns H s σ[j]? a → a ≠ l ∧ a ≠ a0 ∧ a ≠ a1 := fun a oa => by
        have nn : ∀ b, Owns H (.grp k0 k1) σ[i]? b → a ≠ b := fun b ob z => ne (h.dj j i s _ b hs2 hi (by rw [← z]; exact oa) ob)
        exact ⟨nn l ⟨l, a0, a1, g1, g2, .inl rfl⟩, nn a0 ⟨l, a0, a1, g1, g2, .inr (.inl rfl)⟩, nn a1 ⟨l, a0, a1, g1, g2, .inr (.inr rfl)⟩⟩
      refine ((h.at_ j s hs2).step sm fun a v oa hv => ⟨hv, ?_⟩).1
      obtain ⟨n1, n2, n3⟩ := no a oa
      rw [upd_ne n1, upd_ne n3, upd_ne n2]
      exact ((h.at_ j s hs2).owned oa).2.2
  · have back : ∀ (j : Nat) (s : Sl), (ρ.set i (.val (.lst [.dct k0, .dct k1])))[j]? = some s → Owns H s σ[j]? a → ∃ s', ρ[j]? = some s' ∧ Owns H s' σ[j]? a := fun j s hj ho => by
      rcases get_set hj with ⟨rfl, rfl⟩ | ⟨ne, hj2⟩
      · exact ho.elim
      · exact ⟨s, hj2, ho⟩
    obtain ⟨s', q1, q2⟩ := back j s hs' o1
    obtain ⟨t', q3, q4⟩ := back k t ht o2
    exact h.dj j k s' t' a q1 q3 q2 q4
theorem pdss_grpFrz (i : Nat) {rest : List Stmt} {t : TS} {dt : TdS} (h : PDSs m R X rest t dt) : PDSs m R X rest t (dGrpFrz i dt) := ⟨h.pe, fun S ρ σ G H De Dd st c hw => by
  unfold dGrpFrz at hw
  split at hw
  · rename_i k0 k1 e
    obtain ⟨G', sm, st'⟩ := st.freezeG e
    exact h.sem S _ σ G' H De Dd st' c hw
  · exact hw.elim⟩
end
end Dl
set_option Elab.async false
set_option linter.all false
set_option maxRecDepth 100000
set_option maxHeartbeats 2000000
/-! enumerate(a list or a tuple). -/
namespace Dl
open PySem PySem.Spec PyProof.Rows L2

set_option maxHeartbeats 4000000 in
theorem meets_enum1 {v : Value} {o : Obj} {H : Heap → Prop} (B : Begins v o H) :
    Meets (Builtin.«enumerate.__new__» ⟨[.type "enumerate", v], []⟩) (fun _ R s => H s.heap ∧
      R (.ok (.ret (.ref (s.heap.push o).objs.size))) { s with heap := (s.heap.push o).push { cls := .type "enumerate", data := .fields #[.none, .bool false, .ref s.heap.objs.size, rawInt 0, .none, .none] } }) :=
  .of_wp fun prog w A R s h => by
    obtain ⟨hp, g, d, tk, os⟩ := s
    obtain ⟨h1, h⟩ := h
    have hsub := sub_enumerate
    have q1 : ∀ {A' : Around} {E : Value → Shared → Prop} {Q : Value → Shared → Prop}, Q (.ref hp.objs.size) ⟨hp.push o, g, d, tk, os⟩ → wpAny (model prog w) A' (pyIter v) Q E ⟨hp, g, d, tk, os⟩ :=
      fun q => B.iter prog w _ _ ⟨hp, g, d, tk, os⟩ _ h1 q
    wp_walk using q1
    refine wpAny_stack_any fun st => wpAny_pure ?_
    split
    · rename_i c _ _ _ _ _
      cases (c == Value.type "enumerate")
      · wp_walk using q1
        exact ⟨_, rfl, h⟩
      · wp_walk using q1
        exact ⟨_, rfl, h⟩
    · wp_walk using q1
      exact ⟨_, rfl, h⟩
theorem enum_begins1 {prog : Program} {w : World} {A : Around} {E : Value → Shared → Prop} {s : Shared} {v : Value} {o : Obj} {H : Heap → Prop} {Q : Value → Shared → Prop} (B : Begins v o H) (h1 : H s.heap)
    (h : ∀ h', IsEnum h' (s.heap.objs.size + 1) s.heap.objs.size 0 .none → h'.get? s.heap.objs.size = some o → h'.objs.size = s.heap.objs.size + 2 →
      (∀ b o, s.heap.get? b = some o → h'.get? b = some o) → Q (.ref (s.heap.objs.size + 1)) { s with heap := h' }) :
    wpAny (model prog w) A (call (.type "enumerate") [v]) Q E s := by
  refine callType_new F.called_enumerate (by decide) (F.typeCall_enumerate_1 _) (F.newCall_enumerate_1 _) (fun obj => F.args_object_init_2 obj _) F.entry_enumerate_new
    (meets_enum1 B) ⟨h1, ?_⟩
  have hz : (s.heap.push o).objs.size = s.heap.objs.size + 1 := Heap.size_push ..
  show _ ∧ _
  rw [hz]
  have he : IsEnum ((s.heap.push o).push { cls := .type "enumerate", data := .fields #[.none, .bool false, .ref s.heap.objs.size, rawInt 0, .none, .none] }) (s.heap.objs.size + 1) s.heap.objs.size 0 .none := by
    have := Heap.get?_push_size (s.heap.push o) (o := { cls := .type "enumerate", data := .fields #[.none, .bool false, .ref s.heap.objs.size, rawInt 0, .none, .none] }) rfl
    rw [hz] at this; exact this
  refine ⟨⟨_, he, rfl⟩, h _ he (Heap.get?_push_of_some _ (Heap.get?_push_size _ B.free)) (by rw [Heap.size_push, hz]) fun b o x => Heap.get?_push_of_some _ (Heap.get?_push_of_some _ x)⟩

def Iue (K : PySem.W.Frag) (a : Addr) : It :=
  ⟨fun i H => ∃ (xs : List V) (x : V), SqT K H a xs ∧ xs[i]? = some x, fun i H v H' => ∃ T x, v = .ref T ∧ H T = none ∧ H' = upd H T (.tup [.int (i : Nat), x]) ∧ ∀ xs, SqT K H a xs → xs[i]? = some x, fun i H => ∃ xs : List V, SqT K H a xs ∧ xs.length ≤ i⟩
theorem turn_enumT {P : Program} {w : World} {K : PySem.W.Frag} {elts : List Expr} {kk : Nat} {tpos : Pos} (a e it : Addr) :
    Turn P w K (.Tuple elts kk tpos) (Iue K a) [e, it] e (fun i h => (∃ old, IsEnum h e it ((i : Nat) : Int) old) ∧ h.IsTupleIter it a i ∧ e ≠ it ∧ a ≠ it ∧ a ≠ e) where
  mem := by simp
  obj := fun i h st b hb => by
    obtain ⟨⟨old, he⟩, ⟨o, ho, hc, hd⟩, _⟩ := st
    have e' : b = e ∨ b = it := by simpa using hb
    rcases e' with z | z
    · rw [z]; exact ⟨_, he, fun v q => nomatch q⟩
    · rw [z]; exact ⟨o, ho, fun v q => by rw [hd] at q; cases q⟩
  keep := fun i h h' st k => let ⟨⟨old, he⟩, hi, hne⟩ := st; ⟨⟨old, k e (by simp) _ he⟩, hi.at fun o q => k it (by simp) o q, hne⟩
  item := by
    intro X hP hw hK hc i pins s σ H E I hf st hg
    subst hP hw hK
    obtain ⟨⟨old, he⟩, hit, hne, hai, hae⟩ := st
    obtain ⟨xs, x, hq, hx⟩ := hg
    obtain ⟨its, rv, p, hz⟩ := I.tuple hq
    obtain ⟨u, hu, ru⟩ := rv.get hx
    have p' : s.heap.IsTuple a its.toArray := p
    have hel : e < s.heap.objs.size := Heap.lt_size he
    have hil : it < s.heap.objs.size := by obtain ⟨_, q, _⟩ := hit; exact Heap.lt_size q
    have hlt : i < its.toArray.size := by
      have := (List.getElem?_eq_some_iff.mp hu).1
      simpa using this
    have DT : Draws X.prog X.w X.A.in1 it [it, a] its.toArray.size (fun i v => its.toArray[i]? = some v) (fun i h => h.IsTupleIter it a i ∧ h.IsTuple a its.toArray) := Draws.tuple (A := X.A.in1) (I.ok.hd hc) it a hai its.toArray
    refine wpAny_pyNext_enum_itemC DT he ⟨hit, p'⟩ hlt hne (by simp [hne, Ne.symm hae]) fun y h' tk hy ho hst' hT hsz hk => ?_
    have ey : y = u := by
      have : its[i]? = some y := by simpa using hy
      rw [hu] at this
      exact (Option.some.inj this).symm
    subst ey
    refine ⟨_, rfl, wpAny_letOwnedTupleGo_enum (s := { s with heap := h', toks := tk + 1 }) ho fun h'' he' sb => ?_⟩
    have hT2 : h''.get? s.heap.objs.size = some { cls := .type "tuple", data := .seq #[.int i tk, y] } := (sb.2 _ (Nat.ne_of_gt hel)).trans hT
    have new : ObjOk X.prog X.w (upd H s.heap.objs.size (.tup [.int (i : Nat), x])) h'' s.heap.objs.size (.tup [.int (i : Nat), x]) :=
      ⟨by show 2 ≤ sizeLine; decide +kernel, [.int i tk, y], .cons ⟨_, rfl⟩ (.cons ru .nil), ⟨_, hT2, rfl, _, rfl⟩⟩
    have I1 : Inv X pins σ (upd H s.heap.objs.size (.tup [.int (i : Nat), x])) { s with heap := h'', toks := tk + 1 } :=
      I.turnedNew (ch := [e, it]) (fun b ob hb q => (sb.2 b (fun z => hb (by simp [z]))).trans (hk b ob (fun z => hb (by simp [z])) (fun z => hb (by simp [z])) q)) hf (Nat.le_refl _) new
    refine ⟨.ref s.heap.objs.size, _, I1, rfl, ⟨_, x, rfl, I.hok.fresh (Nat.le_refl _), rfl, fun ys hy => by rw [I.tuple_inj hy hq]; exact hx⟩, ⟨⟨y, ?_⟩, hst'.1.at fun o q => (sb.2 it (Ne.symm hne)).trans q, hne, hai, hae⟩, fun b hb => ?_⟩
    · have e1 : ((i + 1 : Nat) : Int) = (i : Int) + 1 := by omega
      rw [e1]; exact he'
    · have hb' : b < s.heap.objs.size := by
        have e' : b = e ∨ b = it := by simpa using hb
        rcases e' with z | z
        · rw [z]; exact hel
        · rw [z]; exact hil
      rw [upd_ne (Nat.ne_of_lt hb')]
      exact (hf b hb).1
  done := by
    intro X hP hw hK hc i pins s σ H E I hf st hg
    subst hP hw hK
    obtain ⟨⟨old, he⟩, hit, hne, hai, hae⟩ := st
    obtain ⟨xs, hq, hx⟩ := hg
    obtain ⟨its, rv, p, hz⟩ := I.tuple hq
    obtain ⟨f0, f1, f2, f3, f4, f5⟩ := hf it (by simp)
    have hl := rv.length
    have hT : s.TypeIs (.ref e) "enumerate" := ⟨_, he, rfl⟩
    unfold pyNext
    refine wpAny_bind (wpAny_attempt (wpAny_callSpecial?_slot (name := Str.ofString "__next__") hT F.slot_enumerate_next
      (wpAny_call_entry F.slot_enumerate_next hT F.entry_enumerate_next ?_ (F.args_enumerate_next_1 _))))
    show wpAny _ _ (field (.ref e) 2 >>= _) _ _ _
    refine wpAny_bind (wpAny_field he rfl (x := .ref it) rfl ?_)
    refine wpAny_bind (wpAny_nextOf_tuple_end (I.ok.hd hc) hit (show s.heap.IsTuple a its.toArray from p) (by simp; omega) fun h' x he' hx' => ?_)
    obtain ⟨o, ho, hc'⟩ := hx'
    refine wpAny_bind (wpAny_isInstance (T := "StopIteration") (b := true) ⟨o, ho, hc'⟩ isSubtype_stop ?_)
    exact wpAny_pure ⟨rfl, I.turned (t' := s.toks) (fun b o hb q => he' b o hb q) f0 f1 f3 f4 f5⟩
  self := fun A i s Q E st h => let ⟨⟨_, he⟩, _⟩ := st; wpAny_pyIter_enum he h

def iEnumX (K : PySem.W.Frag) (ta : TA) : TI := fun σ H R => ta σ H fun vs H1 => (∃ a xs, vs = [.ref a] ∧ SqL K H1 a xs ∧ R (Ite K a) H1) ∨ ∃ a xs, vs = [.ref a] ∧ SqT K H1 a xs ∧ R (Iue K a) H1
theorem pi_enumX {X : Cx} {e : Expr} {ta : TA} {p pos tpos : Pos} {elts : List Expr} {kk : Nat} (hg : Gl X "enumerate") (hm : X.mg "enumerate" = none) (ha : PA X [e] ta) (hs : starEach [e] X.env = [(false, eval e X.env)] := by rfl) :
    PI X (.Tuple elts kk tpos) (.Call (.Name "enumerate" p) [e] [] pos) (iEnumX X.K ta) := by
  refine ⟨fun pins s σ H R I h => ?_⟩
  refine Call_ (ld_blt I hg hm boot_enumerate (PyProof.Rows.callWith_type1 (thn (ha.run pos pins s σ H _ I h) fun us s1 ⟨vs, H1, I1, r1, q1⟩ => ?_) hs rfl))
  have fp : ∀ b ∈ [s1.heap.objs.size + 1, s1.heap.objs.size], FpOk X pins H1 b := fun b hb => by
    have e' : b = s1.heap.objs.size + 1 ∨ b = s1.heap.objs.size := by simpa using hb
    have hle : s1.heap.objs.size ≤ b := by
      rcases e' with z | z
      · rw [z]; exact Nat.le_add_right _ _
      · rw [z]; exact Nat.le_refl _
    exact I1.fpOk hle (I1.hok.fresh hle)
  rcases q1 with ⟨a, xs, ex, hq, q⟩ | ⟨a, xs, ex, hq, q⟩
  · subst ex
    cases r1 with
    | cons r rr =>
      cases rr
      cases r
      obtain ⟨its, rv, p', hz⟩ := I1.list hq
      refine call_enumerate_list p'.isList fun h' he hit hsz hk => wpAny_pyIter_enum he ?_
      have I2 : Inv X pins σ H1 { s1 with heap := h' } := I1.kept (t' := s1.toks) hk
      exact ⟨s1.heap.objs.size + 1, [s1.heap.objs.size + 1, s1.heap.objs.size], _, _, H1, rfl, I2, turn_enum a (s1.heap.objs.size + 1) s1.heap.objs.size, ⟨⟨.none, he⟩, hit, Nat.succ_ne_self _⟩, fp, q⟩
  · subst ex
    cases r1 with
    | cons r rr =>
      cases rr
      cases r
      obtain ⟨its, rv, p', hz⟩ := I1.tuple hq
      have pt : s1.heap.IsTuple a its.toArray := p'
      have hal : a < s1.heap.objs.size := by obtain ⟨_, q, _⟩ := pt; exact Heap.lt_size q
      refine enum_begins1 (begins_tuple a its.toArray) pt fun h' he hit hsz hk => wpAny_pyIter_enum he ?_
      have I2 : Inv X pins σ H1 { s1 with heap := h' } := I1.kept (t' := s1.toks) hk
      exact ⟨s1.heap.objs.size + 1, [s1.heap.objs.size + 1, s1.heap.objs.size], _, _, H1, rfl, I2, turn_enumT a (s1.heap.objs.size + 1) s1.heap.objs.size, ⟨⟨.none, he⟩, ⟨_, hit, rfl, rfl⟩, Nat.succ_ne_self _, Nat.ne_of_lt hal, Nat.ne_of_lt (Nat.lt_succ_of_lt hal)⟩, fp, q⟩
section
variable {m : Pm} {R : Res} {X : Cx} {e tg : Expr} {te : TE} {de : TdE} {ta : TA} {da : TdA} {p pos : Pos}
def enumD (ds : List D) : List D := ds.zipIdx.map fun x => .tup [.int (x.2 : Int), x.1]
theorem enumD_get {ds : List D} {i : Nat} {d : D} (h : ds[i]? = some d) : (enumD ds)[i]? = some (.tup [.int (i : Int), d]) := by
  simp [enumD, List.getElem?_zipIdx, h]
theorem enumD_len (ds : List D) : (enumD ds).length = ds.length := by simp [enumD]
theorem walkD_enumL {K : PySem.W.Frag} {a : Addr} {vs : List V} {ds : List D} {G : Hp} (h : G a = some (.lst vs)) (r : Reps m G vs ds) : WalkD m R (Ite K a) (enumD ds) G := by
  refine ⟨fun i G2 H2 hi sm gh => ?_, fun G2 H2 sm gh => ?_, fun i G2 H2 x H3 hi sm gh y => ?_⟩
  · rw [enumD_len, ← r.length] at hi
    exact ⟨vs, vs[i], SqL.of (gh.s _ _ (sm _ _ h)), List.getElem?_eq_getElem hi⟩
  · exact ⟨vs, SqL.of (gh.s _ _ (sm _ _ h)), by rw [enumD_len, r.length]; exact Nat.le_refl _⟩
  · obtain ⟨T, v, rfl, hT, rfl, hv⟩ := y
    obtain ⟨d, h1, h2⟩ := r.getV (hv vs (SqL.of (gh.s _ _ (sm _ _ h))))
    exact ⟨_, _, enumD_get h1, Ext.new gh hT, Rep.newT (gh.s.free hT) (.cons (.int _) (.cons (h2.mono sm) .nil))⟩
theorem walkD_enumT {K : PySem.W.Frag} {a : Addr} {vs : List V} {ds : List D} {G : Hp} (h : G a = some (.tup vs)) (r : Reps m G vs ds) : WalkD m R (Iue K a) (enumD ds) G := by
  refine ⟨fun i G2 H2 hi sm gh => ?_, fun G2 H2 sm gh => ?_, fun i G2 H2 x H3 hi sm gh y => ?_⟩
  · rw [enumD_len, ← r.length] at hi
    exact ⟨vs, vs[i], SqT.of (gh.s _ _ (sm _ _ h)), List.getElem?_eq_getElem hi⟩
  · exact ⟨vs, SqT.of (gh.s _ _ (sm _ _ h)), by rw [enumD_len, r.length]; exact Nat.le_refl _⟩
  · obtain ⟨T, v, rfl, hT, rfl, hv⟩ := y
    obtain ⟨d, h1, h2⟩ := r.getV (hv vs (SqT.of (gh.s _ _ (sm _ _ h))))
    exact ⟨_, _, enumD_get h1, Ext.new gh hT, Rep.newT (gh.s.free hT) (.cons (.int _) (.cons (h2.mono sm) .nil))⟩
def dEnum (da : TdA) : TdI := fun ρ k => da ρ fun ds => match ds with
  | [.lst l] => k (enumD l)
  | [.tup l] => k (enumD l)
  | _ => False
theorem pdi_enum {elts : List Expr} {kk : Nat} {tpos : Pos} (hg : Gl X "enumerate") (hm : X.mg "enumerate" = none) (ha : PDA m R X [e] ta da) (hs : starEach [e] X.env = [(false, eval e X.env)] := by rfl) :
    PDI m R X (.Tuple elts kk tpos) (.Call (.Name "enumerate" p) [e] [] pos) (iEnumX X.K ta) (dEnum da) := by
  refine ⟨pi_enumX hg hm ha.pe hs, fun ρ σ G H k RR hv gh h q => ?_⟩
  refine ha.sem ρ σ G H _ _ hv gh h fun vs ds G1 H1 e1 r1 h1 => ?_
  split at h1
  · rename_i l
    cases r1 with
    | cons a r => cases r with
      | nil => cases a with
        | @lst a ws _ hx rs => exact .inl ⟨a, ws, rfl, SqL.of (e1.gh.s _ _ hx), q _ _ G1 H1 e1 (walkD_enumL hx rs) h1⟩
  · rename_i l
    cases r1 with
    | cons a r => cases r with
      | nil => cases a with
        | @tup a ws _ hx rs => exact .inr ⟨a, ws, rfl, SqT.of (e1.gh.s _ _ hx), q _ _ G1 H1 e1 (walkD_enumT hx rs) h1⟩
  · exact h1.elim
end
end Dl
set_option Elab.async false
set_option linter.all false
set_option maxRecDepth 100000
set_option maxHeartbeats 2000000
/-! sorted(a list of data of the same form). -/
namespace Dl
open PySem PySem.Spec PyProof.Rows PySem.W L2

section
variable {m : Pm} {R : Res} {X : Cx}
mutual
theorem Rep.reads {P : Program} {w : World} {G H : Hp} {h : Heap} (ok : HOk P w H h) (e : Same G H) : ∀ (n : Nat) {v : V} {d : D} {u : Value}, d.nob n = true → Rep m G v d → RelV v u → ∃ as, Reads h u d.toP as
  | _, _, _, _, _, .non, r => by
    cases r
    exact ⟨_, .none⟩
  | _, _, _, _, _, .int i, r => by
    obtain ⟨t, rfl⟩ := r
    exact ⟨_, .int _ _⟩
  | _, _, _, _, _, .str s, r => by
    obtain ⟨t, rfl⟩ := r
    exact ⟨_, .str _ _⟩
  | n + 1, _, _, _, hd, .tup hx rs, r => by
    rename_i ds a vs
    cases r
    obtain ⟨_, its, rv, o, h1, h2, k, h3⟩ := (show ObjOk P w H h a (.tup vs) from ok a _ (e _ _ hx))
    obtain ⟨as, ra⟩ := Reps.reads ok e n (by simpa [D.nob] using hd) rs rv
    exact ⟨_, .tuple h1 h2 h3 (by simpa using ra)⟩
  | n + 1, _, _, _, hd, .lst hx rs, r => by
    rename_i ds a vs
    cases r
    obtain ⟨_, its, k, rv, h1⟩ := (show ObjOk P w H h a (.lst vs) from ok a _ (e _ _ hx))
    obtain ⟨as, ra⟩ := Reps.reads ok e n (by simpa [D.nob] using hd) rs rv
    exact ⟨_, .list h1 rfl rfl (by simpa using ra)⟩
  | 0, _, _, _, hd, .tup h r, _ => by simp [D.nob] at hd
  | 0, _, _, _, hd, .lst h r, _ => by simp [D.nob] at hd
  | _, _, _, _, hd, .bl _, _ => by simp [D.nob] at hd
  | _, _, _, _, hd, .ins _ _ _, _ => by simp [D.nob] at hd
  | _, _, _, _, hd, .dct _ _ _, _ => by simp [D.nob] at hd
  | _, _, _, _, hd, .raw _, _ => by simp [D.nob] at hd
theorem Reps.reads {P : Program} {w : World} {G H : Hp} {h : Heap} (ok : HOk P w H h) (e : Same G H) : ∀ (n : Nat) {vs : List V} {ds : List D} {us : List Value}, D.nobs ds n = true → Reps m G vs ds → Vals vs us → ∃ as, ReadsAll h us (D.toPs ds) as
  | _, _, _, _, _, .nil, .nil => ⟨_, .nil⟩
  | n, _, _, _, hd, .cons a r, .cons b t => by
    simp only [D.nobs, Bool.and_eq_true] at hd
    obtain ⟨as, h1⟩ := Rep.reads ok e n hd.1 a b
    obtain ⟨bs, h2⟩ := Reps.reads ok e n hd.2 r t
    exact ⟨_, .cons h1 h2⟩
end
theorem each_rep {G : Hp} : ∀ {vs : List V} {us : List Value} {ds : List D}, Reps m G vs ds → Vals vs us → EachIs (fun u d => ∃ v, RelV v u ∧ Rep m G v d) us ds
  | _, _, _, .nil, .nil => .nil
  | _, _, _, .cons a r, .cons b t => .cons ⟨_, b, a⟩ (each_rep r t)
theorem rep_each {G : Hp} : ∀ {us : List Value} {ds : List D}, EachIs (fun u d => ∃ v, RelV v u ∧ Rep m G v d) us ds → ∃ vs, Reps m G vs ds ∧ Vals vs us
  | _, _, .nil => ⟨[], .nil, .nil⟩
  | _, _, .cons ⟨v, b, a⟩ t => by
    obtain ⟨vs, h1, h2⟩ := rep_each t
    exact ⟨v :: vs, .cons a h1, .cons b h2⟩
theorem each_reads {P : Program} {w : World} {G H : Hp} {h : Heap} (ok : HOk P w H h) (e : Same G H) (n : Nat) : ∀ {vs : List V} {us : List Value} {ds : List D}, D.nobs ds n = true → Reps m G vs ds → Vals vs us → EachIs (fun u d => ∃ as, Reads h u (D.toP d) as) us ds
  | _, _, _, _, .nil, .nil => .nil
  | _, _, _, hd, .cons a r, .cons b t => by
    simp only [D.nobs, Bool.and_eq_true] at hd
    exact .cons (Rep.reads ok e n hd.1 a b) (each_reads ok e n hd.2 r t)
theorem nobs_mem {n : Nat} : ∀ {ds : List D}, D.nobs ds n = true → ∀ d ∈ ds, d.nob n = true
  | a :: as, h, d, hd => by
    simp only [D.nobs, Bool.and_eq_true] at h
    rcases List.mem_cons.mp hd with rfl | hd
    · exact h.1
    · exact nobs_mem h.2 d hd
def rSortX (m : Pm) : List V → Hp → VK → Prop := fun vs H Q => ∃ (a : Addr) (xs : List V) (ds : List D) (G : Hp), vs = [V.ref a] ∧ Same G H ∧ G a = some (.lst xs) ∧ Reps m G xs ds ∧ D.nobs ds 4 = true ∧ PySem.W.AllAlike (ds.map D.toP) ∧ PySem.W.Sortable (ds.map D.toP) ∧
  ∀ ys p, Reps m G ys (ds.mergeSort (PySem.W.dataLe false D.toP)) → H p = none → Q (.ref p) (upd H p (.lst ys))
theorem cr_sortX (hu : X.A.units + 64 < cLine) : CallR X (.builtin "sorted") (rSortX m) := by
  intro pins s σ H vs us Q I r h
  obtain ⟨a, xs, ds, G, rfl, sm, ha, rs, nb, al, so, q⟩ := h
  rw [Vals.ref1 r]
  obtain ⟨its, rv, pl, hz⟩ := I.list (SqL.of (K := X.K) (sm _ _ ha))
  refine PySem.W.sorted_data (β := D) (enc := D.toP) (bs := ds) (R := fun u d => ∃ v, RelV v u ∧ Rep m G v d) pl.isList (each_rep rs rv) (each_reads I.hok sm 4 nb rs rv) al so (by rw [← rs.length]; exact hz) (fun b hb => ?_) fun out ho eo => ?_
  · have := (nob_lay 4 b (nobs_mem nb b hb)).2
    omega
  · obtain ⟨ys, h1, h2⟩ := rep_each eo
    obtain ⟨ep, he'⟩ := PyProof.Rows.sortedAll_at s.heap its out.toArray
    have hlen : ys.length ≤ sizeLine := by
      rw [h1.length, List.length_mergeSort, ← rs.length]
      exact hz
    exact ⟨.ref _, upd H (s.heap.objs.size + 1) (.lst ys), I.laid (t' := s.toks) (fun _ _ => PyProof.Rows.sortedAll_old) (Nat.le_succ _) ⟨hlen, out, ep, h2, he'⟩, rfl, q _ _ h1 (I.hok.fresh (Nat.le_succ _))⟩
/-- the order of data -/
def leD : D → D → Bool := PySem.W.dataLe false D.toP
def fSorted (ds : List D) (k : D → Prop) : Prop := match ds with
  | [.lst l] => D.nobs l 4 = true ∧ PySem.W.AllAlike (l.map D.toP) ∧ PySem.W.Sortable (l.map D.toP) ∧ k (.lst (l.mergeSort leD))
  | _ => False
theorem cd_sorted (hu : X.A.units + 64 < cLine) : ClD m R X (.builtin "sorted") (rSortX m) fSorted := by
  refine ⟨cr_sortX hu, fun vs ds G H k Q gh r h q => ?_⟩
  unfold fSorted at h
  split at h
  · rename_i l
    cases r with
    | cons a r => cases r with
      | nil => cases a with
        | @lst a xs _ hx rs =>
          refine ⟨a, xs, l, G, rfl, gh.s, hx, rs, h.1, h.2.1, h.2.2.1, fun ys p ry hp => ?_⟩
          exact q _ _ _ _ (Ext.new gh hp) (Rep.newL (gh.s.free hp) ry) h.2.2.2
  · exact h.elim
end
end Dl
set_option Elab.async false
set_option linter.all false
set_option maxRecDepth 100000
set_option maxHeartbeats 2000000
/-! set(a list of ints), what sorted() and len() say of it. -/
namespace Dl
open PySem PySem.Spec PyProof.Rows L2
section
variable {P : Program} {w : World} {A : Around} {E : Value → Shared → Prop} {s : Shared}
set_option maxRecDepth 100000 in
set_option maxHeartbeats 3200000 in
theorem call_set_listI {l : Addr} {items : Array Value} (ns : List Int) {Q : Value → Shared → Prop} (hh : A.handled = none) (hl : s.heap.IsList l items) (hit : IntsAre items.toList ns) (hb : ns.length + 1 < scanBound)
    (h : ∀ (h' : Heap) (tk c : Nat), SetR w h' s.heap.objs.size (fun j => decide (j ∈ ns)) c → c ≤ ns.length → (∀ b o, s.heap.get? b = some o → h'.get? b = some o) → Q (.ref s.heap.objs.size) { s with heap := h', toks := tk }) :
    wpAny (model P w) A (call (.type "set") [.ref l]) Q E s := by
  have hisz : items.size = ns.length := by
    have q := IntsAre.length hit
    rw [Array.length_toList] at q
    exact q
  obtain ⟨c, tl, hmro⟩ := F.called_set.mro
  have hmade := F.called_set.made
  have hsub := F.called_set.sub
  refine wpAny_call (codeAny_of_tree ?_)
  show wpAny _ _ (callAny (.type "set") _) _ _ _
  refine wpAny_pure ⟨Code.quiet_builtin _ (by decide +kernel), codeAny_builtin F.entry_type_call ?_⟩
  rw [Around.under_plain (weight_type_call_type "set" [.ref l] []) rfl]
  have h1 := F.called_set.notType
  have h2 := F.called_set.canCreate
  have hct := F.typeCall_set_1 (.ref l)
  repeat (any_goals (first | assumption | wp_step))

  refine codeAny_mono (code_set_led1 (.ref l) (E := E) (Q₁ := fun obj s₁ => obj = .ref s.heap.objs.size ∧ s₁ = { s with heap := s.heap.push { cls := .type "set", dict := none, data := .set #[] 0 (.fresh 0 0 (!w.params.followText "set-order")) } }) ⟨rfl, rfl⟩) fun r s₁ hr => ?_
  cases r with
  | error e => exact hr
  | ok fl =>
    cases fl with
    | ret obj =>
      obtain ⟨rfl, rfl⟩ := hr
      have hS : (s.heap.push { cls := .type "set", dict := none, data := .set #[] 0 (.fresh 0 0 (!w.params.followText "set-order")) }).get? s.heap.objs.size = some { cls := .type "set", dict := none, data := .set #[] 0 (.fresh 0 0 (!w.params.followText "set-order")) } := Heap.get?_push_size _ rfl
      have hT : Shared.TypeIs { s with heap := s.heap.push { cls := .type "set", dict := none, data := .set #[] 0 (.fresh 0 0 (!w.params.followText "set-order")) } } (.ref s.heap.objs.size) "set" := ⟨_, hS, rfl⟩
      have hli := F.called_set.init.lookup
      have hbi := F.called_set.init.bind (.ref s.heap.objs.size)
      repeat (any_goals (first | assumption | wp_step))

      refine codeAny_mono (codeAny_call_builtin (R := wants (fun r s₂ => r = .none ∧ ∃ h' tk c, s₂ = { s with heap := h', toks := tk } ∧ SetR w h' s.heap.objs.size (fun j => decide (j ∈ ns)) c ∧ c ≤ ns.length ∧
          (∀ b o, s.heap.get? b = some o → h'.get? b = some o)) E) F.called_set.init.plain F.entry_set_init (check_set_init_1 hT ?_)) fun r₂ s₂ hr₂ => ?_
      · obtain ⟨ol, hol, hcl, nl, hdl⟩ := hl
        obtain ⟨ocls, odict, odata, oslots⟩ := ol
        simp only at hcl hdl
        subst hcl; subst hdl
        have hol' : (s.heap.push { cls := .type "set", dict := none, data := .set #[] 0 (.fresh 0 0 (!w.params.followText "set-order")) }).get? l = some { cls := .type "list", dict := odict, data := .seq items nl, slots := oslots } := Heap.get?_push_of_some _ hol
        have hsls := F.sub_list_set
        have hslf := F.sub_list_frozenset
        have hne : (Value.type "list" == Value.type "dict") = false := by decide
        have hl1 : (s.heap.push { cls := .type "set", dict := none, data := .set #[] 0 (.fresh 0 0 (!w.params.followText "set-order")) }).IsList l items := ⟨_, hol', rfl, nl, rfl⟩
        unfold Builtin.«set.__init__» noKeywords Builtin.Frozenset.updateFrom
        generalize hPI : pyIter = PI
        wp_walk
        subst hPI

        refine wpAny_pyIter_list hl1 ?_
        refine wpAny_bind (wpAny_runValue ?_)
        have hlS : l < s.heap.objs.size := Heap.lt_size hol
        have hh3 : A.in1.in1.in1.handled = none := by simp [hh]
        have hz1 : (s.heap.push { cls := .type "set", dict := none, data := .set #[] 0 (.fresh 0 0 (!w.params.followText "set-order")) }).objs.size = s.heap.objs.size + 1 := Heap.size_push ..
        have hneI : l ≠ (s.heap.push { cls := .type "set", dict := none, data := .set #[] 0 (.fresh 0 0 (!w.params.followText "set-order")) }).objs.size := by
          rw [Heap.size_push]; exact Nat.ne_of_lt (Nat.lt_succ_of_lt hlS)
        have hSf : s.heap.objs.size ∉ [(s.heap.push { cls := .type "set", dict := none, data := .set #[] 0 (.fresh 0 0 (!w.params.followText "set-order")) }).objs.size, l] := by
          rw [Heap.size_push]; simp only [List.mem_cons, List.mem_singleton, List.not_mem_nil, or_false, not_or]
          exact ⟨Nat.ne_of_lt (Nat.lt_succ_self _), Nat.ne_of_gt hlS⟩
        have hval : ∀ (i : Nat) (v : Value), items[i]? = some v → ∃ k t, ns[i]? = some k ∧ v = .int k t := fun i v hv => by
          have hi : i < ns.length := by rw [← hisz]; exact (Array.getElem?_eq_some_iff.mp hv).1
          obtain ⟨t, e⟩ := PyProof.Rows.IntsAre.int_at hit i v (by rw [Array.getElem?_toList]; exact hv)
          refine ⟨ns[i], t, List.getElem?_eq_getElem hi, ?_⟩
          rw [e, List.getD_eq_getElem?_getD, List.getElem?_eq_getElem hi] <;> rfl
        refine set_update_ints ((Walks.list hh3 _ l hneI items).toS) s.heap.objs.size
          hSf ns hisz hb hval (items.size - 0) 0 _ (by omega) (Nat.zero_le _)
          ⟨⟨_, Heap.get?_push_size _ rfl, rfl, rfl⟩, (hl1.push _)⟩ ?hS0 ?hR
        case hS0 =>
          have hget : ((s.heap.push { cls := .type "set", dict := none, data := .set #[] 0 (.fresh 0 0 (!w.params.followText "set-order")) }).push { cls := .type "list_iterator", data := .fields #[.ref l, .int 0 0] }).get? s.heap.objs.size
              = some { cls := .type "set", dict := none, data := .set #[] 0 (.fresh 0 0 (!w.params.followText "set-order")) } := Heap.get?_push_of_some _ hS
          exact ⟨0, Nat.le_refl 0, setR_new_at hget⟩
        case hR =>
          intro s' c' hm hc' hS'
          obtain ⟨h', g2, d', tk', os'⟩ := s'
          have eg : g2 = s.gens := hm.gens
          have ed : d' = s.drawn := hm.drawn
          have eo : os' = s.os := hm.os
          subst eg; subst ed; subst eo
          show wpAny _ _ _ _ _ _
          refine wpAny_pure ?_
          show wpAny _ _ (ret Value.none) _ _ _
          rw [hisz] at hc'
          refine wpAny_pure ⟨rfl, h', tk', c', rfl, hS', hc', fun b o e => ?_⟩
          have hb0 : b < s.heap.objs.size := Heap.lt_size e
          have hb1 : b ≠ s.heap.objs.size := Nat.ne_of_lt hb0
          have hb2 : b ≠ (s.heap.push { cls := .type "set", dict := none, data := .set #[] 0 (.fresh 0 0 (!w.params.followText "set-order")) }).objs.size := by
            rw [Heap.size_push]; exact Nat.ne_of_lt (Nat.lt_succ_of_lt hb0)
          exact hm.heap b o (by simp only [List.mem_cons, List.mem_singleton, List.not_mem_nil, or_false, not_or]; exact ⟨hb1, hb2⟩) (Heap.get?_push_of_some _ (Heap.get?_push_of_some _ e))

      · cases r₂ with
        | error e => exact hr₂
        | ok fl₂ =>
          cases fl₂ with
          | ret r =>
            obtain ⟨rfl, h', tk, c', rfl, hS', hc', hk'⟩ := hr₂
            repeat (any_goals (first | assumption | wp_step))
            exact h _ _ _ hS' hc' hk'
          | _ => exact hr₂.elim
    | _ => exact hr.elim

end
end Dl
set_option Elab.async false
set_option linter.all false
set_option maxRecDepth 100000
set_option maxHeartbeats 2000000
namespace Dl
open PySem PySem.Spec PyProof.Rows L2
section
variable {m : Pm} {R : Res} {X : Cx} {a : Expr} {ta : TE} {da : TdE} {p p2 q pos : Pos}
def tSortSet (K : PySem.W.Frag) (ta : TE) : TE := fun σ H Q => ta σ H fun x H1 => ∃ (l : Addr) (ns : List Int), x = V.ref l ∧ SqL K H1 l (ns.map V.int) ∧ ns.length < 60 ∧
  ∀ (ns' : List Int), ns'.Pairwise (· < ·) → (∀ k : Int, k ∈ ns' ↔ k ∈ ns) → ∀ p, H1 p = none → Q (.ref p) (upd H1 p (.lst (ns'.map V.int)))
theorem pe_sortSet (hc : X.calm = true) (hg : Gl X "sorted") (hm : X.mg "sorted" = none) (hg2 : Gl X "set") (hm2 : X.mg "set" = none) (ha : PE X a ta)
    (na : starEach [a] X.env = (false, eval a X.env) :: starEach [] X.env := by rfl) : PE X (.Call (.Name "sorted" p) [.Call (.Name "set" p2) [a] [] q] [] pos) (tSortSet X.K ta) := by
  refine ⟨fun pins s σ H Q I h => ?_⟩
  refine Call_ (ld_blt I hg hm (by rfl) ?_)
  refine PyProof.Rows.callWith_builtin1 (PyProof.Rows.args_cons ?_ rfl) rfl rfl
  refine Call_ (ld_blt I hg2 hm2 PyProof.Rows.boot_set ?_)
  refine PyProof.Rows.callWith_type1 (PyProof.Rows.args_cons (thn (ha.run pins s σ H _ I h) fun v s1 ⟨x, H1, I1, r1, q1⟩ => PyProof.Rows.args_nil ?_) na) na rfl
  obtain ⟨l, ns, rfl, hq, h1, q1⟩ := q1
  cases r1
  obtain ⟨its, r, pl, hz⟩ := I1.list hq
  refine call_set_listI ns (I1.ok.hd hc) pl.isList (by simpa using r.ints) (by unfold scanBound; omega) fun h' tk c hS hcl hk => ?_
  refine PyProof.Rows.args_nil ?_
  have I2 : Inv X pins σ H1 { s1 with heap := h', toks := tk } := I1.kept fun b o e => hk b o e
  generalize hs2 : ({ s1 with heap := h', toks := tk } : Shared) = s2 at I2
  have hS2 : SetR X.w s2.heap s1.heap.objs.size (fun j => decide (j ∈ ns)) c := by rw [← hs2]; exact hS
  refine sorted_set (s := s2) hS2 (I1.ok.hd hc) (by omega) fun s' p out c2 ns2 k g o hp hg hi hs hm hl => ?_
  have hlen : (ns2.map V.int).length ≤ sizeLine := by rw [List.length_map, hl, sizeLine_eq]; omega
  have hn : H1 p = none := I2.hok.fresh hp
  have J : Inv X pins σ (upd H1 p (.lst (ns2.map V.int))) { s2 with heap := s'.heap, gens := s'.gens, drawn := s'.drawn, toks := s'.toks } :=
    I2.call (ch := []) (Un.laid k hp hn) (I2.hok.laid k hp ⟨hlen, out.toList, c2, vals_of_ints hi, hg⟩) (by rw [g]; exact I2.bare) (fun _ z => nomatch z)
  have e : s' = { s2 with heap := s'.heap, gens := s'.gens, drawn := s'.drawn, toks := s'.toks } := by
    cases s'
    cases s2
    cases o
    rfl
  rw [e]
  exact ⟨.ref p, _, J, rfl, q1 ns2 hs (fun k => by rw [hm k]; simp) p hn⟩
def dSortSet (da : TdE) : TdE := fun ρ k => da ρ fun d => match d with
  | .lst l => (match D.ints l with
    | some ns => ns.length < 60 ∧ ∀ (ns' : List Int), ns'.Pairwise (· < ·) → (∀ k : Int, k ∈ ns' ↔ k ∈ ns) → k (.lst (ns'.map D.int))
    | none => False)
  | _ => False
theorem pd_sortSet (hc : X.calm = true) (hg : Gl X "sorted") (hm : X.mg "sorted" = none) (hg2 : Gl X "set") (hm2 : X.mg "set" = none) (ha : PD m R X a ta da)
    (na : starEach [a] X.env = (false, eval a X.env) :: starEach [] X.env := by rfl) : PD m R X (.Call (.Name "sorted" p) [.Call (.Name "set" p2) [a] [] q] [] pos) (tSortSet X.K ta) (dSortSet da) := by
  refine ⟨pe_sortSet hc hg hm hg2 hm2 ha.pe na, fun ρ σ G H k Q hv gh h q => ?_⟩
  refine ha.sem ρ σ G H _ _ hv gh h fun v d G1 H1 e1 r1 h1 => ?_
  cases r1 with
  | @lst a va la hx ra =>
    dsimp only at h1
    split at h1
    · rename_i ns e
      refine ⟨a, ns, rfl, ?_, h1.1, fun ns' p1 p2 pp hp => q _ _ _ _ (e1.trans (Ext.new e1.gh hp)) (Rep.newL (e1.gh.s.free hp) (Reps.ints ns')) (h1.2 ns' p1 p2)⟩
      rw [← ra.of_intsO e]
      exact SqL.of (e1.gh.s _ _ hx)
    · exact h1.elim
  | _ => exact h1.elim
def dLenSet (da : TdE) : TdE := fun ρ k => da ρ fun d => match d with
  | .lst l => (match D.ints l with
    | some ns => ns.Nodup ∧ ns.length ≤ 4000 ∧ k (.int ns.length)
    | none => False)
  | _ => False
theorem pd_lenSet (hc : X.calm = true) (hg : Gl X "len") (hm : X.mg "len" = none) (hg2 : Gl X "set") (hm2 : X.mg "set" = none) (ha : PD m R X a ta da)
    (na : starEach [a] X.env = (false, eval a X.env) :: starEach [] X.env := by rfl) : PD m R X (.Call (.Name "len" p) [.Call (.Name "set" p2) [a] [] q] [] pos) (RZ.tLenSetI X.K ta) (dLenSet da) := by
  refine ⟨RZ.pe_lenSetI hg hm hg2 hm2 ha.pe hc na, fun ρ σ G H k Q hv gh h q => ?_⟩
  refine ha.sem ρ σ G H _ _ hv gh h fun v d G1 H1 e1 r1 h1 => ?_
  cases r1 with
  | @lst a va la hx ra =>
    dsimp only at h1
    split at h1
    · rename_i ns e
      refine ⟨a, ns, rfl, ?_, h1.1, h1.2.1, q _ _ _ _ e1 (.int _) h1.2.2⟩
      rw [← ra.of_intsO e]
      exact SqL.of (e1.gh.s _ _ hx)
    · exact h1.elim
  | _ => exact h1.elim
end
end Dl
set_option Elab.async false
set_option linter.all false
set_option maxRecDepth 100000
set_option maxHeartbeats 2000000
/-! Comprehensions as expressions; isinstance; x[i] of one's own; instances made, their attributes set; a def by its body. -/
namespace Dl
open PySem L2

section
variable {m : Pm} {R : Res} {X : Cx} {elt kx vx tg iter : Expr} {ifs : List Expr} {scope : Scope} {pos spos : Pos} {wi : TI} {di : TdI} {g : TG} {dg : TdG} {tt : TT} {dt : TdT} {te tk tv : TE} {de dk dv : TdE} {js : List Nat}
/-- what is shown in every context of a block -/
structure InBlk (m : Pm) (R : Res) (X : Cx) (scope : Scope) (js : List Nat) (tg : Expr) (ifs : List Expr) (g : TG) (dg : TdG) (tt : TT) (dt : TdT) : Prop where
  g : ∀ (s : Shared) (H : Hp) (C : Addr) (cl : List (Str × Addr)) (fp : List Addr), PDG m (X.blk s H scope (compEnvC scope cl C X.env) fp) js tg g dg
  t : ∀ (s : Shared) (H : Hp) (C : Addr) (cl : List (Str × Addr)) (fp : List Addr), PDTs m R (X.blk s H scope (compEnvC scope cl C X.env) fp) ifs tt dt
theorem pd_lc (own : List (Str × Nat)) (hc : X.calm = true) (hN : X.N.Nodup) (hi : PDI m R X tg iter wi di) (ok : BlkOk X.N X.env.scope scope own)
    (hg : ∀ (s : Shared) (H : Hp) (C : Addr) (cl : List (Str × Addr)) (fp : List Addr), PDG m (X.blk s H scope (compEnvC scope cl C X.env) fp) js tg g dg) (ht : ∀ (s : Shared) (H : Hp) (C : Addr) (cl : List (Str × Addr)) (fp : List Addr), PDTs m R (X.blk s H scope (compEnvC scope cl C X.env) fp) ifs tt dt)
    (he : ∀ (s : Shared) (H : Hp) (C : Addr) (cl : List (Str × Addr)) (fp : List Addr), PD m R (X.blk s H scope (compEnvC scope cl C X.env) fp) elt te de) (hj : ∀ j ∈ js, j ∈ own.map (·.2) := by decide) (hs : ∀ x, foldedSetIterable iter X.env x = pure x := by intro _; rfl) :
    PD m R X (.ListComp elt [⟨tg, iter, ifs, 0⟩] scope pos) (tLc wi g tt te (own.map (·.2))) (dLc di dg dt de (own.map (·.2))) :=
  ⟨pe_lc hc hN hi.pe ok (fun s H C cl fp => (hg s H C cl fp).pe) (fun s H C cl fp => (ht s H C cl fp).pe) (fun s H C cl fp => (he s H C cl fp).pe) hs,
    sem_lc hi.sem (hg X.s_0 X.H_0 0 [] []).sem (ht X.s_0 X.H_0 0 [] []).sem (he X.s_0 X.H_0 0 [] []).sem hj⟩
/-- the list as one's own -/
theorem sl_lc (own : List (Str × Nat)) (hc : X.calm = true) (hN : X.N.Nodup) (hi : PDI m R X tg iter wi di) (ok : BlkOk X.N X.env.scope scope own)
    (hg : ∀ (s : Shared) (H : Hp) (C : Addr) (cl : List (Str × Addr)) (fp : List Addr), PDG m (X.blk s H scope (compEnvC scope cl C X.env) fp) js tg g dg) (ht : ∀ (s : Shared) (H : Hp) (C : Addr) (cl : List (Str × Addr)) (fp : List Addr), PDTs m R (X.blk s H scope (compEnvC scope cl C X.env) fp) ifs tt dt)
    (he : ∀ (s : Shared) (H : Hp) (C : Addr) (cl : List (Str × Addr)) (fp : List Addr), PD m R (X.blk s H scope (compEnvC scope cl C X.env) fp) elt te de) (hj : ∀ j ∈ js, j ∈ own.map (·.2) := by decide) (hs : ∀ x, foldedSetIterable iter X.env x = pure x := by intro _; rfl) :
    PDSl m R X (.ListComp elt [⟨tg, iter, ifs, 0⟩] scope pos) (tLc wi g tt te (own.map (·.2))) (dLcO di dg dt de (own.map (·.2))) :=
  ⟨pe_lc hc hN hi.pe ok (fun s H C cl fp => (hg s H C cl fp).pe) (fun s H C cl fp => (ht s H C cl fp).pe) (fun s H C cl fp => (he s H C cl fp).pe) hs,
    sem_lcO hi.sem (hg X.s_0 X.H_0 0 [] []).sem (ht X.s_0 X.H_0 0 [] []).sem (he X.s_0 X.H_0 0 [] []).sem hj⟩
theorem pds_setLc (i : Nat) (own : List (Str × Nat)) {y : Str} {py : Pos} (hc : X.calm = true) (hN : X.N.Nodup) (hi : PDI m R X tg iter wi di) (ok : BlkOk X.N X.env.scope scope own)
    (hg : ∀ (s : Shared) (H : Hp) (C : Addr) (cl : List (Str × Addr)) (fp : List Addr), PDG m (X.blk s H scope (compEnvC scope cl C X.env) fp) js tg g dg) (ht : ∀ (s : Shared) (H : Hp) (C : Addr) (cl : List (Str × Addr)) (fp : List Addr), PDTs m R (X.blk s H scope (compEnvC scope cl C X.env) fp) ifs tt dt)
    (he : ∀ (s : Shared) (H : Hp) (C : Addr) (cl : List (Str × Addr)) (fp : List Addr), PD m R (X.blk s H scope (compEnvC scope cl C X.env) fp) elt te de) (hj : ∀ j ∈ js, j ∈ own.map (·.2) := by decide) (hs : ∀ x, foldedSetIterable iter X.env x = pure x := by intro _; rfl)
    (hy : X.N[i]? = some y := by rfl) (hyl : X.env.scope.names.lookup y = some .local := by rfl) (hsw : swapsWith (.ListComp elt [⟨tg, iter, ifs, 0⟩] scope pos) (some (.Name y py)) spos.line X.env = pure true := by exact sw_true rfl rfl rfl (by decide +kernel)) :
    PDS m R X (.Assign [.Name y py] (.ListComp elt [⟨tg, iter, ifs, 0⟩] scope pos) spos) (tAsg (tLc wi g tt te (own.map (·.2))) (gName i)) (dAsg i (dLc di dg dt de (own.map (·.2)))) :=
  ⟨ps_setLc hc hN hy hyl hsw hi.pe ok (fun s H C cl fp => (hg s H C cl fp).pe) (fun s H C cl fp => (ht s H C cl fp).pe) (fun s H C cl fp => (he s H C cl fp).pe) hs,
    sem_asg (sem_lc hi.sem (hg X.s_0 X.H_0 0 [] []).sem (ht X.s_0 X.H_0 0 [] []).sem (he X.s_0 X.H_0 0 [] []).sem hj)⟩
theorem pd_dx (own : List (Str × Nat)) (hh : HsOk m X.w) (hu : X.A.units + 8 < cLine) (hc : X.calm = true) (hN : X.N.Nodup) (hi : PDI m R X tg iter wi di) (ok : BlkOk X.N X.env.scope scope own)
    (hg : ∀ (s : Shared) (H : Hp) (C : Addr) (cl : List (Str × Addr)) (fp : List Addr), PDG m (X.blk s H scope (compEnvC scope cl C X.env) fp) js tg g dg) (ht : ∀ (s : Shared) (H : Hp) (C : Addr) (cl : List (Str × Addr)) (fp : List Addr), PDTs m R (X.blk s H scope (compEnvC scope cl C X.env) fp) ifs tt dt)
    (hk : ∀ (s : Shared) (H : Hp) (C : Addr) (cl : List (Str × Addr)) (fp : List Addr), PD m R (X.blk s H scope (compEnvC scope cl C X.env) fp) kx tk dk) (he : ∀ (s : Shared) (H : Hp) (C : Addr) (cl : List (Str × Addr)) (fp : List Addr), PD m R (X.blk s H scope (compEnvC scope cl C X.env) fp) vx tv dv)
    (hj : ∀ j ∈ js, j ∈ own.map (·.2) := by decide) (hs : ∀ x, foldedSetIterable iter X.env x = pure x := by intro _; rfl) :
    PD m R X (.DictComp kx vx [⟨tg, iter, ifs, 0⟩] scope pos) (tDx m wi g tt tk tv (own.map (·.2))) (dDx di dg dt dk dv (own.map (·.2))) :=
  ⟨pe_dx hh hu hc hN hi.pe ok (fun s H C cl fp => (hg s H C cl fp).pe) (fun s H C cl fp => (ht s H C cl fp).pe) (fun s H C cl fp => (hk s H C cl fp).pe) (fun s H C cl fp => (he s H C cl fp).pe) hs,
    sem_dx hi.sem (hg X.s_0 X.H_0 0 [] []).sem (ht X.s_0 X.H_0 0 [] []).sem (hk X.s_0 X.H_0 0 [] []).sem (he X.s_0 X.H_0 0 [] []).sem hj⟩
theorem sw_trueD {gs : List Comprehension} {py : Pos} {y : Str} {l : Nat} {env : Env} (hk : env.scope.kind = .function) (hy : env.scope.names.lookup y = some .local) (hl : (py.line == pos.line) = true)
    (ha : (scope.names.any fun (n, k) => n == y && (k == .local || k == .cell)) = false) : swapsWith (.DictComp kx vx gs scope pos) (some (.Name y py)) l env = pure true := by
  have ky : env.kindOf y = some .local := hy
  have hb : env.blockKind = .function := by unfold Env.blockKind; rw [hk]; rfl
  unfold swapsWith
  simp only [hb, ky, ha, Expr.pos, hl]
  rfl
theorem ps_setDx {i : Nat} {y : Str} {py : Pos} {own : List (Str × Nat)} (hh : HsOk m X.w) (hu : X.A.units + 8 < cLine) (hc : X.calm = true) (hN : X.N.Nodup) (hy : X.N[i]? = some y) (hyl : X.env.scope.names.lookup y = some .local)
    (hsw : swapsWith (.DictComp kx vx [⟨tg, iter, ifs, 0⟩] scope pos) (some (.Name y py)) spos.line X.env = pure true) (hi : PI X tg iter wi) (ok : BlkOk X.N X.env.scope scope own)
    (hg : ∀ (s : Shared) (H : Hp) (C : Addr) (cl : List (Str × Addr)) (fp : List Addr), PG (X.blk s H scope (compEnvC scope cl C X.env) fp) tg g) (ht : ∀ (s : Shared) (H : Hp) (C : Addr) (cl : List (Str × Addr)) (fp : List Addr), PTs (X.blk s H scope (compEnvC scope cl C X.env) fp) ifs tt)
    (hk : ∀ (s : Shared) (H : Hp) (C : Addr) (cl : List (Str × Addr)) (fp : List Addr), PE (X.blk s H scope (compEnvC scope cl C X.env) fp) kx tk) (he : ∀ (s : Shared) (H : Hp) (C : Addr) (cl : List (Str × Addr)) (fp : List Addr), PE (X.blk s H scope (compEnvC scope cl C X.env) fp) vx tv) (hs : ∀ x, foldedSetIterable iter X.env x = pure x) :
    PS X (.Assign [.Name y py] (.DictComp kx vx [⟨tg, iter, ifs, 0⟩] scope pos) spos) (tAsg (tDx m wi g tt tk tv (own.map (·.2))) (gName i)) := by
  refine ⟨fun pins s σ H De I h => ?_⟩
  rw [exec_Assign_Name_used _ _ _ _ hsw]
  refine wpAny_bind (wpAny_standAt (wpAny_bind ?_))
  show wpAny _ X.A (do let _ ← comprehension (.DictComp kx vx [⟨tg, iter, ifs, 0⟩] scope pos) scope X.env (firstIterPos [⟨tg, iter, ifs, 0⟩] pos) newDict false (eval iter X.env) (some (assign (.Name y py) X.env))) _ _ s
  have h : tDx m wi g tt tk tv (own.map (·.2)) σ H (fun x H1 => gName i x σ H1 De.nx) := h
  refine wpAny_bind (thn (dx_core (Qf := fun _ s' => SP X pins De .next s') hh hu hc hN I hi ok hg ht hk he hs h fun L C s' n H' I' q hn f => ?_) fun _ s' hq => wpAny_pure (wpAny_pure hq))
  show wpAny _ _ (assign (.Name y py) X.env (.ref L)) _ _ _
  refine wpAny_assign_Name (store_ok2 (v := V.ref L) I' hN hy (.inl hyl) rfl (fun s2 I2 ⟨a, sb, ha⟩ => ?_) (.inr hyl))
  obtain ⟨f0, f1, f2, f3, f4, f5⟩ := f
  have haC : C ≠ a := by
    rcases ha with z | z
    · rw [z]; exact f1
    · exact fun e => f4 y a z e.symm
  refine ⟨n, hn.sameBut sb haC, fun h3 sb3 => ?_⟩
  exact ⟨_, H', I2.turned (t' := s2.toks) (fun b o hb e => (sb3.2 b hb).trans e) f0 f1 f3 f4 f5, q⟩
theorem pds_setDx (i : Nat) (own : List (Str × Nat)) {y : Str} {py : Pos} (hh : HsOk m X.w) (hu : X.A.units + 8 < cLine) (hc : X.calm = true) (hN : X.N.Nodup) (hi : PDI m R X tg iter wi di) (ok : BlkOk X.N X.env.scope scope own)
    (hg : ∀ (s : Shared) (H : Hp) (C : Addr) (cl : List (Str × Addr)) (fp : List Addr), PDG m (X.blk s H scope (compEnvC scope cl C X.env) fp) js tg g dg) (ht : ∀ (s : Shared) (H : Hp) (C : Addr) (cl : List (Str × Addr)) (fp : List Addr), PDTs m R (X.blk s H scope (compEnvC scope cl C X.env) fp) ifs tt dt)
    (hk : ∀ (s : Shared) (H : Hp) (C : Addr) (cl : List (Str × Addr)) (fp : List Addr), PD m R (X.blk s H scope (compEnvC scope cl C X.env) fp) kx tk dk) (he : ∀ (s : Shared) (H : Hp) (C : Addr) (cl : List (Str × Addr)) (fp : List Addr), PD m R (X.blk s H scope (compEnvC scope cl C X.env) fp) vx tv dv)
    (hj : ∀ j ∈ js, j ∈ own.map (·.2) := by decide) (hs : ∀ x, foldedSetIterable iter X.env x = pure x := by intro _; rfl)
    (hy : X.N[i]? = some y := by rfl) (hyl : X.env.scope.names.lookup y = some .local := by rfl) (hsw : swapsWith (.DictComp kx vx [⟨tg, iter, ifs, 0⟩] scope pos) (some (.Name y py)) spos.line X.env = pure true := by exact sw_trueD rfl rfl rfl (by decide +kernel)) :
    PDS m R X (.Assign [.Name y py] (.DictComp kx vx [⟨tg, iter, ifs, 0⟩] scope pos) spos) (tAsg (tDx m wi g tt tk tv (own.map (·.2))) (gName i)) (dAsg i (dDx di dg dt dk dv (own.map (·.2)))) :=
  ⟨ps_setDx hh hu hc hN hy hyl hsw hi.pe ok (fun s H C cl fp => (hg s H C cl fp).pe) (fun s H C cl fp => (ht s H C cl fp).pe) (fun s H C cl fp => (hk s H C cl fp).pe) (fun s H C cl fp => (he s H C cl fp).pe) hs,
    sem_asg (sem_dx hi.sem (hg X.s_0 X.H_0 0 [] []).sem (ht X.s_0 X.H_0 0 [] []).sem (hk X.s_0 X.H_0 0 [] []).sem (he X.s_0 X.H_0 0 [] []).sem hj)⟩
end

/-! isinstance -/
section
variable {m : Pm} {R : Res} {X : Cx} {x : Str} {pos : Pos}
theorem pd_ty {T : String} (hg : Gl X x) (hm : X.mg x = none) (hv : bootBuiltins x = some (.type T)) (hd : (x == ("__debug__" : Str)) = false := by decide) (hn : x ≠ "__name__" := by decide) : PD m R X (.Name x pos) (tC (.ty T)) (dC (.raw (.ty T))) :=
  ⟨⟨fun pins s σ H Q I h => ld_blt I hg hm hv ⟨.ty T, H, I, rfl, h⟩ hn hd⟩, sem_c fun _ => .raw _⟩
theorem pd_cls {C : Addr} (hg : Gl X x) (hm : X.mg x = some (.ref C)) (hd : (x == ("__debug__" : Str)) = false := by decide) : PD m R X (.Name x pos) (tC (.ref C)) (dC (.raw (.ref C))) := ⟨pe_glob hg hm rfl hd, sem_c fun _ => .raw _⟩
/-- is it of that class -/
def isi (m : Pm) (x c : D) : Option Bool := match x, c with
  | .int _, .raw (.ty n) => if n = "int" then some true else if n = "bool" then some false else none
  | .tup _, .raw (.ty n) => if n = "tuple" then some true else none
  | .str _, .raw (.ty n) => if n = "str" then some true else none
  | .lst _, .tup [.raw (.ty a), .raw (.ty b)] => if a = "list" ∧ b = "tuple" then some true else none
  | .tup _, .tup [.raw (.ty a), .raw (.ty b)] => if a = "list" ∧ b = "tuple" then some true else none
  | .ins c _, .raw (.ref C) => if C = m.cl c then some true else none
  | _, _ => none
def fIsi (m : Pm) (ds : List D) (k : D → Prop) : Prop := match ds with
  | [x, c] => (match isi m x c with
    | some b => k (.bl b)
    | none => False)
  | _ => False
def rIsiD (K : PySem.W.Frag) : List V → Hp → VK → Prop := fun xs H Q => rIsi K xs H Q ∨ rIsiT K xs H Q ∨ ∃ C a dx fs, xs = [.ref a, .ref C] ∧ C8.InsC K C ∧ H a = some (.ins C dx fs) ∧ Q (.bl true) H
theorem cd_isi (hC : ∀ c, C8.InsC X.K (m.cl c)) : ClD m R X (.builtin "isinstance") (rIsiD X.K) (fIsi m) := by
  refine ⟨CallR.or call_isi (CallR.or call_isiT fun pins s σ H xs us Q I r h => ?_), fun vs ds G H k Q gh r h q => ?_⟩
  · obtain ⟨C, a, dx, fs, e, c, ha, q⟩ := h
    exact C8.call_isC c pins s σ H xs us Q I r ⟨a, dx, fs, e, ha, q⟩
  · unfold fIsi at h
    split at h
    · rename_i x c
      split at h
      · rename_i b hb
        cases r with
        | cons rx r => cases r with
          | cons rc r => cases r with
            | nil =>
              unfold isi at hb
              split at hb
              · rename_i i n
                cases rx
                cases rc
                split at hb
                · rename_i e
                  subst e
                  cases hb
                  exact .inl ⟨_, _, _, _, true, rfl, .ty _, .base (.int _), kit_ty (by decide +kernel), q _ _ G H (Ext.refl gh) (.bl _) h⟩
                · split at hb
                  · rename_i e
                    subst e
                    cases hb
                    exact .inl ⟨_, _, _, _, false, rfl, .ty _, .base (.int _), kit_ty (by decide +kernel), q _ _ G H (Ext.refl gh) (.bl _) h⟩
                  · cases hb
              · rename_i l n
                cases rc
                split at hb
                · rename_i e
                  subst e
                  cases hb
                  cases rx with
                  | tup hx _ => exact .inl ⟨_, _, _, _, true, rfl, .ty _, .base (.tup (gh.s _ _ hx)), kit_ty (by decide +kernel), q _ _ G H (Ext.refl gh) (.bl _) h⟩
                · cases hb
              · rename_i l n
                cases rx
                cases rc
                split at hb
                · rename_i e
                  subst e
                  cases hb
                  exact .inl ⟨_, _, _, _, true, rfl, .ty _, .base (.str _), kit_ty (by decide +kernel), q _ _ G H (Ext.refl gh) (.bl _) h⟩
                · cases hb
              · rename_i l a b2
                split at hb
                · rename_i e
                  obtain ⟨rfl, rfl⟩ := e
                  cases hb
                  cases rx with
                  | lst hx _ => cases rc with
                    | tup hc rs => cases rs with
                      | cons r1 rs => cases rs with
                        | cons r2 rs => cases rs with
                          | nil =>
                            cases r1
                            cases r2
                            exact .inr (.inl ⟨_, _, _, _, _, true, rfl, gh.s _ _ hc, .cons (.ty _) (.cons (.ty _) .nil), .base (.lst (gh.s _ _ hx)), kitAny_cons (b := true) (kit_ty (by decide +kernel)) (fun z => by cases z) (fun _ => rfl), q _ _ G H (Ext.refl gh) (.bl _) h⟩)
                · cases hb
              · rename_i l a b2
                split at hb
                · rename_i e
                  obtain ⟨rfl, rfl⟩ := e
                  cases hb
                  cases rx with
                  | tup hx _ => cases rc with
                    | tup hc rs => cases rs with
                      | cons r1 rs => cases rs with
                        | cons r2 rs => cases rs with
                          | nil =>
                            cases r1
                            cases r2
                            exact .inr (.inl ⟨_, _, _, _, _, true, rfl, gh.s _ _ hc, .cons (.ty _) (.cons (.ty _) .nil), .base (.tup (gh.s _ _ hx)), kitAny_cons (b := false) (kit_ty (by decide +kernel)) (fun _ => kitAny_cons (b := true) (kit_ty (by decide +kernel)) (fun z => by cases z) (fun _ => rfl)) (fun z => by cases z), q _ _ G H (Ext.refl gh) (.bl _) h⟩)
                · cases hb
              · rename_i c l C
                cases rc
                split at hb
                · rename_i e
                  subst e
                  cases hb
                  cases rx with
                  | ins hx hz rs => exact .inr (.inr ⟨_, _, _, _, rfl, hC c, gh.s _ _ hx, q _ _ G H (Ext.refl gh) (.bl _) h⟩)
                · cases hb
              · cases hb
      · exact h.elim
    · exact h.elim
end
end Dl
set_option Elab.async false
set_option linter.all false
set_option maxRecDepth 100000
set_option maxHeartbeats 2000000
/-! x[i] by __getitem__; instances made, their attributes set; a def by its body. -/
namespace Dl
open PySem PySem.Spec PyProof.Rows L2

section
variable {m : Pm} {R : Res} {X : Cx} {n k : Nat} {g f : Addr} {sp : DSp} {e o : Expr} {es : List Expr} {te to_ : TE} {de do_ : TdE} {t : TA} {dt : TdA} {x : Str} {pos p : Pos}
structure OwnG (K : PySem.W.Frag) (C : Addr) (g : Addr) : Prop where
  at_ : PySem.W.findIn K (.ref C) "__getitem__" = some (some (.ref g))
  fn : PySem.W.isFn K (.ref g) = true
  fi : PySem.W.fnIn K g = true
def rIxO (C : Addr) (sp : Sp) : R2 := fun x y H Q => ∃ a dx fs, x = .ref a ∧ H a = some (.ins C dx fs) ∧ sp [x, y] H Q E0
theorem pe_ixO {C : Addr} {spr : Sp} (c : OwnG X.K C g) (F : FnR X.prog X.w X.K X.mg X.base CX0 k g spr) (hr : Room (k + 1) X.A) (ha : PE X o to_) (hb : PE X e te)
    (hsl : ∀ a i, subscripted e true (.ref a) i = runValue (.builtin "lifetime.subscript" ⟨[.ref a, i], []⟩) := by intro _ _; with_unfolding_all rfl) : PE X (.Subscript o e pos) (tOp (rIxO C spr) to_ te) := by
  refine ⟨fun pins s σ H Q I h => ?_⟩
  refine Subscript_ (binT ha hb I h fun v u s2 x y H2 I2 rx ry q => ?_)
  obtain ⟨a, dx, fs, rfl, hx, q⟩ := q
  cases rx
  obtain ⟨m0, Fr0⟩ := I2.fr
  obtain ⟨ox, od, J⟩ := inst_at I2 hx
  exact PySem.W.sub_K Fr0 I2.mod.kin J c.at_ c.fi c.fn (run_in1 (us := [.ref a, u]) (vs := [.ref a, y]) F hr I2 (.cons rfl (.cons ry .nil)) q) (hsl a u)
def opIxO (n : Nat) (f : List D → (D → Prop) → Prop) (x y : D) (k : D → Prop) : Prop := match x with
  | .ins c l => c = n ∧ f [.ins c l, y] k
  | _ => False
theorem pd_ixO (c : OwnG X.K (m.cl n) g) (F : FnR X.prog X.w X.K X.mg X.base CX0 k g (spD m sp)) (hr : Room (k + 1) X.A) (ha : PD m R X o to_ do_) (hb : PD m R X e te de)
    (hsl : ∀ a i, subscripted e true (.ref a) i = runValue (.builtin "lifetime.subscript" ⟨[.ref a, i], []⟩) := by intro _ _; with_unfolding_all rfl) : PD m R X (.Subscript o e pos) (tOp (rIxO (m.cl n) (spD m sp)) to_ te) (dOp (opIxO n (sp R)) do_ de) :=
  ⟨pe_ixO c F hr ha.pe hb.pe hsl, sem_op (fun x y dx dy G H kk Q gh rx ry h q => by
    cases rx with
    | @ins a dx c vs ds hx hz rs =>
      obtain ⟨rfl, h⟩ := h
      exact ⟨a, dx, _, rfl, gh.s _ _ hx, R, _, G, kk, .cons (.ins hx hz rs) (.cons ry .nil), gh, h, q⟩
    | _ => exact h.elim) ha.sem hb.sem⟩

/-! instances made -/
/-- the promise of class n's __init__ -/
def spI (m : Pm) (n : Nat) (f : DSp) : Sp := fun vs H Q _ => ∃ (R : Res) (x dx : Addr) (us : List V) (ds : List D) (G H1 : Hp) (k : D → Prop), vs = .ref x :: us ∧ H1 x = none ∧ H1 dx = none ∧ dx ≠ x ∧
  H = upd (upd H1 dx (.own x)) x (.ins (m.cl n) dx []) ∧ Reps m G us ds ∧ GH R G H1 ∧ f R ds k ∧ ∀ d G' H', Ext R G H1 G' H' → Rep m G' (.ref x) d → k d → Q .non H'
theorem pd_make (M : Mk X.K (m.cl n) f) (F : FnR X.prog X.w X.K X.mg X.base CX0 k f (spI m n sp)) (hr : Room (k + 1) X.A) (hg : Gl X x) (hm : X.mg x = some (.ref (m.cl n))) (ha : PDA m R X (e :: es) t dt) (hdb : (x == ("__debug__" : Str)) = false := by decide)
    (he : starEach (e :: es) X.env = (false, eval e X.env) :: starEach es X.env := by rfl) (hpl : (backTo pos (starEach es X.env)).any (·.1) = false := by rfl) :
    PD m R X (.Call (.Name x p) (e :: es) [] pos) (StX.tMakeR (m.cl n) (spI m n sp) E0 t) (dCall (sp R) dt) := by
  refine ⟨StX.pe_makeR M F hr hg hm pass0 ha.pe hdb he hpl, fun ρ σ G H kk Q hv gh h q => ?_⟩
  refine ha.sem ρ σ G H _ _ hv gh h fun vs ds G1 H1 e1 r1 h1 => fun x dx hx hdx ne => ?_
  exact ⟨R, x, dx, vs, ds, G1, H1, kk, rfl, hx, hdx, ne, rfl, r1, e1.gh, h1, fun d G' H' e' r' k' => ⟨rfl, q _ d G' H' (e1.trans e') r' k'⟩⟩

/-! self.f = e -/
def dFldSet (m : Pm) (n i : Nat) (f : Str) (a : TdE) : TdS := fun De ρ => match ρ[i]? with
  | some (.obj x c ds) => a ρ fun d => c = n ∧ ds.length < 900 ∧ (m.nm n)[ds.length]? = some f ∧ De.nx (ρ.set i (.obj x c (ds ++ [d])))
  | _ => False
theorem putF_zip {f : Str} {v : V} : ∀ {ns : List Str} {vs : List V}, ns.Nodup → ns[vs.length]? = some f → putF f v (ns.zip vs) = ns.zip (vs ++ [v])
  | [], _, _, e => by simp at e
  | a :: ns, [], _, e => by
    simp at e
    subst e
    simp [putF]
  | a :: ns, w :: vs, h, e => by
    have h1 := List.nodup_cons.mp h
    have e1 : ns[vs.length]? = some f := by simpa using e
    have ne : a ≠ f := fun z => h1.1 (by rw [z]; exact List.mem_of_getElem? e1)
    show (if a = f then _ else _) = _
    rw [if_neg ne]
    show (a, w) :: putF f v (ns.zip vs) = _
    rw [putF_zip h1.2 e1]
    rfl
theorem pds_fld (i : Nat) {f : Str} {px apos : Pos} (C : ClsN m X.K n) (na : NoAttr X.K (m.cl n) f) (he : PD m R X e te de) (hi : X.N[i]? = some x := by rfl) (hv : Vis X.env.scope x := by first | exact Or.inl rfl | exact Or.inr (Or.inl rfl) | exact Or.inr (Or.inr rfl)) (hd : (x == ("__debug__" : Str)) = false := by decide)
    (hcd : (x == ("__classdict__" : Str)) = false := by decide) (hs : swapsWith e (some (.Attribute (.Name x px) f apos)) pos.line X.env = pure false := by rfl) :
    PDS m R X (.Assign [.Attribute (.Name x px) f apos] e pos) (sFld X.K (tVar i) te f) (dFldSet m n i f de) := by
  refine ⟨ps_fld (pv i hi hv hd hcd) he.pe hs, fun S ρ σ G H De Dd st c h => ?_⟩
  unfold dFldSet at h
  split at h
  · rename_i a c0 ds ei
    refine he.sem ρ σ G H _ _ st.envE st.gh h fun v d G1 H1 e1 r1 h1 => ?_
    obtain ⟨rfl, hlen, hf, hn⟩ := h1
    have st1 := st.step e1
    obtain ⟨dx, vs, g1, g2, g3, g4, g5, g6⟩ := st1.at_ i _ ei
    have hl : vs.length = ds.length := g6.length
    refine ⟨.ref a, g1, a, m.cl c0, dx, _, rfl, g2, C.cls, na, by rw [List.length_zip]; omega, ?_⟩
    rw [putF_zip C.nd (by rw [hl]; exact hf)]
    have hlt : ds.length < (m.nm c0).length := (List.getElem?_eq_some_iff.mp hf).1
    exact c.nx _ σ G1 _ (st1.wr (s1 := .obj a c0 (ds ++ [d])) ei g1 ⟨dx, vs ++ [v], g1, upd_same, by rw [List.length_append, hl]; simp; omega, g4, g5, g6.append (.cons r1 .nil)⟩ fun b z => z) hn
  · exact h.elim
end

/-! a def by its body -/
def startD (N : Nat) (ds : List D) : Rho := ds.map .val ++ List.replicate (N - ds.length) .no
section
variable {P : Program} {w : World} {K : PySem.W.Frag} {mg : Str → Option Value} {base : Heap} {m : Pm} {x qual : Str} {params : Arguments} {body : List Stmt} {scope : Scope} {dvs : List V} {kws : List (Str × V)} {f : Addr} {fd : FuncData} {N ps : List Str} {k : Nat} {sp : DSp}
theorem startD_get {n : Nat} {ds : List D} {i : Nat} {s : Sl} (h : (startD n ds)[i]? = some s) : (∃ d, ds[i]? = some d ∧ s = .val d) ∨ s = .no := by
  unfold startD at h
  rw [List.getElem?_append] at h
  split at h
  · rw [List.getElem?_map] at h
    cases q : ds[i]? with
    | none => rw [q] at h; cases h
    | some d =>
      rw [q] at h
      cases h
      exact .inl ⟨d, rfl, rfl⟩
  · have := List.mem_of_getElem? h
    rw [List.mem_replicate] at this
    exact .inr this.2
theorem start_get {N : List Str} {vs : List V} {i : Nat} {v : V} (h : vs[i]? = some v) : (L2.start N vs)[i]? = some (some v) := by
  unfold L2.start
  rw [List.getElem?_append_left (by rw [List.length_map]; exact (List.getElem?_eq_some_iff.mp h).1), List.getElem?_map, h]
  rfl
theorem startD_ok {G H : Hp} {R : Res} {vs : List V} {ds : List D} (r : Reps m G vs ds) (gh : GH R G H) (hl : ds.length ≤ N.length) : StOk m R ⟨G, H, G⟩ (startD N.length ds) (L2.start N vs) G H := by
  refine ⟨gh, Ext.refl gh, Same.refl _, ?_, fun i s h => ?_, fun i j s t a hs ht o1 o2 => ?_⟩
  · have := r.length
    simp only [startD, L2.start, List.length_append, List.length_map, List.length_replicate]
    omega
  · rcases startD_get h with ⟨d, e, rfl⟩ | rfl
    · obtain ⟨v, h1, h2⟩ := r.get e
      exact ⟨v, start_get h1, h2⟩
    · trivial
  · rcases startD_get hs with ⟨d, e, rfl⟩ | rfl
    · exact o1.elim
    · exact o1.elim
/-- a def: its body as a term of the rules, its promise by data -/
theorem fn_ok (F : FunD K x qual params body scope dvs kws f fd) (S : FnScope N ps scope) (len : ∀ R ds kk, sp R ds kk → ds.length = ps.length)
    (hbody : ∀ (cdv : Value) (A : Around) (outer : List Env) (s : Shared) (H : Hp) (E : XK), Room k (A.deeper (envOfC qual scope s.heap.objs.size f cdv)) → ∀ R : Res, ∃ t dt, PDSs m R (cxOf CX0 P w K mg base N qual scope f cdv A outer s H E).nox body t dt ∧
      ∀ ds kk, sp R ds kk → dt { nx := fun _ => kk .non, rt := kk } (startD N.length ds)) : FnOk P w K mg base CX0 (k + 1) f fd ps (spD m sp) := by
  refine F.ok S (fun vs H Q E h => ?_) fun cdv A outer s H vs Q E hr h => ?_
  · obtain ⟨R, ds, G, kk, r, _, h1, _⟩ := h
    rw [r.length]
    exact len R ds kk h1
  · obtain ⟨R, ds, G, kk, r, gh, h1, q⟩ := h
    obtain ⟨t, dt, hp, hb⟩ := hbody cdv A outer s H E hr R
    refine ⟨t, hp.pe.nox, ?_⟩
    have hpl : ps.length ≤ N.length := by
      have := congrArg List.length S.pre
      rw [List.length_take] at this
      omega
    refine hp.sem ⟨G, H, G⟩ _ _ G H { nx := fun _ => kk .non, rt := kk } _ (startD_ok r gh (by rw [len R ds kk h1]; exact hpl)) ⟨fun ρ σ G' H' st hk => ?_, fun v d G' H' e r' hk => ?_, fun _ _ _ _ _ z => z.elim, fun _ _ _ _ _ z => z.elim⟩ (hb ds kk h1)
    · exact q _ _ G' H' st.ext .non hk
    · exact q v d G' H' e r' hk
/-- an __init__ of class n: self is the first -/
theorem fn_init {n : Nat} (F : FunD K x qual params body scope dvs kws f fd) (S : FnScope N ps scope) (len : ∀ R ds kk, sp R ds kk → ds.length + 1 = ps.length)
    (hbody : ∀ (cdv : Value) (A : Around) (outer : List Env) (s : Shared) (H : Hp) (E : XK), Room k (A.deeper (envOfC qual scope s.heap.objs.size f cdv)) → ∀ R : Res, ∃ t dt, PDSs m R (cxOf CX0 P w K mg base N qual scope f cdv A outer s H E).nox body t dt ∧
      ∀ (x : Addr) ds kk, sp R ds kk → dt { nx := fun ρ => ∃ fs, ρ[0]? = some (.obj x n fs) ∧ fs.length = (m.nm n).length ∧ kk (.ins n fs), rt := fun _ => False } (.obj x n [] :: startD (N.length - 1) ds)) : FnOk P w K mg base CX0 (k + 1) f fd ps (spI m n sp) := by
  refine F.ok S (fun vs H Q E h => ?_) fun cdv A outer s H vs Q E hr h => ?_
  · obtain ⟨R, x, dx, us, ds, G, H1, kk, rfl, _, _, _, _, r, _, h1, _⟩ := h
    rw [List.length_cons, r.length]
    exact len R ds kk h1
  · obtain ⟨R, x, dx, us, ds, G, H1, kk, rfl, hx, hdx, ne, rfl, r, gh, h1, q⟩ := h
    obtain ⟨t, dt, hp, hb⟩ := hbody cdv A outer s (upd (upd H1 dx (.own x)) x (.ins (m.cl n) dx [])) E hr R
    refine ⟨t, hp.pe.nox, ?_⟩
    have hpl : ps.length ≤ N.length := by
      have := congrArg List.length S.pre
      rw [List.length_take] at this
      omega
    have hl := len R ds kk h1
    have e1 := Ext.side (o := .own x) gh hdx
    have hx2 : (upd H1 dx (.own x)) x = none := by rw [upd_ne (Ne.symm ne)]; exact hx
    have e2 := Ext.side (o := .ins (m.cl n) dx []) e1.gh hx2
    have st : StOk m R ⟨G, H1, G⟩ (.obj x n [] :: startD (N.length - 1) ds) (L2.start N (.ref x :: us)) G (upd (upd H1 dx (.own x)) x (.ins (m.cl n) dx [])) := by
      refine ⟨gh, e1.trans e2, Same.refl _, ?_, fun i s h => ?_, fun i j s t a hs ht o1 o2 => ?_⟩
      · have := r.length
        simp only [startD, L2.start, List.length_append, List.length_map, List.length_replicate, List.length_cons]
        omega
      · cases i with
        | zero =>
          simp at h
          subst h
          exact ⟨dx, [], rfl, by rw [upd_same]; simp, Nat.zero_le _, hx, gh.s.free hx, .nil⟩
        | succ i =>
          rw [List.getElem?_cons_succ] at h
          rcases startD_get h with ⟨d, e, rfl⟩ | rfl
          · obtain ⟨v, h1, h2⟩ := r.get e
            exact ⟨v, start_get (by simpa using h1), h2⟩
          · trivial
      · have z : ∀ (i : Nat) (s : Sl), (Sl.obj x n [] :: startD (N.length - 1) ds)[i]? = some s → Owns (upd (upd H1 dx (.own x)) x (.ins (m.cl n) dx [])) s (L2.start N (.ref x :: us))[i]? a → i = 0 := fun i s hs o => by
          cases i with
          | zero => rfl
          | succ i =>
            rw [List.getElem?_cons_succ] at hs
            rcases startD_get hs with ⟨d, e, rfl⟩ | rfl
            · exact o.elim
            · exact o.elim
        rw [z i s hs o1, z j t ht o2]
    refine hp.sem ⟨G, H1, G⟩ _ _ G _ { nx := fun ρ => ∃ fs, ρ[0]? = some (.obj x n fs) ∧ fs.length = (m.nm n).length ∧ kk (.ins n fs), rt := fun _ => False } _ st ⟨fun ρ σ G' H' st hk => ?_, fun v d G' H' e r' hk => hk.elim, fun _ _ _ _ _ z => z.elim, fun _ _ _ _ _ z => z.elim⟩ (hb x ds kk h1)
    obtain ⟨fs, h0, hfl, hk⟩ := hk
    obtain ⟨dx2, vs, g1, g2, g3, g4, g5, g6⟩ := st.at_ 0 _ h0
    have nM := st.notM g4
    have sm : Same G' (upd G' x (.ins (m.cl n) dx2 ((m.nm n).zip vs))) := same_new g5
    refine q (.ins n fs) _ H' ⟨st.ext.gg.trans sm, st.ext.gh.adopt g5 g2 nM, st.ext.hh, fun b u e => ?_⟩ (.ins upd_same (by rw [g6.length]; exact hfl) (g6.mono sm)) hk
    by_cases z : b = x
    · subst z
      exact .inr hx
    · rw [upd_ne z] at e
      exact st.ext.fr b u e
end
end Dl
set_option Elab.async false
set_option linter.all false
set_option maxRecDepth 100000
set_option maxHeartbeats 2000000
/-! A list of one's own that is walked and goes on growing. -/
namespace Dl
open PySem PySem.Spec PyProof.Rows L2

/-- while the list at l is walked, it stays -/
def Res.keep (R : Res) (l : Addr) (vs : List V) : Res := ⟨fun b => R.M b ∨ b = l, fun H => R.ok H ∧ H l = some (.lst vs), fun H H' h k => ⟨R.st H H' (fun b o hb e => h b o (.inl hb) e) k.1, h l _ (.inr rfl) k.2⟩⟩
section
variable {m : Pm} {R : Res} {X : Cx} {G H G' H' : Hp} {l : Addr} {vs : List V}
theorem GH.keep (h : GH R G H) (e : H l = some (.lst vs)) (g : G l = none) : GH (R.keep l vs) G H := ⟨h.s, ⟨h.ok, e⟩, fun b hb => hb.elim (h.m b) fun z => by
  subst z
  exact ⟨g, _, e⟩⟩
theorem Ext.unkeep (e : Ext (R.keep l vs) G H G' H') (h : H l = some (.lst vs)) : Ext R G H G' H' := by
  refine ⟨e.gg, ⟨e.gh.s, e.gh.ok.1, fun b hb => e.gh.m b (.inl hb)⟩, fun b o hb n => ?_, e.fr⟩
  by_cases z : b = l
  · subst z
    rw [h] at hb
    cases hb
    exact e.gh.ok.2
  · exact e.hh b o hb fun q => q.elim n z
theorem slNew_unkeep {v : V} {s : Sl} (r : SlNew m G H G' H' v s) : SlNew m G H G' H' v s := r
theorem iter_keep {K : PySem.W.Frag} {ρ : Rho} {σ : L2.St} {i : Nat} {ds : List D} (gh : GH (R.keep l vs) G H) (hi : σ[i]? = some (some (.ref l))) (r : Reps m G vs ds) : SemIAt m (R.keep l vs) (iSeq K (tVar i)) (fun _ k => k ds) ρ σ G H := by
  intro k RR h q
  refine ⟨_, hi, .inr ⟨l, rfl, ⟨vs, SqL.of gh.ok.2⟩, q _ ds G H (Ext.refl gh) ?_ h⟩⟩
  have w := @walk_list K l vs
  refine ⟨fun i G2 H2 hi sm gh => w.goes i H2 (by rw [r.length]; exact hi) (SqL.of gh.ok.2), fun G2 H2 sm gh => by rw [← r.length]; exact w.stops H2 (SqL.of gh.ok.2), fun i G2 H2 x H3 hi sm gh y => ?_⟩
  obtain ⟨e1, e2⟩ := w.yields i H2 x H3 (by rw [r.length]; exact hi) (SqL.of gh.ok.2) y
  subst e1
  obtain ⟨d, h1, h2⟩ := r.getV e2
  exact ⟨d, G2, h1, Ext.refl gh, h2.mono sm⟩
end
section
variable {m : Pm} {R : Res} {X : Cx} {elt kx vx tg : Expr} {ifs : List Expr} {scope : Scope} {pos spos : Pos} {g : TG} {dg : TdG} {tt : TT} {dt : Res → TdT} {te tk tv : TE} {de dk dv : Res → TdE} {js : List Nat}
/-- x = [.. for .. in xs], xs a list of one's own: a new list of one's own -/
def dLcOwn (i j : Nat) (dg : TdG) (dt : Res → TdT) (de : Res → TdE) (vs : List Nat) : TdS := fun De ρ => match ρ[i]? with
  | some (.own ds) => ∀ R' : Res, dLcO (fun _ k => k ds) dg (dt R') (de R') vs ρ fun s => De.nx (ρ.set j s)
  | _ => False
theorem pds_lcOwn (i j : Nat) (own : List (Str × Nat)) {y x : Str} {py px : Pos} (hc : X.calm = true) (hN : X.N.Nodup) (ok : BlkOk X.N X.env.scope scope own)
    (hg : ∀ (s : Shared) (H : Hp) (C : Addr) (cl : List (Str × Addr)) (fp : List Addr), PDG m (X.blk s H scope (compEnvC scope cl C X.env) fp) js tg g dg) (ht : ∀ (R : Res) (s : Shared) (H : Hp) (C : Addr) (cl : List (Str × Addr)) (fp : List Addr), PDTs m R (X.blk s H scope (compEnvC scope cl C X.env) fp) ifs tt (dt R))
    (he : ∀ (R : Res) (s : Shared) (H : Hp) (C : Addr) (cl : List (Str × Addr)) (fp : List Addr), PD m R (X.blk s H scope (compEnvC scope cl C X.env) fp) elt te (de R)) (hj : ∀ j ∈ js, j ∈ own.map (·.2) := by decide) (hs : ∀ z, foldedSetIterable (.Name x px) X.env z = pure z := by intro _; rfl)
    (hi : X.N[i]? = some x := by rfl) (hv : Vis X.env.scope x := by first | exact Or.inl rfl | exact Or.inr (Or.inl rfl) | exact Or.inr (Or.inr rfl)) (hd : (x == ("__debug__" : Str)) = false := by decide) (hcd : (x == ("__classdict__" : Str)) = false := by decide)
    (hy : X.N[j]? = some y := by rfl) (hyl : X.env.scope.names.lookup y = some .local := by rfl) (hsw : swapsWith (.ListComp elt [⟨tg, .Name x px, ifs, 0⟩] scope pos) (some (.Name y py)) spos.line X.env = pure true := by exact sw_true rfl rfl rfl (by decide +kernel)) :
    PDS m R X (.Assign [.Name y py] (.ListComp elt [⟨tg, .Name x px, ifs, 0⟩] scope pos) spos) (tAsg (tLc (iSeq X.K (tVar i)) g tt te (own.map (·.2))) (gName j)) (dLcOwn i j dg dt de (own.map (·.2))) := by
  refine ⟨ps_setLc hc hN hy hyl hsw (pi_seq (pv i hi hv hd hcd)) ok (fun s H C cl fp => (hg s H C cl fp).pe) (fun s H C cl fp => (ht R s H C cl fp).pe) (fun s H C cl fp => (he R s H C cl fp).pe) hs, fun S ρ σ G H De Dd st c h => ?_⟩
  unfold dLcOwn at h
  split at h
  · rename_i ds ei
    obtain ⟨l, vs, g1, g2, g3, g4, g5⟩ := st.at_ i _ ei
    have gk := st.gh.keep g2 g4
    exact sem_lcOat (R := R.keep l vs) (iter_keep gk g1 g5) (hg X.s_0 X.H_0 0 [] []).sem (ht _ X.s_0 X.H_0 0 [] []).sem (he _ X.s_0 X.H_0 0 [] []).sem hj st.envE gk (h _) fun v s G' H' e r k => c.nx _ _ G' H' (st.setS (e.unkeep g2) r) k
  · exact h.elim
/-- x = {.. for .. in xs}, xs a list of one's own -/
def dDxOwn (i j : Nat) (dg : TdG) (dt : Res → TdT) (dk dv : Res → TdE) (vs : List Nat) : TdS := fun De ρ => match ρ[i]? with
  | some (.own ds) => ∀ R' : Res, dDx (fun _ k => k ds) dg (dt R') (dk R') (dv R') vs ρ fun d => De.nx (ρ.set j (.val d))
  | _ => False
theorem pds_dxOwn (i j : Nat) (own : List (Str × Nat)) {y x : Str} {py px : Pos} (hh : HsOk m X.w) (hu : X.A.units + 8 < cLine) (hc : X.calm = true) (hN : X.N.Nodup) (ok : BlkOk X.N X.env.scope scope own)
    (hg : ∀ (s : Shared) (H : Hp) (C : Addr) (cl : List (Str × Addr)) (fp : List Addr), PDG m (X.blk s H scope (compEnvC scope cl C X.env) fp) js tg g dg) (ht : ∀ (R : Res) (s : Shared) (H : Hp) (C : Addr) (cl : List (Str × Addr)) (fp : List Addr), PDTs m R (X.blk s H scope (compEnvC scope cl C X.env) fp) ifs tt (dt R))
    (hk : ∀ (R : Res) (s : Shared) (H : Hp) (C : Addr) (cl : List (Str × Addr)) (fp : List Addr), PD m R (X.blk s H scope (compEnvC scope cl C X.env) fp) kx tk (dk R)) (he : ∀ (R : Res) (s : Shared) (H : Hp) (C : Addr) (cl : List (Str × Addr)) (fp : List Addr), PD m R (X.blk s H scope (compEnvC scope cl C X.env) fp) vx tv (dv R))
    (hj : ∀ j ∈ js, j ∈ own.map (·.2) := by decide) (hs : ∀ z, foldedSetIterable (.Name x px) X.env z = pure z := by intro _; rfl)
    (hi : X.N[i]? = some x := by rfl) (hv : Vis X.env.scope x := by first | exact Or.inl rfl | exact Or.inr (Or.inl rfl) | exact Or.inr (Or.inr rfl)) (hd : (x == ("__debug__" : Str)) = false := by decide) (hcd : (x == ("__classdict__" : Str)) = false := by decide)
    (hy : X.N[j]? = some y := by rfl) (hx : Loc X.env.scope y := by first | exact Or.inl rfl | exact Or.inr rfl) (hsw : swapsWith (.DictComp kx vx [⟨tg, .Name x px, ifs, 0⟩] scope pos) (some (.Name y py)) spos.line X.env = pure false := by rfl)
    (hf : X.fn y = true ∨ X.env.scope.names.lookup y = some .local := by first | exact .inl rfl | exact .inr rfl) :
    PDS m R X (.Assign [.Name y py] (.DictComp kx vx [⟨tg, .Name x px, ifs, 0⟩] scope pos) spos) (tAsg (tDx m (iSeq X.K (tVar i)) g tt tk tv (own.map (·.2))) (gName j)) (dDxOwn i j dg dt dk dv (own.map (·.2))) := by
  refine ⟨ps_set hN hy hx (pe_dx hh hu hc hN (pi_seq (pv i hi hv hd hcd)) ok (fun s H C cl fp => (hg s H C cl fp).pe) (fun s H C cl fp => (ht R s H C cl fp).pe) (fun s H C cl fp => (hk R s H C cl fp).pe) (fun s H C cl fp => (he R s H C cl fp).pe) hs) hsw hf, fun S ρ σ G H De Dd st c h => ?_⟩
  unfold dDxOwn at h
  split at h
  · rename_i ds ei
    obtain ⟨l, vs, g1, g2, g3, g4, g5⟩ := st.at_ i _ ei
    have gk := st.gh.keep g2 g4
    exact sem_dxAt (R := R.keep l vs) (iter_keep gk g1 g5) (hg X.s_0 X.H_0 0 [] []).sem (ht _ X.s_0 X.H_0 0 [] []).sem (hk _ X.s_0 X.H_0 0 [] []).sem (he _ X.s_0 X.H_0 0 [] []).sem hj st.envE gk (h _) fun v d G' H' e r k => c.nx _ _ G' H' ((st.step (e.unkeep g2)).setV r) k
  · exact h.elim
end
end Dl
set_option Elab.async false
set_option linter.all false
set_option maxRecDepth 100000
set_option maxHeartbeats 2000000
/-! target = e, the target of any form. -/
namespace Dl
open PySem PySem.Spec PyProof.Rows L2
section
variable {m : Pm} {R : Res} {X : Cx} {e tg : Expr} {te : TE} {de : TdE} {g : TG} {dg : TdG} {js : List Nat} {pos : Pos}
def dAsgG (de : TdE) (dg : TdG) : TdS := fun De ρ => de ρ fun d => dg d ρ De.nx
theorem pds_asg (he : PD m R X e te de) (hg : PDG m X js tg g dg) (hs : swapsWithSole [tg] e pos.line X.env = pure false := by rfl) (hw : swappedStores [tg] e X.env = pure none := by rfl) (h1 : (assignEach [tg] X.env).map (·.2) = [assign tg X.env] := by rfl) : PDS m R X (.Assign [tg] e pos) (tAsg te g) (dAsgG de dg) := by
  refine ⟨ps_asg he.pe hg.pe hs hw h1, fun S ρ σ G H De Dd st c h => ?_⟩
  refine he.sem ρ σ G H _ _ st.envE st.gh h fun v d G1 H1 e1 r1 h1 => ?_
  have st1 := st.step e1
  exact hg.sem G1 H1 v d ρ σ _ _ st1.gh.s r1 h1 fun l hl hk => c.nx _ _ G1 H1 (StOk.sets l st1 fun q hq => (hl q hq).2) hk
end
end Dl
set_option Elab.async false
set_option linter.all false
set_option maxRecDepth 100000
set_option maxHeartbeats 2000000
/-! The rules that name the written part K, K told apart from the context (a comprehension's block has a context of its own, the same K). -/
namespace Dl
open PySem PySem.Spec PyProof.Rows L2
section
variable {m : Pm} {R : Res} {X : Cx} {K : PySem.W.Frag} {e o a : Expr} {es : List Expr} {te tl ta : TE} {de dl da : TdE} {t : TA} {dt : TdA} {pos p p2 q : Pos} {x nm : Str}
theorem ke_eq (hu : X.A.units + 64 < cLine) (hK : X.K = K := by rfl) : OpD m R X (compareOp .Eq) (fun x y H Q => rEq x y H Q ∨ rEqD K x y H Q) (opEq false) := by subst hK; exact od_eq hu
theorem ke_ne (hu : X.A.units + 64 < cLine) (hK : X.K = K := by rfl) : OpD m R X (compareOp .NotEq) (fun x y H Q => rNe x y H Q ∨ rNeD K x y H Q) (opEq true) := by subst hK; exact od_ne hu
theorem ke_add (hK : X.K = K := by rfl) : OpD m R X (binaryOp .Add) (fun x y H Q => rI0 (fun i j => .int (i + j)) x y H Q ∨ rCatA K x y H Q ∨ rCat x y H Q) opAdd := by subst hK; exact od_add
theorem ke_in (hK : X.K = K := by rfl) : OpD m R X (compareOp .In) (rIn K false) (opIn false) := by subst hK; exact od_in
theorem ke_nin (hK : X.K = K := by rfl) : OpD m R X (compareOp .NotIn) (rIn K true) (opIn true) := by subst hK; exact od_nin
theorem ka_star (ha : PD m R X e te de) (hr : PDA m R X es t dt) (hs : starEach (.Starred e p :: es) X.env = (true, eval e X.env) :: starEach es X.env := by rfl) (hK : X.K = K := by rfl) : PDA m R X (.Starred e p :: es) (StX.tStar K te t) (dStar de dt) := by subst hK; exact pda_star ha hr hs
theorem k_ix (ha : PD m R X e te de) (hb : PD m R X o tl dl) (hs : PlainIx o := by exact fun _ _ => rfl) (hK : X.K = K := by rfl) : PD m R X (.Subscript e o pos) (tOp (fun x y H Q => rIxT K x y H Q ∨ rIxL K x y H Q) te tl) (dOp opIx de dl) := by subst hK; exact pd_ix ha hb hs
theorem k_slice {lo hi : Option Expr} {tlo thi : TO} {dlo dhi : TdO} (ha : PD m R X e te de) (hl : PDO m R X lo tlo dlo) (hh : PDO m R X hi thi dhi) (hK : X.K = K := by rfl) :
    PD m R X (.Subscript e (.Slice lo hi none p2) pos) (tSl (fun x lo hi H Q => rSlA K x lo hi H Q ∨ rSlL K x lo hi H Q) te tlo thi) (dSl de dlo dhi) := by subst hK; exact pd_slice ha hl hh
theorem kd_len (hK : X.K = K := by rfl) : ClD m R X (.builtin "len") (fun xs H Q => ∃ p ys, xs = [.ref p] ∧ (SqL K H p ys ∨ SqT K H p ys) ∧ Q (.int ys.length) H) fLen := by subst hK; exact cd_len
theorem kd_max (hc : X.calm = true) (hK : X.K = K := by rfl) : ClD m R X (.builtin "max") (fun xs H Q => (∃ i j, xs = [.int i, .int j] ∧ Q (.int (if j > i then j else i)) H) ∨ rMax K xs H Q) fMax := by subst hK; exact cd_max hc
theorem kd_min (hc : X.calm = true) (hK : X.K = K := by rfl) : ClD m R X (.builtin "min") (fun xs H Q => (∃ i j, xs = [.int i, .int j] ∧ Q (.int (if j < i then j else i)) H) ∨ rMin K xs H Q) fMin := by subst hK; exact cd_min hc
theorem kd_sum (hc : X.calm = true) (hK : X.K = K := by rfl) : ClD m R X (.builtin "sum") (rSum K) fSum := by subst hK; exact cd_sum hc
theorem kd_all (hc : X.calm = true) (hK : X.K = K := by rfl) : ClD m R X (.builtin "all") (rAll K) fAll := by subst hK; exact cd_all hc
theorem kd_any (hc : X.calm = true) (hK : X.K = K := by rfl) : ClD m R X (.builtin "any") (rAny K) fAny := by subst hK; exact cd_any hc
theorem kd_list (hK : X.K = K := by rfl) : ClD m R X (.type "list") (fun xs H Q => ∃ p ys, xs = [.ref p] ∧ (SqL K H p ys ∨ SqT K H p ys) ∧ ∀ l, H l = none → Q (.ref l) (upd H l (.lst ys))) fList := by subst hK; exact cd_list
theorem kd_tuple (hK : X.K = K := by rfl) : ClD m R X (.type "tuple") (fun xs H Q => ∃ p ys, xs = [.ref p] ∧ ((SqL K H p ys ∧ ∀ l, H l = none → Q (.ref l) (upd H l (.tup ys))) ∨ (SqT K H p ys ∧ Q (.ref p) H))) fTuple := by subst hK; exact cd_tuple
theorem kd_isi (hC : ∀ c, C8.InsC K (m.cl c)) (hK : X.K = K := by rfl) : ClD m R X (.builtin "isinstance") (rIsiD K) (fIsi m) := by subst hK; exact cd_isi hC
theorem k_fld {n : Nat} (i : Nat) (he : PD m R X e te de) (C : ClsN m K n) (hi : (m.nm n)[i]? = some nm) (na : NoAttr K (m.cl n) nm) (hb : attributeBase e nm X.env (eval e X.env) = eval e X.env := by rfl) (hK : X.K = K := by rfl) :
    PD m R X (.Attribute e nm pos) (tFld K te nm) (dFld n i de) := by subst hK; exact pd_fld i he C hi na hb
theorem ki_seq {tg : Expr} (he : PD m R X e te de) (hK : X.K = K := by rfl) : PDI m R X tg e (iSeq K te) (dIter de) := by subst hK; exact pdi_seq he
theorem ki_enum {elts : List Expr} {kk : Nat} {tpos : Pos} (hg : Gl X "enumerate") (hm : X.mg "enumerate" = none) (ha : PDA m R X [e] t dt) (hs : starEach [e] X.env = [(false, eval e X.env)] := by rfl) (hK : X.K = K := by rfl) :
    PDI m R X (.Tuple elts kk tpos) (.Call (.Name "enumerate" p) [e] [] pos) (iEnumX K t) (dEnum dt) := by subst hK; exact pdi_enum hg hm ha hs
theorem kg_tup {is : List Nat} {es : List Expr} {kk : Nat} {pos : Pos} (hc : X.calm = true) (h : PGs X es (gNames is)) (hn : (assignEach es X.env).length = is.length := by rfl) (hst : (assignEach es X.env).findIdx? (·.1) = none := by rfl) (hK : X.K = K := by rfl) :
    PDG m X is (.Tuple es kk pos) (gTup K is.length (gNames is)) (dgTup is) := by subst hK; exact pdg_tup hc h hn hst
theorem k_sortSet (hc : X.calm = true) (hg : Gl X "sorted") (hm : X.mg "sorted" = none) (hg2 : Gl X "set") (hm2 : X.mg "set" = none) (ha : PD m R X a ta da)
    (na : starEach [a] X.env = (false, eval a X.env) :: starEach [] X.env := by rfl) (hK : X.K = K := by rfl) : PD m R X (.Call (.Name "sorted" p) [.Call (.Name "set" p2) [a] [] q] [] pos) (tSortSet K ta) (dSortSet da) := by subst hK; exact pd_sortSet hc hg hm hg2 hm2 ha na
theorem k_lenSet (hc : X.calm = true) (hg : Gl X "len") (hm : X.mg "len" = none) (hg2 : Gl X "set") (hm2 : X.mg "set" = none) (ha : PD m R X a ta da)
    (na : starEach [a] X.env = (false, eval a X.env) :: starEach [] X.env := by rfl) (hK : X.K = K := by rfl) : PD m R X (.Call (.Name "len" p) [.Call (.Name "set" p2) [a] [] q] [] pos) (RZ.tLenSetI K ta) (dLenSet da) := by subst hK; exact pd_lenSet hc hg hm hg2 hm2 ha na
/-- an instance called, the reading without the context -/
def tCallI (C : Addr) (sp : Sp) (tf : TE) (t : TA) : TE := fun σ H Q => tf σ H fun y H1 => ∃ a, y = V.ref a ∧ t σ H1 fun vs H2 => (∃ dx fs, H2 a = some (.ins C dx fs)) ∧ sp (V.ref a :: vs) H2 Q E0
theorem pe_callI {g C : Addr} {k : Nat} {fe : Expr} {tf : TE} {sp : Sp} (hf : PE X fe tf) (c : StX.CallO X.K C g) (F : FnR X.prog X.w X.K X.mg X.base CX0 k g sp) (hr : Room k X.A) (ha : PA X (e :: es) t)
    (ht : eval (.Call fe (e :: es) [] pos) X.env = (do callWith pos (← eval fe X.env) [] (backTo pos (starEach (e :: es) X.env)) (backToKw pos (keywordEach [] X.env))) := by rfl)
    (he : starEach (e :: es) X.env = (false, eval e X.env) :: starEach es X.env := by rfl) (hpl : (backTo pos (starEach es X.env)).any (·.1) = false := by rfl) : PE X (.Call fe (e :: es) [] pos) (tCallI C sp tf t) := by
  refine ⟨fun pins s σ H Q I h => ?_⟩
  refine Call_ (thn (hf.run pins s σ H _ I h) fun u s1 ⟨y, H1, I1, ry, a, ey, q⟩ => ?_) ht
  subst ey
  obtain rfl : u = Value.ref a := ry
  refine StX.callO_with (thn (ha.run pos pins s1 σ H1 _ I1 q) fun us s2 ⟨vs, H2, I2, r, ⟨dx, fs, hi⟩, q2⟩ => ?_) he hpl
  obtain ⟨ox, od, J, hd⟩ := StX.insC_at I2 (.inr ⟨dx, fs, hi⟩)
  exact ⟨⟨C, ox, od, J, hd⟩, StX.run_callO c F hr pass0 I2 (.inr ⟨dx, fs, hi⟩) r q2⟩
theorem k_callI {g : Addr} {n k : Nat} {fe : Expr} {tf : TE} {df : TdE} {sp : DSp} (hf : PD m R X fe tf df) (c : StX.CallO K (m.cl n) g) (F : FnR X.prog X.w X.K X.mg X.base CX0 k g (spD m sp)) (hr : Room k X.A) (ha : PDA m R X (e :: es) t dt)
    (ht : eval (.Call fe (e :: es) [] pos) X.env = (do callWith pos (← eval fe X.env) [] (backTo pos (starEach (e :: es) X.env)) (backToKw pos (keywordEach [] X.env))) := by rfl)
    (he : starEach (e :: es) X.env = (false, eval e X.env) :: starEach es X.env := by rfl) (hpl : (backTo pos (starEach es X.env)).any (·.1) = false := by rfl) (hK : X.K = K := by rfl) :
    PD m R X (.Call fe (e :: es) [] pos) (tCallI (m.cl n) (spD m sp) tf t) (dMeth n (sp R) df dt) := by
  subst hK
  refine ⟨pe_callI hf.pe c F hr ha.pe ht he hpl, fun ρ σ G H kk Q hv gh h q => ?_⟩
  refine hf.sem ρ σ G H _ _ hv gh h fun v d G1 H1 e1 r1 h1 => ?_
  cases r1 with
  | @ins a dx c vs ds hx hz rs =>
    obtain ⟨rfl, h1⟩ := h1
    refine ⟨a, rfl, ?_⟩
    refine ha.sem ρ σ G1 H1 _ _ (hv.mono e1.gg) e1.gh h1 fun us bs G2 H2 e2 r2 h2 => ⟨⟨dx, _, e2.gh.s _ _ (e2.gg _ _ hx)⟩, ?_⟩
    exact ⟨R, _, G2, kk, .cons (.ins (e2.gg _ _ hx) hz (rs.mono e2.gg)) r2, e2.gh, h2, fun v d G3 H3 e3 r3 h3 => q v d G3 H3 ((e1.trans e2).trans e3) r3 h3⟩
  | _ => exact h1.elim
/-- o.f(e), f an attribute that holds an instance -/
theorem method_usual {P : Program} {w : World} {A : Around} {E : Value → Shared → Prop} {s : Shared} {x C : Addr} {ox : Obj} {od : Option Obj} {name : Str} {pl : Sem Bool} {Q : Value × List Value → Shared → Prop} (Xk : K.In s.heap) (I : PySem.W.InstAt s.heap x ox C od) (hga : PySem.W.findIn K (.ref C) "__getattribute__" = some (some (.builtin "object.__getattribute__"))) (hk : PySem.W.findIn K (.ref C) "__getattr__" = some none)
    (hf : PySem.W.findIn K (.ref C) name = some none) (h : wpAny (model P w) A (getAttr (.ref x) name false) (fun v s' => Q (v, []) s') E s) :
    wpAny (model P w) A (getMethod (.ref x) name pl) Q E s := by
  have hcan := PySem.F.canon_object_ga
  unfold getMethod specialOf
  refine wpAny_bind (wpAny_bind (I.type.here ((PySem.W.looks_findIn Xk hga).here ?_)))
  dsimp only
  rw [hcan, if_neg (by decide)]
  refine wpAny_bind (wpAny_bind (I.type.here ((PySem.W.looks_findIn Xk hk).here ?_)))
  refine wpAny_bind (wpAny_bind (I.type.here ((PySem.W.looks_findIn Xk hf).here ?_)))
  exact wpAny_bind (wpAny_mono h (fun v s' q => wpAny_pure q) fun _ _ x => x)
def tCallF (C C2 : Addr) (nm : Str) (sp : Sp) (to_ : TE) (t : TA) : TE := fun σ H Q => to_ σ H fun x H1 => ∃ b dx fs a, x = V.ref b ∧ H1 b = some (.ins C dx fs) ∧ fs.lookup nm = some (.ref a) ∧ t σ H1 fun vs H2 => (∃ dx fs, H2 a = some (.ins C2 dx fs)) ∧ sp (V.ref a :: vs) H2 Q E0
theorem pe_callF {g C C2 : Addr} {k : Nat} {to_ : TE} {sp : Sp} {apos : Pos} {pl : Sem Bool} (ho : PE X o to_) (cl : Cls X.K C) (na : NoAttr X.K C nm) (c : StX.CallO X.K C2 g) (F : FnR X.prog X.w X.K X.mg X.base CX0 k g sp) (hr : Room k X.A) (ha : PA X (e :: es) t)
    (ht : eval (.Call (.Attribute o nm apos) (e :: es) [] pos) X.env = (do
      let ov ← eval o X.env
      standAt apos.atName
      let (f, first) ← holding [ov] (getMethod ov nm pl)
      callWith pos f first (backTo pos (starEach (e :: es) X.env)) (backToKw pos (keywordEach [] X.env))) := by rfl)
    (he : starEach (e :: es) X.env = (false, eval e X.env) :: starEach es X.env := by rfl) (hpl : (backTo pos (starEach es X.env)).any (·.1) = false := by rfl) : PE X (.Call (.Attribute o nm apos) (e :: es) [] pos) (tCallF C C2 nm sp to_ t) := by
  refine ⟨fun pins s σ H Q I h => ?_⟩
  refine PySem.W.methodCall_KW (pl := pl) (thn (ho.run pins s σ H _ I h) fun u s1 ⟨x, H1, I1, rx, b, dx, fs, a, ex, ea, l, q⟩ => ?_) ht
  subst ex
  obtain rfl : u = Value.ref b := rx
  obtain ⟨ox, od, J⟩ := inst_at I1 ea
  refine method_usual I1.kIn J (PySem.W.plainGet_of (cl.get nm)).1 (PySem.W.plainGet_of (cl.get nm)).2 na (getattr_ok I1 ea cl na l fun u' s2 I2 ru => ?_)
  obtain rfl : u' = Value.ref a := ru
  refine StX.callO_with (thn (ha.run pos pins s2 σ H1 _ I2 q) fun us s3 ⟨vs, H2, I3, r, ⟨dx, fs, hi⟩, q2⟩ => ?_) he hpl
  obtain ⟨ox, od, J, hd⟩ := StX.insC_at I3 (.inr ⟨dx, fs, hi⟩)
  exact ⟨⟨C2, ox, od, J, hd⟩, StX.run_callO c F hr pass0 I3 (.inr ⟨dx, fs, hi⟩) r q2⟩
theorem k_callF {g : Addr} {n n2 k : Nat} (i : Nat) {to_ : TE} {do_ : TdE} {sp : DSp} {apos : Pos} {pl : Sem Bool} (ho : PD m R X o to_ do_) (C : ClsN m K n) (hi : (m.nm n)[i]? = some nm) (na : NoAttr K (m.cl n) nm) (c : StX.CallO K (m.cl n2) g) (F : FnR X.prog X.w X.K X.mg X.base CX0 k g (spD m sp)) (hr : Room k X.A) (ha : PDA m R X (e :: es) t dt)
    (ht : eval (.Call (.Attribute o nm apos) (e :: es) [] pos) X.env = (do
      let ov ← eval o X.env
      standAt apos.atName
      let (f, first) ← holding [ov] (getMethod ov nm pl)
      callWith pos f first (backTo pos (starEach (e :: es) X.env)) (backToKw pos (keywordEach [] X.env))) := by rfl)
    (he : starEach (e :: es) X.env = (false, eval e X.env) :: starEach es X.env := by rfl) (hpl : (backTo pos (starEach es X.env)).any (·.1) = false := by rfl) (hK : X.K = K := by rfl) :
    PD m R X (.Call (.Attribute o nm apos) (e :: es) [] pos) (tCallF (m.cl n) (m.cl n2) nm (spD m sp) to_ t) (dMeth n2 (sp R) (dFld n i do_) dt) := by
  subst hK
  refine ⟨pe_callF ho.pe C.cls na c F hr ha.pe ht he hpl, fun ρ σ G H kk Q hv gh h q => ?_⟩
  refine ho.sem ρ σ G H _ _ hv gh h fun v d G1 H1 e1 r1 h1 => ?_
  cases r1 with
  | @ins b dx c vs ds hx hz rs =>
    obtain ⟨rfl, h1⟩ := h1
    split at h1
    · rename_i d hd
      obtain ⟨v, hv1, rv⟩ := rs.get hd
      cases rv with
      | @ins a dx2 c2 vs2 ds2 hx2 hz2 rs2 =>
        obtain ⟨rfl, h1⟩ := h1
        refine ⟨b, dx, _, a, rfl, e1.gh.s _ _ hx, look_zip C.nd hi hv1, ?_⟩
        refine ha.sem ρ σ G1 H1 _ _ (hv.mono e1.gg) e1.gh h1 fun us bs G2 H2 e2 r2 h2 => ⟨⟨dx2, _, e2.gh.s _ _ (e2.gg _ _ hx2)⟩, ?_⟩
        exact ⟨R, _, G2, kk, .cons (.ins (e2.gg _ _ hx2) hz2 (rs2.mono e2.gg)) r2, e2.gh, h2, fun v d G3 H3 e3 r3 h3 => q v d G3 H3 ((e1.trans e2).trans e3) r3 h3⟩
      | _ => exact h1.elim
    · exact h1.elim
  | _ => exact h1.elim
end
end Dl
set_option Elab.async false
set_option linter.all false
set_option maxRecDepth 100000
set_option maxHeartbeats 4000000
/-! The program's defs by their places, what is known of the module. -/
namespace Dl
open PySem PySem.Spec PyProof.Rows L2
def top (i : Nat) : Stmt := PySem.Challenge.pw_stillstruck_k38_whole_alike_scripts.main.body.getD i (.Pass ⟨0, 0, 0, 0⟩)
/-- a property's getter -/
def ppa (K : PySem.W.Frag) (C : Addr) (f : Str) : Addr := match PySem.W.findIn K (.ref C) f with
  | some (some (.ref p)) => p
  | _ => 0
def pga (K : PySem.W.Frag) (C : Addr) (f : Str) : Addr := match PySem.W.recIn K (ppa K C f) "property" with
  | some (.ref g :: _) => g
  | _ => 0
/-- a def: where it stands, its text, its defaults -/
structure DefP where
  at_ : PySem.W.Frag → Addr
  name : Str
  qual : Str
  st : Stmt
  dfl : List He.Dv := []
def fnP (K : PySem.W.Frag) (a : Addr) : He.FnW := match K.lookup a with
  | some ⟨_, _, .func fd, _⟩ => some (fd.name, fd.qualname, fd.params, fd.body, fd.scope, fd.globals, fd.closure, fd.builtins)
  | _ => none
def DefP.val (d : DefP) : He.FnW := some (d.name, d.qual, defArgs d.st, .stmts (defBody d.st), defScope d.st, mainGlobals, [], builtinsNs)
def DefP.dvs (K : PySem.W.Frag) (d : DefP) : List V := d.dfl.map (He.Dv.v K)
def DefP.ok (K : PySem.W.Frag) (d : DefP) : Bool := PySem.W.keepIn K (.ref (d.at_ K)) && (match K.lookup (d.at_ K) with
  | some ⟨_, _, .func fd, _⟩ => PySem.W.codeIn K fd.code d.qual && He.dflB K fd.defaults (d.dvs K)
  | _ => false)
/-- the def stands as its text -/
def DefP.At (K : PySem.W.Frag) (d : DefP) : Prop := ∃ fd, FunD K d.name d.qual (defArgs d.st) (defBody d.st) (defScope d.st) (d.dvs K) [] (d.at_ K) fd
theorem DefP.at_of {K : PySem.W.Frag} {d : DefP} (e : fnP K (d.at_ K) = d.val) (c : d.ok K = true) : d.At K := by
  obtain ⟨kp, c2⟩ := He.ba c
  unfold fnP at e
  cases q : K.lookup (d.at_ K) with
  | none =>
    rw [q] at c2
    cases c2
  | some o =>
    obtain ⟨oc, od, dt, osl⟩ := o
    rw [q] at c2 e
    cases dt with
    | func fd =>
      obtain ⟨n1, n2, n3, n4, n5, n6, n7, n8, n9, n10, n11, n12, n13, n14, n15⟩ := fd
      have e2 : (some (n1, n2, n3, n4, n5, n6, n7, n15) : He.FnW) = some (d.name, d.qual, defArgs d.st, .stmts (defBody d.st), defScope d.st, mainGlobals, [], builtinsNs) := e
      simp only [Option.some.injEq, Prod.mk.injEq] at e2
      obtain ⟨h1, h2, h3, h4, h5, h6, h7, h8⟩ := e2
      subst h1 h2 h3 h4 h5 h6 h7 h8
      obtain ⟨k1, k3⟩ := He.ba (show (PySem.W.codeIn K n13 d.qual && He.dflB K n8 (d.dvs K)) = true from c2)
      exact ⟨_, ⟨oc, od, n8, n9, n10, n11, n12, n13, n14, osl, rfl, q, k1, He.dflB_ok k3, .inl rfl⟩, kp⟩
    | _ => cases c2
/-! more facts -/
inductive Fb where
  | own (x m : Str)
  | ownG (x m : Str)
  | ins (x : Str)
  | self_ (x : Str)
  | prop (x f : Str)
def Fb.ok (K : PySem.W.Frag) : Fb → Bool
  | .own x m => He.eqO (PySem.W.findIn K (.ref (He.ga K x)) m) (some (some (.ref (He.ma K (He.ga K x) m)))) && PySem.W.isFn K (.ref (He.ma K (He.ga K x) m))
  | .ownG x m => He.eqO (PySem.W.findIn K (.ref (He.ga K x)) m) (some (some (.ref (He.ma K (He.ga K x) m)))) && (PySem.W.isFn K (.ref (He.ma K (He.ga K x) m)) && PySem.W.fnIn K (He.ma K (He.ga K x) m))
  | .ins x => He.eqO (PySem.W.findIn K (.ref (He.ga K x)) "__class__") (some (some (.builtin "object.__class__"))) && (He.eqO (PySem.W.specialIn K (.builtin "object.__class__") "__get__") (some (some (.builtin "getset_descriptor.__get__"))) &&
      (decide (PySem.W.takesIn K (.builtin "object.__class__") = some true) && (decide (PySem.W.mroIn K (He.ga K x) (.type "object") = some true) && decide (PySem.W.kitOne K (.ref (He.ga K x)) (.ref (He.ga K x)) = some true))))
  | .self_ x => PySem.W.selfFirst K (He.ga K x)
  | .prop x f => He.eqO (PySem.W.findIn K (.ref (He.ga K x)) f) (some (some (.ref (ppa K (He.ga K x) f)))) && (He.eqO (PySem.W.specialIn K (.ref (ppa K (He.ga K x) f)) "__get__") (some (some (.builtin "property.__get__"))) &&
      (decide (PySem.W.takesIn K (.ref (ppa K (He.ga K x) f)) = some true) && (match PySem.W.recIn K (ppa K (He.ga K x) f) "property" with
        | some (.ref _ :: _) => true
        | _ => false)))
section
variable {K : PySem.W.Frag}
theorem own_ok {x m : Str} (c : (Fb.own x m).ok K = true) : OwnM K (He.ga K x) m (He.ma K (He.ga K x) m) := by
  obtain ⟨c1, c2⟩ := He.ba c
  exact ⟨He.eqO_ok c1, c2⟩
theorem ownG_ok {x : Str} (c : (Fb.ownG x "__getitem__").ok K = true) : OwnG K (He.ga K x) (He.ma K (He.ga K x) "__getitem__") := by
  obtain ⟨c1, c2⟩ := He.ba c
  obtain ⟨c2, c3⟩ := He.ba c2
  exact ⟨He.eqO_ok c1, c2, c3⟩
theorem callO_ok {x : Str} (c : (Fb.ownG x "__call__").ok K = true) : StX.CallO K (He.ga K x) (He.ma K (He.ga K x) "__call__") := by
  obtain ⟨c1, c2⟩ := He.ba c
  obtain ⟨c2, c3⟩ := He.ba c2
  exact ⟨He.eqO_ok c1, c2, c3⟩
theorem ins_ok {x : Str} (c : (Fb.ins x).ok K = true) (d : Cls K (He.ga K x)) : C8.InsC K (He.ga K x) := by
  obtain ⟨c1, c⟩ := He.ba c
  obtain ⟨c2, c⟩ := He.ba c
  obtain ⟨c3, c⟩ := He.ba c
  obtain ⟨c4, c5⟩ := He.ba c
  exact ⟨d, He.eqO_ok c1, He.eqO_ok c2, of_decide_eq_true c3, of_decide_eq_true c4, of_decide_eq_true c5⟩
theorem prop_ok {x f : Str} (c : (Fb.prop x f).ok K = true) : PropOf K (He.ga K x) f (ppa K (He.ga K x) f) (pga K (He.ga K x) f) := by
  obtain ⟨c1, c⟩ := He.ba c
  obtain ⟨c2, c⟩ := He.ba c
  obtain ⟨c3, c4⟩ := He.ba c
  refine ⟨He.eqO_ok c1, He.eqO_ok c2, of_decide_eq_true c3, ?_⟩
  unfold pga
  split at c4
  · rename_i g rest e
    exact ⟨rest, by rw [e]⟩
  · cases c4
end
/-- the classes by numbers: 0 Rhythm, 1 Script, 2 Side -/
def pm (K : PySem.W.Frag) (w : World) : Pm where
  cl := fun n => match n with
    | 0 => He.ga K "Rhythm"
    | 1 => He.ga K "Script"
    | _ => He.ga K "Side"
  nm := fun n => match n with
    | 0 => ["own_form"]
    | 1 => ["own_steps"]
    | _ => ["own_script", "there", "news"]
  hs := fun k => k.nk.hash w
theorem hsOk (K : PySem.W.Frag) (w : World) : HsOk (pm K w) w := fun _ => rfl

def p_is_number : DefP := { at_ := fun K => He.ga K "is_number", name := "is_number", qual := "is_number", st := top 11 }
def p_is_list : DefP := { at_ := fun K => He.ga K "is_list", name := "is_list", qual := "is_list", st := top 12 }
def p_are_different : DefP := { at_ := fun K => He.ga K "are_different", name := "are_different", qual := "are_different", st := top 13 }
def p_common : DefP := { at_ := fun K => He.ga K "common", name := "common", qual := "common", st := top 14 }
def p_repeats : DefP := { at_ := fun K => He.ga K "repeats", name := "repeats", qual := "repeats", st := top 15 }
def p_least_form : DefP := { at_ := fun K => He.ga K "least_form", name := "least_form", qual := "least_form", st := top 16 }
def p_Rhythm_init : DefP := { at_ := fun K => He.ma K (He.ga K "Rhythm") "__init__", name := "__init__", qual := "Rhythm.__init__", st := inClass (top 17) 0 }
def p_Rhythm_size : DefP := { at_ := fun K => pga K (He.ga K "Rhythm") "size", name := "size", qual := "Rhythm.size", st := inClass (top 17) 2 }
def p_Rhythm_contains : DefP := { at_ := fun K => He.ma K (He.ga K "Rhythm") "__contains__", name := "__contains__", qual := "Rhythm.__contains__", st := inClass (top 17) 5 }
def p_common_round : DefP := { at_ := fun K => He.ga K "common_round", name := "common_round", qual := "common_round", st := top 18 }
def p_is_step_number : DefP := { at_ := fun K => He.ga K "is_step_number", name := "is_step_number", qual := "is_step_number", st := top 30 }
def p_is_plain_step : DefP := { at_ := fun K => He.ga K "is_plain_step", name := "is_plain_step", qual := "is_plain_step", st := top 31 }
def p_is_add : DefP := { at_ := fun K => He.ga K "is_add", name := "is_add", qual := "is_add", st := top 32 }
def p_is_since : DefP := { at_ := fun K => He.ga K "is_since", name := "is_since", qual := "is_since", st := top 33 }
def p_is_step : DefP := { at_ := fun K => He.ga K "is_step", name := "is_step", qual := "is_step", st := top 34 }
def p_flat : DefP := { at_ := fun K => He.ga K "flat", name := "flat", qual := "flat", st := top 35 }
def p_round_of : DefP := { at_ := fun K => He.ga K "round_of", name := "round_of", qual := "round_of", st := top 36 }
def p_need_few : DefP := { at_ := fun K => He.ga K "need_few", name := "need_few", qual := "need_few", st := top 37 }
def p_holds : DefP := { at_ := fun K => He.ga K "holds", name := "holds", qual := "holds", st := top 38 }
def p_behind : DefP := { at_ := fun K => He.ga K "behind", name := "behind", qual := "behind", st := top 39 }
def p_behind_all : DefP := { at_ := fun K => He.ga K "behind_all", name := "behind_all", qual := "behind_all", st := top 40 }
def p_Script_init : DefP := { at_ := fun K => He.ma K (He.ga K "Script") "__init__", name := "__init__", qual := "Script.__init__", st := inClass (top 41) 0, dfl := [.adr (He.dflAt ("Script", some "__init__") 0)] }
def p_Script_steps : DefP := { at_ := fun K => pga K (He.ga K "Script") "steps", name := "steps", qual := "Script.steps", st := inClass (top 41) 1 }
def p_Script_size : DefP := { at_ := fun K => pga K (He.ga K "Script") "size", name := "size", qual := "Script.size", st := inClass (top 41) 2 }
def p_Script_len : DefP := { at_ := fun K => He.ma K (He.ga K "Script") "__len__", name := "__len__", qual := "Script.__len__", st := inClass (top 41) 3 }
def p_Script_getitem : DefP := { at_ := fun K => He.ma K (He.ga K "Script") "__getitem__", name := "__getitem__", qual := "Script.__getitem__", st := inClass (top 41) 4 }
def p_Script_call : DefP := { at_ := fun K => He.ma K (He.ga K "Script") "__call__", name := "__call__", qual := "Script.__call__", st := inClass (top 41) 6 }
def p_Script_add : DefP := { at_ := fun K => He.ma K (He.ga K "Script") "__add__", name := "__add__", qual := "Script.__add__", st := inClass (top 41) 7 }
def p_Script_without : DefP := { at_ := fun K => He.ma K (He.ga K "Script") "without", name := "without", qual := "Script.without", st := inClass (top 41) 9 }
def p_Script_has_new : DefP := { at_ := fun K => He.ma K (He.ga K "Script") "has_new", name := "has_new", qual := "Script.has_new", st := inClass (top 41) 10 }
def p_need_at : DefP := { at_ := fun K => He.ga K "need_at", name := "need_at", qual := "need_at", st := top 42 }
def p_span : DefP := { at_ := fun K => He.ga K "span", name := "span", qual := "span", st := top 44 }
def p_border : DefP := { at_ := fun K => He.ga K "border", name := "border", qual := "border", st := top 45 }
def p_far : DefP := { at_ := fun K => He.ga K "far", name := "far", qual := "far", st := top 46 }
def p_days_of : DefP := { at_ := fun K => He.ga K "days_of", name := "days_of", qual := "days_of", st := top 47 }
def p_new_ones : DefP := { at_ := fun K => He.ga K "new_ones", name := "new_ones", qual := "new_ones", st := top 48 }
def p_need_day : DefP := { at_ := fun K => He.ga K "need_day", name := "need_day", qual := "need_day", st := top 49 }
def p_nearer : DefP := { at_ := fun K => He.ga K "nearer", name := "nearer", qual := "nearer", st := top 50 }
def p_near_offers : DefP := { at_ := fun K => He.ga K "near_offers", name := "near_offers", qual := "near_offers", st := top 51 }
def p_block_of : DefP := { at_ := fun K => He.ga K "block_of", name := "block_of", qual := "block_of", st := top 52 }
def p_are_dates : DefP := { at_ := fun K => He.ga K "are_dates", name := "are_dates", qual := "are_dates", st := top 56 }
def p_need_dates : DefP := { at_ := fun K => He.ga K "need_dates", name := "need_dates", qual := "need_dates", st := top 57 }
def p_in_order : DefP := { at_ := fun K => He.ga K "in_order", name := "in_order", qual := "in_order", st := top 58 }
def p_stands_behind : DefP := { at_ := fun K => He.ga K "stands_behind", name := "stands_behind", qual := "stands_behind", st := top 59 }
def p_all_stands : DefP := { at_ := fun K => He.ga K "all_stands", name := "all_stands", qual := "all_stands", st := top 60 }
def p_first_block : DefP := { at_ := fun K => He.ga K "first_block", name := "first_block", qual := "first_block", st := top 62 }
def p_Side_init : DefP := { at_ := fun K => He.ma K (He.ga K "Side") "__init__", name := "__init__", qual := "Side.__init__", st := inClass (top 65) 0 }
def p_Side_told : DefP := { at_ := fun K => He.ma K (He.ga K "Side") "told", name := "told", qual := "Side.told", st := inClass (top 65) 1 }
def p_parted_by_two : DefP := { at_ := fun K => He.ga K "parted_by_two", name := "parted_by_two", qual := "parted_by_two", st := top 66 }
def p_parting : DefP := { at_ := fun K => He.ga K "parting", name := "parting", qual := "parting", st := top 67 }
def p_alike : DefP := { at_ := fun K => He.ga K "alike", name := "alike", qual := "alike", st := top 68 }
def p_idle_steps : DefP := { at_ := fun K => He.ga K "idle_steps", name := "idle_steps", qual := "idle_steps", st := top 69 }
def p_tuples_below : DefP := { at_ := fun K => He.ga K "tuples_below", name := "tuples_below", qual := "tuples_below", st := top 70 }
def p_cut_down : DefP := { at_ := fun K => He.ga K "cut_down", name := "cut_down", qual := "cut_down", st := top 71 }
def p_l_begun : DefP := { at_ := fun K => He.ga K "_law_begun", name := "_law_begun", qual := "_law_begun", st := top 73 }
def p_l_mixed : DefP := { at_ := fun K => He.ga K "_law_mixed", name := "_law_mixed", qual := "_law_mixed", st := top 74 }
def p_l_take : DefP := { at_ := fun K => He.ga K "_law_take", name := "_law_take", qual := "_law_take", st := top 75 }
def p_l_pick : DefP := { at_ := fun K => He.ga K "_law_pick", name := "_law_pick", qual := "_law_pick", st := top 76 }
def p_l_shuffled : DefP := { at_ := fun K => He.ga K "_law_shuffled", name := "_law_shuffled", qual := "_law_shuffled", st := top 77 }
def p_l_real : DefP := { at_ := fun K => He.ga K "_law_real", name := "_law_real", qual := "_law_real", st := top 78 }
def p_l_made : DefP := { at_ := fun K => He.ga K "_law_made", name := "_law_made", qual := "_law_made", st := top 79 }
def p_l_dates : DefP := { at_ := fun K => He.ga K "_law_dates", name := "_law_dates", qual := "_law_dates", st := top 80 }
def p_l_tiny_rhythm : DefP := { at_ := fun K => He.ga K "_law_tiny_rhythm", name := "_law_tiny_rhythm", qual := "_law_tiny_rhythm", st := top 81 }
def p_l_tiny_step : DefP := { at_ := fun K => He.ga K "_law_tiny_step", name := "_law_tiny_step", qual := "_law_tiny_step", st := top 82 }
def p_l_tiny : DefP := { at_ := fun K => He.ga K "_law_tiny", name := "_law_tiny", qual := "_law_tiny", st := top 83 }
def p_l_cut : DefP := { at_ := fun K => He.ga K "_law_cut", name := "_law_cut", qual := "_law_cut", st := top 84 }
def p_l_kin : DefP := { at_ := fun K => He.ga K "_law_kin", name := "_law_kin", qual := "_law_kin", st := top 85 }
def p_l_parted_right : DefP := { at_ := fun K => He.ga K "_law_parted_right", name := "_law_parted_right", qual := "_law_parted_right", st := top 86 }
def p_l_alike_right : DefP := { at_ := fun K => He.ga K "_law_alike_right", name := "_law_alike_right", qual := "_law_alike_right", st := top 87 }
def p_law : DefP := { at_ := fun K => He.ga K "law", name := "law", qual := "law", st := top 88 }
def faL : List He.Fa := [.glo "is_number", .glo "is_list", .glo "are_different", .glo "common", .glo "repeats", .glo "least_form", .glo "common_round", .glo "is_step_number", .glo "is_plain_step", .glo "is_add", .glo "is_since", .glo "is_step", .glo "flat", .glo "round_of", .glo "need_few", .glo "holds", .glo "behind", .glo "behind_all", .glo "need_at", .glo "span", .glo "border", .glo "far", .glo "days_of", .glo "new_ones", .glo "need_day", .glo "nearer", .glo "near_offers", .glo "block_of", .glo "are_dates", .glo "need_dates", .glo "in_order", .glo "stands_behind", .glo "all_stands", .glo "first_block", .glo "parted_by_two", .glo "parting", .glo "alike", .glo "idle_steps", .glo "tuples_below", .glo "cut_down", .glo "_law_begun", .glo "_law_mixed", .glo "_law_take", .glo "_law_pick", .glo "_law_shuffled", .glo "_law_real", .glo "_law_made", .glo "_law_dates", .glo "_law_tiny_rhythm", .glo "_law_tiny_step", .glo "_law_tiny", .glo "_law_cut", .glo "_law_kin", .glo "_law_parted_right", .glo "_law_alike_right", .glo "law", .glo "Rhythm", .glo "Script", .glo "Side", .free "isinstance", .free "int", .free "bool", .free "list", .free "tuple", .free "all", .free "any", .free "len", .free "set", .free "range", .free "sorted", .free "abs", .free "max", .free "min", .free "sum", .free "enumerate", .free "str", .int "MOST_SIZE" 3000, .int "FARTHEST" 100, .int "MOST_STEPS" 12, .int "MOST_ROUND" 84, .int "MOST_DATES" 12, .int "LAST_DATE" 1000, .int "MOST_CUT" 8, .str "SHIFT" "shift", .str "KEEP" "keep", .str "STRIKE" "strike", .str "FROM" "from", .str "UNTIL" "until", .str "ADD" "add", .str "SINCE" "since", .cls "Rhythm", .noat "Rhythm" "own_form", .mkr "Rhythm", .cls "Script", .noat "Script" "own_steps", .mkr "Script", .cls "Side", .noat "Side" "own_script", .noat "Side" "there", .noat "Side" "news", .mkr "Side", .meth "Script" "without", .meth "Script" "has_new", .meth "Side" "told"]
def fbL : List Fb := [.ins "Rhythm", .ins "Script", .ins "Side", .own "Rhythm" "__contains__", .own "Script" "__len__", .own "Script" "__add__", .ownG "Script" "__getitem__", .ownG "Script" "__call__", .self_ "Script", .prop "Rhythm" "size", .prop "Script" "size", .prop "Script" "steps"]
def fdL : List DefP := [p_is_number, p_is_list, p_are_different, p_common, p_repeats, p_least_form, p_Rhythm_init, p_Rhythm_size, p_Rhythm_contains, p_common_round, p_is_step_number, p_is_plain_step, p_is_add, p_is_since, p_is_step, p_flat, p_round_of, p_need_few, p_holds, p_behind, p_behind_all, p_Script_init, p_Script_steps, p_Script_size, p_Script_len, p_Script_getitem, p_Script_call, p_Script_add, p_Script_without, p_Script_has_new, p_need_at, p_span, p_border, p_far, p_days_of, p_new_ones, p_need_day, p_nearer, p_near_offers, p_block_of, p_are_dates, p_need_dates, p_in_order, p_stands_behind, p_all_stands, p_first_block, p_Side_init, p_Side_told, p_parted_by_two, p_parting, p_alike, p_idle_steps, p_tuples_below, p_cut_down, p_l_begun, p_l_mixed, p_l_take, p_l_pick, p_l_shuffled, p_l_real, p_l_made, p_l_dates, p_l_tiny_rhythm, p_l_tiny_step, p_l_tiny, p_l_cut, p_l_kin, p_l_parted_right, p_l_alike_right, p_law]
structure Sys (K : PySem.W.Frag) (mg : Str → Option Value) : Prop where
  inn : ∃ h : Heap, K.In h ∧ h.Ns mainGlobals mg
  fa : ∀ f ∈ faL, f.ok K = true
  fb : ∀ f ∈ fbL, f.ok K = true
  fd : ∀ d ∈ fdL, d.At K
section
variable {K : PySem.W.Frag} {mg : Str → Option Value} (c : Sys K mg)
include c
theorem Sys.g_is_number : mg "is_number" = some (.ref (He.ga K "is_number")) := let ⟨_, X, G⟩ := c.inn; He.glo_ok X G (c.fa _ (List.mem_of_getElem? (i := 0) rfl))
theorem Sys.g_is_list : mg "is_list" = some (.ref (He.ga K "is_list")) := let ⟨_, X, G⟩ := c.inn; He.glo_ok X G (c.fa _ (List.mem_of_getElem? (i := 1) rfl))
theorem Sys.g_are_different : mg "are_different" = some (.ref (He.ga K "are_different")) := let ⟨_, X, G⟩ := c.inn; He.glo_ok X G (c.fa _ (List.mem_of_getElem? (i := 2) rfl))
theorem Sys.g_common : mg "common" = some (.ref (He.ga K "common")) := let ⟨_, X, G⟩ := c.inn; He.glo_ok X G (c.fa _ (List.mem_of_getElem? (i := 3) rfl))
theorem Sys.g_repeats : mg "repeats" = some (.ref (He.ga K "repeats")) := let ⟨_, X, G⟩ := c.inn; He.glo_ok X G (c.fa _ (List.mem_of_getElem? (i := 4) rfl))
theorem Sys.g_least_form : mg "least_form" = some (.ref (He.ga K "least_form")) := let ⟨_, X, G⟩ := c.inn; He.glo_ok X G (c.fa _ (List.mem_of_getElem? (i := 5) rfl))
theorem Sys.g_common_round : mg "common_round" = some (.ref (He.ga K "common_round")) := let ⟨_, X, G⟩ := c.inn; He.glo_ok X G (c.fa _ (List.mem_of_getElem? (i := 6) rfl))
theorem Sys.g_is_step_number : mg "is_step_number" = some (.ref (He.ga K "is_step_number")) := let ⟨_, X, G⟩ := c.inn; He.glo_ok X G (c.fa _ (List.mem_of_getElem? (i := 7) rfl))
theorem Sys.g_is_plain_step : mg "is_plain_step" = some (.ref (He.ga K "is_plain_step")) := let ⟨_, X, G⟩ := c.inn; He.glo_ok X G (c.fa _ (List.mem_of_getElem? (i := 8) rfl))
theorem Sys.g_is_add : mg "is_add" = some (.ref (He.ga K "is_add")) := let ⟨_, X, G⟩ := c.inn; He.glo_ok X G (c.fa _ (List.mem_of_getElem? (i := 9) rfl))
theorem Sys.g_is_since : mg "is_since" = some (.ref (He.ga K "is_since")) := let ⟨_, X, G⟩ := c.inn; He.glo_ok X G (c.fa _ (List.mem_of_getElem? (i := 10) rfl))
theorem Sys.g_is_step : mg "is_step" = some (.ref (He.ga K "is_step")) := let ⟨_, X, G⟩ := c.inn; He.glo_ok X G (c.fa _ (List.mem_of_getElem? (i := 11) rfl))
theorem Sys.g_flat : mg "flat" = some (.ref (He.ga K "flat")) := let ⟨_, X, G⟩ := c.inn; He.glo_ok X G (c.fa _ (List.mem_of_getElem? (i := 12) rfl))
theorem Sys.g_round_of : mg "round_of" = some (.ref (He.ga K "round_of")) := let ⟨_, X, G⟩ := c.inn; He.glo_ok X G (c.fa _ (List.mem_of_getElem? (i := 13) rfl))
theorem Sys.g_need_few : mg "need_few" = some (.ref (He.ga K "need_few")) := let ⟨_, X, G⟩ := c.inn; He.glo_ok X G (c.fa _ (List.mem_of_getElem? (i := 14) rfl))
theorem Sys.g_holds : mg "holds" = some (.ref (He.ga K "holds")) := let ⟨_, X, G⟩ := c.inn; He.glo_ok X G (c.fa _ (List.mem_of_getElem? (i := 15) rfl))
theorem Sys.g_behind : mg "behind" = some (.ref (He.ga K "behind")) := let ⟨_, X, G⟩ := c.inn; He.glo_ok X G (c.fa _ (List.mem_of_getElem? (i := 16) rfl))
theorem Sys.g_behind_all : mg "behind_all" = some (.ref (He.ga K "behind_all")) := let ⟨_, X, G⟩ := c.inn; He.glo_ok X G (c.fa _ (List.mem_of_getElem? (i := 17) rfl))
theorem Sys.g_need_at : mg "need_at" = some (.ref (He.ga K "need_at")) := let ⟨_, X, G⟩ := c.inn; He.glo_ok X G (c.fa _ (List.mem_of_getElem? (i := 18) rfl))
theorem Sys.g_span : mg "span" = some (.ref (He.ga K "span")) := let ⟨_, X, G⟩ := c.inn; He.glo_ok X G (c.fa _ (List.mem_of_getElem? (i := 19) rfl))
theorem Sys.g_border : mg "border" = some (.ref (He.ga K "border")) := let ⟨_, X, G⟩ := c.inn; He.glo_ok X G (c.fa _ (List.mem_of_getElem? (i := 20) rfl))
theorem Sys.g_far : mg "far" = some (.ref (He.ga K "far")) := let ⟨_, X, G⟩ := c.inn; He.glo_ok X G (c.fa _ (List.mem_of_getElem? (i := 21) rfl))
theorem Sys.g_days_of : mg "days_of" = some (.ref (He.ga K "days_of")) := let ⟨_, X, G⟩ := c.inn; He.glo_ok X G (c.fa _ (List.mem_of_getElem? (i := 22) rfl))
theorem Sys.g_new_ones : mg "new_ones" = some (.ref (He.ga K "new_ones")) := let ⟨_, X, G⟩ := c.inn; He.glo_ok X G (c.fa _ (List.mem_of_getElem? (i := 23) rfl))
theorem Sys.g_need_day : mg "need_day" = some (.ref (He.ga K "need_day")) := let ⟨_, X, G⟩ := c.inn; He.glo_ok X G (c.fa _ (List.mem_of_getElem? (i := 24) rfl))
theorem Sys.g_nearer : mg "nearer" = some (.ref (He.ga K "nearer")) := let ⟨_, X, G⟩ := c.inn; He.glo_ok X G (c.fa _ (List.mem_of_getElem? (i := 25) rfl))
theorem Sys.g_near_offers : mg "near_offers" = some (.ref (He.ga K "near_offers")) := let ⟨_, X, G⟩ := c.inn; He.glo_ok X G (c.fa _ (List.mem_of_getElem? (i := 26) rfl))
theorem Sys.g_block_of : mg "block_of" = some (.ref (He.ga K "block_of")) := let ⟨_, X, G⟩ := c.inn; He.glo_ok X G (c.fa _ (List.mem_of_getElem? (i := 27) rfl))
theorem Sys.g_are_dates : mg "are_dates" = some (.ref (He.ga K "are_dates")) := let ⟨_, X, G⟩ := c.inn; He.glo_ok X G (c.fa _ (List.mem_of_getElem? (i := 28) rfl))
theorem Sys.g_need_dates : mg "need_dates" = some (.ref (He.ga K "need_dates")) := let ⟨_, X, G⟩ := c.inn; He.glo_ok X G (c.fa _ (List.mem_of_getElem? (i := 29) rfl))
theorem Sys.g_in_order : mg "in_order" = some (.ref (He.ga K "in_order")) := let ⟨_, X, G⟩ := c.inn; He.glo_ok X G (c.fa _ (List.mem_of_getElem? (i := 30) rfl))
theorem Sys.g_stands_behind : mg "stands_behind" = some (.ref (He.ga K "stands_behind")) := let ⟨_, X, G⟩ := c.inn; He.glo_ok X G (c.fa _ (List.mem_of_getElem? (i := 31) rfl))
theorem Sys.g_all_stands : mg "all_stands" = some (.ref (He.ga K "all_stands")) := let ⟨_, X, G⟩ := c.inn; He.glo_ok X G (c.fa _ (List.mem_of_getElem? (i := 32) rfl))
theorem Sys.g_first_block : mg "first_block" = some (.ref (He.ga K "first_block")) := let ⟨_, X, G⟩ := c.inn; He.glo_ok X G (c.fa _ (List.mem_of_getElem? (i := 33) rfl))
theorem Sys.g_parted_by_two : mg "parted_by_two" = some (.ref (He.ga K "parted_by_two")) := let ⟨_, X, G⟩ := c.inn; He.glo_ok X G (c.fa _ (List.mem_of_getElem? (i := 34) rfl))
theorem Sys.g_parting : mg "parting" = some (.ref (He.ga K "parting")) := let ⟨_, X, G⟩ := c.inn; He.glo_ok X G (c.fa _ (List.mem_of_getElem? (i := 35) rfl))
theorem Sys.g_alike : mg "alike" = some (.ref (He.ga K "alike")) := let ⟨_, X, G⟩ := c.inn; He.glo_ok X G (c.fa _ (List.mem_of_getElem? (i := 36) rfl))
theorem Sys.g_idle_steps : mg "idle_steps" = some (.ref (He.ga K "idle_steps")) := let ⟨_, X, G⟩ := c.inn; He.glo_ok X G (c.fa _ (List.mem_of_getElem? (i := 37) rfl))
theorem Sys.g_tuples_below : mg "tuples_below" = some (.ref (He.ga K "tuples_below")) := let ⟨_, X, G⟩ := c.inn; He.glo_ok X G (c.fa _ (List.mem_of_getElem? (i := 38) rfl))
theorem Sys.g_cut_down : mg "cut_down" = some (.ref (He.ga K "cut_down")) := let ⟨_, X, G⟩ := c.inn; He.glo_ok X G (c.fa _ (List.mem_of_getElem? (i := 39) rfl))
theorem Sys.g_l_begun : mg "_law_begun" = some (.ref (He.ga K "_law_begun")) := let ⟨_, X, G⟩ := c.inn; He.glo_ok X G (c.fa _ (List.mem_of_getElem? (i := 40) rfl))
theorem Sys.g_l_mixed : mg "_law_mixed" = some (.ref (He.ga K "_law_mixed")) := let ⟨_, X, G⟩ := c.inn; He.glo_ok X G (c.fa _ (List.mem_of_getElem? (i := 41) rfl))
theorem Sys.g_l_take : mg "_law_take" = some (.ref (He.ga K "_law_take")) := let ⟨_, X, G⟩ := c.inn; He.glo_ok X G (c.fa _ (List.mem_of_getElem? (i := 42) rfl))
theorem Sys.g_l_pick : mg "_law_pick" = some (.ref (He.ga K "_law_pick")) := let ⟨_, X, G⟩ := c.inn; He.glo_ok X G (c.fa _ (List.mem_of_getElem? (i := 43) rfl))
theorem Sys.g_l_shuffled : mg "_law_shuffled" = some (.ref (He.ga K "_law_shuffled")) := let ⟨_, X, G⟩ := c.inn; He.glo_ok X G (c.fa _ (List.mem_of_getElem? (i := 44) rfl))
theorem Sys.g_l_real : mg "_law_real" = some (.ref (He.ga K "_law_real")) := let ⟨_, X, G⟩ := c.inn; He.glo_ok X G (c.fa _ (List.mem_of_getElem? (i := 45) rfl))
theorem Sys.g_l_made : mg "_law_made" = some (.ref (He.ga K "_law_made")) := let ⟨_, X, G⟩ := c.inn; He.glo_ok X G (c.fa _ (List.mem_of_getElem? (i := 46) rfl))
theorem Sys.g_l_dates : mg "_law_dates" = some (.ref (He.ga K "_law_dates")) := let ⟨_, X, G⟩ := c.inn; He.glo_ok X G (c.fa _ (List.mem_of_getElem? (i := 47) rfl))
theorem Sys.g_l_tiny_rhythm : mg "_law_tiny_rhythm" = some (.ref (He.ga K "_law_tiny_rhythm")) := let ⟨_, X, G⟩ := c.inn; He.glo_ok X G (c.fa _ (List.mem_of_getElem? (i := 48) rfl))
theorem Sys.g_l_tiny_step : mg "_law_tiny_step" = some (.ref (He.ga K "_law_tiny_step")) := let ⟨_, X, G⟩ := c.inn; He.glo_ok X G (c.fa _ (List.mem_of_getElem? (i := 49) rfl))
theorem Sys.g_l_tiny : mg "_law_tiny" = some (.ref (He.ga K "_law_tiny")) := let ⟨_, X, G⟩ := c.inn; He.glo_ok X G (c.fa _ (List.mem_of_getElem? (i := 50) rfl))
theorem Sys.g_l_cut : mg "_law_cut" = some (.ref (He.ga K "_law_cut")) := let ⟨_, X, G⟩ := c.inn; He.glo_ok X G (c.fa _ (List.mem_of_getElem? (i := 51) rfl))
theorem Sys.g_l_kin : mg "_law_kin" = some (.ref (He.ga K "_law_kin")) := let ⟨_, X, G⟩ := c.inn; He.glo_ok X G (c.fa _ (List.mem_of_getElem? (i := 52) rfl))
theorem Sys.g_l_parted_right : mg "_law_parted_right" = some (.ref (He.ga K "_law_parted_right")) := let ⟨_, X, G⟩ := c.inn; He.glo_ok X G (c.fa _ (List.mem_of_getElem? (i := 53) rfl))
theorem Sys.g_l_alike_right : mg "_law_alike_right" = some (.ref (He.ga K "_law_alike_right")) := let ⟨_, X, G⟩ := c.inn; He.glo_ok X G (c.fa _ (List.mem_of_getElem? (i := 54) rfl))
theorem Sys.g_law : mg "law" = some (.ref (He.ga K "law")) := let ⟨_, X, G⟩ := c.inn; He.glo_ok X G (c.fa _ (List.mem_of_getElem? (i := 55) rfl))
theorem Sys.g_Rhythm : mg "Rhythm" = some (.ref (He.ga K "Rhythm")) := let ⟨_, X, G⟩ := c.inn; He.glo_ok X G (c.fa _ (List.mem_of_getElem? (i := 56) rfl))
theorem Sys.g_Script : mg "Script" = some (.ref (He.ga K "Script")) := let ⟨_, X, G⟩ := c.inn; He.glo_ok X G (c.fa _ (List.mem_of_getElem? (i := 57) rfl))
theorem Sys.g_Side : mg "Side" = some (.ref (He.ga K "Side")) := let ⟨_, X, G⟩ := c.inn; He.glo_ok X G (c.fa _ (List.mem_of_getElem? (i := 58) rfl))
theorem Sys.n_isinstance : mg "isinstance" = none := let ⟨_, X, G⟩ := c.inn; He.free_ok X G (c.fa _ (List.mem_of_getElem? (i := 59) rfl))
theorem Sys.n_int : mg "int" = none := let ⟨_, X, G⟩ := c.inn; He.free_ok X G (c.fa _ (List.mem_of_getElem? (i := 60) rfl))
theorem Sys.n_bool : mg "bool" = none := let ⟨_, X, G⟩ := c.inn; He.free_ok X G (c.fa _ (List.mem_of_getElem? (i := 61) rfl))
theorem Sys.n_list : mg "list" = none := let ⟨_, X, G⟩ := c.inn; He.free_ok X G (c.fa _ (List.mem_of_getElem? (i := 62) rfl))
theorem Sys.n_tuple : mg "tuple" = none := let ⟨_, X, G⟩ := c.inn; He.free_ok X G (c.fa _ (List.mem_of_getElem? (i := 63) rfl))
theorem Sys.n_all : mg "all" = none := let ⟨_, X, G⟩ := c.inn; He.free_ok X G (c.fa _ (List.mem_of_getElem? (i := 64) rfl))
theorem Sys.n_any : mg "any" = none := let ⟨_, X, G⟩ := c.inn; He.free_ok X G (c.fa _ (List.mem_of_getElem? (i := 65) rfl))
theorem Sys.n_len : mg "len" = none := let ⟨_, X, G⟩ := c.inn; He.free_ok X G (c.fa _ (List.mem_of_getElem? (i := 66) rfl))
theorem Sys.n_set : mg "set" = none := let ⟨_, X, G⟩ := c.inn; He.free_ok X G (c.fa _ (List.mem_of_getElem? (i := 67) rfl))
theorem Sys.n_range : mg "range" = none := let ⟨_, X, G⟩ := c.inn; He.free_ok X G (c.fa _ (List.mem_of_getElem? (i := 68) rfl))
theorem Sys.n_sorted : mg "sorted" = none := let ⟨_, X, G⟩ := c.inn; He.free_ok X G (c.fa _ (List.mem_of_getElem? (i := 69) rfl))
theorem Sys.n_abs : mg "abs" = none := let ⟨_, X, G⟩ := c.inn; He.free_ok X G (c.fa _ (List.mem_of_getElem? (i := 70) rfl))
theorem Sys.n_max : mg "max" = none := let ⟨_, X, G⟩ := c.inn; He.free_ok X G (c.fa _ (List.mem_of_getElem? (i := 71) rfl))
theorem Sys.n_min : mg "min" = none := let ⟨_, X, G⟩ := c.inn; He.free_ok X G (c.fa _ (List.mem_of_getElem? (i := 72) rfl))
theorem Sys.n_sum : mg "sum" = none := let ⟨_, X, G⟩ := c.inn; He.free_ok X G (c.fa _ (List.mem_of_getElem? (i := 73) rfl))
theorem Sys.n_enumerate : mg "enumerate" = none := let ⟨_, X, G⟩ := c.inn; He.free_ok X G (c.fa _ (List.mem_of_getElem? (i := 74) rfl))
theorem Sys.n_str : mg "str" = none := let ⟨_, X, G⟩ := c.inn; He.free_ok X G (c.fa _ (List.mem_of_getElem? (i := 75) rfl))
theorem Sys.i_MOST_SIZE : ∃ t, mg "MOST_SIZE" = some (.int 3000 t) := let ⟨_, X, G⟩ := c.inn; He.int_ok X G (c.fa _ (List.mem_of_getElem? (i := 76) rfl))
theorem Sys.i_FARTHEST : ∃ t, mg "FARTHEST" = some (.int 100 t) := let ⟨_, X, G⟩ := c.inn; He.int_ok X G (c.fa _ (List.mem_of_getElem? (i := 77) rfl))
theorem Sys.i_MOST_STEPS : ∃ t, mg "MOST_STEPS" = some (.int 12 t) := let ⟨_, X, G⟩ := c.inn; He.int_ok X G (c.fa _ (List.mem_of_getElem? (i := 78) rfl))
theorem Sys.i_MOST_ROUND : ∃ t, mg "MOST_ROUND" = some (.int 84 t) := let ⟨_, X, G⟩ := c.inn; He.int_ok X G (c.fa _ (List.mem_of_getElem? (i := 79) rfl))
theorem Sys.i_MOST_DATES : ∃ t, mg "MOST_DATES" = some (.int 12 t) := let ⟨_, X, G⟩ := c.inn; He.int_ok X G (c.fa _ (List.mem_of_getElem? (i := 80) rfl))
theorem Sys.i_LAST_DATE : ∃ t, mg "LAST_DATE" = some (.int 1000 t) := let ⟨_, X, G⟩ := c.inn; He.int_ok X G (c.fa _ (List.mem_of_getElem? (i := 81) rfl))
theorem Sys.i_MOST_CUT : ∃ t, mg "MOST_CUT" = some (.int 8 t) := let ⟨_, X, G⟩ := c.inn; He.int_ok X G (c.fa _ (List.mem_of_getElem? (i := 82) rfl))
theorem Sys.s_SHIFT : ∃ t, mg "SHIFT" = some (.str "shift" t) := let ⟨_, X, G⟩ := c.inn; He.str_ok X G (c.fa _ (List.mem_of_getElem? (i := 83) rfl))
theorem Sys.s_KEEP : ∃ t, mg "KEEP" = some (.str "keep" t) := let ⟨_, X, G⟩ := c.inn; He.str_ok X G (c.fa _ (List.mem_of_getElem? (i := 84) rfl))
theorem Sys.s_STRIKE : ∃ t, mg "STRIKE" = some (.str "strike" t) := let ⟨_, X, G⟩ := c.inn; He.str_ok X G (c.fa _ (List.mem_of_getElem? (i := 85) rfl))
theorem Sys.s_FROM : ∃ t, mg "FROM" = some (.str "from" t) := let ⟨_, X, G⟩ := c.inn; He.str_ok X G (c.fa _ (List.mem_of_getElem? (i := 86) rfl))
theorem Sys.s_UNTIL : ∃ t, mg "UNTIL" = some (.str "until" t) := let ⟨_, X, G⟩ := c.inn; He.str_ok X G (c.fa _ (List.mem_of_getElem? (i := 87) rfl))
theorem Sys.s_ADD : ∃ t, mg "ADD" = some (.str "add" t) := let ⟨_, X, G⟩ := c.inn; He.str_ok X G (c.fa _ (List.mem_of_getElem? (i := 88) rfl))
theorem Sys.s_SINCE : ∃ t, mg "SINCE" = some (.str "since" t) := let ⟨_, X, G⟩ := c.inn; He.str_ok X G (c.fa _ (List.mem_of_getElem? (i := 89) rfl))
theorem Sys.c_Rhythm {w : World} : ClsN (pm K w) K 0 := ⟨He.cls_ok (c.fa _ (List.mem_of_getElem? (i := 90) rfl)), by simp [pm]⟩
theorem Sys.na_own_form : NoAttr K (He.ga K "Rhythm") "own_form" := He.noat_ok (c.fa _ (List.mem_of_getElem? (i := 91) rfl))
theorem Sys.mk_Rhythm : Mk K (He.ga K "Rhythm") (He.ma K (He.ga K "Rhythm") "__init__") := He.mkr_ok (c.fa _ (List.mem_of_getElem? (i := 92) rfl))
theorem Sys.c_Script {w : World} : ClsN (pm K w) K 1 := ⟨He.cls_ok (c.fa _ (List.mem_of_getElem? (i := 93) rfl)), by simp [pm]⟩
theorem Sys.na_own_steps : NoAttr K (He.ga K "Script") "own_steps" := He.noat_ok (c.fa _ (List.mem_of_getElem? (i := 94) rfl))
theorem Sys.mk_Script : Mk K (He.ga K "Script") (He.ma K (He.ga K "Script") "__init__") := He.mkr_ok (c.fa _ (List.mem_of_getElem? (i := 95) rfl))
theorem Sys.c_Side {w : World} : ClsN (pm K w) K 2 := ⟨He.cls_ok (c.fa _ (List.mem_of_getElem? (i := 96) rfl)), by show (["own_script", "there", "news"] : List Str).Nodup; decide +kernel⟩
theorem Sys.na_own_script : NoAttr K (He.ga K "Side") "own_script" := He.noat_ok (c.fa _ (List.mem_of_getElem? (i := 97) rfl))
theorem Sys.na_there : NoAttr K (He.ga K "Side") "there" := He.noat_ok (c.fa _ (List.mem_of_getElem? (i := 98) rfl))
theorem Sys.na_news : NoAttr K (He.ga K "Side") "news" := He.noat_ok (c.fa _ (List.mem_of_getElem? (i := 99) rfl))
theorem Sys.mk_Side : Mk K (He.ga K "Side") (He.ma K (He.ga K "Side") "__init__") := He.mkr_ok (c.fa _ (List.mem_of_getElem? (i := 100) rfl))
theorem Sys.m_without : Meth K (He.ga K "Script") "without" (He.ma K (He.ga K "Script") "without") := He.meth_ok (c.fa _ (List.mem_of_getElem? (i := 101) rfl))
theorem Sys.m_has_new : Meth K (He.ga K "Script") "has_new" (He.ma K (He.ga K "Script") "has_new") := He.meth_ok (c.fa _ (List.mem_of_getElem? (i := 102) rfl))
theorem Sys.m_told : Meth K (He.ga K "Side") "told" (He.ma K (He.ga K "Side") "told") := He.meth_ok (c.fa _ (List.mem_of_getElem? (i := 103) rfl))
theorem Sys.insC {w : World} : ∀ n, C8.InsC K ((pm K w).cl n)
  | 0 => ins_ok (c.fb _ (List.mem_of_getElem? (i := 0) rfl)) (c.c_Rhythm (w := w)).cls
  | 1 => ins_ok (c.fb _ (List.mem_of_getElem? (i := 1) rfl)) (c.c_Script (w := w)).cls
  | _ + 2 => ins_ok (c.fb _ (List.mem_of_getElem? (i := 2) rfl)) (c.c_Side (w := w)).cls
theorem Sys.o_contains : OwnM K (He.ga K "Rhythm") "__contains__" (He.ma K (He.ga K "Rhythm") "__contains__") := own_ok (c.fb _ (List.mem_of_getElem? (i := 3) rfl))
theorem Sys.o_len : OwnM K (He.ga K "Script") "__len__" (He.ma K (He.ga K "Script") "__len__") := own_ok (c.fb _ (List.mem_of_getElem? (i := 4) rfl))
theorem Sys.o_add : OwnM K (He.ga K "Script") "__add__" (He.ma K (He.ga K "Script") "__add__") := own_ok (c.fb _ (List.mem_of_getElem? (i := 5) rfl))
theorem Sys.o_getitem : OwnG K (He.ga K "Script") (He.ma K (He.ga K "Script") "__getitem__") := ownG_ok (c.fb _ (List.mem_of_getElem? (i := 6) rfl))
theorem Sys.o_call : StX.CallO K (He.ga K "Script") (He.ma K (He.ga K "Script") "__call__") := callO_ok (c.fb _ (List.mem_of_getElem? (i := 7) rfl))
theorem Sys.self_ : PySem.W.selfFirst K (He.ga K "Script") = true := c.fb _ (List.mem_of_getElem? (i := 8) rfl)
theorem Sys.pr_Rhythm_size : PropOf K (He.ga K "Rhythm") "size" (ppa K (He.ga K "Rhythm") "size") (pga K (He.ga K "Rhythm") "size") := prop_ok (c.fb _ (List.mem_of_getElem? (i := 9) rfl))
theorem Sys.pr_Script_size : PropOf K (He.ga K "Script") "size" (ppa K (He.ga K "Script") "size") (pga K (He.ga K "Script") "size") := prop_ok (c.fb _ (List.mem_of_getElem? (i := 10) rfl))
theorem Sys.pr_Script_steps : PropOf K (He.ga K "Script") "steps" (ppa K (He.ga K "Script") "steps") (pga K (He.ga K "Script") "steps") := prop_ok (c.fb _ (List.mem_of_getElem? (i := 11) rfl))
theorem Sys.d_is_number : p_is_number.At K := c.fd _ (List.mem_of_getElem? (i := 0) rfl)
theorem Sys.k_is_number : PySem.W.keepIn K (.ref (p_is_number.at_ K)) = true := let ⟨_, F⟩ := c.d_is_number; F.kp
theorem Sys.d_is_list : p_is_list.At K := c.fd _ (List.mem_of_getElem? (i := 1) rfl)
theorem Sys.k_is_list : PySem.W.keepIn K (.ref (p_is_list.at_ K)) = true := let ⟨_, F⟩ := c.d_is_list; F.kp
theorem Sys.d_are_different : p_are_different.At K := c.fd _ (List.mem_of_getElem? (i := 2) rfl)
theorem Sys.k_are_different : PySem.W.keepIn K (.ref (p_are_different.at_ K)) = true := let ⟨_, F⟩ := c.d_are_different; F.kp
theorem Sys.d_common : p_common.At K := c.fd _ (List.mem_of_getElem? (i := 3) rfl)
theorem Sys.k_common : PySem.W.keepIn K (.ref (p_common.at_ K)) = true := let ⟨_, F⟩ := c.d_common; F.kp
theorem Sys.d_repeats : p_repeats.At K := c.fd _ (List.mem_of_getElem? (i := 4) rfl)
theorem Sys.k_repeats : PySem.W.keepIn K (.ref (p_repeats.at_ K)) = true := let ⟨_, F⟩ := c.d_repeats; F.kp
theorem Sys.d_least_form : p_least_form.At K := c.fd _ (List.mem_of_getElem? (i := 5) rfl)
theorem Sys.k_least_form : PySem.W.keepIn K (.ref (p_least_form.at_ K)) = true := let ⟨_, F⟩ := c.d_least_form; F.kp
theorem Sys.d_Rhythm_init : p_Rhythm_init.At K := c.fd _ (List.mem_of_getElem? (i := 6) rfl)
theorem Sys.k_Rhythm_init : PySem.W.keepIn K (.ref (p_Rhythm_init.at_ K)) = true := let ⟨_, F⟩ := c.d_Rhythm_init; F.kp
theorem Sys.d_Rhythm_size : p_Rhythm_size.At K := c.fd _ (List.mem_of_getElem? (i := 7) rfl)
theorem Sys.k_Rhythm_size : PySem.W.keepIn K (.ref (p_Rhythm_size.at_ K)) = true := let ⟨_, F⟩ := c.d_Rhythm_size; F.kp
theorem Sys.d_Rhythm_contains : p_Rhythm_contains.At K := c.fd _ (List.mem_of_getElem? (i := 8) rfl)
theorem Sys.k_Rhythm_contains : PySem.W.keepIn K (.ref (p_Rhythm_contains.at_ K)) = true := let ⟨_, F⟩ := c.d_Rhythm_contains; F.kp
theorem Sys.d_common_round : p_common_round.At K := c.fd _ (List.mem_of_getElem? (i := 9) rfl)
theorem Sys.k_common_round : PySem.W.keepIn K (.ref (p_common_round.at_ K)) = true := let ⟨_, F⟩ := c.d_common_round; F.kp
theorem Sys.d_is_step_number : p_is_step_number.At K := c.fd _ (List.mem_of_getElem? (i := 10) rfl)
theorem Sys.k_is_step_number : PySem.W.keepIn K (.ref (p_is_step_number.at_ K)) = true := let ⟨_, F⟩ := c.d_is_step_number; F.kp
theorem Sys.d_is_plain_step : p_is_plain_step.At K := c.fd _ (List.mem_of_getElem? (i := 11) rfl)
theorem Sys.k_is_plain_step : PySem.W.keepIn K (.ref (p_is_plain_step.at_ K)) = true := let ⟨_, F⟩ := c.d_is_plain_step; F.kp
theorem Sys.d_is_add : p_is_add.At K := c.fd _ (List.mem_of_getElem? (i := 12) rfl)
theorem Sys.k_is_add : PySem.W.keepIn K (.ref (p_is_add.at_ K)) = true := let ⟨_, F⟩ := c.d_is_add; F.kp
theorem Sys.d_is_since : p_is_since.At K := c.fd _ (List.mem_of_getElem? (i := 13) rfl)
theorem Sys.k_is_since : PySem.W.keepIn K (.ref (p_is_since.at_ K)) = true := let ⟨_, F⟩ := c.d_is_since; F.kp
theorem Sys.d_is_step : p_is_step.At K := c.fd _ (List.mem_of_getElem? (i := 14) rfl)
theorem Sys.k_is_step : PySem.W.keepIn K (.ref (p_is_step.at_ K)) = true := let ⟨_, F⟩ := c.d_is_step; F.kp
theorem Sys.d_flat : p_flat.At K := c.fd _ (List.mem_of_getElem? (i := 15) rfl)
theorem Sys.k_flat : PySem.W.keepIn K (.ref (p_flat.at_ K)) = true := let ⟨_, F⟩ := c.d_flat; F.kp
theorem Sys.d_round_of : p_round_of.At K := c.fd _ (List.mem_of_getElem? (i := 16) rfl)
theorem Sys.k_round_of : PySem.W.keepIn K (.ref (p_round_of.at_ K)) = true := let ⟨_, F⟩ := c.d_round_of; F.kp
theorem Sys.d_need_few : p_need_few.At K := c.fd _ (List.mem_of_getElem? (i := 17) rfl)
theorem Sys.k_need_few : PySem.W.keepIn K (.ref (p_need_few.at_ K)) = true := let ⟨_, F⟩ := c.d_need_few; F.kp
theorem Sys.d_holds : p_holds.At K := c.fd _ (List.mem_of_getElem? (i := 18) rfl)
theorem Sys.k_holds : PySem.W.keepIn K (.ref (p_holds.at_ K)) = true := let ⟨_, F⟩ := c.d_holds; F.kp
theorem Sys.d_behind : p_behind.At K := c.fd _ (List.mem_of_getElem? (i := 19) rfl)
theorem Sys.k_behind : PySem.W.keepIn K (.ref (p_behind.at_ K)) = true := let ⟨_, F⟩ := c.d_behind; F.kp
theorem Sys.d_behind_all : p_behind_all.At K := c.fd _ (List.mem_of_getElem? (i := 20) rfl)
theorem Sys.k_behind_all : PySem.W.keepIn K (.ref (p_behind_all.at_ K)) = true := let ⟨_, F⟩ := c.d_behind_all; F.kp
theorem Sys.d_Script_init : p_Script_init.At K := c.fd _ (List.mem_of_getElem? (i := 21) rfl)
theorem Sys.k_Script_init : PySem.W.keepIn K (.ref (p_Script_init.at_ K)) = true := let ⟨_, F⟩ := c.d_Script_init; F.kp
theorem Sys.d_Script_steps : p_Script_steps.At K := c.fd _ (List.mem_of_getElem? (i := 22) rfl)
theorem Sys.k_Script_steps : PySem.W.keepIn K (.ref (p_Script_steps.at_ K)) = true := let ⟨_, F⟩ := c.d_Script_steps; F.kp
theorem Sys.d_Script_size : p_Script_size.At K := c.fd _ (List.mem_of_getElem? (i := 23) rfl)
theorem Sys.k_Script_size : PySem.W.keepIn K (.ref (p_Script_size.at_ K)) = true := let ⟨_, F⟩ := c.d_Script_size; F.kp
theorem Sys.d_Script_len : p_Script_len.At K := c.fd _ (List.mem_of_getElem? (i := 24) rfl)
theorem Sys.k_Script_len : PySem.W.keepIn K (.ref (p_Script_len.at_ K)) = true := let ⟨_, F⟩ := c.d_Script_len; F.kp
theorem Sys.d_Script_getitem : p_Script_getitem.At K := c.fd _ (List.mem_of_getElem? (i := 25) rfl)
theorem Sys.k_Script_getitem : PySem.W.keepIn K (.ref (p_Script_getitem.at_ K)) = true := let ⟨_, F⟩ := c.d_Script_getitem; F.kp
theorem Sys.d_Script_call : p_Script_call.At K := c.fd _ (List.mem_of_getElem? (i := 26) rfl)
theorem Sys.k_Script_call : PySem.W.keepIn K (.ref (p_Script_call.at_ K)) = true := let ⟨_, F⟩ := c.d_Script_call; F.kp
theorem Sys.d_Script_add : p_Script_add.At K := c.fd _ (List.mem_of_getElem? (i := 27) rfl)
theorem Sys.k_Script_add : PySem.W.keepIn K (.ref (p_Script_add.at_ K)) = true := let ⟨_, F⟩ := c.d_Script_add; F.kp
theorem Sys.d_Script_without : p_Script_without.At K := c.fd _ (List.mem_of_getElem? (i := 28) rfl)
theorem Sys.k_Script_without : PySem.W.keepIn K (.ref (p_Script_without.at_ K)) = true := let ⟨_, F⟩ := c.d_Script_without; F.kp
theorem Sys.d_Script_has_new : p_Script_has_new.At K := c.fd _ (List.mem_of_getElem? (i := 29) rfl)
theorem Sys.k_Script_has_new : PySem.W.keepIn K (.ref (p_Script_has_new.at_ K)) = true := let ⟨_, F⟩ := c.d_Script_has_new; F.kp
theorem Sys.d_need_at : p_need_at.At K := c.fd _ (List.mem_of_getElem? (i := 30) rfl)
theorem Sys.k_need_at : PySem.W.keepIn K (.ref (p_need_at.at_ K)) = true := let ⟨_, F⟩ := c.d_need_at; F.kp
theorem Sys.d_span : p_span.At K := c.fd _ (List.mem_of_getElem? (i := 31) rfl)
theorem Sys.k_span : PySem.W.keepIn K (.ref (p_span.at_ K)) = true := let ⟨_, F⟩ := c.d_span; F.kp
theorem Sys.d_border : p_border.At K := c.fd _ (List.mem_of_getElem? (i := 32) rfl)
theorem Sys.k_border : PySem.W.keepIn K (.ref (p_border.at_ K)) = true := let ⟨_, F⟩ := c.d_border; F.kp
theorem Sys.d_far : p_far.At K := c.fd _ (List.mem_of_getElem? (i := 33) rfl)
theorem Sys.k_far : PySem.W.keepIn K (.ref (p_far.at_ K)) = true := let ⟨_, F⟩ := c.d_far; F.kp
theorem Sys.d_days_of : p_days_of.At K := c.fd _ (List.mem_of_getElem? (i := 34) rfl)
theorem Sys.k_days_of : PySem.W.keepIn K (.ref (p_days_of.at_ K)) = true := let ⟨_, F⟩ := c.d_days_of; F.kp
theorem Sys.d_new_ones : p_new_ones.At K := c.fd _ (List.mem_of_getElem? (i := 35) rfl)
theorem Sys.k_new_ones : PySem.W.keepIn K (.ref (p_new_ones.at_ K)) = true := let ⟨_, F⟩ := c.d_new_ones; F.kp
theorem Sys.d_need_day : p_need_day.At K := c.fd _ (List.mem_of_getElem? (i := 36) rfl)
theorem Sys.k_need_day : PySem.W.keepIn K (.ref (p_need_day.at_ K)) = true := let ⟨_, F⟩ := c.d_need_day; F.kp
theorem Sys.d_nearer : p_nearer.At K := c.fd _ (List.mem_of_getElem? (i := 37) rfl)
theorem Sys.k_nearer : PySem.W.keepIn K (.ref (p_nearer.at_ K)) = true := let ⟨_, F⟩ := c.d_nearer; F.kp
theorem Sys.d_near_offers : p_near_offers.At K := c.fd _ (List.mem_of_getElem? (i := 38) rfl)
theorem Sys.k_near_offers : PySem.W.keepIn K (.ref (p_near_offers.at_ K)) = true := let ⟨_, F⟩ := c.d_near_offers; F.kp
theorem Sys.d_block_of : p_block_of.At K := c.fd _ (List.mem_of_getElem? (i := 39) rfl)
theorem Sys.k_block_of : PySem.W.keepIn K (.ref (p_block_of.at_ K)) = true := let ⟨_, F⟩ := c.d_block_of; F.kp
theorem Sys.d_are_dates : p_are_dates.At K := c.fd _ (List.mem_of_getElem? (i := 40) rfl)
theorem Sys.k_are_dates : PySem.W.keepIn K (.ref (p_are_dates.at_ K)) = true := let ⟨_, F⟩ := c.d_are_dates; F.kp
theorem Sys.d_need_dates : p_need_dates.At K := c.fd _ (List.mem_of_getElem? (i := 41) rfl)
theorem Sys.k_need_dates : PySem.W.keepIn K (.ref (p_need_dates.at_ K)) = true := let ⟨_, F⟩ := c.d_need_dates; F.kp
theorem Sys.d_in_order : p_in_order.At K := c.fd _ (List.mem_of_getElem? (i := 42) rfl)
theorem Sys.k_in_order : PySem.W.keepIn K (.ref (p_in_order.at_ K)) = true := let ⟨_, F⟩ := c.d_in_order; F.kp
theorem Sys.d_stands_behind : p_stands_behind.At K := c.fd _ (List.mem_of_getElem? (i := 43) rfl)
theorem Sys.k_stands_behind : PySem.W.keepIn K (.ref (p_stands_behind.at_ K)) = true := let ⟨_, F⟩ := c.d_stands_behind; F.kp
theorem Sys.d_all_stands : p_all_stands.At K := c.fd _ (List.mem_of_getElem? (i := 44) rfl)
theorem Sys.k_all_stands : PySem.W.keepIn K (.ref (p_all_stands.at_ K)) = true := let ⟨_, F⟩ := c.d_all_stands; F.kp
theorem Sys.d_first_block : p_first_block.At K := c.fd _ (List.mem_of_getElem? (i := 45) rfl)
theorem Sys.k_first_block : PySem.W.keepIn K (.ref (p_first_block.at_ K)) = true := let ⟨_, F⟩ := c.d_first_block; F.kp
theorem Sys.d_Side_init : p_Side_init.At K := c.fd _ (List.mem_of_getElem? (i := 46) rfl)
theorem Sys.k_Side_init : PySem.W.keepIn K (.ref (p_Side_init.at_ K)) = true := let ⟨_, F⟩ := c.d_Side_init; F.kp
theorem Sys.d_Side_told : p_Side_told.At K := c.fd _ (List.mem_of_getElem? (i := 47) rfl)
theorem Sys.k_Side_told : PySem.W.keepIn K (.ref (p_Side_told.at_ K)) = true := let ⟨_, F⟩ := c.d_Side_told; F.kp
theorem Sys.d_parted_by_two : p_parted_by_two.At K := c.fd _ (List.mem_of_getElem? (i := 48) rfl)
theorem Sys.k_parted_by_two : PySem.W.keepIn K (.ref (p_parted_by_two.at_ K)) = true := let ⟨_, F⟩ := c.d_parted_by_two; F.kp
theorem Sys.d_parting : p_parting.At K := c.fd _ (List.mem_of_getElem? (i := 49) rfl)
theorem Sys.k_parting : PySem.W.keepIn K (.ref (p_parting.at_ K)) = true := let ⟨_, F⟩ := c.d_parting; F.kp
theorem Sys.d_alike : p_alike.At K := c.fd _ (List.mem_of_getElem? (i := 50) rfl)
theorem Sys.k_alike : PySem.W.keepIn K (.ref (p_alike.at_ K)) = true := let ⟨_, F⟩ := c.d_alike; F.kp
theorem Sys.d_idle_steps : p_idle_steps.At K := c.fd _ (List.mem_of_getElem? (i := 51) rfl)
theorem Sys.k_idle_steps : PySem.W.keepIn K (.ref (p_idle_steps.at_ K)) = true := let ⟨_, F⟩ := c.d_idle_steps; F.kp
theorem Sys.d_tuples_below : p_tuples_below.At K := c.fd _ (List.mem_of_getElem? (i := 52) rfl)
theorem Sys.k_tuples_below : PySem.W.keepIn K (.ref (p_tuples_below.at_ K)) = true := let ⟨_, F⟩ := c.d_tuples_below; F.kp
theorem Sys.d_cut_down : p_cut_down.At K := c.fd _ (List.mem_of_getElem? (i := 53) rfl)
theorem Sys.k_cut_down : PySem.W.keepIn K (.ref (p_cut_down.at_ K)) = true := let ⟨_, F⟩ := c.d_cut_down; F.kp
theorem Sys.d_l_begun : p_l_begun.At K := c.fd _ (List.mem_of_getElem? (i := 54) rfl)
theorem Sys.k_l_begun : PySem.W.keepIn K (.ref (p_l_begun.at_ K)) = true := let ⟨_, F⟩ := c.d_l_begun; F.kp
theorem Sys.d_l_mixed : p_l_mixed.At K := c.fd _ (List.mem_of_getElem? (i := 55) rfl)
theorem Sys.k_l_mixed : PySem.W.keepIn K (.ref (p_l_mixed.at_ K)) = true := let ⟨_, F⟩ := c.d_l_mixed; F.kp
theorem Sys.d_l_take : p_l_take.At K := c.fd _ (List.mem_of_getElem? (i := 56) rfl)
theorem Sys.k_l_take : PySem.W.keepIn K (.ref (p_l_take.at_ K)) = true := let ⟨_, F⟩ := c.d_l_take; F.kp
theorem Sys.d_l_pick : p_l_pick.At K := c.fd _ (List.mem_of_getElem? (i := 57) rfl)
theorem Sys.k_l_pick : PySem.W.keepIn K (.ref (p_l_pick.at_ K)) = true := let ⟨_, F⟩ := c.d_l_pick; F.kp
theorem Sys.d_l_shuffled : p_l_shuffled.At K := c.fd _ (List.mem_of_getElem? (i := 58) rfl)
theorem Sys.k_l_shuffled : PySem.W.keepIn K (.ref (p_l_shuffled.at_ K)) = true := let ⟨_, F⟩ := c.d_l_shuffled; F.kp
theorem Sys.d_l_real : p_l_real.At K := c.fd _ (List.mem_of_getElem? (i := 59) rfl)
theorem Sys.k_l_real : PySem.W.keepIn K (.ref (p_l_real.at_ K)) = true := let ⟨_, F⟩ := c.d_l_real; F.kp
theorem Sys.d_l_made : p_l_made.At K := c.fd _ (List.mem_of_getElem? (i := 60) rfl)
theorem Sys.k_l_made : PySem.W.keepIn K (.ref (p_l_made.at_ K)) = true := let ⟨_, F⟩ := c.d_l_made; F.kp
theorem Sys.d_l_dates : p_l_dates.At K := c.fd _ (List.mem_of_getElem? (i := 61) rfl)
theorem Sys.k_l_dates : PySem.W.keepIn K (.ref (p_l_dates.at_ K)) = true := let ⟨_, F⟩ := c.d_l_dates; F.kp
theorem Sys.d_l_tiny_rhythm : p_l_tiny_rhythm.At K := c.fd _ (List.mem_of_getElem? (i := 62) rfl)
theorem Sys.k_l_tiny_rhythm : PySem.W.keepIn K (.ref (p_l_tiny_rhythm.at_ K)) = true := let ⟨_, F⟩ := c.d_l_tiny_rhythm; F.kp
theorem Sys.d_l_tiny_step : p_l_tiny_step.At K := c.fd _ (List.mem_of_getElem? (i := 63) rfl)
theorem Sys.k_l_tiny_step : PySem.W.keepIn K (.ref (p_l_tiny_step.at_ K)) = true := let ⟨_, F⟩ := c.d_l_tiny_step; F.kp
theorem Sys.d_l_tiny : p_l_tiny.At K := c.fd _ (List.mem_of_getElem? (i := 64) rfl)
theorem Sys.k_l_tiny : PySem.W.keepIn K (.ref (p_l_tiny.at_ K)) = true := let ⟨_, F⟩ := c.d_l_tiny; F.kp
theorem Sys.d_l_cut : p_l_cut.At K := c.fd _ (List.mem_of_getElem? (i := 65) rfl)
theorem Sys.k_l_cut : PySem.W.keepIn K (.ref (p_l_cut.at_ K)) = true := let ⟨_, F⟩ := c.d_l_cut; F.kp
theorem Sys.d_l_kin : p_l_kin.At K := c.fd _ (List.mem_of_getElem? (i := 66) rfl)
theorem Sys.k_l_kin : PySem.W.keepIn K (.ref (p_l_kin.at_ K)) = true := let ⟨_, F⟩ := c.d_l_kin; F.kp
theorem Sys.d_l_parted_right : p_l_parted_right.At K := c.fd _ (List.mem_of_getElem? (i := 67) rfl)
theorem Sys.k_l_parted_right : PySem.W.keepIn K (.ref (p_l_parted_right.at_ K)) = true := let ⟨_, F⟩ := c.d_l_parted_right; F.kp
theorem Sys.d_l_alike_right : p_l_alike_right.At K := c.fd _ (List.mem_of_getElem? (i := 68) rfl)
theorem Sys.k_l_alike_right : PySem.W.keepIn K (.ref (p_l_alike_right.at_ K)) = true := let ⟨_, F⟩ := c.d_l_alike_right; F.kp
theorem Sys.d_law : p_law.At K := c.fd _ (List.mem_of_getElem? (i := 69) rfl)
theorem Sys.k_law : PySem.W.keepIn K (.ref (p_law.at_ K)) = true := let ⟨_, F⟩ := c.d_law; F.kp
end
theorem _root_.L2.Room.u9 {k : Nat} {A : Around} (r : Room k A) : A.units + 9 < cLine := by have := r.un; omega
theorem _root_.L2.Room.u8 {k : Nat} {A : Around} (r : Room k A) : A.units + 8 < cLine := by have := r.un; omega
theorem raw0 {P : Program} {w : World} {K : PySem.W.Frag} {mg : Str → Option Value} {base : Heap} {k : Nat} {f : Addr} {sp : Sp} {fd : FuncData} {ps : List Str} (F : FnOk P w K mg base CX0 k f fd ps sp) (hb : Binds K fd ps []) : FnR P w K mg base CX0 k f sp := by
  have h := F.raw hb .nil
  simpa using h
end Dl
set_option Elab.async false
set_option linter.all false
set_option maxRecDepth 100000
set_option maxHeartbeats 0
/-! The head: the top's run, told by what the Hook looks at. -/
namespace Dl
open PySem PySem.Spec PyProof.Rows L2
def loose0 : List Str := ["_wall", "__name__", "SeriesError", "BadRhythm", "BadScript", "TooMany", "NoStep", "BadDay", "BadDates", "MOST_SIZE", "is_number", "is_list", "are_different", "common", "repeats", "least_form", "Rhythm", "common_round", "SHIFT", "KEEP", "STRIKE", "FROM", "UNTIL", "ADD", "SINCE", "FARTHEST", "MOST_STEPS", "MOST_ROUND", "is_step_number", "is_plain_step"]
def loose1 : List Str := ["is_add", "is_since", "is_step", "flat", "round_of", "need_few", "holds", "behind", "behind_all", "Script", "need_at", "span", "border", "far", "days_of", "new_ones", "need_day", "nearer", "near_offers", "block_of", "MOST_DATES", "LAST_DATE", "are_dates", "need_dates", "in_order", "stands_behind", "all_stands", "first_block", "MOST_CUT", "Side"]
def loose2 : List Str := ["parted_by_two", "parting", "alike", "idle_steps", "tuples_below", "cut_down", "_law_begun", "_law_mixed", "_law_take", "_law_pick", "_law_shuffled", "_law_real", "_law_made", "_law_dates", "_law_tiny_rhythm", "_law_tiny_step", "_law_tiny", "_law_cut", "_law_kin", "_law_parted_right", "_law_alike_right"]
def looseL : List Str := loose0 ++ loose1 ++ loose2
abbrev AlP : Type := Bool × List He.FnW
def obsP (K : PySem.W.Frag) : AlP := ((faL.all fun f => f.ok K) && ((fbL.all fun f => f.ok K) && fdL.all fun d => d.ok K), fdL.map fun d => fnP K (d.at_ K))
def valP : AlP := (true, fdL.map DefP.val)
def refsL (g : Addr → Option Obj) (as : List Addr) : List Addr := as.flatMap fun a => match g a with
  | some o => He.refsD o
  | none => []
def asP (g : Addr → Option Obj) : Nat → List Addr → List Addr
  | 0, as => as
  | n + 1, as => as ++ asP g n (refsL g as)
def obsPG (g : Addr → Option Obj) : AlP := obsP (He.frG g (asP g 5 [mainGlobals]))
def hookP : PySem.W.Hook where
  α := AlP
  obs := fun s => obsPG s.heap.get?
  val := fun _ => valP
  says := fun _ h => ∃ K : PySem.W.Frag, K.In h ∧ obsP K = valP
  of := fun _ _ e => ⟨_, He.frG_in, e⟩
  keeps := fun _ _ _ ⟨K, hK, c⟩ k => ⟨K, PySem.W.Frag.In.keeps hK k, c⟩
theorem sys_of {K : PySem.W.Frag} {h : Heap} {mg : Str → Option Value} (X : K.In h) (G : h.Ns mainGlobals mg) (c : obsP K = valP) : Sys K mg := by
  have c1 := congrArg (fun z : AlP => z.1) c
  have c2 : fdL.map (fun d => fnP K (d.at_ K)) = fdL.map DefP.val := congrArg (fun z : AlP => z.2) c
  obtain ⟨h1, h2⟩ := He.ba (show ((faL.all fun f => f.ok K) && ((fbL.all fun f => f.ok K) && fdL.all fun d => d.ok K)) = true from c1)
  obtain ⟨h2, h3⟩ := He.ba h2
  refine ⟨⟨h, X, G⟩, fun f hf => List.all_eq_true.mp h1 f hf, fun f hf => List.all_eq_true.mp h2 f hf, fun d hd => ?_⟩
  obtain ⟨i, hi⟩ := List.mem_iff_getElem?.mp hd
  have e2 : (fdL.map fun d => fnP K (d.at_ K))[i]? = (fdL.map DefP.val)[i]? := by rw [c2]
  rw [List.getElem?_map, List.getElem?_map, hi] at e2
  exact DefP.at_of (Option.some.inj e2) (List.all_eq_true.mp h3 d hd)
abbrev RowP : PySem.W.OpenRow := PySem.W.OpenLaw.row PySem.Challenge.rw_stillstruck_k38_whole_alike_scripts
def obP (s : PySem.W.SharedT) : AlP := obsPG (HandSHeadRun.getT s)
theorem obP_eq (s : PySem.W.SharedT) : obP s = hookP.obs s.abs := by
  have h : ∀ a, HandSHeadRun.getT s a = s.abs.heap.get? a := fun a => HandSHeadRun.getT_eq s a
  have e : HandSHeadRun.getT s = s.abs.heap.get? := funext h
  show obsPG (HandSHeadRun.getT s) = obsPG s.abs.heap.get?
  rw [e]
theorem runP (w : World) : HandSHeadRun.RunEq RowP (PySem.W.view RowP.prog [88]) hookP obP 5400 looseL w := by
  intro os
  kernel_rfl
end Dl
set_option Elab.async false
set_option linter.all false
set_option maxRecDepth 100000
set_option maxHeartbeats 2000000
/-! l.count(True) of a list of truth values. -/
namespace Dl
open PySem PySem.Spec PyProof.Rows L2
theorem eqb_gives {k : Bool} : ∀ {bs : List Bool} {us : List Value}, Vals (bs.map V.bl) us → ∀ y ∈ us, ∀ (A : Around) (s : Shared), PySem.SeqAt.EqAt A s y (.bool k) (isBoolOf k y)
  | [], _, r, y, hy, _, _ => by
    cases r
    cases hy
  | b :: bs, _, r, y, hy, A, s => by
    cases r with
    | cons h t =>
      cases h
      rcases List.mem_cons.mp hy with e | e
      · rw [e]
        exact PySem.SeqAt.EqAt.bool_bool b k
      · exact eqb_gives t y e A s
theorem eqb_count {k : Bool} : ∀ {bs : List Bool} {us : List Value}, Vals (bs.map V.bl) us → us.countP (isBoolOf k) = bs.count k
  | [], _, r => by
    cases r
    rfl
  | b :: bs, _, r => by
    cases r with
    | cons h t =>
      cases h
      have ih := eqb_count (k := k) t
      rw [List.countP_cons, List.count_cons, ih]
      rfl
section
variable {m : Pm} {R : Res} {X : Cx}
def rCntB (K : PySem.W.Frag) : V → List V → Hp → VK → Prop := fun x xs H Q => ∃ (p : Addr) (bs : List Bool) (k : Bool), x = .ref p ∧ xs = [.bl k] ∧ SqL K H p (bs.map V.bl) ∧ Q (.int (bs.count k : Nat)) H
theorem mt_bcount : MtR X "list.count" (rCntB X.K) := by
  intro pins s σ H x xs v us Q I rx rxs h
  obtain ⟨p, bs, k, rfl, rfl, hs, q⟩ := h
  cases rx
  obtain ⟨u, rfl, ru⟩ := rxs.one
  cases ru
  obtain ⟨its, rv, ⟨⟨cls, dd, data, sl⟩, n, ho, hc, hdn, hd⟩, hlen⟩ := I.list hs
  simp only at hc hd
  subst hc hd
  refine call_meets PySem.F.slot_list_count ⟨_, ho, rfl⟩ PySem.F.entry_list_count (PySem.F.args_list_count_2 _ _)
    (PySem.SeqAt.list_countAt p its.toArray n dd sl (.bool k) (isBoolOf k)) ⟨ho, fun y hy => eqb_gives rv y (by simpa using hy) _ _, ?_⟩
  have ec : its.toArray.toList.countP (isBoolOf k) = bs.count k := eqb_count rv
  refine ⟨.int (bs.count k : Nat), H, I.tok _, ⟨s.toks, ?_⟩, q⟩
  show Value.int ((its.toArray.toList.countP (isBoolOf k) : Nat) : Int) s.toks = Value.int ((bs.count k : Nat) : Int) s.toks
  rw [ec]
def dCnt (a b : TdE) : TdE := fun ρ k => a ρ fun x => match x with
  | .lst l => b ρ fun y => match y with
    | .bl c => ∃ bs : List Bool, l = bs.map D.bl ∧ k (.int (bs.count c : Nat))
    | _ => False
  | _ => False
theorem Reps.ofBls {G : Hp} : ∀ {bs : List Bool} {vs : List V}, Reps m G vs (bs.map D.bl) → vs = bs.map V.bl := Reps.of_bls
theorem pd_count {o e : Expr} {apos cpos : Pos} {to_ te : TE} {do_ de : TdE} {K : PySem.W.Frag} (ho : PD m R X o to_ do_) (he : PD m R X e te de)
    (hbase : attributeBase o "count" X.env (eval o X.env) = eval o X.env := by rfl)
    (hfew : ((backTo cpos (starEach (e :: []) X.env)).all (fun x => !x.1) && (backToKw cpos (keywordEach [] X.env)).all (fun x => x.1.isSome)
      && decide ((e :: []).length + ([] : List Keyword).length + (if ([] : List Keyword).isEmpty then 0 else 1) < 30)) = true := by rfl)
    (hline : (apos.endLine == cpos.line) = true := by rfl) (hs : starEach (e :: []) X.env = (false, eval e X.env) :: starEach [] X.env := by rfl) (hplain : (backTo cpos (starEach [] X.env)).any (·.1) = false := by rfl) (hK : X.K = K := by rfl) :
    PD m R X (.Call (.Attribute o "count" apos) [e] [] cpos) (tBM K "list" (rCntB K) to_ (tCons te tNil)) (dCnt do_ de) := by
  subst hK
  refine ⟨pe_bm PySem.F.plainAttrs_list PySem.F.slot_list_count PySem.F.type_list_count mt_bcount ho.pe (pa_cons he.pe pa_nil hs) hbase hfew hline hs hplain, fun ρ σ G H k Q en gh h q => ?_⟩
  refine ho.sem ρ σ G H _ _ en gh h fun v d G1 H1 e1 r1 h1 => ?_
  cases r1 with
  | @lst a vs ds ha rs =>
    refine ⟨.inl ⟨rfl, vs, SqL.of (e1.gh.s _ _ ha)⟩, ?_⟩
    refine he.sem ρ σ G1 H1 _ _ (en.mono e1.gg) e1.gh h1 fun v2 d2 G2 H2 e2 r2 h2 => ?_
    cases r2 with
    | bl c =>
      obtain ⟨bs, rfl, hk⟩ := h2
      rw [Reps.of_bls rs] at ha
      exact ⟨a, bs, c, rfl, rfl, SqL.of (e2.gh.s _ _ (e2.gg _ _ ha)), q _ _ G2 H2 (e1.trans e2) (.int _) hk⟩
    | _ => exact h2.elim
  | _ => exact h1.elim
end
end Dl
set_option Elab.async false
set_option linter.all false
set_option maxRecDepth 100000
set_option maxHeartbeats 2000000
/-! Readings over data, put in plain words. -/
namespace Dl
open PySem PySem.Spec PyProof.Rows L2
section
variable {m : Pm} {R : Res} {ρ : Rho} {k : D → Prop}

@[simp] theorem w_shift_keep : ((Str.ofString "shift" : Str) = Str.ofString "keep") = False := by simp only [eq_iff_iff, iff_false]; decide +kernel
@[simp] theorem w_shift_strike : ((Str.ofString "shift" : Str) = Str.ofString "strike") = False := by simp only [eq_iff_iff, iff_false]; decide +kernel
@[simp] theorem w_shift_from : ((Str.ofString "shift" : Str) = Str.ofString "from") = False := by simp only [eq_iff_iff, iff_false]; decide +kernel
@[simp] theorem w_shift_until : ((Str.ofString "shift" : Str) = Str.ofString "until") = False := by simp only [eq_iff_iff, iff_false]; decide +kernel
@[simp] theorem w_shift_add : ((Str.ofString "shift" : Str) = Str.ofString "add") = False := by simp only [eq_iff_iff, iff_false]; decide +kernel
@[simp] theorem w_shift_since : ((Str.ofString "shift" : Str) = Str.ofString "since") = False := by simp only [eq_iff_iff, iff_false]; decide +kernel
@[simp] theorem w_keep_shift : ((Str.ofString "keep" : Str) = Str.ofString "shift") = False := by simp only [eq_iff_iff, iff_false]; decide +kernel
@[simp] theorem w_keep_strike : ((Str.ofString "keep" : Str) = Str.ofString "strike") = False := by simp only [eq_iff_iff, iff_false]; decide +kernel
@[simp] theorem w_keep_from : ((Str.ofString "keep" : Str) = Str.ofString "from") = False := by simp only [eq_iff_iff, iff_false]; decide +kernel
@[simp] theorem w_keep_until : ((Str.ofString "keep" : Str) = Str.ofString "until") = False := by simp only [eq_iff_iff, iff_false]; decide +kernel
@[simp] theorem w_keep_add : ((Str.ofString "keep" : Str) = Str.ofString "add") = False := by simp only [eq_iff_iff, iff_false]; decide +kernel
@[simp] theorem w_keep_since : ((Str.ofString "keep" : Str) = Str.ofString "since") = False := by simp only [eq_iff_iff, iff_false]; decide +kernel
@[simp] theorem w_strike_shift : ((Str.ofString "strike" : Str) = Str.ofString "shift") = False := by simp only [eq_iff_iff, iff_false]; decide +kernel
@[simp] theorem w_strike_keep : ((Str.ofString "strike" : Str) = Str.ofString "keep") = False := by simp only [eq_iff_iff, iff_false]; decide +kernel
@[simp] theorem w_strike_from : ((Str.ofString "strike" : Str) = Str.ofString "from") = False := by simp only [eq_iff_iff, iff_false]; decide +kernel
@[simp] theorem w_strike_until : ((Str.ofString "strike" : Str) = Str.ofString "until") = False := by simp only [eq_iff_iff, iff_false]; decide +kernel
@[simp] theorem w_strike_add : ((Str.ofString "strike" : Str) = Str.ofString "add") = False := by simp only [eq_iff_iff, iff_false]; decide +kernel
@[simp] theorem w_strike_since : ((Str.ofString "strike" : Str) = Str.ofString "since") = False := by simp only [eq_iff_iff, iff_false]; decide +kernel
@[simp] theorem w_from_shift : ((Str.ofString "from" : Str) = Str.ofString "shift") = False := by simp only [eq_iff_iff, iff_false]; decide +kernel
@[simp] theorem w_from_keep : ((Str.ofString "from" : Str) = Str.ofString "keep") = False := by simp only [eq_iff_iff, iff_false]; decide +kernel
@[simp] theorem w_from_strike : ((Str.ofString "from" : Str) = Str.ofString "strike") = False := by simp only [eq_iff_iff, iff_false]; decide +kernel
@[simp] theorem w_from_until : ((Str.ofString "from" : Str) = Str.ofString "until") = False := by simp only [eq_iff_iff, iff_false]; decide +kernel
@[simp] theorem w_from_add : ((Str.ofString "from" : Str) = Str.ofString "add") = False := by simp only [eq_iff_iff, iff_false]; decide +kernel
@[simp] theorem w_from_since : ((Str.ofString "from" : Str) = Str.ofString "since") = False := by simp only [eq_iff_iff, iff_false]; decide +kernel
@[simp] theorem w_until_shift : ((Str.ofString "until" : Str) = Str.ofString "shift") = False := by simp only [eq_iff_iff, iff_false]; decide +kernel
@[simp] theorem w_until_keep : ((Str.ofString "until" : Str) = Str.ofString "keep") = False := by simp only [eq_iff_iff, iff_false]; decide +kernel
@[simp] theorem w_until_strike : ((Str.ofString "until" : Str) = Str.ofString "strike") = False := by simp only [eq_iff_iff, iff_false]; decide +kernel
@[simp] theorem w_until_from : ((Str.ofString "until" : Str) = Str.ofString "from") = False := by simp only [eq_iff_iff, iff_false]; decide +kernel
@[simp] theorem w_until_add : ((Str.ofString "until" : Str) = Str.ofString "add") = False := by simp only [eq_iff_iff, iff_false]; decide +kernel
@[simp] theorem w_until_since : ((Str.ofString "until" : Str) = Str.ofString "since") = False := by simp only [eq_iff_iff, iff_false]; decide +kernel
@[simp] theorem w_add_shift : ((Str.ofString "add" : Str) = Str.ofString "shift") = False := by simp only [eq_iff_iff, iff_false]; decide +kernel
@[simp] theorem w_add_keep : ((Str.ofString "add" : Str) = Str.ofString "keep") = False := by simp only [eq_iff_iff, iff_false]; decide +kernel
@[simp] theorem w_add_strike : ((Str.ofString "add" : Str) = Str.ofString "strike") = False := by simp only [eq_iff_iff, iff_false]; decide +kernel
@[simp] theorem w_add_from : ((Str.ofString "add" : Str) = Str.ofString "from") = False := by simp only [eq_iff_iff, iff_false]; decide +kernel
@[simp] theorem w_add_until : ((Str.ofString "add" : Str) = Str.ofString "until") = False := by simp only [eq_iff_iff, iff_false]; decide +kernel
@[simp] theorem w_add_since : ((Str.ofString "add" : Str) = Str.ofString "since") = False := by simp only [eq_iff_iff, iff_false]; decide +kernel
@[simp] theorem w_since_shift : ((Str.ofString "since" : Str) = Str.ofString "shift") = False := by simp only [eq_iff_iff, iff_false]; decide +kernel
@[simp] theorem w_since_keep : ((Str.ofString "since" : Str) = Str.ofString "keep") = False := by simp only [eq_iff_iff, iff_false]; decide +kernel
@[simp] theorem w_since_strike : ((Str.ofString "since" : Str) = Str.ofString "strike") = False := by simp only [eq_iff_iff, iff_false]; decide +kernel
@[simp] theorem w_since_from : ((Str.ofString "since" : Str) = Str.ofString "from") = False := by simp only [eq_iff_iff, iff_false]; decide +kernel
@[simp] theorem w_since_until : ((Str.ofString "since" : Str) = Str.ofString "until") = False := by simp only [eq_iff_iff, iff_false]; decide +kernel
@[simp] theorem w_since_add : ((Str.ofString "since" : Str) = Str.ofString "add") = False := by simp only [eq_iff_iff, iff_false]; decide +kernel

@[simp] theorem s_dVar (i : Nat) : dVar i ρ k = match ρ[i]? with
  | some (.val d) => k d
  | _ => False := rfl
@[simp] theorem s_dC (d : D) : dC d ρ k = k d := rfl
@[simp] theorem s_dOp (o : D → D → (D → Prop) → Prop) (a b : TdE) : dOp o a b ρ k = a ρ fun x => b ρ fun y => o x y k := rfl
@[simp] theorem s_dTest (a : TdE) (k : Bool → Prop) : dTest a ρ k = a ρ fun d => match d with
  | .bl b => k b
  | _ => False := rfl
@[simp] theorem s_dChain (o o' : D → D → (D → Prop) → Prop) (a b c : TdE) : dChain o o' a b c ρ k = a ρ fun x => b ρ fun y => o x y fun z => match z with
  | .bl b => if b = true then c ρ fun w => o' y w k else k (.bl false)
  | _ => False := rfl
@[simp] theorem s_dAnd (t u : TdT) (k : Bool → Prop) : dAnd t u ρ k = t ρ fun b => if b = true then u ρ k else k false := rfl
@[simp] theorem s_dOr (t u : TdT) (k : Bool → Prop) : dOr t u ρ k = t ρ fun b => if b = true then k true else u ρ k := rfl
@[simp] theorem s_dNot (t : TdT) (k : Bool → Prop) : dNot t ρ k = t ρ fun b => k (!b) := rfl
@[simp] theorem s_dAndV (t u : TdE) : dAndV t u ρ k = t ρ fun d => match d with
  | .bl b => if b = true then u ρ k else k (.bl false)
  | _ => False := rfl
@[simp] theorem s_dOrV (t u : TdE) : dOrV t u ρ k = t ρ fun d => match d with
  | .bl b => if b = true then k (.bl true) else u ρ k
  | _ => False := rfl
@[simp] theorem s_dNotV (t : TdE) : dNotV t ρ k = t ρ fun d => match d with
  | .bl b => k (.bl (!b))
  | _ => False := rfl
@[simp] theorem s_dIf (t : TdT) (a b : TdE) : dIf t a b ρ k = t ρ fun c => if c = true then a ρ k else b ρ k := rfl
@[simp] theorem s_dNil (k : List D → Prop) : dNil ρ k = k [] := rfl
@[simp] theorem s_dCons (a : TdE) (r : TdA) (k : List D → Prop) : dCons a r ρ k = a ρ fun d => r ρ fun ds => k (d :: ds) := rfl
@[simp] theorem s_dStar (a : TdE) (r : TdA) (k : List D → Prop) : dStar a r ρ k = a ρ fun d => match d with
  | .tup l => r ρ fun ds => k (l ++ ds)
  | .lst l => r ρ fun ds => k (l ++ ds)
  | _ => False := rfl
@[simp] theorem s_dTup (a : TdA) : dTup a ρ k = a ρ fun ds => ds.length ≤ sizeLine ∧ k (.tup ds) := rfl
@[simp] theorem s_dLst (a : TdA) : dLst a ρ k = a ρ fun ds => ds.length ≤ sizeLine ∧ k (.lst ds) := rfl
@[simp] theorem s_dNeg (a : TdE) : dNeg a ρ k = a ρ fun d => match d with
  | .int i => k (.int (-i))
  | _ => False := rfl
@[simp] theorem s_dNoPart (k : Option Int → Prop) : dNoPart ρ k = k none := rfl
@[simp] theorem s_dPart (a : TdE) (k : Option Int → Prop) : dPart a ρ k = a ρ fun d => match d with
  | .int i => k (some i)
  | _ => False := rfl
@[simp] theorem s_dSl (a : TdE) (l h : TdO) : dSl a l h ρ k = a ρ fun x => l ρ fun lo => h ρ fun hi => match x with
  | .tup ds => k (.tup (cutL ds lo hi))
  | .lst ds => k (.lst (cutL ds lo hi))
  | _ => False := rfl
@[simp] theorem s_dCall (f : List D → (D → Prop) → Prop) (a : TdA) : dCall f a ρ k = a ρ fun ds => f ds k := rfl
@[simp] theorem s_dFld (n i : Nat) (a : TdE) : dFld n i a ρ k = a ρ fun d => match d with
  | .ins c ds => c = n ∧ (match ds[i]? with
    | some d => k d
    | none => False)
  | _ => False := rfl
@[simp] theorem s_dMeth (n : Nat) (f : List D → (D → Prop) → Prop) (a : TdE) (r : TdA) : dMeth n f a r ρ k = a ρ fun d => match d with
  | .ins c l => c = n ∧ r ρ fun ds => f (.ins c l :: ds) k
  | _ => False := rfl
@[simp] theorem s_opInO (n : Nat) (f : List D → (D → Prop) → Prop) (neg : Bool) (x : D) (c : Nat) (l : List D) : opInO n f neg x (.ins c l) k = (c = n ∧ f [.ins c l, x] fun d => match d with
    | .bl b => k (.bl (if neg then !b else b))
    | _ => False) := rfl
@[simp] theorem s_fLenO (n : Nat) (f : List D → (D → Prop) → Prop) (c : Nat) (l : List D) : fLenO n f [.ins c l] k = (c = n ∧ f [.ins c l] fun d => match d with
    | .int i => (0 ≤ i ∧ i < 2 ^ 63) ∧ k (.int i)
    | _ => False) := rfl
@[simp] theorem s_opAddO (n : Nat) (f : List D → (D → Prop) → Prop) (c c' : Nat) (l l' : List D) : opAddO n f (.ins c l) (.ins c' l') k = (c = n ∧ c' = n ∧ f [.ins c l, .ins c' l'] fun d => match d with
    | .ins c2 l2 => k (.ins c2 l2)
    | _ => False) := rfl
@[simp] theorem s_opIxO (n : Nat) (f : List D → (D → Prop) → Prop) (c : Nat) (l : List D) (y : D) : opIxO n f (.ins c l) y k = (c = n ∧ f [.ins c l, y] k) := rfl
@[simp] theorem s_dGet (a b c : TdE) : dGet a b c ρ k = a ρ fun x => match x with
  | .dct kvs => b ρ fun y => match y.key with
    | some q => c ρ fun z => k ((lookD kvs q).getD z)
    | none => False
  | _ => False := rfl
@[simp] theorem s_opInD (neg : Bool) (x : D) (kvs : List (Ky × D)) : opInD neg x (.dct kvs) k = match x.key with
  | some q => k (.bl (if neg then !(lookD kvs q).isSome else (lookD kvs q).isSome))
  | none => False := by unfold opInD; cases x.key <;> rfl
/-! statements -/
variable {E : EndsD}
@[simp] theorem s_dNext : dNext E ρ = E.nx ρ := rfl
@[simp] theorem s_dSeq (t u : TdS) : dSeq t u E ρ = t { E with nx := u E } ρ := rfl
@[simp] theorem s_dRet (e : TdE) : dRet e E ρ = e ρ E.rt := rfl
@[simp] theorem s_dNever : dNever E ρ = False := rfl
@[simp] theorem s_dDrop (e : TdE) : dDrop e E ρ = e ρ fun _ => E.nx ρ := rfl
@[simp] theorem s_dIfS (c : TdT) (t u : TdS) : dIfS c t u E ρ = c ρ fun b => if b = true then t E ρ else u E ρ := rfl
@[simp] theorem s_dAsg (i : Nat) (e : TdE) : dAsg i e E ρ = e ρ fun d => E.nx (ρ.set i (.val d)) := rfl
@[simp] theorem s_dVal (e : TdE) (k : Sl → Prop) : dVal e ρ k = e ρ fun d => k (.val d) := rfl
@[simp] theorem s_dOwn (a : TdA) (k : Sl → Prop) : dOwn a ρ k = a ρ fun ds => ds.length ≤ sizeLine ∧ k (.own ds) := rfl
@[simp] theorem s_dAsgS (i : Nat) (e : TdSl) : dAsgS i e E ρ = e ρ fun s => E.nx (ρ.set i s) := rfl
@[simp] theorem s_dFrz (i : Nat) (t : TdS) : dFrz i t E ρ = match ρ[i]? with
  | some (.own ds) => t E (ρ.set i (.val (.lst ds)))
  | _ => False := rfl
@[simp] theorem s_dApp (i : Nat) (e : TdE) : dApp i e E ρ = match ρ[i]? with
  | some (.own ds) => e ρ fun d => ds.length < sizeLine ∧ E.nx (ρ.set i (.own (ds ++ [d])))
  | _ => False := rfl
@[simp] theorem s_dExt (i : Nat) (e : TdE) : dExt i e E ρ = match ρ[i]? with
  | some (.own ds) => e ρ fun d => match d with
    | .lst es => ds.length + es.length ≤ sizeLine ∧ E.nx (ρ.set i (.own (ds ++ es)))
    | _ => False
  | _ => False := rfl
@[simp] theorem s_dFldSet (n i : Nat) (f : Str) (a : TdE) : dFldSet m n i f a E ρ = match ρ[i]? with
  | some (.obj x c ds) => a ρ fun d => c = n ∧ ds.length < 900 ∧ (m.nm n)[ds.length]? = some f ∧ E.nx (ρ.set i (.obj x c (ds ++ [d])))
  | _ => False := rfl
@[simp] theorem s_dPar (i j : Nat) (a b : TdSl) : dPar i j a b E ρ = a ρ fun s => b ρ fun u => E.nx ((ρ.set i s).set j u) := rfl
@[simp] theorem s_dPar3 (i j l : Nat) (a b c : TdSl) : dPar3 i j l a b c E ρ = a ρ fun s => b ρ fun u => c ρ fun w => E.nx (((ρ.set i s).set j u).set l w) := rfl
@[simp] theorem s_dAsgG (de : TdE) (dg : TdG) : dAsgG de dg E ρ = de ρ fun d => dg d ρ E.nx := rfl
@[simp] theorem s_dgName (i : Nat) (d : D) (k : Rho → Prop) : dgName i d ρ k = k (ρ.set i (.val d)) := rfl
@[simp] theorem s_dgTup (is : List Nat) (ds : List D) (k : Rho → Prop) : dgTup is (.tup ds) ρ k = (ds.length = is.length ∧ k ((is.zip ds).foldl (fun r p => r.set p.1 (.val p.2)) ρ)) := rfl
@[simp] theorem s_dYes (k : Bool → Prop) : dYes ρ k = k true := rfl
/-! what is walked -/
@[simp] theorem s_dIter (de : TdE) (k : List D → Prop) : dIter de ρ k = de ρ fun d => match d with
  | .tup ds => k ds
  | .lst ds => k ds
  | _ => False := rfl
@[simp] theorem s_dRng1 (da : TdA) (k : List D → Prop) : dRng1 da ρ k = da ρ fun ds => match ds with
  | [.int n] => (-(2 ^ 62) ≤ n ∧ n < 2 ^ 62) ∧ k (rngD 0 n.toNat)
  | _ => False := rfl
@[simp] theorem s_dRng2 (da : TdA) (k : List D → Prop) : dRng2 da ρ k = da ρ fun ds => match ds with
  | [.int a, .int b] => (-(2 ^ 62) ≤ a ∧ a < 2 ^ 62 ∧ -(2 ^ 62) ≤ b ∧ b < 2 ^ 62) ∧ k (rngD a (b - a).toNat)
  | _ => False := rfl
@[simp] theorem s_dEnum (da : TdA) (k : List D → Prop) : dEnum da ρ k = da ρ fun ds => match ds with
  | [.lst l] => k (enumD l)
  | [.tup l] => k (enumD l)
  | _ => False := rfl
/-! loops: the part behind what is walked -/
def ForB (dg : TdG) (body : TdS) (De : EndsD) (ρ : Rho) (ds : List D) : Prop := ∃ I : Nat → Rho → Prop, I 0 ρ ∧
  (∀ (i : Nat) (d : D) (ρ' : Rho), ds[i]? = some d → I i ρ' → dg d ρ' fun ρ2 => body { De with nx := I (i + 1), ct := I (i + 1), bk := De.nx } ρ2) ∧ ∀ ρ', I ds.length ρ' → De.nx ρ'
@[simp] theorem s_dFor (di : TdI) (dg : TdG) (body : TdS) : dFor di dg body E ρ = di ρ fun ds => ForB dg body E ρ ds := rfl
def LcB (dg : TdG) (dt : TdT) (de : TdE) (vs : List Nat) (ρ : Rho) (ds : List D) (k : List D → Prop) : Prop := ∃ I : Nat → List D → Prop, I 0 [] ∧
  (∀ (i : Nat) (d : D) (acc : List D), ds[i]? = some d → I i acc → dg d (wipeR ρ vs) fun ρ2 => dt ρ2 fun b => if b = true then de ρ2 fun y => acc.length < sizeLine ∧ I (i + 1) (acc ++ [y]) else I (i + 1) acc) ∧ ∀ acc, I ds.length acc → k acc
@[simp] theorem s_dLc (di : TdI) (dg : TdG) (dt : TdT) (de : TdE) (vs : List Nat) : dLc di dg dt de vs ρ k = di ρ fun ds => LcB dg dt de vs ρ ds fun acc => k (.lst acc) := rfl
@[simp] theorem s_dLcO (di : TdI) (dg : TdG) (dt : TdT) (de : TdE) (vs : List Nat) (k : Sl → Prop) : dLcO di dg dt de vs ρ k = di ρ fun ds => LcB dg dt de vs ρ ds fun acc => k (.own acc) := rfl
def DxB (dg : TdG) (dt : TdT) (dk dv : TdE) (vs : List Nat) (ρ : Rho) (ds : List D) (k : List (Ky × D) → Prop) : Prop := ∃ I : Nat → List (Ky × D) → Prop, I 0 [] ∧
  (∀ (i : Nat) (d : D) (acc : List (Ky × D)), ds[i]? = some d → I i acc → dg d (wipeR ρ vs) fun ρ2 => dt ρ2 fun b => if b = true then dk ρ2 fun y => match y.key with
    | some q => dv ρ2 fun z => acc.length < sizeLine ∧ I (i + 1) (insD acc q z)
    | none => False else I (i + 1) acc) ∧ ∀ acc, I ds.length acc → k acc
@[simp] theorem s_dDx (di : TdI) (dg : TdG) (dt : TdT) (dk dv : TdE) (vs : List Nat) : dDx di dg dt dk dv vs ρ k = di ρ fun ds => DxB dg dt dk dv vs ρ ds fun acc => k (.dct acc) := rfl
@[simp] theorem s_dLcOwn (i j : Nat) (dg : TdG) (dt : Res → TdT) (de : Res → TdE) (vs : List Nat) : dLcOwn i j dg dt de vs E ρ = match ρ[i]? with
  | some (.own ds) => ∀ R' : Res, LcB dg (dt R') (de R') vs ρ ds fun acc => E.nx (ρ.set j (.own acc))
  | _ => False := rfl
@[simp] theorem s_dDxOwn (i j : Nat) (dg : TdG) (dt : Res → TdT) (dk dv : Res → TdE) (vs : List Nat) : dDxOwn i j dg dt dk dv vs E ρ = match ρ[i]? with
  | some (.own ds) => ∀ R' : Res, DxB dg (dt R') (dk R') (dv R') vs ρ ds fun acc => E.nx (ρ.set j (.val (.dct acc)))
  | _ => False := rfl
def WhB (dc : TdT) (body : TdS) (De : EndsD) (ρ : Rho) : Prop := ∃ I : Nat → Rho → Prop, (∃ n, I n ρ) ∧ ∀ n ρ', I n ρ' → dc ρ' fun b => if b = true then body { De with nx := fun ρ2 => ∃ n', n' < n ∧ I n' ρ2, ct := fun ρ2 => ∃ n', n' < n ∧ I n' ρ2, bk := De.nx } ρ' else De.nx ρ'
@[simp] theorem s_dWhile (dc : TdT) (body : TdS) : dWhile dc body E ρ = WhB dc body E ρ := rfl
/-! operations -/
@[simp] theorem s_opI (C : Int → Int → Prop) (g : Int → Int → D) (i j : Int) : opI C g (.int i) (.int j) k = (C i j ∧ k (g i j)) := rfl
@[simp] theorem s_opI0 (g : Int → Int → D) (i j : Int) : opI0 g (.int i) (.int j) k = k (g i j) := rfl
@[simp] theorem s_add_i (i j : Int) : opAdd (.int i) (.int j) k = k (.int (i + j)) := rfl
@[simp] theorem s_add_t (a b : List D) : opAdd (.tup a) (.tup b) k = (a.length + b.length ≤ sizeLine ∧ k (.tup (a ++ b))) := rfl
@[simp] theorem s_add_l (a b : List D) : opAdd (.lst a) (.lst b) k = (a.length + b.length ≤ sizeLine ∧ k (.lst (a ++ b))) := rfl
@[simp] theorem s_mul_i (i j : Int) : opMul (.int i) (.int j) k = (CMul i j ∧ k (.int (i * j))) := rfl
@[simp] theorem s_mul_l (a : List D) (j : Int) : opMul (.lst a) (.int j) k = ((-(2 ^ 63) ≤ j ∧ j < 2 ^ 63) ∧ a.length * j.toNat ≤ sizeLine ∧ k (.lst (List.replicate j.toNat a).flatten)) := rfl
@[simp] theorem s_is_n (neg : Bool) : opIs neg .non .non k = k (.bl (!neg)) := rfl
@[simp] theorem s_is_i (neg : Bool) (i : Int) : opIs neg (.int i) .non k = k (.bl neg) := rfl
@[simp] theorem s_is_t (neg : Bool) (l : List D) : opIs neg (.tup l) .non k = k (.bl neg) := rfl
@[simp] theorem s_is_o (neg : Bool) (c : Nat) (l : List D) : opIs neg (.ins c l) .non k = k (.bl neg) := rfl
theorem dec_int (i j : Int) : decide (V.int i = V.int j) = decide (i = j) := by simp
theorem dec_str (i j : Str) : decide (V.str i = V.str j) = decide (i = j) := by simp
@[simp] theorem s_eq_i (neg : Bool) (i j : Int) : opEq neg (.int i) (.int j) k = k (.bl (if neg then !decide (i = j) else decide (i = j))) := by
  simp only [opEq, D.sc, dec_int]
  exact propext ⟨fun h => h.2, fun h => ⟨rfl, h⟩⟩
@[simp] theorem s_eq_s (neg : Bool) (i j : Str) : opEq neg (.str i) (.str j) k = k (.bl (if neg then !decide (i = j) else decide (i = j))) := by
  simp only [opEq, D.sc, dec_str]
  exact propext ⟨fun h => h.2, fun h => ⟨rfl, h⟩⟩
@[simp] theorem s_eq_nn (neg : Bool) : opEq neg .non .non k = k (.bl (!neg)) := by
  simp only [opEq, D.sc]
  cases neg <;> exact propext ⟨fun h => h.2, fun h => ⟨rfl, h⟩⟩
@[simp] theorem s_eq_in (neg : Bool) (i : Int) : opEq neg (.int i) .non k = k (.bl neg) := by
  simp only [opEq, D.sc]
  cases neg <;> exact propext ⟨fun h => h.2, fun h => ⟨rfl, h⟩⟩
@[simp] theorem s_eq_ni (neg : Bool) (i : Int) : opEq neg .non (.int i) k = k (.bl neg) := by
  simp only [opEq, D.sc]
  cases neg <;> exact propext ⟨fun h => h.2, fun h => ⟨rfl, h⟩⟩
@[simp] theorem s_eq_b (neg : Bool) (a b : Bool) : opEq neg (.bl a) (.bl b) k = k (.bl (if neg then !decide (a = b) else decide (a = b))) := by
  simp only [opEq, D.sc, V.bl.injEq]
  exact propext ⟨fun h => h.2, fun h => ⟨rfl, h⟩⟩
theorem s_eq_l (neg : Bool) (a b : List D) : opEq neg (.lst a) (.lst b) k = ((∃ n, n ≤ 60 ∧ (D.lst a).nob n = true ∧ (D.lst b).nob n = true) ∧ k (.bl (if neg then !(D.lst a).eqb (.lst b) else (D.lst a).eqb (.lst b)))) := rfl
@[simp] theorem atI0 {α : Type} (a : α) (l : List α) : atI (a :: l) 0 = some a := by simp [atI, ixN]
@[simp] theorem atI1 {α : Type} (a b : α) (l : List α) : atI (a :: b :: l) 1 = some b := by
  unfold atI ixN
  rw [if_pos (by decide), if_pos (by simp only [List.length_cons]; omega)]
  rfl
@[simp] theorem atI2 {α : Type} (a b c : α) (l : List α) : atI (a :: b :: c :: l) 2 = some c := by
  unfold atI ixN
  rw [if_pos (by decide), if_pos (by simp only [List.length_cons]; omega)]
  rfl
@[simp] theorem atI3 {α : Type} (a b c d : α) (l : List α) : atI (a :: b :: c :: d :: l) 3 = some d := by
  unfold atI ixN
  rw [if_pos (by decide), if_pos (by simp only [List.length_cons]; omega)]
  rfl
theorem atIn {α : Type} (l : List α) (i : Nat) : atI l (i : Int) = l[i]? := by
  unfold atI ixN
  rw [if_pos (Int.natCast_nonneg i)]
  by_cases h : i < l.length
  · rw [if_pos (by omega)]
    simp
  · rw [if_neg (by omega), List.getElem?_eq_none (by omega)]
    rfl
@[simp] theorem s_ix_t (l : List D) (i : Int) : opIx (.tup l) (.int i) k = match atI l i with
  | some d => k d
  | none => False := rfl
@[simp] theorem s_ix_l (l : List D) (i : Int) : opIx (.lst l) (.int i) k = match atI l i with
  | some d => k d
  | none => False := rfl
theorem scs_ints (l : List Int) : D.scs (l.map D.int) = some (l.map V.int) := by
  induction l with
  | nil => rfl
  | cons i r ih => simp [D.scs, D.sc, ih]
theorem inV_ints (x : Int) (l : List Int) : inV (V.int x) (l.map V.int) = decide (x ∈ l) := by
  induction l with
  | nil => rfl
  | cons i r ih =>
    have e : inV (V.int x) ((i :: r).map V.int) = (eqV (V.int i) (V.int x) || inV (V.int x) (r.map V.int)) := rfl
    rw [e, ih]
    have e2 : eqV (V.int i) (V.int x) = decide (i = x) := Bool.eq_iff_iff.mpr (by simp [eqV])
    rw [e2]
    by_cases h : i = x
    · simp [h]
    · have h2 : ¬ x = i := fun z => h z.symm
      simp [h, h2]
@[simp] theorem s_in_ti (neg : Bool) (x : Int) (l : List Int) : opIn neg (.int x) (.tup (l.map D.int)) k = k (.bl (if neg then !decide (x ∈ l) else decide (x ∈ l))) := by
  simp only [opIn, D.sc, scs_ints, inV_ints]
@[simp] theorem s_in_li (neg : Bool) (x : Int) (l : List Int) : opIn neg (.int x) (.lst (l.map D.int)) k = k (.bl (if neg then !decide (x ∈ l) else decide (x ∈ l))) := by
  simp only [opIn, D.sc, scs_ints, inV_ints]
theorem eqV_str (a b : Str) : eqV (V.str a) (V.str b) = decide (a = b) := Bool.eq_iff_iff.mpr (by simp [eqV])
@[simp] theorem s_in_s2 (neg : Bool) (x a b : Str) : opIn neg (.str x) (.tup [.str a, .str b]) k = k (.bl (if neg then !(decide (a = x) || decide (b = x)) else (decide (a = x) || decide (b = x)))) := by
  simp only [opIn, D.sc, D.scs, inV, List.any_cons, List.any_nil, eqV_str, Bool.or_false]
@[simp] theorem s_in_s3 (neg : Bool) (x a b c : Str) : opIn neg (.str x) (.tup [.str a, .str b, .str c]) k = k (.bl (if neg then !(decide (a = x) || (decide (b = x) || decide (c = x))) else (decide (a = x) || (decide (b = x) || decide (c = x))))) := by
  simp only [opIn, D.sc, D.scs, inV, List.any_cons, List.any_nil, eqV_str, Bool.or_false]
/-! built-ins -/
@[simp] theorem s_len_t (l : List D) : fLen [.tup l] k = k (.int l.length) := rfl
@[simp] theorem s_len_l (l : List D) : fLen [.lst l] k = k (.int l.length) := rfl
@[simp] theorem s_abs (i : Int) : fAbs [.int i] k = k (.int i.natAbs) := by
  show k (.int (if i < 0 then -i else i)) = _
  have e : (if i < 0 then -i else i) = (i.natAbs : Int) := by split <;> omega
  rw [e]
@[simp] theorem s_max2 (i j : Int) : fMax [.int i, .int j] k = k (.int (if j > i then j else i)) := rfl
@[simp] theorem s_min2 (i j : Int) : fMin [.int i, .int j] k = k (.int (if j < i then j else i)) := rfl
@[simp] theorem s_list_t (l : List D) : fList [.tup l] k = k (.lst l) := rfl
@[simp] theorem s_list_l (l : List D) : fList [.lst l] k = k (.lst l) := rfl
@[simp] theorem s_tuple_t (l : List D) : fTuple [.tup l] k = k (.tup l) := rfl
@[simp] theorem s_tuple_l (l : List D) : fTuple [.lst l] k = k (.tup l) := rfl
@[simp] theorem s_int_i (i : Int) : fInt [.int i] k = k (.int i) := rfl
@[simp] theorem s_int_b (b : Bool) : fInt [.bl b] k = k (.int (if b then 1 else 0)) := rfl
theorem s_all (bs : List Bool) : fAll [.lst (bs.map D.bl)] k = k (.bl (bs.all id)) := by simp only [fAll, D.bls_map]
theorem s_any (bs : List Bool) : fAny [.lst (bs.map D.bl)] k = k (.bl (bs.any id)) := by simp only [fAny, D.bls_map]
theorem s_sum (ns : List Int) : fSum [.lst (ns.map D.int)] k = k (.int ns.sum) := by simp only [fSum, D.ints_map]
@[simp] theorem s_isi_i (i : Int) : fIsi m [.int i, .raw (.ty "int")] k = k (.bl true) := by simp [fIsi, isi]
@[simp] theorem s_isi_ib (i : Int) : fIsi m [.int i, .raw (.ty "bool")] k = k (.bl false) := by simp [fIsi, isi]
@[simp] theorem s_isi_t (l : List D) : fIsi m [.tup l, .raw (.ty "tuple")] k = k (.bl true) := by simp [fIsi, isi]
@[simp] theorem s_isi_s (s : Str) : fIsi m [.str s, .raw (.ty "str")] k = k (.bl true) := by simp [fIsi, isi]
@[simp] theorem s_isi_lt (l : List D) : fIsi m [.lst l, .tup [.raw (.ty "list"), .raw (.ty "tuple")]] k = k (.bl true) := by simp [fIsi, isi]
@[simp] theorem s_isi_tt (l : List D) : fIsi m [.tup l, .tup [.raw (.ty "list"), .raw (.ty "tuple")]] k = k (.bl true) := by simp [fIsi, isi]
@[simp] theorem s_isi_o (c : Nat) (l : List D) : fIsi m [.ins c l, .raw (.ref (m.cl c))] k = k (.bl true) := by simp [fIsi, isi]
@[simp] theorem key_n : D.key .non = some .non := rfl
@[simp] theorem key_i (i : Int) : D.key (.int i) = some (.int i) := rfl
@[simp] theorem key_2 (i j : Int) : D.key (.tup [.int i, .int j]) = some (.tup [i, j]) := rfl
/-! loops -/
theorem rngD_eq (lo : Int) (n : Nat) : rngD lo n = ((List.range n).map fun (i : Nat) => lo + (i : Int)).map D.int := by simp [rngD, List.map_map, Function.comp_def]
theorem lcMap {α : Type} {dg : TdG} {dt : TdT} {de : TdE} {vs : List Nat} {kk : List D → Prop} (l : List α) (enc : α → D) (p : α → Bool) (g : α → D)
    (hs : ∀ x ∈ l, ∀ (Kt : D → Prop) (Kf : Prop), (p x = true → Kt (g x)) → (p x = false → Kf) → dg (enc x) (wipeR ρ vs) fun ρ2 => dt ρ2 fun b => if b = true then de ρ2 Kt else Kf)
    (hl : l.length ≤ sizeLine) (h : kk ((l.filter p).map g)) : LcB dg dt de vs ρ (l.map enc) kk := by
  refine ⟨fun i acc => acc = ((l.take i).filter p).map g, by simp, fun i d acc hd hI => ?_, fun acc hI => ?_⟩
  · rw [List.getElem?_map, Option.map_eq_some_iff] at hd
    obtain ⟨x, hx, rfl⟩ := hd
    have hlt : i < l.length := (List.getElem?_eq_some_iff.mp hx).1
    have ht : l.take (i + 1) = l.take i ++ [x] := by rw [List.take_add_one, hx]; rfl
    refine hs x (List.mem_of_getElem? hx) _ _ (fun hp => ⟨?_, ?_⟩) fun hp => ?_
    · rw [hI, List.length_map]
      have := List.length_filter_le p (l.take i)
      rw [List.length_take] at this
      omega
    · show acc ++ [g x] = ((l.take (i + 1)).filter p).map g
      rw [hI, ht, List.filter_append, List.map_append]
      simp [List.filter_cons, hp]
    · show acc = ((l.take (i + 1)).filter p).map g
      rw [hI, ht, List.filter_append]
      simp [List.filter_cons, hp]
  · rw [List.length_map] at hI
    rw [hI, List.take_length]
    exact h
theorem lcAll {α : Type} {dg : TdG} {de : TdE} {vs : List Nat} {kk : List D → Prop} (l : List α) (enc : α → D) (g : α → D)
    (hs : ∀ x ∈ l, ∀ (Kt : D → Prop), Kt (g x) → dg (enc x) (wipeR ρ vs) fun ρ2 => de ρ2 Kt) (hl : l.length ≤ sizeLine) (h : kk (l.map g)) : LcB dg dYes de vs ρ (l.map enc) kk := by
  refine lcMap l enc (fun _ => true) g (fun x hx Kt Kf ht hf => ?_) hl (by rw [List.filter_eq_self.mpr fun _ _ => rfl]; exact h)
  have := hs x hx Kt (ht rfl)
  simpa using this
/-- a for whose turns change the names by a step; a return may leave it -/
theorem forMap {α : Type} {dg : TdG} {body : TdS} {De : EndsD} (l : List α) (enc : α → D) (Iv : List α → Rho → Prop) (h0 : Iv [] ρ)
    (hs : ∀ (pre : List α) (x : α) (post : List α), l = pre ++ x :: post → ∀ ρ', Iv pre ρ' → dg (enc x) ρ' fun ρ2 => body { De with nx := Iv (pre ++ [x]), ct := Iv (pre ++ [x]), bk := De.nx } ρ2)
    (h : ∀ ρ', Iv l ρ' → De.nx ρ') : ForB dg body De ρ (l.map enc) := by
  refine ⟨fun i ρ' => Iv (l.take i) ρ', h0, fun i d ρ' hd hI => ?_, fun ρ' hI => ?_⟩
  · rw [List.getElem?_map, Option.map_eq_some_iff] at hd
    obtain ⟨x, hx, rfl⟩ := hd
    have hlt : i < l.length := (List.getElem?_eq_some_iff.mp hx).1
    have ht : l.take (i + 1) = l.take i ++ [x] := by rw [List.take_add_one, hx]; rfl
    have e : l = l.take i ++ x :: l.drop (i + 1) := by
      have e1 : l.drop i = x :: l.drop (i + 1) := by
        have e2 := (List.getElem_cons_drop hlt).symm
        rw [(List.getElem?_eq_some_iff.mp hx).2] at e2
        exact e2
      rw [← e1, List.take_append_drop]
    have := hs (l.take i) x (l.drop (i + 1)) e ρ' hI
    show dg (enc x) ρ' fun ρ2 => body { De with nx := Iv (l.take (i + 1)), ct := Iv (l.take (i + 1)), bk := De.nx } ρ2
    rw [ht]
    exact this
  · rw [List.length_map, List.take_length] at hI
    exact h ρ' hI
theorem enumD_map {α : Type} (l : List α) (enc : α → D) : enumD (l.map enc) = l.zipIdx.map fun x => .tup [.int (x.2 : Int), enc x.1] := by
  unfold enumD
  rw [List.zipIdx_map, List.map_map]
  rfl
/-- for i, x in enumerate(..) -/
theorem forEnum {α : Type} {dg : TdG} {body : TdS} {De : EndsD} (l : List α) (enc : α → D) (Iv : List α → Rho → Prop) (h0 : Iv [] ρ)
    (hs : ∀ (pre : List α) (x : α) (post : List α), l = pre ++ x :: post → ∀ ρ', Iv pre ρ' → dg (.tup [.int (pre.length : Int), enc x]) ρ' fun ρ2 => body { De with nx := Iv (pre ++ [x]), ct := Iv (pre ++ [x]), bk := De.nx } ρ2)
    (h : ∀ ρ', Iv l ρ' → De.nx ρ') : ForB dg body De ρ (enumD (l.map enc)) := by
  rw [enumD_map]
  have z : ∀ l : List α, l.zipIdx.map (·.1) = l := fun l => by simp
  refine forMap l.zipIdx (fun x => .tup [.int (x.2 : Int), enc x.1]) (fun pre ρ => Iv (pre.map (·.1)) ρ) h0 (fun pre x post e ρ' hI => ?_) fun ρ' hI => h ρ' (by rw [z] at hI; exact hI)
  have e2 : l = pre.map (·.1) ++ x.1 :: post.map (·.1) := by
    rw [← z l, e]
    simp
  have e3 : x.2 = (pre.map (·.1)).length := by
    have hx : l.zipIdx[pre.length]? = some x := by rw [e]; simp
    rw [List.getElem?_zipIdx] at hx
    cases q : l[pre.length]? with
    | none => rw [q] at hx; cases hx
    | some y =>
      rw [q] at hx
      cases hx
      simp
  have := hs (pre.map (·.1)) x.1 (post.map (·.1)) e2 ρ' hI
  rw [e3]
  simpa using this
theorem lookD_insD (kvs : List (Ky × D)) (k q : Ky) (d : D) : lookD (insD kvs k d) q = if q = k then some d else lookD kvs q := by
  unfold insD
  split
  · rename_i h
    induction kvs with
    | nil => simp at h
    | cons x xs ih =>
      by_cases e : x.1 = k
      · by_cases e2 : q = k
        · subst e2
          simp [lookD, e]
        · have e3 : ¬ x.1 = q := fun z => e2 (z.symm.trans e)
          by_cases e4 : (xs.any fun x => decide (x.1 = k)) = true
          · have := ih e4
            simp only [e2, if_false] at this ⊢
            have l1 : lookD (List.map (fun x => if x.1 = k then (x.1, d) else x) (x :: xs)) q = lookD (List.map (fun x => if x.1 = k then (x.1, d) else x) xs) q := by simp [lookD, e, Ne.symm e2]
            have l2 : lookD (x :: xs) q = lookD xs q := by simp [lookD, e3]
            rw [l1, l2, this]
          · have l0 : List.map (fun x => if x.1 = k then (x.1, d) else x) xs = xs := by
              refine (List.map_congr_left fun y hy => ?_).trans (List.map_id xs)
              rw [if_neg]
              · rfl
              · intro z
                exact e4 (List.any_eq_true.mpr ⟨y, hy, by simpa using z⟩)
            have l1 : lookD (List.map (fun x => if x.1 = k then (x.1, d) else x) (x :: xs)) q = lookD (List.map (fun x => if x.1 = k then (x.1, d) else x) xs) q := by simp [lookD, e, Ne.symm e2]
            have l2 : lookD (x :: xs) q = lookD xs q := by simp [lookD, e3]
            rw [l1, l2, l0, if_neg e2]
      · have h2 : (xs.any fun x => decide (x.1 = k)) = true := by simpa [e] using h
        have := ih h2
        by_cases e2 : x.1 = q
        · have e3 : ¬ q = k := fun z => e (e2.trans z)
          simp [lookD, e, e2, e3]
        · have l1 : lookD (List.map (fun x => if x.1 = k then (x.1, d) else x) (x :: xs)) q = lookD (List.map (fun x => if x.1 = k then (x.1, d) else x) xs) q := by simp [lookD, e, e2]
          have l2 : lookD (x :: xs) q = lookD xs q := by simp [lookD, e2]
          rw [l1, l2, this]
  · rename_i h
    by_cases e : q = k
    · subst e
      rw [if_pos rfl]
      unfold lookD
      rw [List.find?_append, List.find?_eq_none.mpr]
      · simp
      · intro x hx z
        exact h (List.any_eq_true.mpr ⟨x, hx, z⟩)
    · rw [if_neg e]
      unfold lookD
      rw [List.find?_append]
      cases z : kvs.find? fun x => decide (x.1 = q) with
      | some y => simp
      | none => simp [Ne.symm e]
theorem insD_len (kvs : List (Ky × D)) (k : Ky) (d : D) : (insD kvs k d).length ≤ kvs.length + 1 := by
  unfold insD
  split <;> simp
/-- {k: True for ..}: what it holds -/
theorem dxMap {α : Type} {dg : TdG} {dt : TdT} {dk : TdE} {vs : List Nat} {kk : List (Ky × D) → Prop} (l : List α) (enc : α → D) (p : α → Bool) (key : α → D) (ky : α → Ky)
    (hk : ∀ x, p x = true → (key x).key = some (ky x))
    (hs : ∀ x ∈ l, ∀ (Kt : D → Prop) (Kf : Prop), (p x = true → Kt (key x)) → (p x = false → Kf) → dg (enc x) (wipeR ρ vs) fun ρ2 => dt ρ2 fun b => if b = true then dk ρ2 Kt else Kf)
    (hl : l.length ≤ sizeLine) (h : ∀ kvs, (∀ q, (lookD kvs q).isSome = (l.filter p).any fun x => decide (ky x = q)) → kvs.length ≤ l.length → kk kvs) : DxB dg dt dk (dC (.bl true)) vs ρ (l.map enc) kk := by
  refine ⟨fun i acc => (∀ q, (lookD acc q).isSome = ((l.take i).filter p).any fun x => decide (ky x = q)) ∧ acc.length ≤ i, ⟨fun q => by simp [lookD], Nat.le_refl 0⟩, fun i d acc hd hI => ?_, fun acc hI => ?_⟩
  · rw [List.getElem?_map, Option.map_eq_some_iff] at hd
    obtain ⟨x, hx, rfl⟩ := hd
    have hlt : i < l.length := (List.getElem?_eq_some_iff.mp hx).1
    have ht : l.take (i + 1) = l.take i ++ [x] := by rw [List.take_add_one, hx]; rfl
    simp only [s_dC]
    refine hs x (List.mem_of_getElem? hx) _ _ (fun hp => ?_) fun hp => ?_
    · rw [hk x hp]
      refine ⟨by omega, fun q => ?_, ?_⟩
      · rw [lookD_insD, ht, List.filter_append, List.any_append]
        by_cases e : q = ky x
        · subst e
          simp [List.filter_cons, hp]
        · rw [if_neg e, hI.1 q]
          simp [List.filter_cons, hp, Ne.symm e]
      · have := insD_len acc (ky x) (.bl true)
        omega
    · refine ⟨fun q => ?_, by omega⟩
      rw [ht, List.filter_append, List.any_append, hI.1 q]
      simp [List.filter_cons, hp]
  · rw [List.length_map, List.take_length] at hI
    exact h acc hI.1 hI.2
end
end Dl
set_option Elab.async false
set_option linter.all false
set_option maxRecDepth 100000
set_option maxHeartbeats 2000000
/-! The program's things in plain words, and as data. -/
namespace Dl
open PySem PySem.Spec PyProof.Rows L2

structure Rhy where
  s : Int
  rs : List Int
/-- plain steps -/
inductive Pl where
  | shift (i : Int) | keep (r : Rhy) | strike (r : Rhy) | from_ (i : Int) | until_ (i : Int)
/-- steps -/
inductive Stp where
  | pl (p : Pl) | add (r : Rhy) (a : Int) (b : Option Int) | since (c : Int) (l : List Pl)
abbrev Scr := List Stp
def Rhy.has (r : Rhy) (d : Int) : Bool := decide (d % r.s ∈ r.rs)
def Num (i : Int) : Prop := -100 ≤ i ∧ i ≤ 100
def Rhy.Ok (r : Rhy) : Prop := 1 ≤ r.s ∧ r.s ∣ 12
def Pl.Ok : Pl → Prop
  | .shift i => Num i
  | .keep r => r.Ok
  | .strike r => r.Ok
  | .from_ i => Num i
  | .until_ i => Num i
def Stp.Ok : Stp → Prop
  | .pl p => p.Ok
  | .add r a b => r.Ok ∧ Num a ∧ ∀ x, b = some x → Num x
  | .since c l => Num c ∧ l ≠ [] ∧ l.length ≤ 12 ∧ ∀ p ∈ l, p.Ok
def encO : Option Int → D
  | none => .non
  | some i => .int i
def encR (r : Rhy) : D := .ins 0 [.tup [.int r.s, .tup (r.rs.map D.int)]]
def encP : Pl → D
  | .shift i => .tup [.str "shift", .int i]
  | .keep r => .tup [.str "keep", encR r]
  | .strike r => .tup [.str "strike", encR r]
  | .from_ i => .tup [.str "from", .int i]
  | .until_ i => .tup [.str "until", .int i]
def encS : Stp → D
  | .pl p => encP p
  | .add r a b => .tup [.str "add", encR r, .int a, encO b]
  | .since c l => .tup [.str "since", .int c, .tup (l.map encP)]
def encC (l : Scr) : D := .ins 1 [.tup (l.map encS)]
def Stp.flat : Stp → List Stp
  | .since c l => .since c l :: l.map .pl
  | s => [s]
def flatS (l : Scr) : Scr := l.flatMap Stp.flat
structure Scr.Ok (l : Scr) : Prop where
  all : ∀ s ∈ l, s.Ok
  few : (flatS l).length ≤ 12
/-- common(one, other) -/
def com (a b : Int) : Int := a / (Int.gcd a b : Int) * b
/-- the size of the rhythm in a step, 1 if there is none -/
def Stp.rhy : Stp → Option Rhy
  | .pl (.keep r) => some r
  | .pl (.strike r) => some r
  | .add r _ _ => some r
  | _ => none
def rndS (l : Scr) : Int := ((flatS l).filterMap Stp.rhy).foldl (fun f r => com f r.s) 1
def Stp.isPl : Stp → Bool
  | .pl _ => true
  | _ => false
def Stp.isAdd : Stp → Bool
  | .add _ _ _ => true
  | _ => false

theorem com_dvd {a b n : Int} (ha : 1 ≤ a) (hb : 1 ≤ b) (h1 : a ∣ n) (h2 : b ∣ n) : 1 ≤ com a b ∧ com a b ∣ n ∧ a ∣ com a b ∧ b ∣ com a b := by
  have e : com a b = (Int.lcm a b : Int) := by
    unfold com Int.lcm Int.gcd Nat.lcm
    obtain ⟨x, rfl⟩ := Int.eq_ofNat_of_zero_le (show 0 ≤ a by omega)
    obtain ⟨y, rfl⟩ := Int.eq_ofNat_of_zero_le (show 0 ≤ b by omega)
    simp only [Int.natAbs_natCast]
    have hd := Nat.gcd_dvd_left x y
    rw [← Int.natCast_ediv, ← Int.natCast_mul, Nat.mul_comm x y, Nat.mul_div_assoc _ hd, Nat.mul_comm]
  rw [e]
  have hp : 0 < Int.lcm a b := Int.lcm_pos (by omega) (by omega)
  exact ⟨by omega, Int.coe_lcm_dvd h1 h2, Int.dvd_lcm_left a b, Int.dvd_lcm_right a b⟩
theorem rnd_foldl {n : Int} : ∀ (l : List Rhy) (f : Int), 1 ≤ f → f ∣ n → (∀ r ∈ l, 1 ≤ r.s ∧ r.s ∣ n) → 1 ≤ l.foldl (fun f r => com f r.s) f ∧ l.foldl (fun f r => com f r.s) f ∣ n ∧ f ∣ l.foldl (fun f r => com f r.s) f ∧ ∀ r ∈ l, r.s ∣ l.foldl (fun f r => com f r.s) f
  | [], f, h1, h2, _ => ⟨h1, h2, Int.dvd_refl f, fun r z => by cases z⟩
  | r :: l, f, h1, h2, h => by
    obtain ⟨a1, a2⟩ := h r List.mem_cons_self
    obtain ⟨c1, c2, c3, c4⟩ := com_dvd h1 a1 h2 a2
    obtain ⟨d1, d2, d3, d4⟩ := rnd_foldl l (com f r.s) c1 c2 fun q z => h q (List.mem_cons_of_mem _ z)
    refine ⟨d1, d2, Int.dvd_trans c3 d3, fun q z => ?_⟩
    rcases List.mem_cons.mp z with rfl | z
    · exact Int.dvd_trans c4 d3
    · exact d4 q z
theorem flat_ok {l : Scr} (h : ∀ s ∈ l, s.Ok) : ∀ s ∈ flatS l, s.Ok := by
  intro s hs
  obtain ⟨t, ht, hs⟩ := List.mem_flatMap.mp hs
  have ho := h t ht
  cases t with
  | pl p =>
    simp [Stp.flat] at hs
    subst hs
    exact ho
  | add r a b =>
    simp [Stp.flat] at hs
    subst hs
    exact ho
  | since c ps =>
    simp [Stp.flat] at hs
    rcases hs with rfl | ⟨p, hp, rfl⟩
    · exact ho
    · exact ho.2.2.2 p hp
theorem rhy_ok {s : Stp} {r : Rhy} (h : s.Ok) (e : s.rhy = some r) : r.Ok := by
  cases s with
  | pl p => cases p <;> simp [Stp.rhy] at e <;> (subst e; exact h)
  | add r' a b =>
    simp [Stp.rhy] at e
    subst e
    exact h.1
  | since c l => simp [Stp.rhy] at e
theorem rnd_facts {l : Scr} (h : ∀ s ∈ l, s.Ok) : 1 ≤ rndS l ∧ rndS l ∣ 12 ∧ ∀ s ∈ flatS l, ∀ r, s.rhy = some r → r.s ∣ rndS l := by
  have h1 : ∀ r ∈ (flatS l).filterMap Stp.rhy, 1 ≤ r.s ∧ r.s ∣ 12 := fun r hr => by
    obtain ⟨s, hs, e⟩ := List.mem_filterMap.mp hr
    exact rhy_ok (flat_ok h s hs) e
  obtain ⟨a, b, _, d⟩ := rnd_foldl (n := 12) _ 1 (by omega) ⟨12, by omega⟩ h1
  exact ⟨a, b, fun s hs r e => d r (List.mem_filterMap.mpr ⟨s, hs, e⟩)⟩
theorem dvd12_le {x : Int} (h : x ∣ 12) (h1 : 1 ≤ x) : x ≤ 12 := Int.le_of_dvd (by omega) h
end Dl
set_option Elab.async false
set_option linter.all false
set_option maxRecDepth 100000
set_option maxHeartbeats 2000000
/-! What the steps do. -/
namespace Dl
open PySem PySem.Spec PyProof.Rows L2
def behP : Pl → Int → Option Int
  | .shift i, d => some (d + i)
  | .keep r, d => if r.has d = true then some d else none
  | .strike r, d => if r.has d = true then none else some d
  | .from_ i, d => if i ≤ d then some d else none
  | .until_ i, d => if d ≤ i then some d else none
def behPs (l : List Pl) (d : Option Int) : Option Int := l.foldl (fun d p => d.bind (behP p)) d
def beh : Stp → Int → Option Int
  | .pl p, d => behP p d
  | .add _ _ _, d => some d
  | .since c l, d => if c ≤ d then behPs l (some d) else some d
def behS (l : Scr) (d : Option Int) : Option Int := l.foldl (fun d s => d.bind (beh s)) d
def Pl.abs : Pl → Int
  | .shift i => i.natAbs
  | _ => 0
def Stp.abs : Stp → Int
  | .pl p => p.abs
  | _ => 0
/-- span(changes) -/
def spanS (l : Scr) : Int := ((flatS l).map Stp.abs).sum
/-- the numbers of a step that its days are held against -/
def Stp.nums : Stp → List Int
  | .pl (.from_ i) => [i]
  | .pl (.until_ i) => [i]
  | .add _ a b => [a, b.getD a]
  | .since c _ => [c]
  | _ => []
def bordS (l : Scr) : Int := (flatS l).foldl (fun f s => s.nums.foldl (fun f i => max f i.natAbs) f) 0
def farS (l : Scr) : Int := bordS l + 2 * spanS l + 1
end Dl
set_option Elab.async false
set_option linter.all false
set_option maxRecDepth 100000
set_option maxHeartbeats 2000000
/-! New things, blocks. -/
namespace Dl
open PySem PySem.Spec PyProof.Rows L2
/-- at, first, day -/
abbrev Item := Int × Int × Option Int
def encI (x : Item) : D := .tup [.int x.1, .int x.2.1, encO x.2.2]
def endD (b : Option Int) (last : Int) : Int := match b with
  | none => last
  | some y => if y < last then y else last
def daysL (r : Rhy) (a : Int) (b : Option Int) (last : Int) : List Int := ((List.range (endD b last + 1 - a).toNat).map fun (i : Nat) => a + (i : Int)).filter r.has
def newStep (last : Int) (at_ : Int) (s : Stp) (f : List Item) : List Item := match s with
  | .add r a b => f ++ ((daysL r a b last).filter fun d => !f.any fun x => decide (x.2.2 = some d)).map fun d => (at_, d, some d)
  | s => f.map fun x => (x.1, x.2.1, x.2.2.bind (beh s))
def newPre (last : Int) (pre : Scr) : List Item := pre.zipIdx.foldl (fun f x => newStep last (x.2 : Int) x.1 f) []
def newOnes (l : Scr) (last : Int) : List Item := (newPre (last + spanS l) l).filter fun x => decide (x.2.1 ≤ last)
def nearI (l : Scr) (d : Int) : Int := if d < farS l then d else farS l + (d - farS l) % rndS l
/-- the first step that adds where the thing's day is there, told of step and day -/
def firstB (T : Int → Int → Bool) : Int → Scr → Int → Option (Int × Int)
  | _, [], _ => none
  | i, s :: l, d => if s.isAdd = true ∧ T i d = true then some (i, d) else match beh s d with
    | none => none
    | some d' => firstB T (i + 1) l d'
theorem newPre_snoc (last : Int) (pre : Scr) (s : Stp) : newPre last (pre ++ [s]) = newStep last (pre.length : Int) s (newPre last pre) := by
  unfold newPre
  rw [List.zipIdx_append, List.foldl_append]
  simp
theorem num_abs : ∀ {l : List Int} {f : Int}, 0 ≤ f → f ≤ 100 → (∀ i ∈ l, Num i) → 0 ≤ l.foldl (fun f i => max f i.natAbs) f ∧ l.foldl (fun f i => max f i.natAbs) f ≤ 100
  | [], _, h0, h1, _ => ⟨h0, h1⟩
  | i :: l, f, h0, h1, h => by
    have := h i List.mem_cons_self
    unfold Num at this
    exact num_abs (l := l) (f := max f i.natAbs) (by omega) (by omega) fun j hj => h j (List.mem_cons_of_mem _ hj)
theorem nums_ok {s : Stp} (h : s.Ok) : ∀ i ∈ s.nums, Num i := by
  cases s with
  | pl p => cases p <;> simp [Stp.nums] <;> exact h
  | add r a b =>
    obtain ⟨_, h1, h2⟩ := h
    simp [Stp.nums]
    refine ⟨h1, ?_⟩
    cases b with
    | none => exact h1
    | some y => exact h2 y rfl
  | since c l =>
    simp [Stp.nums]
    exact h.1
theorem bord_fold : ∀ (l : List Stp) (f : Int), 0 ≤ f → f ≤ 100 → (∀ s ∈ l, s.Ok) → 0 ≤ l.foldl (fun f s => s.nums.foldl (fun f i => max f i.natAbs) f) f ∧ l.foldl (fun f s => s.nums.foldl (fun f i => max f i.natAbs) f) f ≤ 100
  | [], _, h0, h1, _ => ⟨h0, h1⟩
  | s :: l, f, h0, h1, h => by
    have := num_abs (l := s.nums) (f := f) h0 h1 (nums_ok (h s List.mem_cons_self))
    exact bord_fold l _ this.1 this.2 fun t ht => h t (List.mem_cons_of_mem _ ht)
theorem bord_le {l : Scr} (h : ∀ s ∈ l, s.Ok) : 0 ≤ bordS l ∧ bordS l ≤ 100 := bord_fold _ 0 (by omega) (by omega) (flat_ok h)
theorem abs_ok {s : Stp} (h : s.Ok) : 0 ≤ s.abs ∧ s.abs ≤ 100 := by
  cases s with
  | pl p =>
    cases p <;> simp [Stp.abs, Pl.abs]
    have : Num _ := h
    unfold Num at this
    omega
  | add r a b => simp [Stp.abs]
  | since c l => simp [Stp.abs]
theorem sum_le : ∀ (l : List Stp), (∀ s ∈ l, s.Ok) → 0 ≤ (l.map Stp.abs).sum ∧ (l.map Stp.abs).sum ≤ 100 * l.length
  | [], _ => by simp
  | s :: l, h => by
    have h1 := abs_ok (h s List.mem_cons_self)
    have h2 := sum_le l fun t ht => h t (List.mem_cons_of_mem _ ht)
    simp only [List.map_cons, List.sum_cons, List.length_cons]
    omega
theorem span_le {l : Scr} (h : l.Ok) : 0 ≤ spanS l ∧ spanS l ≤ 1200 := by
  have h1 := sum_le (flatS l) (flat_ok h.all)
  have h2 := h.few
  unfold spanS
  omega
theorem far_le {l : Scr} (h : l.Ok) : 1 ≤ farS l ∧ farS l ≤ 2501 := by
  have h1 := span_le h
  have h2 := bord_le h.all
  unfold farS
  omega
theorem len_le_flat (l : Scr) : l.length ≤ (flatS l).length := by
  induction l with
  | nil => simp
  | cons s l ih =>
    have : 1 ≤ s.flat.length := by cases s <;> simp [Stp.flat]
    simp only [flatS, List.flatMap_cons, List.length_append, List.length_cons] at *
    omega
theorem days_len {r : Rhy} {a last : Int} {b : Option Int} (ha : -100 ≤ a) (hl : last ≤ 20000) : (daysL r a b last).length ≤ 20101 := by
  unfold daysL
  have h1 := List.length_filter_le r.has ((List.range (endD b last + 1 - a).toNat).map fun (i : Nat) => a + (i : Int))
  have h2 : endD b last ≤ last := by
    unfold endD
    split
    · omega
    · split <;> omega
  simp only [List.length_map, List.length_range] at h1
  omega
theorem snoc_ind {α : Type} {P : List α → Prop} (h0 : P []) (hs : ∀ l x, P l → P (l ++ [x])) (l : List α) : P l := by
  have key : ∀ r : List α, P r.reverse := fun r => by
    induction r with
    | nil => exact h0
    | cons a r ih =>
      rw [List.reverse_cons]
      exact hs _ _ ih
  have := key l.reverse
  rwa [List.reverse_reverse] at this
theorem new_len {last : Int} (hl : last ≤ 20000) : ∀ {pre : Scr}, (∀ s ∈ pre, s.Ok) → (newPre last pre).length ≤ 20101 * pre.length := by
  intro pre
  refine snoc_ind (P := fun pre => (∀ s ∈ pre, s.Ok) → (newPre last pre).length ≤ 20101 * pre.length) (fun _ => by simp [newPre]) (fun pre s ih h => ?_) pre
  · skip
    have h1 := ih fun t ht => h t (by simp [ht])
    rw [newPre_snoc]
    cases s with
    | add r a b =>
      have ho := h (.add r a b) (by simp)
      have h2 := days_len (r := r) (b := b) ho.2.1.1 hl
      have h3 := List.length_filter_le (fun d => !(newPre last pre).any fun x => decide (x.2.2 = some d)) (daysL r a b last)
      simp only [newStep, List.length_append, List.length_map, List.length_cons, List.length_nil]
      omega
    | pl p =>
      simp only [newStep, List.length_append, List.length_map, List.length_cons, List.length_nil]
      omega
    | since c ps =>
      simp only [newStep, List.length_append, List.length_map, List.length_cons, List.length_nil]
      omega
end Dl
set_option Elab.async false
set_option linter.all false
set_option maxRecDepth 100000
set_option maxHeartbeats 2000000
namespace Dl
open PySem PySem.Spec PyProof.Rows L2
/-- a list or a tuple of these -/
def LT (d : D) (l : List D) : Prop := d = .lst l ∨ d = .tup l
theorem big : (100000 : Nat) ≤ sizeLine := by decide +kernel
def sp_is_number : DSp := fun R ds kk => ∃ i, ds = [.int i] ∧ kk (.bl true)
theorem len_is_number (R : Res) (ds : List D) (kk : D → Prop) (h : sp_is_number R ds kk) : ds.length = 1 := by obtain ⟨i, rfl, h⟩ := h; rfl
/-- is_number: slots 0 thing -/
abbrev d_is_number (m : Pm) (R : Res) : TdS := dRet (dAndV (dCall (fIsi m) (dCons (dVar 0) (dCons (dC (.raw (.ty "int"))) (dNil)))) (dNotV (dCall (fIsi m) (dCons (dVar 0) (dCons (dC (.raw (.ty "bool"))) (dNil))))))
theorem law_is_number (m : Pm) (R : Res) (ds : List D) (kk : D → Prop) (h : sp_is_number R ds kk) : d_is_number m R { nx := fun _ => kk .non, rt := kk } (startD 1 ds) := by
  obtain ⟨i, rfl, h⟩ := h
  simp [startD]
  exact h
def sp_is_list : DSp := fun R ds kk => ∃ d l, ds = [d] ∧ LT d l ∧ kk (.bl true)
theorem len_is_list (R : Res) (ds : List D) (kk : D → Prop) (h : sp_is_list R ds kk) : ds.length = 1 := by obtain ⟨i, _, rfl, h⟩ := h; rfl
/-- is_list: slots 0 thing -/
abbrev d_is_list (m : Pm) (R : Res) : TdS := dRet (dCall (fIsi m) (dCons (dVar 0) (dCons (dTup (dCons (dC (.raw (.ty "list"))) (dCons (dC (.raw (.ty "tuple"))) (dNil)))) (dNil))))
theorem law_is_list (m : Pm) (R : Res) (ds : List D) (kk : D → Prop) (h : sp_is_list R ds kk) : d_is_list m R { nx := fun _ => kk .non, rt := kk } (startD 1 ds) := by
  obtain ⟨d, l, rfl, rfl | rfl, h⟩ := h
  · simp [startD]
    exact ⟨by have := big; omega, h⟩
  · simp [startD]
    exact ⟨by have := big; omega, h⟩
def sp_are_different : DSp := fun R ds kk => ∃ (d : D) (l : List Int) (lo hi : Int), ds = [d, .int lo, .int hi] ∧ LT d (l.map D.int) ∧ l.Nodup ∧ l.length ≤ 4000 ∧ (∀ x ∈ l, lo ≤ x ∧ x ≤ hi) ∧ kk (.bl true)
theorem len_are_different (R : Res) (ds : List D) (kk : D → Prop) (h : sp_are_different R ds kk) : ds.length = 3 := by obtain ⟨d, l, _, _, rfl, h⟩ := h; rfl
/-- are_different: slots 0 thing 1 least 2 most 3 item -/
abbrev d_are_different (m : Pm) (R : Res) : TdS := dSeq (dIfS (dOr (dNot (dTest (dCall (sp_is_list R) (dCons (dVar 0) (dNil))))) (dNot (dTest (dCall fAll (dCons (dLc (dIter (dVar 0)) (dgName 3) (dYes) (dAndV (dCall (sp_is_number R) (dCons (dVar 3) (dNil))) (dChain (opI0 fun i j => .bl (decide (i ≤ j))) (opI0 fun i j => .bl (decide (i ≤ j))) (dVar 1) (dVar 3) (dVar 2))) [3]) (dNil)))))) (dRet (dC (.bl false))) (dNext)) (dRet (dOp (opEq false) (dLenSet (dCall fList (dCons (dVar 0) (dNil)))) (dCall fLen (dCons (dVar 0) (dNil)))))
theorem law_are_different (m : Pm) (R : Res) (ds : List D) (kk : D → Prop) (h : sp_are_different R ds kk) : d_are_different m R { nx := fun _ => kk .non, rt := kk } (startD 4 ds) := by
  obtain ⟨d, l, lo, hi, rfl, hd, hn, hl, hx, h⟩ := h
  have key : ∀ (kk2 : List D → Prop), kk2 (l.map fun _ => .bl true) → LcB (dgName 3) dYes (dAndV (dCall (sp_is_number R) (dCons (dVar 3) dNil)) (dChain (opI0 fun i j => .bl (decide (i ≤ j))) (opI0 fun i j => .bl (decide (i ≤ j))) (dVar 1) (dVar 3) (dVar 2))) [3] (startD 4 [d, .int lo, .int hi]) (l.map D.int) kk2 := fun kk2 hk => by
    refine lcAll l _ (fun _ => .bl true) (fun x hxl Kt ht => ?_) (by have := big; omega) hk
    simp [startD, wipeR]
    refine ⟨x, rfl, ?_⟩
    have := hx x hxl
    simp [this.1, this.2]
    exact ht
  have e : (l.map fun _ => D.bl true) = (l.map fun _ => true).map D.bl := by simp
  have fin : kk (.bl (decide ((l.length : Int) = (l.length : Int)))) := by simpa using h
  rcases hd with rfl | rfl
  · simp [startD]
    refine ⟨_, _, rfl, .inl rfl, ?_⟩
    simp
    refine key _ ?_
    rw [e, s_all]
    simp [D.ints_map, dLenSet]
    exact ⟨hn, hl, h⟩
  · simp [startD]
    refine ⟨_, _, rfl, .inr rfl, ?_⟩
    simp
    refine key _ ?_
    rw [e, s_all]
    simp [D.ints_map, dLenSet]
    exact ⟨hn, hl, h⟩
theorem gcd_mod {x y : Int} (hx : 0 ≤ x) (hy : 0 ≤ y) : Int.gcd y (x % y) = Int.gcd x y := by
  obtain ⟨a, rfl⟩ := Int.eq_ofNat_of_zero_le hx
  obtain ⟨b, rfl⟩ := Int.eq_ofNat_of_zero_le hy
  rw [← Int.natCast_emod]
  show Nat.gcd b (a % b) = Nat.gcd a b
  rw [Nat.gcd_comm a b, Nat.gcd_comm b (a % b), ← Nat.gcd_rec]
def sp_common : DSp := fun R ds kk => ∃ a b : Int, ds = [.int a, .int b] ∧ (1 ≤ a ∧ a ≤ 1000) ∧ (1 ≤ b ∧ b ≤ 1000) ∧ kk (.int (com a b))
theorem len_common (R : Res) (ds : List D) (kk : D → Prop) (h : sp_common R ds kk) : ds.length = 2 := by obtain ⟨a, b, rfl, h⟩ := h; rfl
/-- common: slots 0 one 1 other 2 left 3 right -/
abbrev d_common (m : Pm) (R : Res) : TdS := dSeq (dPar 2 3 (dVal (dVar 0)) (dVal (dVar 1))) (dSeq (dWhile (dTest (dOp (opI0 fun i j => .bl (decide (j < i))) (dVar 3) (dC (.int 0)))) (dPar 2 3 (dVal (dVar 3)) (dVal (dOp (opI (fun _ j => 0 < j) fun i j => .int (i % j)) (dVar 2) (dVar 3))))) (dRet (dOp opMul (dOp (opI CDiv fun i j => .int (i / j)) (dVar 0) (dVar 2)) (dVar 1))))
theorem law_common (m : Pm) (R : Res) (ds : List D) (kk : D → Prop) (h : sp_common R ds kk) : d_common m R { nx := fun _ => kk .non, rt := kk } (startD 4 ds) := by
  obtain ⟨a, b, rfl, ha, hb, h⟩ := h
  simp [startD]
  refine ⟨fun n ρ => ∃ x y : Int, ρ = [.val (.int a), .val (.int b), .val (.int x), .val (.int y)] ∧ 0 ≤ y ∧ n = y.toNat ∧ 0 ≤ x ∧ Int.gcd x y = Int.gcd a b, ⟨_, a, b, rfl, by omega, rfl, by omega, rfl⟩, ?_⟩
  rintro n ρ ⟨x, y, rfl, h0, rfl, h1, hg⟩
  simp
  by_cases hy : 0 < y
  · rw [if_pos hy]
    have := Int.emod_lt_of_pos x hy
    have h2 := Int.emod_nonneg x (by omega : y ≠ 0)
    refine ⟨hy, (x % y).toNat, by omega, y, x % y, ⟨rfl, rfl⟩, h2, rfl, h0, ?_⟩
    rw [← hg, gcd_mod h1 h0]
  · rw [if_neg hy]
    have e : y = 0 := by omega
    subst e
    have e2 : x = (Int.gcd a b : Int) := by
      rw [← hg]
      simp [Int.gcd]
      omega
    have hp : 0 < Int.gcd a b := Int.gcd_pos_of_ne_zero_left b (by omega)
    have hle : Int.gcd a b ≤ a.natAbs := Nat.le_of_dvd (by omega) (by have := Int.gcd_dvd_natAbs_left a b; exact this)
    subst e2
    refine ⟨⟨by omega, by omega⟩, .inr ⟨by omega, by omega⟩, h⟩
def sp_repeats : DSp := fun R ds kk => ∃ (s : Int) (rs : List Int) (p : Int), ds = [.int s, .lst (rs.map D.int), .int p] ∧ 0 < s ∧ rs.length ≤ 4000 ∧ kk (.bl (rs.all fun r => decide ((r + p) % s ∈ rs)))
theorem len_repeats (R : Res) (ds : List D) (kk : D → Prop) (h : sp_repeats R ds kk) : ds.length = 3 := by obtain ⟨a, b, c, rfl, h⟩ := h; rfl
/-- repeats: slots 0 size 1 rests 2 part 3 rest -/
abbrev d_repeats (m : Pm) (R : Res) : TdS := dRet (dCall fAll (dCons (dLc (dIter (dVar 1)) (dgName 3) (dYes) (dOp (opIn false) (dOp (opI (fun _ j => 0 < j) fun i j => .int (i % j)) (dOp opAdd (dVar 3) (dVar 2)) (dVar 0)) (dVar 1)) [3]) (dNil)))
theorem law_repeats (m : Pm) (R : Res) (ds : List D) (kk : D → Prop) (h : sp_repeats R ds kk) : d_repeats m R { nx := fun _ => kk .non, rt := kk } (startD 4 ds) := by
  obtain ⟨s, rs, p, rfl, hs, hl, h⟩ := h
  simp [startD]
  refine lcAll rs _ (fun r => .bl (decide ((r + p) % s ∈ rs))) (fun x hxl Kt ht => ?_) (by have := big; omega) ?_
  · simp [startD, wipeR]
    exact ⟨hs, ht⟩
  · have e : rs.map (fun r => D.bl (decide ((r + p) % s ∈ rs))) = (rs.map fun r => decide ((r + p) % s ∈ rs)).map D.bl := by simp
    rw [e, s_all]
    simpa [List.all_map, Function.comp_def] using h
def sp_least_form : DSp := fun R ds kk => ∃ (s : Int) (rs : List Int), ds = [.int s, .lst (rs.map D.int)] ∧ 1 ≤ s ∧ s ≤ 3000 ∧ rs.length ≤ 4000 ∧ (∀ r ∈ rs, 0 ≤ r ∧ r < s) ∧ ∀ r : Rhy, 1 ≤ r.s → r.s ∣ s → kk (.tup [.int r.s, .tup (r.rs.map D.int)])
theorem len_least_form (R : Res) (ds : List D) (kk : D → Prop) (h : sp_least_form R ds kk) : ds.length = 2 := by obtain ⟨a, b, rfl, h⟩ := h; rfl
theorem leD_ints (l : List Int) : (l.map D.int).mergeSort leD = (l.mergeSort fun a b => decide (a ≤ b)).map D.int := by
  have e : leD = PySem.W.dataLe false D.toP := rfl
  rw [List.map_mergeSort (s := leD)]
  intro a _ b _
  have := congrFun (congrFun (PySem.W.dataLe_int (β := Int) id) a) b
  exact this.symm
theorem nobs_ints : ∀ (l : List Int) (n : Nat), D.nobs (l.map D.int) n = true
  | [], _ => rfl
  | i :: l, n => by
    show (D.nob (.int i) n && D.nobs (l.map D.int) n) = true
    rw [nobs_ints l n]
    rfl
theorem toP_ints (l : List Int) : (l.map D.int).map D.toP = l.map PyData.int := by simp [List.map_map, Function.comp_def, D.toP]
theorem s_sorted_ints {k : D → Prop} (l : List Int) (h : k (.lst ((l.mergeSort fun a b => decide (a ≤ b)).map D.int))) : fSorted [.lst (l.map D.int)] k := by
  refine ⟨nobs_ints l 4, ?_, ?_, ?_⟩
  · rw [toP_ints]
    exact PySem.W.AllAlike.of fun _ _ => by simp [PySem.W.alike]
  · rw [toP_ints]
    exact PySem.W.Sortable.others fun _ => ⟨by simp, by simp⟩
  · rw [leD_ints]
    exact h
/-- least_form: slots 0 size 1 rests 2 parts 3 part 4 rest -/
abbrev d_least_form (m : Pm) (R : Res) : TdS := dSeq (dAsg 2 (dLc (dRng2 (dCons (dC (.int 1)) (dCons (dOp opAdd (dVar 0) (dC (.int 1))) (dNil)))) (dgName 3) (dAnd (dTest (dOp (opEq false) (dOp (opI (fun _ j => 0 < j) fun i j => .int (i % j)) (dVar 0) (dVar 3)) (dC (.int 0)))) (dTest (dCall (sp_repeats R) (dCons (dVar 0) (dCons (dVar 1) (dCons (dVar 3) (dNil))))))) (dVar 3) [3])) (dRet (dTup (dCons (dOp opIx (dVar 2) (dC (.int 0))) (dCons (dCall fTuple (dCons (dLc (dIter (dCall fSorted (dCons (dVar 1) (dNil)))) (dgName 4) (dTest (dOp (opI0 fun i j => .bl (decide (i < j))) (dVar 4) (dOp opIx (dVar 2) (dC (.int 0))))) (dVar 4) [4]) (dNil))) (dNil)))))
theorem law_least_form (m : Pm) (R : Res) (ds : List D) (kk : D → Prop) (h : sp_least_form R ds kk) : d_least_form m R { nx := fun _ => kk .non, rt := kk } (startD 5 ds) := by
  obtain ⟨s, rs, rfl, h1, h2, hl, hr, h⟩ := h
  simp [startD]
  refine ⟨by omega, ?_⟩
  rw [rngD_eq]
  refine lcMap _ _ (fun p => decide (s % p = 0) && rs.all fun r => decide ((r + p) % s ∈ rs)) D.int (fun x hxl Kt Kf ht hf => ?_) (by have := big; simp; omega) ?_
  · simp at hxl
    obtain ⟨a, ha, rfl⟩ := hxl
    simp [startD, wipeR]
    refine ⟨by omega, ?_⟩
    split
    · rename_i hz
      refine ⟨s, rs, _, rfl, by omega, hl, ?_⟩
      dsimp only
      split
      · rename_i hb
        exact ht (by simpa [hz] using hb)
      · rename_i hb
        exact hf (by simpa [hz] using hb)
    · rename_i hz
      exact hf (by simp [hz])
  · generalize hp : List.filter (fun p => decide (s % p = 0) && rs.all fun r => decide ((r + p) % s ∈ rs)) (List.map (fun (i : Nat) => 1 + (i : Int)) (List.range s.toNat)) = ps
    have hs : s ∈ ps := by
      rw [← hp, List.mem_filter]
      refine ⟨List.mem_map.mpr ⟨(s - 1).toNat, by simp; omega, by omega⟩, ?_⟩
      simp
      intro r hrr
      have := hr r hrr
      rw [Int.emod_eq_of_lt this.1 this.2]
      exact hrr
    have hall : ∀ p ∈ ps, 1 ≤ p ∧ p ∣ s := fun p hpp => by
      rw [← hp, List.mem_filter] at hpp
      obtain ⟨a1, a2⟩ := hpp
      simp at a1 a2
      obtain ⟨a, _, rfl⟩ := a1
      exact ⟨by omega, Int.dvd_of_emod_eq_zero a2.1⟩
    cases ps with
    | nil => cases hs
    | cons p0 ps =>
      obtain ⟨b1, b2⟩ := hall p0 List.mem_cons_self
      simp
      refine s_sorted_ints rs ?_
      simp
      refine lcMap (rs.mergeSort fun a b => decide (a ≤ b)) _ (fun r => decide (r < p0)) D.int (fun x hxl Kt Kf ht hf => ?_) (by rw [List.length_mergeSort]; have := big; omega) ?_
      · simp [startD, wipeR]
        split
        · rename_i hz
          exact ht (by simpa using hz)
        · rename_i hz
          exact hf (by simpa using hz)
      · exact ⟨by have := big; simp; omega, h ⟨p0, _⟩ b1 b2⟩
end Dl
set_option Elab.async false
set_option linter.all false
set_option maxRecDepth 100000
set_option maxHeartbeats 2000000
/-! Stands, sides, partings. -/
namespace Dl
open PySem PySem.Spec PyProof.Rows L2
/-- day, side, origin -/
abbrev Tri := Int × Int × Int
def encT (t : Tri) : D := .tup [.int t.1, .int t.2.1, .int t.2.2]
def leDd : D → D → Bool := PySem.W.dataLe false D.toP
def leT (a b : Tri) : Bool := leDd (encT a) (encT b)
def sortT (l : List Tri) : List Tri := l.mergeSort leT
/-- day, origin -/
abbrev St1 := Int × Option Int
def encSt (x : St1) : D := .tup [.int x.1, encO x.2]
def inOrder (S : List St1) : List St1 :=
  (sortT (sortT ((S.filter fun x => x.2.isSome).map fun x => (x.1, 0, x.2.getD 0)) ++ (S.filter fun x => !x.2.isSome).map fun x => (x.1, 1, 0))).map fun t => (t.1, if t.2.1 = 1 then none else some t.2.2)
def nearT (l : Scr) (i d : Int) : Bool := (newOnes l (farS l + rndS l)).any fun x => decide (x.1 = i ∧ x.2.1 = d)
def nearT0 (l : Scr) (i d : Int) : Bool := l.any Stp.isAdd && nearT l i d
def blockN (l : Scr) (d : Int) : Option (Int × Int) := firstB (fun i x => nearT0 l i (nearI l x)) 0 l d
def newsOf (l : Scr) (dates : List Int) (last : Int) : List St1 :=
  ((newOnes l (last + spanS l)).filter fun x => match x.2.2 with
    | some d => decide (d ≤ last) && !dates.any fun e => decide (blockN l e = some (x.1, x.2.1))
    | none => false).map fun x => (x.2.2.getD 0, none)
def oldsOf (l : Scr) (dates : List Int) (last : Int) : List St1 :=
  (dates.filter fun e => match behS l (some e) with
    | some d => decide (d ≤ last)
    | none => false).map fun e => ((behS l (some e)).getD 0, some e)
def standsL (l : Scr) (dates : List Int) (last : Int) : List St1 := inOrder (newsOf l dates last ++ oldsOf l dates last)
/-- the offers that a side knows -/
def offT (l : Scr) (many i d : Int) : Bool := (newOnes l (many + spanS l)).any fun x => decide (x.1 = i ∧ x.2.1 = d)
def newsL (l : Scr) (many : Int) : List Int := (((newOnes l (many + spanS l)).filter fun x => match x.2.2 with
    | some d => decide (d ≤ many)
    | none => false).map fun x => x.2.2.getD 0).mergeSort fun a b => decide (a ≤ b)
def fateL (l : Scr) (d : Int) : Option Int := behS l (some d)
def blockL (l : Scr) (many d : Int) : Option (Int × Int) := if (fateL l d).isSome = true then firstB (offT l many) 0 l d else none
def encB : Option (Int × Int) → D
  | none => .non
  | some x => .tup [.int x.1, .int x.2]
structure Small (l : Scr) : Prop extends Scr.Ok l where
  near : spanS l ≤ 60
def manyS (l m : Scr) : Int := max (farS l) (farS m) + 2 * max (spanS l) (spanS m) + com (rndS l) (rndS m) + 1
/-- the date tells the two apart -/
def Tells (l m : Scr) (d : Int) : Prop := fateL l d ≠ fateL m d ∨ (blockL l (manyS l m) d).isNone ≠ (blockL m (manyS l m) d).isNone
def blkS (l m : Scr) (side : Bool) (d : Int) : Option (Int × Int) := if side = true then blockL m (manyS l m) d else blockL l (manyS l m) d
/-- two dates that one script puts in one block, the other not -/
def Bad (l m : Scr) (i j : Int) : Prop := ∃ side, blkS l m side i ≠ none ∧ blkS l m side i = blkS l m side j ∧ blkS l m (!side) i ≠ blkS l m (!side) j
inductive Part where
  | no | news | one (d : Int) | two (i j : Int)
def encPart : Part → D
  | .no => .non
  | .news => .tup []
  | .one d => .tup [.int d]
  | .two i j => .tup [.int i, .int j]
def IsPart (l m : Scr) : Part → Prop
  | .news => newsL l (manyS l m) ≠ newsL m (manyS l m)
  | .one d => newsL l (manyS l m) = newsL m (manyS l m) ∧ (0 ≤ d ∧ d < manyS l m) ∧ Tells l m d
  | .two i j => newsL l (manyS l m) = newsL m (manyS l m) ∧ (∀ d, 0 ≤ d → d < manyS l m → ¬ Tells l m d) ∧ (0 ≤ i ∧ i < j ∧ j < manyS l m) ∧ Bad l m i j
  | .no => newsL l (manyS l m) = newsL m (manyS l m) ∧ (∀ d, 0 ≤ d → d < manyS l m → ¬ Tells l m d) ∧ ∀ i j, 0 ≤ i → i < j → j < manyS l m → ¬ Bad l m i j
def Alk (l m : Scr) : Prop := IsPart l m .no
def lots : Nat → List (List Nat)
  | 0 => [[]]
  | n + 1 => lots n ++ (lots n).map (· ++ [n])
def encLot (l : List Nat) : D := .tup (l.map fun (i : Nat) => D.int (i : Int))
def pick (l : Scr) (lot : List Nat) : Scr := lot.filterMap fun i => l[i]?
end Dl
set_option Elab.async false
set_option linter.all false
set_option maxRecDepth 100000
set_option maxHeartbeats 2000000
namespace Dl
open PySem PySem.Spec PyProof.Rows L2
def nmP : Nat → List Str := fun n => match n with
    | 0 => ["own_form"]
    | 1 => ["own_steps"]
    | _ => ["own_script", "there", "news"]
theorem gt0 : 0 < sizeLine := by decide +kernel
theorem le8 : 8 ≤ sizeLine := by decide +kernel
def sp_Rhythm_init : DSp := fun R ds kk => ∃ (s : Int) (d : D) (l : List Int), ds = [.int s, d] ∧ LT d (l.map D.int) ∧ 1 ≤ s ∧ s ≤ 3000 ∧ l.Nodup ∧ l.length ≤ 4000 ∧ (∀ r ∈ l, 0 ≤ r ∧ r < s) ∧ ∀ r : Rhy, 1 ≤ r.s → r.s ∣ s → kk (encR r)
theorem len_Rhythm_init (R : Res) (ds : List D) (kk : D → Prop) (h : sp_Rhythm_init R ds kk) : ds.length + 1 = 3 := by obtain ⟨s, d, l, rfl, h⟩ := h; rfl
/-- Rhythm.__init__: slots 0 self 1 size 2 rests -/
abbrev d_Rhythm_init (m : Pm) (R : Res) : TdS := dSeq (dIfS (dOr (dNot (dTest (dCall (sp_is_number R) (dCons (dVar 1) (dNil))))) (dNot (dTest (dChain (opI0 fun i j => .bl (decide (i ≤ j))) (opI0 fun i j => .bl (decide (i ≤ j))) (dC (.int 1)) (dVar 1) (dC (.int 3000)))))) (dNever) (dNext)) (dSeq (dIfS (dNot (dTest (dCall (sp_are_different R) (dCons (dVar 2) (dCons (dC (.int 0)) (dCons (dOp (opI0 fun i j => .int (i - j)) (dVar 1) (dC (.int 1))) (dNil))))))) (dNever) (dNext)) (dFldSet m 0 0 "own_form" (dCall (sp_least_form R) (dCons (dVar 1) (dCons (dCall fList (dCons (dVar 2) (dNil))) (dNil))))))
theorem law_Rhythm_init (m : Pm) (hm : m.nm = nmP) (R : Res) (x : Addr) (ds : List D) (kk : D → Prop) (h : sp_Rhythm_init R ds kk) : d_Rhythm_init m R { nx := fun ρ => ∃ fs, ρ[0]? = some (.obj x 0 fs) ∧ fs.length = (m.nm 0).length ∧ kk (.ins 0 fs), rt := fun _ => False } (.obj x 0 [] :: startD 2 ds) := by
  obtain ⟨s, d, l, rfl, hd, h1, h2, hn, hl, hr, h⟩ := h
  simp [startD]
  refine ⟨s, rfl, ?_⟩
  simp [h1, h2]
  refine ⟨d, l, 0, s - 1, rfl, hd, hn, hl, fun x hx => by have := hr x hx; omega, ?_⟩
  have fin : ∀ e : D, LT e (l.map D.int) → fList [e] (fun d => sp_least_form R [.int s, d] fun d => (0 : Nat) = 0 ∧ (0 : Nat) < 900 ∧ (m.nm 0)[0]? = some (Str.ofString "own_form") ∧ ∃ fs, [Sl.obj x 0 [d], .val (.int s), .val e][0]? = some (Sl.obj x 0 fs) ∧ fs.length = (m.nm 0).length ∧ kk (.ins 0 fs)) := by
    intro e he
    have key : sp_least_form R [.int s, .lst (l.map D.int)] fun d => (0 : Nat) = 0 ∧ (0 : Nat) < 900 ∧ (m.nm 0)[0]? = some (Str.ofString "own_form") ∧ ∃ fs, [Sl.obj x 0 [d], .val (.int s), .val e][0]? = some (Sl.obj x 0 fs) ∧ fs.length = (m.nm 0).length ∧ kk (.ins 0 fs) := by
      refine ⟨s, l, rfl, h1, h2, hl, hr, fun r a b => ?_⟩
      rw [hm]
      exact ⟨rfl, by omega, rfl, _, rfl, rfl, h r a b⟩
    rcases he with rfl | rfl
    · exact key
    · exact key
  have := fin d hd
  simpa using this
def sp_Rhythm_size : DSp := fun R ds kk => ∃ r : Rhy, ds = [encR r] ∧ kk (.int r.s)
theorem len_Rhythm_size (R : Res) (ds : List D) (kk : D → Prop) (h : sp_Rhythm_size R ds kk) : ds.length = 1 := by obtain ⟨s, rfl, h⟩ := h; rfl
/-- Rhythm.size: slots 0 self -/
abbrev d_Rhythm_size (m : Pm) (R : Res) : TdS := dRet (dOp opIx (dFld 0 0 (dVar 0)) (dC (.int 0)))
theorem law_Rhythm_size (m : Pm) (R : Res) (ds : List D) (kk : D → Prop) (h : sp_Rhythm_size R ds kk) : d_Rhythm_size m R { nx := fun _ => kk .non, rt := kk } (startD 1 ds) := by
  obtain ⟨r, rfl, h⟩ := h
  simp [startD, encR]
  exact h
def sp_Rhythm_contains : DSp := fun R ds kk => ∃ (r : Rhy) (d : Int), ds = [encR r, .int d] ∧ 1 ≤ r.s ∧ kk (.bl (r.has d))
theorem len_Rhythm_contains (R : Res) (ds : List D) (kk : D → Prop) (h : sp_Rhythm_contains R ds kk) : ds.length = 2 := by obtain ⟨s, d, rfl, h⟩ := h; rfl
/-- Rhythm.__contains__: slots 0 self 1 day -/
abbrev d_Rhythm_contains (m : Pm) (R : Res) : TdS := dRet (dAndV (dCall (sp_is_number R) (dCons (dVar 1) (dNil))) (dOp (opIn false) (dOp (opI (fun _ j => 0 < j) fun i j => .int (i % j)) (dVar 1) (dOp opIx (dFld 0 0 (dVar 0)) (dC (.int 0)))) (dOp opIx (dFld 0 0 (dVar 0)) (dC (.int 1)))))
theorem law_Rhythm_contains (m : Pm) (R : Res) (ds : List D) (kk : D → Prop) (h : sp_Rhythm_contains R ds kk) : d_Rhythm_contains m R { nx := fun _ => kk .non, rt := kk } (startD 2 ds) := by
  obtain ⟨r, d, rfl, hs, h⟩ := h
  simp [startD, encR]
  refine ⟨d, rfl, ?_⟩
  simp
  exact ⟨by omega, h⟩
def sp_common_round : DSp := fun R ds kk => ∃ l : List Rhy, ds = [.lst (l.map encR)] ∧ (∀ r ∈ l, r.Ok) ∧ kk (.int (l.foldl (fun f r => com f r.s) 1))
theorem len_common_round (R : Res) (ds : List D) (kk : D → Prop) (h : sp_common_round R ds kk) : ds.length = 1 := by obtain ⟨s, rfl, h⟩ := h; rfl
/-- common_round: slots 0 rhythms 1 found 2 rhythm -/
abbrev d_common_round (m : Pm) (R : Res) : TdS := dSeq (dAsg 1 (dC (.int 1))) (dSeq (dFor (dIter (dVar 0)) (dgName 2) (dAsg 1 (dCall (sp_common R) (dCons (dVar 1) (dCons (dMeth 0 (sp_Rhythm_size R) (dVar 2) dNil) (dNil)))))) (dRet (dVar 1)))
theorem law_common_round (m : Pm) (R : Res) (ds : List D) (kk : D → Prop) (h : sp_common_round R ds kk) : d_common_round m R { nx := fun _ => kk .non, rt := kk } (startD 3 ds) := by
  obtain ⟨l, rfl, ho, h⟩ := h
  simp [startD]
  refine forMap l encR (fun pre ρ => ∃ s, ρ = [.val (.lst (l.map encR)), .val (.int (pre.foldl (fun f r => com f r.s) 1)), s]) ⟨_, rfl⟩ (fun pre r post e ρ ⟨s, hρ⟩ => ?_) fun ρ ⟨s, hρ⟩ => ?_
  · subst hρ
    have hp : ∀ r ∈ pre, 1 ≤ r.s ∧ r.s ∣ 12 := fun q hq => ho q (by rw [e]; simp [hq])
    obtain ⟨a1, a2, _⟩ := rnd_foldl (n := 12) pre 1 (by omega) ⟨12, by omega⟩ hp
    obtain ⟨b1, b2⟩ := ho r (by rw [e]; simp)
    have c1 := dvd12_le a2 a1
    have c2 := dvd12_le b2 b1
    simp [encR]
    exact ⟨r, rfl, _, _, rfl, ⟨a1, by omega⟩, ⟨b1, by omega⟩, rfl⟩
  · subst hρ
    simp
    exact h
def sp_is_step_number : DSp := fun R ds kk => ∃ i : Int, ds = [.int i] ∧ Num i ∧ kk (.bl true)
theorem len_is_step_number (R : Res) (ds : List D) (kk : D → Prop) (h : sp_is_step_number R ds kk) : ds.length = 1 := by obtain ⟨s, rfl, h⟩ := h; rfl
/-- is_step_number: slots 0 thing -/
abbrev d_is_step_number (m : Pm) (R : Res) : TdS := dRet (dAndV (dCall (sp_is_number R) (dCons (dVar 0) (dNil))) (dChain (opI0 fun i j => .bl (decide (i ≤ j))) (opI0 fun i j => .bl (decide (i ≤ j))) (dNeg (dC (.int 100))) (dVar 0) (dC (.int 100))))
theorem law_is_step_number (m : Pm) (R : Res) (ds : List D) (kk : D → Prop) (h : sp_is_step_number R ds kk) : d_is_step_number m R { nx := fun _ => kk .non, rt := kk } (startD 1 ds) := by
  obtain ⟨i, rfl, ⟨h1, h2⟩, h⟩ := h
  simp [startD]
  refine ⟨i, rfl, ?_⟩
  simp [h1, h2]
  exact h
def sp_is_plain_step : DSp := fun R ds kk => ∃ s : Stp, ds = [encS s] ∧ s.Ok ∧ kk (.bl s.isPl)
theorem len_is_plain_step (R : Res) (ds : List D) (kk : D → Prop) (h : sp_is_plain_step R ds kk) : ds.length = 1 := by obtain ⟨s, rfl, h⟩ := h; rfl
/-- is_plain_step: slots 0 thing -/
abbrev d_is_plain_step (m : Pm) (R : Res) : TdS := dSeq (dIfS (dOr (dNot (dTest (dCall (fIsi m) (dCons (dVar 0) (dCons (dC (.raw (.ty "tuple"))) (dNil)))))) (dOr (dTest (dOp (opEq true) (dCall fLen (dCons (dVar 0) (dNil))) (dC (.int 2)))) (dNot (dTest (dCall (fIsi m) (dCons (dOp opIx (dVar 0) (dC (.int 0))) (dCons (dC (.raw (.ty "str"))) (dNil)))))))) (dRet (dC (.bl false))) (dNext)) (dSeq (dIfS (dTest (dOp (opIn false) (dOp opIx (dVar 0) (dC (.int 0))) (dTup (dCons (dC (.str "keep")) (dCons (dC (.str "strike")) (dNil)))))) (dRet (dCall (fIsi m) (dCons (dOp opIx (dVar 0) (dC (.int 1))) (dCons (dC (.raw (.ref (m.cl 0)))) (dNil))))) (dNext)) (dRet (dAndV (dOp (opIn false) (dOp opIx (dVar 0) (dC (.int 0))) (dTup (dCons (dC (.str "shift")) (dCons (dC (.str "from")) (dCons (dC (.str "until")) (dNil)))))) (dCall (sp_is_step_number R) (dCons (dOp opIx (dVar 0) (dC (.int 1))) (dNil))))))
theorem law_is_plain_step (m : Pm) (R : Res) (ds : List D) (kk : D → Prop) (h : sp_is_plain_step R ds kk) : d_is_plain_step m R { nx := fun _ => kk .non, rt := kk } (startD 1 ds) := by
  have hg := le8
  obtain ⟨s, rfl, ho, h⟩ := h
  have h2 : 2 ≤ sizeLine := by omega
  have h3 : 3 ≤ sizeLine := by omega
  cases s with
  | pl p =>
    cases p with
    | shift i =>
      simp [startD, encS, encP, h2, h3]
      exact ⟨i, rfl, ho, h⟩
    | keep r =>
      simp [startD, encS, encP, encR, h2, h3]
      exact h
    | strike r =>
      simp [startD, encS, encP, encR, h2, h3]
      exact h
    | from_ i =>
      simp [startD, encS, encP, h2, h3]
      exact ⟨i, rfl, ho, h⟩
    | until_ i =>
      simp [startD, encS, encP, h2, h3]
      exact ⟨i, rfl, ho, h⟩
  | add r a b =>
    simp [startD, encS]
    exact h
  | since c l =>
    simp [startD, encS]
    exact h
def sp_is_add : DSp := fun R ds kk => ∃ s : Stp, ds = [encS s] ∧ s.Ok ∧ kk (.bl s.isAdd)
theorem len_is_add (R : Res) (ds : List D) (kk : D → Prop) (h : sp_is_add R ds kk) : ds.length = 1 := by obtain ⟨s, rfl, h⟩ := h; rfl
/-- is_add: slots 0 thing -/
abbrev d_is_add (m : Pm) (R : Res) : TdS := dSeq (dIfS (dOr (dNot (dTest (dCall (fIsi m) (dCons (dVar 0) (dCons (dC (.raw (.ty "tuple"))) (dNil)))))) (dOr (dTest (dOp (opEq true) (dCall fLen (dCons (dVar 0) (dNil))) (dC (.int 4)))) (dOr (dNot (dTest (dCall (fIsi m) (dCons (dOp opIx (dVar 0) (dC (.int 0))) (dCons (dC (.raw (.ty "str"))) (dNil)))))) (dTest (dOp (opEq true) (dOp opIx (dVar 0) (dC (.int 0))) (dC (.str "add"))))))) (dRet (dC (.bl false))) (dNext)) (dRet (dAndV (dCall (fIsi m) (dCons (dOp opIx (dVar 0) (dC (.int 1))) (dCons (dC (.raw (.ref (m.cl 0)))) (dNil)))) (dAndV (dCall (sp_is_step_number R) (dCons (dOp opIx (dVar 0) (dC (.int 2))) (dNil))) (dOrV (dOp (opIs false) (dOp opIx (dVar 0) (dC (.int 3))) (dC .non)) (dCall (sp_is_step_number R) (dCons (dOp opIx (dVar 0) (dC (.int 3))) (dNil)))))))
theorem law_is_add (m : Pm) (R : Res) (ds : List D) (kk : D → Prop) (h : sp_is_add R ds kk) : d_is_add m R { nx := fun _ => kk .non, rt := kk } (startD 1 ds) := by
  obtain ⟨s, rfl, ho, h⟩ := h
  cases s with
  | pl p =>
    cases p <;> (simp [startD, encS, encP]; exact h)
  | add r a b =>
    obtain ⟨h1, h2, h3⟩ := ho
    simp [startD, encS, encR]
    refine ⟨a, rfl, h2, ?_⟩
    cases b with
    | none =>
      simp [encO]
      exact h
    | some b =>
      simp [encO]
      exact ⟨b, rfl, h3 b rfl, h⟩
  | since c l =>
    simp [startD, encS]
    exact h
def sp_is_since : DSp := fun R ds kk => ∃ (c : Int) (l : List Pl), ds = [encS (.since c l)] ∧ (Stp.since c l).Ok ∧ kk (.bl true)
theorem len_is_since (R : Res) (ds : List D) (kk : D → Prop) (h : sp_is_since R ds kk) : ds.length = 1 := by obtain ⟨s, l, rfl, h⟩ := h; rfl
/-- is_since: slots 0 thing 1 step -/
abbrev d_is_since (m : Pm) (R : Res) : TdS := dSeq (dIfS (dOr (dNot (dTest (dCall (fIsi m) (dCons (dVar 0) (dCons (dC (.raw (.ty "tuple"))) (dNil)))))) (dOr (dTest (dOp (opEq true) (dCall fLen (dCons (dVar 0) (dNil))) (dC (.int 3)))) (dOr (dNot (dTest (dCall (fIsi m) (dCons (dOp opIx (dVar 0) (dC (.int 0))) (dCons (dC (.raw (.ty "str"))) (dNil)))))) (dTest (dOp (opEq true) (dOp opIx (dVar 0) (dC (.int 0))) (dC (.str "since"))))))) (dRet (dC (.bl false))) (dNext)) (dSeq (dIfS (dOr (dNot (dTest (dCall (sp_is_step_number R) (dCons (dOp opIx (dVar 0) (dC (.int 1))) (dNil))))) (dOr (dNot (dTest (dCall (fIsi m) (dCons (dOp opIx (dVar 0) (dC (.int 2))) (dCons (dC (.raw (.ty "tuple"))) (dNil)))))) (dTest (dOp (opEq false) (dCall fLen (dCons (dOp opIx (dVar 0) (dC (.int 2))) (dNil))) (dC (.int 0)))))) (dRet (dC (.bl false))) (dNext)) (dRet (dCall fAll (dCons (dLc (dIter (dOp opIx (dVar 0) (dC (.int 2)))) (dgName 1) (dYes) (dCall (sp_is_plain_step R) (dCons (dVar 1) (dNil))) [1]) (dNil)))))
theorem law_is_since (m : Pm) (R : Res) (ds : List D) (kk : D → Prop) (h : sp_is_since R ds kk) : d_is_since m R { nx := fun _ => kk .non, rt := kk } (startD 2 ds) := by
  obtain ⟨c, l, rfl, ⟨h1, h2, h3, h4⟩, h⟩ := h
  simp [startD, encS]
  refine ⟨c, rfl, h1, ?_⟩
  simp
  have hne : ¬ ((l.length : Int) = 0) := by
    cases l with
    | nil => exact absurd rfl h2
    | cons _ _ => simp; omega
  simp [h2]
  refine lcAll l _ (fun _ => .bl true) (fun p hp Kt ht => ?_) (by have := big; omega) ?_
  · simp [wipeR]
    exact ⟨.pl p, rfl, h4 p hp, ht⟩
  · have e : (l.map fun _ => D.bl true) = (l.map fun _ => true).map D.bl := by simp
    have e3 : (l.map fun _ => true).all id = true := List.all_eq_true.mpr (by simp)
    rw [e, s_all, e3]
    exact h
def sp_is_step : DSp := fun R ds kk => ∃ s : Stp, ds = [encS s] ∧ s.Ok ∧ kk (.bl true)
theorem len_is_step (R : Res) (ds : List D) (kk : D → Prop) (h : sp_is_step R ds kk) : ds.length = 1 := by obtain ⟨s, rfl, h⟩ := h; rfl
/-- is_step: slots 0 thing -/
abbrev d_is_step (m : Pm) (R : Res) : TdS := dRet (dOrV (dCall (sp_is_plain_step R) (dCons (dVar 0) (dNil))) (dOrV (dCall (sp_is_add R) (dCons (dVar 0) (dNil))) (dCall (sp_is_since R) (dCons (dVar 0) (dNil)))))
theorem law_is_step (m : Pm) (R : Res) (ds : List D) (kk : D → Prop) (h : sp_is_step R ds kk) : d_is_step m R { nx := fun _ => kk .non, rt := kk } (startD 1 ds) := by
  obtain ⟨s, rfl, ho, h⟩ := h
  simp [startD]
  refine ⟨s, rfl, ho, ?_⟩
  cases s with
  | pl p =>
    simp [Stp.isPl]
    exact h
  | add r a b =>
    simp [Stp.isPl]
    refine ⟨.add r a b, rfl, ho, ?_⟩
    simp [Stp.isAdd]
    exact h
  | since c l =>
    simp [Stp.isPl]
    refine ⟨.since c l, rfl, ho, ?_⟩
    simp [Stp.isAdd]
    exact ⟨c, l, rfl, ho, h⟩
/-- steps as a tuple or a list -/
def sp_flat : DSp := fun R ds kk => ∃ (d : D) (l : Scr), ds = [d] ∧ LT d (l.map encS) ∧ (flatS l).length ≤ 100 ∧ kk (.lst ((flatS l).map encS))
theorem len_flat (R : Res) (ds : List D) (kk : D → Prop) (h : sp_flat R ds kk) : ds.length = 1 := by obtain ⟨s, l, rfl, h⟩ := h; rfl
/-- flat: slots 0 steps 1 found 2 step -/
abbrev d_flat (m : Pm) (R : Res) : TdS := dSeq (dAsgS 1 (dOwn (dNil))) (dSeq (dFor (dIter (dVar 0)) (dgName 2) (dSeq (dApp 1 (dVar 2)) (dIfS (dTest (dOp (opEq false) (dOp opIx (dVar 2) (dC (.int 0))) (dC (.str "since")))) (dExt 1 (dCall fList (dCons (dOp opIx (dVar 2) (dC (.int 2))) (dNil)))) (dNext)))) (dFrz 1 (dRet (dVar 1))))
theorem law_flat (m : Pm) (R : Res) (ds : List D) (kk : D → Prop) (h : sp_flat R ds kk) : d_flat m R { nx := fun _ => kk .non, rt := kk } (startD 3 ds) := by
  obtain ⟨d, l, rfl, hd, hl, h⟩ := h
  have key : ∀ De : EndsD, (∀ s, De.nx [.val d, .own ((flatS l).map encS), s]) → ForB (dgName 2) (dSeq (dApp 1 (dVar 2)) (dIfS (dTest (dOp (opEq false) (dOp opIx (dVar 2) (dC (.int 0))) (dC (.str "since")))) (dExt 1 (dCall fList (dCons (dOp opIx (dVar 2) (dC (.int 2))) (dNil)))) (dNext))) De [.val d, .own [], .no] (l.map encS) := fun De hk => by
    refine forMap l encS (fun pre ρ => ∃ s, ρ = [.val d, .own ((flatS pre).map encS), s]) ⟨_, rfl⟩ (fun pre r post e ρ ⟨s, hρ⟩ => ?_) fun ρ ⟨s, hρ⟩ => ?_
    · subst hρ
      have hle : (flatS pre).length + (Stp.flat r).length ≤ 100 := by
        have : (flatS l).length = (flatS pre).length + ((Stp.flat r).length + (flatS post).length) := by
          rw [e]
          simp [flatS]
        omega
      have e2 : flatS (pre ++ [r]) = flatS pre ++ r.flat := by simp [flatS]
      have hb := big
      cases r with
      | pl p =>
        cases p <;> (simp [encS, encP, Stp.flat] at hle ⊢; exact ⟨by omega, by rw [e2]; simp [Stp.flat, encS, encP]⟩)
      | add r a b =>
        simp [encS, Stp.flat] at hle ⊢
        exact ⟨by omega, by rw [e2]; simp [Stp.flat, encS]⟩
      | since c ps =>
        simp [encS, Stp.flat] at hle ⊢
        refine ⟨by omega, by omega, ?_⟩
        rw [e2]
        simp [Stp.flat, encS]
    · subst hρ
      exact hk s
  rcases hd with rfl | rfl
  · simp [startD]
    refine key _ fun s => ?_
    simp
    exact h
  · simp [startD]
    refine key _ fun s => ?_
    simp
    exact h
def sp_round_of : DSp := fun R ds kk => ∃ (d : D) (l : Scr), ds = [d] ∧ LT d (l.map encS) ∧ (flatS l).length ≤ 100 ∧ (∀ s ∈ l, s.Ok) ∧ kk (.int (rndS l))
theorem len_round_of (R : Res) (ds : List D) (kk : D → Prop) (h : sp_round_of R ds kk) : ds.length = 1 := by obtain ⟨s, l, rfl, h⟩ := h; rfl
theorem filterMap_map {α β : Type} (f : α → Option β) (g : β → D) (l : List α) : ((l.filter fun x => (f x).isSome).map fun x => ((f x).map g).getD .non) = (l.filterMap f).map g := by
  induction l with
  | nil => rfl
  | cons a l ih =>
    cases h : f a with
    | none => simp [List.filter_cons, h, ih]
    | some b => simp [List.filter_cons, h, ih]
/-- round_of: slots 0 steps 1 step -/
abbrev d_round_of (m : Pm) (R : Res) : TdS := dRet (dCall (sp_common_round R) (dCons (dLc (dIter (dCall (sp_flat R) (dCons (dVar 0) (dNil)))) (dgName 1) (dTest (dOp (opIn false) (dOp opIx (dVar 1) (dC (.int 0))) (dTup (dCons (dC (.str "keep")) (dCons (dC (.str "strike")) (dCons (dC (.str "add")) (dNil))))))) (dOp opIx (dVar 1) (dC (.int 1))) [1]) (dNil)))
theorem law_round_of (m : Pm) (R : Res) (ds : List D) (kk : D → Prop) (h : sp_round_of R ds kk) : d_round_of m R { nx := fun _ => kk .non, rt := kk } (startD 2 ds) := by
  obtain ⟨d, l, rfl, hd, hl, ho, h⟩ := h
  simp [startD]
  refine ⟨d, l, rfl, hd, hl, ?_⟩
  simp
  refine lcMap (flatS l) encS (fun s => s.rhy.isSome) (fun s => (s.rhy.map encR).getD .non) (fun s hs Kt Kf ht hf => ?_) (by have := big; omega) ?_
  · have h3 : 3 ≤ sizeLine := by have := le8; omega
    cases s with
    | pl p =>
      cases p <;> simp [encS, encP, wipeR, h3, Stp.rhy] at ht hf ⊢ <;> first | exact ht | exact hf
    | add r a b =>
      simp [encS, wipeR, h3, Stp.rhy] at ht hf ⊢
      exact ht
    | since c ps =>
      simp [encS, wipeR, h3, Stp.rhy] at ht hf ⊢
      exact hf
  · rw [filterMap_map]
    refine ⟨_, rfl, fun r hr => ?_, h⟩
    obtain ⟨s, hs, e⟩ := List.mem_filterMap.mp hr
    exact rhy_ok (flat_ok ho s hs) e
def sp_need_few : DSp := fun R ds kk => ∃ (d : D) (l : Scr), ds = [d] ∧ LT d (l.map encS) ∧ Scr.Ok l ∧ kk .non
theorem len_need_few (R : Res) (ds : List D) (kk : D → Prop) (h : sp_need_few R ds kk) : ds.length = 1 := by obtain ⟨s, l, rfl, h⟩ := h; rfl
/-- need_few: slots 0 steps -/
abbrev d_need_few (m : Pm) (R : Res) : TdS := dSeq (dIfS (dTest (dOp (opI0 fun i j => .bl (decide (j < i))) (dCall fLen (dCons (dCall (sp_flat R) (dCons (dVar 0) (dNil))) (dNil))) (dC (.int 12)))) (dNever) (dNext)) (dIfS (dTest (dOp (opI0 fun i j => .bl (decide (j < i))) (dCall (sp_round_of R) (dCons (dVar 0) (dNil))) (dC (.int 84)))) (dNever) (dNext))
theorem law_need_few (m : Pm) (R : Res) (ds : List D) (kk : D → Prop) (h : sp_need_few R ds kk) : d_need_few m R { nx := fun _ => kk .non, rt := kk } (startD 1 ds) := by
  obtain ⟨d, l, rfl, hd, ho, h⟩ := h
  simp [startD]
  refine ⟨d, l, rfl, hd, by have := ho.few; omega, ?_⟩
  have hf := ho.few
  have hn : ¬ (12 : Int) < ((flatS l).length : Int) := by omega
  simp
  refine ⟨by omega, d, l, rfl, hd, by omega, ho.all, ?_⟩
  obtain ⟨a, b, _⟩ := rnd_facts ho.all
  have c := dvd12_le b a
  simp
  exact ⟨by omega, h⟩
def sp_holds : DSp := fun R ds kk => ∃ (p : Pl) (d : Int), ds = [encP p, .int d] ∧ p.Ok ∧ (∀ i, p ≠ .shift i) ∧ kk (.bl (behP p d).isSome)
theorem len_holds (R : Res) (ds : List D) (kk : D → Prop) (h : sp_holds R ds kk) : ds.length = 2 := by obtain ⟨s, l, rfl, h⟩ := h; rfl
/-- holds: slots 0 step 1 day 2 word -/
abbrev d_holds (m : Pm) (R : Res) : TdS := dSeq (dAsg 2 (dOp opIx (dVar 0) (dC (.int 0)))) (dSeq (dIfS (dTest (dOp (opEq false) (dVar 2) (dC (.str "keep")))) (dRet (dOp (opInO 0 (sp_Rhythm_contains R) false) (dVar 1) (dOp opIx (dVar 0) (dC (.int 1))))) (dNext)) (dSeq (dIfS (dTest (dOp (opEq false) (dVar 2) (dC (.str "strike")))) (dRet (dOp (opInO 0 (sp_Rhythm_contains R) true) (dVar 1) (dOp opIx (dVar 0) (dC (.int 1))))) (dNext)) (dRet (dIf (dTest (dOp (opEq false) (dVar 2) (dC (.str "from")))) (dOp (opI0 fun i j => .bl (decide (j ≤ i))) (dVar 1) (dOp opIx (dVar 0) (dC (.int 1)))) (dOp (opI0 fun i j => .bl (decide (i ≤ j))) (dVar 1) (dOp opIx (dVar 0) (dC (.int 1))))))))
theorem law_holds (m : Pm) (R : Res) (ds : List D) (kk : D → Prop) (h : sp_holds R ds kk) : d_holds m R { nx := fun _ => kk .non, rt := kk } (startD 3 ds) := by
  obtain ⟨p, d, rfl, ho, hs, h⟩ := h
  cases p with
  | shift i => exact absurd rfl (hs i)
  | keep r =>
    simp [startD, encP, encR]
    refine ⟨r, d, rfl, ho.1, ?_⟩
    simp [behP] at h ⊢
    cases e : r.has d <;> simp [e] at h ⊢ <;> exact h
  | strike r =>
    simp [startD, encP, encR]
    refine ⟨r, d, rfl, ho.1, ?_⟩
    simp [behP] at h ⊢
    cases e : r.has d <;> simp [e] at h ⊢ <;> exact h
  | from_ i =>
    simp [startD, encP]
    by_cases e : i ≤ d <;> simp [behP, e] at h ⊢ <;> exact h
  | until_ i =>
    simp [startD, encP]
    by_cases e : d ≤ i <;> simp [behP, e] at h ⊢ <;> exact h
theorem behP_some {p : Pl} {d : Int} (hs : ∀ i, p ≠ .shift i) : behP p d = if (behP p d).isSome = true then some d else none := by
  cases p with
  | shift i => exact absurd rfl (hs i)
  | keep r => simp only [behP]; split <;> rfl
  | strike r => simp only [behP]; split <;> rfl
  | from_ i => simp only [behP]; split <;> rfl
  | until_ i => simp only [behP]; split <;> rfl
def sp_behind0 : DSp := fun R ds kk => ∃ (p : Pl) (d : Int), ds = [encP p, .int d] ∧ p.Ok ∧ kk (encO (behP p d))
theorem len_behind0 (R : Res) (ds : List D) (kk : D → Prop) (h : sp_behind0 R ds kk) : ds.length = 2 := by obtain ⟨s, l, rfl, h⟩ := h; rfl
theorem holds_use {R : Res} {p : Pl} {d : Int} {kk : D → Prop} (ho : p.Ok) (hs : ∀ i, p ≠ .shift i) (h : kk (encO (behP p d))) : sp_holds R [encP p, .int d] fun x => match x with
    | .bl b => if b = true then kk (.int d) else kk .non
    | _ => False := by
  refine ⟨p, d, rfl, ho, hs, ?_⟩
  rw [behP_some hs] at h
  dsimp only
  split
  · rename_i e
    rw [if_pos e] at h
    exact h
  · rename_i e
    rw [if_neg e] at h
    exact h
/-- behind: slots 0 step 1 day -/
abbrev d_behind0 (m : Pm) (R : Res) : TdS := dSeq (dIfS (dTest (dOp (opEq false) (dOp opIx (dVar 0) (dC (.int 0))) (dC (.str "shift")))) (dRet (dOp opAdd (dVar 1) (dOp opIx (dVar 0) (dC (.int 1))))) (dNext)) (dSeq (dIfS (dTest (dOp (opEq false) (dOp opIx (dVar 0) (dC (.int 0))) (dC (.str "since")))) (dNever) (dNext)) (dRet (dIf (dOr (dTest (dOp (opEq false) (dOp opIx (dVar 0) (dC (.int 0))) (dC (.str "add")))) (dTest (dCall (sp_holds R) (dCons (dVar 0) (dCons (dVar 1) (dNil)))))) (dVar 1) (dC .non))))
theorem law_behind0 (m : Pm) (R : Res) (ds : List D) (kk : D → Prop) (h : sp_behind0 R ds kk) : d_behind0 m R { nx := fun _ => kk .non, rt := kk } (startD 2 ds) := by
  obtain ⟨p, d, rfl, ho, h⟩ := h
  cases p with
  | shift i =>
    simp [startD, encP]
    exact h
  | keep r =>
    simp [startD, encP]
    exact holds_use ho (fun i => by simp) h
  | strike r =>
    simp [startD, encP]
    exact holds_use ho (fun i => by simp) h
  | from_ i =>
    simp [startD, encP]
    exact holds_use ho (fun i => by simp) h
  | until_ i =>
    simp [startD, encP]
    exact holds_use ho (fun i => by simp) h
def sp_behind_all0 : DSp := fun R ds kk => ∃ (l : List Pl) (d : Int), ds = [.tup (l.map encP), .int d] ∧ (∀ p ∈ l, p.Ok) ∧ kk (encO (behPs l (some d)))
theorem len_behind_all0 (R : Res) (ds : List D) (kk : D → Prop) (h : sp_behind_all0 R ds kk) : ds.length = 2 := by obtain ⟨s, l, rfl, h⟩ := h; rfl
theorem behPs_snoc (l : List Pl) (p : Pl) (d : Option Int) : behPs (l ++ [p]) d = (behPs l d).bind (behP p) := by simp [behPs]
theorem behS_snoc (l : Scr) (p : Stp) (d : Option Int) : behS (l ++ [p]) d = (behS l d).bind (beh p) := by simp [behS]
/-- behind_all: slots 0 steps 1 day 2 step -/
abbrev d_behind_all0 (m : Pm) (R : Res) : TdS := dSeq (dFor (dIter (dVar 0)) (dgName 2) (dIfS (dTest (dOp (opIs true) (dVar 1) (dC .non))) (dAsg 1 (dCall (sp_behind0 R) (dCons (dVar 2) (dCons (dVar 1) (dNil))))) (dNext))) (dRet (dVar 1))
theorem law_behind_all0 (m : Pm) (R : Res) (ds : List D) (kk : D → Prop) (h : sp_behind_all0 R ds kk) : d_behind_all0 m R { nx := fun _ => kk .non, rt := kk } (startD 3 ds) := by
  obtain ⟨l, d, rfl, ho, h⟩ := h
  simp [startD]
  refine forMap l encP (fun pre ρ => ∃ s, ρ = [.val (.tup (l.map encP)), .val (encO (behPs pre (some d))), s]) ⟨_, rfl⟩ (fun pre p post e ρ ⟨s, hρ⟩ => ?_) fun ρ ⟨s, hρ⟩ => ?_
  · subst hρ
    rw [behPs_snoc]
    cases q : behPs pre (some d) with
    | none =>
      simp [encO, q]
    | some x =>
      simp [encO, q]
      exact ⟨p, x, rfl, ho p (by rw [e]; simp), rfl⟩
  · subst hρ
    simp
    exact h
def sp_behind : DSp := fun R ds kk => ∃ (s : Stp) (d : Int), ds = [encS s, .int d] ∧ s.Ok ∧ kk (encO (beh s d))
theorem len_behind (R : Res) (ds : List D) (kk : D → Prop) (h : sp_behind R ds kk) : ds.length = 2 := by obtain ⟨s, l, rfl, h⟩ := h; rfl
/-- behind: slots 0 step 1 day -/
abbrev d_behind (m : Pm) (R : Res) : TdS := dSeq (dIfS (dTest (dOp (opEq false) (dOp opIx (dVar 0) (dC (.int 0))) (dC (.str "shift")))) (dRet (dOp opAdd (dVar 1) (dOp opIx (dVar 0) (dC (.int 1))))) (dNext)) (dSeq (dIfS (dTest (dOp (opEq false) (dOp opIx (dVar 0) (dC (.int 0))) (dC (.str "since")))) (dRet (dIf (dTest (dOp (opI0 fun i j => .bl (decide (j ≤ i))) (dVar 1) (dOp opIx (dVar 0) (dC (.int 1))))) (dCall (sp_behind_all0 R) (dCons (dOp opIx (dVar 0) (dC (.int 2))) (dCons (dVar 1) (dNil)))) (dVar 1))) (dNext)) (dRet (dIf (dOr (dTest (dOp (opEq false) (dOp opIx (dVar 0) (dC (.int 0))) (dC (.str "add")))) (dTest (dCall (sp_holds R) (dCons (dVar 0) (dCons (dVar 1) (dNil)))))) (dVar 1) (dC .non))))
theorem law_behind (m : Pm) (R : Res) (ds : List D) (kk : D → Prop) (h : sp_behind R ds kk) : d_behind m R { nx := fun _ => kk .non, rt := kk } (startD 2 ds) := by
  obtain ⟨s, d, rfl, ho, h⟩ := h
  cases s with
  | pl p =>
    cases p with
    | shift i =>
      simp [startD, encS, encP]
      exact h
    | keep r =>
      simp [startD, encS, encP]
      exact holds_use (p := .keep r) ho (fun i => by simp) h
    | strike r =>
      simp [startD, encS, encP]
      exact holds_use (p := .strike r) ho (fun i => by simp) h
    | from_ i =>
      simp [startD, encS, encP]
      exact holds_use (p := .from_ i) ho (fun i => by simp) h
    | until_ i =>
      simp [startD, encS, encP]
      exact holds_use (p := .until_ i) ho (fun i => by simp) h
  | add r a b =>
    simp [startD, encS]
    exact h
  | since c l =>
    simp [startD, encS]
    by_cases e : c ≤ d
    · simp [e]
      refine ⟨l, d, rfl, ho.2.2.2, ?_⟩
      simpa [beh, e] using h
    · simp [e]
      simpa [beh, e, encO] using h
def sp_behind_all : DSp := fun R ds kk => ∃ (l : Scr) (d : Int), ds = [.tup (l.map encS), .int d] ∧ (∀ s ∈ l, s.Ok) ∧ kk (encO (behS l (some d)))
theorem len_behind_all (R : Res) (ds : List D) (kk : D → Prop) (h : sp_behind_all R ds kk) : ds.length = 2 := by obtain ⟨s, l, rfl, h⟩ := h; rfl
/-- behind_all: slots 0 steps 1 day 2 step -/
abbrev d_behind_all (m : Pm) (R : Res) : TdS := dSeq (dFor (dIter (dVar 0)) (dgName 2) (dIfS (dTest (dOp (opIs true) (dVar 1) (dC .non))) (dAsg 1 (dCall (sp_behind R) (dCons (dVar 2) (dCons (dVar 1) (dNil))))) (dNext))) (dRet (dVar 1))
theorem law_behind_all (m : Pm) (R : Res) (ds : List D) (kk : D → Prop) (h : sp_behind_all R ds kk) : d_behind_all m R { nx := fun _ => kk .non, rt := kk } (startD 3 ds) := by
  obtain ⟨l, d, rfl, ho, h⟩ := h
  simp [startD]
  refine forMap l encS (fun pre ρ => ∃ s, ρ = [.val (.tup (l.map encS)), .val (encO (behS pre (some d))), s]) ⟨_, rfl⟩ (fun pre p post e ρ ⟨s, hρ⟩ => ?_) fun ρ ⟨s, hρ⟩ => ?_
  · subst hρ
    rw [behS_snoc]
    cases q : behS pre (some d) with
    | none =>
      simp [encO, q]
    | some x =>
      simp [encO, q]
      exact ⟨p, x, rfl, ho p (by rw [e]; simp), rfl⟩
  · subst hρ
    simp
    exact h
end Dl
set_option Elab.async false
set_option linter.all false
set_option maxRecDepth 100000
set_option maxHeartbeats 2000000
namespace Dl
open PySem PySem.Spec PyProof.Rows L2
def sp_Script_init : DSp := fun R ds kk => ∃ (d : D) (l : Scr), ds = [d] ∧ LT d (l.map encS) ∧ Scr.Ok l ∧ kk (encC l)
theorem len_Script_init (R : Res) (ds : List D) (kk : D → Prop) (h : sp_Script_init R ds kk) : ds.length + 1 = 2 := by obtain ⟨d, l, rfl, h⟩ := h; rfl
/-- Script.__init__: slots 0 self 1 steps 2 at 3 step -/
abbrev d_Script_init (m : Pm) (R : Res) : TdS := dSeq (dIfS (dNot (dTest (dCall (sp_is_list R) (dCons (dVar 1) (dNil))))) (dNever) (dNext)) (dSeq (dFor (dEnum (dCons (dVar 1) (dNil))) (dgTup [2, 3]) (dIfS (dNot (dTest (dCall (sp_is_step R) (dCons (dVar 3) (dNil))))) (dNever) (dNext))) (dSeq (dDrop (dCall (sp_need_few R) (dCons (dVar 1) (dNil)))) (dFldSet m 1 0 "own_steps" (dCall fTuple (dCons (dVar 1) (dNil))))))
theorem law_Script_init (m : Pm) (hm : m.nm = nmP) (R : Res) (x : Addr) (ds : List D) (kk : D → Prop) (h : sp_Script_init R ds kk) : d_Script_init m R { nx := fun ρ => ∃ fs, ρ[0]? = some (.obj x 1 fs) ∧ fs.length = (m.nm 1).length ∧ kk (.ins 1 fs), rt := fun _ => False } (.obj x 1 [] :: startD 3 ds) := by
  obtain ⟨d, l, rfl, hd, ho, h⟩ := h
  have key : ∀ De : EndsD, (∀ s t, De.nx [.obj x 1 [], .val d, s, t]) → ForB (dgTup [2, 3]) (dIfS (dNot (dTest (dCall (sp_is_step R) (dCons (dVar 3) (dNil))))) (dNever) (dNext)) De [.obj x 1 [], .val d, .no, .no] (enumD (l.map encS)) := fun De hk => by
    refine forEnum l encS (fun pre ρ => ∃ s t, ρ = [.obj x 1 [], .val d, s, t]) ⟨_, _, rfl⟩ (fun pre s post e ρ ⟨a, b, hρ⟩ => ?_) fun ρ ⟨s, t, hρ⟩ => by subst hρ; exact hk s t
    subst hρ
    simp
    refine ⟨s, rfl, ho.all s (by rw [e]; simp), ?_⟩
    simp
  rcases hd with rfl | rfl
  · simp [startD]
    refine ⟨_, _, rfl, .inl rfl, ?_⟩
    simp
    refine key _ fun s t => ?_
    simp
    refine ⟨_, l, rfl, .inl rfl, ho, ?_⟩
    simp [hm, nmP]
    exact h
  · simp [startD]
    refine ⟨_, _, rfl, .inr rfl, ?_⟩
    simp
    refine key _ fun s t => ?_
    simp
    refine ⟨_, l, rfl, .inr rfl, ho, ?_⟩
    simp [hm, nmP]
    exact h
def sp_Script_steps : DSp := fun R ds kk => ∃ l : Scr, ds = [encC l] ∧ kk (.tup (l.map encS))
theorem len_Script_steps (R : Res) (ds : List D) (kk : D → Prop) (h : sp_Script_steps R ds kk) : ds.length = 1 := by obtain ⟨d, rfl, h⟩ := h; rfl
/-- Script.steps: slots 0 self -/
abbrev d_Script_steps (m : Pm) (R : Res) : TdS := dRet (dFld 1 0 (dVar 0))
theorem law_Script_steps (m : Pm) (R : Res) (ds : List D) (kk : D → Prop) (h : sp_Script_steps R ds kk) : d_Script_steps m R { nx := fun _ => kk .non, rt := kk } (startD 1 ds) := by
  obtain ⟨l, rfl, h⟩ := h
  simp [startD, encC]
  exact h
def sp_Script_size : DSp := fun R ds kk => ∃ l : Scr, ds = [encC l] ∧ Scr.Ok l ∧ kk (.int (rndS l))
theorem len_Script_size (R : Res) (ds : List D) (kk : D → Prop) (h : sp_Script_size R ds kk) : ds.length = 1 := by obtain ⟨d, rfl, h⟩ := h; rfl
/-- Script.size: slots 0 self -/
abbrev d_Script_size (m : Pm) (R : Res) : TdS := dRet (dCall (sp_round_of R) (dCons (dFld 1 0 (dVar 0)) (dNil)))
theorem law_Script_size (m : Pm) (R : Res) (ds : List D) (kk : D → Prop) (h : sp_Script_size R ds kk) : d_Script_size m R { nx := fun _ => kk .non, rt := kk } (startD 1 ds) := by
  obtain ⟨l, rfl, ho, h⟩ := h
  simp [startD, encC]
  exact ⟨_, l, rfl, .inr rfl, by have := ho.few; omega, ho.all, h⟩
def sp_Script_len : DSp := fun R ds kk => ∃ l : Scr, ds = [encC l] ∧ kk (.int l.length)
theorem len_Script_len (R : Res) (ds : List D) (kk : D → Prop) (h : sp_Script_len R ds kk) : ds.length = 1 := by obtain ⟨d, rfl, h⟩ := h; rfl
/-- Script.__len__: slots 0 self -/
abbrev d_Script_len (m : Pm) (R : Res) : TdS := dRet (dCall fLen (dCons (dFld 1 0 (dVar 0)) (dNil)))
theorem law_Script_len (m : Pm) (R : Res) (ds : List D) (kk : D → Prop) (h : sp_Script_len R ds kk) : d_Script_len m R { nx := fun _ => kk .non, rt := kk } (startD 1 ds) := by
  obtain ⟨l, rfl, h⟩ := h
  simp [startD, encC]
  exact h
def sp_need_at : DSp := fun R ds kk => ∃ (l : Scr) (i : Nat), ds = [encC l, .int i] ∧ i < l.length ∧ kk .non
theorem len_need_at (R : Res) (ds : List D) (kk : D → Prop) (h : sp_need_at R ds kk) : ds.length = 2 := by obtain ⟨d, i, rfl, h⟩ := h; rfl
/-- need_at: slots 0 changes 1 at -/
abbrev d_need_at (m : Pm) (R : Res) : TdS := dIfS (dOr (dNot (dTest (dCall (sp_is_number R) (dCons (dVar 1) (dNil))))) (dNot (dTest (dChain (opI0 fun i j => .bl (decide (i ≤ j))) (opI0 fun i j => .bl (decide (i < j))) (dC (.int 0)) (dVar 1) (dCall fLen (dCons (dFld 1 0 (dVar 0)) (dNil))))))) (dNever) (dNext)
theorem law_need_at (m : Pm) (R : Res) (ds : List D) (kk : D → Prop) (h : sp_need_at R ds kk) : d_need_at m R { nx := fun _ => kk .non, rt := kk } (startD 2 ds) := by
  obtain ⟨l, i, rfl, hi, h⟩ := h
  simp [startD, encC]
  refine ⟨_, rfl, ?_⟩
  simp [hi]
  exact h
def sp_Script_getitem : DSp := fun R ds kk => ∃ (l : Scr) (i : Nat) (s : Stp), ds = [encC l, .int i] ∧ l[i]? = some s ∧ kk (encS s)
theorem len_Script_getitem (R : Res) (ds : List D) (kk : D → Prop) (h : sp_Script_getitem R ds kk) : ds.length = 2 := by obtain ⟨d, i, s, rfl, h⟩ := h; rfl
/-- Script.__getitem__: slots 0 self 1 at -/
abbrev d_Script_getitem (m : Pm) (R : Res) : TdS := dSeq (dDrop (dCall (sp_need_at R) (dCons (dVar 0) (dCons (dVar 1) (dNil))))) (dRet (dOp opIx (dFld 1 0 (dVar 0)) (dVar 1)))
theorem law_Script_getitem (m : Pm) (R : Res) (ds : List D) (kk : D → Prop) (h : sp_Script_getitem R ds kk) : d_Script_getitem m R { nx := fun _ => kk .non, rt := kk } (startD 2 ds) := by
  obtain ⟨l, i, s, rfl, hi, h⟩ := h
  simp [startD]
  refine ⟨l, i, rfl, (List.getElem?_eq_some_iff.mp hi).1, ?_⟩
  simp [encC, atIn, hi]
  exact h
def sp_Script_call : DSp := fun R ds kk => ∃ (l : Scr) (d : Int), ds = [encC l, .int d] ∧ Scr.Ok l ∧ 0 ≤ d ∧ kk (encO (behS l (some d)))
theorem len_Script_call (R : Res) (ds : List D) (kk : D → Prop) (h : sp_Script_call R ds kk) : ds.length = 2 := by obtain ⟨d, i, rfl, h⟩ := h; rfl
/-- Script.__call__: slots 0 self 1 day -/
abbrev d_Script_call (m : Pm) (R : Res) : TdS := dSeq (dIfS (dOr (dNot (dTest (dCall (sp_is_number R) (dCons (dVar 1) (dNil))))) (dTest (dOp (opI0 fun i j => .bl (decide (i < j))) (dVar 1) (dC (.int 0))))) (dNever) (dNext)) (dRet (dCall (sp_behind_all R) (dCons (dFld 1 0 (dVar 0)) (dCons (dVar 1) (dNil)))))
theorem law_Script_call (m : Pm) (R : Res) (ds : List D) (kk : D → Prop) (h : sp_Script_call R ds kk) : d_Script_call m R { nx := fun _ => kk .non, rt := kk } (startD 2 ds) := by
  obtain ⟨l, d, rfl, ho, hd, h⟩ := h
  simp [startD, encC]
  refine ⟨_, rfl, ?_⟩
  simp
  exact ⟨by omega, l, d, rfl, ho.all, h⟩
def sp_Script_add : DSp := fun R ds kk => ∃ (l k : Scr), ds = [encC l, encC k] ∧ Scr.Ok (l ++ k) ∧ kk (encC (l ++ k))
theorem len_Script_add (R : Res) (ds : List D) (kk : D → Prop) (h : sp_Script_add R ds kk) : ds.length = 2 := by obtain ⟨d, i, rfl, h⟩ := h; rfl
/-- Script.__add__: slots 0 self 1 other -/
abbrev d_Script_add (m : Pm) (R : Res) : TdS := dSeq (dIfS (dNot (dTest (dCall (fIsi m) (dCons (dVar 1) (dCons (dC (.raw (.ref (m.cl 1)))) (dNil)))))) (dNever) (dNext)) (dRet (dCall (sp_Script_init R) (dCons (dOp opAdd (dFld 1 0 (dVar 0)) (dFld 1 0 (dVar 1))) (dNil))))
theorem law_Script_add (m : Pm) (R : Res) (ds : List D) (kk : D → Prop) (h : sp_Script_add R ds kk) : d_Script_add m R { nx := fun _ => kk .non, rt := kk } (startD 2 ds) := by
  obtain ⟨l, k, rfl, ho, h⟩ := h
  have h1 := len_le_flat (l ++ k)
  have h2 := ho.few
  have hb := big
  rw [List.length_append] at h1
  simp [startD, encC]
  exact ⟨by omega, _, l ++ k, rfl, .inr (by simp), ho, h⟩
theorem cut_lo {α : Type} (l : List α) (i : Nat) (h : i ≤ l.length) : cutL l none (some (i : Int)) = l.take i := by
  unfold cutL
  rw [HT.sIx_none, HT.sIx_nat]
  simp [Nat.min_eq_left h]
theorem cut_hi {α : Type} (l : List α) (i : Nat) (h : i ≤ l.length) : cutL l (some (i : Int)) none = l.drop i := by
  unfold cutL
  rw [HT.sIx_none, HT.sIx_nat, Nat.min_eq_left h]
  exact List.take_of_length_le (by simp)
theorem flat_sub {k l : Scr} (s : List.Sublist k l) : (flatS k).length ≤ (flatS l).length := by
  induction s with
  | slnil => exact Nat.le_refl _
  | cons a s ih =>
    simp only [flatS, List.flatMap_cons, List.length_append] at ih ⊢
    omega
  | cons_cons a s ih =>
    simp only [flatS, List.flatMap_cons, List.length_append] at ih ⊢
    omega
/-- steps may be left out -/
theorem Scr.Ok.sub {l k : Scr} (h : Scr.Ok l) (s : List.Sublist k l) : Scr.Ok k := ⟨fun t ht => h.all t (s.subset ht), Nat.le_trans (flat_sub s) h.few⟩
def sp_Script_without : DSp := fun R ds kk => ∃ (l : Scr) (i : Nat), ds = [encC l, .int i] ∧ i < l.length ∧ Scr.Ok l ∧ kk (encC (l.take i ++ l.drop (i + 1)))
theorem len_Script_without (R : Res) (ds : List D) (kk : D → Prop) (h : sp_Script_without R ds kk) : ds.length = 2 := by obtain ⟨d, i, rfl, h⟩ := h; rfl
/-- Script.without: slots 0 self 1 at -/
abbrev d_Script_without (m : Pm) (R : Res) : TdS := dSeq (dDrop (dCall (sp_need_at R) (dCons (dVar 0) (dCons (dVar 1) (dNil))))) (dRet (dCall (sp_Script_init R) (dCons (dOp opAdd (dSl (dFld 1 0 (dVar 0)) (dNoPart) (dPart (dVar 1))) (dSl (dFld 1 0 (dVar 0)) (dPart (dOp opAdd (dVar 1) (dC (.int 1)))) (dNoPart))) (dNil))))
theorem law_Script_without (m : Pm) (R : Res) (ds : List D) (kk : D → Prop) (h : sp_Script_without R ds kk) : d_Script_without m R { nx := fun _ => kk .non, rt := kk } (startD 2 ds) := by
  obtain ⟨l, i, rfl, hi, ho, h⟩ := h
  have h1 := len_le_flat l
  have h2 := ho.few
  have hb := big
  have hs : List.Sublist (l.take i ++ l.drop (i + 1)) l := by
    rw [← List.eraseIdx_eq_take_drop_succ]
    exact List.eraseIdx_sublist l i
  simp [startD]
  refine ⟨l, i, rfl, hi, ?_⟩
  simp [encC]
  have e1 : cutL (l.map encS) none (some (i : Int)) = (l.take i).map encS := by rw [cut_lo _ _ (by simp; omega), List.map_take]
  have e2 : cutL (l.map encS) (some ((i : Int) + 1)) none = (l.drop (i + 1)).map encS := by
    have := cut_hi (l.map encS) (i + 1) (by simp; omega)
    rw [List.map_drop, ← this]
    rfl
  rw [e1, e2]
  simp
  exact ⟨by omega, _, _, rfl, .inr (by simp), ho.sub hs, h⟩
def sp_Script_has_new : DSp := fun R ds kk => ∃ l : Scr, ds = [encC l] ∧ l.length ≤ 100 ∧ kk (.bl (l.any Stp.isAdd))
theorem len_Script_has_new (R : Res) (ds : List D) (kk : D → Prop) (h : sp_Script_has_new R ds kk) : ds.length = 1 := by obtain ⟨d, rfl, h⟩ := h; rfl
theorem word_eq (s : Stp) (w : Str) : ∃ a r, encS s = .tup (.str a :: r) := by
  cases s with
  | pl p => cases p <;> exact ⟨_, _, rfl⟩
  | add r a b => exact ⟨_, _, rfl⟩
  | since c l => exact ⟨_, _, rfl⟩
/-- Script.has_new: slots 0 self 1 step -/
abbrev d_Script_has_new (m : Pm) (R : Res) : TdS := dRet (dCall fAny (dCons (dLc (dIter (dFld 1 0 (dVar 0))) (dgName 1) (dYes) (dOp (opEq false) (dOp opIx (dVar 1) (dC (.int 0))) (dC (.str "add"))) [1]) (dNil)))
theorem law_Script_has_new (m : Pm) (R : Res) (ds : List D) (kk : D → Prop) (h : sp_Script_has_new R ds kk) : d_Script_has_new m R { nx := fun _ => kk .non, rt := kk } (startD 2 ds) := by
  obtain ⟨l, rfl, hl, h⟩ := h
  simp [startD, encC]
  refine lcAll l encS (fun s => .bl s.isAdd) (fun s hs Kt ht => ?_) (by have := big; omega) ?_
  · cases s with
    | pl p => cases p <;> simp [wipeR, encS, encP] <;> exact ht
    | add r a b => simp [wipeR, encS]; exact ht
    | since c l => simp [wipeR, encS]; exact ht
  · have e : (l.map fun s => D.bl s.isAdd) = (l.map Stp.isAdd).map D.bl := by simp
    rw [e, s_any]
    simpa [List.any_map] using h
def sp_span : DSp := fun R ds kk => ∃ l : Scr, ds = [encC l] ∧ Scr.Ok l ∧ kk (.int (spanS l))
theorem len_span (R : Res) (ds : List D) (kk : D → Prop) (h : sp_span R ds kk) : ds.length = 1 := by obtain ⟨d, rfl, h⟩ := h; rfl
theorem span_filter (l : Scr) (p : Stp → Bool) (hp : ∀ s ∈ l, p s = false → s.abs = 0) : ((l.filter p).map Stp.abs).sum = (l.map Stp.abs).sum := by
  induction l with
  | nil => rfl
  | cons s l ih =>
    have := ih fun t ht => hp t (List.mem_cons_of_mem _ ht)
    cases e : p s with
    | true => simp [List.filter_cons, e, this]
    | false => simp [List.filter_cons, e, this, hp s List.mem_cons_self e]
def Stp.isShift : Stp → Bool
  | .pl (.shift _) => true
  | _ => false
/-- span: slots 0 changes 1 step -/
abbrev d_span (m : Pm) (R : Res) : TdS := dRet (dCall fSum (dCons (dLc (dIter (dCall (sp_flat R) (dCons (dMeth 1 (sp_Script_steps R) (dVar 0) dNil) (dNil)))) (dgName 1) (dTest (dOp (opEq false) (dOp opIx (dVar 1) (dC (.int 0))) (dC (.str "shift")))) (dCall fAbs (dCons (dOp opIx (dVar 1) (dC (.int 1))) (dNil))) [1]) (dNil)))
theorem law_span (m : Pm) (R : Res) (ds : List D) (kk : D → Prop) (h : sp_span R ds kk) : d_span m R { nx := fun _ => kk .non, rt := kk } (startD 2 ds) := by
  obtain ⟨l, rfl, ho, h⟩ := h
  simp [startD, encC]
  refine ⟨l, rfl, _, l, rfl, .inr rfl, by have := ho.few; omega, ?_⟩
  simp
  refine lcMap (flatS l) encS Stp.isShift (fun s => .int s.abs) (fun s hs Kt Kf ht hf => ?_) (by have := big; have := ho.few; omega) ?_
  · cases s with
    | pl p => cases p <;> simp [wipeR, encS, encP, Stp.isShift, Stp.abs, Pl.abs] at ht hf ⊢ <;> first | exact ht | exact hf
    | add r a b => simp [wipeR, encS, Stp.isShift] at hf ⊢; exact hf
    | since c l => simp [wipeR, encS, Stp.isShift] at hf ⊢; exact hf
  · have e : ((flatS l).filter Stp.isShift).map (fun s => D.int s.abs) = (((flatS l).filter Stp.isShift).map Stp.abs).map D.int := by simp
    rw [e, s_sum, span_filter]
    · exact h
    · intro s _ hs
      cases s with
      | pl p => cases p <;> simp [Stp.isShift] at hs <;> rfl
      | add r a b => rfl
      | since c l => rfl
def sp_border : DSp := fun R ds kk => ∃ l : Scr, ds = [encC l] ∧ Scr.Ok l ∧ kk (.int (bordS l))
theorem len_border (R : Res) (ds : List D) (kk : D → Prop) (h : sp_border R ds kk) : ds.length = 1 := by obtain ⟨d, rfl, h⟩ := h; rfl
theorem foldl_max_mem : ∀ (l : List Int) (f : Int), (l.foldl (fun a b => max a b) f = f ∨ l.foldl (fun a b => max a b) f ∈ l) ∧ f ≤ l.foldl (fun a b => max a b) f ∧ ∀ y ∈ l, y ≤ l.foldl (fun a b => max a b) f
  | [], f => ⟨.inl rfl, Int.le_refl f, fun y hy => by cases hy⟩
  | i :: l, f => by
    obtain ⟨h1, h2, h3⟩ := foldl_max_mem l (max f i)
    refine ⟨?_, by simp only [List.foldl_cons]; omega, fun y hy => ?_⟩
    · simp only [List.foldl_cons]
      rcases h1 with h1 | h1
      · rw [h1]
        by_cases h : f ≤ i
        · right
          rw [Int.max_eq_right h]
          exact List.mem_cons_self
        · left
          omega
      · right
        exact List.mem_cons_of_mem _ h1
    · simp only [List.foldl_cons]
      rcases List.mem_cons.mp hy with rfl | hy
      · omega
      · exact h3 y hy
theorem max_use {k : D → Prop} (f : Int) (l : List Int) (h : k (.int (l.foldl (fun a b => max a b) f))) : fMax [.lst (.int f :: l.map D.int)] k := by
  have e : D.ints (.int f :: l.map D.int) = some (f :: l) := D.ints_map (f :: l)
  show (match D.ints (.int f :: l.map D.int) with
    | some ns => 0 < ns.length ∧ ∀ m, m ∈ ns → (∀ y, y ∈ ns → y ≤ m) → k (.int m)
    | none => False)
  rw [e]
  refine ⟨by simp, fun m hm hy => ?_⟩
  obtain ⟨h1, h2, h3⟩ := foldl_max_mem l f
  have : m = l.foldl (fun a b => max a b) f := by
    have a := hy _ (show l.foldl (fun a b => max a b) f ∈ f :: l by
      rcases h1 with h1 | h1
      · rw [h1]; exact List.mem_cons_self
      · exact List.mem_cons_of_mem _ h1)
    have b : m ≤ l.foldl (fun a b => max a b) f := by
      rcases List.mem_cons.mp hm with rfl | hm
      · exact h2
      · exact h3 m hm
    omega
  rw [this]
  exact h
def bordF (l : List Stp) : Int := l.foldl (fun f s => s.nums.foldl (fun f i => max f (i.natAbs : Int)) f) 0
theorem bordF_snoc (l : List Stp) (s : Stp) : bordF (l ++ [s]) = (s.nums.map fun i => (i.natAbs : Int)).foldl (fun a b => max a b) (bordF l) := by
  unfold bordF
  rw [List.foldl_append, List.foldl_map]
  rfl
theorem bord_key (ns : List Int) (f : Int) (a0 a1 a2 a3 a4 : Sl) (kk : D → Prop) (hl : ns.length ≤ 2) (h : kk (.int ((ns.map fun i => (i.natAbs : Int)).foldl (fun a b => max a b) f))) :
    LcB (dgName 4) dYes (dCall fAbs (dCons (dVar 4) dNil)) [4] [a0, a1, a2, a3, a4] (ns.map D.int) (fun acc => acc.length + 1 ≤ sizeLine ∧ fMax [.lst (.int f :: acc)] kk) := by
  refine lcAll ns D.int (fun i => .int i.natAbs) (fun i hi Kt ht => ?_) (by have := big; omega) ?_
  · simp [wipeR]
    exact ht
  · have e : ns.map (fun i => D.int (i.natAbs : Int)) = (ns.map fun i => (i.natAbs : Int)).map D.int := by simp
    rw [e]
    exact ⟨by have := big; simp; omega, max_use f _ h⟩
/-- border: slots 0 changes 1 found 2 step 3 numbers 4 number -/
abbrev d_border (m : Pm) (R : Res) : TdS := dSeq (dAsg 1 (dC (.int 0))) (dSeq (dFor (dIter (dCall (sp_flat R) (dCons (dMeth 1 (sp_Script_steps R) (dVar 0) dNil) (dNil)))) (dgName 2) (dIfS (dTest (dOp (opIn true) (dOp opIx (dVar 2) (dC (.int 0))) (dTup (dCons (dC (.str "shift")) (dCons (dC (.str "keep")) (dCons (dC (.str "strike")) (dNil))))))) (dSeq (dAsg 3 (dIf (dTest (dOp (opEq false) (dOp opIx (dVar 2) (dC (.int 0))) (dC (.str "add")))) (dLst (dCons (dOp opIx (dVar 2) (dC (.int 2))) (dCons (dIf (dTest (dOp (opIs false) (dOp opIx (dVar 2) (dC (.int 3))) (dC .non))) (dOp opIx (dVar 2) (dC (.int 2))) (dOp opIx (dVar 2) (dC (.int 3)))) (dNil)))) (dLst (dCons (dOp opIx (dVar 2) (dC (.int 1))) (dNil))))) (dAsg 1 (dCall fMax (dCons (dLst (dCons (dVar 1) (dStar (dLc (dIter (dVar 3)) (dgName 4) (dYes) (dCall fAbs (dCons (dVar 4) (dNil))) [4]) (dNil)))) (dNil))))) (dNext))) (dRet (dVar 1)))
theorem law_border (m : Pm) (R : Res) (ds : List D) (kk : D → Prop) (h : sp_border R ds kk) : d_border m R { nx := fun _ => kk .non, rt := kk } (startD 5 ds) := by
  obtain ⟨l, rfl, ho, h⟩ := h
  simp [startD, encC]
  refine ⟨l, rfl, _, l, rfl, .inr rfl, by have := ho.few; omega, ?_⟩
  simp
  refine forMap (flatS l) encS (fun pre ρ => ∃ s t u, ρ = [.val (.ins 1 [.tup (l.map encS)]), .val (.int (bordF pre)), s, t, u]) ⟨_, _, _, rfl⟩ (fun pre s post e ρ ⟨a, b, c, hρ⟩ => ?_) fun ρ ⟨a, b, c, hρ⟩ => ?_
  · subst hρ
    have h3 : 3 ≤ sizeLine := by have := le8; omega
    have h2 : 2 ≤ sizeLine := by omega
    have h1 : 1 ≤ sizeLine := by omega
    have e0 := bordF_snoc pre s
    cases s with
    | pl p =>
      cases p with
      | shift i =>
        simp [encS, encP, h3]
        simpa [Stp.nums] using e0.symm
      | keep r =>
        simp [encS, encP, h3]
        simpa [Stp.nums] using e0.symm
      | strike r =>
        simp [encS, encP, h3]
        simpa [Stp.nums] using e0.symm
      | from_ i =>
        simp [encS, encP, h3, h1]
        exact bord_key [i] _ _ _ _ _ _ _ (by simp) (by simp [e0, Stp.nums])
      | until_ i =>
        simp [encS, encP, h3, h1]
        exact bord_key [i] _ _ _ _ _ _ _ (by simp) (by simp [e0, Stp.nums])
    | add r a b =>
      cases b with
      | none =>
        simp [encS, encO, h3, h2]
        exact bord_key [a, a] _ _ _ _ _ _ _ (by simp) (by simp [e0, Stp.nums])
      | some b =>
        simp [encS, encO, h3, h2]
        exact bord_key [a, b] _ _ _ _ _ _ _ (by simp) (by simp [e0, Stp.nums])
    | since c ps =>
      simp [encS, h3, h1]
      exact bord_key [c] _ _ _ _ _ _ _ (by simp) (by simp [e0, Stp.nums])
  · subst hρ
    simp
    exact h
def sp_far : DSp := fun R ds kk => ∃ l : Scr, ds = [encC l] ∧ Scr.Ok l ∧ kk (.int (farS l))
theorem len_far (R : Res) (ds : List D) (kk : D → Prop) (h : sp_far R ds kk) : ds.length = 1 := by obtain ⟨d, rfl, h⟩ := h; rfl
/-- far: slots 0 changes -/
abbrev d_far (m : Pm) (R : Res) : TdS := dRet (dOp opAdd (dOp opAdd (dCall (sp_border R) (dCons (dVar 0) (dNil))) (dOp opMul (dC (.int 2)) (dCall (sp_span R) (dCons (dVar 0) (dNil))))) (dC (.int 1)))
theorem law_far (m : Pm) (R : Res) (ds : List D) (kk : D → Prop) (h : sp_far R ds kk) : d_far m R { nx := fun _ => kk .non, rt := kk } (startD 1 ds) := by
  obtain ⟨l, rfl, ho, h⟩ := h
  simp [startD]
  refine ⟨l, rfl, ho, l, rfl, ho, ?_⟩
  simp
  exact ⟨.inl ⟨by omega, by omega⟩, h⟩
def sp_days_of : DSp := fun R ds kk => ∃ (r : Rhy) (a : Int) (b : Option Int) (last : Int), ds = [encS (.add r a b), .int last] ∧ (Stp.add r a b).Ok ∧ -20000 ≤ last ∧ last ≤ 20000 ∧ kk (.lst ((daysL r a b last).map D.int))
theorem len_days_of (R : Res) (ds : List D) (kk : D → Prop) (h : sp_days_of R ds kk) : ds.length = 2 := by obtain ⟨r, a, b, l, rfl, h⟩ := h; rfl
theorem days_use {R : Res} {r : Rhy} {a e : Int} {a0 a1 a2 a3 : Sl} {kk : D → Prop} (n : Nat) (hn : n ≤ 30000) (hr : 1 ≤ r.s) (b : D) (h : kk (.lst ((((List.range n).map fun (i : Nat) => a + (i : Int)).filter r.has).map D.int))) :
    LcB (dgName 3) (dTest (dOp (opInO 0 (sp_Rhythm_contains R) false) (dVar 3) (dOp opIx (dVar 0) (dC (.int 1))))) (dVar 3) [3] [.val (.tup [.str "add", encR r, .int a, b]), a1, a2, a3] (rngD a n) fun acc => kk (.lst acc) := by
  rw [rngD_eq]
  refine lcMap _ _ r.has D.int (fun x hx Kt Kf ht hf => ?_) (by simp; have := big; omega) h
  simp [wipeR, encR]
  refine ⟨r, x, rfl, hr, ?_⟩
  simp
  split
  · exact ht ‹_›
  · rename_i hz
    exact hf (by simpa using hz)
/-- days_of: slots 0 step 1 last 2 end 3 day -/
abbrev d_days_of (m : Pm) (R : Res) : TdS := dSeq (dAsg 2 (dIf (dTest (dOp (opIs false) (dOp opIx (dVar 0) (dC (.int 3))) (dC .non))) (dVar 1) (dCall fMin (dCons (dVar 1) (dCons (dOp opIx (dVar 0) (dC (.int 3))) (dNil)))))) (dRet (dLc (dRng2 (dCons (dOp opIx (dVar 0) (dC (.int 2))) (dCons (dOp opAdd (dVar 2) (dC (.int 1))) (dNil)))) (dgName 3) (dTest (dOp (opInO 0 (sp_Rhythm_contains R) false) (dVar 3) (dOp opIx (dVar 0) (dC (.int 1))))) (dVar 3) [3]))
theorem law_days_of (m : Pm) (R : Res) (ds : List D) (kk : D → Prop) (h : sp_days_of R ds kk) : d_days_of m R { nx := fun _ => kk .non, rt := kk } (startD 4 ds) := by
  obtain ⟨r, a, b, last, rfl, ho, h1, h2, h⟩ := h
  obtain ⟨hr, ⟨ha1, ha2⟩, hb⟩ := ho
  simp [startD, encS]
  unfold daysL at h
  cases b with
  | none =>
    simp [encO]
    refine ⟨⟨by omega, by omega, by omega, by omega⟩, ?_⟩
    exact days_use (e := last) (a0 := .no) _ (by omega) hr.1 _ h
  | some y =>
    have := hb y rfl
    unfold Num at this
    simp [encO]
    refine ⟨⟨by omega, by omega, by split <;> omega, by split <;> omega⟩, ?_⟩
    exact days_use (e := last) (a0 := .no) _ (by split <;> omega) hr.1 _ h
end Dl
set_option Elab.async false
set_option linter.all false
set_option maxRecDepth 100000
set_option maxHeartbeats 2000000
namespace Dl
open PySem PySem.Spec PyProof.Rows L2
theorem huge : (4000000 : Nat) ≤ sizeLine := by decide +kernel
def sp_new_ones : DSp := fun R ds kk => ∃ (l : Scr) (last : Int), ds = [encC l, .int last] ∧ Scr.Ok l ∧ 0 ≤ last ∧ last ≤ 18000 ∧ kk (.lst ((newOnes l last).map encI))
theorem len_new_ones (R : Res) (ds : List D) (kk : D → Prop) (h : sp_new_ones R ds kk) : ds.length = 2 := by obtain ⟨l, b, rfl, h⟩ := h; rfl
/-- new_ones: slots 0 changes 1 last 2 found 3 at 4 step 5 there 6 item 7 begun 8 first 9 day -/
abbrev d_new_ones (m : Pm) (R : Res) : TdS := dSeq (dAsgS 2 (dOwn (dNil))) (dSeq (dFor (dEnum (dCons (dMeth 1 (sp_Script_steps R) (dVar 0) dNil) (dNil))) (dgTup [3, 4]) (dIfS (dTest (dOp (opEq false) (dOp opIx (dVar 4) (dC (.int 0))) (dC (.str "add")))) (dSeq (dDxOwn 2 5 (dgTup [7, 8, 9]) (fun R => dTest (dOp (opIs true) (dVar 9) (dC .non))) (fun R => dVar 9) (fun R => dC (.bl true)) [7, 8, 9]) (dExt 2 (dLc (dIter (dCall (sp_days_of R) (dCons (dVar 4) (dCons (dOp opAdd (dVar 1) (dCall (sp_span R) (dCons (dVar 0) (dNil)))) (dNil))))) (dgName 9) (dTest (dOp (opInD true) (dVar 9) (dVar 5))) (dTup (dCons (dVar 3) (dCons (dVar 9) (dCons (dVar 9) (dNil))))) [9]))) (dLcOwn 2 2 (dgTup [7, 8, 9]) (fun R => dYes) (fun R => dTup (dCons (dVar 7) (dCons (dVar 8) (dCons (dIf (dTest (dOp (opIs false) (dVar 9) (dC .non))) (dC .non) (dCall (sp_behind R) (dCons (dVar 4) (dCons (dVar 9) (dNil))))) (dNil))))) [7, 8, 9]))) (dFrz 2 (dRet (dLc (dIter (dVar 2)) (dgName 6) (dTest (dOp (opI0 fun i j => .bl (decide (i ≤ j))) (dOp opIx (dVar 6) (dC (.int 1))) (dVar 1))) (dVar 6) [6]))))
theorem law_new_ones (m : Pm) (R : Res) (ds : List D) (kk : D → Prop) (h : sp_new_ones R ds kk) : d_new_ones m R { nx := fun _ => kk .non, rt := kk } (startD 10 ds) := by
  obtain ⟨l, last, rfl, ho, h0, h1, h⟩ := h
  have hsp := span_le ho
  have hlen : l.length ≤ 12 := Nat.le_trans (len_le_flat l) ho.few
  have hH := huge
  simp [startD, encC]
  refine ⟨l, rfl, ?_⟩
  simp
  refine forEnum l encS (fun pre ρ => ∃ s3 s4 s5 s6 s7 s8 s9, ρ = [.val (.ins 1 [.tup (l.map encS)]), .val (.int last), .own ((newPre (last + spanS l) pre).map encI), s3, s4, s5, s6, s7, s8, s9]) ⟨_, _, _, _, _, _, _, rfl⟩ (fun pre s post e ρ ⟨s3, s4, s5, s6, s7, s8, s9, hρ⟩ => ?_) fun ρ ⟨s3, s4, s5, s6, s7, s8, s9, hρ⟩ => ?_
  · subst hρ
    have hs : s.Ok := ho.all s (by rw [e]; simp)
    have hpl : pre.length + 1 ≤ 12 := by
      have : l.length = pre.length + (post.length + 1) := by rw [e]; simp
      omega
    have hnl := new_len (last := last + spanS l) (by omega) (pre := pre) fun t ht => ho.all t (by rw [e]; simp [ht])
    have hstep := newPre_snoc (last + spanS l) pre s
    have other : ∀ R' : Res, (∀ r a b, s ≠ .add r a b) → LcB (dgTup [7, 8, 9]) dYes (dTup (dCons (dVar 7) (dCons (dVar 8) (dCons (dIf (dTest (dOp (opIs false) (dVar 9) (dC .non))) (dC .non) (dCall (sp_behind R') (dCons (dVar 4) (dCons (dVar 9) dNil)))) dNil)))) [7, 8, 9]
        [.val (.ins 1 [.tup (l.map encS)]), .val (.int last), .own ((newPre (last + spanS l) pre).map encI), .val (.int (pre.length : Int)), .val (encS s), s5, s6, s7, s8, s9] ((newPre (last + spanS l) pre).map encI) fun acc => acc = (newPre (last + spanS l) (pre ++ [s])).map encI := fun R' hne => by
      refine lcAll (newPre (last + spanS l) pre) encI (fun x => encI (x.1, x.2.1, x.2.2.bind (beh s))) (fun x hx Kt ht => ?_) (by omega) ?_
      · obtain ⟨i, f, d⟩ := x
        have h3 : 3 ≤ sizeLine := by omega
        cases d with
        | none =>
          simp [encI, encO, wipeR, h3] at ht ⊢
          exact ht
        | some d =>
          simp [encI, encO, wipeR, h3] at ht ⊢
          exact ⟨s, d, rfl, hs, ht⟩
      · rw [hstep]
        cases s with
        | add r a b => exact absurd rfl (hne r a b)
        | pl p => simp [newStep]
        | since c ps => simp [newStep]
    cases s with
    | add r a b =>
      simp [encS]
      intro R'
      refine dxMap (newPre (last + spanS l) pre) encI (fun x => x.2.2.isSome) (fun x => encO x.2.2) (fun x => .int (x.2.2.getD 0)) (fun x hx => ?_) (fun x hx Kt Kf ht hf => ?_) (by omega) fun kvs hk hkl => ?_
      · obtain ⟨i, f, d⟩ := x
        cases d with
        | none => cases hx
        | some d => rfl
      · obtain ⟨i, f, d⟩ := x
        cases d with
        | none =>
          simp [encI, encO, wipeR] at hf ⊢
          exact hf
        | some d =>
          simp [encI, encO, wipeR] at ht ⊢
          exact ht
      · have hin : ∀ d : Int, (lookD kvs (.int d)).isSome = (newPre (last + spanS l) pre).any fun x => decide (x.2.2 = some d) := fun d => by
          rw [hk, List.any_filter]
          congr 1
          funext x
          obtain ⟨i, f, q⟩ := x
          cases q with
          | none => simp
          | some q => simp
        refine ⟨l, rfl, ho, r, a, b, last + spanS l, rfl, hs, by omega, by omega, ?_⟩
        simp
        have hdl := days_len (r := r) (b := b) (last := last + spanS l) hs.2.1.1 (by omega)
        refine lcMap (daysL r a b (last + spanS l)) D.int (fun d => !(newPre (last + spanS l) pre).any fun x => decide (x.2.2 = some d)) (fun d => encI ((pre.length : Int), d, some d)) (fun d hd Kt Kf ht hf => ?_) (by omega) ?_
        · have hd' := hin d
          generalize hq : ((newPre (last + spanS l) pre).any fun x => decide (x.2.2 = some d)) = q at ht hf hd'
          cases hl : lookD kvs (.int d) with
          | none =>
            rw [hl] at hd'
            subst hd'
            simp [wipeR, hl]
            refine ⟨by omega, ?_⟩
            have := ht rfl
            simpa [encI, encO] using this
          | some z =>
            rw [hl] at hd'
            subst hd'
            simp [wipeR, hl]
            exact hf rfl
        · have hfl := List.length_filter_le (fun d => !(newPre (last + spanS l) pre).any fun x => decide (x.2.2 = some d)) (daysL r a b (last + spanS l))
          simp
          refine ⟨by omega, ?_⟩
          rw [hstep]
          simp [newStep, List.map_map, Function.comp_def]
    | pl p =>
      have hne : ¬ (∃ r, encP p = .tup (.str "add" :: r)) := by
        rintro ⟨r, hr⟩
        cases p <;> simp [encP] at hr
      cases p <;> (simp [encS, encP] at other ⊢; exact fun R' => other R')
    | since c ps =>
      simp [encS] at other ⊢
      exact fun R' => other R'
  · subst hρ
    have hnl := new_len (last := last + spanS l) (by omega) (pre := l) ho.all
    simp
    refine lcMap (newPre (last + spanS l) l) encI (fun x => decide (x.2.1 ≤ last)) encI (fun x hx Kt Kf ht hf => ?_) (by omega) h
    obtain ⟨i, f, d⟩ := x
    simp [encI, wipeR] at ht hf ⊢
    split
    · exact ht ‹_›
    · exact hf (by omega)
def sp_need_day : DSp := fun R ds kk => ∃ i : Int, ds = [.int i] ∧ kk .non
theorem len_need_day (R : Res) (ds : List D) (kk : D → Prop) (h : sp_need_day R ds kk) : ds.length = 1 := by obtain ⟨d, rfl, h⟩ := h; rfl
/-- need_day: slots 0 day -/
abbrev d_need_day (m : Pm) (R : Res) : TdS := dIfS (dNot (dTest (dCall (sp_is_number R) (dCons (dVar 0) (dNil))))) (dNever) (dNext)
theorem law_need_day (m : Pm) (R : Res) (ds : List D) (kk : D → Prop) (h : sp_need_day R ds kk) : d_need_day m R { nx := fun _ => kk .non, rt := kk } (startD 1 ds) := by
  obtain ⟨i, rfl, h⟩ := h
  simp [startD]
  refine ⟨i, rfl, ?_⟩
  simp
  exact h
def sp_nearer : DSp := fun R ds kk => ∃ (l : Scr) (d : Int), ds = [encC l, .int d] ∧ Scr.Ok l ∧ kk (.int (nearI l d))
theorem len_nearer (R : Res) (ds : List D) (kk : D → Prop) (h : sp_nearer R ds kk) : ds.length = 2 := by obtain ⟨d, i, rfl, h⟩ := h; rfl
/-- nearer: slots 0 changes 1 day 2 begin -/
abbrev d_nearer (m : Pm) (R : Res) : TdS := dSeq (dAsg 2 (dCall (sp_far R) (dCons (dVar 0) (dNil)))) (dRet (dIf (dTest (dOp (opI0 fun i j => .bl (decide (i < j))) (dVar 1) (dVar 2))) (dVar 1) (dOp opAdd (dVar 2) (dOp (opI (fun _ j => 0 < j) fun i j => .int (i % j)) (dOp (opI0 fun i j => .int (i - j)) (dVar 1) (dVar 2)) (dMeth 1 (sp_Script_size R) (dVar 0) dNil)))))
theorem law_nearer (m : Pm) (R : Res) (ds : List D) (kk : D → Prop) (h : sp_nearer R ds kk) : d_nearer m R { nx := fun _ => kk .non, rt := kk } (startD 3 ds) := by
  obtain ⟨l, d, rfl, ho, h⟩ := h
  obtain ⟨a, b, _⟩ := rnd_facts ho.all
  simp [startD]
  refine ⟨l, rfl, ho, ?_⟩
  unfold nearI at h
  simp
  split
  · rename_i hz
    rw [if_pos hz] at h
    exact h
  · rename_i hz
    rw [if_neg hz] at h
    simp [encC]
    refine ⟨l, rfl, ho, ?_⟩
    simp
    exact ⟨by omega, h⟩
/-- the dict holds these pairs -/
def Holds (kvs : List (Ky × D)) (T : Int → Int → Bool) : Prop := ∀ i d : Int, (lookD kvs (.tup [i, d])).isSome = T i d
def sp_near_offers : DSp := fun R ds kk => ∃ l : Scr, ds = [encC l] ∧ Scr.Ok l ∧ ∀ kvs, Holds kvs (nearT l) → kk (.dct kvs)
theorem len_near_offers (R : Res) (ds : List D) (kk : D → Prop) (h : sp_near_offers R ds kk) : ds.length = 1 := by obtain ⟨d, rfl, h⟩ := h; rfl
theorem newOnes_len {l : Scr} {last : Int} (ho : Scr.Ok l) (hl : last ≤ 18000) : (newOnes l last).length ≤ 300000 := by
  have hsp := span_le ho
  have h1 := new_len (last := last + spanS l) (by omega) (pre := l) ho.all
  have h2 := Nat.le_trans (len_le_flat l) ho.few
  have h3 := List.length_filter_le (fun x : Item => decide (x.2.1 ≤ last)) (newPre (last + spanS l) l)
  unfold newOnes
  omega
/-- {(at, first): True for at, first, day in items} -/
theorem keys_use {dg : TdG} {a b c : Nat} {ρ : Rho} {kk : List (Ky × D) → Prop} (items : List Item) (hl : items.length ≤ sizeLine)
    (hs : ∀ x ∈ items, ∀ Kt : D → Prop, Kt (.tup [.int x.1, .int x.2.1]) → dg (encI x) (wipeR ρ [a, b, c]) fun ρ2 => dTup (dCons (dVar a) (dCons (dVar b) dNil)) ρ2 Kt)
    (h : ∀ kvs, Holds kvs (fun i d => items.any fun x => decide (x.1 = i ∧ x.2.1 = d)) → kvs.length ≤ items.length → kk kvs) : DxB dg dYes (dTup (dCons (dVar a) (dCons (dVar b) dNil))) (dC (.bl true)) [a, b, c] ρ (items.map encI) kk := by
  refine dxMap items encI (fun _ => true) (fun x => .tup [.int x.1, .int x.2.1]) (fun x => .tup [x.1, x.2.1]) (fun x _ => rfl) (fun x hx Kt Kf ht hf => ?_) hl fun kvs hk hkl => h kvs (fun i d => ?_) hkl
  · have := hs x hx Kt (ht rfl)
    simpa using this
  · rw [hk, List.any_filter]
    congr 1
    funext x
    simp
/-- near_offers: slots 0 changes 1 at 2 first 3 day -/
abbrev d_near_offers (m : Pm) (R : Res) : TdS := dRet (dDx (dIter (dCall (sp_new_ones R) (dCons (dVar 0) (dCons (dOp opAdd (dCall (sp_far R) (dCons (dVar 0) (dNil))) (dMeth 1 (sp_Script_size R) (dVar 0) dNil)) (dNil))))) (dgTup [1, 2, 3]) (dYes) (dTup (dCons (dVar 1) (dCons (dVar 2) (dNil)))) (dC (.bl true)) [1, 2, 3])
theorem law_near_offers (m : Pm) (R : Res) (ds : List D) (kk : D → Prop) (h : sp_near_offers R ds kk) : d_near_offers m R { nx := fun _ => kk .non, rt := kk } (startD 4 ds) := by
  obtain ⟨l, rfl, ho, h⟩ := h
  obtain ⟨a, b, _⟩ := rnd_facts ho.all
  have c := dvd12_le b a
  have hf := far_le ho
  simp [startD]
  refine ⟨l, rfl, ho, ?_⟩
  simp [encC]
  refine ⟨l, rfl, ho, ?_⟩
  simp
  refine ⟨l, _, rfl, ho, by omega, by omega, ?_⟩
  simp
  have hn := newOnes_len (last := farS l + rndS l) ho (by omega)
  have hH := huge
  refine keys_use (newOnes l (farS l + rndS l)) (by omega) (fun x hx Kt ht => ?_) fun kvs hk _ => h kvs hk
  obtain ⟨i, f, d⟩ := x
  simp [encI, wipeR]
  exact ⟨by omega, ht⟩
def sp_block_of : DSp := fun R ds kk => ∃ (l : Scr) (kvs : List (Ky × D)) (T : Int → Int → Bool) (d : Int), ds = [encC l, .dct kvs, .int d] ∧ Scr.Ok l ∧ Holds kvs T ∧ kk (encB (firstB (fun i x => T i (nearI l x)) 0 l d))
theorem len_block_of (R : Res) (ds : List D) (kk : D → Prop) (h : sp_block_of R ds kk) : ds.length = 3 := by obtain ⟨l, a, b, d, rfl, h⟩ := h; rfl
/-- block_of: slots 0 changes 1 there 2 date 3 day 4 at 5 step -/
abbrev d_block_of (m : Pm) (R : Res) : TdS := dSeq (dAsg 3 (dVar 2)) (dSeq (dFor (dEnum (dCons (dMeth 1 (sp_Script_steps R) (dVar 0) dNil) (dNil))) (dgTup [4, 5]) (dSeq (dIfS (dAnd (dTest (dOp (opEq false) (dOp opIx (dVar 5) (dC (.int 0))) (dC (.str "add")))) (dTest (dOp (opInD false) (dTup (dCons (dVar 4) (dCons (dCall (sp_nearer R) (dCons (dVar 0) (dCons (dVar 3) (dNil)))) (dNil)))) (dVar 1)))) (dRet (dTup (dCons (dVar 4) (dCons (dVar 3) (dNil))))) (dNext)) (dSeq (dAsg 3 (dCall (sp_behind R) (dCons (dVar 5) (dCons (dVar 3) (dNil))))) (dIfS (dTest (dOp (opIs false) (dVar 3) (dC .non))) (dRet (dC .non)) (dNext))))) (dRet (dC .non)))
theorem law_block_of (m : Pm) (R : Res) (ds : List D) (kk : D → Prop) (h : sp_block_of R ds kk) : d_block_of m R { nx := fun _ => kk .non, rt := kk } (startD 6 ds) := by
  obtain ⟨l, kvs, T, d, rfl, ho, hT, h⟩ := h
  have hH := huge
  simp [startD, encC]
  refine ⟨l, rfl, ?_⟩
  simp
  refine forEnum l encS (fun pre ρ => ∃ x s4 s5, ρ = [.val (.ins 1 [.tup (l.map encS)]), .val (.dct kvs), .val (.int d), .val (.int x), s4, s5] ∧ ∀ post, l = pre ++ post → firstB (fun i x => T i (nearI l x)) 0 l d = firstB (fun i x => T i (nearI l x)) pre.length post x) ⟨d, _, _, rfl, fun post e => by rw [e]; rfl⟩ (fun pre s post e ρ ⟨x, s4, s5, hρ, hx⟩ => ?_) fun ρ ⟨x, s4, s5, hρ, hx⟩ => ?_
  · subst hρ
    have hs : s.Ok := ho.all s (by rw [e]; simp)
    have hx1 := hx (s :: post) e
    have rest : s.isAdd = false ∨ T pre.length (nearI l x) = false → sp_behind R [encS s, .int x] fun d_1 => opIs false d_1 .non fun t => match t with
        | .bl b => if b = true then kk .non else (∃ x s4 s5, [Sl.val (.ins 1 [.tup (l.map encS)]), .val (.dct kvs), .val (.int d), .val d_1, .val (.int (pre.length : Int)), .val (encS s)] = [.val (.ins 1 [.tup (l.map encS)]), .val (.dct kvs), .val (.int d), .val (.int x), s4, s5] ∧ ∀ post, l = pre ++ [s] ++ post → firstB (fun i x => T i (nearI l x)) 0 l d = firstB (fun i x => T i (nearI l x)) (pre ++ [s]).length post x)
        | _ => False := fun hno => by
      refine ⟨s, x, rfl, hs, ?_⟩
      have hn : ¬ (s.isAdd = true ∧ T pre.length (nearI l x) = true) := by
        rintro ⟨a, b⟩
        rcases hno with z | z
        · rw [z] at a; cases a
        · rw [z] at b; cases b
      simp only [firstB, if_neg hn] at hx1
      cases hb : beh s x with
      | none =>
        rw [hb] at hx1
        simp [encO]
        rw [hx1] at h
        exact h
      | some y =>
        rw [hb] at hx1
        simp [encO]
        refine fun post2 e2 => ?_
        have : post2 = post := by
          have e3 : pre ++ s :: post = pre ++ s :: post2 := by rw [← e, e2]
          have := List.append_cancel_left e3
          exact (List.cons.inj this).2.symm
        subst this
        rw [hx1]
    cases s with
    | add r a b =>
      simp [encS]
      refine ⟨l, x, rfl, ho, ?_⟩
      have hh := hT pre.length (nearI l x)
      cases hl : lookD kvs (.tup [(pre.length : Int), nearI l x]) with
      | some z =>
        rw [hl] at hh
        have hh : T pre.length (nearI l x) = true := hh.symm
        simp only [firstB, Stp.isAdd, true_and, if_pos hh] at hx1
        simp [hl]
        rw [hx1] at h
        exact ⟨by omega, h⟩
      | none =>
        rw [hl] at hh
        have hh : T pre.length (nearI l x) = false := hh.symm
        simp [hl]
        refine ⟨by omega, ?_⟩
        have := rest (.inr hh)
        simp [encS] at this
        exact this
    | pl p =>
      have := rest (.inl rfl)
      cases p <;> (simp [encS, encP] at this ⊢; exact this)
    | since c ps =>
      have := rest (.inl rfl)
      simp [encS] at this ⊢
      exact this
  · subst hρ
    simp
    have := hx [] (by simp)
    rw [this] at h
    exact h
end Dl
set_option Elab.async false
set_option linter.all false
set_option maxRecDepth 100000
set_option maxHeartbeats 2000000
namespace Dl
open PySem PySem.Spec PyProof.Rows L2
def sp_are_dates : DSp := fun R ds kk => ∃ (d : D) (l : List Int), ds = [d] ∧ LT d (l.map D.int) ∧ l.length ≤ 12 ∧ l.Nodup ∧ (∀ x ∈ l, 0 ≤ x ∧ x ≤ 1000) ∧ kk (.bl true)
theorem len_are_dates (R : Res) (ds : List D) (kk : D → Prop) (h : sp_are_dates R ds kk) : ds.length = 1 := by obtain ⟨d, l, rfl, h⟩ := h; rfl
/-- are_dates: slots 0 thing -/
abbrev d_are_dates (m : Pm) (R : Res) : TdS := dRet (dAndV (dCall (sp_is_list R) (dCons (dVar 0) (dNil))) (dAndV (dOp (opI0 fun i j => .bl (decide (i ≤ j))) (dCall fLen (dCons (dVar 0) (dNil))) (dC (.int 12))) (dCall (sp_are_different R) (dCons (dVar 0) (dCons (dC (.int 0)) (dCons (dC (.int 1000)) (dNil)))))))
theorem law_are_dates (m : Pm) (R : Res) (ds : List D) (kk : D → Prop) (h : sp_are_dates R ds kk) : d_are_dates m R { nx := fun _ => kk .non, rt := kk } (startD 1 ds) := by
  obtain ⟨d, l, rfl, hd, hl, hn, hx, h⟩ := h
  have hlen : (l.length : Int) ≤ 12 := by omega
  have fin : sp_are_different R [d, .int 0, .int 1000] fun d => match d with
      | .bl b => kk (.bl b)
      | _ => False := ⟨d, l, 0, 1000, rfl, hd, hn, by omega, hx, h⟩
  have fin2 : sp_are_different R [d, .int 0, .int 1000] kk := ⟨d, l, 0, 1000, rfl, hd, hn, by omega, hx, h⟩
  rcases hd with rfl | rfl
  · simp [startD]
    refine ⟨_, _, rfl, .inl rfl, ?_⟩
    simp [hlen]
    exact fin2
  · simp [startD]
    refine ⟨_, _, rfl, .inr rfl, ?_⟩
    simp [hlen]
    exact fin2
def sp_need_dates : DSp := fun R ds kk => ∃ (d : D) (l : List Int), ds = [d] ∧ LT d (l.map D.int) ∧ l.length ≤ 12 ∧ l.Nodup ∧ (∀ x ∈ l, 0 ≤ x ∧ x ≤ 1000) ∧ kk .non
theorem len_need_dates (R : Res) (ds : List D) (kk : D → Prop) (h : sp_need_dates R ds kk) : ds.length = 1 := by obtain ⟨d, l, rfl, h⟩ := h; rfl
/-- need_dates: slots 0 dates -/
abbrev d_need_dates (m : Pm) (R : Res) : TdS := dIfS (dNot (dTest (dCall (sp_are_dates R) (dCons (dVar 0) (dNil))))) (dNever) (dNext)
theorem law_need_dates (m : Pm) (R : Res) (ds : List D) (kk : D → Prop) (h : sp_need_dates R ds kk) : d_need_dates m R { nx := fun _ => kk .non, rt := kk } (startD 1 ds) := by
  obtain ⟨d, l, rfl, hd, hl, hn, hx, h⟩ := h
  simp [startD]
  refine ⟨d, l, rfl, hd, hl, hn, hx, ?_⟩
  simp
  exact h
def sp_in_order : DSp := fun R ds kk => ∃ S : List St1, ds = [.lst (S.map encSt)] ∧ S.length ≤ 1000000 ∧ kk (.lst ((inOrder S).map encSt))
theorem len_in_order (R : Res) (ds : List D) (kk : D → Prop) (h : sp_in_order R ds kk) : ds.length = 1 := by obtain ⟨d, rfl, h⟩ := h; rfl
theorem nobs_map {α : Type} {enc : α → D} {n : Nat} (h : ∀ x, (enc x).nob n = true) : ∀ l : List α, D.nobs (l.map enc) n = true
  | [] => rfl
  | a :: l => by
    show (D.nob (enc a) n && D.nobs (l.map enc) n) = true
    rw [h a, nobs_map h l]
    rfl
theorem s_sorted_T {k : D → Prop} (l : List Tri) (h : k (.lst ((sortT l).map encT))) : fSorted [.lst (l.map encT)] k := by
  refine ⟨nobs_map (fun x => rfl) l, ?_, ?_, ?_⟩
  · rw [List.map_map]
    exact PySem.W.AllAlike.of fun _ _ => by simp [PySem.W.alike, PySem.W.alikeAll, encT, D.toP, D.toPs]
  · rw [List.map_map]
    exact PySem.W.Sortable.tuples fun _ => ⟨_, _, rfl⟩
  · have e : (l.map encT).mergeSort leD = (sortT l).map encT := by
      unfold sortT
      rw [List.map_mergeSort (s := leD)]
      intro a _ b _
      rfl
    rw [e]
    exact h
/-- in_order: slots 0 stands_here 1 olds 2 news 3 day 4 origin 5 side -/
abbrev d_in_order (m : Pm) (R : Res) : TdS := dSeq (dAsg 1 (dCall fSorted (dCons (dLc (dIter (dVar 0)) (dgTup [3, 4]) (dTest (dOp (opIs true) (dVar 4) (dC .non))) (dTup (dCons (dVar 3) (dCons (dC (.int 0)) (dCons (dVar 4) (dNil))))) [3, 4]) (dNil)))) (dSeq (dAsg 2 (dLc (dIter (dVar 0)) (dgTup [3, 4]) (dTest (dOp (opIs false) (dVar 4) (dC .non))) (dTup (dCons (dVar 3) (dCons (dC (.int 1)) (dCons (dC (.int 0)) (dNil))))) [3, 4])) (dRet (dLc (dIter (dCall fSorted (dCons (dOp opAdd (dVar 1) (dVar 2)) (dNil)))) (dgTup [3, 5, 4]) (dYes) (dTup (dCons (dVar 3) (dCons (dIf (dTest (dOp (opEq false) (dVar 5) (dC (.int 1)))) (dC .non) (dVar 4)) (dNil)))) [3, 5, 4])))
theorem law_in_order (m : Pm) (R : Res) (ds : List D) (kk : D → Prop) (h : sp_in_order R ds kk) : d_in_order m R { nx := fun _ => kk .non, rt := kk } (startD 6 ds) := by
  obtain ⟨S, rfl, hl, h⟩ := h
  have hH := huge
  have h3 : 3 ≤ sizeLine := by omega
  have h2 : 2 ≤ sizeLine := by omega
  have hfl := fun p : St1 → Bool => List.length_filter_le p S
  simp [startD]
  refine lcMap S encSt (fun x => x.2.isSome) (fun x => encT (x.1, 0, x.2.getD 0)) (fun x hx Kt Kf ht hf => ?_) (by omega) ?_
  · obtain ⟨d, o⟩ := x
    cases o with
    | none => simp [encSt, encO, wipeR] at hf ⊢; exact hf
    | some o =>
      simp [encSt, encO, wipeR, h3, encT] at ht ⊢
      exact ht
  · have e1 : (S.filter fun x => x.2.isSome).map (fun x => encT (x.1, 0, x.2.getD 0)) = ((S.filter fun x => x.2.isSome).map fun x => ((x.1, 0, x.2.getD 0) : Tri)).map encT := by simp
    rw [e1]
    refine s_sorted_T _ ?_
    refine lcMap S encSt (fun x => !x.2.isSome) (fun x => encT (x.1, 1, 0)) (fun x hx Kt Kf ht hf => ?_) (by omega) ?_
    · obtain ⟨d, o⟩ := x
      cases o with
      | none =>
        simp [encSt, encO, wipeR, h3, encT] at ht ⊢
        exact ht
      | some o => simp [encSt, encO, wipeR] at hf ⊢; exact hf
    · have e2 : (S.filter fun x => !x.2.isSome).map (fun x => encT (x.1, 1, 0)) = ((S.filter fun x => !x.2.isSome).map fun x => ((x.1, 1, 0) : Tri)).map encT := by simp
      rw [e2]
      have l1 := hfl fun x => x.2.isSome
      have l2 := hfl fun x => !x.2.isSome
      have l3 := hfl fun x => x.2.isNone
      simp only [List.getElem?_cons_succ, List.getElem?_cons_zero, s_add_l, List.set_cons_succ, List.set_cons_zero]
      refine ⟨by simp [sortT, List.length_mergeSort]; omega, ?_⟩
      rw [← List.map_append]
      refine s_sorted_T _ ?_
      simp only [s_dIter, List.getElem?_cons_succ, List.getElem?_cons_zero]
      refine lcAll _ encT (fun t => encSt (t.1, if t.2.1 = 1 then none else some t.2.2)) (fun t ht Kt hk => ?_) (by simp [sortT, List.length_mergeSort]; omega) ?_
      · obtain ⟨a, b, c⟩ := t
        simp [encT, wipeR]
        by_cases hb : b = 1
        · simp [hb, encSt, encO] at hk ⊢
          exact ⟨h2, hk⟩
        · simp [hb, encSt, encO] at hk ⊢
          exact ⟨h2, hk⟩
      · have e3 : ∀ L : List Tri, L.map (fun t => encSt (t.1, if t.2.1 = 1 then none else some t.2.2)) = (L.map fun t => ((t.1, if t.2.1 = 1 then none else some t.2.2) : St1)).map encSt := fun L => by simp
        rw [e3]
        exact h
def sp_stands_behind : DSp := fun R ds kk => ∃ (l : Scr) (d : D) (dates : List Int) (last : Int), ds = [encC l, d, .int last] ∧ Scr.Ok l ∧ LT d (dates.map D.int) ∧ dates.length ≤ 12 ∧ (∀ x ∈ dates, 0 ≤ x ∧ x ≤ 1000) ∧ 0 ≤ last ∧ last ≤ 10000 ∧ kk (.lst ((standsL l dates last).map encSt))
theorem len_stands_behind (R : Res) (ds : List D) (kk : D → Prop) (h : sp_stands_behind R ds kk) : ds.length = 3 := by obtain ⟨a, b, c, d, rfl, h⟩ := h; rfl
theorem lt_iter {d : D} {l : List D} (hd : LT d l) (k : List D → Prop) (h : k l) : match (generalizing := false) d with
  | .tup ds => k ds
  | .lst ds => k ds
  | _ => False := by
  rcases hd with rfl | rfl <;> exact h
theorem blk_key (x : Option (Int × Int)) : (encB x).key = some (match x with
    | none => .non
    | some y => .tup [y.1, y.2]) := by
  cases x <;> rfl
theorem body_news {R : Res} (l : Scr) (dates : List Int) (last : Int) (barred : List (Ky × D)) (a0 a1 a3 a5 a6 a7 a8 a9 a10 : Sl) (hb : ∀ i d : Int, (lookD barred (.tup [i, d])).isSome = dates.any fun e => decide (blockN l e = some (i, d))) (kk : List D → Prop) (items : List Item) (hl : items.length ≤ sizeLine)
    (h : kk (((items.filter fun x => match x.2.2 with
    | some d => decide (d ≤ last) && !dates.any fun e => decide (blockN l e = some (x.1, x.2.1))
    | none => false).map fun x => ((x.2.2.getD 0, none) : St1)).map encSt)) :
    LcB (dgTup [8, 9, 10]) (dAnd (dTest (dOp (opIs true) (dVar 10) (dC .non))) (dAnd (dTest (dOp (opI0 fun i j => .bl (decide (i ≤ j))) (dVar 10) (dVar 2))) (dTest (dOp (opInD true) (dTup (dCons (dVar 8) (dCons (dVar 9) (dNil)))) (dVar 4))))) (dTup (dCons (dVar 10) (dCons (dC .non) (dNil)))) [8, 9, 10]
      [a0, a1, .val (.int last), a3, .val (.dct barred), a5, a6, a7, a8, a9, a10] (items.map encI) kk := by
  have h2 : 2 ≤ sizeLine := by have := le8; omega
  refine lcMap items encI (fun x => match x.2.2 with
    | some d => decide (d ≤ last) && !dates.any fun e => decide (blockN l e = some (x.1, x.2.1))
    | none => false) (fun x => encSt (x.2.2.getD 0, none)) (fun x hx Kt Kf ht hf => ?_) hl (by rw [List.map_map] at h; exact h)
  obtain ⟨i, f, q⟩ := x
  cases q with
  | none =>
    simp [encI, encO, wipeR] at hf ⊢
    exact hf
  | some q =>
    have hb1 := hb i f
    dsimp only at ht hf
    generalize hg : (dates.any fun e => decide (blockN l e = some (i, f))) = g at ht hf hb1
    by_cases hq : q ≤ last
    · cases hk : lookD barred (.tup [i, f]) with
      | none =>
        rw [hk] at hb1
        subst hb1
        simp [hq] at ht
        simp [encI, encO, wipeR, hq, h2, hk, encSt] at ht ⊢
        exact ht
      | some z =>
        rw [hk] at hb1
        subst hb1
        simp [hq] at hf
        simp [encI, encO, wipeR, hq, h2, hk]
        exact hf
    · simp [hq] at hf
      simp [encI, encO, wipeR, hq]
      exact hf
theorem body_olds {R : Res} (l : Scr) (last : Int) (a0 a1 a3 a4 a5 a6 a7 a8 a9 a10 : Sl) (kk : List D → Prop) (dates : List Int) (hl : dates.length ≤ sizeLine)
    (h : kk (((dates.filter fun e => match behS l (some e) with
    | some d => decide (d ≤ last)
    | none => false).map fun e => (((behS l (some e)).getD 0, some e) : St1)).map encSt)) :
    LcB (dgTup [10, 7]) (dAnd (dTest (dOp (opIs true) (dVar 10) (dC .non))) (dTest (dOp (opI0 fun i j => .bl (decide (i ≤ j))) (dVar 10) (dVar 2)))) (dTup (dCons (dVar 10) (dCons (dVar 7) (dNil)))) [10, 7]
      [a0, a1, .val (.int last), a3, a4, a5, a6, a7, a8, a9, a10] (dates.map fun e => .tup [encO (behS l (some e)), .int e]) kk := by
  have h2 : 2 ≤ sizeLine := by have := le8; omega
  refine lcMap dates (fun e => .tup [encO (behS l (some e)), .int e]) (fun e => match behS l (some e) with
    | some d => decide (d ≤ last)
    | none => false) (fun e => encSt ((behS l (some e)).getD 0, some e)) (fun e he Kt Kf ht hf => ?_) hl (by rw [List.map_map] at h; exact h)
  generalize hg : behS l (some e) = g at ht hf ⊢
  cases g with
  | none =>
    simp [encO, wipeR] at hf ⊢
    exact hf
  | some d =>
    by_cases hd : d ≤ last
    · simp [encO, wipeR, hd, h2, encSt] at ht ⊢
      exact ht
    · simp [encO, wipeR, hd] at hf ⊢
      exact hf
/-- stands_behind: slots 0 changes 1 dates 2 last 3 there 4 barred 5 news 6 olds 7 date 8 at 9 first 10 day -/
abbrev d_stands_behind (m : Pm) (R : Res) : TdS := dSeq (dAsg 3 (dIf (dTest (dMeth 1 (sp_Script_has_new R) (dVar 0) dNil)) (dCall (sp_near_offers R) (dCons (dVar 0) (dNil))) (dC (.dct [])))) (dSeq (dAsg 4 (dDx (dIter (dVar 1)) (dgName 7) (dYes) (dCall (sp_block_of R) (dCons (dVar 0) (dCons (dVar 3) (dCons (dVar 7) (dNil))))) (dC (.bl true)) [7])) (dSeq (dAsg 5 (dLc (dIter (dCall (sp_new_ones R) (dCons (dVar 0) (dCons (dOp opAdd (dVar 2) (dCall (sp_span R) (dCons (dVar 0) (dNil)))) (dNil))))) (dgTup [8, 9, 10]) (dAnd (dTest (dOp (opIs true) (dVar 10) (dC .non))) (dAnd (dTest (dOp (opI0 fun i j => .bl (decide (i ≤ j))) (dVar 10) (dVar 2))) (dTest (dOp (opInD true) (dTup (dCons (dVar 8) (dCons (dVar 9) (dNil)))) (dVar 4))))) (dTup (dCons (dVar 10) (dCons (dC .non) (dNil)))) [8, 9, 10])) (dSeq (dAsg 6 (dLc (dIter (dVar 1)) (dgName 7) (dYes) (dTup (dCons (dMeth 1 (sp_Script_call R) (dVar 0) (dCons (dVar 7) (dNil))) (dCons (dVar 7) (dNil)))) [7])) (dRet (dCall (sp_in_order R) (dCons (dOp opAdd (dVar 5) (dLc (dIter (dVar 6)) (dgTup [10, 7]) (dAnd (dTest (dOp (opIs true) (dVar 10) (dC .non))) (dTest (dOp (opI0 fun i j => .bl (decide (i ≤ j))) (dVar 10) (dVar 2)))) (dTup (dCons (dVar 10) (dCons (dVar 7) (dNil)))) [10, 7])) (dNil)))))))
theorem law_stands_behind (m : Pm) (R : Res) (ds : List D) (kk : D → Prop) (h : sp_stands_behind R ds kk) : d_stands_behind m R { nx := fun _ => kk .non, rt := kk } (startD 11 ds) := by
  obtain ⟨l, d, dates, last, rfl, ho, hd, hdl, hdx, h0, h1, h⟩ := h
  have hH := huge
  have h2 : 2 ≤ sizeLine := by omega
  have hsp := span_le ho
  have hnl := newOnes_len (last := last + spanS l) ho (by omega)
  have hlen : l.length ≤ 12 := Nat.le_trans (len_le_flat l) ho.few
  -- behind there
  have tail : ∀ (kvs : List (Ky × D)) (hk : Holds kvs (nearT0 l)) (a4 a5 a6 a7 a8 a9 a10 : Sl), LT d (dates.map D.int) → DxB (dgName 7) dYes (dCall (sp_block_of R) (dCons (dVar 0) (dCons (dVar 3) (dCons (dVar 7) dNil)))) (dC (.bl true)) [7] [.val (encC l), .val d, .val (.int last), .val (.dct kvs), a4, a5, a6, a7, a8, a9, a10] (dates.map D.int) fun barred =>
      (dSeq (dAsg 5 (dLc (dIter (dCall (sp_new_ones R) (dCons (dVar 0) (dCons (dOp opAdd (dVar 2) (dCall (sp_span R) (dCons (dVar 0) (dNil)))) (dNil))))) (dgTup [8, 9, 10]) (dAnd (dTest (dOp (opIs true) (dVar 10) (dC .non))) (dAnd (dTest (dOp (opI0 fun i j => .bl (decide (i ≤ j))) (dVar 10) (dVar 2))) (dTest (dOp (opInD true) (dTup (dCons (dVar 8) (dCons (dVar 9) (dNil)))) (dVar 4))))) (dTup (dCons (dVar 10) (dCons (dC .non) (dNil)))) [8, 9, 10])) (dSeq (dAsg 6 (dLc (dIter (dVar 1)) (dgName 7) (dYes) (dTup (dCons (dMeth 1 (sp_Script_call R) (dVar 0) (dCons (dVar 7) (dNil))) (dCons (dVar 7) (dNil)))) [7])) (dRet (dCall (sp_in_order R) (dCons (dOp opAdd (dVar 5) (dLc (dIter (dVar 6)) (dgTup [10, 7]) (dAnd (dTest (dOp (opIs true) (dVar 10) (dC .non))) (dTest (dOp (opI0 fun i j => .bl (decide (i ≤ j))) (dVar 10) (dVar 2)))) (dTup (dCons (dVar 10) (dCons (dVar 7) (dNil)))) [10, 7])) (dNil)))))) { nx := fun _ => kk .non, rt := kk } [.val (encC l), .val d, .val (.int last), .val (.dct kvs), .val (.dct barred), a5, a6, a7, a8, a9, a10] := by
    intro kvs hk a4 a5 a6 a7 a8 a9 a10 hd
    refine dxMap dates D.int (fun _ => true) (fun e => encB (blockN l e)) (fun e => match blockN l e with
      | none => .non
      | some y => .tup [y.1, y.2]) (fun e _ => blk_key _) (fun e he Kt Kf ht hf => ?_) (by omega) fun barred hbr hbl => ?_
    · simp [wipeR]
      exact ⟨l, kvs, nearT0 l, e, rfl, ho, hk, ht rfl⟩
    · have hb : ∀ i d : Int, (lookD barred (.tup [i, d])).isSome = dates.any fun e => decide (blockN l e = some (i, d)) := fun i d => by
        rw [hbr, List.any_filter]
        congr 1
        funext e
        cases blockN l e with
        | none => simp
        | some y =>
          obtain ⟨a, b⟩ := y
          simp
      simp only [s_dSeq, s_dAsg, s_dLc]
      rw [s_dIter]
      simp [encC]
      refine ⟨l, rfl, ho, ?_⟩
      simp
      refine ⟨l, _, rfl, ho, by omega, by omega, ?_⟩
      refine body_news (R := R) l dates last barred _ _ _ _ _ _ _ _ _ hb _ _ (by omega) ?_
      refine lt_iter hd _ ?_
      refine lcAll dates D.int (fun e => .tup [encO (behS l (some e)), .int e]) (fun e he Kt ht => ?_) (by omega) ?_
      · simp [wipeR]
        refine ⟨l, e, rfl, ho, (hdx e he).1, ?_⟩
        exact ⟨h2, ht⟩
      · refine body_olds (R := R) l last _ _ _ _ _ _ _ _ _ _ _ dates (by omega) ?_
        have l1 : (newsOf l dates last).length ≤ 300000 := by
          unfold newsOf
          rw [List.length_map]
          exact Nat.le_trans (List.length_filter_le _ _) hnl
        have l2 : (oldsOf l dates last).length ≤ 12 := by
          unfold oldsOf
          rw [List.length_map]
          exact Nat.le_trans (List.length_filter_le _ _) hdl
        have key : ((newsOf l dates last).map encSt).length + ((oldsOf l dates last).map encSt).length ≤ sizeLine ∧ sp_in_order R [.lst ((newsOf l dates last).map encSt ++ (oldsOf l dates last).map encSt)] kk := by
          refine ⟨by rw [List.length_map, List.length_map]; omega, newsOf l dates last ++ oldsOf l dates last, by rw [List.map_append], by rw [List.length_append]; omega, h⟩
        exact key
  simp only [s_dSeq, s_dAsg, s_dIf, s_dTest, s_dMeth, s_dVar, startD, List.map_cons, List.map_nil, List.cons_append, List.getElem?_cons_zero]
  show 1 = 1 ∧ _
  refine ⟨rfl, ?_⟩
  simp only [s_dNil]
  refine ⟨l, rfl, by omega, ?_⟩
  dsimp only
  cases hna : l.any Stp.isAdd with
  | true =>
    simp only [if_true, s_dCall, s_dCons, s_dNil, s_dVar, List.getElem?_cons_zero]
    refine ⟨l, rfl, ho, fun kvs hk => ?_⟩
    have hk2 : Holds kvs (nearT0 l) := fun i d => by rw [hk i d]; unfold nearT0; rw [hna]; rfl
    have := tail kvs hk2 .no .no .no .no .no .no .no hd
    simp only [s_dDx, s_dIter, s_dVar]
    exact lt_iter hd _ this
  | false =>
    have hk2 : Holds [] (nearT0 l) := fun i d => by unfold nearT0; rw [hna]; rfl
    have := tail [] hk2 .no .no .no .no .no .no .no hd
    simp only [Bool.false_eq_true, if_false, s_dC, s_dDx, s_dIter, s_dVar]
    exact lt_iter hd _ this
end Dl
set_option Elab.async false
set_option linter.all false
set_option maxRecDepth 100000
set_option maxHeartbeats 2000000
namespace Dl
open PySem PySem.Spec PyProof.Rows L2
def sp_all_stands : DSp := fun R ds kk => ∃ (l : Scr) (d : D) (dates : List Int) (last : Int), ds = [encC l, d, .int last] ∧ Scr.Ok l ∧ LT d (dates.map D.int) ∧ dates.length ≤ 12 ∧ dates.Nodup ∧ (∀ x ∈ dates, 0 ≤ x ∧ x ≤ 1000) ∧ 0 ≤ last ∧ last ≤ 10000 ∧ kk (.lst ((standsL l dates last).map encSt))
theorem len_all_stands (R : Res) (ds : List D) (kk : D → Prop) (h : sp_all_stands R ds kk) : ds.length = 3 := by obtain ⟨a, b, c, d, rfl, h⟩ := h; rfl
/-- all_stands: slots 0 changes 1 dates 2 last -/
abbrev d_all_stands (m : Pm) (R : Res) : TdS := dSeq (dDrop (dCall (sp_need_dates R) (dCons (dVar 1) (dNil)))) (dSeq (dDrop (dCall (sp_need_day R) (dCons (dVar 2) (dNil)))) (dRet (dCall (sp_stands_behind R) (dCons (dVar 0) (dCons (dVar 1) (dCons (dVar 2) (dNil)))))))
theorem law_all_stands (m : Pm) (R : Res) (ds : List D) (kk : D → Prop) (h : sp_all_stands R ds kk) : d_all_stands m R { nx := fun _ => kk .non, rt := kk } (startD 3 ds) := by
  obtain ⟨l, d, dates, last, rfl, ho, hd, hdl, hn, hdx, h0, h1, h⟩ := h
  simp [startD]
  refine ⟨d, dates, rfl, hd, hdl, hn, hdx, last, rfl, l, d, dates, last, rfl, ho, hd, hdl, hdx, h0, h1, h⟩
def sp_first_block : DSp := fun R ds kk => ∃ (l : Scr) (kvs : List (Ky × D)) (T : Int → Int → Bool) (d : Int), ds = [encC l, .dct kvs, .int d] ∧ Scr.Ok l ∧ Holds kvs T ∧ kk (encB (firstB T 0 l d))
theorem len_first_block (R : Res) (ds : List D) (kk : D → Prop) (h : sp_first_block R ds kk) : ds.length = 3 := by obtain ⟨l, a, b, d, rfl, h⟩ := h; rfl
/-- first_block: slots 0 changes 1 there 2 date 3 day 4 at 5 step -/
abbrev d_first_block (m : Pm) (R : Res) : TdS := dSeq (dAsg 3 (dVar 2)) (dSeq (dFor (dEnum (dCons (dMeth 1 (sp_Script_steps R) (dVar 0) dNil) (dNil))) (dgTup [4, 5]) (dSeq (dIfS (dAnd (dTest (dOp (opEq false) (dOp opIx (dVar 5) (dC (.int 0))) (dC (.str "add")))) (dTest (dOp (opInD false) (dTup (dCons (dVar 4) (dCons (dVar 3) (dNil)))) (dVar 1)))) (dRet (dTup (dCons (dVar 4) (dCons (dVar 3) (dNil))))) (dNext)) (dSeq (dAsg 3 (dCall (sp_behind R) (dCons (dVar 5) (dCons (dVar 3) (dNil))))) (dIfS (dTest (dOp (opIs false) (dVar 3) (dC .non))) (dRet (dC .non)) (dNext))))) (dRet (dC .non)))
theorem law_first_block (m : Pm) (R : Res) (ds : List D) (kk : D → Prop) (h : sp_first_block R ds kk) : d_first_block m R { nx := fun _ => kk .non, rt := kk } (startD 6 ds) := by
  obtain ⟨l, kvs, T, d, rfl, ho, hT, h⟩ := h
  have hH := huge
  simp [startD, encC]
  refine ⟨l, rfl, ?_⟩
  simp
  refine forEnum l encS (fun pre ρ => ∃ x s4 s5, ρ = [.val (.ins 1 [.tup (l.map encS)]), .val (.dct kvs), .val (.int d), .val (.int x), s4, s5] ∧ ∀ post, l = pre ++ post → firstB T 0 l d = firstB T pre.length post x) ⟨d, _, _, rfl, fun post e => by rw [e]; rfl⟩ (fun pre s post e ρ ⟨x, s4, s5, hρ, hx⟩ => ?_) fun ρ ⟨x, s4, s5, hρ, hx⟩ => ?_
  · subst hρ
    have hs : s.Ok := ho.all s (by rw [e]; simp)
    have hx1 := hx (s :: post) e
    have rest : s.isAdd = false ∨ T pre.length x = false → sp_behind R [encS s, .int x] fun d_1 => opIs false d_1 .non fun t => match t with
        | .bl b => if b = true then kk .non else (∃ x s4 s5, [Sl.val (.ins 1 [.tup (l.map encS)]), .val (.dct kvs), .val (.int d), .val d_1, .val (.int (pre.length : Int)), .val (encS s)] = [.val (.ins 1 [.tup (l.map encS)]), .val (.dct kvs), .val (.int d), .val (.int x), s4, s5] ∧ ∀ post, l = pre ++ [s] ++ post → firstB T 0 l d = firstB T (pre ++ [s]).length post x)
        | _ => False := fun hno => by
      refine ⟨s, x, rfl, hs, ?_⟩
      have hn : ¬ (s.isAdd = true ∧ T pre.length x = true) := by
        rintro ⟨a, b⟩
        rcases hno with z | z
        · rw [z] at a; cases a
        · rw [z] at b; cases b
      simp only [firstB, if_neg hn] at hx1
      cases hb : beh s x with
      | none =>
        rw [hb] at hx1
        simp [encO]
        rw [hx1] at h
        exact h
      | some y =>
        rw [hb] at hx1
        simp [encO]
        refine fun post2 e2 => ?_
        have : post2 = post := by
          have e3 : pre ++ s :: post = pre ++ s :: post2 := by rw [← e, e2]
          have := List.append_cancel_left e3
          exact (List.cons.inj this).2.symm
        subst this
        rw [hx1]
    cases s with
    | add r a b =>
      simp [encS]
      have hh := hT pre.length x
      cases hl : lookD kvs (.tup [(pre.length : Int), x]) with
      | some z =>
        rw [hl] at hh
        have hh : T pre.length x = true := hh.symm
        simp only [firstB, Stp.isAdd, true_and, if_pos hh] at hx1
        simp [hl]
        rw [hx1] at h
        exact ⟨by omega, h⟩
      | none =>
        rw [hl] at hh
        have hh : T pre.length x = false := hh.symm
        simp [hl]
        refine ⟨by omega, ?_⟩
        have := rest (.inr hh)
        simp [encS] at this
        exact this
    | pl p =>
      have := rest (.inl rfl)
      cases p <;> (simp [encS, encP] at this ⊢; exact this)
    | since c ps =>
      have := rest (.inl rfl)
      simp [encS] at this ⊢
      exact this
  · subst hρ
    simp
    have := hx [] (by simp)
    rw [this] at h
    exact h
/-- an object of the class Side -/
def IsSide (d : D) (l : Scr) (many : Int) : Prop := ∃ kvs, d = .ins 2 [encC l, .dct kvs, .lst ((newsL l many).map D.int)] ∧ Holds kvs (offT l many)
def sp_Side_init : DSp := fun R ds kk => ∃ (l : Scr) (many : Int), ds = [encC l, .int many] ∧ Scr.Ok l ∧ 0 ≤ many ∧ many ≤ 10000 ∧ ∀ d, IsSide d l many → kk d
theorem len_Side_init (R : Res) (ds : List D) (kk : D → Prop) (h : sp_Side_init R ds kk) : ds.length + 1 = 3 := by obtain ⟨l, b, rfl, h⟩ := h; rfl
/-- Side.__init__: slots 0 self 1 changes 2 many 3 offers 4 at 5 first 6 day -/
abbrev d_Side_init (m : Pm) (R : Res) : TdS := dSeq (dFldSet m 2 0 "own_script" (dVar 1)) (dSeq (dAsg 3 (dCall (sp_new_ones R) (dCons (dVar 1) (dCons (dOp opAdd (dVar 2) (dCall (sp_span R) (dCons (dVar 1) (dNil)))) (dNil))))) (dSeq (dFldSet m 2 0 "there" (dDx (dIter (dVar 3)) (dgTup [4, 5, 6]) (dYes) (dTup (dCons (dVar 4) (dCons (dVar 5) (dNil)))) (dC (.bl true)) [4, 5, 6])) (dFldSet m 2 0 "news" (dCall fSorted (dCons (dLc (dIter (dVar 3)) (dgTup [4, 5, 6]) (dAnd (dTest (dOp (opIs true) (dVar 6) (dC .non))) (dTest (dOp (opI0 fun i j => .bl (decide (i ≤ j))) (dVar 6) (dVar 2)))) (dVar 6) [4, 5, 6]) (dNil))))))
theorem law_Side_init (m : Pm) (hm : m.nm = nmP) (R : Res) (x : Addr) (ds : List D) (kk : D → Prop) (h : sp_Side_init R ds kk) : d_Side_init m R { nx := fun ρ => ∃ fs, ρ[0]? = some (.obj x 2 fs) ∧ fs.length = (m.nm 2).length ∧ kk (.ins 2 fs), rt := fun _ => False } (.obj x 2 [] :: startD 6 ds) := by
  obtain ⟨l, many, rfl, ho, h0, h1, h⟩ := h
  have hH := huge
  have hsp := span_le ho
  have hnl := newOnes_len (last := many + spanS l) ho (by omega)
  simp [startD, hm, nmP]
  refine ⟨l, rfl, ho, ?_⟩
  simp
  refine ⟨l, _, rfl, ho, by omega, by omega, ?_⟩
  simp
  refine keys_use (newOnes l (many + spanS l)) (by omega) (fun x hx Kt ht => ?_) fun kvs hk _ => ?_
  · obtain ⟨i, f, d⟩ := x
    simp [encI, wipeR]
    exact ⟨by omega, ht⟩
  · refine lcMap (newOnes l (many + spanS l)) encI (fun x => match x.2.2 with
      | some d => decide (d ≤ many)
      | none => false) (fun x => .int (x.2.2.getD 0)) (fun x hx Kt Kf ht hf => ?_) (by omega) ?_
    · obtain ⟨i, f, d⟩ := x
      cases d with
      | none =>
        simp [encI, encO, wipeR] at hf ⊢
        exact hf
      | some d =>
        by_cases hd : d ≤ many
        · simp [encI, encO, wipeR, hd] at ht ⊢
          exact ht
        · simp [encI, encO, wipeR, hd] at hf ⊢
          exact hf
    · have e : ∀ L : List Item, L.map (fun x => D.int (x.2.2.getD 0)) = (L.map fun x => x.2.2.getD 0).map D.int := fun L => by simp
      rw [e]
      refine s_sorted_ints _ ?_
      exact h _ ⟨kvs, rfl, hk⟩
def sp_Side_told : DSp := fun R ds kk => ∃ (d : D) (l : Scr) (many date : Int), ds = [d, .int date] ∧ IsSide d l many ∧ Scr.Ok l ∧ 0 ≤ date ∧ kk (.tup [encO (fateL l date), encB (blockL l many date)])
theorem len_Side_told (R : Res) (ds : List D) (kk : D → Prop) (h : sp_Side_told R ds kk) : ds.length = 2 := by obtain ⟨l, b, c, d, rfl, h⟩ := h; rfl
/-- Side.told: slots 0 self 1 date 2 day -/
abbrev d_Side_told (m : Pm) (R : Res) : TdS := dSeq (dAsg 2 (dMeth 1 (sp_Script_call R) (dFld 2 0 (dVar 0)) (dCons (dVar 1) (dNil)))) (dRet (dTup (dCons (dVar 2) (dCons (dIf (dTest (dOp (opIs true) (dVar 2) (dC .non))) (dCall (sp_first_block R) (dCons (dFld 2 0 (dVar 0)) (dCons (dFld 2 1 (dVar 0)) (dCons (dVar 1) (dNil))))) (dC .non)) (dNil)))))
theorem law_Side_told (m : Pm) (R : Res) (ds : List D) (kk : D → Prop) (h : sp_Side_told R ds kk) : d_Side_told m R { nx := fun _ => kk .non, rt := kk } (startD 3 ds) := by
  obtain ⟨d, l, many, date, rfl, ⟨kvs, rfl, hk⟩, ho, hd, h⟩ := h
  have hH := huge
  simp [startD, encC]
  refine ⟨l, date, rfl, ho, hd, ?_⟩
  unfold blockL fateL at h
  cases hb : behS l (some date) with
  | none =>
    rw [hb] at h
    simp [encO] at h ⊢
    exact ⟨by omega, h⟩
  | some x =>
    rw [hb] at h
    simp [encO] at h ⊢
    exact ⟨l, kvs, _, date, rfl, ho, hk, by omega, h⟩
end Dl
set_option Elab.async false
set_option linter.all false
set_option maxRecDepth 100000
set_option maxHeartbeats 2000000
namespace Dl
open PySem PySem.Spec PyProof.Rows L2
abbrev Told1 := Option Int × Option (Int × Int)
abbrev Told := Told1 × Told1
def encT1 (t : Told1) : D := .tup [encO t.1, encB t.2]
def encTd (t : Told) : D := .tup [encT1 t.1, encT1 t.2]
def blkA (ts : List Told) (s : Bool) (i : Nat) : Option (Int × Int) := (ts[i]?).bind fun t => if s = true then t.2.2 else t.1.2
def BadA (ts : List Told) (s : Bool) (i j : Nat) : Prop := blkA ts s i ≠ none ∧ blkA ts s i = blkA ts s j ∧ blkA ts (!s) i ≠ blkA ts (!s) j
/-- for x in (a, b) -/
theorem for2 {dg : TdG} {body : TdS} {De : EndsD} {ρ : Rho} {a b : D} (h : dg a ρ fun ρ2 => body { De with nx := fun ρ' => dg b ρ' fun ρ2 => body { De with nx := De.nx, ct := De.nx, bk := De.nx } ρ2, ct := fun ρ' => dg b ρ' fun ρ2 => body { De with nx := De.nx, ct := De.nx, bk := De.nx } ρ2, bk := De.nx } ρ2) : ForB dg body De ρ [a, b] := by
  refine ⟨fun i ρ' => match i with
    | 0 => ρ' = ρ
    | 1 => dg b ρ' fun ρ2 => body { De with nx := De.nx, ct := De.nx, bk := De.nx } ρ2
    | _ => De.nx ρ', rfl, fun i d ρ' hd hI => ?_, fun ρ' hI => hI⟩
  match i, hd, hI with
  | 0, hd, hI =>
    simp at hd
    subst hd
    have e : ρ' = ρ := hI
    subst e
    exact h
  | 1, hd, hI =>
    simp at hd
    subst hd
    exact hI
  | n + 2, hd, _ => simp at hd
/-- the dates before n that are in block q -/
def datesIn (ts : List Told) (s : Bool) (n : Nat) (q : Int × Int) : List Nat := (List.range n).filter fun i => decide (blkA ts s i = some q)
def GI (ts : List Told) (s : Bool) (n : Nat) (ks : List (Ky × D)) : Prop := (∀ q : Int × Int, (lookD ks (.tup [q.1, q.2])).getD (.lst []) = .lst ((datesIn ts s n q).map fun (i : Nat) => D.int (i : Int))) ∧ lookD ks .non = none ∧ ks.length ≤ n
theorem datesIn_succ (ts : List Told) (s : Bool) (n : Nat) (q : Int × Int) : datesIn ts s (n + 1) q = datesIn ts s n q ++ if blkA ts s n = some q then [n] else [] := by
  unfold datesIn
  rw [List.range_succ, List.filter_append]
  congr 1
  by_cases h : blkA ts s n = some q <;> simp [List.filter_cons, h]
theorem gi_none {ts : List Told} {s : Bool} {n : Nat} {ks : List (Ky × D)} (h : GI ts s n ks) (e : blkA ts s n = none) : GI ts s (n + 1) ks := by
  refine ⟨fun q => ?_, h.2.1, by have := h.2.2; omega⟩
  rw [h.1 q, datesIn_succ, e]
  simp
theorem gi_some {ts : List Told} {s : Bool} {n : Nat} {ks : List (Ky × D)} {x : Int × Int} (h : GI ts s n ks) (e : blkA ts s n = some x) : GI ts s (n + 1) (insD ks (.tup [x.1, x.2]) (.lst ((datesIn ts s n x).map (fun (i : Nat) => D.int (i : Int)) ++ [.int (n : Int)]))) := by
  refine ⟨fun q => ?_, ?_, ?_⟩
  · rw [lookD_insD, datesIn_succ, e]
    by_cases z : q = x
    · subst z
      simp
    · have z2 : ¬ (Ky.tup [q.1, q.2] = Ky.tup [x.1, x.2]) := fun y => by
        simp at y
        exact z (Prod.ext y.1 y.2)
      have z3 : ¬ (x = q) := fun y => z y.symm
      rw [if_neg z2, h.1 q]
      simp [z3]
  · rw [lookD_insD, if_neg (by simp)]
    exact h.2.1
  · have := insD_len ks (.tup [x.1, x.2]) (.lst ((datesIn ts s n x).map (fun (i : Nat) => D.int (i : Int)) ++ [.int (n : Int)]))
    have := h.2.2
    omega
theorem datesIn_len (ts : List Told) (s : Bool) (n : Nat) (q : Int × Int) : (datesIn ts s n q).length ≤ n := by
  unfold datesIn
  have := List.length_filter_le (fun i => decide (blkA ts s i = some q)) (List.range n)
  rwa [List.length_range] at this
theorem eqB (neg : Bool) (x y : Option (Int × Int)) (k : D → Prop) : opEq neg (encB x) (encB y) k = k (.bl (if neg then !decide (x = y) else decide (x = y))) := by
  cases x with
  | none => cases y with
    | none => simp [encB]
    | some y =>
      simp only [opEq, encB, D.sc, D.eqb]
      refine propext ⟨fun h => by cases neg <;> simpa using h.2, fun h => ⟨⟨2, by omega, rfl, rfl⟩, by cases neg <;> simpa using h⟩⟩
  | some x => cases y with
    | none =>
      simp only [opEq, encB, D.sc, D.eqb]
      refine propext ⟨fun h => by cases neg <;> simpa using h.2, fun h => ⟨⟨2, by omega, rfl, rfl⟩, by cases neg <;> simpa using h⟩⟩
    | some y =>
      obtain ⟨a, b⟩ := x
      obtain ⟨c, d⟩ := y
      have e : D.eqb (.tup [.int a, .int b]) (.tup [.int c, .int d]) = decide ((some (a, b) : Option (Int × Int)) = some (c, d)) := by
        refine Bool.eq_iff_iff.mpr ?_
        simp [D.eqb, D.eqbs]
      simp only [opEq, encB, D.sc, e]
      exact propext ⟨fun h => h.2, fun h => ⟨⟨2, by omega, rfl, rfl⟩, h⟩⟩
theorem isB (neg : Bool) (x : Option (Int × Int)) (k : D → Prop) : opIs neg (encB x) .non k = k (.bl (if neg then x.isSome else x.isNone)) := by
  cases x <;> cases neg <;> rfl
theorem keyB (x : Option (Int × Int)) : (encB x).key = some (match x with
    | none => .non
    | some y => .tup [y.1, y.2]) := by
  cases x <;> rfl
def sp_parted_by_two : DSp := fun R ds kk => ∃ ts : List Told, ds = [.lst (ts.map encTd)] ∧ ts.length ≤ 10000 ∧ ((∀ i j, i < j → j < ts.length → ∀ s, ¬ BadA ts s i j) → kk .non) ∧ ∀ i j s, i < j → j < ts.length → BadA ts s i j → kk (.tup [.int (i : Int), .int (j : Int)])
theorem len_parted_by_two (R : Res) (ds : List D) (kk : D → Prop) (h : sp_parted_by_two R ds kk) : ds.length = 1 := by obtain ⟨d, rfl, h⟩ := h; rfl
theorem min_use {k : D → Prop} (l : List Int) (h0 : l ≠ []) (h : ∀ m ∈ l, k (.int m)) : fMin [.lst (l.map D.int)] k := by
  show (match D.ints (l.map D.int) with
    | some ns => 0 < ns.length ∧ ∀ m, m ∈ ns → (∀ y, y ∈ ns → m ≤ y) → k (.int m)
    | none => False)
  rw [D.ints_map]
  exact ⟨List.length_pos_iff.mpr h0, fun m hm _ => h m hm⟩
/-- the walk over one group -/
theorem later_use {ts : List Told} {side : Int} {s : Bool} (hs : side = if s then 1 else 0) (i : Nat) (th : Option (Int × Int)) (a1 a4 a6 a7 a8 : Sl) (F : List Int) (L : List Nat) (hF : F.length + L.length ≤ 30000) (hL : ∀ j ∈ L, j < ts.length) (De : EndsD)
    (h : ∀ a7, De.nx [.val (.lst (ts.map encTd)), a1, .val (.int (i : Int)), .val (.int side), a4, .own ((F ++ ((L.filter fun j => decide (i < j) && decide (blkA ts (!s) j ≠ th)).map fun (j : Nat) => (j : Int))).map D.int), a6, a7, a8, .val (encB th)]) :
    ForB (dgName 7) (dIfS (dAnd (dTest (dOp (opI0 fun i j => .bl (decide (j < i))) (dVar 7) (dVar 2))) (dTest (dOp (opEq true) (dOp opIx (dOp opIx (dOp opIx (dVar 0) (dVar 7)) (dOp (opI0 fun i j => .int (i - j)) (dC (.int 1)) (dVar 3))) (dC (.int 1))) (dVar 9)))) (dApp 5 (dVar 7)) (dNext)) De
      [.val (.lst (ts.map encTd)), a1, .val (.int (i : Int)), .val (.int side), a4, .own (F.map D.int), a6, a7, a8, .val (encB th)] (L.map fun (j : Nat) => D.int (j : Int)) := by
  have hH := huge
  refine forMap L (fun (j : Nat) => D.int (j : Int)) (fun pre ρ => ∃ a7, ρ = [.val (.lst (ts.map encTd)), a1, .val (.int (i : Int)), .val (.int side), a4, .own ((F ++ ((pre.filter fun j => decide (i < j) && decide (blkA ts (!s) j ≠ th)).map fun (j : Nat) => (j : Int))).map D.int), a6, a7, a8, .val (encB th)]) ⟨a7, by simp⟩ (fun pre j post e ρ ⟨a7, hρ⟩ => ?_) fun ρ ⟨a7, hρ⟩ => by subst hρ; exact h a7
  subst hρ
  have hj : j < ts.length := hL j (by rw [e]; simp)
  have hlen : F.length + (pre.filter fun j => decide (i < j) && decide (blkA ts (!s) j ≠ th)).length < sizeLine := by
    have h1 := List.length_filter_le (fun j => decide (i < j) && decide (blkA ts (!s) j ≠ th)) pre
    have h2 : L.length = pre.length + (post.length + 1) := by rw [e]; simp
    omega
  obtain ⟨t, ht⟩ : ∃ t, ts[j]? = some t := ⟨ts[j], List.getElem?_eq_getElem hj⟩
  have hat : atI (ts.map encTd) (j : Int) = some (encTd t) := by rw [atIn, List.getElem?_map, ht]; rfl
  have hb : blkA ts (!s) j = if (!s) = true then t.2.2 else t.1.2 := by unfold blkA; rw [ht]; rfl
  by_cases hij : i < j
  · have hij2 : (i : Int) < (j : Int) := by omega
    cases s with
    | true =>
      have hs2 : side = 1 := by simpa using hs
      subst hs2
      simp only [Bool.not_true, Bool.false_eq_true, if_false] at hb
      simp [hij2, hat, encTd, encT1, eqB]
      by_cases z : t.1.2 = th
      · simp [z, hij]
        simp [List.filter_append, List.filter_cons, hij, hb, z]
      · simp [z]
        refine ⟨by simpa using hlen, ?_⟩
        simp [List.filter_append, List.filter_cons, hij, hb, z]
    | false =>
      have hs2 : side = 0 := by simpa using hs
      subst hs2
      simp only [Bool.not_false, if_true] at hb
      simp [hij2, hat, encTd, encT1, eqB]
      by_cases z : t.2.2 = th
      · simp [z, hij]
        simp [List.filter_append, List.filter_cons, hij, hb, z]
      · simp [z]
        refine ⟨by simpa using hlen, ?_⟩
        simp [List.filter_append, List.filter_cons, hij, hb, z]
  · have hij2 : ¬ (i : Int) < (j : Int) := by omega
    simp [hij2]
    simp [List.filter_append, List.filter_cons, hij]
/-- one side of one turn of the first loop -/
theorem put_use {ts : List Told} {s : Bool} {n : Nat} (hn : n < ts.length) (hl : ts.length ≤ 10000) (k0 k1 : List (Ky × D)) (hg : GI ts s n (if s then k1 else k0)) (a3 a4 a5 a6 a7 a8 a9 : Sl) (De : EndsD)
    (h : ∀ ks a6, GI ts s (n + 1) ks → De.nx [.val (.lst (ts.map encTd)), .grp (if s then k0 else ks) (if s then ks else k1), .val (.int (n : Int)), .val (.int (if s then 1 else 0)), a4, a5, a6, a7, a8, a9]) :
    (dSeq (dAsg 6 (dOp opIx (dOp opIx (dOp opIx (dVar 0) (dVar 2)) (dVar 3)) (dC (.int 1)))) (dIfS (dTest (dOp (opIs true) (dVar 6) (dC .non))) (dGrpPut 1 3 6 2) (dNext))) De
      [.val (.lst (ts.map encTd)), .grp k0 k1, .val (.int (n : Int)), .val (.int (if s then 1 else 0)), a4, a5, a6, a7, a8, a9] := by
  have hH := huge
  obtain ⟨t, ht⟩ : ∃ t, ts[n]? = some t := ⟨ts[n], List.getElem?_eq_getElem hn⟩
  have hat : atI (ts.map encTd) (n : Int) = some (encTd t) := by rw [atIn, List.getElem?_map, ht]; rfl
  have hb : blkA ts s n = if s = true then t.2.2 else t.1.2 := by unfold blkA; rw [ht]; rfl
  have hdl := fun q => datesIn_len ts s n q
  cases s with
  | true =>
    simp only [if_true] at hb hg h ⊢
    simp [hat, encTd, encT1, isB]
    cases e : t.2.2 with
    | none =>
      simp
      have := h k1 (.val .non) (gi_none hg (by rw [hb, e]))
      simpa [encB] using this
    | some x =>
      simp [encB]
      refine ⟨.tup [x.1, x.2], rfl, .inr ⟨rfl, by have := hg.2.2; omega, (datesIn ts true n x).map (fun (i : Nat) => D.int (i : Int)), hg.1 x, by rw [List.length_map]; have := hdl x; omega, ?_⟩⟩
      exact h _ _ (gi_some hg (by rw [hb, e]))
  | false =>
    simp only [Bool.false_eq_true, if_false] at hb hg h ⊢
    simp [hat, encTd, encT1, isB]
    cases e : t.1.2 with
    | none =>
      simp
      have := h k0 (.val .non) (gi_none hg (by rw [hb, e]))
      simpa [encB] using this
    | some x =>
      simp [encB]
      refine ⟨.tup [x.1, x.2], rfl, .inl ⟨rfl, by have := hg.2.2; omega, (datesIn ts false n x).map (fun (i : Nat) => D.int (i : Int)), hg.1 x, by rw [List.length_map]; have := hdl x; omega, ?_⟩⟩
      exact h _ _ (gi_some hg (by rw [hb, e]))
/-- those that a turn of the second loop finds at a side -/
def foundS (ts : List Told) (s : Bool) (i : Nat) : List Nat := ((match blkA ts s i with
  | some q => datesIn ts s ts.length q
  | none => []).filter fun j => decide (i < j) && decide (blkA ts (!s) j ≠ blkA ts (!s) i))
theorem found_iff {ts : List Told} {s : Bool} {i j : Nat} : j ∈ foundS ts s i ↔ i < j ∧ j < ts.length ∧ BadA ts s i j := by
  unfold foundS BadA
  cases e : blkA ts s i with
  | none => simp
  | some q =>
    simp only [datesIn, List.mem_filter, List.mem_range, decide_eq_true_eq, Bool.and_eq_true]
    constructor
    · rintro ⟨⟨a, b⟩, c, d⟩
      exact ⟨c, a, by simp, b.symm, fun z => d z.symm⟩
    · rintro ⟨a, b, _, c, d⟩
      exact ⟨⟨b, c.symm⟩, a, fun z => d z.symm⟩
theorem foundS_len (ts : List Told) (s : Bool) (i : Nat) : (foundS ts s i).length ≤ ts.length := by
  unfold foundS
  refine Nat.le_trans (List.length_filter_le _ _) ?_
  split
  · exact datesIn_len _ _ _ _
  · exact Nat.zero_le _
/-- one side of one turn of the second loop -/
theorem side_use {ts : List Told} {s : Bool} {i : Nat} (hi : i < ts.length) (hl : ts.length ≤ 10000) (k0 k1 : List (Ky × D)) (hg : GI ts s ts.length (if s then k1 else k0)) (t : Told) (ht : ts[i]? = some t) (a6 a7 a8 a9 : Sl) (F : List Int) (hF : F.length ≤ 10000) (De : EndsD)
    (h : ∀ a7 a8 a9, De.nx [.val (.lst (ts.map encTd)), .val (.lst [.dct k0, .dct k1]), .val (.int (i : Int)), .val (.int (if s then 1 else 0)), .val (encTd t), .own ((F ++ (foundS ts s i).map fun (j : Nat) => (j : Int)).map D.int), a6, a7, a8, a9]) :
    (dSeq (dPar 8 9 (dVal (dOp opIx (dOp opIx (dVar 4) (dVar 3)) (dC (.int 1)))) (dVal (dOp opIx (dOp opIx (dVar 4) (dOp (opI0 fun i j => .int (i - j)) (dC (.int 1)) (dVar 3))) (dC (.int 1))))) (dFor (dIter (dGet (dOp opIx (dVar 1) (dVar 3)) (dVar 8) (dLst (dNil)))) (dgName 7) (dIfS (dAnd (dTest (dOp (opI0 fun i j => .bl (decide (j < i))) (dVar 7) (dVar 2))) (dTest (dOp (opEq true) (dOp opIx (dOp opIx (dOp opIx (dVar 0) (dVar 7)) (dOp (opI0 fun i j => .int (i - j)) (dC (.int 1)) (dVar 3))) (dC (.int 1))) (dVar 9)))) (dApp 5 (dVar 7)) (dNext)))) De
      [.val (.lst (ts.map encTd)), .val (.lst [.dct k0, .dct k1]), .val (.int (i : Int)), .val (.int (if s then 1 else 0)), .val (encTd t), .own (F.map D.int), a6, a7, a8, a9] := by
  have hH := huge
  have hb : ∀ s, blkA ts s i = if s = true then t.2.2 else t.1.2 := fun s => by unfold blkA; rw [ht]; rfl
  have key : ∀ (here there : Option (Int × Int)) (d : D), blkA ts s i = here → blkA ts (!s) i = there → ((match here with
      | none => Ky.non
      | some y => .tup [y.1, y.2]) |> fun q => (lookD (if s then k1 else k0) q).getD (.lst [])) = d → ∃ L : List Nat, d = .lst (L.map fun (j : Nat) => D.int (j : Int)) ∧ L.length ≤ 10000 ∧ (∀ j ∈ L, j < ts.length) ∧ foundS ts s i = L.filter fun j => decide (i < j) && decide (blkA ts (!s) j ≠ there) := by
    intro here there d e1 e2 e3
    cases here with
    | none =>
      refine ⟨[], ?_, by simp, by simp, ?_⟩
      · rw [← e3]
        show (lookD (if s then k1 else k0) .non).getD (.lst []) = _
        rw [hg.2.1]
        rfl
      · unfold foundS
        rw [e1]
        rfl
    | some q =>
      refine ⟨datesIn ts s ts.length q, ?_, by have := datesIn_len ts s ts.length q; omega, fun j hj => ?_, ?_⟩
      · rw [← e3]
        exact hg.1 q
      · simp [datesIn] at hj
        exact hj.1
      · unfold foundS
        rw [e1, e2]
  cases s with
  | true =>
    have b1 := hb true
    have b2 := hb false
    simp only [if_true, Bool.false_eq_true, if_false] at b1 b2 hg h key ⊢
    obtain ⟨L, e1, e2, e3, e4⟩ := key t.2.2 t.1.2 _ b1 (by simpa using b2) rfl
    simp [encTd, encT1, keyB]
    rw [e1]
    refine later_use (s := true) (by rfl) i t.1.2 _ _ _ _ _ F L (by omega) e3 _ fun a7 => ?_
    rw [← e4]
    have := h a7 (.val (encB t.2.2)) (.val (encB t.1.2))
    simpa [encTd, encT1] using this
  | false =>
    have b1 := hb false
    have b2 := hb true
    simp only [if_true, Bool.false_eq_true, if_false] at b1 b2 hg h key ⊢
    obtain ⟨L, e1, e2, e3, e4⟩ := key t.1.2 t.2.2 _ b1 (by simpa using b2) rfl
    simp [encTd, encT1, keyB]
    rw [e1]
    refine later_use (s := false) (by rfl) i t.2.2 _ _ _ _ _ F L (by omega) e3 _ fun a7 => ?_
    rw [← e4]
    have := h a7 (.val (encB t.1.2)) (.val (encB t.2.2))
    simpa [encTd, encT1] using this
theorem range_at {n x : Nat} {pre post : List Nat} (e : List.range n = pre ++ x :: post) : x = pre.length ∧ x < n := by
  have h : (List.range n)[pre.length]? = some x := by rw [e]; simp
  rw [List.getElem?_range] at h
  · cases h
    refine ⟨rfl, ?_⟩
    have : (List.range n).length = pre.length + (post.length + 1) := by rw [e]; simp
    rw [List.length_range] at this
    omega
  · have : (List.range n).length = pre.length + (post.length + 1) := by rw [e]; simp
    rw [List.length_range] at this
    omega
/-- parted_by_two: slots 0 told 1 groups 2 date 3 side 4 pair 5 found 6 offer 7 later 8 here 9 there -/
abbrev d_parted_by_two (m : Pm) (R : Res) : TdS := dSeq (dGrp0 1) (dSeq (dFor (dRng1 (dCons (dCall fLen (dCons (dVar 0) (dNil))) (dNil))) (dgName 2) (dFor (dIter (dTup (dCons (dC (.int 0)) (dCons (dC (.int 1)) (dNil))))) (dgName 3) (dSeq (dAsg 6 (dOp opIx (dOp opIx (dOp opIx (dVar 0) (dVar 2)) (dVar 3)) (dC (.int 1)))) (dIfS (dTest (dOp (opIs true) (dVar 6) (dC .non))) (dGrpPut 1 3 6 2) (dNext))))) (dGrpFrz 1 (dSeq (dFor (dEnum (dCons (dVar 0) (dNil))) (dgTup [2, 4]) (dSeq (dAsgS 5 (dOwn (dNil))) (dSeq (dFor (dIter (dTup (dCons (dC (.int 0)) (dCons (dC (.int 1)) (dNil))))) (dgName 3) (dSeq (dPar 8 9 (dVal (dOp opIx (dOp opIx (dVar 4) (dVar 3)) (dC (.int 1)))) (dVal (dOp opIx (dOp opIx (dVar 4) (dOp (opI0 fun i j => .int (i - j)) (dC (.int 1)) (dVar 3))) (dC (.int 1))))) (dFor (dIter (dGet (dOp opIx (dVar 1) (dVar 3)) (dVar 8) (dLst (dNil)))) (dgName 7) (dIfS (dAnd (dTest (dOp (opI0 fun i j => .bl (decide (j < i))) (dVar 7) (dVar 2))) (dTest (dOp (opEq true) (dOp opIx (dOp opIx (dOp opIx (dVar 0) (dVar 7)) (dOp (opI0 fun i j => .int (i - j)) (dC (.int 1)) (dVar 3))) (dC (.int 1))) (dVar 9)))) (dApp 5 (dVar 7)) (dNext))))) (dFrz 5 (dIfS (dTest (dOp (opEq true) (dVar 5) (dLst (dNil)))) (dRet (dTup (dCons (dVar 2) (dCons (dCall fMin (dCons (dVar 5) (dNil))) (dNil))))) (dNext)))))) (dRet (dC .non)))))
theorem law_parted_by_two (m : Pm) (R : Res) (ds : List D) (kk : D → Prop) (h : sp_parted_by_two R ds kk) : d_parted_by_two m R { nx := fun _ => kk .non, rt := kk } (startD 10 ds) := by
  obtain ⟨ts, rfl, hl, hno, hbad⟩ := h
  have hH := huge
  have h2 : 2 ≤ sizeLine := by omega
  have hlen : ((ts.map encTd).length : Int) = (ts.length : Int) := by simp
  refine ⟨⟨by rw [hlen]; omega, by rw [hlen]; omega⟩, ?_⟩
  have e1 : rngD 0 ((ts.map encTd).length : Int).toNat = (List.range ts.length).map fun (i : Nat) => D.int (0 + (i : Int)) := by
    rw [hlen, Int.toNat_natCast]
    rfl
  show ForB (dgName 2) (dFor (dIter (dTup (dCons (dC (D.int 0)) (dCons (dC (D.int 1)) dNil)))) (dgName 3)
              (dSeq (dAsg 6 (dOp opIx (dOp opIx (dOp opIx (dVar 0) (dVar 2)) (dVar 3)) (dC (D.int 1))))
                (dIfS (dTest (dOp (opIs true) (dVar 6) (dC D.non))) (dGrpPut 1 3 6 2) dNext))) _ [.val (.lst (ts.map encTd)), .grp [] [], .no, .no, .no, .no, .no, .no, .no, .no] (rngD 0 ((ts.map encTd).length : Int).toNat)
  rw [e1]
  refine forMap (List.range ts.length) _ (fun pre ρ => ∃ k0 k1 a2 a3 a4 a5 a6 a7 a8 a9, ρ = [.val (.lst (ts.map encTd)), .grp k0 k1, a2, a3, a4, a5, a6, a7, a8, a9] ∧ GI ts false pre.length k0 ∧ GI ts true pre.length k1)
    ⟨[], [], _, _, _, _, _, _, _, _, rfl, ⟨fun q => by simp [lookD, datesIn], rfl, Nat.le_refl 0⟩, fun q => by simp [lookD, datesIn], rfl, Nat.le_refl 0⟩ (fun pre x post e ρ ⟨k0, k1, a2, a3, a4, a5, a6, a7, a8, a9, hρ, g0, g1⟩ => ?_) fun ρ ⟨k0, k1, a2, a3, a4, a5, a6, a7, a8, a9, hρ, g0, g1⟩ => ?_
  · subst hρ
    obtain ⟨hx, hxl⟩ := range_at e
    subst hx
    have e0 : (0 : Int) + (pre.length : Int) = (pre.length : Int) := by omega
    rw [e0]
    refine ⟨by show 2 ≤ sizeLine; omega, ?_⟩
    refine for2 ?_
    refine put_use (s := false) hxl hl k0 k1 g0 a3 a4 a5 a6 a7 a8 a9 _ fun ks b6 hk => ?_
    refine put_use (s := true) hxl hl ks k1 g1 a3 a4 a5 b6 a7 a8 a9 _ fun ks1 b6 hk1 => ?_
    exact ⟨ks, ks1, _, _, _, _, _, _, _, _, rfl, by simpa using hk, by simpa using hk1⟩
  · subst hρ
    rw [List.length_range] at g0 g1
    -- the second loop
    show ForB (dgTup [2, 4]) _ _ [.val (.lst (ts.map encTd)), .val (.lst [.dct k0, .dct k1]), a2, a3, a4, a5, a6, a7, a8, a9] (enumD (ts.map encTd))
    refine forEnum ts encTd (fun pre ρ => (∃ a2 a3 a4 a5 a6 a7 a8 a9, ρ = [.val (.lst (ts.map encTd)), .val (.lst [.dct k0, .dct k1]), a2, a3, a4, a5, a6, a7, a8, a9]) ∧ ∀ i j, i < pre.length → i < j → j < ts.length → ∀ s, ¬ BadA ts s i j) ⟨⟨_, _, _, _, _, _, _, _, rfl⟩, fun i j hi => by cases hi⟩ (fun pre t post e ρ ⟨⟨a2, a3, a4, a5, a6, a7, a8, a9, hρ⟩, hI⟩ => ?_) fun ρ ⟨⟨a2, a3, a4, a5, a6, a7, a8, a9, hρ⟩, hI⟩ => ?_
    · subst hρ
      have hxl : pre.length < ts.length := by rw [e]; simp
      have ht : ts[pre.length]? = some t := by rw [e]; simp
      refine ⟨rfl, ?_⟩
      refine ⟨by show 0 ≤ sizeLine; omega, ?_⟩
      refine ⟨by show 2 ≤ sizeLine; omega, ?_⟩
      refine for2 ?_
      refine side_use (s := false) hxl hl k0 k1 g0 t ht a6 a7 a8 a9 [] (by simp) _ fun b7 b8 b9 => ?_
      have l0 := foundS_len ts false pre.length
      refine side_use (s := true) hxl hl k0 k1 g1 t ht a6 b7 b8 b9 ([] ++ (foundS ts false pre.length).map fun (j : Nat) => (j : Int)) (by simp; omega) _ fun c7 c8 c9 => ?_
      generalize hF : ([] ++ (foundS ts false pre.length).map fun (j : Nat) => (j : Int)) ++ (foundS ts true pre.length).map (fun (j : Nat) => (j : Int)) = F
      have hmem : ∀ x ∈ F, ∃ j s, x = ((j : Nat) : Int) ∧ j ∈ foundS ts s pre.length := fun x hx => by
        rw [← hF] at hx
        simp only [List.nil_append, List.mem_append, List.mem_map] at hx
        rcases hx with ⟨j, h1, h2⟩ | ⟨j, h1, h2⟩
        · exact ⟨j, false, h2.symm, h1⟩
        · exact ⟨j, true, h2.symm, h1⟩
      show dIfS (dTest (dOp (opEq true) (dVar 5) (dLst dNil))) (dRet (dTup (dCons (dVar 2) (dCons (dCall fMin (dCons (dVar 5) dNil)) dNil)))) dNext _ [.val (.lst (ts.map encTd)), .val (.lst [.dct k0, .dct k1]), .val (.int (pre.length : Int)), .val (.int 1), .val (encTd t), .val (.lst (F.map D.int)), a6, c7, c8, c9]
      simp only [s_dIfS, s_dTest, s_dOp, s_dVar, s_dLst, s_dNil, List.getElem?_cons_succ, List.getElem?_cons_zero]
      refine ⟨Nat.zero_le _, ?_⟩
      rw [s_eq_l]
      refine ⟨⟨2, by omega, ?_, rfl⟩, ?_⟩
      · show D.nobs (F.map D.int) 1 = true
        exact nobs_ints F 1
      · cases F with
        | nil =>
          show dNext _ _
          refine ⟨⟨_, _, _, _, _, _, _, _, rfl⟩, fun i j hi hij hj s hb => ?_⟩
          simp only [List.length_append, List.length_cons, List.length_nil] at hi
          by_cases z : i < pre.length
          · exact hI i j z hij hj s hb
          · have : i = pre.length := by omega
            subst this
            have hm : j ∈ foundS ts s pre.length := found_iff.mpr ⟨hij, hj, hb⟩
            have : ((j : Nat) : Int) ∈ ([] ++ (foundS ts false pre.length).map fun (j : Nat) => (j : Int)) ++ (foundS ts true pre.length).map (fun (j : Nat) => (j : Int)) := by
              cases s with
              | false => exact List.mem_append_left _ (List.mem_append_right _ (List.mem_map.mpr ⟨j, hm, rfl⟩))
              | true => exact List.mem_append_right _ (List.mem_map.mpr ⟨j, hm, rfl⟩)
            rw [hF] at this
            cases this
        | cons f F =>
          have eb : (D.lst ((f :: F).map D.int)).eqb (.lst []) = false := by simp [D.eqb, D.eqbs]
          rw [eb]
          simp only [if_true, Bool.not_false, s_dRet, s_dTup, s_dCons, s_dVar, s_dCall, s_dNil, List.getElem?_cons_succ, List.getElem?_cons_zero]
          refine min_use (f :: F) (by simp) fun x hx => ?_
          obtain ⟨j, s, rfl, hj⟩ := hmem x hx
          obtain ⟨q1, q2, q3⟩ := found_iff.mp hj
          exact ⟨h2, hbad pre.length j s q1 q2 q3⟩
    · subst hρ
      show kk .non
      refine hno fun i j hij hj s hb => hI i j (by omega) hij hj s hb
end Dl
set_option Elab.async false
set_option linter.all false
set_option maxRecDepth 100000
set_option maxHeartbeats 2000000
namespace Dl
open PySem PySem.Spec PyProof.Rows L2
theorem eqO (neg : Bool) (x y : Option Int) (k : D → Prop) : opEq neg (encO x) (encO y) k = k (.bl (if neg then !decide (x = y) else decide (x = y))) := by
  cases x <;> cases y <;> cases neg <;> simp [encO]
theorem eqbs_ints : ∀ a b : List Int, D.eqbs (a.map D.int) (b.map D.int) = decide (a = b)
  | [], [] => by simp [D.eqbs]
  | [], _ :: _ => by simp [D.eqbs]
  | _ :: _, [] => by simp [D.eqbs]
  | x :: a, y :: b => by
    have := eqbs_ints a b
    simp only [List.map_cons, D.eqbs, D.eqb, this]
    refine Bool.eq_iff_iff.mpr ?_
    simp
theorem eq_ints (neg : Bool) (a b : List Int) (k : D → Prop) : opEq neg (.lst (a.map D.int)) (.lst (b.map D.int)) k = k (.bl (if neg then !decide (a = b) else decide (a = b))) := by
  rw [s_eq_l]
  have e : (D.lst (a.map D.int)).eqb (.lst (b.map D.int)) = decide (a = b) := by
    simp only [D.eqb]
    exact eqbs_ints a b
  rw [e]
  exact propext ⟨fun h => h.2, fun h => ⟨⟨2, by omega, nobs_ints a 1, nobs_ints b 1⟩, h⟩⟩
theorem max_if (i j : Int) : (if j > i then j else i) = max i j := by split <;> omega
theorem small_far {l : Scr} (h : Small l) : farS l ≤ 221 ∧ 1 ≤ farS l := by
  have h1 := h.near
  have h2 := bord_le h.all
  have h3 := (span_le h.toOk).1
  unfold farS
  omega
theorem many_le {l m : Scr} (hl : Small l) (hm : Small m) : 0 ≤ manyS l m ∧ manyS l m ≤ 354 := by
  have h1 := small_far hl
  have h2 := small_far hm
  have h3 := (span_le hl.toOk).1
  have h4 := (span_le hm.toOk).1
  have h5 := hl.near
  have h6 := hm.near
  obtain ⟨a1, a2, _⟩ := rnd_facts hl.all
  obtain ⟨b1, b2, _⟩ := rnd_facts hm.all
  obtain ⟨c1, c2, _⟩ := com_dvd a1 b1 a2 b2
  have c3 := dvd12_le c2 c1
  unfold manyS
  omega
def toldAt (l m : Scr) (i : Nat) : Told := ((fateL l i, blockL l (manyS l m) i), (fateL m i, blockL m (manyS l m) i))
theorem blkA_at {l m : Scr} {n : Nat} {s : Bool} {i : Nat} (h : i < n) : blkA ((List.range n).map (toldAt l m)) s i = blkS l m s (i : Int) := by
  unfold blkA blkS
  rw [List.getElem?_map, List.getElem?_range h]
  rfl
def sp_parting : DSp := fun R ds kk => ∃ l m : Scr, ds = [encC l, encC m] ∧ Small l ∧ Small m ∧ ∀ p, IsPart l m p → kk (encPart p)
theorem len_parting (R : Res) (ds : List D) (kk : D → Prop) (h : sp_parting R ds kk) : ds.length = 2 := by obtain ⟨d, e, rfl, h⟩ := h; rfl
theorem part_use {l m : Scr} {kk : D → Prop} (hl : Small l) (hm : Small m) (h : ∀ p, IsPart l m p → kk (encPart p)) (hn : newsL l (manyS l m) = newsL m (manyS l m)) (ht : ∀ d, 0 ≤ d → d < manyS l m → ¬ Tells l m d) (R : Res) :
    sp_parted_by_two R [.lst (((List.range (manyS l m).toNat).map (toldAt l m)).map encTd)] kk := by
  have hM := many_le hl hm
  refine ⟨_, rfl, by simp; omega, fun hno => ?_, fun i j s hij hj hb => ?_⟩
  · refine h .no ⟨hn, ht, fun i j h0 hij hj hb => ?_⟩
    obtain ⟨side, b1, b2, b3⟩ := hb
    obtain ⟨i, rfl⟩ := Int.eq_ofNat_of_zero_le h0
    obtain ⟨j, rfl⟩ := Int.eq_ofNat_of_zero_le (show 0 ≤ j by omega)
    refine hno i j (by omega) (by simp; omega) side ?_
    unfold BadA
    rw [blkA_at (by omega), blkA_at (by omega), blkA_at (by omega), blkA_at (by omega)]
    exact ⟨b1, b2, b3⟩
  · simp at hj
    refine h (.two i j) ⟨hn, ht, ⟨by omega, by omega, by omega⟩, s, ?_⟩
    unfold BadA at hb
    rw [blkA_at (by omega), blkA_at (by omega), blkA_at (by omega), blkA_at (by omega)] at hb
    exact hb
/-- parting: slots 0 one 1 other 2 many 3 date 4 first 5 second 6 told 7 pair -/
abbrev d_parting (m : Pm) (R : Res) : TdS := dSeq (dAsg 2 (dOp opAdd (dOp opAdd (dOp opAdd (dCall fMax (dCons (dCall (sp_far R) (dCons (dVar 0) (dNil))) (dCons (dCall (sp_far R) (dCons (dVar 1) (dNil))) (dNil)))) (dOp opMul (dC (.int 2)) (dCall fMax (dCons (dCall (sp_span R) (dCons (dVar 0) (dNil))) (dCons (dCall (sp_span R) (dCons (dVar 1) (dNil))) (dNil)))))) (dCall (sp_common R) (dCons (dMeth 1 (sp_Script_size R) (dVar 0) dNil) (dCons (dMeth 1 (sp_Script_size R) (dVar 1) dNil) (dNil))))) (dC (.int 1)))) (dSeq (dPar3 4 5 6 (dVal (dCall (sp_Side_init R) (dCons (dVar 0) (dCons (dVar 2) (dNil))))) (dVal (dCall (sp_Side_init R) (dCons (dVar 1) (dCons (dVar 2) (dNil))))) (dOwn (dNil))) (dSeq (dIfS (dTest (dOp (opEq true) (dFld 2 2 (dVar 4)) (dFld 2 2 (dVar 5)))) (dRet (dTup (dNil))) (dNext)) (dSeq (dFor (dRng1 (dCons (dVar 2) (dNil))) (dgName 3) (dSeq (dAsg 7 (dTup (dCons (dMeth 2 (sp_Side_told R) (dVar 4) (dCons (dVar 3) (dNil))) (dCons (dMeth 2 (sp_Side_told R) (dVar 5) (dCons (dVar 3) (dNil))) (dNil))))) (dSeq (dIfS (dOr (dTest (dOp (opEq true) (dOp opIx (dOp opIx (dVar 7) (dC (.int 0))) (dC (.int 0))) (dOp opIx (dOp opIx (dVar 7) (dC (.int 1))) (dC (.int 0))))) (dTest (dOp (opEq true) (dOp (opIs false) (dOp opIx (dOp opIx (dVar 7) (dC (.int 0))) (dC (.int 1))) (dC .non)) (dOp (opIs false) (dOp opIx (dOp opIx (dVar 7) (dC (.int 1))) (dC (.int 1))) (dC .non))))) (dRet (dTup (dCons (dVar 3) (dNil)))) (dNext)) (dApp 6 (dVar 7))))) (dFrz 6 (dRet (dCall (sp_parted_by_two R) (dCons (dVar 6) (dNil))))))))
theorem law_parting (m : Pm) (R : Res) (ds : List D) (kk : D → Prop) (h : sp_parting R ds kk) : d_parting m R { nx := fun _ => kk .non, rt := kk } (startD 8 ds) := by
  obtain ⟨l, m2, rfl, hl, hm2, h⟩ := h
  have hH := huge
  have hM := many_le hl hm2
  have h2 : 2 ≤ sizeLine := by omega
  have h1 : 1 ≤ sizeLine := by omega
  obtain ⟨a1, a2, _⟩ := rnd_facts hl.all
  obtain ⟨b1, b2, _⟩ := rnd_facts hm2.all
  have a3 := dvd12_le a2 a1
  have b3 := dvd12_le b2 b1
  simp [startD]
  refine ⟨l, rfl, hl.toOk, m2, rfl, hm2.toOk, ?_⟩
  simp
  refine ⟨l, rfl, hl.toOk, m2, rfl, hm2.toOk, ?_⟩
  simp [encC]
  refine ⟨.inl ⟨by omega, by omega⟩, l, rfl, hl.toOk, ?_⟩
  refine ⟨m2, rfl, hm2.toOk, _, _, rfl, ⟨a1, by omega⟩, ⟨b1, by omega⟩, ?_⟩
  have eM : (if farS l < farS m2 then farS m2 else farS l) + (2 * if spanS l < spanS m2 then spanS m2 else spanS l) + com (rndS l) (rndS m2) + 1 = manyS l m2 := by
    unfold manyS
    split <;> split <;> omega
  simp only [s_add_i, eM]
  refine ⟨l, _, rfl, hl.toOk, by omega, by omega, fun d1 hd1 => ?_⟩
  refine ⟨m2, _, rfl, hm2.toOk, by omega, by omega, fun d2 hd2 => ?_⟩
  have hd1' := hd1
  have hd2' := hd2
  obtain ⟨v1, rfl, w1⟩ := hd1
  obtain ⟨v2, rfl, w2⟩ := hd2
  refine ⟨rfl, ?_⟩
  simp only [List.getElem?_cons_succ, List.getElem?_cons_zero]
  refine ⟨by trivial, ?_⟩
  rw [eq_ints]
  by_cases hn : newsL l (manyS l m2) = newsL m2 (manyS l m2)
  · simp [hn]
    refine ⟨by omega, ?_⟩
    show ForB (dgName 3) _ _ [.val (.ins 1 [.tup (l.map encS)]), .val (.ins 1 [.tup (m2.map encS)]), .val (.int (manyS l m2)), .no, .val (.ins 2 [encC l, .dct v1, .lst ((newsL m2 (manyS l m2)).map D.int)]), .val (.ins 2 [encC m2, .dct v2, .lst ((newsL m2 (manyS l m2)).map D.int)]), .own [], .no] ((List.range (manyS l m2).toNat).map fun (i : Nat) => D.int (0 + (i : Int)))
    rw [← hn]
    refine forMap (List.range (manyS l m2).toNat) _ (fun pre ρ => (∃ s3 s7, ρ = [.val (.ins 1 [.tup (l.map encS)]), .val (.ins 1 [.tup (m2.map encS)]), .val (.int (manyS l m2)), s3, .val (.ins 2 [encC l, .dct v1, .lst ((newsL l (manyS l m2)).map D.int)]), .val (.ins 2 [encC m2, .dct v2, .lst ((newsL l (manyS l m2)).map D.int)]), .own ((pre.map (toldAt l m2)).map encTd), s7]) ∧ ∀ i ∈ pre, ¬ Tells l m2 ((i : Nat) : Int)) ⟨⟨_, _, rfl⟩, fun i hi => by cases hi⟩ (fun pre x post e ρ ⟨⟨s3, s7, hρ⟩, hI⟩ => ?_) fun ρ ⟨⟨s3, s7, hρ⟩, hI⟩ => ?_
    · subst hρ
      obtain ⟨hx, hxl⟩ := range_at e
      have hpl : pre.length < 400 := by omega
      have e0 : (0 : Int) + (x : Int) = (x : Int) := by omega
      rw [e0]
      simp only [s_dgName, s_dSeq, s_dAsg, s_dTup, s_dCons, s_dNil, s_dMeth, s_dVar, List.set_cons_succ, List.set_cons_zero, List.getElem?_cons_succ, List.getElem?_cons_zero]
      refine ⟨by trivial, ?_⟩
      refine ⟨_, l, manyS l m2, x, rfl, hd1', hl.toOk, by omega, ?_⟩
      refine ⟨by trivial, ?_⟩
      refine ⟨_, m2, manyS l m2, x, rfl, by rw [hn]; exact ⟨v2, rfl, w2⟩, hm2.toOk, by omega, ?_⟩
      refine ⟨by show 2 ≤ sizeLine; omega, ?_⟩
      simp only [s_dIfS, s_dOr, s_dTest, s_dOp, s_dVar, s_dC, s_ix_t, atI0, atI1, List.set_cons_succ, List.set_cons_zero, List.getElem?_cons_succ, List.getElem?_cons_zero, eqO, isB, s_eq_b]
      by_cases hf : fateL l (x : Int) = fateL m2 (x : Int)
      · by_cases hb : (blockL l (manyS l m2) (x : Int)).isNone = (blockL m2 (manyS l m2) (x : Int)).isNone
        · have hT : ¬ Tells l m2 (x : Int) := fun z => z.elim (fun y => y hf) fun y => y hb
          simp [hf, hb]
          refine ⟨by omega, ?_, fun i hi => ?_⟩
          · simp [toldAt, encTd, encT1, hf]
          · rcases hi with hi | hi
            · exact hI i hi
            · subst hi
              exact hT
        · simp [hf, hb]
          exact ⟨h1, h (.one x) ⟨hn, ⟨by omega, by omega⟩, .inr hb⟩⟩
      · simp [hf]
        exact ⟨h1, h (.one x) ⟨hn, ⟨by omega, by omega⟩, .inl hf⟩⟩
    · subst hρ
      simp only [s_dFrz, List.getElem?_cons_succ, List.getElem?_cons_zero]
      refine part_use hl hm2 h hn (fun d h0 hd => ?_) R
      have := hI d.toNat (by simp; omega)
      rw [Int.toNat_of_nonneg h0] at this
      exact this
  · simp [hn]
    exact h .news hn
def sp_alike : DSp := fun R ds kk => ∃ l m : Scr, ds = [encC l, encC m] ∧ Small l ∧ Small m ∧ (Alk l m → kk (.bl true)) ∧ (¬ Alk l m → kk (.bl false))
theorem len_alike (R : Res) (ds : List D) (kk : D → Prop) (h : sp_alike R ds kk) : ds.length = 2 := by obtain ⟨d, e, rfl, h⟩ := h; rfl
/-- alike: slots 0 one 1 other -/
abbrev d_alike (m : Pm) (R : Res) : TdS := dRet (dOp (opIs false) (dCall (sp_parting R) (dCons (dVar 0) (dCons (dVar 1) (dNil)))) (dC .non))
theorem law_alike (m : Pm) (R : Res) (ds : List D) (kk : D → Prop) (h : sp_alike R ds kk) : d_alike m R { nx := fun _ => kk .non, rt := kk } (startD 2 ds) := by
  obtain ⟨l, m2, rfl, hl, hm2, h1, h2⟩ := h
  simp [startD]
  refine ⟨l, m2, rfl, hl, hm2, fun p hp => ?_⟩
  have no : (∃ d, p = .one d) ∨ p = .news ∨ (∃ i j, p = .two i j) → ¬ Alk l m2 := fun hh ha => by
    obtain ⟨a1, a2, a3⟩ := ha
    rcases hh with ⟨d, rfl⟩ | rfl | ⟨i, j, rfl⟩
    · obtain ⟨_, b2, b3⟩ := hp
      exact a2 d b2.1 b2.2 b3
    · exact hp a1
    · obtain ⟨_, _, b3, b4⟩ := hp
      exact a3 i j b3.1 b3.2.1 b3.2.2 b4
  cases p with
  | no => exact h1 hp
  | news => exact h2 (no (.inr (.inl rfl)))
  | one d => exact h2 (no (.inl ⟨d, rfl⟩))
  | two i j => exact h2 (no (.inr (.inr ⟨i, j, rfl⟩)))
def sp_idle_steps : DSp := fun R ds kk => ∃ l : Scr, ds = [encC l] ∧ Small l ∧ (∀ i, i < l.length → ¬ Alk l (l.take i ++ l.drop (i + 1))) ∧ kk (.lst [])
theorem len_idle_steps (R : Res) (ds : List D) (kk : D → Prop) (h : sp_idle_steps R ds kk) : ds.length = 1 := by obtain ⟨d, rfl, h⟩ := h; rfl
theorem span_sub {k l : Scr} (hl : ∀ s ∈ l, s.Ok) (s : List.Sublist k l) : spanS k ≤ spanS l := by
  have key : ∀ {k l : Scr}, List.Sublist k l → (∀ s ∈ l, s.Ok) → ((flatS k).map Stp.abs).sum ≤ ((flatS l).map Stp.abs).sum := by
    intro k l s
    induction s with
    | slnil => intro _; exact Int.le_refl _
    | cons a s ih =>
      intro h
      have h1 := ih fun t ht => h t (List.mem_cons_of_mem _ ht)
      have h2 := sum_le a.flat fun t ht => by
        have := flat_ok (l := [a]) (fun q hq => h q (by simp at hq; subst hq; exact List.mem_cons_self)) t (by simpa [flatS] using ht)
        exact this
      simp only [flatS, List.flatMap_cons, List.map_append, List.sum_append] at h1 ⊢
      omega
    | cons_cons a s ih =>
      intro h
      have h1 := ih fun t ht => h t (List.mem_cons_of_mem _ ht)
      simp only [flatS, List.flatMap_cons, List.map_append, List.sum_append] at h1 ⊢
      omega
  exact key s hl
theorem Small.sub {k l : Scr} (h : Small l) (s : List.Sublist k l) : Small k := ⟨h.toOk.sub s, Int.le_trans (span_sub h.all s) h.near⟩
theorem erase_sub (l : Scr) (i : Nat) : List.Sublist (l.take i ++ l.drop (i + 1)) l := by
  rw [← List.eraseIdx_eq_take_drop_succ]
  exact List.eraseIdx_sublist l i
/-- idle_steps: slots 0 changes 1 at -/
abbrev d_idle_steps (m : Pm) (R : Res) : TdS := dRet (dLc (dRng1 (dCons (dCall (fLenO 1 (sp_Script_len R)) (dCons (dVar 0) (dNil))) (dNil))) (dgName 1) (dTest (dCall (sp_alike R) (dCons (dVar 0) (dCons (dMeth 1 (sp_Script_without R) (dVar 0) (dCons (dVar 1) (dNil))) (dNil))))) (dVar 1) [1])
theorem law_idle_steps (m : Pm) (R : Res) (ds : List D) (kk : D → Prop) (h : sp_idle_steps R ds kk) : d_idle_steps m R { nx := fun _ => kk .non, rt := kk } (startD 2 ds) := by
  obtain ⟨l, rfl, hl, hno, h⟩ := h
  have hH := huge
  have hlen : l.length ≤ 12 := Nat.le_trans (len_le_flat l) hl.few
  simp [startD, encC]
  refine ⟨l, rfl, ?_⟩
  simp
  refine ⟨by omega, by omega, ?_⟩
  show LcB _ _ _ _ _ ((List.range l.length).map fun (i : Nat) => D.int (0 + (i : Int))) _
  refine lcMap (List.range l.length) _ (fun _ => false) (fun _ => .non) (fun i hi Kt Kf ht hf => ?_) (by simp; omega) ?_
  · simp at hi
    simp [wipeR]
    refine ⟨l, i, rfl, hi, hl.toOk, ?_⟩
    exact ⟨l, _, rfl, hl, hl.sub (erase_sub l i), fun z => absurd z (hno i hi), fun _ => hf rfl⟩
  · have e : (List.range l.length).filter (fun _ => false) = [] := by simp
    rw [e]
    exact h
def sp_tuples_below : DSp := fun R ds kk => ∃ n : Nat, ds = [.int (n : Int)] ∧ n ≤ 12 ∧ ∀ L : List (List Nat), L.Perm (lots n) → L.Pairwise (fun a b => a.length ≤ b.length) → kk (.lst (L.map encLot))
theorem len_tuples_below (R : Res) (ds : List D) (kk : D → Prop) (h : sp_tuples_below R ds kk) : ds.length = 1 := by obtain ⟨d, rfl, h⟩ := h; rfl
theorem lots_len : ∀ n, (lots n).length = 2 ^ n
  | 0 => rfl
  | n + 1 => by
    simp only [lots, List.length_append, List.length_map, lots_len n]
    omega
theorem lot_len : ∀ (n : Nat), ∀ x ∈ lots n, x.length ≤ n
  | 0, x, h => by
    simp [lots] at h
    subst h
    simp
  | n + 1, x, h => by
    simp only [lots, List.mem_append, List.mem_map] at h
    rcases h with h | ⟨y, hy, rfl⟩
    · have := lot_len n x h
      omega
    · have := lot_len n y hy
      simp
      omega
/-- (len(lot), lot) -/
def encLL (x : List Nat) : D := .tup [.int (x.length : Int), encLot x]
def leL (a b : List Nat) : Bool := leD (encLL a) (encLL b)
theorem toP_lot (x : List Nat) : (encLL x).toP = .tuple [.int (x.length : Int), .tuple (x.map fun (i : Nat) => PyData.int (i : Int))] := by
  have : ∀ l : List Nat, D.toPs (l.map fun (i : Nat) => D.int (i : Int)) = l.map fun (i : Nat) => PyData.int (i : Int) := fun l => by
    induction l with
    | nil => rfl
    | cons i l ih => simp [D.toPs, D.toP, ih]
  simp [encLL, encLot, D.toP, D.toPs, this]
theorem alike_nats (a b : List Nat) : PySem.W.alikeAll (a.map fun (i : Nat) => PyData.int (i : Int)) (b.map fun (i : Nat) => PyData.int (i : Int)) = true := by
  have := PySem.W.alike_ints (a.map fun (i : Nat) => (i : Int)) (b.map fun (i : Nat) => (i : Int))
  simpa [List.map_map, Function.comp_def] using this
theorem leL_len {a b : List Nat} (h : leL a b = true) : a.length ≤ b.length := by
  unfold leL leD at h
  rw [PySem.W.dataLe_eq] at h
  simp only [toP_lot, cond_false] at h
  rw [PySem.W.dataLt_pair (by simp [PySem.W.alike]) (by simp [PySem.W.alike, alike_nats])] at h
  by_cases e : PyData.eqv (.int (b.length : Int)) (.int (a.length : Int)) = true
  · simp [PyData.eqv] at e
    omega
  · rw [if_neg e, PySem.W.dataLt_int] at h
    simp at h
    omega
theorem lt_irr (x : PyData) : PySem.W.dataLt x x = false := PyProof.Rows.lex_irrefl _
theorem lt_tr {x y z : PyData} (h1 : PySem.W.dataLt x y = true) (h2 : PySem.W.dataLt y z = true) : PySem.W.dataLt x z = true := PyProof.Rows.lex_trans _ _ _ h1 h2
theorem lt_neg {x y z : PyData} (h : PySem.W.dataLt x z = true) : PySem.W.dataLt x y = true ∨ PySem.W.dataLt y z = true := PyProof.Rows.lex_negTrans _ _ _ h
theorem leD_iff (a b : D) : leD a b = !PySem.W.dataLt b.toP a.toP := by
  unfold leD
  rw [PySem.W.dataLe_eq]
  rfl
theorem leD_tot (a b : D) : (leD a b || leD b a) = true := by
  rw [leD_iff, leD_iff]
  cases h : PySem.W.dataLt b.toP a.toP with
  | false => rfl
  | true =>
    cases h2 : PySem.W.dataLt a.toP b.toP with
    | false => rfl
    | true =>
      have := lt_tr h h2
      rw [lt_irr] at this
      cases this
theorem leD_tr (a b c : D) (h1 : leD a b = true) (h2 : leD b c = true) : leD a c = true := by
  rw [leD_iff] at h1 h2 ⊢
  cases h : PySem.W.dataLt c.toP a.toP with
  | false => rfl
  | true =>
    rcases lt_neg (y := b.toP) h with z | z
    · rw [z] at h2
      cases h2
    · rw [z] at h1
      cases h1
theorem s_sorted_L {k : D → Prop} (l : List (List Nat)) (h : ∀ L : List (List Nat), L.Perm l → L.Pairwise (fun a b => a.length ≤ b.length) → k (.lst (L.map encLL))) : fSorted [.lst (l.map encLL)] k := by
  refine ⟨nobs_map (fun x => ?_) l, ?_, ?_, ?_⟩
  · have : ∀ (l : List Nat) (n : Nat), D.nobs (l.map fun (i : Nat) => D.int (i : Int)) n = true := fun l n => nobs_map (enc := fun (i : Nat) => D.int (i : Int)) (fun _ => rfl) l
    show (true && (D.nobs (x.map fun (i : Nat) => D.int (i : Int)) 2 && true)) = true
    rw [this]
    rfl
  · rw [List.map_map]
    refine PySem.W.AllAlike.of fun a b => ?_
    show PySem.W.alike (encLL a).toP (encLL b).toP = true
    rw [toP_lot, toP_lot]
    simp [PySem.W.alike, PySem.W.alikeAll, alike_nats]
  · rw [List.map_map]
    refine PySem.W.Sortable.tuples fun a => ?_
    show ∃ x r, (encLL a).toP = _
    rw [toP_lot]
    exact ⟨_, _, rfl⟩
  · have e : (l.map encLL).mergeSort leD = (l.mergeSort leL).map encLL := by
      rw [List.map_mergeSort (s := leD)]
      intro a _ b _
      rfl
    rw [e]
    refine h _ (List.mergeSort_perm l leL) ?_
    refine (List.pairwise_mergeSort (le := leL) (fun a b c h1 h2 => leD_tr _ _ _ h1 h2) (fun a b => leD_tot _ _) l).imp fun hh => leL_len hh
/-- tuples_below: slots 0 many 1 found 2 number 3 size 4 lot -/
abbrev d_tuples_below (m : Pm) (R : Res) : TdS := dSeq (dAsg 1 (dLst (dCons (dTup (dNil)) (dNil)))) (dSeq (dFor (dRng1 (dCons (dVar 0) (dNil))) (dgName 2) (dAsg 1 (dLst (dStar (dVar 1) (dStar (dLc (dIter (dVar 1)) (dgName 4) (dYes) (dTup (dStar (dVar 4) (dCons (dVar 2) (dNil)))) [4]) (dNil)))))) (dRet (dLc (dIter (dCall fSorted (dCons (dLc (dIter (dVar 1)) (dgName 4) (dYes) (dTup (dCons (dCall fLen (dCons (dVar 4) (dNil))) (dCons (dVar 4) (dNil)))) [4]) (dNil)))) (dgTup [3, 4]) (dYes) (dVar 4) [3, 4])))
theorem law_tuples_below (m : Pm) (R : Res) (ds : List D) (kk : D → Prop) (h : sp_tuples_below R ds kk) : d_tuples_below m R { nx := fun _ => kk .non, rt := kk } (startD 5 ds) := by
  obtain ⟨n, rfl, hn, h⟩ := h
  have hH := huge
  have h1 : 1 ≤ sizeLine := by omega
  have h2 : 2 ≤ sizeLine := by omega
  simp [startD, h1]
  refine ⟨by omega, ?_⟩
  show ForB _ _ _ _ ((List.range n).map fun (i : Nat) => D.int (0 + (i : Int)))
  refine forMap (List.range n) _ (fun pre ρ => ∃ s2 s3 s4, ρ = [.val (.int (n : Int)), .val (.lst ((lots pre.length).map encLot)), s2, s3, s4]) ⟨_, _, _, rfl⟩ (fun pre x post e ρ ⟨s2, s3, s4, hρ⟩ => ?_) fun ρ ⟨s2, s3, s4, hρ⟩ => ?_
  · subst hρ
    obtain ⟨hx, hxn⟩ := range_at e
    subst hx
    have hp : (lots pre.length).length ≤ 4096 := by
      rw [lots_len]
      calc 2 ^ pre.length ≤ 2 ^ 12 := Nat.pow_le_pow_right (by omega) (by omega)
        _ = 4096 := by decide
    have e0 : (0 : Int) + (pre.length : Int) = (pre.length : Int) := by omega
    rw [e0]
    simp
    refine lcAll (lots pre.length) encLot (fun y => encLot (y ++ [pre.length])) (fun y hy Kt ht => ?_) (by omega) ?_
    · have := lot_len _ y hy
      simp [wipeR, encLot] at ht ⊢
      exact ⟨by omega, ht⟩
    · simp
      refine ⟨by omega, ?_⟩
      simp [lots, List.map_map, Function.comp_def]
  · subst hρ
    have hp : (lots n).length ≤ 4096 := by
      rw [lots_len]
      calc 2 ^ n ≤ 2 ^ 12 := Nat.pow_le_pow_right (by omega) (by omega)
        _ = 4096 := by decide
    rw [List.length_range]
    simp
    refine lcAll (lots n) encLot encLL (fun y hy Kt ht => ?_) (by omega) ?_
    · simp [wipeR, encLot, h2] at ht ⊢
      simpa [encLL, encLot] using ht
    · refine s_sorted_L (lots n) fun L hL hp2 => ?_
      have hl := hL.length_eq
      refine lcAll L encLL encLot (fun y hy Kt ht => ?_) (by omega) (h L hL hp2)
      simp [wipeR, encLL]
      exact ht
def sp_cut_down : DSp := fun R ds kk => ∃ l : Scr, ds = [encC l] ∧ Small l ∧ l.length ≤ 8 ∧ ∀ lot ∈ lots l.length, Alk l (pick l lot) → (∀ lot2 ∈ lots l.length, lot2.length < lot.length → ¬ Alk l (pick l lot2)) → kk (encLot lot)
theorem len_cut_down (R : Res) (ds : List D) (kk : D → Prop) (h : sp_cut_down R ds kk) : ds.length = 1 := by obtain ⟨d, rfl, h⟩ := h; rfl
theorem alk_refl (l : Scr) : Alk l l := by
  refine ⟨rfl, fun d _ _ z => z.elim (fun y => y rfl) fun y => y rfl, fun i j _ _ _ hb => ?_⟩
  obtain ⟨s, b1, b2, b3⟩ := hb
  unfold blkS at b2 b3
  simp at b2 b3
  exact b3 b2
theorem range_lot : ∀ n, List.range n ∈ lots n
  | 0 => by simp [lots]
  | n + 1 => by
    simp only [lots, List.mem_append, List.mem_map]
    exact .inr ⟨List.range n, range_lot n, by rw [List.range_succ]⟩
theorem lot_lt : ∀ (n : Nat), ∀ x ∈ lots n, ∀ i ∈ x, i < n
  | 0, x, h, i, hi => by
    simp [lots] at h
    subst h
    cases hi
  | n + 1, x, h, i, hi => by
    simp only [lots, List.mem_append, List.mem_map] at h
    rcases h with h | ⟨y, hy, rfl⟩
    · have := lot_lt n x h i hi
      omega
    · rcases List.mem_append.mp hi with hi | hi
      · have := lot_lt n y hy i hi
        omega
      · simp at hi
        omega
theorem pick_sub (l : Scr) : ∀ (n : Nat), n ≤ l.length → ∀ x ∈ lots n, List.Sublist (pick l x) (l.take n)
  | 0, _, x, h => by
    simp [lots] at h
    subst h
    exact List.nil_sublist _
  | n + 1, hn, x, h => by
    have e : l.take (n + 1) = l.take n ++ [l[n]'(by omega)] := by rw [List.take_add_one, List.getElem?_eq_getElem (by omega)]; rfl
    simp only [lots, List.mem_append, List.mem_map] at h
    rw [e]
    rcases h with h | ⟨y, hy, rfl⟩
    · exact (pick_sub l n (by omega) x h).trans (List.sublist_append_left _ _)
    · have h1 := pick_sub l n (by omega) y hy
      have e2 : pick l (y ++ [n]) = pick l y ++ [l[n]'(by omega)] := by
        unfold pick
        rw [List.filterMap_append]
        simp [List.getElem?_eq_getElem (show n < l.length by omega)]
      rw [e2]
      exact h1.append (List.Sublist.refl _)
theorem pick_range (l : Scr) : pick l (List.range l.length) = l := by
  have key : ∀ n, n ≤ l.length → pick l (List.range n) = l.take n := fun n => by
    induction n with
    | zero => intro _; rfl
    | succ n ih =>
      intro hn
      have e : l.take (n + 1) = l.take n ++ [l[n]'(by omega)] := by rw [List.take_add_one, List.getElem?_eq_getElem (by omega)]; rfl
      rw [List.range_succ, e, ← ih (by omega)]
      unfold pick
      rw [List.filterMap_append]
      simp [List.getElem?_eq_getElem (show n < l.length by omega)]
  rw [key _ (Nat.le_refl _), List.take_length]
/-- cut_down: slots 0 changes 1 lot 2 at -/
abbrev d_cut_down (m : Pm) (R : Res) : TdS := dSeq (dIfS (dTest (dOp (opI0 fun i j => .bl (decide (j < i))) (dCall (fLenO 1 (sp_Script_len R)) (dCons (dVar 0) (dNil))) (dC (.int 8)))) (dNever) (dNext)) (dSeq (dFor (dIter (dCall (sp_tuples_below R) (dCons (dCall (fLenO 1 (sp_Script_len R)) (dCons (dVar 0) (dNil))) (dNil)))) (dgName 1) (dIfS (dTest (dCall (sp_alike R) (dCons (dVar 0) (dCons (dCall (sp_Script_init R) (dCons (dLc (dIter (dVar 1)) (dgName 2) (dYes) (dOp (opIxO 1 (sp_Script_getitem R)) (dVar 0) (dVar 2)) [2]) (dNil))) (dNil))))) (dRet (dVar 1)) (dNext))) (dNever))
theorem law_cut_down (m : Pm) (R : Res) (ds : List D) (kk : D → Prop) (h : sp_cut_down R ds kk) : d_cut_down m R { nx := fun _ => kk .non, rt := kk } (startD 3 ds) := by
  obtain ⟨l, rfl, hl, h8, h⟩ := h
  have hH := huge
  simp [startD, encC]
  refine ⟨l, rfl, ?_⟩
  simp
  refine ⟨by omega, by omega, ?_⟩
  refine ⟨l, rfl, ?_⟩
  simp
  refine ⟨by omega, ?_⟩
  refine ⟨l.length, rfl, by omega, fun L hL hp => ?_⟩
  simp
  refine forMap L encLot (fun pre ρ => (∃ s1 s2, ρ = [.val (.ins 1 [.tup (l.map encS)]), s1, s2]) ∧ ∀ x ∈ pre, ¬ Alk l (pick l x)) ⟨⟨_, _, rfl⟩, fun x hx => by cases hx⟩ (fun pre x post e ρ ⟨⟨s1, s2, hρ⟩, hI⟩ => ?_) fun ρ ⟨⟨s1, s2, hρ⟩, hI⟩ => ?_
  · subst hρ
    have hx : x ∈ lots l.length := hL.mem_iff.mp (by rw [e]; simp)
    have hs : List.Sublist (pick l x) l := by
      have := pick_sub l l.length (Nat.le_refl _) x hx
      rwa [List.take_length] at this
    have hxl := lot_len _ x hx
    simp [encLot]
    refine lcAll x (fun (i : Nat) => D.int (i : Int)) (fun i => ((l[i]?).map encS).getD .non) (fun i hi Kt ht => ?_) (by omega) ?_
    · have hil := lot_lt _ x hx i hi
      simp [wipeR]
      refine ⟨l, i, l[i], rfl, List.getElem?_eq_getElem hil, ?_⟩
      rw [List.getElem?_eq_getElem hil] at ht
      exact ht
    · have e2 : x.map (fun i => ((l[i]?).map encS).getD .non) = (pick l x).map encS := by
        have : ∀ y : List Nat, (∀ i ∈ y, i < l.length) → y.map (fun i => ((l[i]?).map encS).getD .non) = (pick l y).map encS := fun y => by
          induction y with
          | nil => intro _; rfl
          | cons i y ih =>
            intro hy
            have h1 := ih fun j hj => hy j (List.mem_cons_of_mem _ hj)
            have h2 := hy i List.mem_cons_self
            unfold pick at h1 ⊢
            simp [List.getElem?_eq_getElem h2, h1]
        exact this x fun i hi => lot_lt _ x hx i hi
      rw [e2]
      refine ⟨_, pick l x, rfl, .inl rfl, hl.toOk.sub hs, ?_⟩
      refine ⟨l, pick l x, rfl, hl, hl.sub hs, fun ha => ?_, fun hna => ?_⟩
      · simp
        refine h x hx ha fun y hy hlt ha2 => ?_
        have hyL : y ∈ L := hL.mem_iff.mpr hy
        rw [e] at hyL hp
        rcases List.mem_append.mp hyL with q | q
        · exact hI y q ha2
        · rcases List.mem_cons.mp q with q | q
          · subst q
            omega
          · have := (List.pairwise_append.mp hp).2.1
            have := (List.pairwise_cons.mp this).1 y q
            omega
      · simp
        intro y hy
        rcases hy with hy | hy
        · exact hI y hy
        · subst hy
          exact hna
  · exact absurd (by rw [pick_range]; exact alk_refl l) (hI (List.range l.length) (hL.mem_iff.mpr (range_lot _)))
end Dl
set_option Elab.async false
set_option linter.all false
set_option maxRecDepth 100000
set_option maxHeartbeats 2000000
/-! How far a day moves; how many new things stand on a day. -/
namespace Dl
open PySem PySem.Spec PyProof.Rows L2
/-! movement -/
def Pl.up : Pl → Int
  | .shift i => if 0 ≤ i then i else 0
  | _ => 0
def Pl.dn : Pl → Int
  | .shift i => if 0 ≤ i then 0 else -i
  | _ => 0
def upP (l : List Pl) : Int := (l.map Pl.up).sum
def dnP (l : List Pl) : Int := (l.map Pl.dn).sum
def Stp.up : Stp → Int
  | .pl p => p.up
  | .add _ _ _ => 0
  | .since _ l => upP l
def Stp.dn : Stp → Int
  | .pl p => p.dn
  | .add _ _ _ => 0
  | .since _ l => dnP l
def upS (l : Scr) : Int := (l.map Stp.up).sum
def dnS (l : Scr) : Int := (l.map Stp.dn).sum
theorem Pl.up_nn (p : Pl) : 0 ≤ p.up := by
  cases p <;> simp [Pl.up]
  split <;> omega
theorem Pl.dn_nn (p : Pl) : 0 ≤ p.dn := by
  cases p <;> simp [Pl.dn]
  split <;> omega
theorem upP_nn (l : List Pl) : 0 ≤ upP l := by
  induction l with
  | nil => simp [upP]
  | cons p l ih => have := p.up_nn; simp only [upP, List.map_cons, List.sum_cons] at ih ⊢; omega
theorem dnP_nn (l : List Pl) : 0 ≤ dnP l := by
  induction l with
  | nil => simp [dnP]
  | cons p l ih => have := p.dn_nn; simp only [dnP, List.map_cons, List.sum_cons] at ih ⊢; omega
theorem Stp.up_nn (s : Stp) : 0 ≤ s.up := by
  cases s with
  | pl p => exact p.up_nn
  | add r a b => simp [Stp.up]
  | since c l => exact upP_nn l
theorem Stp.dn_nn (s : Stp) : 0 ≤ s.dn := by
  cases s with
  | pl p => exact p.dn_nn
  | add r a b => simp [Stp.dn]
  | since c l => exact dnP_nn l
theorem upS_nn (l : Scr) : 0 ≤ upS l := by
  induction l with
  | nil => simp [upS]
  | cons p l ih => have := p.up_nn; simp only [upS, List.map_cons, List.sum_cons] at ih ⊢; omega
theorem dnS_nn (l : Scr) : 0 ≤ dnS l := by
  induction l with
  | nil => simp [dnS]
  | cons p l ih => have := p.dn_nn; simp only [dnS, List.map_cons, List.sum_cons] at ih ⊢; omega
theorem upS_app (a b : Scr) : upS (a ++ b) = upS a + upS b := by simp [upS, List.sum_append]
theorem dnS_app (a b : Scr) : dnS (a ++ b) = dnS a + dnS b := by simp [dnS, List.sum_append]
theorem upP_cons (p : Pl) (l : List Pl) : upP (p :: l) = p.up + upP l := by simp [upP]
theorem dnP_cons (p : Pl) (l : List Pl) : dnP (p :: l) = p.dn + dnP l := by simp [dnP]
theorem upS_cons (p : Stp) (l : Scr) : upS (p :: l) = p.up + upS l := by simp [upS]
theorem dnS_cons (p : Stp) (l : Scr) : dnS (p :: l) = p.dn + dnS l := by simp [dnS]
theorem abs_up (p : Pl) : p.abs = p.up + p.dn := by
  cases p <;> simp [Pl.abs, Pl.up, Pl.dn]
  split <;> omega
theorem tot_stp (s : Stp) : (s.flat.map Stp.abs).sum = s.up + s.dn := by
  cases s with
  | pl p => simp [Stp.flat, Stp.abs, Stp.up, Stp.dn, abs_up]
  | add r a b => simp [Stp.flat, Stp.abs, Stp.up, Stp.dn]
  | since c l =>
    have : ∀ l : List Pl, ((l.map Stp.pl).map Stp.abs).sum = upP l + dnP l := fun l => by
      induction l with
      | nil => simp [upP, dnP]
      | cons p l ih =>
        have h : Stp.abs (.pl p) = p.up + p.dn := abs_up p
        simp only [List.map_cons, List.sum_cons, upP_cons, dnP_cons, h] at ih ⊢
        omega
    have h2 := this l
    simp only [Stp.flat, List.map_cons, List.sum_cons, Stp.up, Stp.dn, h2]
    simp [Stp.abs]
theorem span_up (l : Scr) : spanS l = upS l + dnS l := by
  unfold spanS
  induction l with
  | nil => simp [flatS, upS, dnS]
  | cons s l ih =>
    have := tot_stp s
    simp only [flatS, List.flatMap_cons, List.map_append, List.sum_append, upS_cons, dnS_cons] at ih ⊢
    omega
theorem behP_near {p : Pl} {d e : Int} (h : behP p d = some e) : d - p.dn ≤ e ∧ e ≤ d + p.up := by
  cases p with
  | shift i =>
    simp [behP] at h
    simp only [Pl.up, Pl.dn]
    split <;> omega
  | keep r =>
    simp only [behP] at h
    split at h <;> simp at h
    simp [Pl.up, Pl.dn, h]
  | strike r =>
    simp only [behP] at h
    split at h <;> simp at h
    simp [Pl.up, Pl.dn, h]
  | from_ i =>
    simp only [behP] at h
    split at h <;> simp at h
    simp [Pl.up, Pl.dn, h]
  | until_ i =>
    simp only [behP] at h
    split at h <;> simp at h
    simp [Pl.up, Pl.dn, h]
theorem behPs_none (l : List Pl) : behPs l none = none := by
  induction l with
  | nil => rfl
  | cons p l ih => exact ih
theorem behS_none (l : Scr) : behS l none = none := by
  induction l with
  | nil => rfl
  | cons p l ih => exact ih
theorem behPs_cons (p : Pl) (l : List Pl) (d : Option Int) : behPs (p :: l) d = behPs l (d.bind (behP p)) := rfl
theorem behS_cons (p : Stp) (l : Scr) (d : Option Int) : behS (p :: l) d = behS l (d.bind (beh p)) := rfl
theorem behS_app (a b : Scr) (d : Option Int) : behS (a ++ b) d = behS b (behS a d) := by simp [behS]
theorem behPs_near : ∀ {l : List Pl} {d e : Int}, behPs l (some d) = some e → d - dnP l ≤ e ∧ e ≤ d + upP l
  | [], d, e, h => by
    simp [behPs] at h
    simp [upP, dnP, h]
  | p :: l, d, e, h => by
    rw [behPs_cons] at h
    cases q : behP p d with
    | none =>
      simp [q, behPs_none] at h
    | some x =>
      simp only [Option.bind_some, q] at h
      have h1 := behP_near q
      have h2 := behPs_near h
      rw [upP_cons, dnP_cons]
      omega
theorem beh_near {s : Stp} {d e : Int} (h : beh s d = some e) : d - s.dn ≤ e ∧ e ≤ d + s.up := by
  cases s with
  | pl p => exact behP_near h
  | add r a b =>
    simp [beh] at h
    simp [Stp.up, Stp.dn, h]
  | since c l =>
    simp only [beh] at h
    split at h
    · exact behPs_near h
    · simp at h
      have := upP_nn l
      have := dnP_nn l
      simp only [Stp.up, Stp.dn]
      omega
theorem behS_near : ∀ {l : Scr} {d e : Int}, behS l (some d) = some e → d - dnS l ≤ e ∧ e ≤ d + upS l
  | [], d, e, h => by
    simp [behS] at h
    simp [upS, dnS, h]
  | p :: l, d, e, h => by
    rw [behS_cons] at h
    cases q : beh p d with
    | none =>
      simp [q, behS_none] at h
    | some x =>
      simp only [Option.bind_some, q] at h
      have h1 := beh_near q
      have h2 := behS_near h
      rw [upS_cons, dnS_cons]
      omega
/-! the count of new things by days -/
def okD (r : Rhy) (a : Int) (b : Option Int) (y : Int) : Bool := decide (a ≤ y) && (match b with
  | none => true
  | some z => decide (y ≤ z)) && r.has y
/-- the days from which a step may lead to y -/
def wind (s : Stp) (y : Int) : List Int := (List.range (s.up + s.dn + 1).toNat).map fun (i : Nat) => y - s.up + (i : Int)
theorem mem_wind {s : Stp} {y x : Int} : x ∈ wind s y ↔ y - s.up ≤ x ∧ x ≤ y + s.dn := by
  have h1 := s.up_nn
  have h2 := s.dn_nn
  simp only [wind, List.mem_map, List.mem_range]
  constructor
  · rintro ⟨i, hi, rfl⟩
    omega
  · intro h
    exact ⟨(x - y + s.up).toNat, by omega, by omega⟩
theorem wind_nodup (s : Stp) (y : Int) : (wind s y).Nodup := by
  unfold wind
  refine List.Pairwise.map _ (fun a b h => ?_) List.nodup_range
  omega
def stepC (s : Stp) (c : Int → Nat) (y : Int) : Nat := match s with
  | .add r a b => c y + if okD r a b y = true ∧ c y = 0 then 1 else 0
  | s => ((wind s y).map fun x => if beh s x = some y then c x else 0).sum
/-- how many new things stand on a day behind these steps -/
def cntF (l : Scr) : Int → Nat := l.foldl (fun c s => stepC s c) fun _ => 0
theorem cntF_snoc (l : Scr) (s : Stp) : cntF (l ++ [s]) = stepC s (cntF l) := by simp [cntF]
/-- a step that adds starts one on that day -/
def Off (l : Scr) (i : Nat) (f : Int) : Bool := match l[i]? with
  | some (.add r a b) => okD r a b f && decide (cntF (l.take i) f = 0)
  | _ => false
/-- in a list of days, how often a day is -/
def cntI (its : List Item) (y : Int) : Nat := its.countP fun x => decide (x.2.2 = some y)
theorem cntI_map {s : Stp} (its : List Item) (y : Int) (hs : ∀ x z, beh s x = some z → z - s.up ≤ x ∧ x ≤ z + s.dn) :
    cntI (its.map fun x => (x.1, x.2.1, x.2.2.bind (beh s))) y = ((wind s y).map fun x => if beh s x = some y then cntI its x else 0).sum := by
  induction its with
  | nil =>
    have : ((wind s y).map fun x => if beh s x = some y then cntI [] x else 0) = (wind s y).map fun _ => 0 := List.map_congr_left fun x _ => by simp [cntI]
    rw [this]
    have z : ∀ l : List Int, (l.map fun _ => (0 : Nat)).sum = 0 := fun l => by induction l <;> simp_all
    rw [z]
    rfl
  | cons it its ih =>
    obtain ⟨i, f, q⟩ := it
    have e1 : cntI (((i, f, q) :: its).map fun x => (x.1, x.2.1, x.2.2.bind (beh s))) y = cntI (its.map fun x => (x.1, x.2.1, x.2.2.bind (beh s))) y + if q.bind (beh s) = some y then 1 else 0 := by
      simp [cntI, List.countP_cons]
    rw [e1, ih]
    have e2 : ∀ x, cntI ((i, f, q) :: its) x = cntI its x + if q = some x then 1 else 0 := fun x => by simp [cntI, List.countP_cons]
    have sum_add : ∀ (L : List Int) (g h : Int → Nat), (L.map fun x => g x + h x).sum = (L.map g).sum + (L.map h).sum := fun L g h => by
      induction L with
      | nil => rfl
      | cons a L ih => simp only [List.map_cons, List.sum_cons, ih]; omega
    have e3 : ((wind s y).map fun x => if beh s x = some y then cntI ((i, f, q) :: its) x else 0) = (wind s y).map fun x => (if beh s x = some y then cntI its x else 0) + if beh s x = some y ∧ q = some x then 1 else 0 := by
      refine List.map_congr_left fun x _ => ?_
      rw [e2]
      by_cases h : beh s x = some y <;> simp [h]
    rw [e3, sum_add]
    congr 1
    cases q with
    | none =>
      have : ((wind s y).map fun x => if beh s x = some y ∧ (none : Option Int) = some x then 1 else 0) = (wind s y).map fun _ => 0 := List.map_congr_left fun x _ => by simp
      rw [this]
      have z : ∀ l : List Int, (l.map fun _ => (0 : Nat)).sum = 0 := fun l => by induction l <;> simp_all
      rw [z]
      simp
    | some d =>
      have one : ∀ L : List Int, L.Nodup → (L.map fun x => if beh s x = some y ∧ some d = some x then 1 else 0).sum = if beh s d = some y ∧ d ∈ L then 1 else 0 := fun L => by
        induction L with
        | nil => intro _; simp
        | cons a L ih =>
          intro hn
          have h1 := List.nodup_cons.mp hn
          have h2 := ih h1.2
          simp only [List.map_cons, List.sum_cons, h2]
          by_cases hda : d = a
          · subst hda
            by_cases hb : beh s d = some y
            · simp [hb, h1.1]
            · simp [hb]
          · by_cases hb : beh s d = some y
            · simp [hb, hda]
            · have : ¬ (beh s a = some y ∧ some d = some a) := fun z => hda (Option.some.inj z.2)
              simp [hb, hda]
      rw [one _ (wind_nodup s y)]
      by_cases hb : beh s d = some y
      · have := hs d y hb
        simp [hb, mem_wind, this.1, this.2]
      · simp [hb]
theorem beh_back {s : Stp} (x z : Int) (h : beh s x = some z) : z - s.up ≤ x ∧ x ≤ z + s.dn := by
  have := beh_near h
  omega
theorem mem_days {r : Rhy} {a y last : Int} {b : Option Int} : y ∈ daysL r a b last ↔ okD r a b y = true ∧ y ≤ last := by
  unfold daysL okD endD
  simp only [List.mem_filter, List.mem_map, List.mem_range, Bool.and_eq_true, decide_eq_true_eq]
  cases b with
  | none =>
    simp only [and_true]
    constructor
    · rintro ⟨⟨i, hi, rfl⟩, h⟩
      exact ⟨⟨by omega, h⟩, by omega⟩
    · rintro ⟨⟨h1, h2⟩, h3⟩
      exact ⟨⟨(y - a).toNat, by omega, by omega⟩, h2⟩
  | some z =>
    simp only [decide_eq_true_eq]
    constructor
    · rintro ⟨⟨i, hi, rfl⟩, h⟩
      split at hi <;> exact ⟨⟨⟨by omega, by omega⟩, h⟩, by omega⟩
    · rintro ⟨⟨⟨h1, h2⟩, h3⟩, h4⟩
      refine ⟨⟨(y - a).toNat, ?_, by omega⟩, h3⟩
      split <;> omega
theorem days_nodup (r : Rhy) (a last : Int) (b : Option Int) : (daysL r a b last).Nodup := by
  unfold daysL
  refine List.Pairwise.filter _ (List.Pairwise.map _ (fun a b h => ?_) List.nodup_range)
  omega
theorem count_new {l : List Int} (hn : l.Nodup) (at_ y : Int) : cntI (l.map fun d => ((at_, d, some d) : Item)) y = if y ∈ l then 1 else 0 := by
  induction l with
  | nil => simp [cntI]
  | cons a l ih =>
    have h1 := List.nodup_cons.mp hn
    have e : cntI ((a :: l).map fun d => ((at_, d, some d) : Item)) y = cntI (l.map fun d => ((at_, d, some d) : Item)) y + if a = y then 1 else 0 := by
      simp [cntI, List.countP_cons]
    rw [e, ih h1.2]
    by_cases h : a = y
    · subst h
      simp [h1.1]
    · have : ¬ y = a := fun z => h z.symm
      simp [h, this]
theorem cnt_pos {its : List Item} {y : Int} : (its.any fun x => decide (x.2.2 = some y)) = decide (cntI its y ≠ 0) := by
  refine Bool.eq_iff_iff.mpr ?_
  rw [decide_eq_true_eq]
  unfold cntI
  rw [List.any_eq_true, ← Nat.pos_iff_ne_zero, List.countP_pos_iff]
/-- the program's list counts right, up to its last day less what the steps move -/
theorem newPre_cnt (L : Int) : ∀ (pre : Scr) (y : Int), y ≤ L - dnS pre → cntI (newPre L pre) y = cntF pre y := by
  intro pre
  refine snoc_ind (P := fun pre => ∀ y, y ≤ L - dnS pre → cntI (newPre L pre) y = cntF pre y) (fun y _ => rfl) (fun pre s ih y hy => ?_) pre
  have hd : dnS (pre ++ [s]) = dnS pre + s.dn := by simp [dnS, List.sum_append]
  have h0 := dnS_nn pre
  rw [hd] at hy
  rw [newPre_snoc, cntF_snoc]
  have other : (∀ r a b, s ≠ .add r a b) → cntI ((newPre L pre).map fun x => (x.1, x.2.1, x.2.2.bind (beh s))) y = ((wind s y).map fun x => if beh s x = some y then cntF pre x else 0).sum := fun _ => by
    rw [cntI_map _ _ beh_back]
    congr 1
    refine List.map_congr_left fun x hx => ?_
    rw [ih x (by have := mem_wind.mp hx; omega)]
  cases s with
  | add r a b =>
    have hs0 : (Stp.add r a b).dn = 0 := rfl
    have hy2 := ih y (by omega)
    simp only [newStep, stepC]
    have e : cntI (newPre L pre ++ ((daysL r a b L).filter fun d => !(newPre L pre).any fun x => decide (x.2.2 = some d)).map fun d => (((pre.length : Int), d, some d) : Item)) y = cntI (newPre L pre) y + cntI (((daysL r a b L).filter fun d => !(newPre L pre).any fun x => decide (x.2.2 = some d)).map fun d => (((pre.length : Int), d, some d) : Item)) y := by
      simp [cntI, List.countP_append]
    rw [e, count_new (List.Pairwise.filter _ (days_nodup r a L b)), hy2]
    congr 1
    have e2 : (y ∈ (daysL r a b L).filter fun d => !(newPre L pre).any fun x => decide (x.2.2 = some d)) ↔ okD r a b y = true ∧ cntF pre y = 0 := by
      rw [List.mem_filter, mem_days, cnt_pos, hy2]
      simp
      intro _ _
      omega
    by_cases h : okD r a b y = true ∧ cntF pre y = 0
    · rw [if_pos (e2.mpr h), if_pos h]
    · rw [if_neg (fun z => h (e2.mp z)), if_neg h]
  | pl p => exact other fun r a b => by simp
  | since c l => exact other fun r a b => by simp
end Dl
set_option Elab.async false
set_option linter.all false
set_option maxRecDepth 100000
set_option maxHeartbeats 2000000
/-! Behind the numbers of a script all goes on in rounds. -/
namespace Dl
open PySem PySem.Spec PyProof.Rows L2
/-- a step whose numbers are not above B and whose sizes divide N -/
def Pl.pr (B N : Int) : Pl → Prop
  | .shift _ => True
  | .keep r => r.s ∣ N
  | .strike r => r.s ∣ N
  | .from_ i => i ≤ B
  | .until_ i => i ≤ B
def Stp.pr (B N : Int) : Stp → Prop
  | .pl p => p.pr B N
  | .add r a b => r.s ∣ N ∧ a ≤ B ∧ ∀ z, b = some z → z ≤ B
  | .since c l => c ≤ B ∧ ∀ p ∈ l, p.pr B N
theorem has_add {r : Rhy} {N d : Int} (h : r.s ∣ N) : r.has (d + N) = r.has d := by
  obtain ⟨k, rfl⟩ := h
  unfold Rhy.has
  rw [Int.add_mul_emod_self_left]
section
variable {B N : Int} (hN : 0 ≤ N)
include hN
theorem behP_per {p : Pl} (h : p.pr B N) {x : Int} (hx : B < x) : behP p (x + N) = (behP p x).map (· + N) := by
  cases p with
  | shift i =>
    simp [behP]
    omega
  | keep r =>
    simp only [behP, has_add (show r.s ∣ N from h)]
    split <;> rfl
  | strike r =>
    simp only [behP, has_add (show r.s ∣ N from h)]
    split <;> rfl
  | from_ i =>
    have : i ≤ B := h
    simp only [behP]
    rw [if_pos (by omega), if_pos (by omega)]
    rfl
  | until_ i =>
    have : i ≤ B := h
    simp only [behP]
    rw [if_neg (by omega), if_neg (by omega)]
    rfl
theorem behPs_per : ∀ {l : List Pl}, (∀ p ∈ l, p.pr B N) → ∀ {x : Int}, B + dnP l < x → behPs l (some (x + N)) = (behPs l (some x)).map (· + N)
  | [], _, x, _ => rfl
  | p :: l, h, x, hx => by
    have h1 := dnP_nn l
    have h2 := p.dn_nn
    rw [dnP_cons] at hx
    rw [behPs_cons, behPs_cons]
    simp only [Option.bind_some]
    rw [behP_per hN (h p List.mem_cons_self) (by omega)]
    cases q : behP p x with
    | none => simp [behPs_none]
    | some z =>
      have := behP_near q
      exact behPs_per (l := l) (fun p hp => h p (List.mem_cons_of_mem _ hp)) (by omega)
theorem beh_per {s : Stp} (h : s.pr B N) {x : Int} (hx : B + s.dn < x) : beh s (x + N) = (beh s x).map (· + N) := by
  have h0 := s.dn_nn
  cases s with
  | pl p => exact behP_per hN h (by omega)
  | add r a b => rfl
  | since c l =>
    obtain ⟨h1, h2⟩ := h
    simp only [beh]
    rw [if_pos (by omega), if_pos (by omega)]
    exact behPs_per hN h2 hx
theorem behS_per : ∀ {l : Scr}, (∀ s ∈ l, s.pr B N) → ∀ {x : Int}, B + dnS l < x → behS l (some (x + N)) = (behS l (some x)).map (· + N)
  | [], _, x, _ => rfl
  | p :: l, h, x, hx => by
    have h1 := dnS_nn l
    have h2 := p.dn_nn
    rw [dnS_cons] at hx
    rw [behS_cons, behS_cons]
    simp only [Option.bind_some]
    rw [beh_per hN (h p List.mem_cons_self) (by omega)]
    cases q : beh p x with
    | none => simp [behS_none]
    | some z =>
      have := beh_near q
      exact behS_per (l := l) (fun p hp => h p (List.mem_cons_of_mem _ hp)) (by omega)
theorem okD_per {r : Rhy} {a : Int} {b : Option Int} (h : (Stp.add r a b).pr B N) {y : Int} (hy : B < y) : okD r a b (y + N) = okD r a b y := by
  obtain ⟨h1, h2, h3⟩ := h
  unfold okD
  rw [has_add h1]
  have e1 : decide (a ≤ y + N) = decide (a ≤ y) := by
    rw [decide_eq_true (by omega), decide_eq_true (by omega)]
  rw [e1]
  cases b with
  | none => rfl
  | some z =>
    have := h3 z rfl
    simp only
    rw [decide_eq_false (show ¬ (y + N ≤ z) by omega), decide_eq_false (show ¬ (y ≤ z) by omega)]
theorem wind_per (s : Stp) (y : Int) : wind s (y + N) = (wind s y).map (· + N) := by
  unfold wind
  rw [List.map_map]
  refine List.map_congr_left fun i _ => ?_
  simp only [Function.comp_apply]
  omega
theorem map_add_eq {o : Option Int} {y : Int} : (o.map (· + N) = some (y + N)) ↔ o = some y := by
  cases o with
  | none => simp
  | some x =>
    simp only [Option.map_some, Option.some.injEq]
    omega
theorem stepC_per {s : Stp} (h : s.pr B N) {c : Int → Nat} {T : Int} (hT : B + s.dn < T) (hc : ∀ x, T ≤ x → c (x + N) = c x) {y : Int} (hy : T + s.up ≤ y) : stepC s c (y + N) = stepC s c y := by
  have h1 := s.up_nn
  have h2 := s.dn_nn
  have other : ((wind s (y + N)).map fun x => if beh s x = some (y + N) then c x else 0).sum = ((wind s y).map fun x => if beh s x = some y then c x else 0).sum := by
    rw [wind_per hN, List.map_map]
    congr 1
    refine List.map_congr_left fun x hx => ?_
    have := mem_wind.mp hx
    simp only [Function.comp_apply]
    rw [beh_per hN h (by omega), hc x (by omega)]
    by_cases e : beh s x = some y
    · rw [if_pos ((map_add_eq hN).mpr e), if_pos e]
    · rw [if_neg (fun z => e ((map_add_eq hN).mp z)), if_neg e]
  cases s with
  | add r a b =>
    simp only [stepC]
    rw [hc y (by omega), okD_per hN h (by omega)]
  | pl p => exact other
  | since c l => exact other
theorem cntF_per {D : Int} : ∀ {pre : Scr}, (∀ s ∈ pre, s.pr B N ∧ s.dn ≤ D) → ∀ y, B + 1 + D + upS pre ≤ y → cntF pre (y + N) = cntF pre y := by
  intro pre
  refine snoc_ind (P := fun pre => (∀ s ∈ pre, s.pr B N ∧ s.dn ≤ D) → ∀ y, B + 1 + D + upS pre ≤ y → cntF pre (y + N) = cntF pre y) (fun _ y _ => rfl) (fun pre s ih h y hy => ?_) pre
  have h1 := upS_nn pre
  have h2 := h s (by simp)
  rw [cntF_snoc]
  rw [upS_app] at hy
  have e : upS [s] = s.up := by simp [upS]
  rw [e] at hy
  exact stepC_per hN h2.1 (T := B + 1 + D + upS pre) (by omega) (fun x hx => ih (fun t ht => h t (by simp [ht])) x hx) (by omega)
omit hN in
theorem upS_take (l : Scr) (i : Nat) : upS (l.take i) ≤ upS l := by
  have := upS_nn (l.drop i)
  have e : upS l = upS (l.take i) + upS (l.drop i) := by rw [← upS_app, List.take_append_drop]
  omega
omit hN in
theorem dnS_take (l : Scr) (i : Nat) : dnS (l.take i) ≤ dnS l := by
  have := dnS_nn (l.drop i)
  have e : dnS l = dnS (l.take i) + dnS (l.drop i) := by rw [← dnS_app, List.take_append_drop]
  omega
theorem Off_per {D : Int} {l : Scr} (hD : 0 ≤ D) (h : ∀ s ∈ l, s.pr B N ∧ s.dn ≤ D) (i : Nat) {y : Int} (hy : B + 1 + D + upS l ≤ y) : Off l i (y + N) = Off l i y := by
  have h1 := upS_nn l
  have h2 := upS_take l i
  unfold Off
  cases e : l[i]? with
  | none => rfl
  | some s =>
    have hs := List.mem_of_getElem? e
    cases s with
    | pl p => rfl
    | since c q => rfl
    | add r a b =>
      simp only
      rw [okD_per hN (h _ hs).1 (by omega), cntF_per hN (fun t ht => h t (List.mem_of_mem_take ht)) y (by omega)]
theorem firstB_per {T : Int → Int → Bool} {X : Int} (hT : ∀ i x, X ≤ x → T i (x + N) = T i x) : ∀ {l : Scr}, (∀ s ∈ l, s.pr B N) → ∀ {i d : Int}, B + dnS l < d → X + dnS l ≤ d → firstB T i l (d + N) = (firstB T i l d).map fun x => (x.1, x.2 + N)
  | [], _, _, _, _, _ => rfl
  | s :: l, h, i, d, h1, h2 => by
    have h3 := s.dn_nn
    have h4 := dnS_nn l
    rw [dnS_cons] at h1 h2
    unfold firstB
    rw [hT i d (by omega), beh_per hN (h s List.mem_cons_self) (by omega)]
    split
    · rfl
    · cases q : beh s d with
      | none => rfl
      | some z =>
        have := beh_near q
        exact firstB_per hT (l := l) (fun t ht => h t (List.mem_cons_of_mem _ ht)) (by omega) (by omega)
end
/-! the block, told of the script alone -/
theorem firstB_congr {T U : Int → Int → Bool} : ∀ {l : Scr} {i d : Int}, (∀ j x, i ≤ j → j < i + l.length → x ≤ d + upS l → T j x = U j x) → firstB T i l d = firstB U i l d
  | [], _, _, _ => rfl
  | s :: l, i, d, h => by
    have h3 := s.up_nn
    have h4 := upS_nn l
    unfold firstB
    rw [h i d (by omega) (by simp only [List.length_cons]; omega) (by rw [upS_cons]; omega)]
    split
    · rfl
    · cases q : beh s d with
      | none => rfl
      | some z =>
        have := beh_near q
        exact firstB_congr fun j x a b c => h j x (by omega) (by simp only [List.length_cons]; omega) (by rw [upS_cons]; omega)
theorem firstB_spec {T : Int → Int → Bool} : ∀ {l : Scr} {i d j f : Int}, firstB T i l d = some (j, f) → ∃ n : Nat, j = i + n ∧ n < l.length ∧ T j f = true ∧ behS (l.take n) (some d) = some f ∧ ∃ s, l[n]? = some s ∧ s.isAdd = true
  | [], i, d, j, f, h => by simp [firstB] at h
  | s :: l, i, d, j, f, h => by
    unfold firstB at h
    split at h
    · rename_i hs
      simp at h
      obtain ⟨rfl, rfl⟩ := h
      exact ⟨0, by omega, by simp, hs.2, rfl, s, rfl, hs.1⟩
    · cases q : beh s d with
      | none => simp [q] at h
      | some z =>
        simp only [q] at h
        obtain ⟨n, h1, h2, h3, h4, t, h5, h6⟩ := firstB_spec h
        refine ⟨n + 1, by omega, by simp; omega, h3, ?_, t, by simpa using h5, h6⟩
        simp only [List.take_succ_cons, behS_cons, Option.bind_some, q]
        exact h4
theorem firstB_snoc {T : Int → Int → Bool} (s : Stp) : ∀ {l : Scr} {i d : Int}, firstB T i (l ++ [s]) d = match firstB T i l d with
    | some x => some x
    | none => match behS l (some d) with
      | some x => if s.isAdd = true ∧ T (i + l.length) x = true then some (i + l.length, x) else none
      | none => none
  | [], i, d => by
    simp only [List.nil_append, firstB, List.length_nil, behS, List.foldl_nil]
    have e : i + ((0 : Nat) : Int) = i := by omega
    rw [e]
    split
    · rfl
    · split <;> rfl
  | t :: l, i, d => by
    simp only [List.cons_append]
    rw [firstB, firstB]
    split
    · rfl
    · cases q : beh t d with
      | none => simp [behS_cons, q, behS_none]
      | some z =>
        simp only
        rw [firstB_snoc (l := l)]
        have e : i + 1 + (l.length : Int) = i + ((t :: l).length : Int) := by
          simp only [List.length_cons]
          omega
        rw [behS_cons, Option.bind_some, q, e]
def addAt (l : Scr) (s : Stp) (x : Int) : Bool := match s with
  | .add r a b => okD r a b x && decide (cntF l x = 0)
  | _ => false
theorem Off_snoc (l : Scr) (s : Stp) (i : Nat) (x : Int) : Off (l ++ [s]) i x = if i < l.length then Off l i x else if i = l.length then addAt l s x else false := by
  unfold Off
  by_cases h : i < l.length
  · rw [if_pos h, List.getElem?_append_left h, List.take_append_of_le_length (by omega)]
  · rw [if_neg h]
    by_cases h2 : i = l.length
    · subst h2
      rw [if_pos rfl]
      have e1 : (l ++ [s])[l.length]? = some s := by simp
      have e2 : (l ++ [s]).take l.length = l := by simp
      rw [e1, e2]
      cases s <;> rfl
    · rw [if_neg h2]
      have e1 : (l ++ [s])[i]? = none := by
        rw [List.getElem?_eq_none_iff]
        simp
        omega
      rw [e1]
def OffI (l : Scr) (i x : Int) : Bool := Off l i.toNat x
def blk (l : Scr) (d : Int) : Option (Int × Int) := firstB (OffI l) 0 l d
theorem blk_snoc (l : Scr) (s : Stp) (d : Int) : blk (l ++ [s]) d = match blk l d with
    | some x => some x
    | none => match behS l (some d) with
      | some x => if addAt l s x = true then some ((l.length : Int), x) else none
      | none => none := by
  unfold blk
  rw [firstB_snoc]
  have e : firstB (OffI (l ++ [s])) 0 l d = firstB (OffI l) 0 l d := firstB_congr fun j x a b _ => by
    unfold OffI
    rw [Off_snoc, if_pos (by omega)]
  rw [e]
  have e2 : ∀ x, (s.isAdd = true ∧ OffI (l ++ [s]) (0 + (l.length : Int)) x = true) ↔ addAt l s x = true := fun x => by
    unfold OffI
    rw [Off_snoc]
    have e3 : ((0 : Int) + (l.length : Int)).toNat = l.length := by omega
    rw [e3, if_neg (by omega), if_pos rfl]
    cases s <;> simp [addAt, Stp.isAdd]
  cases firstB (OffI l) 0 l d with
  | some x => rfl
  | none =>
    simp only
    cases behS l (some d) with
    | none => rfl
    | some x =>
      simp only [e2]
      rw [Int.zero_add]
theorem blk_spec {l : Scr} {d : Int} {b : Int × Int} (h : blk l d = some b) : ∃ n : Nat, b.1 = (n : Int) ∧ n < l.length ∧ Off l n b.2 = true ∧ behS l (some d) = behS (l.drop (n + 1)) (some b.2) := by
  obtain ⟨j, f⟩ := b
  obtain ⟨n, h1, h2, h3, h4, s, h5, h6⟩ := firstB_spec h
  have e : j = (n : Int) := by omega
  subst e
  refine ⟨n, rfl, h2, h3, ?_⟩
  have e1 : l = l.take n ++ s :: l.drop (n + 1) := by
    have : l[n] = s := by
      rw [List.getElem?_eq_getElem h2] at h5
      exact Option.some.inj h5
    rw [← this]
    simp
  have e2 : ∀ x, beh s x = some x := fun x => by
    cases s with
    | add r a b => rfl
    | pl p => simp [Stp.isAdd] at h6
    | since c q => simp [Stp.isAdd] at h6
  calc behS l (some d) = behS (l.take n ++ s :: l.drop (n + 1)) (some d) := by rw [← e1]
    _ = behS (l.drop (n + 1)) (some f) := by
      rw [behS_app, h4, behS_cons, Option.bind_some, e2]
theorem blk_near {l : Scr} {d : Int} {b : Int × Int} (h : blk l d = some b) : d - dnS l ≤ b.2 ∧ b.2 ≤ d + upS l := by
  obtain ⟨j, f⟩ := b
  obtain ⟨n, h1, h2, h3, h4, s, h5, h6⟩ := firstB_spec h
  have := behS_near h4
  have := upS_take l n
  have := dnS_take l n
  omega
end Dl
set_option Elab.async false
set_option linter.all false
set_option maxRecDepth 100000
set_option maxHeartbeats 2000000
/-! The program's lists of new things, told of the script alone. -/
namespace Dl
open PySem PySem.Spec PyProof.Rows L2
theorem pl_step (s : Stp) (at_ L : Int) (f : List Item) (h : ∀ r a b, s ≠ .add r a b) : newStep L at_ s f = f.map fun x => (x.1, x.2.1, x.2.2.bind (beh s)) := by
  cases s with
  | add r a b => exact absurd rfl (h r a b)
  | pl p => rfl
  | since c l => rfl
theorem newPre_mem (L : Int) : ∀ (pre : Scr) (i f : Int) (q : Option Int), (i, f, q) ∈ newPre L pre → ∃ n : Nat, i = (n : Int) ∧ n < pre.length ∧ q = behS (pre.drop (n + 1)) (some f) := by
  intro pre
  refine snoc_ind (P := fun pre => ∀ (i f : Int) (q : Option Int), (i, f, q) ∈ newPre L pre → ∃ n : Nat, i = (n : Int) ∧ n < pre.length ∧ q = behS (pre.drop (n + 1)) (some f)) (fun i f q h => by simp [newPre] at h) (fun pre s ih i f q h => ?_) pre
  rw [newPre_snoc] at h
  have tail : ∀ n : Nat, n < pre.length → ∀ q' : Option Int, q' = behS (pre.drop (n + 1)) (some f) → q'.bind (beh s) = behS ((pre ++ [s]).drop (n + 1)) (some f) := fun n hn q' e => by
    rw [List.drop_append_of_le_length (by omega), behS_app, e]
    rfl
  by_cases hs : ∃ r a b, s = .add r a b
  · obtain ⟨r, a, b, rfl⟩ := hs
    simp only [newStep, List.mem_append] at h
    rcases h with h | h
    · obtain ⟨n, h1, h2, h3⟩ := ih i f q h
      refine ⟨n, h1, by simp; omega, ?_⟩
      have := tail n h2 q h3
      rw [← this]
      cases q <;> rfl
    · obtain ⟨d, hd, e⟩ := List.mem_map.mp h
      simp only [Prod.mk.injEq] at e
      obtain ⟨rfl, rfl, rfl⟩ := e
      refine ⟨pre.length, rfl, by simp, ?_⟩
      have : (pre ++ [Stp.add r a b]).drop (pre.length + 1) = [] := by simp
      rw [this]
      rfl
  · rw [pl_step s _ _ _ fun r a b e => hs ⟨r, a, b, e⟩] at h
    obtain ⟨⟨i', f', q'⟩, hx, e⟩ := List.mem_map.mp h
    simp only [Prod.mk.injEq] at e
    obtain ⟨rfl, rfl, rfl⟩ := e
    obtain ⟨n, h1, h2, h3⟩ := ih _ _ _ hx
    exact ⟨n, h1, by simp; omega, tail n h2 q' h3⟩
theorem newPre_keys (L : Int) : ∀ (pre : Scr), ((newPre L pre).map fun x => (x.1, x.2.1)).Nodup := by
  intro pre
  refine snoc_ind (P := fun pre => ((newPre L pre).map fun x => (x.1, x.2.1)).Nodup) (by simp [newPre]) (fun pre s ih => ?_) pre
  rw [newPre_snoc]
  by_cases hs : ∃ r a b, s = .add r a b
  · obtain ⟨r, a, b, rfl⟩ := hs
    simp only [newStep, List.map_append, List.map_map]
    rw [List.nodup_append]
    refine ⟨ih, ?_, ?_⟩
    · have h1 : ((daysL r a b L).filter fun d => !(newPre L pre).any fun x => decide (x.2.2 = some d)).Nodup := List.Pairwise.filter _ (days_nodup r a L b)
      refine List.Pairwise.map _ (fun x y hxy => ?_) h1
      intro e
      simp only [Function.comp_apply, Prod.mk.injEq] at e
      exact hxy e.2
    · intro x hx y hy e
      subst e
      obtain ⟨⟨i, f, q⟩, h1, rfl⟩ := List.mem_map.mp hx
      obtain ⟨d, h2, e2⟩ := List.mem_map.mp hy
      obtain ⟨n, h3, h4, _⟩ := newPre_mem L pre i f q h1
      simp only [Function.comp_apply, Prod.mk.injEq] at e2
      omega
  · rw [pl_step s _ _ _ fun r a b e => hs ⟨r, a, b, e⟩, List.map_map]
    exact ih
theorem newPre_has (L : Int) : ∀ (pre : Scr) (n : Nat) (f : Int), f ≤ L - dnS pre → ((∃ q, ((n : Int), f, q) ∈ newPre L pre) ↔ Off pre n f = true) := by
  intro pre
  refine snoc_ind (P := fun pre => ∀ (n : Nat) (f : Int), f ≤ L - dnS pre → ((∃ q, ((n : Int), f, q) ∈ newPre L pre) ↔ Off pre n f = true)) (fun n f _ => by simp [newPre, Off]) (fun pre s ih n f hf => ?_) pre
  have hd : dnS (pre ++ [s]) = dnS pre + s.dn := by simp [dnS, List.sum_append]
  have h0 := s.dn_nn
  rw [hd] at hf
  have ihn := ih n f (by omega)
  have hlt : (∃ q, ((n : Int), f, q) ∈ newPre L pre) → n < pre.length := fun ⟨q, hq⟩ => by
    obtain ⟨k, h1, h2, _⟩ := newPre_mem L pre _ _ _ hq
    omega
  rw [Off_snoc, newPre_snoc]
  by_cases hs : ∃ r a b, s = .add r a b
  · obtain ⟨r, a, b, rfl⟩ := hs
    simp only [newStep]
    by_cases h : n < pre.length
    · rw [if_pos h, ← ihn]
      constructor
      · rintro ⟨q, hq⟩
        rcases List.mem_append.mp hq with hq | hq
        · exact ⟨q, hq⟩
        · obtain ⟨d, _, e⟩ := List.mem_map.mp hq
          simp only [Prod.mk.injEq] at e
          omega
      · rintro ⟨q, hq⟩
        exact ⟨q, List.mem_append.mpr (.inl hq)⟩
    · rw [if_neg h]
      by_cases h2 : n = pre.length
      · subst h2
        rw [if_pos rfl]
        have e2 : (f ∈ (daysL r a b L).filter fun d => !(newPre L pre).any fun x => decide (x.2.2 = some d)) ↔ addAt pre (.add r a b) f = true := by
          have hL : f ≤ L := by have := dnS_nn pre; omega
          rw [List.mem_filter, mem_days, cnt_pos, newPre_cnt L pre f (by omega)]
          simp [addAt, hL]
        rw [← e2]
        constructor
        · rintro ⟨q, hq⟩
          rcases List.mem_append.mp hq with hq | hq
          · exact absurd (hlt ⟨q, hq⟩) h
          · obtain ⟨d, hd, e⟩ := List.mem_map.mp hq
            simp only [Prod.mk.injEq] at e
            obtain ⟨_, rfl, _⟩ := e
            exact hd
        · intro hm
          exact ⟨some f, List.mem_append.mpr (.inr (List.mem_map.mpr ⟨f, hm, rfl⟩))⟩
      · rw [if_neg h2]
        simp only [Bool.false_eq_true, iff_false]
        rintro ⟨q, hq⟩
        rcases List.mem_append.mp hq with hq | hq
        · exact h (hlt ⟨q, hq⟩)
        · obtain ⟨d, _, e⟩ := List.mem_map.mp hq
          simp only [Prod.mk.injEq] at e
          omega
  · have hne : ∀ r a b, s ≠ .add r a b := fun r a b e => hs ⟨r, a, b, e⟩
    rw [pl_step s _ _ _ hne]
    have e1 : (∃ q, ((n : Int), f, q) ∈ (newPre L pre).map fun x => (x.1, x.2.1, x.2.2.bind (beh s))) ↔ ∃ q, ((n : Int), f, q) ∈ newPre L pre := by
      constructor
      · rintro ⟨q, hq⟩
        obtain ⟨⟨i', f', q'⟩, hx, e⟩ := List.mem_map.mp hq
        simp only [Prod.mk.injEq] at e
        obtain ⟨rfl, rfl, rfl⟩ := e
        exact ⟨q', hx⟩
      · rintro ⟨q, hq⟩
        exact ⟨_, List.mem_map.mpr ⟨_, hq, rfl⟩⟩
    rw [e1]
    by_cases h : n < pre.length
    · rw [if_pos h, ihn]
    · rw [if_neg h]
      have e2 : addAt pre s f = false := by
        cases s with
        | add r a b => exact absurd rfl (hne r a b)
        | pl p => rfl
        | since c q => rfl
      rw [e2]
      simp only [ite_self, Bool.false_eq_true, iff_false]
      exact fun z => h (hlt z)
theorem off_any (l : Scr) {L i f : Int} (hi : 0 ≤ i) (hf : f ≤ L) : ((newOnes l L).any fun x => decide (x.1 = i ∧ x.2.1 = f)) = OffI l i f := by
  obtain ⟨n, rfl⟩ := Int.eq_ofNat_of_zero_le hi
  have h1 := span_up l
  have h2 := upS_nn l
  have h := newPre_has (L + spanS l) l n f (by omega)
  refine Bool.eq_iff_iff.mpr ?_
  unfold OffI
  rw [Int.toNat_natCast, ← h, List.any_eq_true]
  unfold newOnes
  constructor
  · rintro ⟨⟨i', f', q⟩, hx, e⟩
    have hx := (List.mem_filter.mp hx).1
    simp only [decide_eq_true_eq] at e
    obtain ⟨rfl, rfl⟩ := e
    exact ⟨q, hx⟩
  · rintro ⟨q, hq⟩
    exact ⟨_, List.mem_filter.mpr ⟨hq, by simpa using hf⟩, by simp⟩
/-! the numbers of a script -/
theorem foldl_max_ge : ∀ (l : List Int) (f : Int), f ≤ l.foldl (fun f i => max f i.natAbs) f ∧ ∀ i ∈ l, i ≤ l.foldl (fun f i => max f i.natAbs) f
  | [], f => ⟨Int.le_refl _, fun i h => by cases h⟩
  | a :: l, f => by
    obtain ⟨h1, h2⟩ := foldl_max_ge l (max f a.natAbs)
    refine ⟨by simp only [List.foldl_cons]; omega, fun i hi => ?_⟩
    rcases List.mem_cons.mp hi with rfl | hi
    · simp only [List.foldl_cons]
      omega
    · exact h2 i hi
theorem bord_ge_fold : ∀ (l : List Stp) (f : Int), f ≤ l.foldl (fun f s => s.nums.foldl (fun f i => max f i.natAbs) f) f ∧ ∀ s ∈ l, ∀ i ∈ s.nums, i ≤ l.foldl (fun f s => s.nums.foldl (fun f i => max f i.natAbs) f) f
  | [], f => ⟨Int.le_refl _, fun s h => by cases h⟩
  | s :: l, f => by
    obtain ⟨h1, h2⟩ := foldl_max_ge s.nums f
    obtain ⟨h3, h4⟩ := bord_ge_fold l (s.nums.foldl (fun f i => max f i.natAbs) f)
    refine ⟨by simp only [List.foldl_cons]; omega, fun t ht i hi => ?_⟩
    rcases List.mem_cons.mp ht with rfl | ht
    · have := h2 i hi
      simp only [List.foldl_cons]
      omega
    · exact h4 t ht i hi
theorem bord_ge {l : Scr} {s : Stp} (hs : s ∈ flatS l) {i : Int} (hi : i ∈ s.nums) : i ≤ bordS l := (bord_ge_fold (flatS l) 0).2 s hs i hi
theorem flat_mem {l : Scr} {s t : Stp} (hs : s ∈ l) (ht : t ∈ s.flat) : t ∈ flatS l := List.mem_flatMap.mpr ⟨s, hs, ht⟩
theorem pr_of {l : Scr} {N : Int} (h : ∀ s ∈ l, s.Ok) (hN : rndS l ∣ N) : ∀ s ∈ l, s.pr (bordS l) N := by
  obtain ⟨_, _, h3⟩ := rnd_facts h
  have plk : ∀ p : Pl, Stp.pl p ∈ flatS l → p.pr (bordS l) N := fun p hp => by
    cases p with
    | shift i => trivial
    | keep r => exact Int.dvd_trans (h3 _ hp r rfl) hN
    | strike r => exact Int.dvd_trans (h3 _ hp r rfl) hN
    | from_ i => exact bord_ge hp (by simp [Stp.nums])
    | until_ i => exact bord_ge hp (by simp [Stp.nums])
  intro s hs
  cases s with
  | pl p => exact plk p (flat_mem hs (by simp [Stp.flat]))
  | add r a b =>
    have hp := flat_mem hs (show Stp.add r a b ∈ (Stp.add r a b).flat by simp [Stp.flat])
    refine ⟨Int.dvd_trans (h3 _ hp r rfl) hN, bord_ge hp (by simp [Stp.nums]), fun z hz => ?_⟩
    subst hz
    exact bord_ge hp (by simp [Stp.nums])
  | since c q =>
    refine ⟨bord_ge (flat_mem hs (show Stp.since c q ∈ (Stp.since c q).flat by simp [Stp.flat])) (by simp [Stp.nums]), fun p hp => plk p (flat_mem hs ?_)⟩
    simp [Stp.flat, hp]
theorem dn_mem : ∀ {l : Scr} {s : Stp}, s ∈ l → s.dn ≤ dnS l
  | a :: l, s, h => by
    have h1 := a.dn_nn
    have h2 := dnS_nn l
    rw [dnS_cons]
    rcases List.mem_cons.mp h with rfl | h
    · omega
    · have := dn_mem h
      omega
structure Far (l : Scr) (X : Int) : Prop where
  far : farS l ≤ X
theorem far_eq (l : Scr) : farS l = bordS l + 2 * (upS l + dnS l) + 1 := by
  unfold farS
  rw [span_up]
/-! rounds of a whole script -/
section
variable {l : Scr} (h : ∀ s ∈ l, s.Ok) {N : Int} (h0 : 0 ≤ N) (hN : rndS l ∣ N)
include h h0 hN
theorem fate_per {d : Int} (hd : farS l ≤ d) : behS l (some (d + N)) = (behS l (some d)).map (· + N) := by
  have h1 := upS_nn l
  have h2 := dnS_nn l
  rw [far_eq] at hd
  exact behS_per h0 (pr_of h hN) (by omega)
theorem cnt_per {y : Int} (hy : farS l ≤ y) : cntF l (y + N) = cntF l y := by
  have h1 := upS_nn l
  have h2 := dnS_nn l
  rw [far_eq] at hy
  exact cntF_per h0 (D := dnS l) (fun s hs => ⟨pr_of h hN s hs, dn_mem hs⟩) y (by omega)
theorem off_per (i : Int) {y : Int} (hy : farS l - spanS l ≤ y) : OffI l i (y + N) = OffI l i y := by
  have h1 := upS_nn l
  have h2 := dnS_nn l
  rw [far_eq, span_up] at hy
  exact Off_per h0 h2 (fun s hs => ⟨pr_of h hN s hs, dn_mem hs⟩) _ (by omega)
theorem blk_per {d : Int} (hd : farS l ≤ d) : blk l (d + N) = (blk l d).map fun x => (x.1, x.2 + N) := by
  have h1 := upS_nn l
  have h2 := dnS_nn l
  have h3 := far_eq l
  refine firstB_per h0 (X := farS l - spanS l) (fun i x hx => off_per h h0 hN i hx) (pr_of h hN) (by omega) ?_
  rw [span_up]
  omega
end
theorem near_off {l : Scr} (h : ∀ s ∈ l, s.Ok) {i x : Int} (hi : 0 ≤ i) : nearT0 l i (nearI l x) = OffI l i x := by
  obtain ⟨r1, _, _⟩ := rnd_facts h
  have h1 := upS_nn l
  have h2 := dnS_nn l
  unfold nearT0
  have e : nearT l i (nearI l x) = OffI l i x := by
    unfold nearT
    rw [off_any l hi]
    · unfold nearI
      split
      · rfl
      · rename_i hx
        have hx : farS l ≤ x := by omega
        have hk := Int.ediv_nonneg (show 0 ≤ x - farS l by omega) (show 0 ≤ rndS l by omega)
        have hm := Int.emod_nonneg (x - farS l) (show rndS l ≠ 0 by omega)
        have hdm := Int.mul_ediv_add_emod (x - farS l) (rndS l)
        have hp : 0 ≤ rndS l * ((x - farS l) / rndS l) := Int.mul_nonneg (by omega) hk
        have := off_per h hp (Int.dvd_mul_right _ _) i (y := farS l + (x - farS l) % rndS l) (by rw [span_up]; omega)
        rw [← this]
        congr 1
        omega
    · unfold nearI
      split
      · omega
      · have := Int.emod_lt_of_pos (x - farS l) (show 0 < rndS l by omega)
        omega
  rw [e]
  cases ha : l.any Stp.isAdd with
  | true => rfl
  | false =>
    have : OffI l i x = false := by
      unfold OffI Off
      cases e2 : l[i.toNat]? with
      | none => rfl
      | some s =>
        have hs := List.mem_of_getElem? e2
        cases s with
        | add r a b =>
          have := List.any_eq_false.mp ha _ hs
          simp [Stp.isAdd] at this
        | pl p => rfl
        | since c q => rfl
    rw [this]
    rfl
theorem blockN_eq {l : Scr} (h : ∀ s ∈ l, s.Ok) (d : Int) : blockN l d = blk l d := firstB_congr fun j x a _ _ => near_off h a
theorem blockL_eq {l : Scr} {many d : Int} (hd : d ≤ many) : blockL l many d = if (fateL l d).isSome = true then blk l d else none := by
  unfold blockL blk
  rw [firstB_congr (T := offT l many) (U := OffI l) fun j x a _ c => ?_]
  have h2 := dnS_nn l
  refine off_any l a ?_
  rw [span_up]
  omega
/-! the counts -/
theorem news_cnt (l : Scr) {last y : Int} (hy : y ≤ last) : (newOnes l (last + spanS l)).countP (fun x => decide (x.2.2 = some y)) = cntF l y := by
  have h1 := upS_nn l
  have h2 := dnS_nn l
  have h3 := span_up l
  rw [← newPre_cnt (last + spanS l + spanS l) l y (by omega)]
  unfold newOnes cntI
  rw [List.countP_filter]
  refine List.countP_congr fun x hx => ?_
  obtain ⟨i, f, q⟩ := x
  obtain ⟨n, e1, e2, e3⟩ := newPre_mem _ _ _ _ _ hx
  simp only [Bool.and_eq_true, decide_eq_true_eq]
  constructor
  · exact fun z => z.1
  · intro z
    refine ⟨z, ?_⟩
    rw [e3] at z
    have h4 := behS_near z
    have h5 : dnS (l.drop (n + 1)) ≤ dnS l := by
      have := dnS_nn (l.take (n + 1))
      have e : dnS l = dnS (l.take (n + 1)) + dnS (l.drop (n + 1)) := by rw [← dnS_app, List.take_append_drop]
      omega
    omega
end Dl
set_option Elab.async false
set_option linter.all false
set_option maxRecDepth 100000
set_option maxHeartbeats 2000000
/-! Stands are a heap of counts. -/
namespace Dl
open PySem PySem.Spec PyProof.Rows L2
theorem sort_int_eq (A B : List Int) : A.mergeSort (fun a b => decide (a ≤ b)) = B.mergeSort (fun a b => decide (a ≤ b)) ↔ A.Perm B := by
  constructor
  · intro h
    exact (List.mergeSort_perm A _).symm.trans (h ▸ List.mergeSort_perm B _)
  · intro h
    have hs : ∀ l : List Int, (l.mergeSort fun a b => decide (a ≤ b)).Pairwise fun a b => a ≤ b := fun l =>
      (List.pairwise_mergeSort (le := fun a b : Int => decide (a ≤ b)) (fun a b c h1 h2 => by simp at h1 h2 ⊢; omega) (fun a b => by simp; omega) l).imp fun hh => by simpa using hh
    exact List.Perm.eq_of_pairwise (fun a b _ _ h1 h2 => Int.le_antisymm h1 h2) (hs A) (hs B) ((List.mergeSort_perm A _).trans (h.trans (List.mergeSort_perm B _).symm))
theorem news_count (l : Scr) (many y : Int) : (((newOnes l (many + spanS l)).filter fun x => match x.2.2 with
    | some d => decide (d ≤ many)
    | none => false).map fun x => x.2.2.getD 0).count y = if y ≤ many then cntF l y else 0 := by
  rw [List.count_eq_countP, List.countP_map, List.countP_filter]
  split
  · rename_i h
    rw [← news_cnt l h]
    refine List.countP_congr fun x _ => ?_
    obtain ⟨i, f, q⟩ := x
    cases q with
    | none => simp
    | some d =>
      simp
      intro e
      omega
  · rename_i h
    rw [List.countP_eq_zero]
    intro x _
    obtain ⟨i, f, q⟩ := x
    cases q with
    | none => simp
    | some d =>
      simp
      intro e
      omega
theorem newsL_eq {l m : Scr} {many : Int} : newsL l many = newsL m many ↔ ∀ y, y ≤ many → cntF l y = cntF m y := by
  unfold newsL
  rw [sort_int_eq, List.perm_iff_count]
  constructor
  · intro h y hy
    have h1 := news_count l many y
    have h2 := news_count m many y
    rw [if_pos hy] at h1 h2
    exact h1.symm.trans ((h y).trans h2)
  · intro h y
    have h1 := news_count l many y
    have h2 := news_count m many y
    refine h1.trans (Eq.trans ?_ h2.symm)
    split
    · rename_i hy
      exact h y hy
    · rfl
/-! in_order -/
theorem leT_eq (a b : Tri) : leT a b = !decide ([b.1, b.2.1, b.2.2] < [a.1, a.2.1, a.2.2]) := by
  have e : leT a b = leD (encT a) (encT b) := rfl
  rw [e, leD_iff, ← PySem.W.dataLt_ints]
  have e2 : ∀ t : Tri, (encT t).toP = .tuple ([t.1, t.2.1, t.2.2].map .int) := fun t => by simp [encT, D.toP, D.toPs]
  rw [e2, e2, PySem.W.dataLt_tuple]
  rfl
theorem leT_anti {a b : Tri} (h1 : leT a b = true) (h2 : leT b a = true) : a = b := by
  obtain ⟨a1, a2, a3⟩ := a
  obtain ⟨b1, b2, b3⟩ := b
  rw [leT_eq] at h1 h2
  simp [List.cons_lt_cons_iff] at h1 h2
  simp only [Prod.mk.injEq]
  omega
theorem sortT_congr {A B : List Tri} (h : A.Perm B) : sortT A = sortT B := by
  have hs : ∀ l : List Tri, (sortT l).Pairwise fun a b => leT a b = true := fun l =>
    List.pairwise_mergeSort (le := leT) (fun a b c h1 h2 => leD_tr _ _ _ h1 h2) (fun a b => leD_tot _ _) l
  exact List.Perm.eq_of_pairwise (fun a b _ _ h1 h2 => leT_anti h1 h2) (hs A) (hs B) ((List.mergeSort_perm A _).trans (h.trans (List.mergeSort_perm B _).symm))
theorem inO_congr {S U : List St1} (h : S.Perm U) : inOrder S = inOrder U := by
  unfold inOrder
  have h1 := sortT_congr ((h.filter fun x => x.2.isSome).map fun x => ((x.1, 0, x.2.getD 0) : Tri))
  have h2 := (h.filter fun x => !x.2.isSome).map fun x => ((x.1, 1, 0) : Tri)
  rw [h1, sortT_congr (List.Perm.append_left _ h2)]
theorem inO_perm (S : List St1) : (inOrder S).Perm S := by
  unfold inOrder
  have p1 : ∀ A : List Tri, (sortT A).Perm A := fun A => List.mergeSort_perm A _
  refine ((p1 _).map _).trans ?_
  refine (((p1 _).append_right _).map _).trans ?_
  rw [List.map_append, List.map_map, List.map_map]
  have e1 : ((S.filter fun x => x.2.isSome).map ((fun t : Tri => ((t.1, if t.2.1 = 1 then none else some t.2.2) : St1)) ∘ fun x => (x.1, 0, x.2.getD 0))) = S.filter fun x => x.2.isSome := by
    rw [List.map_congr_left (g := id), List.map_id]
    intro x hx
    have := (List.mem_filter.mp hx).2
    obtain ⟨d, o⟩ := x
    cases o with
    | none => simp at this
    | some e => simp
  have e2 : ((S.filter fun x => !x.2.isSome).map ((fun t : Tri => ((t.1, if t.2.1 = 1 then none else some t.2.2) : St1)) ∘ fun x => (x.1, 1, 0))) = S.filter fun x => !x.2.isSome := by
    rw [List.map_congr_left (g := id), List.map_id]
    intro x hx
    have := (List.mem_filter.mp hx).2
    obtain ⟨d, o⟩ := x
    cases o with
    | none => simp
    | some e => simp at this
  rw [e1, e2]
  exact List.filter_append_perm _ S
theorem stands_iff {l m : Scr} {ds : List Int} {last : Int} : standsL l ds last = standsL m ds last ↔ (newsOf l ds last ++ oldsOf l ds last).Perm (newsOf m ds last ++ oldsOf m ds last) := by
  unfold standsL
  constructor
  · intro h
    exact (inO_perm _).symm.trans (h ▸ inO_perm _)
  · exact inO_congr
/-! how many new things the dates bar -/
def nB (l : Scr) (y : Int) : List Int → Nat
  | [] => 0
  | d :: ds => nB l y ds + if behS l (some d) = some y ∧ blk l d ≠ none ∧ ∀ e ∈ ds, blk l e ≠ blk l d then 1 else 0
theorem countP_split {α : Type} (p q : α → Bool) : ∀ l : List α, l.countP p = l.countP (fun x => p x && q x) + l.countP (fun x => p x && !q x)
  | [] => rfl
  | a :: l => by
    simp only [List.countP_cons, countP_split p q l]
    cases p a <;> cases q a <;> simp <;> omega
theorem bar_count (l : Scr) {last y : Int} (hy : y ≤ last) : ∀ ds : List Int, (newOnes l (last + spanS l)).countP (fun x => decide (x.2.2 = some y) && ds.any fun e => decide (blk l e = some (x.1, x.2.1))) = nB l y ds
  | [] => by simp [nB]
  | d :: ds => by
    rw [nB, ← bar_count l hy ds]
    rw [countP_split _ (fun x => ds.any fun e => decide (blk l e = some (x.1, x.2.1)))]
    congr 1
    · refine List.countP_congr fun x _ => ?_
      simp only [List.any_cons, Bool.and_eq_true, Bool.or_eq_true]
      exact ⟨fun z => ⟨z.1.1, z.2⟩, fun z => ⟨⟨z.1, .inr z.2⟩, z.2⟩⟩
    · have hkey : ∀ x ∈ newOnes l (last + spanS l), blk l d = some (x.1, x.2.1) → x.2.2 = behS l (some d) := fun x hx e => by
        obtain ⟨i, f, q⟩ := x
        have hx := (List.mem_filter.mp hx).1
        obtain ⟨n, h1, h2, h3⟩ := newPre_mem _ _ _ _ _ hx
        obtain ⟨k, g1, g2, g3, g4⟩ := blk_spec e
        have : n = k := by simp only at g1; omega
        subst this
        rw [g4]
        exact h3
      by_cases hc : behS l (some d) = some y ∧ blk l d ≠ none ∧ ∀ e ∈ ds, blk l e ≠ blk l d
      · rw [if_pos hc]
        obtain ⟨c1, c2, c3⟩ := hc
        cases hb : blk l d with
        | none => exact absurd hb c2
        | some b =>
          have hnd : ((newOnes l (last + spanS l)).map fun x => (x.1, x.2.1)).Nodup := ((List.filter_sublist).map _).nodup (newPre_keys _ l)
          have hcnt := hnd.count (a := b)
          obtain ⟨k, g1, g2, g3, g4⟩ := blk_spec hb
          have hin : b ∈ (newOnes l (last + spanS l)).map fun x => (x.1, x.2.1) := by
            have h4 := behS_near (g4 ▸ c1)
            have h5 : dnS (l.drop (k + 1)) ≤ dnS l := by
              have := dnS_nn (l.take (k + 1))
              have e : dnS l = dnS (l.take (k + 1)) + dnS (l.drop (k + 1)) := by rw [← dnS_app, List.take_append_drop]
              omega
            have h6 := span_up l
            have h7 := upS_nn l
            have h8 : b.2 ≤ last + spanS l := by omega
            obtain ⟨q, hq⟩ := (newPre_has (last + spanS l + spanS l) l k b.2 (by omega)).mpr g3
            refine List.mem_map.mpr ⟨_, List.mem_filter.mpr ⟨hq, by simpa using h8⟩, ?_⟩
            rw [← g1]
          rw [if_pos hin, List.count_eq_countP, List.countP_map] at hcnt
          rw [← hcnt]
          refine List.countP_congr fun x hx => ?_
          simp only [Bool.and_eq_true, decide_eq_true_eq, List.any_cons, Bool.or_eq_true, Bool.not_eq_true', Function.comp_apply, beq_iff_eq]
          constructor
          · rintro ⟨⟨z1, z2⟩, z3⟩
            rcases z2 with z2 | z2
            · rw [hb] at z2
              exact (Option.some.inj z2).symm
            · rw [z2] at z3
              cases z3
          · intro z
            have hbx : blk l d = some (x.1, x.2.1) := by rw [hb, z]
            refine ⟨⟨(hkey x hx hbx).trans c1, .inl (by rw [hb, z])⟩, ?_⟩
            rw [List.any_eq_false]
            intro e he
            simp only [decide_eq_true_eq]
            rw [← hbx]
            exact c3 e he
      · rw [if_neg hc, List.countP_eq_zero]
        intro x hx
        simp only [Bool.and_eq_true, decide_eq_true_eq, List.any_cons, Bool.or_eq_true, Bool.not_eq_true', not_and, Bool.not_eq_false]
        rintro ⟨z1, z2⟩
        rcases z2 with z2 | z2
        · refine Classical.byContradiction fun hno => hc ?_
          have hz := hkey x hx z2
          refine ⟨by rw [← hz, z1], by rw [z2]; simp, fun e he heq => ?_⟩
          have : (ds.any fun e => decide (blk l e = some (x.1, x.2.1))) = true := List.any_eq_true.mpr ⟨e, he, by rw [decide_eq_true_eq, heq, z2]⟩
          rw [this] at hno
          exact hno rfl
        · exact z2
theorem newsOf_count {l : Scr} (h : ∀ s ∈ l, s.Ok) (ds : List Int) (last : Int) (t : St1) : (newsOf l ds last).count t + (if t.2 = none ∧ t.1 ≤ last then nB l t.1 ds else 0) = if t.2 = none ∧ t.1 ≤ last then cntF l t.1 else 0 := by
  obtain ⟨y, o⟩ := t
  unfold newsOf
  rw [List.count_eq_countP, List.countP_map, List.countP_filter]
  by_cases hc : o = none ∧ y ≤ last
  · obtain ⟨rfl, hy⟩ := hc
    simp only [true_and, hy, if_true]
    rw [← news_cnt l hy, ← bar_count l hy ds, countP_split (fun x : Item => decide (x.2.2 = some y)) (fun x => ds.any fun e => decide (blk l e = some (x.1, x.2.1))), Nat.add_comm]
    congr 1
    refine List.countP_congr fun x _ => ?_
    obtain ⟨i, f, q⟩ := x
    simp only [blockN_eq h]
    cases q with
    | none => simp
    | some d =>
      simp
      intro e _
      omega
  · rw [if_neg hc, if_neg hc, Nat.add_zero, List.countP_eq_zero]
    intro x _
    obtain ⟨i, f, q⟩ := x
    cases q with
    | none => simp
    | some d =>
      simp
      intro e1 e2
      subst e1
      exact fun z => absurd ⟨e2.symm, z⟩ hc
end Dl
set_option Elab.async false
set_option linter.all false
set_option maxRecDepth 100000
set_option maxHeartbeats 2000000
/-! Alike, told of the scripts alone. -/
namespace Dl
open PySem PySem.Spec PyProof.Rows L2
structure Al (l m : Scr) : Prop where
  news : ∀ y, cntF l y = cntF m y
  fate : ∀ d, 0 ≤ d → behS l (some d) = behS m (some d)
  any : ∀ d, 0 ≤ d → behS l (some d) ≠ none → (blk l d = none ↔ blk m d = none)
  same : ∀ d e, 0 ≤ d → 0 ≤ e → behS l (some d) ≠ none → behS l (some e) ≠ none → blk l d ≠ none → (blk l d = blk l e ↔ blk m d = blk m e)
theorem Al.symm {l m : Scr} (h : Al l m) : Al m l where
  news y := (h.news y).symm
  fate d h0 := (h.fate d h0).symm
  any d h0 hf := (h.any d h0 (by rw [h.fate d h0]; exact hf)).symm
  same d e h0 h1 hf he hb := by
    have hf' : behS l (some d) ≠ none := by rw [h.fate d h0]; exact hf
    have he' : behS l (some e) ≠ none := by rw [h.fate e h1]; exact he
    exact (h.same d e h0 h1 hf' he' fun z => hb ((h.any d h0 hf').mp z)).symm
theorem Al.trans {l m n : Scr} (h : Al l m) (g : Al m n) : Al l n where
  news y := (h.news y).trans (g.news y)
  fate d h0 := (h.fate d h0).trans (g.fate d h0)
  any d h0 hf := (h.any d h0 hf).trans (g.any d h0 (by rw [← h.fate d h0]; exact hf))
  same d e h0 h1 hf he hb := (h.same d e h0 h1 hf he hb).trans (g.same d e h0 h1 (by rw [← h.fate d h0]; exact hf) (by rw [← h.fate e h1]; exact he) fun z => hb ((h.any d h0 hf).mpr z))
/-- one step more on both sides -/
theorem blk_lt {l : Scr} {d : Int} {b : Int × Int} (h : blk l d = some b) : b.1 < l.length := by
  obtain ⟨n, h1, h2, _⟩ := blk_spec h
  omega
theorem Al.snoc {l m : Scr} (h : Al l m) (s : Stp) : Al (l ++ [s]) (m ++ [s]) := by
  have hc : cntF l = cntF m := funext h.news
  have hadd : ∀ x, addAt l s x = addAt m s x := fun x => by
    unfold addAt
    rw [hc]
  have hb : ∀ (l : Scr) d, behS (l ++ [s]) (some d) = (behS l (some d)).bind (beh s) := fun l d => by
    rw [behS_app]
    rfl
  have hne : ∀ (l : Scr) d, behS (l ++ [s]) (some d) ≠ none → behS l (some d) ≠ none := fun l d hf z => hf (by rw [hb, z]; rfl)
  refine ⟨fun y => by rw [cntF_snoc, cntF_snoc, hc], fun d h0 => by rw [hb, hb, h.fate d h0], fun d h0 hf => ?_, fun d e h0 h1 hf he hbk => ?_⟩
  · have hf' := hne l d hf
    have ha := h.any d h0 hf'
    have hfd := h.fate d h0
    rw [blk_snoc, blk_snoc]
    cases e1 : blk l d with
    | some b =>
      cases e2 : blk m d with
      | some c => simp
      | none =>
        rw [e1, e2] at ha
        simp at ha
    | none =>
      cases e2 : blk m d with
      | some c =>
        rw [e1, e2] at ha
        simp at ha
      | none =>
        simp only
        rw [← hfd]
        cases behS l (some d) with
        | none => simp
        | some x =>
          simp only [hadd]
          split <;> simp
  · have hfd := hne l d hf
    have hfe := hne l e he
    have ha1 := h.any d h0 hfd
    have ha2 := h.any e h1 hfe
    have g1 := h.fate d h0
    have g2 := h.fate e h1
    have hs := h.same d e h0 h1 hfd hfe
    rw [blk_snoc] at hbk
    rw [blk_snoc l s d, blk_snoc l s e, blk_snoc m s d, blk_snoc m s e]
    cases e1 : blk l d with
    | some b =>
      have l1 := blk_lt e1
      cases e2 : blk m d with
      | none =>
        rw [e1, e2] at ha1
        simp at ha1
      | some c =>
        have l2 := blk_lt e2
        rw [e1, e2] at hs
        have hs := hs (by simp)
        cases e3 : blk l e with
        | some b' =>
          cases e4 : blk m e with
          | some c' =>
            rw [e3, e4] at hs
            exact hs
          | none =>
            rw [e3, e4] at ha2
            simp at ha2
        | none =>
          cases e4 : blk m e with
          | some c' =>
            rw [e3, e4] at ha2
            simp at ha2
          | none =>
            have no : ∀ (k : Scr) (b : Int × Int) (o : Option Int), b.1 < k.length → ¬ (some b = match o with
                | some x => if addAt k s x = true then some ((k.length : Int), x) else none
                | none => none) := fun k b o hlt z => by
              cases o with
              | none => simp at z
              | some x =>
                simp only at z
                split at z
                · simp only [Option.some.injEq] at z
                  rw [z] at hlt
                  simp at hlt
                · cases z
            exact ⟨fun z => absurd z (no l b _ l1), fun z => absurd z (no m c _ l2)⟩
    | none =>
      cases e2 : blk m d with
      | some c =>
        rw [e1, e2] at ha1
        simp at ha1
      | none =>
        rw [e1] at hbk
        simp only at hbk ⊢
        rw [← g1]
        cases q : behS l (some d) with
        | none => exact absurd q hfd
        | some x =>
          rw [q] at hbk
          simp only at hbk ⊢
          rw [hadd] at hbk ⊢
          by_cases hx : addAt m s x = true
          · rw [if_pos hx, if_pos hx]
            cases e3 : blk l e with
            | some b' =>
              cases e4 : blk m e with
              | some c' =>
                have l1 := blk_lt e3
                have l2 := blk_lt e4
                simp only [Option.some.injEq]
                constructor
                · intro z
                  rw [← z] at l1
                  simp at l1
                · intro z
                  rw [← z] at l2
                  simp at l2
              | none =>
                rw [e3, e4] at ha2
                simp at ha2
            | none =>
              cases e4 : blk m e with
              | some c' =>
                rw [e3, e4] at ha2
                simp at ha2
              | none =>
                simp only
                rw [← g2]
                cases q2 : behS l (some e) with
                | none => exact absurd q2 hfe
                | some x2 =>
                  simp only [hadd]
                  by_cases hx2 : addAt m s x2 = true
                  · rw [if_pos hx2, if_pos hx2]
                    simp
                  · rw [if_neg hx2, if_neg hx2]
                    simp
          · rw [if_neg hx] at hbk
            exact absurd rfl hbk
/-! rounds -/
theorem red {F N y : Int} (hN : 1 ≤ N) (hy : F ≤ y) : ∃ z t : Int, F ≤ z ∧ z < F + N ∧ 0 ≤ t ∧ N ∣ t ∧ y = z + t := by
  have h1 := Int.emod_nonneg (y - F) (show N ≠ 0 by omega)
  have h2 := Int.emod_lt_of_pos (y - F) (show 0 < N by omega)
  have h3 := Int.mul_ediv_add_emod (y - F) N
  have h4 := Int.mul_nonneg (show 0 ≤ N by omega) (Int.ediv_nonneg (show 0 ≤ y - F by omega) (show 0 ≤ N by omega))
  exact ⟨F + (y - F) % N, N * ((y - F) / N), by omega, by omega, h4, Int.dvd_mul_right _ _, by omega⟩
structure Rd (l : Scr) (F S N : Int) : Prop where
  ok : ∀ s ∈ l, s.Ok
  far : farS l ≤ F
  span : spanS l ≤ S
  rnd : rndS l ∣ N
theorem map_inj {o p : Option (Int × Int)} {t : Int} (h : o.map (fun x => (x.1, x.2 + t)) = p.map fun x => (x.1, x.2 + t)) : o = p := by
  cases o with
  | none =>
    cases p with
    | none => rfl
    | some y => simp at h
  | some x =>
    cases p with
    | none => simp at h
    | some y =>
      obtain ⟨a, b⟩ := x
      obtain ⟨c, d⟩ := y
      simp at h ⊢
      exact h
theorem near_two {l : Scr} {d e : Int} (h : blk l d ≠ none) (hh : blk l d = blk l e) : e ≤ d + spanS l := by
  cases q : blk l d with
  | none => exact absurd q h
  | some b =>
    have h1 := blk_near q
    have h2 := blk_near (hh ▸ q)
    rw [span_up]
    omega
section
variable {l m : Scr} {F S N M : Int} (rl : Rd l F S N) (rm : Rd m F S N) (hF : 0 ≤ F) (hS : 0 ≤ S) (hN : 1 ≤ N) (hM : F + S + N ≤ M)
include rl rm hN hM hS
theorem news_all (h : ∀ y, y ≤ M → cntF l y = cntF m y) (y : Int) : cntF l y = cntF m y := by
  by_cases hy : y ≤ M
  · exact h y hy
  · obtain ⟨z, t, h1, h2, h3, h4, rfl⟩ := red (F := F) (y := y) hN (by omega)
    rw [cnt_per rl.ok h3 (Int.dvd_trans rl.rnd h4) (by have := rl.far; omega), cnt_per rm.ok h3 (Int.dvd_trans rm.rnd h4) (by have := rm.far; omega)]
    exact h z (by omega)
theorem fate_all (h : ∀ d, 0 ≤ d → d < M → behS l (some d) = behS m (some d)) (hF : 0 ≤ F) (d : Int) (h0 : 0 ≤ d) : behS l (some d) = behS m (some d) := by
  by_cases hy : d < M
  · exact h d h0 hy
  · obtain ⟨z, t, h1, h2, h3, h4, rfl⟩ := red (F := F) (y := d) hN (by omega)
    rw [fate_per rl.ok h3 (Int.dvd_trans rl.rnd h4) (by have := rl.far; omega), fate_per rm.ok h3 (Int.dvd_trans rm.rnd h4) (by have := rm.far; omega)]
    rw [h z (by omega) (by omega)]
theorem any_all (h : ∀ d, 0 ≤ d → d < M → behS l (some d) ≠ none → (blk l d = none ↔ blk m d = none)) (hF : 0 ≤ F) (d : Int) (h0 : 0 ≤ d) (hf : behS l (some d) ≠ none) : blk l d = none ↔ blk m d = none := by
  by_cases hy : d < M
  · exact h d h0 hy hf
  · obtain ⟨z, t, h1, h2, h3, h4, rfl⟩ := red (F := F) (y := d) hN (by omega)
    rw [fate_per rl.ok h3 (Int.dvd_trans rl.rnd h4) (by have := rl.far; omega)] at hf
    rw [blk_per rl.ok h3 (Int.dvd_trans rl.rnd h4) (by have := rl.far; omega), blk_per rm.ok h3 (Int.dvd_trans rm.rnd h4) (by have := rm.far; omega)]
    have := h z (by omega) (by omega) fun q => hf (by rw [q]; rfl)
    simp only [Option.map_eq_none_iff]
    exact this
theorem same_all (h : ∀ d e, 0 ≤ d → d < e → e < M → behS l (some d) ≠ none → behS l (some e) ≠ none → blk l d ≠ none → blk l d = blk l e → blk m d = blk m e) (hF : 0 ≤ F) (d e : Int) (h0 : 0 ≤ d) (h1 : d < e) (hf : behS l (some d) ≠ none) (he : behS l (some e) ≠ none) (hb : blk l d ≠ none) (hs : blk l d = blk l e) : blk m d = blk m e := by
  by_cases hy : e < M
  · exact h d e h0 h1 hy hf he hb hs
  · have hn := near_two hb hs
    have hsp := rl.span
    obtain ⟨z, t, g1, g2, g3, g4, rfl⟩ := red (F := F) (y := d) hN (by omega)
    obtain ⟨e', rfl⟩ : ∃ e', e = e' + t := ⟨e - t, by omega⟩
    have k1 := rl.far
    have k2 := rm.far
    rw [fate_per rl.ok g3 (Int.dvd_trans rl.rnd g4) (by omega)] at hf he
    rw [blk_per rl.ok g3 (Int.dvd_trans rl.rnd g4) (by omega)] at hb hs
    rw [blk_per rl.ok g3 (Int.dvd_trans rl.rnd g4) (by omega)] at hs
    rw [blk_per rm.ok g3 (Int.dvd_trans rm.rnd g4) (by omega), blk_per rm.ok g3 (Int.dvd_trans rm.rnd g4) (by omega)]
    rw [h z e' (by omega) (by omega) (by omega) (fun q => hf (by rw [q]; rfl)) (fun q => he (by rw [q]; rfl)) (fun q => hb (by rw [q]; rfl)) (map_inj hs)]
end
theorem rd_of {l m : Scr} (hl : l.Ok) (hm : m.Ok) : Rd l (max (farS l) (farS m)) (max (spanS l) (spanS m)) (com (rndS l) (rndS m)) ∧ Rd m (max (farS l) (farS m)) (max (spanS l) (spanS m)) (com (rndS l) (rndS m)) ∧ 0 ≤ max (farS l) (farS m) ∧ 0 ≤ max (spanS l) (spanS m) ∧ 1 ≤ com (rndS l) (rndS m) ∧ max (farS l) (farS m) + max (spanS l) (spanS m) + com (rndS l) (rndS m) ≤ manyS l m := by
  obtain ⟨a1, a2, _⟩ := rnd_facts hl.all
  obtain ⟨b1, b2, _⟩ := rnd_facts hm.all
  obtain ⟨c1, c2, c3, c4⟩ := com_dvd a1 b1 a2 b2
  have d1 := (span_le hl).1
  have d2 := (span_le hm).1
  have e1 := (far_le hl).1
  have e2 := (far_le hm).1
  refine ⟨⟨hl.all, by omega, by omega, c3⟩, ⟨hm.all, by omega, by omega, c4⟩, by omega, by omega, c1, ?_⟩
  unfold manyS
  omega
theorem bL {l : Scr} {M d : Int} (hd : d ≤ M) (hf : behS l (some d) ≠ none) : blockL l M d = blk l d := by
  rw [blockL_eq hd, if_pos]
  unfold fateL
  cases q : behS l (some d) with
  | none => exact absurd q hf
  | some y => rfl
theorem bL_fate {l : Scr} {M d : Int} (hb : blockL l M d ≠ none) : behS l (some d) ≠ none := by
  intro z
  apply hb
  unfold blockL fateL
  rw [z]
  rfl
theorem isNone_iff {a b : Option (Int × Int)} : a.isNone = b.isNone ↔ (a = none ↔ b = none) := by
  cases a <;> cases b <;> simp
theorem tells_not {l m : Scr} {d : Int} (hd : d ≤ manyS l m) (h : ¬ Tells l m d) : behS l (some d) = behS m (some d) ∧ (behS l (some d) ≠ none → (blk l d = none ↔ blk m d = none)) := by
  have h1 : behS l (some d) = behS m (some d) := Classical.byContradiction fun z => h (.inl z)
  refine ⟨h1, fun hf => ?_⟩
  have h2 : (blockL l (manyS l m) d).isNone = (blockL m (manyS l m) d).isNone := Classical.byContradiction fun z => h (.inr z)
  rw [bL hd hf, bL hd (by rw [← h1]; exact hf)] at h2
  exact isNone_iff.mp h2
theorem alk_al {l m : Scr} (hl : l.Ok) (hm : m.Ok) : Alk l m ↔ Al l m := by
  obtain ⟨rl, rm, hF, hS, hN, hM⟩ := rd_of hl hm
  constructor
  · rintro ⟨h1, h2, h3⟩
    have fate := fate_all rl rm hS hN hM (fun d h0 hd => (tells_not (by omega) (h2 d h0 hd)).1) hF
    have any := any_all rl rm hS hN hM (fun d h0 hd hf => (tells_not (by omega) (h2 d h0 hd)).2 hf) hF
    have s1 := same_all rl rm hS hN hM (fun d e h0 hde he hf hfe hb hs => Classical.byContradiction fun z => h3 d e h0 hde he ⟨false, by
      have hm1 : behS m (some d) ≠ none := by rw [← fate d h0]; exact hf
      have hm2 : behS m (some e) ≠ none := by rw [← fate e (by omega)]; exact hfe
      simp only [blkS, Bool.not_false, if_true, Bool.false_eq_true, if_false]
      rw [bL (by omega) hf, bL (by omega) hfe, bL (by omega) hm1, bL (by omega) hm2]
      exact ⟨hb, hs, z⟩⟩) hF
    have s2 := same_all rm rl hS hN hM (fun d e h0 hde he hf hfe hb hs => Classical.byContradiction fun z => h3 d e h0 hde he ⟨true, by
      have hm1 : behS l (some d) ≠ none := by rw [fate d h0]; exact hf
      have hm2 : behS l (some e) ≠ none := by rw [fate e (by omega)]; exact hfe
      simp only [blkS, Bool.not_true, if_true, Bool.false_eq_true, if_false]
      rw [bL (by omega) hf, bL (by omega) hfe, bL (by omega) hm1, bL (by omega) hm2]
      exact ⟨hb, hs, z⟩⟩) hF
    refine ⟨news_all rl rm hS hN hM (newsL_eq.mp h1), fate, any, fun d e h0 h1 hf he hb => ?_⟩
    have fm : behS m (some d) ≠ none := by rw [← fate d h0]; exact hf
    have fe : behS m (some e) ≠ none := by rw [← fate e h1]; exact he
    have hbm : blk m d ≠ none := fun z => hb ((any d h0 hf).mpr z)
    rcases Int.lt_trichotomy d e with hlt | heq | hgt
    · exact ⟨s1 d e h0 hlt hf he hb, s2 d e h0 hlt fm fe hbm⟩
    · subst heq
      simp
    · constructor
      · intro z
        exact (s1 e d h1 hgt he hf (by rw [← z]; exact hb) z.symm).symm
      · intro z
        exact (s2 e d h1 hgt fe fm (by rw [← z]; exact hbm) z.symm).symm
  · intro h
    refine ⟨newsL_eq.mpr fun y _ => h.news y, fun d h0 hd ht => ?_, fun i j h0 hij hj hb => ?_⟩
    · rcases ht with ht | ht
      · exact ht (h.fate d h0)
      · apply ht
        rw [blockL_eq (by omega), blockL_eq (by omega)]
        unfold fateL
        rw [← h.fate d h0]
        split
        · rename_i hs
          exact isNone_iff.mpr (h.any d h0 fun z => by rw [z] at hs; cases hs)
        · rfl
    · have key : ∀ {l m : Scr} {M : Int}, j < M → Al l m → blockL l M i ≠ none → blockL l M i = blockL l M j → blockL m M i = blockL m M j := fun {l m M} hj h hb hs => by
        have f1 := bL_fate hb
        have f2 := bL_fate (hs ▸ hb)
        have f3 : behS m (some i) ≠ none := by rw [← h.fate i h0]; exact f1
        have f4 : behS m (some j) ≠ none := by rw [← h.fate j (by omega)]; exact f2
        rw [bL (by omega) f1] at hb hs
        rw [bL (by omega) f2] at hs
        rw [bL (by omega) f3, bL (by omega) f4]
        exact (h.same i j h0 (by omega) f1 f2 hb).mp hs
      obtain ⟨side, b1, b2, b3⟩ := hb
      cases side with
      | false => exact b3 (key hj h b1 b2)
      | true => exact b3 (key hj h.symm b1 b2)
end Dl
set_option Elab.async false
set_option linter.all false
set_option maxRecDepth 100000
set_option maxHeartbeats 2000000
/-! What the law asks of alike and parting. -/
namespace Dl
open PySem PySem.Spec PyProof.Rows L2
theorem blk_fate {l : Scr} {d e : Int} {b : Int × Int} (h1 : blk l d = some b) (h2 : blk l e = some b) : behS l (some d) = behS l (some e) := by
  obtain ⟨n, a1, a2, a3, a4⟩ := blk_spec h1
  obtain ⟨k, b1, b2, b3, b4⟩ := blk_spec h2
  have : n = k := by omega
  subst this
  rw [a4, b4]
theorem nB_le {l m : Scr} (h : Al l m) {y d : Int} {ds : List Int} (h0 : 0 ≤ d) (hd : ∀ e ∈ ds, 0 ≤ e) (hc : behS l (some d) = some y ∧ blk l d ≠ none ∧ ∀ e ∈ ds, blk l e ≠ blk l d) : behS m (some d) = some y ∧ blk m d ≠ none ∧ ∀ e ∈ ds, blk m e ≠ blk m d := by
  obtain ⟨c1, c2, c3⟩ := hc
  have hf : behS l (some d) ≠ none := by rw [c1]; simp
  have c4 : blk m d ≠ none := fun z => c2 ((h.any d h0 hf).mpr z)
  refine ⟨by rw [← h.fate d h0]; exact c1, c4, fun e he z => ?_⟩
  cases q : blk m d with
  | none => exact c4 q
  | some b =>
    have h1 := blk_fate q (z.trans q)
    have h2 : behS l (some e) ≠ none := by
      rw [h.fate e (hd e he), ← h1, ← h.fate d h0]
      exact hf
    exact c3 e he ((h.same d e h0 (hd e he) hf h2 c2).mpr z.symm).symm
theorem nB_eq {l m : Scr} (h : Al l m) (y : Int) : ∀ {ds : List Int}, (∀ e ∈ ds, 0 ≤ e) → nB l y ds = nB m y ds
  | [], _ => rfl
  | d :: ds, hd => by
    have h1 := nB_eq h y (ds := ds) fun e he => hd e (List.mem_cons_of_mem _ he)
    have h0 := hd d List.mem_cons_self
    have hds : ∀ e ∈ ds, 0 ≤ e := fun e he => hd e (List.mem_cons_of_mem _ he)
    rw [nB, nB, h1]
    congr 1
    by_cases hc : behS l (some d) = some y ∧ blk l d ≠ none ∧ ∀ e ∈ ds, blk l e ≠ blk l d
    · rw [if_pos hc, if_pos (nB_le h h0 hds hc)]
    · rw [if_neg hc, if_neg fun z => hc (nB_le h.symm h0 hds z)]
theorem map_filter_congr {α β : Type} {p q : α → Bool} {f g : α → β} {l : List α} (h : ∀ x ∈ l, p x = q x ∧ f x = g x) : (l.filter p).map f = (l.filter q).map g := by
  rw [List.filter_congr fun x hx => (h x hx).1]
  exact List.map_congr_left fun x hx => (h x (List.mem_filter.mp hx).1).2
theorem olds_eq {l m : Scr} {ds : List Int} (last : Int) (h : ∀ e ∈ ds, behS l (some e) = behS m (some e)) : oldsOf l ds last = oldsOf m ds last := by
  unfold oldsOf
  exact map_filter_congr fun e he => ⟨by rw [h e he], by rw [h e he]⟩
theorem stands_eq {l m : Scr} (hl : l.Ok) (hm : m.Ok) {ds : List Int} {last : Int} (hn : ∀ y, y ≤ last → cntF l y = cntF m y) (hf : ∀ e ∈ ds, behS l (some e) = behS m (some e)) (hb : ∀ y, y ≤ last → nB l y ds = nB m y ds) : standsL l ds last = standsL m ds last := by
  rw [stands_iff, olds_eq last hf]
  refine List.Perm.append_right _ (List.perm_iff_count.mpr fun t => ?_)
  have h1 := newsOf_count hl.all ds last t
  have h2 := newsOf_count hm.all ds last t
  by_cases hc : t.2 = none ∧ t.1 ≤ last
  · rw [if_pos hc, if_pos hc] at h1 h2
    have := hn t.1 hc.2
    have := hb t.1 hc.2
    omega
  · rw [if_neg hc, if_neg hc] at h1 h2
    omega
theorem stands_al {l m : Scr} (hl : l.Ok) (hm : m.Ok) (h : Al l m) {ds : List Int} (hd : ∀ e ∈ ds, 0 ≤ e) (last : Int) : standsL l ds last = standsL m ds last :=
  stands_eq hl hm (fun y _ => h.news y) (fun e he => h.fate e (hd e he)) fun y _ => nB_eq h y hd
/-- what equal stands say -/
theorem stands_news {l m : Scr} (hl : l.Ok) (hm : m.Ok) {ds : List Int} {last : Int} (h : standsL l ds last = standsL m ds last) {y : Int} (hy : y ≤ last) : cntF l y + nB m y ds = cntF m y + nB l y ds := by
  have hp := (List.perm_iff_count.mp (stands_iff.mp h)) (y, none)
  have h1 := newsOf_count hl.all ds last (y, none)
  have h2 := newsOf_count hm.all ds last (y, none)
  rw [if_pos ⟨rfl, hy⟩, if_pos ⟨rfl, hy⟩] at h1 h2
  have no : ∀ l : Scr, (oldsOf l ds last).count (y, none) = 0 := fun l => List.count_eq_zero.mpr fun z => by
    obtain ⟨e, _, q⟩ := List.mem_map.mp z
    simp at q
  rw [List.count_append, List.count_append, no, no] at hp
  simp only at h1 h2
  omega
theorem stands_old {l m : Scr} (hl : l.Ok) (hm : m.Ok) {ds : List Int} {last : Int} (h : standsL l ds last = standsL m ds last) {y e : Int} (he : e ∈ ds) (hy : y ≤ last) (hf : behS l (some e) = some y) : behS m (some e) = some y := by
  have h1 : (y, some e) ∈ newsOf l ds last ++ oldsOf l ds last := by
    refine List.mem_append.mpr (.inr (List.mem_map.mpr ⟨e, List.mem_filter.mpr ⟨he, ?_⟩, ?_⟩))
    · rw [hf]
      simpa using hy
    · rw [hf]
      rfl
  have h2 := (stands_iff.mp h).mem_iff.mp h1
  rcases List.mem_append.mp h2 with h2 | h2
  · unfold newsOf at h2
    obtain ⟨x, _, q⟩ := List.mem_map.mp h2
    simp at q
  · obtain ⟨e', hx, q⟩ := List.mem_map.mp h2
    simp only [Prod.mk.injEq, Option.some.injEq] at q
    obtain ⟨q1, rfl⟩ := q
    have := (List.mem_filter.mp hx).2
    cases r : behS m (some e') with
    | none => rw [r] at this; simp at this
    | some z =>
      rw [r] at q1
      simp at q1
      rw [q1]
def Part.days : Part → List Int
  | .no => []
  | .news => []
  | .one d => [d]
  | .two i j => [i, j]
def Parted (l m : Scr) (ds : List Int) (last : Int) : Prop := standsL l ds last ≠ standsL m ds last ∧ ∀ d ∈ ds, standsL l (ds.filter fun e => decide (e ≠ d)) last = standsL m (ds.filter fun e => decide (e ≠ d)) last
theorem nB_nil (l : Scr) (y : Int) : nB l y [] = 0 := rfl
theorem nB_one (l : Scr) (y d : Int) : nB l y [d] = if behS l (some d) = some y ∧ blk l d ≠ none then 1 else 0 := by
  simp [nB]
theorem nB_two (l : Scr) (y d e : Int) : nB l y [d, e] = (if behS l (some e) = some y ∧ blk l e ≠ none then 1 else 0) + if behS l (some d) = some y ∧ blk l d ≠ none ∧ blk l e ≠ blk l d then 1 else 0 := by
  simp [nB]
theorem parted {l m : Scr} (hl : l.Ok) (hm : m.Ok) {p : Part} (hp : IsPart l m p) (hno : p ≠ .no) {last : Int} (hlast : manyS l m + max (spanS l) (spanS m) ≤ last) : Parted l m p.days last := by
  obtain ⟨rl, rm, hF, hS, hN, hM⟩ := rd_of hl hm
  have nall : newsL l (manyS l m) = newsL m (manyS l m) → ∀ y, cntF l y = cntF m y := fun h => news_all rl rm hS hN hM (newsL_eq.mp h)
  have up : ∀ {l : Scr} {d y : Int}, spanS l ≤ max (spanS l) (spanS m) → behS l (some d) = some y → y ≤ d + spanS l := fun {l d y} _ h => by
    have := (behS_near h).2
    have := dnS_nn l
    rw [span_up]
    omega
  cases p with
  | no => exact absurd rfl hno
  | news =>
    refine ⟨fun h => hp (newsL_eq.mpr fun y hy => ?_), fun d hd => by cases hd⟩
    have := stands_news hl hm h (show y ≤ last by omega)
    rw [Part.days, nB_nil, nB_nil] at this
    omega
  | one d =>
    obtain ⟨h1, ⟨h2, h3⟩, h4⟩ := hp
    have hall := nall h1
    refine ⟨fun h => ?_, fun e he => ?_⟩
    · have hfe : behS l (some d) = behS m (some d) := by
        cases q1 : behS l (some d) with
        | some y =>
          have hy := (behS_near q1).2
          have h6 := dnS_nn l
          have h7 := span_up l
          exact (stands_old hl hm h (show d ∈ Part.days (.one d) by simp [Part.days]) (by omega) q1).symm
        | none =>
          cases q2 : behS m (some d) with
          | none => rfl
          | some y =>
            have hy := (behS_near q2).2
            have h6 := dnS_nn m
            have h7 := span_up m
            rw [stands_old hm hl h.symm (show d ∈ Part.days (.one d) by simp [Part.days]) (by omega) q2] at q1
            cases q1
      rcases h4 with h4 | h4
      · exact h4 hfe
      · apply h4
        rw [blockL_eq (by omega), blockL_eq (by omega)]
        unfold fateL
        rw [← hfe]
        cases q1 : behS l (some d) with
        | none => rfl
        | some y =>
          have hy := (behS_near q1).2
          have h6 := dnS_nn l
          have h7 := span_up l
          have h8 := stands_news hl hm h (show y ≤ last by omega)
          rw [Part.days, nB_one, nB_one, hall y, ← hfe, q1] at h8
          simp only [Option.isSome_some, if_true]
          refine isNone_iff.mpr ?_
          by_cases a : blk l d = none
          · by_cases b : blk m d = none
            · simp [a, b]
            · simp [a, b] at h8
          · by_cases b : blk m d = none
            · simp [a, b] at h8
            · simp [a, b]
    · simp only [Part.days, List.mem_singleton] at he
      subst he
      have e0 : ((Part.one e).days.filter fun x => decide (x ≠ e)) = [] := by simp [Part.days]
      rw [e0]
      exact stands_eq hl hm (fun y _ => hall y) (fun x hx => by cases hx) fun y _ => rfl
  | two i j =>
    obtain ⟨h1, h2, ⟨h3, h4, h5⟩, h6⟩ := hp
    have hall := nall h1
    have ti := tells_not (by omega) (h2 i h3 (by omega))
    have tj := tells_not (by omega) (h2 j (by omega) h5)
    have fates : ∀ e ∈ [i, j], behS l (some e) = behS m (some e) := fun e he => by
      simp at he
      rcases he with rfl | rfl
      · exact ti.1
      · exact tj.1
    have one : ∀ d, (behS l (some d) = behS m (some d) ∧ (behS l (some d) ≠ none → (blk l d = none ↔ blk m d = none))) → standsL l [d] last = standsL m [d] last := fun d t => by
      refine stands_eq hl hm (fun y _ => hall y) (fun x hx => ?_) fun y _ => ?_
      · simp at hx
        subst hx
        exact t.1
      · rw [nB_one, nB_one, ← t.1]
        by_cases q : behS l (some d) = some y
        · have := t.2 (by rw [q]; simp)
          simp only [q, true_and, ne_eq, this]
        · simp [q]
    refine ⟨fun h => ?_, fun e he => ?_⟩
    · have key : ∀ {l m : Scr} {M : Int}, i ≤ M → j ≤ M → l.Ok → m.Ok → manyS l m + 0 = manyS l m → standsL l [i, j] last = standsL m [i, j] last → (∀ y, cntF l y = cntF m y) → (behS l (some i) = behS m (some i) ∧ (behS l (some i) ≠ none → (blk l i = none ↔ blk m i = none))) → (behS l (some j) = behS m (some j) ∧ (behS l (some j) ≠ none → (blk l j = none ↔ blk m j = none))) → i + spanS l ≤ last → blockL l M i ≠ none → blockL l M i = blockL l M j → blockL m M i = blockL m M j := fun {l m M} hi hj hl hm _ h hall ti tj hsp hb hs => by
        have f1 := bL_fate hb
        have f2 := bL_fate (hs ▸ hb)
        have f3 : behS m (some i) ≠ none := by rw [← ti.1]; exact f1
        have f4 : behS m (some j) ≠ none := by rw [← tj.1]; exact f2
        rw [bL hi f1] at hb hs
        rw [bL hj f2] at hs
        rw [bL hi f3, bL hj f4]
        cases qb : blk l i with
        | none => exact absurd qb hb
        | some b =>
          have hfij := blk_fate qb (hs.symm.trans qb)
          cases qi : behS l (some i) with
          | none => exact absurd qi f1
          | some y =>
            have hy := (behS_near qi).2
            have k6 := dnS_nn l
            have k7 := span_up l
            have h8 := stands_news hl hm h (show y ≤ last by omega)
            have bi : blk m i ≠ none := fun z => hb ((ti.2 f1).mpr z)
            have bj : blk m j ≠ none := fun z => hb (hs.trans ((tj.2 f2).mpr z))
            rw [nB_two, nB_two, hall y, ← ti.1, ← tj.1, ← hfij, qi, ← hs] at h8
            refine Classical.byContradiction fun z => ?_
            have z2 : blk m j ≠ blk m i := fun q => z q.symm
            simp [hb, bi, bj, z2] at h8
      obtain ⟨side, b1, b2, b3⟩ := h6
      have ti2 : behS m (some i) = behS l (some i) ∧ (behS m (some i) ≠ none → (blk m i = none ↔ blk l i = none)) := ⟨ti.1.symm, fun z => (ti.2 (by rw [ti.1]; exact z)).symm⟩
      have tj2 : behS m (some j) = behS l (some j) ∧ (behS m (some j) ≠ none → (blk m j = none ↔ blk l j = none)) := ⟨tj.1.symm, fun z => (tj.2 (by rw [tj.1]; exact z)).symm⟩
      cases side with
      | false => exact b3 (key (M := manyS l m) (by omega) (by omega) hl hm (by omega) h hall ti tj (by omega) b1 b2)
      | true => exact b3 (key (M := manyS l m) (by omega) (by omega) hm hl (by omega) h.symm (fun y => (hall y).symm) ti2 tj2 (by omega) b1 b2)
    · simp only [Part.days, List.mem_cons, List.mem_singleton, List.not_mem_nil, or_false] at he
      rcases he with rfl | rfl
      · have e0 : ((Part.two e j).days.filter fun x => decide (x ≠ e)) = [j] := by
          have : j ≠ e := by omega
          simp [Part.days, this]
        rw [e0]
        exact one j tj
      · have e0 : ((Part.two i e).days.filter fun x => decide (x ≠ e)) = [i] := by
          have : i ≠ e := by omega
          simp [Part.days, this]
        rw [e0]
        exact one i ti
/-! cutting down -/
theorem Al.refl (l : Scr) : Al l l := ⟨fun _ => rfl, fun _ _ => rfl, fun _ _ _ => Iff.rfl, fun _ _ _ _ _ _ _ => Iff.rfl⟩
theorem pick_len {l : Scr} {n : Nat} : ∀ {lot : List Nat}, (∀ i ∈ lot, i < l.length) → (pick l lot).length = lot.length
  | [], _ => rfl
  | i :: lot, h => by
    have := pick_len (l := l) (n := n) (lot := lot) fun j hj => h j (List.mem_cons_of_mem _ hj)
    unfold pick at this ⊢
    rw [List.filterMap_cons, List.getElem?_eq_getElem (h i List.mem_cons_self)]
    simp only [List.length_cons, this]
theorem pick_erase {l : Scr} : ∀ {lot : List Nat} (k : Nat), (∀ i ∈ lot, i < l.length) → (pick l lot).eraseIdx k = pick l (lot.eraseIdx k)
  | [], k, _ => by simp [pick]
  | i :: lot, 0, h => by
    unfold pick
    rw [List.filterMap_cons, List.getElem?_eq_getElem (h i List.mem_cons_self)]
    rfl
  | i :: lot, k + 1, h => by
    have := pick_erase (lot := lot) k fun j hj => h j (List.mem_cons_of_mem _ hj)
    unfold pick at this ⊢
    rw [List.eraseIdx_cons_succ, List.filterMap_cons, List.filterMap_cons, List.getElem?_eq_getElem (h i List.mem_cons_self)]
    simp only [List.eraseIdx_cons_succ, this]
theorem lots_sub : ∀ {n : Nat} {x y : List Nat}, x ∈ lots n → List.Sublist y x → y ∈ lots n
  | 0, x, y, h, s => by
    simp [lots] at h
    subst h
    simp [List.sublist_nil.mp s, lots]
  | n + 1, x, y, h, s => by
    simp only [lots, List.mem_append, List.mem_map] at h ⊢
    rcases h with h | ⟨z, hz, rfl⟩
    · exact .inl (lots_sub h s)
    · obtain ⟨y1, y2, rfl, s1, s2⟩ := List.sublist_append_iff.mp s
      have h1 := lots_sub hz s1
      have s3 : y2 = [] ∨ y2 = [n] := by
        cases s2 with
        | cons _ h => exact .inl (List.sublist_nil.mp h)
        | cons_cons _ h => exact .inr (by rw [List.sublist_nil.mp h])
      rcases s3 with rfl | rfl
      · exact .inl (by simpa using h1)
      · exact .inr ⟨y1, h1, rfl⟩
/-- the shortest lot leaves no idle step -/
theorem cut_idle {l : Scr} (hl : Small l) {lot : List Nat} (hlot : lot ∈ lots l.length) (ha : Alk l (pick l lot)) (hmin : ∀ lot2 ∈ lots l.length, lot2.length < lot.length → ¬ Alk l (pick l lot2)) : Small (pick l lot) ∧ Alk (pick l lot) l ∧ ∀ i, i < (pick l lot).length → ¬ Alk (pick l lot) ((pick l lot).take i ++ (pick l lot).drop (i + 1)) := by
  have hs : List.Sublist (pick l lot) l := by
    have := pick_sub l l.length (Nat.le_refl _) lot hlot
    rwa [List.take_length] at this
  have hS := hl.sub hs
  have hA := (alk_al hl.toOk hS.toOk).mp ha
  have hlt := lot_lt _ lot hlot
  have hlen := pick_len (n := 0) hlt
  refine ⟨hS, (alk_al hS.toOk hl.toOk).mpr hA.symm, fun i hi hz => ?_⟩
  have hsub := erase_sub (pick l lot) i
  have hz2 := (alk_al hS.toOk (hS.sub hsub).toOk).mp hz
  rw [← List.eraseIdx_eq_take_drop_succ, pick_erase i hlt] at hz2
  have hin := lots_sub hlot (List.eraseIdx_sublist lot i)
  refine hmin _ hin ?_ ?_
  · rw [List.length_eraseIdx_of_lt (by omega)]
    omega
  · have hs2 : List.Sublist (pick l (lot.eraseIdx i)) l := by
      have := pick_sub l l.length (Nat.le_refl _) _ hin
      rwa [List.take_length] at this
    exact (alk_al hl.toOk (hl.sub hs2).toOk).mpr (hA.trans hz2)
end Dl
set_option Elab.async false
set_option linter.all false
set_option maxRecDepth 100000
set_option maxHeartbeats 8000000
namespace Dl
open PySem PySem.Spec PyProof.Rows L2
theorem ok_is_number {P : Program} {w : World} {K : PySem.W.Frag} {mg : Str → Option Value} {base : Heap} (c : Sys K mg) : ∃ fd, FnOk P w K mg base CX0 1 ((p_is_number).at_ K) fd ["thing"] (spD (pm K w) sp_is_number) ∧ Binds K fd ["thing"] [] := by
  obtain ⟨fd, F⟩ := c.d_is_number
  have S : FnScope ["thing"] ["thing"] (defScope (top 11)) := ⟨rfl, rfl, rfl, by decide +kernel, rfl, by decide +kernel, by decide +kernel⟩
  have hN : (["thing"] : List Str).Nodup := S.nd
  refine ⟨fd, fn_ok F S len_is_number fun cdv A outer s H E hr R => ?_, F.bindsN fun _ _ _ _ _ _ us hl => match us, hl with | [_], _ => rfl⟩
  exact ⟨_, d_is_number (pm K w) R, pdss_one (pds_ret (pd_and (pd_callB (kd_isi (K := K) c.insC) rfl c.n_isinstance (by rfl) (pda_cons (pd 0) (pda_cons (pd_ty rfl c.n_int (by rfl)) (pda_nil)))) (pd_one (pd_not (pd_callB (kd_isi (K := K) c.insC) rfl c.n_isinstance (by rfl) (pda_cons (pd 0) (pda_cons (pd_ty rfl c.n_bool (by rfl)) (pda_nil)))))))), fun ds kk h => law_is_number _ R ds kk h⟩
theorem raw_is_number {P : Program} {w : World} {K : PySem.W.Frag} {mg : Str → Option Value} {base : Heap} (c : Sys K mg) : FnR P w K mg base CX0 1 ((p_is_number).at_ K) (spD (pm K w) sp_is_number) := let ⟨_, F, B⟩ := ok_is_number (P := P) (w := w) (base := base) c; raw0 F B
theorem ok_is_list {P : Program} {w : World} {K : PySem.W.Frag} {mg : Str → Option Value} {base : Heap} (c : Sys K mg) : ∃ fd, FnOk P w K mg base CX0 1 ((p_is_list).at_ K) fd ["thing"] (spD (pm K w) sp_is_list) ∧ Binds K fd ["thing"] [] := by
  obtain ⟨fd, F⟩ := c.d_is_list
  have S : FnScope ["thing"] ["thing"] (defScope (top 12)) := ⟨rfl, rfl, rfl, by decide +kernel, rfl, by decide +kernel, by decide +kernel⟩
  have hN : (["thing"] : List Str).Nodup := S.nd
  refine ⟨fd, fn_ok F S len_is_list fun cdv A outer s H E hr R => ?_, F.bindsN fun _ _ _ _ _ _ us hl => match us, hl with | [_], _ => rfl⟩
  exact ⟨_, d_is_list (pm K w) R, pdss_one (pds_ret (pd_callB (kd_isi (K := K) c.insC) rfl c.n_isinstance (by rfl) (pda_cons (pd 0) (pda_cons (pd_tup (pda_cons (pd_ty rfl c.n_list (by rfl)) (pda_cons (pd_ty rfl c.n_tuple (by rfl)) (pda_nil)))) (pda_nil))))), fun ds kk h => law_is_list _ R ds kk h⟩
theorem raw_is_list {P : Program} {w : World} {K : PySem.W.Frag} {mg : Str → Option Value} {base : Heap} (c : Sys K mg) : FnR P w K mg base CX0 1 ((p_is_list).at_ K) (spD (pm K w) sp_is_list) := let ⟨_, F, B⟩ := ok_is_list (P := P) (w := w) (base := base) c; raw0 F B
theorem ok_are_different {P : Program} {w : World} {K : PySem.W.Frag} {mg : Str → Option Value} {base : Heap} (c : Sys K mg) : ∃ fd, FnOk P w K mg base CX0 2 ((p_are_different).at_ K) fd ["thing", "least", "most"] (spD (pm K w) sp_are_different) ∧ Binds K fd ["thing", "least", "most"] [] := by
  obtain ⟨fd, F⟩ := c.d_are_different
  have S : FnScope ["thing", "least", "most", "item"] ["thing", "least", "most"] (defScope (top 13)) := ⟨rfl, rfl, rfl, by decide +kernel, rfl, by decide +kernel, by decide +kernel⟩
  have hN : (["thing", "least", "most", "item"] : List Str).Nodup := S.nd
  refine ⟨fd, fn_ok F S len_are_different fun cdv A outer s H E hr R => ?_, F.bindsN fun _ _ _ _ _ _ us hl => match us, hl with | [_, _, _], _ => rfl⟩
  exact ⟨_, d_are_different (pm K w) R, pdss_cons (pds_if (PDW.pt (pdw_or (pdt_not (pdt_val (pd_call (raw_is_list c) (hr.mono (by decide : 1 ≤ 1)) rfl c.g_is_list c.k_is_list (pda_cons (pd 0) (pda_nil))))) (pdw_or1 (pdt_not (pdt_val (pd_callB (kd_all (K := K) rfl) rfl c.n_all (by rfl) (pda_cons (pd_lc [("item", 3)] rfl hN (ki_seq (K := K) (pd 0)) (blkOk_by (N := ["thing", "least", "most", "item"]) (sc := defScope (top 13)) (by decide +kernel)) (fun _ _ _ _ _ => pdg_name 3 hN) (fun _ _ _ _ _ => pdts_nil) (fun _ _ _ _ _ => pd_and (pd_call (raw_is_number c) (hr.mono (by decide : 1 ≤ 1)) rfl c.g_is_number c.k_is_number (pda_cons (pd 3) (pda_nil))) (pd_one (pd_chain od_le od_le (pd 1) (pd 3) (pd 2))))) (pda_nil)))))))) (pdss_one (pds_ret (pd_bl))) (pdss_nil)) (pdss_one (pds_ret (pd_cmp (ke_eq (K := K) hr.units) (k_lenSet (K := K) rfl rfl c.n_len rfl c.n_set (pd_callTy (kd_list (K := K)) rfl c.n_list (by rfl) (pda_cons (pd 0) (pda_nil)))) (pd_callB (kd_len (K := K)) rfl c.n_len (by rfl) (pda_cons (pd 0) (pda_nil)))))), fun ds kk h => law_are_different _ R ds kk h⟩
theorem raw_are_different {P : Program} {w : World} {K : PySem.W.Frag} {mg : Str → Option Value} {base : Heap} (c : Sys K mg) : FnR P w K mg base CX0 2 ((p_are_different).at_ K) (spD (pm K w) sp_are_different) := let ⟨_, F, B⟩ := ok_are_different (P := P) (w := w) (base := base) c; raw0 F B
theorem ok_common {P : Program} {w : World} {K : PySem.W.Frag} {mg : Str → Option Value} {base : Heap} (c : Sys K mg) : ∃ fd, FnOk P w K mg base CX0 1 ((p_common).at_ K) fd ["one", "other"] (spD (pm K w) sp_common) ∧ Binds K fd ["one", "other"] [] := by
  obtain ⟨fd, F⟩ := c.d_common
  have S : FnScope ["one", "other", "left", "right"] ["one", "other"] (defScope (top 14)) := ⟨rfl, rfl, rfl, by decide +kernel, rfl, by decide +kernel, by decide +kernel⟩
  have hN : (["one", "other", "left", "right"] : List Str).Nodup := S.nd
  refine ⟨fd, fn_ok F S len_common fun cdv A outer s H E hr R => ?_, F.bindsN fun _ _ _ _ _ _ us hl => match us, hl with | [_, _], _ => rfl⟩
  exact ⟨_, d_common (pm K w) R, pdss_cons (pds_par rfl hN (sl_val (pd 0)) (sl_val (pd 1))) (pdss_cons (pds_while (pdt_cmp od_gt (pd 3) (pd_int)) (pdss_one (pds_par rfl hN (sl_val (pd 3)) (sl_val (pd_op od_mod (pd 2) (pd 3)))))) (pdss_one (pds_ret (pd_op od_mul (pd_op od_fdiv (pd 0) (pd 2)) (pd 1))))), fun ds kk h => law_common _ R ds kk h⟩
theorem raw_common {P : Program} {w : World} {K : PySem.W.Frag} {mg : Str → Option Value} {base : Heap} (c : Sys K mg) : FnR P w K mg base CX0 1 ((p_common).at_ K) (spD (pm K w) sp_common) := let ⟨_, F, B⟩ := ok_common (P := P) (w := w) (base := base) c; raw0 F B
theorem ok_repeats {P : Program} {w : World} {K : PySem.W.Frag} {mg : Str → Option Value} {base : Heap} (c : Sys K mg) : ∃ fd, FnOk P w K mg base CX0 1 ((p_repeats).at_ K) fd ["size", "rests", "part"] (spD (pm K w) sp_repeats) ∧ Binds K fd ["size", "rests", "part"] [] := by
  obtain ⟨fd, F⟩ := c.d_repeats
  have S : FnScope ["size", "rests", "part", "rest"] ["size", "rests", "part"] (defScope (top 15)) := ⟨rfl, rfl, rfl, by decide +kernel, rfl, by decide +kernel, by decide +kernel⟩
  have hN : (["size", "rests", "part", "rest"] : List Str).Nodup := S.nd
  refine ⟨fd, fn_ok F S len_repeats fun cdv A outer s H E hr R => ?_, F.bindsN fun _ _ _ _ _ _ us hl => match us, hl with | [_, _, _], _ => rfl⟩
  exact ⟨_, d_repeats (pm K w) R, pdss_one (pds_ret (pd_callB (kd_all (K := K) rfl) rfl c.n_all (by rfl) (pda_cons (pd_lc [("rest", 3)] rfl hN (ki_seq (K := K) (pd 1)) (blkOk_by (N := ["size", "rests", "part", "rest"]) (sc := defScope (top 15)) (by decide +kernel)) (fun _ _ _ _ _ => pdg_name 3 hN) (fun _ _ _ _ _ => pdts_nil) (fun _ _ _ _ _ => pd_cmp (ke_in (K := K)) (pd_op od_mod (pd_op (ke_add (K := K)) (pd 3) (pd 2)) (pd 0)) (pd 1))) (pda_nil)))), fun ds kk h => law_repeats _ R ds kk h⟩
theorem raw_repeats {P : Program} {w : World} {K : PySem.W.Frag} {mg : Str → Option Value} {base : Heap} (c : Sys K mg) : FnR P w K mg base CX0 1 ((p_repeats).at_ K) (spD (pm K w) sp_repeats) := let ⟨_, F, B⟩ := ok_repeats (P := P) (w := w) (base := base) c; raw0 F B
theorem ok_least_form {P : Program} {w : World} {K : PySem.W.Frag} {mg : Str → Option Value} {base : Heap} (c : Sys K mg) : ∃ fd, FnOk P w K mg base CX0 2 ((p_least_form).at_ K) fd ["size", "rests"] (spD (pm K w) sp_least_form) ∧ Binds K fd ["size", "rests"] [] := by
  obtain ⟨fd, F⟩ := c.d_least_form
  have S : FnScope ["size", "rests", "parts", "part", "rest"] ["size", "rests"] (defScope (top 16)) := ⟨rfl, rfl, rfl, by decide +kernel, rfl, by decide +kernel, by decide +kernel⟩
  have hN : (["size", "rests", "parts", "part", "rest"] : List Str).Nodup := S.nd
  refine ⟨fd, fn_ok F S len_least_form fun cdv A outer s H E hr R => ?_, F.bindsN fun _ _ _ _ _ _ us hl => match us, hl with | [_, _], _ => rfl⟩
  exact ⟨_, d_least_form (pm K w) R, pdss_cons (pds_set 2 hN (pd_lc [("part", 3)] rfl hN (pdi_rng2 rfl c.n_range (pda_cons (pd_int) (pda_cons (pd_op (ke_add (K := K)) (pd 0) (pd_int)) (pda_nil)))) (blkOk_by (N := ["size", "rests", "parts", "part", "rest"]) (sc := defScope (top 16)) (by decide +kernel)) (fun _ _ _ _ _ => pdg_name 3 hN) (fun _ _ _ _ _ => pdts_one (PDW.pt (pdw_and (pdt_cmp (ke_eq (K := K) hr.units) (pd_op od_mod (pd 0) (pd 3)) (pd_int)) (pdw_and1 (pdt_val (pd_call (raw_repeats c) (hr.mono (by decide : 1 ≤ 1)) rfl c.g_repeats c.k_repeats (pda_cons (pd 0) (pda_cons (pd 1) (pda_cons (pd 3) (pda_nil)))))))))) (fun _ _ _ _ _ => pd 3))) (pdss_one (pds_ret (pd_tup (pda_cons (k_ix (K := K) (pd 2) (pd_int)) (pda_cons (pd_callTy (kd_tuple (K := K)) rfl c.n_tuple (by rfl) (pda_cons (pd_lc [("rest", 4)] rfl hN (ki_seq (K := K) (pd_callB (cd_sorted hr.units) rfl c.n_sorted (by rfl) (pda_cons (pd 1) (pda_nil)))) (blkOk_by (N := ["size", "rests", "parts", "part", "rest"]) (sc := defScope (top 16)) (by decide +kernel)) (fun _ _ _ _ _ => pdg_name 4 hN) (fun _ _ _ _ _ => pdts_one (pdt_cmp od_lt (pd 4) (k_ix (K := K) (pd 2) (pd_int)))) (fun _ _ _ _ _ => pd 4)) (pda_nil))) (pda_nil)))))), fun ds kk h => law_least_form _ R ds kk h⟩
theorem raw_least_form {P : Program} {w : World} {K : PySem.W.Frag} {mg : Str → Option Value} {base : Heap} (c : Sys K mg) : FnR P w K mg base CX0 2 ((p_least_form).at_ K) (spD (pm K w) sp_least_form) := let ⟨_, F, B⟩ := ok_least_form (P := P) (w := w) (base := base) c; raw0 F B
theorem ok_Rhythm_init {P : Program} {w : World} {K : PySem.W.Frag} {mg : Str → Option Value} {base : Heap} (c : Sys K mg) : ∃ fd, FnOk P w K mg base CX0 3 ((p_Rhythm_init).at_ K) fd ["self", "size", "rests"] (spI (pm K w) 0 sp_Rhythm_init) ∧ Binds K fd ["self", "size", "rests"] [] := by
  obtain ⟨fd, F⟩ := c.d_Rhythm_init
  obtain ⟨_, e_MOST_SIZE⟩ := c.i_MOST_SIZE
  have S : FnScope ["self", "size", "rests"] ["self", "size", "rests"] (defScope (inClass (top 17) 0)) := ⟨rfl, rfl, rfl, by decide +kernel, rfl, by decide +kernel, by decide +kernel⟩
  have hN : (["self", "size", "rests"] : List Str).Nodup := S.nd
  refine ⟨fd, fn_init F S len_Rhythm_init fun cdv A outer s H E hr R => ?_, F.bindsN fun _ _ _ _ _ _ us hl => match us, hl with | [_, _, _], _ => rfl⟩
  exact ⟨_, d_Rhythm_init (pm K w) R, pdss_cons (pds_if (PDW.pt (pdw_or (pdt_not (pdt_val (pd_call (raw_is_number c) (hr.mono (by decide : 1 ≤ 2)) rfl c.g_is_number c.k_is_number (pda_cons (pd 1) (pda_nil))))) (pdw_or1 (pdt_not (pdt_chain od_le od_le (pd_int) (pd 1) (pd_globI rfl e_MOST_SIZE)))))) (pdss_one (pds_never)) (pdss_nil)) (pdss_cons (pds_if (pdt_not (pdt_val (pd_call (raw_are_different c) (hr.mono (by decide : 2 ≤ 2)) rfl c.g_are_different c.k_are_different (pda_cons (pd 2) (pda_cons (pd_int) (pda_cons (pd_op od_sub (pd 1) (pd_int)) (pda_nil))))))) (pdss_one (pds_never)) (pdss_nil)) (pdss_one (pds_fld 0 c.c_Rhythm c.na_own_form (pd_call (raw_least_form c) (hr.mono (by decide : 2 ≤ 2)) rfl c.g_least_form c.k_least_form (pda_cons (pd 1) (pda_cons (pd_callTy (kd_list (K := K)) rfl c.n_list (by rfl) (pda_cons (pd 2) (pda_nil))) (pda_nil))))))), fun x ds kk h => law_Rhythm_init _ rfl R x ds kk h⟩
theorem raw_Rhythm_init {P : Program} {w : World} {K : PySem.W.Frag} {mg : Str → Option Value} {base : Heap} (c : Sys K mg) : FnR P w K mg base CX0 3 ((p_Rhythm_init).at_ K) (spI (pm K w) 0 sp_Rhythm_init) := let ⟨_, F, B⟩ := ok_Rhythm_init (P := P) (w := w) (base := base) c; raw0 F B
theorem ok_Rhythm_size {P : Program} {w : World} {K : PySem.W.Frag} {mg : Str → Option Value} {base : Heap} (c : Sys K mg) : ∃ fd, FnOk P w K mg base CX0 1 ((p_Rhythm_size).at_ K) fd ["self"] (spD (pm K w) sp_Rhythm_size) ∧ Binds K fd ["self"] [] := by
  obtain ⟨fd, F⟩ := c.d_Rhythm_size
  have S : FnScope ["self"] ["self"] (defScope (inClass (top 17) 2)) := ⟨rfl, rfl, rfl, by decide +kernel, rfl, by decide +kernel, by decide +kernel⟩
  have hN : (["self"] : List Str).Nodup := S.nd
  refine ⟨fd, fn_ok F S len_Rhythm_size fun cdv A outer s H E hr R => ?_, F.bindsN fun _ _ _ _ _ _ us hl => match us, hl with | [_], _ => rfl⟩
  exact ⟨_, d_Rhythm_size (pm K w) R, pdss_one (pds_ret (k_ix (K := K) (k_fld (K := K) 0 (pd 0) c.c_Rhythm rfl c.na_own_form) (pd_int))), fun ds kk h => law_Rhythm_size _ R ds kk h⟩
theorem raw_Rhythm_size {P : Program} {w : World} {K : PySem.W.Frag} {mg : Str → Option Value} {base : Heap} (c : Sys K mg) : FnR P w K mg base CX0 1 ((p_Rhythm_size).at_ K) (spD (pm K w) sp_Rhythm_size) := let ⟨_, F, B⟩ := ok_Rhythm_size (P := P) (w := w) (base := base) c; raw0 F B
theorem ok_Rhythm_contains {P : Program} {w : World} {K : PySem.W.Frag} {mg : Str → Option Value} {base : Heap} (c : Sys K mg) : ∃ fd, FnOk P w K mg base CX0 2 ((p_Rhythm_contains).at_ K) fd ["self", "day"] (spD (pm K w) sp_Rhythm_contains) ∧ Binds K fd ["self", "day"] [] := by
  obtain ⟨fd, F⟩ := c.d_Rhythm_contains
  have S : FnScope ["self", "day"] ["self", "day"] (defScope (inClass (top 17) 5)) := ⟨rfl, rfl, rfl, by decide +kernel, rfl, by decide +kernel, by decide +kernel⟩
  have hN : (["self", "day"] : List Str).Nodup := S.nd
  refine ⟨fd, fn_ok F S len_Rhythm_contains fun cdv A outer s H E hr R => ?_, F.bindsN fun _ _ _ _ _ _ us hl => match us, hl with | [_, _], _ => rfl⟩
  exact ⟨_, d_Rhythm_contains (pm K w) R, pdss_one (pds_ret (pd_and (pd_call (raw_is_number c) (hr.mono (by decide : 1 ≤ 1)) rfl c.g_is_number c.k_is_number (pda_cons (pd 1) (pda_nil))) (pd_one (pd_cmp (ke_in (K := K)) (pd_op od_mod (pd 1) (k_ix (K := K) (k_fld (K := K) 0 (pd 0) c.c_Rhythm rfl c.na_own_form) (pd_int))) (k_ix (K := K) (k_fld (K := K) 0 (pd 0) c.c_Rhythm rfl c.na_own_form) (pd_int)))))), fun ds kk h => law_Rhythm_contains _ R ds kk h⟩
theorem raw_Rhythm_contains {P : Program} {w : World} {K : PySem.W.Frag} {mg : Str → Option Value} {base : Heap} (c : Sys K mg) : FnR P w K mg base CX0 2 ((p_Rhythm_contains).at_ K) (spD (pm K w) sp_Rhythm_contains) := let ⟨_, F, B⟩ := ok_Rhythm_contains (P := P) (w := w) (base := base) c; raw0 F B
theorem ok_common_round {P : Program} {w : World} {K : PySem.W.Frag} {mg : Str → Option Value} {base : Heap} (c : Sys K mg) : ∃ fd, FnOk P w K mg base CX0 3 ((p_common_round).at_ K) fd ["rhythms"] (spD (pm K w) sp_common_round) ∧ Binds K fd ["rhythms"] [] := by
  obtain ⟨fd, F⟩ := c.d_common_round
  obtain ⟨_, F_Rhythm_size, B_Rhythm_size⟩ := ok_Rhythm_size (P := P) (w := w) (base := base) c
  have S : FnScope ["rhythms", "found", "rhythm"] ["rhythms"] (defScope (top 18)) := ⟨rfl, rfl, rfl, by decide +kernel, rfl, by decide +kernel, by decide +kernel⟩
  have hN : (["rhythms", "found", "rhythm"] : List Str).Nodup := S.nd
  refine ⟨fd, fn_ok F S len_common_round fun cdv A outer s H E hr R => ?_, F.bindsN fun _ _ _ _ _ _ us hl => match us, hl with | [_], _ => rfl⟩
  exact ⟨_, d_common_round (pm K w) R, pdss_cons (pds_set 1 hN (pd_int)) (pdss_cons (pds_for rfl (ki_seq (K := K) (pd 0)) (pdg_name 2 hN) (pdss_one (pds_set 1 hN (pd_call (raw_common c) (hr.mono (by decide : 1 ≤ 2)) rfl c.g_common c.k_common (pda_cons (pd 1) (pda_cons (pd_prop (pd 2) c.c_Rhythm c.pr_Rhythm_size F_Rhythm_size B_Rhythm_size (hr.mono (by decide : 2 ≤ 2))) (pda_nil))))))) (pdss_one (pds_ret (pd 1)))), fun ds kk h => law_common_round _ R ds kk h⟩
theorem raw_common_round {P : Program} {w : World} {K : PySem.W.Frag} {mg : Str → Option Value} {base : Heap} (c : Sys K mg) : FnR P w K mg base CX0 3 ((p_common_round).at_ K) (spD (pm K w) sp_common_round) := let ⟨_, F, B⟩ := ok_common_round (P := P) (w := w) (base := base) c; raw0 F B
theorem ok_is_step_number {P : Program} {w : World} {K : PySem.W.Frag} {mg : Str → Option Value} {base : Heap} (c : Sys K mg) : ∃ fd, FnOk P w K mg base CX0 2 ((p_is_step_number).at_ K) fd ["thing"] (spD (pm K w) sp_is_step_number) ∧ Binds K fd ["thing"] [] := by
  obtain ⟨fd, F⟩ := c.d_is_step_number
  obtain ⟨_, e_FARTHEST⟩ := c.i_FARTHEST
  have S : FnScope ["thing"] ["thing"] (defScope (top 30)) := ⟨rfl, rfl, rfl, by decide +kernel, rfl, by decide +kernel, by decide +kernel⟩
  have hN : (["thing"] : List Str).Nodup := S.nd
  refine ⟨fd, fn_ok F S len_is_step_number fun cdv A outer s H E hr R => ?_, F.bindsN fun _ _ _ _ _ _ us hl => match us, hl with | [_], _ => rfl⟩
  exact ⟨_, d_is_step_number (pm K w) R, pdss_one (pds_ret (pd_and (pd_call (raw_is_number c) (hr.mono (by decide : 1 ≤ 1)) rfl c.g_is_number c.k_is_number (pda_cons (pd 0) (pda_nil))) (pd_one (pd_chain od_le od_le (pd_neg (pd_globI rfl e_FARTHEST)) (pd 0) (pd_globI rfl e_FARTHEST))))), fun ds kk h => law_is_step_number _ R ds kk h⟩
theorem raw_is_step_number {P : Program} {w : World} {K : PySem.W.Frag} {mg : Str → Option Value} {base : Heap} (c : Sys K mg) : FnR P w K mg base CX0 2 ((p_is_step_number).at_ K) (spD (pm K w) sp_is_step_number) := let ⟨_, F, B⟩ := ok_is_step_number (P := P) (w := w) (base := base) c; raw0 F B
theorem ok_is_plain_step {P : Program} {w : World} {K : PySem.W.Frag} {mg : Str → Option Value} {base : Heap} (c : Sys K mg) : ∃ fd, FnOk P w K mg base CX0 3 ((p_is_plain_step).at_ K) fd ["thing"] (spD (pm K w) sp_is_plain_step) ∧ Binds K fd ["thing"] [] := by
  obtain ⟨fd, F⟩ := c.d_is_plain_step
  obtain ⟨_, e_FROM⟩ := c.s_FROM
  obtain ⟨_, e_KEEP⟩ := c.s_KEEP
  obtain ⟨_, e_SHIFT⟩ := c.s_SHIFT
  obtain ⟨_, e_STRIKE⟩ := c.s_STRIKE
  obtain ⟨_, e_UNTIL⟩ := c.s_UNTIL
  have S : FnScope ["thing"] ["thing"] (defScope (top 31)) := ⟨rfl, rfl, rfl, by decide +kernel, rfl, by decide +kernel, by decide +kernel⟩
  have hN : (["thing"] : List Str).Nodup := S.nd
  refine ⟨fd, fn_ok F S len_is_plain_step fun cdv A outer s H E hr R => ?_, F.bindsN fun _ _ _ _ _ _ us hl => match us, hl with | [_], _ => rfl⟩
  exact ⟨_, d_is_plain_step (pm K w) R, pdss_cons (pds_if (PDW.pt (pdw_or (pdt_not (pdt_val (pd_callB (kd_isi (K := K) c.insC) rfl c.n_isinstance (by rfl) (pda_cons (pd 0) (pda_cons (pd_ty rfl c.n_tuple (by rfl)) (pda_nil)))))) (pdw_or (pdt_cmp (ke_ne (K := K) hr.units) (pd_callB (kd_len (K := K)) rfl c.n_len (by rfl) (pda_cons (pd 0) (pda_nil))) (pd_int)) (pdw_or1 (pdt_not (pdt_val (pd_callB (kd_isi (K := K) c.insC) rfl c.n_isinstance (by rfl) (pda_cons (k_ix (K := K) (pd 0) (pd_int)) (pda_cons (pd_ty rfl c.n_str (by rfl)) (pda_nil)))))))))) (pdss_one (pds_ret (pd_bl))) (pdss_nil)) (pdss_cons (pds_if (pdt_cmp (ke_in (K := K)) (k_ix (K := K) (pd 0) (pd_int)) (pd_tup (pda_cons (pd_globS rfl e_KEEP) (pda_cons (pd_globS rfl e_STRIKE) (pda_nil))))) (pdss_one (pds_ret (pd_callB (kd_isi (K := K) c.insC) rfl c.n_isinstance (by rfl) (pda_cons (k_ix (K := K) (pd 0) (pd_int)) (pda_cons (pd_cls (C := (pm K w).cl 0) rfl c.g_Rhythm) (pda_nil)))))) (pdss_nil)) (pdss_one (pds_ret (pd_and (pd_cmp (ke_in (K := K)) (k_ix (K := K) (pd 0) (pd_int)) (pd_tup (pda_cons (pd_globS rfl e_SHIFT) (pda_cons (pd_globS rfl e_FROM) (pda_cons (pd_globS rfl e_UNTIL) (pda_nil)))))) (pd_one (pd_call (raw_is_step_number c) (hr.mono (by decide : 2 ≤ 2)) rfl c.g_is_step_number c.k_is_step_number (pda_cons (k_ix (K := K) (pd 0) (pd_int)) (pda_nil)))))))), fun ds kk h => law_is_plain_step _ R ds kk h⟩
theorem raw_is_plain_step {P : Program} {w : World} {K : PySem.W.Frag} {mg : Str → Option Value} {base : Heap} (c : Sys K mg) : FnR P w K mg base CX0 3 ((p_is_plain_step).at_ K) (spD (pm K w) sp_is_plain_step) := let ⟨_, F, B⟩ := ok_is_plain_step (P := P) (w := w) (base := base) c; raw0 F B
theorem ok_is_add {P : Program} {w : World} {K : PySem.W.Frag} {mg : Str → Option Value} {base : Heap} (c : Sys K mg) : ∃ fd, FnOk P w K mg base CX0 3 ((p_is_add).at_ K) fd ["thing"] (spD (pm K w) sp_is_add) ∧ Binds K fd ["thing"] [] := by
  obtain ⟨fd, F⟩ := c.d_is_add
  obtain ⟨_, e_ADD⟩ := c.s_ADD
  have S : FnScope ["thing"] ["thing"] (defScope (top 32)) := ⟨rfl, rfl, rfl, by decide +kernel, rfl, by decide +kernel, by decide +kernel⟩
  have hN : (["thing"] : List Str).Nodup := S.nd
  refine ⟨fd, fn_ok F S len_is_add fun cdv A outer s H E hr R => ?_, F.bindsN fun _ _ _ _ _ _ us hl => match us, hl with | [_], _ => rfl⟩
  exact ⟨_, d_is_add (pm K w) R, pdss_cons (pds_if (PDW.pt (pdw_or (pdt_not (pdt_val (pd_callB (kd_isi (K := K) c.insC) rfl c.n_isinstance (by rfl) (pda_cons (pd 0) (pda_cons (pd_ty rfl c.n_tuple (by rfl)) (pda_nil)))))) (pdw_or (pdt_cmp (ke_ne (K := K) hr.units) (pd_callB (kd_len (K := K)) rfl c.n_len (by rfl) (pda_cons (pd 0) (pda_nil))) (pd_int)) (pdw_or (pdt_not (pdt_val (pd_callB (kd_isi (K := K) c.insC) rfl c.n_isinstance (by rfl) (pda_cons (k_ix (K := K) (pd 0) (pd_int)) (pda_cons (pd_ty rfl c.n_str (by rfl)) (pda_nil)))))) (pdw_or1 (pdt_cmp (ke_ne (K := K) hr.units) (k_ix (K := K) (pd 0) (pd_int)) (pd_globS rfl e_ADD))))))) (pdss_one (pds_ret (pd_bl))) (pdss_nil)) (pdss_one (pds_ret (pd_and (pd_callB (kd_isi (K := K) c.insC) rfl c.n_isinstance (by rfl) (pda_cons (k_ix (K := K) (pd 0) (pd_int)) (pda_cons (pd_cls (C := (pm K w).cl 0) rfl c.g_Rhythm) (pda_nil)))) (pd_and (pd_call (raw_is_step_number c) (hr.mono (by decide : 2 ≤ 2)) rfl c.g_is_step_number c.k_is_step_number (pda_cons (k_ix (K := K) (pd 0) (pd_int)) (pda_nil))) (pd_one (pd_or (pd_cmp od_is (k_ix (K := K) (pd 0) (pd_int)) (pd_non)) (pd_one (pd_call (raw_is_step_number c) (hr.mono (by decide : 2 ≤ 2)) rfl c.g_is_step_number c.k_is_step_number (pda_cons (k_ix (K := K) (pd 0) (pd_int)) (pda_nil)))))))))), fun ds kk h => law_is_add _ R ds kk h⟩
theorem raw_is_add {P : Program} {w : World} {K : PySem.W.Frag} {mg : Str → Option Value} {base : Heap} (c : Sys K mg) : FnR P w K mg base CX0 3 ((p_is_add).at_ K) (spD (pm K w) sp_is_add) := let ⟨_, F, B⟩ := ok_is_add (P := P) (w := w) (base := base) c; raw0 F B
theorem ok_is_since {P : Program} {w : World} {K : PySem.W.Frag} {mg : Str → Option Value} {base : Heap} (c : Sys K mg) : ∃ fd, FnOk P w K mg base CX0 4 ((p_is_since).at_ K) fd ["thing"] (spD (pm K w) sp_is_since) ∧ Binds K fd ["thing"] [] := by
  obtain ⟨fd, F⟩ := c.d_is_since
  obtain ⟨_, e_SINCE⟩ := c.s_SINCE
  have S : FnScope ["thing", "step"] ["thing"] (defScope (top 33)) := ⟨rfl, rfl, rfl, by decide +kernel, rfl, by decide +kernel, by decide +kernel⟩
  have hN : (["thing", "step"] : List Str).Nodup := S.nd
  refine ⟨fd, fn_ok F S len_is_since fun cdv A outer s H E hr R => ?_, F.bindsN fun _ _ _ _ _ _ us hl => match us, hl with | [_], _ => rfl⟩
  exact ⟨_, d_is_since (pm K w) R, pdss_cons (pds_if (PDW.pt (pdw_or (pdt_not (pdt_val (pd_callB (kd_isi (K := K) c.insC) rfl c.n_isinstance (by rfl) (pda_cons (pd 0) (pda_cons (pd_ty rfl c.n_tuple (by rfl)) (pda_nil)))))) (pdw_or (pdt_cmp (ke_ne (K := K) hr.units) (pd_callB (kd_len (K := K)) rfl c.n_len (by rfl) (pda_cons (pd 0) (pda_nil))) (pd_int)) (pdw_or (pdt_not (pdt_val (pd_callB (kd_isi (K := K) c.insC) rfl c.n_isinstance (by rfl) (pda_cons (k_ix (K := K) (pd 0) (pd_int)) (pda_cons (pd_ty rfl c.n_str (by rfl)) (pda_nil)))))) (pdw_or1 (pdt_cmp (ke_ne (K := K) hr.units) (k_ix (K := K) (pd 0) (pd_int)) (pd_globS rfl e_SINCE))))))) (pdss_one (pds_ret (pd_bl))) (pdss_nil)) (pdss_cons (pds_if (PDW.pt (pdw_or (pdt_not (pdt_val (pd_call (raw_is_step_number c) (hr.mono (by decide : 2 ≤ 3)) rfl c.g_is_step_number c.k_is_step_number (pda_cons (k_ix (K := K) (pd 0) (pd_int)) (pda_nil))))) (pdw_or (pdt_not (pdt_val (pd_callB (kd_isi (K := K) c.insC) rfl c.n_isinstance (by rfl) (pda_cons (k_ix (K := K) (pd 0) (pd_int)) (pda_cons (pd_ty rfl c.n_tuple (by rfl)) (pda_nil)))))) (pdw_or1 (pdt_cmp (ke_eq (K := K) hr.units) (pd_callB (kd_len (K := K)) rfl c.n_len (by rfl) (pda_cons (k_ix (K := K) (pd 0) (pd_int)) (pda_nil))) (pd_int)))))) (pdss_one (pds_ret (pd_bl))) (pdss_nil)) (pdss_one (pds_ret (pd_callB (kd_all (K := K) rfl) rfl c.n_all (by rfl) (pda_cons (pd_lc [("step", 1)] rfl hN (ki_seq (K := K) (k_ix (K := K) (pd 0) (pd_int))) (blkOk_by (N := ["thing", "step"]) (sc := defScope (top 33)) (by decide +kernel)) (fun _ _ _ _ _ => pdg_name 1 hN) (fun _ _ _ _ _ => pdts_nil) (fun _ _ _ _ _ => pd_call (raw_is_plain_step c) (hr.mono (by decide : 3 ≤ 3)) rfl c.g_is_plain_step c.k_is_plain_step (pda_cons (pd 1) (pda_nil)))) (pda_nil)))))), fun ds kk h => law_is_since _ R ds kk h⟩
theorem raw_is_since {P : Program} {w : World} {K : PySem.W.Frag} {mg : Str → Option Value} {base : Heap} (c : Sys K mg) : FnR P w K mg base CX0 4 ((p_is_since).at_ K) (spD (pm K w) sp_is_since) := let ⟨_, F, B⟩ := ok_is_since (P := P) (w := w) (base := base) c; raw0 F B
theorem ok_is_step {P : Program} {w : World} {K : PySem.W.Frag} {mg : Str → Option Value} {base : Heap} (c : Sys K mg) : ∃ fd, FnOk P w K mg base CX0 5 ((p_is_step).at_ K) fd ["thing"] (spD (pm K w) sp_is_step) ∧ Binds K fd ["thing"] [] := by
  obtain ⟨fd, F⟩ := c.d_is_step
  have S : FnScope ["thing"] ["thing"] (defScope (top 34)) := ⟨rfl, rfl, rfl, by decide +kernel, rfl, by decide +kernel, by decide +kernel⟩
  have hN : (["thing"] : List Str).Nodup := S.nd
  refine ⟨fd, fn_ok F S len_is_step fun cdv A outer s H E hr R => ?_, F.bindsN fun _ _ _ _ _ _ us hl => match us, hl with | [_], _ => rfl⟩
  exact ⟨_, d_is_step (pm K w) R, pdss_one (pds_ret (pd_or (pd_call (raw_is_plain_step c) (hr.mono (by decide : 3 ≤ 4)) rfl c.g_is_plain_step c.k_is_plain_step (pda_cons (pd 0) (pda_nil))) (pd_or (pd_call (raw_is_add c) (hr.mono (by decide : 3 ≤ 4)) rfl c.g_is_add c.k_is_add (pda_cons (pd 0) (pda_nil))) (pd_one (pd_call (raw_is_since c) (hr.mono (by decide : 4 ≤ 4)) rfl c.g_is_since c.k_is_since (pda_cons (pd 0) (pda_nil))))))), fun ds kk h => law_is_step _ R ds kk h⟩
theorem raw_is_step {P : Program} {w : World} {K : PySem.W.Frag} {mg : Str → Option Value} {base : Heap} (c : Sys K mg) : FnR P w K mg base CX0 5 ((p_is_step).at_ K) (spD (pm K w) sp_is_step) := let ⟨_, F, B⟩ := ok_is_step (P := P) (w := w) (base := base) c; raw0 F B
theorem ok_flat {P : Program} {w : World} {K : PySem.W.Frag} {mg : Str → Option Value} {base : Heap} (c : Sys K mg) : ∃ fd, FnOk P w K mg base CX0 1 ((p_flat).at_ K) fd ["steps"] (spD (pm K w) sp_flat) ∧ Binds K fd ["steps"] [] := by
  obtain ⟨fd, F⟩ := c.d_flat
  obtain ⟨_, e_SINCE⟩ := c.s_SINCE
  have S : FnScope ["steps", "found", "step"] ["steps"] (defScope (top 35)) := ⟨rfl, rfl, rfl, by decide +kernel, rfl, by decide +kernel, by decide +kernel⟩
  have hN : (["steps", "found", "step"] : List Str).Nodup := S.nd
  refine ⟨fd, fn_ok F S len_flat fun cdv A outer s H E hr R => ?_, F.bindsN fun _ _ _ _ _ _ us hl => match us, hl with | [_], _ => rfl⟩
  exact ⟨_, d_flat (pm K w) R, pdss_cons (pds_setS 1 hN (sl_lst (pda_nil))) (pdss_cons (pds_for rfl (ki_seq (K := K) (pd 0)) (pdg_name 2 hN) (pdss_cons (pds_app 1 (pd 2)) (pdss_one (pds_if (pdt_cmp (ke_eq (K := K) hr.units) (k_ix (K := K) (pd 2) (pd_int)) (pd_globS rfl e_SINCE)) (pdss_one (pds_ext 1 (pd_callTy (kd_list (K := K)) rfl c.n_list (by rfl) (pda_cons (k_ix (K := K) (pd 2) (pd_int)) (pda_nil))))) (pdss_nil))))) (pdss_frz 1 (pdss_one (pds_ret (pd 1))))), fun ds kk h => law_flat _ R ds kk h⟩
theorem raw_flat {P : Program} {w : World} {K : PySem.W.Frag} {mg : Str → Option Value} {base : Heap} (c : Sys K mg) : FnR P w K mg base CX0 1 ((p_flat).at_ K) (spD (pm K w) sp_flat) := let ⟨_, F, B⟩ := ok_flat (P := P) (w := w) (base := base) c; raw0 F B
theorem ok_round_of {P : Program} {w : World} {K : PySem.W.Frag} {mg : Str → Option Value} {base : Heap} (c : Sys K mg) : ∃ fd, FnOk P w K mg base CX0 4 ((p_round_of).at_ K) fd ["steps"] (spD (pm K w) sp_round_of) ∧ Binds K fd ["steps"] [] := by
  obtain ⟨fd, F⟩ := c.d_round_of
  obtain ⟨_, e_ADD⟩ := c.s_ADD
  obtain ⟨_, e_KEEP⟩ := c.s_KEEP
  obtain ⟨_, e_STRIKE⟩ := c.s_STRIKE
  have S : FnScope ["steps", "step"] ["steps"] (defScope (top 36)) := ⟨rfl, rfl, rfl, by decide +kernel, rfl, by decide +kernel, by decide +kernel⟩
  have hN : (["steps", "step"] : List Str).Nodup := S.nd
  refine ⟨fd, fn_ok F S len_round_of fun cdv A outer s H E hr R => ?_, F.bindsN fun _ _ _ _ _ _ us hl => match us, hl with | [_], _ => rfl⟩
  exact ⟨_, d_round_of (pm K w) R, pdss_one (pds_ret (pd_call (raw_common_round c) (hr.mono (by decide : 3 ≤ 3)) rfl c.g_common_round c.k_common_round (pda_cons (pd_lc [("step", 1)] rfl hN (ki_seq (K := K) (pd_call (raw_flat c) (hr.mono (by decide : 1 ≤ 3)) rfl c.g_flat c.k_flat (pda_cons (pd 0) (pda_nil)))) (blkOk_by (N := ["steps", "step"]) (sc := defScope (top 36)) (by decide +kernel)) (fun _ _ _ _ _ => pdg_name 1 hN) (fun _ _ _ _ _ => pdts_one (pdt_cmp (ke_in (K := K)) (k_ix (K := K) (pd 1) (pd_int)) (pd_tup (pda_cons (pd_globS rfl e_KEEP) (pda_cons (pd_globS rfl e_STRIKE) (pda_cons (pd_globS rfl e_ADD) (pda_nil))))))) (fun _ _ _ _ _ => k_ix (K := K) (pd 1) (pd_int))) (pda_nil)))), fun ds kk h => law_round_of _ R ds kk h⟩
theorem raw_round_of {P : Program} {w : World} {K : PySem.W.Frag} {mg : Str → Option Value} {base : Heap} (c : Sys K mg) : FnR P w K mg base CX0 4 ((p_round_of).at_ K) (spD (pm K w) sp_round_of) := let ⟨_, F, B⟩ := ok_round_of (P := P) (w := w) (base := base) c; raw0 F B
theorem ok_need_few {P : Program} {w : World} {K : PySem.W.Frag} {mg : Str → Option Value} {base : Heap} (c : Sys K mg) : ∃ fd, FnOk P w K mg base CX0 5 ((p_need_few).at_ K) fd ["steps"] (spD (pm K w) sp_need_few) ∧ Binds K fd ["steps"] [] := by
  obtain ⟨fd, F⟩ := c.d_need_few
  obtain ⟨_, e_MOST_ROUND⟩ := c.i_MOST_ROUND
  obtain ⟨_, e_MOST_STEPS⟩ := c.i_MOST_STEPS
  have S : FnScope ["steps"] ["steps"] (defScope (top 37)) := ⟨rfl, rfl, rfl, by decide +kernel, rfl, by decide +kernel, by decide +kernel⟩
  have hN : (["steps"] : List Str).Nodup := S.nd
  refine ⟨fd, fn_ok F S len_need_few fun cdv A outer s H E hr R => ?_, F.bindsN fun _ _ _ _ _ _ us hl => match us, hl with | [_], _ => rfl⟩
  exact ⟨_, d_need_few (pm K w) R, pdss_cons (pds_if (pdt_cmp od_gt (pd_callB (kd_len (K := K)) rfl c.n_len (by rfl) (pda_cons (pd_call (raw_flat c) (hr.mono (by decide : 1 ≤ 4)) rfl c.g_flat c.k_flat (pda_cons (pd 0) (pda_nil))) (pda_nil))) (pd_globI rfl e_MOST_STEPS)) (pdss_one (pds_never)) (pdss_nil)) (pdss_one (pds_if (pdt_cmp od_gt (pd_call (raw_round_of c) (hr.mono (by decide : 4 ≤ 4)) rfl c.g_round_of c.k_round_of (pda_cons (pd 0) (pda_nil))) (pd_globI rfl e_MOST_ROUND)) (pdss_one (pds_never)) (pdss_nil))), fun ds kk h => law_need_few _ R ds kk h⟩
theorem raw_need_few {P : Program} {w : World} {K : PySem.W.Frag} {mg : Str → Option Value} {base : Heap} (c : Sys K mg) : FnR P w K mg base CX0 5 ((p_need_few).at_ K) (spD (pm K w) sp_need_few) := let ⟨_, F, B⟩ := ok_need_few (P := P) (w := w) (base := base) c; raw0 F B
theorem ok_holds {P : Program} {w : World} {K : PySem.W.Frag} {mg : Str → Option Value} {base : Heap} (c : Sys K mg) : ∃ fd, FnOk P w K mg base CX0 3 ((p_holds).at_ K) fd ["step", "day"] (spD (pm K w) sp_holds) ∧ Binds K fd ["step", "day"] [] := by
  obtain ⟨fd, F⟩ := c.d_holds
  obtain ⟨_, e_FROM⟩ := c.s_FROM
  obtain ⟨_, e_KEEP⟩ := c.s_KEEP
  obtain ⟨_, e_STRIKE⟩ := c.s_STRIKE
  have S : FnScope ["step", "day", "word"] ["step", "day"] (defScope (top 38)) := ⟨rfl, rfl, rfl, by decide +kernel, rfl, by decide +kernel, by decide +kernel⟩
  have hN : (["step", "day", "word"] : List Str).Nodup := S.nd
  refine ⟨fd, fn_ok F S len_holds fun cdv A outer s H E hr R => ?_, F.bindsN fun _ _ _ _ _ _ us hl => match us, hl with | [_, _], _ => rfl⟩
  exact ⟨_, d_holds (pm K w) R, pdss_cons (pds_set 2 hN (k_ix (K := K) (pd 0) (pd_int))) (pdss_cons (pds_if (pdt_cmp (ke_eq (K := K) hr.units) (pd 2) (pd_globS rfl e_KEEP)) (pdss_one (pds_ret (pd_cmp (od_inO c.o_contains (raw_Rhythm_contains c) (hr.mono (by decide : 2 ≤ 2))) (pd 1) (k_ix (K := K) (pd 0) (pd_int))))) (pdss_nil)) (pdss_cons (pds_if (pdt_cmp (ke_eq (K := K) hr.units) (pd 2) (pd_globS rfl e_STRIKE)) (pdss_one (pds_ret (pd_cmp (od_ninO c.o_contains (raw_Rhythm_contains c) (hr.mono (by decide : 2 ≤ 2))) (pd 1) (k_ix (K := K) (pd 0) (pd_int))))) (pdss_nil)) (pdss_one (pds_ret (pd_if (pdt_cmp (ke_eq (K := K) hr.units) (pd 2) (pd_globS rfl e_FROM)) (pd_cmp od_ge (pd 1) (k_ix (K := K) (pd 0) (pd_int))) (pd_cmp od_le (pd 1) (k_ix (K := K) (pd 0) (pd_int)))))))), fun ds kk h => law_holds _ R ds kk h⟩
theorem raw_holds {P : Program} {w : World} {K : PySem.W.Frag} {mg : Str → Option Value} {base : Heap} (c : Sys K mg) : FnR P w K mg base CX0 3 ((p_holds).at_ K) (spD (pm K w) sp_holds) := let ⟨_, F, B⟩ := ok_holds (P := P) (w := w) (base := base) c; raw0 F B
theorem ok_behind0 {P : Program} {w : World} {K : PySem.W.Frag} {mg : Str → Option Value} {base : Heap} (c : Sys K mg) : ∃ fd, FnOk P w K mg base CX0 4 ((p_behind).at_ K) fd ["step", "day"] (spD (pm K w) sp_behind0) ∧ Binds K fd ["step", "day"] [] := by
  obtain ⟨fd, F⟩ := c.d_behind
  obtain ⟨_, e_ADD⟩ := c.s_ADD
  obtain ⟨_, e_SHIFT⟩ := c.s_SHIFT
  obtain ⟨_, e_SINCE⟩ := c.s_SINCE
  have S : FnScope ["step", "day"] ["step", "day"] (defScope (top 39)) := ⟨rfl, rfl, rfl, by decide +kernel, rfl, by decide +kernel, by decide +kernel⟩
  have hN : (["step", "day"] : List Str).Nodup := S.nd
  refine ⟨fd, fn_ok F S len_behind0 fun cdv A outer s H E hr R => ?_, F.bindsN fun _ _ _ _ _ _ us hl => match us, hl with | [_, _], _ => rfl⟩
  exact ⟨_, d_behind0 (pm K w) R, pdss_cons (pds_if (pdt_cmp (ke_eq (K := K) hr.units) (k_ix (K := K) (pd 0) (pd_int)) (pd_globS rfl e_SHIFT)) (pdss_one (pds_ret (pd_op (ke_add (K := K)) (pd 1) (k_ix (K := K) (pd 0) (pd_int))))) (pdss_nil)) (pdss_cons (pds_if (pdt_cmp (ke_eq (K := K) hr.units) (k_ix (K := K) (pd 0) (pd_int)) (pd_globS rfl e_SINCE)) (pdss_one (pds_never)) (pdss_nil)) (pdss_one (pds_ret (pd_if (PDW.pt (pdw_or (pdt_cmp (ke_eq (K := K) hr.units) (k_ix (K := K) (pd 0) (pd_int)) (pd_globS rfl e_ADD)) (pdw_or1 (pdt_val (pd_call (raw_holds c) (hr.mono (by decide : 3 ≤ 3)) rfl c.g_holds c.k_holds (pda_cons (pd 0) (pda_cons (pd 1) (pda_nil)))))))) (pd 1) (pd_non))))), fun ds kk h => law_behind0 _ R ds kk h⟩
theorem raw_behind0 {P : Program} {w : World} {K : PySem.W.Frag} {mg : Str → Option Value} {base : Heap} (c : Sys K mg) : FnR P w K mg base CX0 4 ((p_behind).at_ K) (spD (pm K w) sp_behind0) := let ⟨_, F, B⟩ := ok_behind0 (P := P) (w := w) (base := base) c; raw0 F B
theorem ok_behind_all0 {P : Program} {w : World} {K : PySem.W.Frag} {mg : Str → Option Value} {base : Heap} (c : Sys K mg) : ∃ fd, FnOk P w K mg base CX0 5 ((p_behind_all).at_ K) fd ["steps", "day"] (spD (pm K w) sp_behind_all0) ∧ Binds K fd ["steps", "day"] [] := by
  obtain ⟨fd, F⟩ := c.d_behind_all
  have S : FnScope ["steps", "day", "step"] ["steps", "day"] (defScope (top 40)) := ⟨rfl, rfl, rfl, by decide +kernel, rfl, by decide +kernel, by decide +kernel⟩
  have hN : (["steps", "day", "step"] : List Str).Nodup := S.nd
  refine ⟨fd, fn_ok F S len_behind_all0 fun cdv A outer s H E hr R => ?_, F.bindsN fun _ _ _ _ _ _ us hl => match us, hl with | [_, _], _ => rfl⟩
  exact ⟨_, d_behind_all0 (pm K w) R, pdss_cons (pds_for rfl (ki_seq (K := K) (pd 0)) (pdg_name 2 hN) (pdss_one (pds_if (pdt_cmp od_isn (pd 1) (pd_non)) (pdss_one (pds_set 1 hN (pd_call (raw_behind0 c) (hr.mono (by decide : 4 ≤ 4)) rfl c.g_behind c.k_behind (pda_cons (pd 2) (pda_cons (pd 1) (pda_nil)))))) (pdss_nil)))) (pdss_one (pds_ret (pd 1))), fun ds kk h => law_behind_all0 _ R ds kk h⟩
theorem raw_behind_all0 {P : Program} {w : World} {K : PySem.W.Frag} {mg : Str → Option Value} {base : Heap} (c : Sys K mg) : FnR P w K mg base CX0 5 ((p_behind_all).at_ K) (spD (pm K w) sp_behind_all0) := let ⟨_, F, B⟩ := ok_behind_all0 (P := P) (w := w) (base := base) c; raw0 F B
theorem ok_behind {P : Program} {w : World} {K : PySem.W.Frag} {mg : Str → Option Value} {base : Heap} (c : Sys K mg) : ∃ fd, FnOk P w K mg base CX0 6 ((p_behind).at_ K) fd ["step", "day"] (spD (pm K w) sp_behind) ∧ Binds K fd ["step", "day"] [] := by
  obtain ⟨fd, F⟩ := c.d_behind
  obtain ⟨_, e_ADD⟩ := c.s_ADD
  obtain ⟨_, e_SHIFT⟩ := c.s_SHIFT
  obtain ⟨_, e_SINCE⟩ := c.s_SINCE
  have S : FnScope ["step", "day"] ["step", "day"] (defScope (top 39)) := ⟨rfl, rfl, rfl, by decide +kernel, rfl, by decide +kernel, by decide +kernel⟩
  have hN : (["step", "day"] : List Str).Nodup := S.nd
  refine ⟨fd, fn_ok F S len_behind fun cdv A outer s H E hr R => ?_, F.bindsN fun _ _ _ _ _ _ us hl => match us, hl with | [_, _], _ => rfl⟩
  exact ⟨_, d_behind (pm K w) R, pdss_cons (pds_if (pdt_cmp (ke_eq (K := K) hr.units) (k_ix (K := K) (pd 0) (pd_int)) (pd_globS rfl e_SHIFT)) (pdss_one (pds_ret (pd_op (ke_add (K := K)) (pd 1) (k_ix (K := K) (pd 0) (pd_int))))) (pdss_nil)) (pdss_cons (pds_if (pdt_cmp (ke_eq (K := K) hr.units) (k_ix (K := K) (pd 0) (pd_int)) (pd_globS rfl e_SINCE)) (pdss_one (pds_ret (pd_if (pdt_cmp od_ge (pd 1) (k_ix (K := K) (pd 0) (pd_int))) (pd_call (raw_behind_all0 c) (hr.mono (by decide : 5 ≤ 5)) rfl c.g_behind_all c.k_behind_all (pda_cons (k_ix (K := K) (pd 0) (pd_int)) (pda_cons (pd 1) (pda_nil)))) (pd 1)))) (pdss_nil)) (pdss_one (pds_ret (pd_if (PDW.pt (pdw_or (pdt_cmp (ke_eq (K := K) hr.units) (k_ix (K := K) (pd 0) (pd_int)) (pd_globS rfl e_ADD)) (pdw_or1 (pdt_val (pd_call (raw_holds c) (hr.mono (by decide : 3 ≤ 5)) rfl c.g_holds c.k_holds (pda_cons (pd 0) (pda_cons (pd 1) (pda_nil)))))))) (pd 1) (pd_non))))), fun ds kk h => law_behind _ R ds kk h⟩
theorem raw_behind {P : Program} {w : World} {K : PySem.W.Frag} {mg : Str → Option Value} {base : Heap} (c : Sys K mg) : FnR P w K mg base CX0 6 ((p_behind).at_ K) (spD (pm K w) sp_behind) := let ⟨_, F, B⟩ := ok_behind (P := P) (w := w) (base := base) c; raw0 F B
theorem ok_behind_all {P : Program} {w : World} {K : PySem.W.Frag} {mg : Str → Option Value} {base : Heap} (c : Sys K mg) : ∃ fd, FnOk P w K mg base CX0 7 ((p_behind_all).at_ K) fd ["steps", "day"] (spD (pm K w) sp_behind_all) ∧ Binds K fd ["steps", "day"] [] := by
  obtain ⟨fd, F⟩ := c.d_behind_all
  have S : FnScope ["steps", "day", "step"] ["steps", "day"] (defScope (top 40)) := ⟨rfl, rfl, rfl, by decide +kernel, rfl, by decide +kernel, by decide +kernel⟩
  have hN : (["steps", "day", "step"] : List Str).Nodup := S.nd
  refine ⟨fd, fn_ok F S len_behind_all fun cdv A outer s H E hr R => ?_, F.bindsN fun _ _ _ _ _ _ us hl => match us, hl with | [_, _], _ => rfl⟩
  exact ⟨_, d_behind_all (pm K w) R, pdss_cons (pds_for rfl (ki_seq (K := K) (pd 0)) (pdg_name 2 hN) (pdss_one (pds_if (pdt_cmp od_isn (pd 1) (pd_non)) (pdss_one (pds_set 1 hN (pd_call (raw_behind c) (hr.mono (by decide : 6 ≤ 6)) rfl c.g_behind c.k_behind (pda_cons (pd 2) (pda_cons (pd 1) (pda_nil)))))) (pdss_nil)))) (pdss_one (pds_ret (pd 1))), fun ds kk h => law_behind_all _ R ds kk h⟩
theorem raw_behind_all {P : Program} {w : World} {K : PySem.W.Frag} {mg : Str → Option Value} {base : Heap} (c : Sys K mg) : FnR P w K mg base CX0 7 ((p_behind_all).at_ K) (spD (pm K w) sp_behind_all) := let ⟨_, F, B⟩ := ok_behind_all (P := P) (w := w) (base := base) c; raw0 F B
theorem ok_Script_init {P : Program} {w : World} {K : PySem.W.Frag} {mg : Str → Option Value} {base : Heap} (c : Sys K mg) : ∃ fd, FnOk P w K mg base CX0 6 ((p_Script_init).at_ K) fd ["self", "steps"] (spI (pm K w) 1 sp_Script_init) ∧ Binds K fd ["self", "steps"] [] := by
  obtain ⟨fd, F⟩ := c.d_Script_init
  have S : FnScope ["self", "steps", "at", "step"] ["self", "steps"] (defScope (inClass (top 41) 0)) := ⟨rfl, rfl, rfl, by decide +kernel, rfl, by decide +kernel, by decide +kernel⟩
  have hN : (["self", "steps", "at", "step"] : List Str).Nodup := S.nd
  refine ⟨fd, fn_init F S len_Script_init fun cdv A outer s H E hr R => ?_, by
    obtain ⟨ds, v, b⟩ := F.binds1 (ps := ["self", "steps"]) 2 1 (by simp [p_Script_init, DefP.dvs]) rfl (fun T kV doc pm an cdv ct us its hl h2 => match us, hl with | [_, _], _ => match its, h2 with | [_], _ => ⟨_, rfl, rfl⟩)
    cases v
    exact b⟩
  exact ⟨_, d_Script_init (pm K w) R, pdss_cons (pds_if (pdt_not (pdt_val (pd_call (raw_is_list c) (hr.mono (by decide : 1 ≤ 5)) rfl c.g_is_list c.k_is_list (pda_cons (pd 1) (pda_nil))))) (pdss_one (pds_never)) (pdss_nil)) (pdss_cons (pds_for rfl (ki_enum (K := K) rfl c.n_enumerate (pda_cons (pd 1) (pda_nil))) (kg_tup (K := K) rfl (pgn_cons 2 hN (pgn_cons 3 hN (pgn_nil)))) (pdss_one (pds_if (pdt_not (pdt_val (pd_call (raw_is_step c) (hr.mono (by decide : 5 ≤ 5)) rfl c.g_is_step c.k_is_step (pda_cons (pd 3) (pda_nil))))) (pdss_one (pds_never)) (pdss_nil)))) (pdss_cons (pds_expr (pd_call (raw_need_few c) (hr.mono (by decide : 5 ≤ 5)) rfl c.g_need_few c.k_need_few (pda_cons (pd 1) (pda_nil)))) (pdss_one (pds_fld 0 c.c_Script c.na_own_steps (pd_callTy (kd_tuple (K := K)) rfl c.n_tuple (by rfl) (pda_cons (pd 1) (pda_nil))))))), fun x ds kk h => law_Script_init _ rfl R x ds kk h⟩
theorem raw_Script_init {P : Program} {w : World} {K : PySem.W.Frag} {mg : Str → Option Value} {base : Heap} (c : Sys K mg) : FnR P w K mg base CX0 6 ((p_Script_init).at_ K) (spI (pm K w) 1 sp_Script_init) := let ⟨_, F, B⟩ := ok_Script_init (P := P) (w := w) (base := base) c; raw0 F B
theorem ok_Script_steps {P : Program} {w : World} {K : PySem.W.Frag} {mg : Str → Option Value} {base : Heap} (c : Sys K mg) : ∃ fd, FnOk P w K mg base CX0 1 ((p_Script_steps).at_ K) fd ["self"] (spD (pm K w) sp_Script_steps) ∧ Binds K fd ["self"] [] := by
  obtain ⟨fd, F⟩ := c.d_Script_steps
  have S : FnScope ["self"] ["self"] (defScope (inClass (top 41) 1)) := ⟨rfl, rfl, rfl, by decide +kernel, rfl, by decide +kernel, by decide +kernel⟩
  have hN : (["self"] : List Str).Nodup := S.nd
  refine ⟨fd, fn_ok F S len_Script_steps fun cdv A outer s H E hr R => ?_, F.bindsN fun _ _ _ _ _ _ us hl => match us, hl with | [_], _ => rfl⟩
  exact ⟨_, d_Script_steps (pm K w) R, pdss_one (pds_ret (k_fld (K := K) 0 (pd 0) c.c_Script rfl c.na_own_steps)), fun ds kk h => law_Script_steps _ R ds kk h⟩
theorem raw_Script_steps {P : Program} {w : World} {K : PySem.W.Frag} {mg : Str → Option Value} {base : Heap} (c : Sys K mg) : FnR P w K mg base CX0 1 ((p_Script_steps).at_ K) (spD (pm K w) sp_Script_steps) := let ⟨_, F, B⟩ := ok_Script_steps (P := P) (w := w) (base := base) c; raw0 F B
theorem ok_Script_size {P : Program} {w : World} {K : PySem.W.Frag} {mg : Str → Option Value} {base : Heap} (c : Sys K mg) : ∃ fd, FnOk P w K mg base CX0 5 ((p_Script_size).at_ K) fd ["self"] (spD (pm K w) sp_Script_size) ∧ Binds K fd ["self"] [] := by
  obtain ⟨fd, F⟩ := c.d_Script_size
  have S : FnScope ["self"] ["self"] (defScope (inClass (top 41) 2)) := ⟨rfl, rfl, rfl, by decide +kernel, rfl, by decide +kernel, by decide +kernel⟩
  have hN : (["self"] : List Str).Nodup := S.nd
  refine ⟨fd, fn_ok F S len_Script_size fun cdv A outer s H E hr R => ?_, F.bindsN fun _ _ _ _ _ _ us hl => match us, hl with | [_], _ => rfl⟩
  exact ⟨_, d_Script_size (pm K w) R, pdss_one (pds_ret (pd_call (raw_round_of c) (hr.mono (by decide : 4 ≤ 4)) rfl c.g_round_of c.k_round_of (pda_cons (k_fld (K := K) 0 (pd 0) c.c_Script rfl c.na_own_steps) (pda_nil)))), fun ds kk h => law_Script_size _ R ds kk h⟩
theorem raw_Script_size {P : Program} {w : World} {K : PySem.W.Frag} {mg : Str → Option Value} {base : Heap} (c : Sys K mg) : FnR P w K mg base CX0 5 ((p_Script_size).at_ K) (spD (pm K w) sp_Script_size) := let ⟨_, F, B⟩ := ok_Script_size (P := P) (w := w) (base := base) c; raw0 F B
theorem ok_Script_len {P : Program} {w : World} {K : PySem.W.Frag} {mg : Str → Option Value} {base : Heap} (c : Sys K mg) : ∃ fd, FnOk P w K mg base CX0 1 ((p_Script_len).at_ K) fd ["self"] (spD (pm K w) sp_Script_len) ∧ Binds K fd ["self"] [] := by
  obtain ⟨fd, F⟩ := c.d_Script_len
  have S : FnScope ["self"] ["self"] (defScope (inClass (top 41) 3)) := ⟨rfl, rfl, rfl, by decide +kernel, rfl, by decide +kernel, by decide +kernel⟩
  have hN : (["self"] : List Str).Nodup := S.nd
  refine ⟨fd, fn_ok F S len_Script_len fun cdv A outer s H E hr R => ?_, F.bindsN fun _ _ _ _ _ _ us hl => match us, hl with | [_], _ => rfl⟩
  exact ⟨_, d_Script_len (pm K w) R, pdss_one (pds_ret (pd_callB (kd_len (K := K)) rfl c.n_len (by rfl) (pda_cons (k_fld (K := K) 0 (pd 0) c.c_Script rfl c.na_own_steps) (pda_nil)))), fun ds kk h => law_Script_len _ R ds kk h⟩
theorem raw_Script_len {P : Program} {w : World} {K : PySem.W.Frag} {mg : Str → Option Value} {base : Heap} (c : Sys K mg) : FnR P w K mg base CX0 1 ((p_Script_len).at_ K) (spD (pm K w) sp_Script_len) := let ⟨_, F, B⟩ := ok_Script_len (P := P) (w := w) (base := base) c; raw0 F B
theorem ok_need_at {P : Program} {w : World} {K : PySem.W.Frag} {mg : Str → Option Value} {base : Heap} (c : Sys K mg) : ∃ fd, FnOk P w K mg base CX0 2 ((p_need_at).at_ K) fd ["changes", "at"] (spD (pm K w) sp_need_at) ∧ Binds K fd ["changes", "at"] [] := by
  obtain ⟨fd, F⟩ := c.d_need_at
  have S : FnScope ["changes", "at"] ["changes", "at"] (defScope (top 42)) := ⟨rfl, rfl, rfl, by decide +kernel, rfl, by decide +kernel, by decide +kernel⟩
  have hN : (["changes", "at"] : List Str).Nodup := S.nd
  refine ⟨fd, fn_ok F S len_need_at fun cdv A outer s H E hr R => ?_, F.bindsN fun _ _ _ _ _ _ us hl => match us, hl with | [_, _], _ => rfl⟩
  exact ⟨_, d_need_at (pm K w) R, pdss_one (pds_if (PDW.pt (pdw_or (pdt_not (pdt_val (pd_call (raw_is_number c) (hr.mono (by decide : 1 ≤ 1)) rfl c.g_is_number c.k_is_number (pda_cons (pd 1) (pda_nil))))) (pdw_or1 (pdt_not (pdt_chain od_le od_lt (pd_int) (pd 1) (pd_callB (kd_len (K := K)) rfl c.n_len (by rfl) (pda_cons (k_fld (K := K) 0 (pd 0) c.c_Script rfl c.na_own_steps) (pda_nil)))))))) (pdss_one (pds_never)) (pdss_nil)), fun ds kk h => law_need_at _ R ds kk h⟩
theorem raw_need_at {P : Program} {w : World} {K : PySem.W.Frag} {mg : Str → Option Value} {base : Heap} (c : Sys K mg) : FnR P w K mg base CX0 2 ((p_need_at).at_ K) (spD (pm K w) sp_need_at) := let ⟨_, F, B⟩ := ok_need_at (P := P) (w := w) (base := base) c; raw0 F B
end Dl
set_option Elab.async false
set_option linter.all false
set_option maxRecDepth 100000
set_option maxHeartbeats 8000000
namespace Dl
open PySem PySem.Spec PyProof.Rows L2
theorem ok_Script_getitem {P : Program} {w : World} {K : PySem.W.Frag} {mg : Str → Option Value} {base : Heap} (c : Sys K mg) : ∃ fd, FnOk P w K mg base CX0 3 ((p_Script_getitem).at_ K) fd ["self", "at"] (spD (pm K w) sp_Script_getitem) ∧ Binds K fd ["self", "at"] [] := by
  obtain ⟨fd, F⟩ := c.d_Script_getitem
  have S : FnScope ["self", "at"] ["self", "at"] (defScope (inClass (top 41) 4)) := ⟨rfl, rfl, rfl, by decide +kernel, rfl, by decide +kernel, by decide +kernel⟩
  have hN : (["self", "at"] : List Str).Nodup := S.nd
  refine ⟨fd, fn_ok F S len_Script_getitem fun cdv A outer s H E hr R => ?_, F.bindsN fun _ _ _ _ _ _ us hl => match us, hl with | [_, _], _ => rfl⟩
  exact ⟨_, d_Script_getitem (pm K w) R, pdss_cons (pds_expr (pd_call (raw_need_at c) (hr.mono (by decide : 2 ≤ 2)) rfl c.g_need_at c.k_need_at (pda_cons (pd 0) (pda_cons (pd 1) (pda_nil))))) (pdss_one (pds_ret (k_ix (K := K) (k_fld (K := K) 0 (pd 0) c.c_Script rfl c.na_own_steps) (pd 1)))), fun ds kk h => law_Script_getitem _ R ds kk h⟩
theorem raw_Script_getitem {P : Program} {w : World} {K : PySem.W.Frag} {mg : Str → Option Value} {base : Heap} (c : Sys K mg) : FnR P w K mg base CX0 3 ((p_Script_getitem).at_ K) (spD (pm K w) sp_Script_getitem) := let ⟨_, F, B⟩ := ok_Script_getitem (P := P) (w := w) (base := base) c; raw0 F B
theorem ok_Script_call {P : Program} {w : World} {K : PySem.W.Frag} {mg : Str → Option Value} {base : Heap} (c : Sys K mg) : ∃ fd, FnOk P w K mg base CX0 8 ((p_Script_call).at_ K) fd ["self", "day"] (spD (pm K w) sp_Script_call) ∧ Binds K fd ["self", "day"] [] := by
  obtain ⟨fd, F⟩ := c.d_Script_call
  have S : FnScope ["self", "day"] ["self", "day"] (defScope (inClass (top 41) 6)) := ⟨rfl, rfl, rfl, by decide +kernel, rfl, by decide +kernel, by decide +kernel⟩
  have hN : (["self", "day"] : List Str).Nodup := S.nd
  refine ⟨fd, fn_ok F S len_Script_call fun cdv A outer s H E hr R => ?_, F.bindsN fun _ _ _ _ _ _ us hl => match us, hl with | [_, _], _ => rfl⟩
  exact ⟨_, d_Script_call (pm K w) R, pdss_cons (pds_if (PDW.pt (pdw_or (pdt_not (pdt_val (pd_call (raw_is_number c) (hr.mono (by decide : 1 ≤ 7)) rfl c.g_is_number c.k_is_number (pda_cons (pd 1) (pda_nil))))) (pdw_or1 (pdt_cmp od_lt (pd 1) (pd_int))))) (pdss_one (pds_never)) (pdss_nil)) (pdss_one (pds_ret (pd_call (raw_behind_all c) (hr.mono (by decide : 7 ≤ 7)) rfl c.g_behind_all c.k_behind_all (pda_cons (k_fld (K := K) 0 (pd 0) c.c_Script rfl c.na_own_steps) (pda_cons (pd 1) (pda_nil)))))), fun ds kk h => law_Script_call _ R ds kk h⟩
theorem raw_Script_call {P : Program} {w : World} {K : PySem.W.Frag} {mg : Str → Option Value} {base : Heap} (c : Sys K mg) : FnR P w K mg base CX0 8 ((p_Script_call).at_ K) (spD (pm K w) sp_Script_call) := let ⟨_, F, B⟩ := ok_Script_call (P := P) (w := w) (base := base) c; raw0 F B
theorem ok_Script_add {P : Program} {w : World} {K : PySem.W.Frag} {mg : Str → Option Value} {base : Heap} (c : Sys K mg) : ∃ fd, FnOk P w K mg base CX0 8 ((p_Script_add).at_ K) fd ["self", "other"] (spD (pm K w) sp_Script_add) ∧ Binds K fd ["self", "other"] [] := by
  obtain ⟨fd, F⟩ := c.d_Script_add
  have S : FnScope ["self", "other"] ["self", "other"] (defScope (inClass (top 41) 7)) := ⟨rfl, rfl, rfl, by decide +kernel, rfl, by decide +kernel, by decide +kernel⟩
  have hN : (["self", "other"] : List Str).Nodup := S.nd
  refine ⟨fd, fn_ok F S len_Script_add fun cdv A outer s H E hr R => ?_, F.bindsN fun _ _ _ _ _ _ us hl => match us, hl with | [_, _], _ => rfl⟩
  exact ⟨_, d_Script_add (pm K w) R, pdss_cons (pds_if (pdt_not (pdt_val (pd_callB (kd_isi (K := K) c.insC) rfl c.n_isinstance (by rfl) (pda_cons (pd 1) (pda_cons (pd_cls (C := (pm K w).cl 1) rfl c.g_Script) (pda_nil)))))) (pdss_one (pds_never)) (pdss_nil)) (pdss_one (pds_ret (pd_make (n := 1) c.mk_Script (raw_Script_init c) (hr.mono (by decide : 7 ≤ 7)) rfl c.g_Script (pda_cons (pd_op (ke_add (K := K)) (k_fld (K := K) 0 (pd 0) c.c_Script rfl c.na_own_steps) (k_fld (K := K) 0 (pd 1) c.c_Script rfl c.na_own_steps)) (pda_nil))))), fun ds kk h => law_Script_add _ R ds kk h⟩
theorem raw_Script_add {P : Program} {w : World} {K : PySem.W.Frag} {mg : Str → Option Value} {base : Heap} (c : Sys K mg) : FnR P w K mg base CX0 8 ((p_Script_add).at_ K) (spD (pm K w) sp_Script_add) := let ⟨_, F, B⟩ := ok_Script_add (P := P) (w := w) (base := base) c; raw0 F B
theorem ok_Script_without {P : Program} {w : World} {K : PySem.W.Frag} {mg : Str → Option Value} {base : Heap} (c : Sys K mg) : ∃ fd, FnOk P w K mg base CX0 8 ((p_Script_without).at_ K) fd ["self", "at"] (spD (pm K w) sp_Script_without) ∧ Binds K fd ["self", "at"] [] := by
  obtain ⟨fd, F⟩ := c.d_Script_without
  have S : FnScope ["self", "at"] ["self", "at"] (defScope (inClass (top 41) 9)) := ⟨rfl, rfl, rfl, by decide +kernel, rfl, by decide +kernel, by decide +kernel⟩
  have hN : (["self", "at"] : List Str).Nodup := S.nd
  refine ⟨fd, fn_ok F S len_Script_without fun cdv A outer s H E hr R => ?_, F.bindsN fun _ _ _ _ _ _ us hl => match us, hl with | [_, _], _ => rfl⟩
  exact ⟨_, d_Script_without (pm K w) R, pdss_cons (pds_expr (pd_call (raw_need_at c) (hr.mono (by decide : 2 ≤ 7)) rfl c.g_need_at c.k_need_at (pda_cons (pd 0) (pda_cons (pd 1) (pda_nil))))) (pdss_one (pds_ret (pd_make (n := 1) c.mk_Script (raw_Script_init c) (hr.mono (by decide : 7 ≤ 7)) rfl c.g_Script (pda_cons (pd_op (ke_add (K := K)) (k_slice (K := K) (k_fld (K := K) 0 (pd 0) c.c_Script rfl c.na_own_steps) (pdo_none) (pdo_some (pd 1))) (k_slice (K := K) (k_fld (K := K) 0 (pd 0) c.c_Script rfl c.na_own_steps) (pdo_some (pd_op (ke_add (K := K)) (pd 1) (pd_int))) (pdo_none))) (pda_nil))))), fun ds kk h => law_Script_without _ R ds kk h⟩
theorem raw_Script_without {P : Program} {w : World} {K : PySem.W.Frag} {mg : Str → Option Value} {base : Heap} (c : Sys K mg) : FnR P w K mg base CX0 8 ((p_Script_without).at_ K) (spD (pm K w) sp_Script_without) := let ⟨_, F, B⟩ := ok_Script_without (P := P) (w := w) (base := base) c; raw0 F B
theorem ok_Script_has_new {P : Program} {w : World} {K : PySem.W.Frag} {mg : Str → Option Value} {base : Heap} (c : Sys K mg) : ∃ fd, FnOk P w K mg base CX0 1 ((p_Script_has_new).at_ K) fd ["self"] (spD (pm K w) sp_Script_has_new) ∧ Binds K fd ["self"] [] := by
  obtain ⟨fd, F⟩ := c.d_Script_has_new
  obtain ⟨_, e_ADD⟩ := c.s_ADD
  have S : FnScope ["self", "step"] ["self"] (defScope (inClass (top 41) 10)) := ⟨rfl, rfl, rfl, by decide +kernel, rfl, by decide +kernel, by decide +kernel⟩
  have hN : (["self", "step"] : List Str).Nodup := S.nd
  refine ⟨fd, fn_ok F S len_Script_has_new fun cdv A outer s H E hr R => ?_, F.bindsN fun _ _ _ _ _ _ us hl => match us, hl with | [_], _ => rfl⟩
  exact ⟨_, d_Script_has_new (pm K w) R, pdss_one (pds_ret (pd_callB (kd_any (K := K) rfl) rfl c.n_any (by rfl) (pda_cons (pd_lc [("step", 1)] rfl hN (ki_seq (K := K) (k_fld (K := K) 0 (pd 0) c.c_Script rfl c.na_own_steps)) (blkOk_by (N := ["self", "step"]) (sc := defScope (inClass (top 41) 10)) (by decide +kernel)) (fun _ _ _ _ _ => pdg_name 1 hN) (fun _ _ _ _ _ => pdts_nil) (fun _ _ _ _ _ => pd_cmp (ke_eq (K := K) hr.units) (k_ix (K := K) (pd 1) (pd_int)) (pd_globS rfl e_ADD))) (pda_nil)))), fun ds kk h => law_Script_has_new _ R ds kk h⟩
theorem raw_Script_has_new {P : Program} {w : World} {K : PySem.W.Frag} {mg : Str → Option Value} {base : Heap} (c : Sys K mg) : FnR P w K mg base CX0 1 ((p_Script_has_new).at_ K) (spD (pm K w) sp_Script_has_new) := let ⟨_, F, B⟩ := ok_Script_has_new (P := P) (w := w) (base := base) c; raw0 F B
theorem ok_span {P : Program} {w : World} {K : PySem.W.Frag} {mg : Str → Option Value} {base : Heap} (c : Sys K mg) : ∃ fd, FnOk P w K mg base CX0 3 ((p_span).at_ K) fd ["changes"] (spD (pm K w) sp_span) ∧ Binds K fd ["changes"] [] := by
  obtain ⟨fd, F⟩ := c.d_span
  obtain ⟨_, F_Script_steps, B_Script_steps⟩ := ok_Script_steps (P := P) (w := w) (base := base) c
  obtain ⟨_, e_SHIFT⟩ := c.s_SHIFT
  have S : FnScope ["changes", "step"] ["changes"] (defScope (top 44)) := ⟨rfl, rfl, rfl, by decide +kernel, rfl, by decide +kernel, by decide +kernel⟩
  have hN : (["changes", "step"] : List Str).Nodup := S.nd
  refine ⟨fd, fn_ok F S len_span fun cdv A outer s H E hr R => ?_, F.bindsN fun _ _ _ _ _ _ us hl => match us, hl with | [_], _ => rfl⟩
  exact ⟨_, d_span (pm K w) R, pdss_one (pds_ret (pd_callB (kd_sum (K := K) rfl) rfl c.n_sum (by rfl) (pda_cons (pd_lc [("step", 1)] rfl hN (ki_seq (K := K) (pd_call (raw_flat c) (hr.mono (by decide : 1 ≤ 2)) rfl c.g_flat c.k_flat (pda_cons (pd_prop (pd 0) c.c_Script c.pr_Script_steps F_Script_steps B_Script_steps (hr.mono (by decide : 2 ≤ 2))) (pda_nil)))) (blkOk_by (N := ["changes", "step"]) (sc := defScope (top 44)) (by decide +kernel)) (fun _ _ _ _ _ => pdg_name 1 hN) (fun _ _ _ _ _ => pdts_one (pdt_cmp (ke_eq (K := K) hr.units) (k_ix (K := K) (pd 1) (pd_int)) (pd_globS rfl e_SHIFT))) (fun _ _ _ _ _ => pd_callB cd_abs rfl c.n_abs (by rfl) (pda_cons (k_ix (K := K) (pd 1) (pd_int)) (pda_nil)))) (pda_nil)))), fun ds kk h => law_span _ R ds kk h⟩
theorem raw_span {P : Program} {w : World} {K : PySem.W.Frag} {mg : Str → Option Value} {base : Heap} (c : Sys K mg) : FnR P w K mg base CX0 3 ((p_span).at_ K) (spD (pm K w) sp_span) := let ⟨_, F, B⟩ := ok_span (P := P) (w := w) (base := base) c; raw0 F B
theorem ok_border {P : Program} {w : World} {K : PySem.W.Frag} {mg : Str → Option Value} {base : Heap} (c : Sys K mg) : ∃ fd, FnOk P w K mg base CX0 3 ((p_border).at_ K) fd ["changes"] (spD (pm K w) sp_border) ∧ Binds K fd ["changes"] [] := by
  obtain ⟨fd, F⟩ := c.d_border
  obtain ⟨_, F_Script_steps, B_Script_steps⟩ := ok_Script_steps (P := P) (w := w) (base := base) c
  obtain ⟨_, e_ADD⟩ := c.s_ADD
  obtain ⟨_, e_KEEP⟩ := c.s_KEEP
  obtain ⟨_, e_SHIFT⟩ := c.s_SHIFT
  obtain ⟨_, e_STRIKE⟩ := c.s_STRIKE
  have S : FnScope ["changes", "found", "step", "numbers", "number"] ["changes"] (defScope (top 45)) := ⟨rfl, rfl, rfl, by decide +kernel, rfl, by decide +kernel, by decide +kernel⟩
  have hN : (["changes", "found", "step", "numbers", "number"] : List Str).Nodup := S.nd
  refine ⟨fd, fn_ok F S len_border fun cdv A outer s H E hr R => ?_, F.bindsN fun _ _ _ _ _ _ us hl => match us, hl with | [_], _ => rfl⟩
  exact ⟨_, d_border (pm K w) R, pdss_cons (pds_set 1 hN (pd_int)) (pdss_cons (pds_for rfl (ki_seq (K := K) (pd_call (raw_flat c) (hr.mono (by decide : 1 ≤ 2)) rfl c.g_flat c.k_flat (pda_cons (pd_prop (pd 0) c.c_Script c.pr_Script_steps F_Script_steps B_Script_steps (hr.mono (by decide : 2 ≤ 2))) (pda_nil)))) (pdg_name 2 hN) (pdss_one (pds_if (pdt_cmp (ke_nin (K := K)) (k_ix (K := K) (pd 2) (pd_int)) (pd_tup (pda_cons (pd_globS rfl e_SHIFT) (pda_cons (pd_globS rfl e_KEEP) (pda_cons (pd_globS rfl e_STRIKE) (pda_nil)))))) (pdss_cons (pds_set 3 hN (pd_if (pdt_cmp (ke_eq (K := K) hr.units) (k_ix (K := K) (pd 2) (pd_int)) (pd_globS rfl e_ADD)) (pd_lst (pda_cons (k_ix (K := K) (pd 2) (pd_int)) (pda_cons (pd_if (pdt_cmp od_is (k_ix (K := K) (pd 2) (pd_int)) (pd_non)) (k_ix (K := K) (pd 2) (pd_int)) (k_ix (K := K) (pd 2) (pd_int))) (pda_nil)))) (pd_lst (pda_cons (k_ix (K := K) (pd 2) (pd_int)) (pda_nil))))) (pdss_one (pds_set 1 hN (pd_callB (kd_max (K := K) rfl) rfl c.n_max (by rfl) (pda_cons (pd_lst (pda_cons (pd 1) (ka_star (K := K) (pd_lc [("number", 4)] rfl hN (ki_seq (K := K) (pd 3)) (blkOk_by (N := ["changes", "found", "step", "numbers", "number"]) (sc := defScope (top 45)) (by decide +kernel)) (fun _ _ _ _ _ => pdg_name 4 hN) (fun _ _ _ _ _ => pdts_nil) (fun _ _ _ _ _ => pd_callB cd_abs rfl c.n_abs (by rfl) (pda_cons (pd 4) (pda_nil)))) (pda_nil)))) (pda_nil)))))) (pdss_nil)))) (pdss_one (pds_ret (pd 1)))), fun ds kk h => law_border _ R ds kk h⟩
theorem raw_border {P : Program} {w : World} {K : PySem.W.Frag} {mg : Str → Option Value} {base : Heap} (c : Sys K mg) : FnR P w K mg base CX0 3 ((p_border).at_ K) (spD (pm K w) sp_border) := let ⟨_, F, B⟩ := ok_border (P := P) (w := w) (base := base) c; raw0 F B
theorem ok_far {P : Program} {w : World} {K : PySem.W.Frag} {mg : Str → Option Value} {base : Heap} (c : Sys K mg) : ∃ fd, FnOk P w K mg base CX0 4 ((p_far).at_ K) fd ["changes"] (spD (pm K w) sp_far) ∧ Binds K fd ["changes"] [] := by
  obtain ⟨fd, F⟩ := c.d_far
  have S : FnScope ["changes"] ["changes"] (defScope (top 46)) := ⟨rfl, rfl, rfl, by decide +kernel, rfl, by decide +kernel, by decide +kernel⟩
  have hN : (["changes"] : List Str).Nodup := S.nd
  refine ⟨fd, fn_ok F S len_far fun cdv A outer s H E hr R => ?_, F.bindsN fun _ _ _ _ _ _ us hl => match us, hl with | [_], _ => rfl⟩
  exact ⟨_, d_far (pm K w) R, pdss_one (pds_ret (pd_op (ke_add (K := K)) (pd_op (ke_add (K := K)) (pd_call (raw_border c) (hr.mono (by decide : 3 ≤ 3)) rfl c.g_border c.k_border (pda_cons (pd 0) (pda_nil))) (pd_op od_mul (pd_int) (pd_call (raw_span c) (hr.mono (by decide : 3 ≤ 3)) rfl c.g_span c.k_span (pda_cons (pd 0) (pda_nil))))) (pd_int))), fun ds kk h => law_far _ R ds kk h⟩
theorem raw_far {P : Program} {w : World} {K : PySem.W.Frag} {mg : Str → Option Value} {base : Heap} (c : Sys K mg) : FnR P w K mg base CX0 4 ((p_far).at_ K) (spD (pm K w) sp_far) := let ⟨_, F, B⟩ := ok_far (P := P) (w := w) (base := base) c; raw0 F B
theorem ok_days_of {P : Program} {w : World} {K : PySem.W.Frag} {mg : Str → Option Value} {base : Heap} (c : Sys K mg) : ∃ fd, FnOk P w K mg base CX0 3 ((p_days_of).at_ K) fd ["step", "last"] (spD (pm K w) sp_days_of) ∧ Binds K fd ["step", "last"] [] := by
  obtain ⟨fd, F⟩ := c.d_days_of
  have S : FnScope ["step", "last", "end", "day"] ["step", "last"] (defScope (top 47)) := ⟨rfl, rfl, rfl, by decide +kernel, rfl, by decide +kernel, by decide +kernel⟩
  have hN : (["step", "last", "end", "day"] : List Str).Nodup := S.nd
  refine ⟨fd, fn_ok F S len_days_of fun cdv A outer s H E hr R => ?_, F.bindsN fun _ _ _ _ _ _ us hl => match us, hl with | [_, _], _ => rfl⟩
  exact ⟨_, d_days_of (pm K w) R, pdss_cons (pds_set 2 hN (pd_if (pdt_cmp od_is (k_ix (K := K) (pd 0) (pd_int)) (pd_non)) (pd 1) (pd_callB (kd_min (K := K) rfl) rfl c.n_min (by rfl) (pda_cons (pd 1) (pda_cons (k_ix (K := K) (pd 0) (pd_int)) (pda_nil)))))) (pdss_one (pds_ret (pd_lc [("day", 3)] rfl hN (pdi_rng2 rfl c.n_range (pda_cons (k_ix (K := K) (pd 0) (pd_int)) (pda_cons (pd_op (ke_add (K := K)) (pd 2) (pd_int)) (pda_nil)))) (blkOk_by (N := ["step", "last", "end", "day"]) (sc := defScope (top 47)) (by decide +kernel)) (fun _ _ _ _ _ => pdg_name 3 hN) (fun _ _ _ _ _ => pdts_one (pdt_cmp (od_inO c.o_contains (raw_Rhythm_contains c) (hr.mono (by decide : 2 ≤ 2))) (pd 3) (k_ix (K := K) (pd 0) (pd_int)))) (fun _ _ _ _ _ => pd 3)))), fun ds kk h => law_days_of _ R ds kk h⟩
theorem raw_days_of {P : Program} {w : World} {K : PySem.W.Frag} {mg : Str → Option Value} {base : Heap} (c : Sys K mg) : FnR P w K mg base CX0 3 ((p_days_of).at_ K) (spD (pm K w) sp_days_of) := let ⟨_, F, B⟩ := ok_days_of (P := P) (w := w) (base := base) c; raw0 F B
theorem ok_new_ones {P : Program} {w : World} {K : PySem.W.Frag} {mg : Str → Option Value} {base : Heap} (c : Sys K mg) : ∃ fd, FnOk P w K mg base CX0 8 ((p_new_ones).at_ K) fd ["changes", "last"] (spD (pm K w) sp_new_ones) ∧ Binds K fd ["changes", "last"] [] := by
  obtain ⟨fd, F⟩ := c.d_new_ones
  obtain ⟨_, F_Script_steps, B_Script_steps⟩ := ok_Script_steps (P := P) (w := w) (base := base) c
  obtain ⟨_, e_ADD⟩ := c.s_ADD
  have S : FnScope ["changes", "last", "found", "at", "step", "there", "item", "begun", "first", "day"] ["changes", "last"] (defScope (top 48)) := ⟨rfl, rfl, rfl, by decide +kernel, rfl, by decide +kernel, by decide +kernel⟩
  have hN : (["changes", "last", "found", "at", "step", "there", "item", "begun", "first", "day"] : List Str).Nodup := S.nd
  refine ⟨fd, fn_ok F S len_new_ones fun cdv A outer s H E hr R => ?_, F.bindsN fun _ _ _ _ _ _ us hl => match us, hl with | [_, _], _ => rfl⟩
  exact ⟨_, d_new_ones (pm K w) R, pdss_cons (pds_setS 2 hN (sl_lst (pda_nil))) (pdss_cons (pds_for rfl (ki_enum (K := K) rfl c.n_enumerate (pda_cons (pd_prop (pd 0) c.c_Script c.pr_Script_steps F_Script_steps B_Script_steps (hr.mono (by decide : 2 ≤ 7))) (pda_nil))) (kg_tup (K := K) rfl (pgn_cons 3 hN (pgn_cons 4 hN (pgn_nil)))) (pdss_one (pds_if (pdt_cmp (ke_eq (K := K) hr.units) (k_ix (K := K) (pd 4) (pd_int)) (pd_globS rfl e_ADD)) (pdss_cons (pds_dxOwn 2 5 [("begun", 7), ("first", 8), ("day", 9)] (dt := fun R => dTest (dOp (opIs true) (dVar 9) (dC .non))) (dk := fun R => dVar 9) (dv := fun R => dC (.bl true)) (hsOk K w) hr.u8 rfl hN (blkOk_by (N := ["changes", "last", "found", "at", "step", "there", "item", "begun", "first", "day"]) (sc := defScope (top 48)) (by decide +kernel)) (fun _ _ _ _ _ => kg_tup (K := K) rfl (pgn_cons 7 hN (pgn_cons 8 hN (pgn_cons 9 hN (pgn_nil))))) (fun R _ _ _ _ _ => pdts_one (pdt_cmp od_isn (pd 9) (pd_non))) (fun R _ _ _ _ _ => pd 9) (fun R _ _ _ _ _ => pd_bl)) (pdss_one (pds_ext 2 (pd_lc [("day", 9)] rfl hN (ki_seq (K := K) (pd_call (raw_days_of c) (hr.mono (by decide : 3 ≤ 7)) rfl c.g_days_of c.k_days_of (pda_cons (pd 4) (pda_cons (pd_op (ke_add (K := K)) (pd 1) (pd_call (raw_span c) (hr.mono (by decide : 3 ≤ 7)) rfl c.g_span c.k_span (pda_cons (pd 0) (pda_nil)))) (pda_nil))))) (blkOk_by (N := ["changes", "last", "found", "at", "step", "there", "item", "begun", "first", "day"]) (sc := defScope (top 48)) (by decide +kernel)) (fun _ _ _ _ _ => pdg_name 9 hN) (fun _ _ _ _ _ => pdts_one (pdt_cmp (od_ninD (hsOk K w) hr.u9) (pd 9) (pd 5))) (fun _ _ _ _ _ => pd_tup (pda_cons (pd 3) (pda_cons (pd 9) (pda_cons (pd 9) (pda_nil))))))))) (pdss_one (pds_lcOwn 2 2 [("begun", 7), ("first", 8), ("day", 9)] (dt := fun R => dYes) (de := fun R => dTup (dCons (dVar 7) (dCons (dVar 8) (dCons (dIf (dTest (dOp (opIs false) (dVar 9) (dC .non))) (dC .non) (dCall (sp_behind R) (dCons (dVar 4) (dCons (dVar 9) (dNil))))) (dNil))))) rfl hN (blkOk_by (N := ["changes", "last", "found", "at", "step", "there", "item", "begun", "first", "day"]) (sc := defScope (top 48)) (by decide +kernel)) (fun _ _ _ _ _ => kg_tup (K := K) rfl (pgn_cons 7 hN (pgn_cons 8 hN (pgn_cons 9 hN (pgn_nil))))) (fun R _ _ _ _ _ => pdts_nil) (fun R _ _ _ _ _ => pd_tup (pda_cons (pd 7) (pda_cons (pd 8) (pda_cons (pd_if (pdt_cmp od_is (pd 9) (pd_non)) (pd_non) (pd_call (raw_behind c) (hr.mono (by decide : 6 ≤ 7)) rfl c.g_behind c.k_behind (pda_cons (pd 4) (pda_cons (pd 9) (pda_nil))))) (pda_nil)))))))))) (pdss_frz 2 (pdss_one (pds_ret (pd_lc [("item", 6)] rfl hN (ki_seq (K := K) (pd 2)) (blkOk_by (N := ["changes", "last", "found", "at", "step", "there", "item", "begun", "first", "day"]) (sc := defScope (top 48)) (by decide +kernel)) (fun _ _ _ _ _ => pdg_name 6 hN) (fun _ _ _ _ _ => pdts_one (pdt_cmp od_le (k_ix (K := K) (pd 6) (pd_int)) (pd 1))) (fun _ _ _ _ _ => pd 6)))))), fun ds kk h => law_new_ones _ R ds kk h⟩
theorem raw_new_ones {P : Program} {w : World} {K : PySem.W.Frag} {mg : Str → Option Value} {base : Heap} (c : Sys K mg) : FnR P w K mg base CX0 8 ((p_new_ones).at_ K) (spD (pm K w) sp_new_ones) := let ⟨_, F, B⟩ := ok_new_ones (P := P) (w := w) (base := base) c; raw0 F B
theorem ok_need_day {P : Program} {w : World} {K : PySem.W.Frag} {mg : Str → Option Value} {base : Heap} (c : Sys K mg) : ∃ fd, FnOk P w K mg base CX0 2 ((p_need_day).at_ K) fd ["day"] (spD (pm K w) sp_need_day) ∧ Binds K fd ["day"] [] := by
  obtain ⟨fd, F⟩ := c.d_need_day
  have S : FnScope ["day"] ["day"] (defScope (top 49)) := ⟨rfl, rfl, rfl, by decide +kernel, rfl, by decide +kernel, by decide +kernel⟩
  have hN : (["day"] : List Str).Nodup := S.nd
  refine ⟨fd, fn_ok F S len_need_day fun cdv A outer s H E hr R => ?_, F.bindsN fun _ _ _ _ _ _ us hl => match us, hl with | [_], _ => rfl⟩
  exact ⟨_, d_need_day (pm K w) R, pdss_one (pds_if (pdt_not (pdt_val (pd_call (raw_is_number c) (hr.mono (by decide : 1 ≤ 1)) rfl c.g_is_number c.k_is_number (pda_cons (pd 0) (pda_nil))))) (pdss_one (pds_never)) (pdss_nil)), fun ds kk h => law_need_day _ R ds kk h⟩
theorem raw_need_day {P : Program} {w : World} {K : PySem.W.Frag} {mg : Str → Option Value} {base : Heap} (c : Sys K mg) : FnR P w K mg base CX0 2 ((p_need_day).at_ K) (spD (pm K w) sp_need_day) := let ⟨_, F, B⟩ := ok_need_day (P := P) (w := w) (base := base) c; raw0 F B
theorem ok_nearer {P : Program} {w : World} {K : PySem.W.Frag} {mg : Str → Option Value} {base : Heap} (c : Sys K mg) : ∃ fd, FnOk P w K mg base CX0 7 ((p_nearer).at_ K) fd ["changes", "day"] (spD (pm K w) sp_nearer) ∧ Binds K fd ["changes", "day"] [] := by
  obtain ⟨fd, F⟩ := c.d_nearer
  obtain ⟨_, F_Script_size, B_Script_size⟩ := ok_Script_size (P := P) (w := w) (base := base) c
  have S : FnScope ["changes", "day", "begin"] ["changes", "day"] (defScope (top 50)) := ⟨rfl, rfl, rfl, by decide +kernel, rfl, by decide +kernel, by decide +kernel⟩
  have hN : (["changes", "day", "begin"] : List Str).Nodup := S.nd
  refine ⟨fd, fn_ok F S len_nearer fun cdv A outer s H E hr R => ?_, F.bindsN fun _ _ _ _ _ _ us hl => match us, hl with | [_, _], _ => rfl⟩
  exact ⟨_, d_nearer (pm K w) R, pdss_cons (pds_set 2 hN (pd_call (raw_far c) (hr.mono (by decide : 4 ≤ 6)) rfl c.g_far c.k_far (pda_cons (pd 0) (pda_nil)))) (pdss_one (pds_ret (pd_if (pdt_cmp od_lt (pd 1) (pd 2)) (pd 1) (pd_op (ke_add (K := K)) (pd 2) (pd_op od_mod (pd_op od_sub (pd 1) (pd 2)) (pd_prop (pd 0) c.c_Script c.pr_Script_size F_Script_size B_Script_size (hr.mono (by decide : 6 ≤ 6)))))))), fun ds kk h => law_nearer _ R ds kk h⟩
theorem raw_nearer {P : Program} {w : World} {K : PySem.W.Frag} {mg : Str → Option Value} {base : Heap} (c : Sys K mg) : FnR P w K mg base CX0 7 ((p_nearer).at_ K) (spD (pm K w) sp_nearer) := let ⟨_, F, B⟩ := ok_nearer (P := P) (w := w) (base := base) c; raw0 F B
theorem ok_near_offers {P : Program} {w : World} {K : PySem.W.Frag} {mg : Str → Option Value} {base : Heap} (c : Sys K mg) : ∃ fd, FnOk P w K mg base CX0 9 ((p_near_offers).at_ K) fd ["changes"] (spD (pm K w) sp_near_offers) ∧ Binds K fd ["changes"] [] := by
  obtain ⟨fd, F⟩ := c.d_near_offers
  obtain ⟨_, F_Script_size, B_Script_size⟩ := ok_Script_size (P := P) (w := w) (base := base) c
  have S : FnScope ["changes", "at", "first", "day"] ["changes"] (defScope (top 51)) := ⟨rfl, rfl, rfl, by decide +kernel, rfl, by decide +kernel, by decide +kernel⟩
  have hN : (["changes", "at", "first", "day"] : List Str).Nodup := S.nd
  refine ⟨fd, fn_ok F S len_near_offers fun cdv A outer s H E hr R => ?_, F.bindsN fun _ _ _ _ _ _ us hl => match us, hl with | [_], _ => rfl⟩
  exact ⟨_, d_near_offers (pm K w) R, pdss_one (pds_ret (pd_dx [("at", 1), ("first", 2), ("day", 3)] (hsOk K w) hr.u8 rfl hN (ki_seq (K := K) (pd_call (raw_new_ones c) (hr.mono (by decide : 8 ≤ 8)) rfl c.g_new_ones c.k_new_ones (pda_cons (pd 0) (pda_cons (pd_op (ke_add (K := K)) (pd_call (raw_far c) (hr.mono (by decide : 4 ≤ 8)) rfl c.g_far c.k_far (pda_cons (pd 0) (pda_nil))) (pd_prop (pd 0) c.c_Script c.pr_Script_size F_Script_size B_Script_size (hr.mono (by decide : 6 ≤ 8)))) (pda_nil))))) (blkOk_by (N := ["changes", "at", "first", "day"]) (sc := defScope (top 51)) (by decide +kernel)) (fun _ _ _ _ _ => kg_tup (K := K) rfl (pgn_cons 1 hN (pgn_cons 2 hN (pgn_cons 3 hN (pgn_nil))))) (fun _ _ _ _ _ => pdts_nil) (fun _ _ _ _ _ => pd_tup (pda_cons (pd 1) (pda_cons (pd 2) (pda_nil)))) (fun _ _ _ _ _ => pd_bl))), fun ds kk h => law_near_offers _ R ds kk h⟩
theorem raw_near_offers {P : Program} {w : World} {K : PySem.W.Frag} {mg : Str → Option Value} {base : Heap} (c : Sys K mg) : FnR P w K mg base CX0 9 ((p_near_offers).at_ K) (spD (pm K w) sp_near_offers) := let ⟨_, F, B⟩ := ok_near_offers (P := P) (w := w) (base := base) c; raw0 F B
theorem ok_block_of {P : Program} {w : World} {K : PySem.W.Frag} {mg : Str → Option Value} {base : Heap} (c : Sys K mg) : ∃ fd, FnOk P w K mg base CX0 8 ((p_block_of).at_ K) fd ["changes", "there", "date"] (spD (pm K w) sp_block_of) ∧ Binds K fd ["changes", "there", "date"] [] := by
  obtain ⟨fd, F⟩ := c.d_block_of
  obtain ⟨_, F_Script_steps, B_Script_steps⟩ := ok_Script_steps (P := P) (w := w) (base := base) c
  obtain ⟨_, e_ADD⟩ := c.s_ADD
  have S : FnScope ["changes", "there", "date", "day", "at", "step"] ["changes", "there", "date"] (defScope (top 52)) := ⟨rfl, rfl, rfl, by decide +kernel, rfl, by decide +kernel, by decide +kernel⟩
  have hN : (["changes", "there", "date", "day", "at", "step"] : List Str).Nodup := S.nd
  refine ⟨fd, fn_ok F S len_block_of fun cdv A outer s H E hr R => ?_, F.bindsN fun _ _ _ _ _ _ us hl => match us, hl with | [_, _, _], _ => rfl⟩
  exact ⟨_, d_block_of (pm K w) R, pdss_cons (pds_set 3 hN (pd 2)) (pdss_cons (pds_for rfl (ki_enum (K := K) rfl c.n_enumerate (pda_cons (pd_prop (pd 0) c.c_Script c.pr_Script_steps F_Script_steps B_Script_steps (hr.mono (by decide : 2 ≤ 7))) (pda_nil))) (kg_tup (K := K) rfl (pgn_cons 4 hN (pgn_cons 5 hN (pgn_nil)))) (pdss_cons (pds_if (PDW.pt (pdw_and (pdt_cmp (ke_eq (K := K) hr.units) (k_ix (K := K) (pd 5) (pd_int)) (pd_globS rfl e_ADD)) (pdw_and1 (pdt_cmp (od_inD (hsOk K w) hr.u9) (pd_tup (pda_cons (pd 4) (pda_cons (pd_call (raw_nearer c) (hr.mono (by decide : 7 ≤ 7)) rfl c.g_nearer c.k_nearer (pda_cons (pd 0) (pda_cons (pd 3) (pda_nil)))) (pda_nil)))) (pd 1))))) (pdss_one (pds_ret (pd_tup (pda_cons (pd 4) (pda_cons (pd 3) (pda_nil)))))) (pdss_nil)) (pdss_cons (pds_set 3 hN (pd_call (raw_behind c) (hr.mono (by decide : 6 ≤ 7)) rfl c.g_behind c.k_behind (pda_cons (pd 5) (pda_cons (pd 3) (pda_nil))))) (pdss_one (pds_if (pdt_cmp od_is (pd 3) (pd_non)) (pdss_one (pds_ret (pd_non))) (pdss_nil)))))) (pdss_one (pds_ret (pd_non)))), fun ds kk h => law_block_of _ R ds kk h⟩
theorem raw_block_of {P : Program} {w : World} {K : PySem.W.Frag} {mg : Str → Option Value} {base : Heap} (c : Sys K mg) : FnR P w K mg base CX0 8 ((p_block_of).at_ K) (spD (pm K w) sp_block_of) := let ⟨_, F, B⟩ := ok_block_of (P := P) (w := w) (base := base) c; raw0 F B
theorem ok_are_dates {P : Program} {w : World} {K : PySem.W.Frag} {mg : Str → Option Value} {base : Heap} (c : Sys K mg) : ∃ fd, FnOk P w K mg base CX0 3 ((p_are_dates).at_ K) fd ["thing"] (spD (pm K w) sp_are_dates) ∧ Binds K fd ["thing"] [] := by
  obtain ⟨fd, F⟩ := c.d_are_dates
  obtain ⟨_, e_LAST_DATE⟩ := c.i_LAST_DATE
  obtain ⟨_, e_MOST_DATES⟩ := c.i_MOST_DATES
  have S : FnScope ["thing"] ["thing"] (defScope (top 56)) := ⟨rfl, rfl, rfl, by decide +kernel, rfl, by decide +kernel, by decide +kernel⟩
  have hN : (["thing"] : List Str).Nodup := S.nd
  refine ⟨fd, fn_ok F S len_are_dates fun cdv A outer s H E hr R => ?_, F.bindsN fun _ _ _ _ _ _ us hl => match us, hl with | [_], _ => rfl⟩
  exact ⟨_, d_are_dates (pm K w) R, pdss_one (pds_ret (pd_and (pd_call (raw_is_list c) (hr.mono (by decide : 1 ≤ 2)) rfl c.g_is_list c.k_is_list (pda_cons (pd 0) (pda_nil))) (pd_and (pd_cmp od_le (pd_callB (kd_len (K := K)) rfl c.n_len (by rfl) (pda_cons (pd 0) (pda_nil))) (pd_globI rfl e_MOST_DATES)) (pd_one (pd_call (raw_are_different c) (hr.mono (by decide : 2 ≤ 2)) rfl c.g_are_different c.k_are_different (pda_cons (pd 0) (pda_cons (pd_int) (pda_cons (pd_globI rfl e_LAST_DATE) (pda_nil))))))))), fun ds kk h => law_are_dates _ R ds kk h⟩
theorem raw_are_dates {P : Program} {w : World} {K : PySem.W.Frag} {mg : Str → Option Value} {base : Heap} (c : Sys K mg) : FnR P w K mg base CX0 3 ((p_are_dates).at_ K) (spD (pm K w) sp_are_dates) := let ⟨_, F, B⟩ := ok_are_dates (P := P) (w := w) (base := base) c; raw0 F B
theorem ok_need_dates {P : Program} {w : World} {K : PySem.W.Frag} {mg : Str → Option Value} {base : Heap} (c : Sys K mg) : ∃ fd, FnOk P w K mg base CX0 4 ((p_need_dates).at_ K) fd ["dates"] (spD (pm K w) sp_need_dates) ∧ Binds K fd ["dates"] [] := by
  obtain ⟨fd, F⟩ := c.d_need_dates
  have S : FnScope ["dates"] ["dates"] (defScope (top 57)) := ⟨rfl, rfl, rfl, by decide +kernel, rfl, by decide +kernel, by decide +kernel⟩
  have hN : (["dates"] : List Str).Nodup := S.nd
  refine ⟨fd, fn_ok F S len_need_dates fun cdv A outer s H E hr R => ?_, F.bindsN fun _ _ _ _ _ _ us hl => match us, hl with | [_], _ => rfl⟩
  exact ⟨_, d_need_dates (pm K w) R, pdss_one (pds_if (pdt_not (pdt_val (pd_call (raw_are_dates c) (hr.mono (by decide : 3 ≤ 3)) rfl c.g_are_dates c.k_are_dates (pda_cons (pd 0) (pda_nil))))) (pdss_one (pds_never)) (pdss_nil)), fun ds kk h => law_need_dates _ R ds kk h⟩
theorem raw_need_dates {P : Program} {w : World} {K : PySem.W.Frag} {mg : Str → Option Value} {base : Heap} (c : Sys K mg) : FnR P w K mg base CX0 4 ((p_need_dates).at_ K) (spD (pm K w) sp_need_dates) := let ⟨_, F, B⟩ := ok_need_dates (P := P) (w := w) (base := base) c; raw0 F B
theorem ok_in_order {P : Program} {w : World} {K : PySem.W.Frag} {mg : Str → Option Value} {base : Heap} (c : Sys K mg) : ∃ fd, FnOk P w K mg base CX0 1 ((p_in_order).at_ K) fd ["stands_here"] (spD (pm K w) sp_in_order) ∧ Binds K fd ["stands_here"] [] := by
  obtain ⟨fd, F⟩ := c.d_in_order
  have S : FnScope ["stands_here", "olds", "news", "day", "origin", "side"] ["stands_here"] (defScope (top 58)) := ⟨rfl, rfl, rfl, by decide +kernel, rfl, by decide +kernel, by decide +kernel⟩
  have hN : (["stands_here", "olds", "news", "day", "origin", "side"] : List Str).Nodup := S.nd
  refine ⟨fd, fn_ok F S len_in_order fun cdv A outer s H E hr R => ?_, F.bindsN fun _ _ _ _ _ _ us hl => match us, hl with | [_], _ => rfl⟩
  exact ⟨_, d_in_order (pm K w) R, pdss_cons (pds_set 1 hN (pd_callB (cd_sorted hr.units) rfl c.n_sorted (by rfl) (pda_cons (pd_lc [("day", 3), ("origin", 4)] rfl hN (ki_seq (K := K) (pd 0)) (blkOk_by (N := ["stands_here", "olds", "news", "day", "origin", "side"]) (sc := defScope (top 58)) (by decide +kernel)) (fun _ _ _ _ _ => kg_tup (K := K) rfl (pgn_cons 3 hN (pgn_cons 4 hN (pgn_nil)))) (fun _ _ _ _ _ => pdts_one (pdt_cmp od_isn (pd 4) (pd_non))) (fun _ _ _ _ _ => pd_tup (pda_cons (pd 3) (pda_cons (pd_int) (pda_cons (pd 4) (pda_nil)))))) (pda_nil)))) (pdss_cons (pds_setLc 2 [("day", 3), ("origin", 4)] rfl hN (ki_seq (K := K) (pd 0)) (blkOk_by (N := ["stands_here", "olds", "news", "day", "origin", "side"]) (sc := defScope (top 58)) (by decide +kernel)) (fun _ _ _ _ _ => kg_tup (K := K) rfl (pgn_cons 3 hN (pgn_cons 4 hN (pgn_nil)))) (fun _ _ _ _ _ => pdts_one (pdt_cmp od_is (pd 4) (pd_non))) (fun _ _ _ _ _ => pd_tup (pda_cons (pd 3) (pda_cons (pd_int) (pda_cons (pd_int) (pda_nil)))))) (pdss_one (pds_ret (pd_lc [("day", 3), ("side", 5), ("origin", 4)] rfl hN (ki_seq (K := K) (pd_callB (cd_sorted hr.units) rfl c.n_sorted (by rfl) (pda_cons (pd_op (ke_add (K := K)) (pd 1) (pd 2)) (pda_nil)))) (blkOk_by (N := ["stands_here", "olds", "news", "day", "origin", "side"]) (sc := defScope (top 58)) (by decide +kernel)) (fun _ _ _ _ _ => kg_tup (K := K) rfl (pgn_cons 3 hN (pgn_cons 5 hN (pgn_cons 4 hN (pgn_nil))))) (fun _ _ _ _ _ => pdts_nil) (fun _ _ _ _ _ => pd_tup (pda_cons (pd 3) (pda_cons (pd_if (pdt_cmp (ke_eq (K := K) hr.units) (pd 5) (pd_int)) (pd_non) (pd 4)) (pda_nil)))))))), fun ds kk h => law_in_order _ R ds kk h⟩
theorem raw_in_order {P : Program} {w : World} {K : PySem.W.Frag} {mg : Str → Option Value} {base : Heap} (c : Sys K mg) : FnR P w K mg base CX0 1 ((p_in_order).at_ K) (spD (pm K w) sp_in_order) := let ⟨_, F, B⟩ := ok_in_order (P := P) (w := w) (base := base) c; raw0 F B
theorem ok_stands_behind {P : Program} {w : World} {K : PySem.W.Frag} {mg : Str → Option Value} {base : Heap} (c : Sys K mg) : ∃ fd, FnOk P w K mg base CX0 10 ((p_stands_behind).at_ K) fd ["changes", "dates", "last"] (spD (pm K w) sp_stands_behind) ∧ Binds K fd ["changes", "dates", "last"] [] := by
  obtain ⟨fd, F⟩ := c.d_stands_behind
  have S : FnScope ["changes", "dates", "last", "there", "barred", "news", "olds", "date", "at", "first", "day"] ["changes", "dates", "last"] (defScope (top 59)) := ⟨rfl, rfl, rfl, by decide +kernel, rfl, by decide +kernel, by decide +kernel⟩
  have hN : (["changes", "dates", "last", "there", "barred", "news", "olds", "date", "at", "first", "day"] : List Str).Nodup := S.nd
  refine ⟨fd, fn_ok F S len_stands_behind fun cdv A outer s H E hr R => ?_, F.bindsN fun _ _ _ _ _ _ us hl => match us, hl with | [_, _, _], _ => rfl⟩
  exact ⟨_, d_stands_behind (pm K w) R, pdss_cons (pds_set 3 hN (pd_if (pdt_val (pd_meth0 (pd 0) c.c_Script c.m_has_new (show ¬ _ ∈ (["own_steps"] : List Str) by decide +kernel) (raw_Script_has_new c) (hr.mono (by decide : 1 ≤ 9)))) (pd_call (raw_near_offers c) (hr.mono (by decide : 9 ≤ 9)) rfl c.g_near_offers c.k_near_offers (pda_cons (pd 0) (pda_nil))) (pd_newD))) (pdss_cons (pds_set 4 hN (pd_dx [("date", 7)] (hsOk K w) hr.u8 rfl hN (ki_seq (K := K) (pd 1)) (blkOk_by (N := ["changes", "dates", "last", "there", "barred", "news", "olds", "date", "at", "first", "day"]) (sc := defScope (top 59)) (by decide +kernel)) (fun _ _ _ _ _ => pdg_name 7 hN) (fun _ _ _ _ _ => pdts_nil) (fun _ _ _ _ _ => pd_call (raw_block_of c) (hr.mono (by decide : 8 ≤ 9)) rfl c.g_block_of c.k_block_of (pda_cons (pd 0) (pda_cons (pd 3) (pda_cons (pd 7) (pda_nil))))) (fun _ _ _ _ _ => pd_bl))) (pdss_cons (pds_setLc 5 [("at", 8), ("first", 9), ("day", 10)] rfl hN (ki_seq (K := K) (pd_call (raw_new_ones c) (hr.mono (by decide : 8 ≤ 9)) rfl c.g_new_ones c.k_new_ones (pda_cons (pd 0) (pda_cons (pd_op (ke_add (K := K)) (pd 2) (pd_call (raw_span c) (hr.mono (by decide : 3 ≤ 9)) rfl c.g_span c.k_span (pda_cons (pd 0) (pda_nil)))) (pda_nil))))) (blkOk_by (N := ["changes", "dates", "last", "there", "barred", "news", "olds", "date", "at", "first", "day"]) (sc := defScope (top 59)) (by decide +kernel)) (fun _ _ _ _ _ => kg_tup (K := K) rfl (pgn_cons 8 hN (pgn_cons 9 hN (pgn_cons 10 hN (pgn_nil))))) (fun _ _ _ _ _ => pdts_one (PDW.pt (pdw_and (pdt_cmp od_isn (pd 10) (pd_non)) (pdw_and (pdt_cmp od_le (pd 10) (pd 2)) (pdw_and1 (pdt_cmp (od_ninD (hsOk K w) hr.u9) (pd_tup (pda_cons (pd 8) (pda_cons (pd 9) (pda_nil)))) (pd 4))))))) (fun _ _ _ _ _ => pd_tup (pda_cons (pd 10) (pda_cons (pd_non) (pda_nil))))) (pdss_cons (pds_setLc 6 [("date", 7)] rfl hN (ki_seq (K := K) (pd 1)) (blkOk_by (N := ["changes", "dates", "last", "there", "barred", "news", "olds", "date", "at", "first", "day"]) (sc := defScope (top 59)) (by decide +kernel)) (fun _ _ _ _ _ => pdg_name 7 hN) (fun _ _ _ _ _ => pdts_nil) (fun _ _ _ _ _ => pd_tup (pda_cons (k_callI (K := K) (pd 0) c.o_call (raw_Script_call c) (hr.mono (by decide : 8 ≤ 9)) (pda_cons (pd 7) (pda_nil))) (pda_cons (pd 7) (pda_nil))))) (pdss_one (pds_ret (pd_call (raw_in_order c) (hr.mono (by decide : 1 ≤ 9)) rfl c.g_in_order c.k_in_order (pda_cons (pd_op (ke_add (K := K)) (pd 5) (pd_lc [("day", 10), ("date", 7)] rfl hN (ki_seq (K := K) (pd 6)) (blkOk_by (N := ["changes", "dates", "last", "there", "barred", "news", "olds", "date", "at", "first", "day"]) (sc := defScope (top 59)) (by decide +kernel)) (fun _ _ _ _ _ => kg_tup (K := K) rfl (pgn_cons 10 hN (pgn_cons 7 hN (pgn_nil)))) (fun _ _ _ _ _ => pdts_one (PDW.pt (pdw_and (pdt_cmp od_isn (pd 10) (pd_non)) (pdw_and1 (pdt_cmp od_le (pd 10) (pd 2)))))) (fun _ _ _ _ _ => pd_tup (pda_cons (pd 10) (pda_cons (pd 7) (pda_nil)))))) (pda_nil)))))))), fun ds kk h => law_stands_behind _ R ds kk h⟩
theorem raw_stands_behind {P : Program} {w : World} {K : PySem.W.Frag} {mg : Str → Option Value} {base : Heap} (c : Sys K mg) : FnR P w K mg base CX0 10 ((p_stands_behind).at_ K) (spD (pm K w) sp_stands_behind) := let ⟨_, F, B⟩ := ok_stands_behind (P := P) (w := w) (base := base) c; raw0 F B
theorem ok_all_stands {P : Program} {w : World} {K : PySem.W.Frag} {mg : Str → Option Value} {base : Heap} (c : Sys K mg) : ∃ fd, FnOk P w K mg base CX0 11 ((p_all_stands).at_ K) fd ["changes", "dates", "last"] (spD (pm K w) sp_all_stands) ∧ Binds K fd ["changes", "dates", "last"] [] := by
  obtain ⟨fd, F⟩ := c.d_all_stands
  have S : FnScope ["changes", "dates", "last"] ["changes", "dates", "last"] (defScope (top 60)) := ⟨rfl, rfl, rfl, by decide +kernel, rfl, by decide +kernel, by decide +kernel⟩
  have hN : (["changes", "dates", "last"] : List Str).Nodup := S.nd
  refine ⟨fd, fn_ok F S len_all_stands fun cdv A outer s H E hr R => ?_, F.bindsN fun _ _ _ _ _ _ us hl => match us, hl with | [_, _, _], _ => rfl⟩
  exact ⟨_, d_all_stands (pm K w) R, pdss_cons (pds_expr (pd_call (raw_need_dates c) (hr.mono (by decide : 4 ≤ 10)) rfl c.g_need_dates c.k_need_dates (pda_cons (pd 1) (pda_nil)))) (pdss_cons (pds_expr (pd_call (raw_need_day c) (hr.mono (by decide : 2 ≤ 10)) rfl c.g_need_day c.k_need_day (pda_cons (pd 2) (pda_nil)))) (pdss_one (pds_ret (pd_call (raw_stands_behind c) (hr.mono (by decide : 10 ≤ 10)) rfl c.g_stands_behind c.k_stands_behind (pda_cons (pd 0) (pda_cons (pd 1) (pda_cons (pd 2) (pda_nil)))))))), fun ds kk h => law_all_stands _ R ds kk h⟩
theorem raw_all_stands {P : Program} {w : World} {K : PySem.W.Frag} {mg : Str → Option Value} {base : Heap} (c : Sys K mg) : FnR P w K mg base CX0 11 ((p_all_stands).at_ K) (spD (pm K w) sp_all_stands) := let ⟨_, F, B⟩ := ok_all_stands (P := P) (w := w) (base := base) c; raw0 F B
theorem ok_first_block {P : Program} {w : World} {K : PySem.W.Frag} {mg : Str → Option Value} {base : Heap} (c : Sys K mg) : ∃ fd, FnOk P w K mg base CX0 7 ((p_first_block).at_ K) fd ["changes", "there", "date"] (spD (pm K w) sp_first_block) ∧ Binds K fd ["changes", "there", "date"] [] := by
  obtain ⟨fd, F⟩ := c.d_first_block
  obtain ⟨_, F_Script_steps, B_Script_steps⟩ := ok_Script_steps (P := P) (w := w) (base := base) c
  obtain ⟨_, e_ADD⟩ := c.s_ADD
  have S : FnScope ["changes", "there", "date", "day", "at", "step"] ["changes", "there", "date"] (defScope (top 62)) := ⟨rfl, rfl, rfl, by decide +kernel, rfl, by decide +kernel, by decide +kernel⟩
  have hN : (["changes", "there", "date", "day", "at", "step"] : List Str).Nodup := S.nd
  refine ⟨fd, fn_ok F S len_first_block fun cdv A outer s H E hr R => ?_, F.bindsN fun _ _ _ _ _ _ us hl => match us, hl with | [_, _, _], _ => rfl⟩
  exact ⟨_, d_first_block (pm K w) R, pdss_cons (pds_set 3 hN (pd 2)) (pdss_cons (pds_for rfl (ki_enum (K := K) rfl c.n_enumerate (pda_cons (pd_prop (pd 0) c.c_Script c.pr_Script_steps F_Script_steps B_Script_steps (hr.mono (by decide : 2 ≤ 6))) (pda_nil))) (kg_tup (K := K) rfl (pgn_cons 4 hN (pgn_cons 5 hN (pgn_nil)))) (pdss_cons (pds_if (PDW.pt (pdw_and (pdt_cmp (ke_eq (K := K) hr.units) (k_ix (K := K) (pd 5) (pd_int)) (pd_globS rfl e_ADD)) (pdw_and1 (pdt_cmp (od_inD (hsOk K w) hr.u9) (pd_tup (pda_cons (pd 4) (pda_cons (pd 3) (pda_nil)))) (pd 1))))) (pdss_one (pds_ret (pd_tup (pda_cons (pd 4) (pda_cons (pd 3) (pda_nil)))))) (pdss_nil)) (pdss_cons (pds_set 3 hN (pd_call (raw_behind c) (hr.mono (by decide : 6 ≤ 6)) rfl c.g_behind c.k_behind (pda_cons (pd 5) (pda_cons (pd 3) (pda_nil))))) (pdss_one (pds_if (pdt_cmp od_is (pd 3) (pd_non)) (pdss_one (pds_ret (pd_non))) (pdss_nil)))))) (pdss_one (pds_ret (pd_non)))), fun ds kk h => law_first_block _ R ds kk h⟩
theorem raw_first_block {P : Program} {w : World} {K : PySem.W.Frag} {mg : Str → Option Value} {base : Heap} (c : Sys K mg) : FnR P w K mg base CX0 7 ((p_first_block).at_ K) (spD (pm K w) sp_first_block) := let ⟨_, F, B⟩ := ok_first_block (P := P) (w := w) (base := base) c; raw0 F B
theorem ok_Side_init {P : Program} {w : World} {K : PySem.W.Frag} {mg : Str → Option Value} {base : Heap} (c : Sys K mg) : ∃ fd, FnOk P w K mg base CX0 9 ((p_Side_init).at_ K) fd ["self", "changes", "many"] (spI (pm K w) 2 sp_Side_init) ∧ Binds K fd ["self", "changes", "many"] [] := by
  obtain ⟨fd, F⟩ := c.d_Side_init
  have S : FnScope ["self", "changes", "many", "offers", "at", "first", "day"] ["self", "changes", "many"] (defScope (inClass (top 65) 0)) := ⟨rfl, rfl, rfl, by decide +kernel, rfl, by decide +kernel, by decide +kernel⟩
  have hN : (["self", "changes", "many", "offers", "at", "first", "day"] : List Str).Nodup := S.nd
  refine ⟨fd, fn_init F S len_Side_init fun cdv A outer s H E hr R => ?_, F.bindsN fun _ _ _ _ _ _ us hl => match us, hl with | [_, _, _], _ => rfl⟩
  exact ⟨_, d_Side_init (pm K w) R, pdss_cons (pds_fld 0 c.c_Side c.na_own_script (pd 1)) (pdss_cons (pds_set 3 hN (pd_call (raw_new_ones c) (hr.mono (by decide : 8 ≤ 8)) rfl c.g_new_ones c.k_new_ones (pda_cons (pd 1) (pda_cons (pd_op (ke_add (K := K)) (pd 2) (pd_call (raw_span c) (hr.mono (by decide : 3 ≤ 8)) rfl c.g_span c.k_span (pda_cons (pd 1) (pda_nil)))) (pda_nil))))) (pdss_cons (pds_fld 0 c.c_Side c.na_there (pd_dx [("at", 4), ("first", 5), ("day", 6)] (hsOk K w) hr.u8 rfl hN (ki_seq (K := K) (pd 3)) (blkOk_by (N := ["self", "changes", "many", "offers", "at", "first", "day"]) (sc := defScope (inClass (top 65) 0)) (by decide +kernel)) (fun _ _ _ _ _ => kg_tup (K := K) rfl (pgn_cons 4 hN (pgn_cons 5 hN (pgn_cons 6 hN (pgn_nil))))) (fun _ _ _ _ _ => pdts_nil) (fun _ _ _ _ _ => pd_tup (pda_cons (pd 4) (pda_cons (pd 5) (pda_nil)))) (fun _ _ _ _ _ => pd_bl))) (pdss_one (pds_fld 0 c.c_Side c.na_news (pd_callB (cd_sorted hr.units) rfl c.n_sorted (by rfl) (pda_cons (pd_lc [("at", 4), ("first", 5), ("day", 6)] rfl hN (ki_seq (K := K) (pd 3)) (blkOk_by (N := ["self", "changes", "many", "offers", "at", "first", "day"]) (sc := defScope (inClass (top 65) 0)) (by decide +kernel)) (fun _ _ _ _ _ => kg_tup (K := K) rfl (pgn_cons 4 hN (pgn_cons 5 hN (pgn_cons 6 hN (pgn_nil))))) (fun _ _ _ _ _ => pdts_one (PDW.pt (pdw_and (pdt_cmp od_isn (pd 6) (pd_non)) (pdw_and1 (pdt_cmp od_le (pd 6) (pd 2)))))) (fun _ _ _ _ _ => pd 6)) (pda_nil))))))), fun x ds kk h => law_Side_init _ rfl R x ds kk h⟩
theorem raw_Side_init {P : Program} {w : World} {K : PySem.W.Frag} {mg : Str → Option Value} {base : Heap} (c : Sys K mg) : FnR P w K mg base CX0 9 ((p_Side_init).at_ K) (spI (pm K w) 2 sp_Side_init) := let ⟨_, F, B⟩ := ok_Side_init (P := P) (w := w) (base := base) c; raw0 F B
theorem ok_Side_told {P : Program} {w : World} {K : PySem.W.Frag} {mg : Str → Option Value} {base : Heap} (c : Sys K mg) : ∃ fd, FnOk P w K mg base CX0 9 ((p_Side_told).at_ K) fd ["self", "date"] (spD (pm K w) sp_Side_told) ∧ Binds K fd ["self", "date"] [] := by
  obtain ⟨fd, F⟩ := c.d_Side_told
  have S : FnScope ["self", "date", "day"] ["self", "date"] (defScope (inClass (top 65) 1)) := ⟨rfl, rfl, rfl, by decide +kernel, rfl, by decide +kernel, by decide +kernel⟩
  have hN : (["self", "date", "day"] : List Str).Nodup := S.nd
  refine ⟨fd, fn_ok F S len_Side_told fun cdv A outer s H E hr R => ?_, F.bindsN fun _ _ _ _ _ _ us hl => match us, hl with | [_, _], _ => rfl⟩
  exact ⟨_, d_Side_told (pm K w) R, pdss_cons (pds_set 2 hN (k_callF (K := K) (n := 2) 0 (pd 0) c.c_Side rfl c.na_own_script c.o_call (raw_Script_call c) (hr.mono (by decide : 8 ≤ 8)) (pda_cons (pd 1) (pda_nil)))) (pdss_one (pds_ret (pd_tup (pda_cons (pd 2) (pda_cons (pd_if (pdt_cmp od_isn (pd 2) (pd_non)) (pd_call (raw_first_block c) (hr.mono (by decide : 7 ≤ 8)) rfl c.g_first_block c.k_first_block (pda_cons (k_fld (K := K) 0 (pd 0) c.c_Side rfl c.na_own_script) (pda_cons (k_fld (K := K) 1 (pd 0) c.c_Side rfl c.na_there) (pda_cons (pd 1) (pda_nil))))) (pd_non)) (pda_nil)))))), fun ds kk h => law_Side_told _ R ds kk h⟩
theorem raw_Side_told {P : Program} {w : World} {K : PySem.W.Frag} {mg : Str → Option Value} {base : Heap} (c : Sys K mg) : FnR P w K mg base CX0 9 ((p_Side_told).at_ K) (spD (pm K w) sp_Side_told) := let ⟨_, F, B⟩ := ok_Side_told (P := P) (w := w) (base := base) c; raw0 F B
theorem ok_parted_by_two {P : Program} {w : World} {K : PySem.W.Frag} {mg : Str → Option Value} {base : Heap} (c : Sys K mg) : ∃ fd, FnOk P w K mg base CX0 1 ((p_parted_by_two).at_ K) fd ["told"] (spD (pm K w) sp_parted_by_two) ∧ Binds K fd ["told"] [] := by
  obtain ⟨fd, F⟩ := c.d_parted_by_two
  have S : FnScope ["told", "groups", "date", "side", "pair", "found", "offer", "later", "here", "there"] ["told"] (defScope (top 66)) := ⟨rfl, rfl, rfl, by decide +kernel, rfl, by decide +kernel, by decide +kernel⟩
  have hN : (["told", "groups", "date", "side", "pair", "found", "offer", "later", "here", "there"] : List Str).Nodup := S.nd
  refine ⟨fd, fn_ok F S len_parted_by_two fun cdv A outer s H E hr R => ?_, F.bindsN fun _ _ _ _ _ _ us hl => match us, hl with | [_], _ => rfl⟩
  exact ⟨_, d_parted_by_two (pm K w) R, pdss_cons (pds_grp0 1 hN) (pdss_cons (pds_for rfl (pdi_rng1 rfl c.n_range (pda_cons (pd_callB (kd_len (K := K)) rfl c.n_len (by rfl) (pda_cons (pd 0) (pda_nil))) (pda_nil))) (pdg_name 2 hN) (pdss_one (pds_for rfl (ki_seq (K := K) (pd_tup (pda_cons (pd_int) (pda_cons (pd_int) (pda_nil))))) (pdg_name 3 hN) (pdss_cons (pds_set 6 hN (k_ix (K := K) (k_ix (K := K) (k_ix (K := K) (pd 0) (pd 2)) (pd 3)) (pd_int))) (pdss_one (pds_if (pdt_cmp od_isn (pd 6) (pd_non)) (pdss_one (pds_grpPut 1 3 6 2 (hsOk K w) hr.u9 (pv 1) (pv 3) (pv 6) (pv 1) (pv 3) (pv 6) (pv 2))) (pdss_nil))))))) (pdss_grpFrz 1 (pdss_cons (pds_for rfl (ki_enum (K := K) rfl c.n_enumerate (pda_cons (pd 0) (pda_nil))) (kg_tup (K := K) rfl (pgn_cons 2 hN (pgn_cons 4 hN (pgn_nil)))) (pdss_cons (pds_setS 5 hN (sl_lst (pda_nil))) (pdss_cons (pds_for rfl (ki_seq (K := K) (pd_tup (pda_cons (pd_int) (pda_cons (pd_int) (pda_nil))))) (pdg_name 3 hN) (pdss_cons (pds_par rfl hN (sl_val (k_ix (K := K) (k_ix (K := K) (pd 4) (pd 3)) (pd_int))) (sl_val (k_ix (K := K) (k_ix (K := K) (pd 4) (pd_op od_sub (pd_int) (pd 3))) (pd_int)))) (pdss_one (pds_for rfl (ki_seq (K := K) (pd_get (hsOk K w) hr.u9 (k_ix (K := K) (pd 1) (pd 3)) (pd 8) (pd_lst (pda_nil)))) (pdg_name 7 hN) (pdss_one (pds_if (PDW.pt (pdw_and (pdt_cmp od_gt (pd 7) (pd 2)) (pdw_and1 (pdt_cmp (ke_ne (K := K) hr.units) (k_ix (K := K) (k_ix (K := K) (k_ix (K := K) (pd 0) (pd 7)) (pd_op od_sub (pd_int) (pd 3))) (pd_int)) (pd 9))))) (pdss_one (pds_app 5 (pd 7))) (pdss_nil))))))) (pdss_frz 5 (pdss_one (pds_if (pdt_cmp (ke_ne (K := K) hr.units) (pd 5) (pd_lst (pda_nil))) (pdss_one (pds_ret (pd_tup (pda_cons (pd 2) (pda_cons (pd_callB (kd_min (K := K) rfl) rfl c.n_min (by rfl) (pda_cons (pd 5) (pda_nil))) (pda_nil)))))) (pdss_nil))))))) (pdss_one (pds_ret (pd_non)))))), fun ds kk h => law_parted_by_two _ R ds kk h⟩
theorem raw_parted_by_two {P : Program} {w : World} {K : PySem.W.Frag} {mg : Str → Option Value} {base : Heap} (c : Sys K mg) : FnR P w K mg base CX0 1 ((p_parted_by_two).at_ K) (spD (pm K w) sp_parted_by_two) := let ⟨_, F, B⟩ := ok_parted_by_two (P := P) (w := w) (base := base) c; raw0 F B
theorem ok_parting {P : Program} {w : World} {K : PySem.W.Frag} {mg : Str → Option Value} {base : Heap} (c : Sys K mg) : ∃ fd, FnOk P w K mg base CX0 11 ((p_parting).at_ K) fd ["one", "other"] (spD (pm K w) sp_parting) ∧ Binds K fd ["one", "other"] [] := by
  obtain ⟨fd, F⟩ := c.d_parting
  obtain ⟨_, F_Script_size, B_Script_size⟩ := ok_Script_size (P := P) (w := w) (base := base) c
  have S : FnScope ["one", "other", "many", "date", "first", "second", "told", "pair"] ["one", "other"] (defScope (top 67)) := ⟨rfl, rfl, rfl, by decide +kernel, rfl, by decide +kernel, by decide +kernel⟩
  have hN : (["one", "other", "many", "date", "first", "second", "told", "pair"] : List Str).Nodup := S.nd
  refine ⟨fd, fn_ok F S len_parting fun cdv A outer s H E hr R => ?_, F.bindsN fun _ _ _ _ _ _ us hl => match us, hl with | [_, _], _ => rfl⟩
  exact ⟨_, d_parting (pm K w) R, pdss_cons (pds_set 2 hN (pd_op (ke_add (K := K)) (pd_op (ke_add (K := K)) (pd_op (ke_add (K := K)) (pd_callB (kd_max (K := K) rfl) rfl c.n_max (by rfl) (pda_cons (pd_call (raw_far c) (hr.mono (by decide : 4 ≤ 10)) rfl c.g_far c.k_far (pda_cons (pd 0) (pda_nil))) (pda_cons (pd_call (raw_far c) (hr.mono (by decide : 4 ≤ 10)) rfl c.g_far c.k_far (pda_cons (pd 1) (pda_nil))) (pda_nil)))) (pd_op od_mul (pd_int) (pd_callB (kd_max (K := K) rfl) rfl c.n_max (by rfl) (pda_cons (pd_call (raw_span c) (hr.mono (by decide : 3 ≤ 10)) rfl c.g_span c.k_span (pda_cons (pd 0) (pda_nil))) (pda_cons (pd_call (raw_span c) (hr.mono (by decide : 3 ≤ 10)) rfl c.g_span c.k_span (pda_cons (pd 1) (pda_nil))) (pda_nil)))))) (pd_call (raw_common c) (hr.mono (by decide : 1 ≤ 10)) rfl c.g_common c.k_common (pda_cons (pd_prop (pd 0) c.c_Script c.pr_Script_size F_Script_size B_Script_size (hr.mono (by decide : 6 ≤ 10))) (pda_cons (pd_prop (pd 1) c.c_Script c.pr_Script_size F_Script_size B_Script_size (hr.mono (by decide : 6 ≤ 10))) (pda_nil))))) (pd_int))) (pdss_cons (pds_par3 rfl hN (sl_val (pd_make (n := 2) c.mk_Side (raw_Side_init c) (hr.mono (by decide : 10 ≤ 10)) rfl c.g_Side (pda_cons (pd 0) (pda_cons (pd 2) (pda_nil))))) (sl_val (pd_make (n := 2) c.mk_Side (raw_Side_init c) (hr.mono (by decide : 10 ≤ 10)) rfl c.g_Side (pda_cons (pd 1) (pda_cons (pd 2) (pda_nil))))) (sl_lst (pda_nil))) (pdss_cons (pds_if (pdt_cmp (ke_ne (K := K) hr.units) (k_fld (K := K) 2 (pd 4) c.c_Side rfl c.na_news) (k_fld (K := K) 2 (pd 5) c.c_Side rfl c.na_news)) (pdss_one (pds_ret (pd_tup (pda_nil)))) (pdss_nil)) (pdss_cons (pds_for rfl (pdi_rng1 rfl c.n_range (pda_cons (pd 2) (pda_nil))) (pdg_name 3 hN) (pdss_cons (pds_set 7 hN (pd_tup (pda_cons (pd_meth (pd 4) c.c_Side c.m_told (show ¬ _ ∈ (["own_script", "there", "news"] : List Str) by decide +kernel) (raw_Side_told c) (hr.mono (by decide : 9 ≤ 10)) (pda_cons (pd 3) (pda_nil))) (pda_cons (pd_meth (pd 5) c.c_Side c.m_told (show ¬ _ ∈ (["own_script", "there", "news"] : List Str) by decide +kernel) (raw_Side_told c) (hr.mono (by decide : 9 ≤ 10)) (pda_cons (pd 3) (pda_nil))) (pda_nil))))) (pdss_cons (pds_if (PDW.pt (pdw_or (pdt_cmp (ke_ne (K := K) hr.units) (k_ix (K := K) (k_ix (K := K) (pd 7) (pd_int)) (pd_int)) (k_ix (K := K) (k_ix (K := K) (pd 7) (pd_int)) (pd_int))) (pdw_or1 (pdt_cmp (ke_ne (K := K) hr.units) (pd_cmp od_is (k_ix (K := K) (k_ix (K := K) (pd 7) (pd_int)) (pd_int)) (pd_non)) (pd_cmp od_is (k_ix (K := K) (k_ix (K := K) (pd 7) (pd_int)) (pd_int)) (pd_non)))))) (pdss_one (pds_ret (pd_tup (pda_cons (pd 3) (pda_nil))))) (pdss_nil)) (pdss_one (pds_app 6 (pd 7)))))) (pdss_frz 6 (pdss_one (pds_ret (pd_call (raw_parted_by_two c) (hr.mono (by decide : 1 ≤ 10)) rfl c.g_parted_by_two c.k_parted_by_two (pda_cons (pd 6) (pda_nil))))))))), fun ds kk h => law_parting _ R ds kk h⟩
theorem raw_parting {P : Program} {w : World} {K : PySem.W.Frag} {mg : Str → Option Value} {base : Heap} (c : Sys K mg) : FnR P w K mg base CX0 11 ((p_parting).at_ K) (spD (pm K w) sp_parting) := let ⟨_, F, B⟩ := ok_parting (P := P) (w := w) (base := base) c; raw0 F B
theorem ok_alike {P : Program} {w : World} {K : PySem.W.Frag} {mg : Str → Option Value} {base : Heap} (c : Sys K mg) : ∃ fd, FnOk P w K mg base CX0 12 ((p_alike).at_ K) fd ["one", "other"] (spD (pm K w) sp_alike) ∧ Binds K fd ["one", "other"] [] := by
  obtain ⟨fd, F⟩ := c.d_alike
  have S : FnScope ["one", "other"] ["one", "other"] (defScope (top 68)) := ⟨rfl, rfl, rfl, by decide +kernel, rfl, by decide +kernel, by decide +kernel⟩
  have hN : (["one", "other"] : List Str).Nodup := S.nd
  refine ⟨fd, fn_ok F S len_alike fun cdv A outer s H E hr R => ?_, F.bindsN fun _ _ _ _ _ _ us hl => match us, hl with | [_, _], _ => rfl⟩
  exact ⟨_, d_alike (pm K w) R, pdss_one (pds_ret (pd_cmp od_is (pd_call (raw_parting c) (hr.mono (by decide : 11 ≤ 11)) rfl c.g_parting c.k_parting (pda_cons (pd 0) (pda_cons (pd 1) (pda_nil)))) (pd_non))), fun ds kk h => law_alike _ R ds kk h⟩
theorem raw_alike {P : Program} {w : World} {K : PySem.W.Frag} {mg : Str → Option Value} {base : Heap} (c : Sys K mg) : FnR P w K mg base CX0 12 ((p_alike).at_ K) (spD (pm K w) sp_alike) := let ⟨_, F, B⟩ := ok_alike (P := P) (w := w) (base := base) c; raw0 F B
theorem ok_idle_steps {P : Program} {w : World} {K : PySem.W.Frag} {mg : Str → Option Value} {base : Heap} (c : Sys K mg) : ∃ fd, FnOk P w K mg base CX0 13 ((p_idle_steps).at_ K) fd ["changes"] (spD (pm K w) sp_idle_steps) ∧ Binds K fd ["changes"] [] := by
  obtain ⟨fd, F⟩ := c.d_idle_steps
  have S : FnScope ["changes", "at"] ["changes"] (defScope (top 69)) := ⟨rfl, rfl, rfl, by decide +kernel, rfl, by decide +kernel, by decide +kernel⟩
  have hN : (["changes", "at"] : List Str).Nodup := S.nd
  refine ⟨fd, fn_ok F S len_idle_steps fun cdv A outer s H E hr R => ?_, F.bindsN fun _ _ _ _ _ _ us hl => match us, hl with | [_], _ => rfl⟩
  exact ⟨_, d_idle_steps (pm K w) R, pdss_one (pds_ret (pd_lc [("at", 1)] rfl hN (pdi_rng1 rfl c.n_range (pda_cons (pd_callB (cd_lenO c.o_len (raw_Script_len c) (hr.mono (by decide : 2 ≤ 12))) rfl c.n_len (by rfl) (pda_cons (pd 0) (pda_nil))) (pda_nil))) (blkOk_by (N := ["changes", "at"]) (sc := defScope (top 69)) (by decide +kernel)) (fun _ _ _ _ _ => pdg_name 1 hN) (fun _ _ _ _ _ => pdts_one (pdt_val (pd_call (raw_alike c) (hr.mono (by decide : 12 ≤ 12)) rfl c.g_alike c.k_alike (pda_cons (pd 0) (pda_cons (pd_meth (pd 0) c.c_Script c.m_without (show ¬ _ ∈ (["own_steps"] : List Str) by decide +kernel) (raw_Script_without c) (hr.mono (by decide : 8 ≤ 12)) (pda_cons (pd 1) (pda_nil))) (pda_nil)))))) (fun _ _ _ _ _ => pd 1))), fun ds kk h => law_idle_steps _ R ds kk h⟩
theorem raw_idle_steps {P : Program} {w : World} {K : PySem.W.Frag} {mg : Str → Option Value} {base : Heap} (c : Sys K mg) : FnR P w K mg base CX0 13 ((p_idle_steps).at_ K) (spD (pm K w) sp_idle_steps) := let ⟨_, F, B⟩ := ok_idle_steps (P := P) (w := w) (base := base) c; raw0 F B
theorem ok_tuples_below {P : Program} {w : World} {K : PySem.W.Frag} {mg : Str → Option Value} {base : Heap} (c : Sys K mg) : ∃ fd, FnOk P w K mg base CX0 1 ((p_tuples_below).at_ K) fd ["many"] (spD (pm K w) sp_tuples_below) ∧ Binds K fd ["many"] [] := by
  obtain ⟨fd, F⟩ := c.d_tuples_below
  have S : FnScope ["many", "found", "number", "size", "lot"] ["many"] (defScope (top 70)) := ⟨rfl, rfl, rfl, by decide +kernel, rfl, by decide +kernel, by decide +kernel⟩
  have hN : (["many", "found", "number", "size", "lot"] : List Str).Nodup := S.nd
  refine ⟨fd, fn_ok F S len_tuples_below fun cdv A outer s H E hr R => ?_, F.bindsN fun _ _ _ _ _ _ us hl => match us, hl with | [_], _ => rfl⟩
  exact ⟨_, d_tuples_below (pm K w) R, pdss_cons (pds_set 1 hN (pd_lst (pda_cons (pd_tup (pda_nil)) (pda_nil)))) (pdss_cons (pds_for rfl (pdi_rng1 rfl c.n_range (pda_cons (pd 0) (pda_nil))) (pdg_name 2 hN) (pdss_one (pds_set 1 hN (pd_lst (ka_star (K := K) (pd 1) (ka_star (K := K) (pd_lc [("lot", 4)] rfl hN (ki_seq (K := K) (pd 1)) (blkOk_by (N := ["many", "found", "number", "size", "lot"]) (sc := defScope (top 70)) (by decide +kernel)) (fun _ _ _ _ _ => pdg_name 4 hN) (fun _ _ _ _ _ => pdts_nil) (fun _ _ _ _ _ => pd_tup (ka_star (K := K) (pd 4) (pda_cons (pd 2) (pda_nil))))) (pda_nil))))))) (pdss_one (pds_ret (pd_lc [("size", 3), ("lot", 4)] rfl hN (ki_seq (K := K) (pd_callB (cd_sorted hr.units) rfl c.n_sorted (by rfl) (pda_cons (pd_lc [("lot", 4)] rfl hN (ki_seq (K := K) (pd 1)) (blkOk_by (N := ["many", "found", "number", "size", "lot"]) (sc := defScope (top 70)) (by decide +kernel)) (fun _ _ _ _ _ => pdg_name 4 hN) (fun _ _ _ _ _ => pdts_nil) (fun _ _ _ _ _ => pd_tup (pda_cons (pd_callB (kd_len (K := K)) rfl c.n_len (by rfl) (pda_cons (pd 4) (pda_nil))) (pda_cons (pd 4) (pda_nil))))) (pda_nil)))) (blkOk_by (N := ["many", "found", "number", "size", "lot"]) (sc := defScope (top 70)) (by decide +kernel)) (fun _ _ _ _ _ => kg_tup (K := K) rfl (pgn_cons 3 hN (pgn_cons 4 hN (pgn_nil)))) (fun _ _ _ _ _ => pdts_nil) (fun _ _ _ _ _ => pd 4))))), fun ds kk h => law_tuples_below _ R ds kk h⟩
theorem raw_tuples_below {P : Program} {w : World} {K : PySem.W.Frag} {mg : Str → Option Value} {base : Heap} (c : Sys K mg) : FnR P w K mg base CX0 1 ((p_tuples_below).at_ K) (spD (pm K w) sp_tuples_below) := let ⟨_, F, B⟩ := ok_tuples_below (P := P) (w := w) (base := base) c; raw0 F B
theorem ok_cut_down {P : Program} {w : World} {K : PySem.W.Frag} {mg : Str → Option Value} {base : Heap} (c : Sys K mg) : ∃ fd, FnOk P w K mg base CX0 13 ((p_cut_down).at_ K) fd ["changes"] (spD (pm K w) sp_cut_down) ∧ Binds K fd ["changes"] [] := by
  obtain ⟨fd, F⟩ := c.d_cut_down
  obtain ⟨_, e_MOST_CUT⟩ := c.i_MOST_CUT
  have S : FnScope ["changes", "lot", "at"] ["changes"] (defScope (top 71)) := ⟨rfl, rfl, rfl, by decide +kernel, rfl, by decide +kernel, by decide +kernel⟩
  have hN : (["changes", "lot", "at"] : List Str).Nodup := S.nd
  refine ⟨fd, fn_ok F S len_cut_down fun cdv A outer s H E hr R => ?_, F.bindsN fun _ _ _ _ _ _ us hl => match us, hl with | [_], _ => rfl⟩
  exact ⟨_, d_cut_down (pm K w) R, pdss_cons (pds_if (pdt_cmp od_gt (pd_callB (cd_lenO c.o_len (raw_Script_len c) (hr.mono (by decide : 2 ≤ 12))) rfl c.n_len (by rfl) (pda_cons (pd 0) (pda_nil))) (pd_globI rfl e_MOST_CUT)) (pdss_one (pds_never)) (pdss_nil)) (pdss_cons (pds_for rfl (ki_seq (K := K) (pd_call (raw_tuples_below c) (hr.mono (by decide : 1 ≤ 12)) rfl c.g_tuples_below c.k_tuples_below (pda_cons (pd_callB (cd_lenO c.o_len (raw_Script_len c) (hr.mono (by decide : 2 ≤ 12))) rfl c.n_len (by rfl) (pda_cons (pd 0) (pda_nil))) (pda_nil)))) (pdg_name 1 hN) (pdss_one (pds_if (pdt_val (pd_call (raw_alike c) (hr.mono (by decide : 12 ≤ 12)) rfl c.g_alike c.k_alike (pda_cons (pd 0) (pda_cons (pd_make (n := 1) c.mk_Script (raw_Script_init c) (hr.mono (by decide : 7 ≤ 12)) rfl c.g_Script (pda_cons (pd_lc [("at", 2)] rfl hN (ki_seq (K := K) (pd 1)) (blkOk_by (N := ["changes", "lot", "at"]) (sc := defScope (top 71)) (by decide +kernel)) (fun _ _ _ _ _ => pdg_name 2 hN) (fun _ _ _ _ _ => pdts_nil) (fun _ _ _ _ _ => pd_ixO c.o_getitem (raw_Script_getitem c) (hr.mono (by decide : 4 ≤ 12)) (pd 0) (pd 2))) (pda_nil))) (pda_nil))))) (pdss_one (pds_ret (pd 1))) (pdss_nil)))) (pdss_one (pds_never))), fun ds kk h => law_cut_down _ R ds kk h⟩
theorem raw_cut_down {P : Program} {w : World} {K : PySem.W.Frag} {mg : Str → Option Value} {base : Heap} (c : Sys K mg) : FnR P w K mg base CX0 13 ((p_cut_down).at_ K) (spD (pm K w) sp_cut_down) := let ⟨_, F, B⟩ := ok_cut_down (P := P) (w := w) (base := base) c; raw0 F B
end Dl
set_option Elab.async false
set_option linter.all false
set_option maxRecDepth 100000
set_option maxHeartbeats 2000000
/-! The law's draws: a dict that its helpers share and change. -/
namespace Dl
open PySem PySem.Spec PyProof.Rows L2

abbrev drKvs (w c : Addr) (l t : Int) : List (Key × V) := [(.inr "wide", .ref w), (.inr "left", .int l), (.inr "cells", .ref c), (.inr "turn", .int t)]
structure DrawAt (p w c : Addr) (ce wi : List Int) (l t : Int) (H : Hp) : Prop where
  hd : H p = some (.dK (drKvs w c l t))
  hw : H w = some (.lst (wi.map V.int))
  hc : H c = some (.lst (ce.map V.int))
  ne : w ≠ c
  l0 : 0 ≤ l
  t0 : 0 ≤ t
  w0 : ∀ x ∈ wi, 0 ≤ x
def DrOk (p w c : Addr) (ce : List Int) (H : Hp) : Prop := ∃ wi l t, DrawAt p w c ce wi l t H
def drawR (p w c : Addr) (ce : List Int) : Res := ⟨fun b => b = p ∨ b = w ∨ b = c, DrOk p w c ce, fun H H' k ⟨wi, l, t, d⟩ =>
  ⟨wi, l, t, k _ _ (.inl rfl) d.hd, k _ _ (.inr (.inl rfl)) d.hw, k _ _ (.inr (.inr rfl)) d.hc, d.ne, d.l0, d.t0, d.w0⟩⟩
def IsDr (R : Res) (p : Addr) : Prop := ∃ w c ce, R = drawR p w c ce
section
variable {m : Pm} {R : Res} {X : Cx} {p w c : Addr} {ce wi : List Int} {l t : Int} {G H : Hp}
theorem DrawAt.npw (d : DrawAt p w c ce wi l t H) : p ≠ w := fun z => by
  have h1 := d.hd
  rw [z, d.hw] at h1
  cases h1
theorem DrawAt.npc (d : DrawAt p w c ce wi l t H) : p ≠ c := fun z => by
  have h1 := d.hd
  rw [z, d.hc] at h1
  cases h1
theorem DrawAt.put (d : DrawAt p w c ce wi l t H) {l' t' : Int} (hl : 0 ≤ l') (ht : 0 ≤ t') : DrawAt p w c ce wi l' t' (upd H p (.dK (drKvs w c l' t'))) :=
  ⟨upd_same .., by rw [upd_ne (Ne.symm d.npw)]; exact d.hw, by rw [upd_ne (Ne.symm d.npc)]; exact d.hc, d.ne, hl, ht, d.w0⟩
theorem DrawAt.pop (d : DrawAt p w c ce wi l t H) {wi' : List Int} (hw : ∀ x ∈ wi', 0 ≤ x) : DrawAt p w c ce wi' l t (upd H w (.lst (wi'.map V.int))) :=
  ⟨by rw [upd_ne d.npw]; exact d.hd, upd_same .., by rw [upd_ne (Ne.symm d.ne)]; exact d.hc, d.ne, d.l0, d.t0, hw⟩
theorem ext_upd {a : Addr} {o : HO} (gh : GH (drawR p w c ce) G H) (ha : a = p ∨ a = w ∨ a = c) (hd : DrOk p w c ce (upd H a o)) : Ext (drawR p w c ce) G H G (upd H a o) := by
  have ga : G a = none := (gh.m a ha).1
  refine ⟨Same.refl _, ⟨fun b u e => by rw [upd_ne (ne_of_none e ga)]; exact gh.s _ _ e, hd, fun b hb => ⟨(gh.m b hb).1, ?_⟩⟩, fun b u e n => ?_, fun b u e => .inl e⟩
  · by_cases z : b = a
    · subst z
      exact ⟨_, upd_same ..⟩
    · rw [upd_ne z]
      exact (gh.m b hb).2
  · rw [upd_ne fun z => n (by rw [z]; exact ha)]
    exact e
theorem get_left (d : DrawAt p w c ce wi l t H) : DGet H p (.str "left") (some (.int l)) := DGet.k (k := .inr "left") d.hd
theorem get_turn (d : DrawAt p w c ce wi l t H) : DGet H p (.str "turn") (some (.int t)) := DGet.k (k := .inr "turn") d.hd
theorem get_wide (d : DrawAt p w c ce wi l t H) : DGet H p (.str "wide") (some (.ref w)) := DGet.k (k := .inr "wide") d.hd
theorem get_cells (d : DrawAt p w c ce wi l t H) : DGet H p (.str "cells") (some (.ref c)) := DGet.k (k := .inr "cells") d.hd
theorem put_left (d : DrawAt p w c ce wi l t H) (z : Int) : DPut H p (.str "left") (.int z) (upd H p (.dK (drKvs w c z t))) := DPut.k (k := .inr "left") d.hd (by show (4 : Nat) < sizeLine; rw [sizeLine_eq]; omega)
theorem put_turn (d : DrawAt p w c ce wi l t H) (z : Int) : DPut H p (.str "turn") (.int z) (upd H p (.dK (drKvs w c l z))) := DPut.k (k := .inr "turn") d.hd (by show (4 : Nat) < sizeLine; rw [sizeLine_eq]; omega)

/-- draw['left'], draw['turn'] -/
def dDrI (R : Res) (i : Nat) : TdE := fun ρ k => ∃ p, IsDr R p ∧ ρ[i]? = some (.val (.raw (.ref p))) ∧ ∀ z, 0 ≤ z → k (.int z)
theorem sem_left (i : Nat) : SemE m R (tDGet (tVar i) (tC (.str "left"))) (dDrI R i) := fun ρ σ G H k Q en gh h q => by
  obtain ⟨p, ⟨w, c, ce, rfl⟩, hi, hk⟩ := h
  obtain ⟨v, hv, r⟩ := en.at_ i _ hi
  cases r
  obtain ⟨wi, l, t, d⟩ := gh.ok
  exact ⟨_, hv, p, .int l, rfl, get_left d, q _ _ G H (Ext.refl gh) (.int l) (hk l d.l0)⟩
theorem sem_turn (i : Nat) : SemE m R (tDGet (tVar i) (tC (.str "turn"))) (dDrI R i) := fun ρ σ G H k Q en gh h q => by
  obtain ⟨p, ⟨w, c, ce, rfl⟩, hi, hk⟩ := h
  obtain ⟨v, hv, r⟩ := en.at_ i _ hi
  cases r
  obtain ⟨wi, l, t, d⟩ := gh.ok
  exact ⟨_, hv, p, .int t, rfl, get_turn d, q _ _ G H (Ext.refl gh) (.int t) (hk t d.t0)⟩
theorem pd_left {pos : Pos} {e1 e2 : Expr} (i : Nat) (h1 : PE X e1 (tVar i)) (h2 : PE X e2 (tC (.str "left"))) (hu : X.A.units + 1 < cLine) (hs : NoSl e2 := by intro _ _; rfl) : PD m R X (.Subscript e1 e2 pos) (tDGet (tVar i) (tC (.str "left"))) (dDrI R i) := ⟨pe_dget hu h1 h2 hs, sem_left i⟩
theorem pd_turn {pos : Pos} {e1 e2 : Expr} (i : Nat) (h1 : PE X e1 (tVar i)) (h2 : PE X e2 (tC (.str "turn"))) (hu : X.A.units + 1 < cLine) (hs : NoSl e2 := by intro _ _; rfl) : PD m R X (.Subscript e1 e2 pos) (tDGet (tVar i) (tC (.str "turn"))) (dDrI R i) := ⟨pe_dget hu h1 h2 hs, sem_turn i⟩
/-- draw['left'] = e, draw['turn'] = e -/
def dDrPut (R : Res) (i : Nat) (de : TdE) : TdS := fun De ρ => de ρ fun x => ∃ p z, IsDr R p ∧ ρ[i]? = some (.val (.raw (.ref p))) ∧ x = .int z ∧ 0 ≤ z ∧ De.nx ρ
theorem sem_putL {te : TE} {de : TdE} (i : Nat) (he : SemE m R te de) : SemS m R (sDPut (tVar i) (tC (.str "left")) te) (dDrPut R i de) := fun S ρ σ G H De Dd st cm h => by
  refine he ρ σ G H _ _ st.envE st.gh h fun v x G1 H1 e1 r1 h1 => ?_
  obtain ⟨p, z, ⟨w, c, ce, hR⟩, hi, rfl, z0, hn⟩ := h1
  cases r1
  have st1 := st.step e1
  obtain ⟨v, hv, r⟩ := st1.envE.at_ i _ hi
  cases r
  have gh := st1.gh
  subst hR
  obtain ⟨wi, l, t, d⟩ := gh.ok
  have d2 := d.put (l' := z) (t' := t) z0 d.t0
  exact ⟨_, hv, p, _, rfl, put_left d z, cm.nx _ _ G1 _ (st1.step (ext_upd gh (.inl rfl) ⟨_, _, _, d2⟩)) hn⟩
theorem sem_putT {te : TE} {de : TdE} (i : Nat) (he : SemE m R te de) : SemS m R (sDPut (tVar i) (tC (.str "turn")) te) (dDrPut R i de) := fun S ρ σ G H De Dd st cm h => by
  refine he ρ σ G H _ _ st.envE st.gh h fun v x G1 H1 e1 r1 h1 => ?_
  obtain ⟨p, z, ⟨w, c, ce, hR⟩, hi, rfl, z0, hn⟩ := h1
  cases r1
  have st1 := st.step e1
  obtain ⟨v, hv, r⟩ := st1.envE.at_ i _ hi
  cases r
  have gh := st1.gh
  subst hR
  obtain ⟨wi, l, t, d⟩ := gh.ok
  have d2 := d.put (l' := l) (t' := z) d.l0 z0
  exact ⟨_, hv, p, _, rfl, put_turn d z, cm.nx _ _ G1 _ (st1.step (ext_upd gh (.inl rfl) ⟨_, _, _, d2⟩)) hn⟩
theorem pds_putL {pos pos' : Pos} {e1 e2 value : Expr} {te : TE} {de : TdE} (i : Nat) (h1 : PE X e1 (tVar i)) (h2 : PE X e2 (tC (.str "left"))) (hv : PD m R X value te de) (hu : X.A.units + 1 < cLine)
    (hs : swapsWith value (some (.Subscript e1 e2 pos')) pos.line X.env = pure false := by rfl) : PDS m R X (.Assign [.Subscript e1 e2 pos'] value pos) (sDPut (tVar i) (tC (.str "left")) te) (dDrPut R i de) := ⟨ps_dput hu h1 h2 hv.pe hs, sem_putL i hv.sem⟩
theorem pds_putT {pos pos' : Pos} {e1 e2 value : Expr} {te : TE} {de : TdE} (i : Nat) (h1 : PE X e1 (tVar i)) (h2 : PE X e2 (tC (.str "turn"))) (hv : PD m R X value te de) (hu : X.A.units + 1 < cLine)
    (hs : swapsWith value (some (.Subscript e1 e2 pos')) pos.line X.env = pure false := by rfl) : PDS m R X (.Assign [.Subscript e1 e2 pos'] value pos) (sDPut (tVar i) (tC (.str "turn")) te) (dDrPut R i de) := ⟨ps_dput hu h1 h2 hv.pe hs, sem_putT i hv.sem⟩
/-- .. in draw['cells'] -/
def dCells (R : Res) (i : Nat) : TdI := fun ρ k => ∃ p, IsDr R p ∧ ρ[i]? = some (.val (.raw (.ref p))) ∧ ∀ ce : List Int, k (ce.map D.int)
theorem pdi_cells {pos : Pos} {tg e1 e2 : Expr} {K : PySem.W.Frag} (i : Nat) (h1 : PE X e1 (tVar i)) (h2 : PE X e2 (tC (.str "cells"))) (hu : X.A.units + 1 < cLine) (hs : NoSl e2 := by intro _ _; rfl) (hK : X.K = K := by rfl) :
    PDI m R X tg (.Subscript e1 e2 pos) (iSeq K (tDGet (tVar i) (tC (.str "cells")))) (dCells R i) := by
  subst hK
  refine ⟨pi_seq (pe_dget hu h1 h2 hs), fun ρ σ G H k RR en gh h q => ?_⟩
  obtain ⟨p, ⟨w, c, ce, rfl⟩, hi, hk⟩ := h
  obtain ⟨v, hv, r⟩ := en.at_ i _ hi
  cases r
  obtain ⟨wi, l, t, d⟩ := gh.ok
  refine ⟨_, hv, p, .ref c, rfl, get_cells d, .inr ⟨c, rfl, ⟨_, SqL.of d.hc⟩, q _ _ G H (Ext.refl gh) ?_ (hk ce)⟩⟩
  have W := @walk_list X.K c (ce.map V.int)
  have hc : ∀ {G2 H2 : Hp}, GH (drawR p w c ce) G2 H2 → SqL X.K H2 c (ce.map V.int) := fun g => by
    obtain ⟨_, _, _, d⟩ := g.ok
    exact SqL.of d.hc
  refine ⟨fun i G2 H2 hi sm gh => W.goes i H2 (by simpa using hi) (hc gh), fun G2 H2 sm gh => by have := W.stops H2 (hc gh); simpa using this, fun i G2 H2 x H3 hi sm gh y => ?_⟩
  obtain ⟨e1, e2⟩ := W.yields i H2 x H3 (by simpa using hi) (hc gh) y
  subst e1
  have r : Reps m G2 (ce.map V.int) (ce.map D.int) := Reps.ints ce
  obtain ⟨d, h1, h2⟩ := r.getV e2
  exact ⟨d, G2, h1, Ext.refl gh, h2⟩
end
end Dl
set_option Elab.async false
set_option linter.all false
set_option maxRecDepth 100000
set_option maxHeartbeats 2000000
/-! The first statement of a draw: a wide cell is taken. -/
namespace Dl
open PySem PySem.Spec PyProof.Rows L2
section
variable {m : Pm} {R : Res} {X : Cx} {p w c : Addr} {ce wi : List Int} {l t : Int} {G H : Hp}
theorem DrawAt.side (d : DrawAt p w c ce wi l t H) {q : Addr} {o : HO} (hq : H q = none) : DrawAt p w c ce wi l t (upd H q o) :=
  ⟨by rw [upd_ne (ne_of_none d.hd hq)]; exact d.hd, by rw [upd_ne (ne_of_none d.hw hq)]; exact d.hw, by rw [upd_ne (ne_of_none d.hc hq)]; exact d.hc, d.ne, d.l0, d.t0, d.w0⟩
def dDrTop (R : Res) (i : Nat) (da : TdT) : TdS := fun De ρ => da ρ fun _ => ∃ p, IsDr R p ∧ ρ[i]? = some (.val (.raw (.ref p))) ∧ De.nx ρ
abbrev rNeA (K : PySem.W.Frag) : R2 := fun x y H Q => rNe x y H Q ∨ rNeD K x y H Q
abbrev tWide (i : Nat) : TE := tDGet (tVar i) (tC (.str "wide"))
abbrev tTop (K : PySem.W.Frag) (i : Nat) (ta : TT) : TS := tIfS (tAnd ta (tTest (tOp (rNeA K) (tWide i) (tLst tNil)))) (sDPut (tVar i) (tC (.str "left")) (tBM K "list" rPopAt (tWide i) (tCons (tC (.int 0)) tNil))) tNext
theorem ints_nob (l : List Int) : (D.lst (l.map D.int)).nob 2 = true := by
  have : ∀ (l : List Int) (n : Nat), D.nobs (l.map D.int) n = true := fun l n => by
    induction l with
    | nil => rfl
    | cons i l ih =>
      show (D.nob (.int i) n && D.nobs (l.map D.int) n) = true
      rw [ih]
      rfl
  exact this l 1
theorem sem_top {K : PySem.W.Frag} {ta : TT} {da : TdT} (i : Nat) (hA : SemT m R ta da) : SemS m R (tTop K i ta) (dDrTop R i da) := fun S ρ σ G H De Dd st cm h => by
  refine hA ρ σ G H _ _ st.envE st.gh h fun b G1 H1 e1 h1 => ?_
  obtain ⟨p, ⟨w, c, ce, hR⟩, hi, hn⟩ := h1
  subst hR
  have st1 := st.step e1
  obtain ⟨v, hv, r⟩ := st1.envE.at_ i _ hi
  cases r
  obtain ⟨wi, l, t, d⟩ := st1.gh.ok
  cases b with
  | false => exact cm.nx _ _ G1 H1 st1 hn
  | true =>
    show tTest (tOp (rNeA K) (tWide i) (tLst tNil)) σ H1 _
    refine ⟨_, hv, p, .ref w, rfl, get_wide d, Nat.zero_le _, fun q hq => ?_⟩
    have st2 := st1.step (Ext.side st1.gh (o := .lst []) hq)
    have d2 := d.side (o := .lst []) hq
    have nw : w ≠ q := ne_of_none d.hw hq
    let Gw : Hp := upd (upd (fun _ => none) w (.lst (wi.map V.int))) q (.lst [])
    have sw : Same Gw (upd H1 q (.lst [])) := fun b o e => by
      simp only [Gw] at e
      by_cases z : b = q
      · subst z
        rw [upd_same] at e ⊢
        exact e
      · simp only [upd_ne z] at e
        by_cases z2 : b = w
        · subst z2
          rw [upd_same] at e
          rw [← e]
          exact d2.hw
        · rw [upd_ne z2] at e
          cases e
    have r1 : Rep m Gw (.ref w) (.lst (wi.map D.int)) := .lst (by simp only [Gw]; rw [upd_ne nw, upd_same]) (Reps.ints wi)
    have r2 : Rep m Gw (.ref q) (.lst []) := .lst (by simp only [Gw]; rw [upd_same]) .nil
    have n1 := ints_nob wi
    have n2 : (D.lst []).nob 2 = true := rfl
    refine .inr ⟨_, _, r1.dp sw 2 n1, r2.dp sw 2 n2, nob_shaped (by omega) n1, nob_shaped (by omega) n2, ?_⟩
    rw [nob_eqv 2 2 _ _ n1 n2]
    cases wi with
    | nil => exact ⟨_, rfl, cm.nx _ _ G1 _ st2 hn⟩
    | cons x wi =>
      refine ⟨_, rfl, ?_⟩
      have d3 := d2.pop (wi' := wi) fun y hy => d.w0 y (List.mem_cons_of_mem _ hy)
      have d4 := d3.put (l' := x) (t' := t) (d.w0 x List.mem_cons_self) d.t0
      have st3 := st2.step (ext_upd st2.gh (.inr (.inl rfl)) ⟨_, _, _, d3⟩)
      have st4 := st3.step (ext_upd st3.gh (.inl rfl) ⟨_, _, _, d4⟩)
      show sDPut (tVar i) (tC (.str "left")) (tBM K "list" rPopAt (tWide i) (tCons (tC (.int 0)) tNil)) Dd σ (upd H1 q (.lst []))
      refine ⟨_, hv, p, .ref w, rfl, get_wide d2, .inl ⟨rfl, _, SqL.of d2.hw⟩, ?_⟩
      refine ⟨w, _, 0, 0, .int x, rfl, rfl, d2.hw, by decide, by decide, by simp [seqIndex?], rfl, ?_⟩
      refine ⟨_, hv, p, _, rfl, put_left d3 x, cm.nx _ _ G1 _ st4 hn⟩
theorem pds_top {a b : Expr} {body : List Stmt} {p1 p2 : Pos} {ta : TT} {da : TdT} {K : PySem.W.Frag} (i : Nat) (hA : PDT m R X a ta da) (hB : PT X b (tTest (tOp (rNeA X.K) (tWide i) (tLst tNil))))
    (hP : PSs X body (sDPut (tVar i) (tC (.str "left")) (tBM X.K "list" rPopAt (tWide i) (tCons (tC (.int 0)) tNil)))) (hK : X.K = K := by rfl) : PDS m R X (.If (.BoolOp .And [a, b] p1) body [] p2) (tTop K i ta) (dDrTop R i da) := by
  subst hK
  exact ⟨ps_if (pw_and hA.pe (pw_and1 hB)).pt hP pss_nil, sem_top i hA.sem⟩
end
end Dl
set_option Elab.async false
set_option linter.all false
set_option maxRecDepth 100000
set_option maxHeartbeats 2000000
/-! A list is emptied by draws into another one. -/
namespace Dl
open PySem PySem.Spec PyProof.Rows L2
def sp_l_mixed : DSp := fun R ds kk => ∃ p, IsDr R p ∧ ds = [.raw (.ref p)] ∧ ∀ i : Int, 0 ≤ i → kk (.int i)
def sp_l_take : DSp := fun R ds kk => ∃ p, ∃ n : Int, IsDr R p ∧ ds = [.raw (.ref p), .int n] ∧ (1 ≤ n ∧ n < 1073741824) ∧ ∀ i : Int, 0 ≤ i → i < n → kk (.int i)
section
variable {m : Pm} {R : Res} {X : Cx}
/-- list(e): a new list of one's own -/
def dListO (e : TdE) : TdSl := fun ρ k => e ρ fun d => match d with
  | .lst l => k (.own l)
  | .tup l => k (.own l)
  | _ => False
abbrev rListK (K : PySem.W.Frag) : List V → Hp → VK → Prop := fun xs H Q => ∃ p ys, xs = [.ref p] ∧ (SqL K H p ys ∨ SqT K H p ys) ∧ ∀ l, H l = none → Q (.ref l) (upd H l (.lst ys))
theorem sl_list {K : PySem.W.Frag} {e : Expr} {x : Str} {te : TE} {de : TdE} {p pos : Pos} (hg : Gl X x) (hm : X.mg x = none) (hv : bootBuiltins x = some (.type "list")) (h : PD m R X e te de) (hn : x ≠ "__name__" := by decide) (hdb : (x == ("__debug__" : Str)) = false := by decide)
    (he : starEach [e] X.env = (false, eval e X.env) :: starEach [] X.env := by rfl) (hpl : (backTo pos (starEach [] X.env)).any (·.1) = false := by rfl) (hK : X.K = K := by rfl) :
    PDSl m R X (.Call (.Name x p) [e] [] pos) (tCB (rListK K) (tCons te tNil)) (dListO de) := by
  subst hK
  refine ⟨pe_callTy call_list_of hg hm hv (pa_cons h.pe pa_nil he) hn hdb he hpl, fun ρ σ G H k Q en gh hw q => ?_⟩
  refine h.sem ρ σ G H _ _ en gh hw fun v d G1 H1 e1 r1 h1 => ?_
  have fin : ∀ (a : Addr) (vs : List V) (ds : List D), v = .ref a → (SqL X.K H1 a vs ∨ SqT X.K H1 a vs) → Reps m G1 vs ds → k (.own ds) → rListK X.K [v] H1 Q := fun a vs ds ev hs r hk => by
    subst ev
    refine ⟨a, vs, rfl, hs, fun l na => ?_⟩
    have hn : H l = none := by
      cases z : H l with
      | none => rfl
      | some o =>
        by_cases hm : R.M l
        · obtain ⟨_, u, hu⟩ := e1.gh.m l hm
          rw [na] at hu
          cases hu
        · rw [e1.hh l o z hm] at na
          cases na
    exact q (.ref l) (.own ds) G1 (upd H1 l (.lst vs)) (e1.trans (Ext.side e1.gh na)) ⟨l, vs, rfl, upd_same, hn, e1.gh.s.free na, r⟩ hk
  cases r1 with
  | tup ha r => exact fin _ _ _ rfl (.inr (SqT.of (e1.gh.s _ _ ha))) r h1
  | lst ha r => exact fin _ _ _ rfl (.inl (SqL.of (e1.gh.s _ _ ha))) r h1
  | _ => exact h1.elim
abbrev tPopA (m : Pm) (K : PySem.W.Frag) : TE := tBM K "list" rPopAt (tVar 2) (tCons (tCB (fun vs H Q => spD m sp_l_take vs H Q E0) (tCons (tVar 0) (tCons (tCB (rLen K) (tCons (tVar 2) tNil)) tNil))) tNil)
abbrev tShB (m : Pm) (K : PySem.W.Frag) : TS := tDrop (tBM K "list" rAppend (tVar 3) (tCons (tPopA m K) tNil))
abbrev tShuf (m : Pm) (K : PySem.W.Frag) : TS := tWhile (tTest (tOp (rNeA K) (tVar 2) (tLst tNil))) (tShB m K)
def dShuf (R : Res) : TdS := fun De ρ => ∃ p, ∃ l l2 : List Int, IsDr R p ∧ ρ[0]? = some (.val (.raw (.ref p))) ∧ ρ[2]? = some (.own (l.map D.int)) ∧ ρ[3]? = some (.own (l2.map D.int)) ∧ l.length + l2.length ≤ 1000 ∧
  ∀ L : List Int, L.Perm (l2 ++ l) → De.nx ((ρ.set 2 (.own [])).set 3 (.own (L.map D.int)))
theorem set_same {α : Type} : ∀ {l : List α} {i : Nat} {x : α}, l[i]? = some x → l.set i x = l
  | [], i, x, h => by simp at h
  | a :: l, 0, x, h => by
    simp at h
    simp [h]
  | a :: l, i + 1, x, h => by
    simp at h
    simp [set_same h]
theorem own_at {S : Start} {ρ : Rho} {σ : L2.St} {G H : Hp} {i : Nat} {l : List Int} (st : StOk m R S ρ σ G H) (h : ρ[i]? = some (.own (l.map D.int))) : ∃ a, σ[i]? = some (some (.ref a)) ∧ H a = some (.lst (l.map V.int)) := by
  obtain ⟨a, vs, h1, h2, _, _, r⟩ := st.at_ i _ h
  rw [Reps.of_ints r] at h2
  exact ⟨a, h1, h2⟩
theorem eraseIdx_map_int : ∀ (l : List Int) (k : Nat), (l.map V.int).eraseIdx k = (l.eraseIdx k).map V.int
  | [], _ => rfl
  | a :: l, 0 => rfl
  | a :: l, k + 1 => by simp [eraseIdx_map_int l k]
theorem perm_pop {l : List Int} {k : Nat} {x : Int} (h : l[k]? = some x) : (x :: l.eraseIdx k).Perm l := by
  induction l generalizing k with
  | nil => simp at h
  | cons a l ih =>
    cases k with
    | zero =>
      simp at h
      subst h
      exact List.Perm.refl _
    | succ k =>
      simp at h
      simp only [List.eraseIdx_cons_succ]
      exact (List.Perm.swap a x _).trans (List.Perm.cons a (ih h))
theorem sem_shuf {K : PySem.W.Frag} : SemS m R (tShuf m K) (dShuf R) := fun S ρ0 σ0 G0 H0 De Dd st0 cm h => by
  obtain ⟨p, l0, l20, ⟨w, c, ce, hR⟩, h0, h2, h3, hlen, hn⟩ := h
  subst hR
  refine ⟨fun n σ H => ∃ (G : Hp) (ρ : Rho) (l l2 : List Int), n = l.length ∧ (l2 ++ l).Perm (l20 ++ l0) ∧ StOk m (drawR p w c ce) S ρ σ G H ∧ ρ[0]? = some (.val (.raw (.ref p))) ∧ ρ[2]? = some (.own (l.map D.int)) ∧ ρ[3]? = some (.own (l2.map D.int)) ∧
    (∀ x y, (ρ.set 2 x).set 3 y = (ρ0.set 2 x).set 3 y), ⟨_, G0, ρ0, l0, l20, rfl, List.Perm.refl _, st0, h0, h2, h3, fun _ _ => rfl⟩, ?_⟩
  rintro n σ H ⟨G, ρ, l, l2, rfl, hp, st, i0, i2, i3, hset⟩
  have hle : l.length + l2.length ≤ 1000 := by
    have := hp.length_eq
    simp at this
    omega
  obtain ⟨a2, s2, H2⟩ := own_at st i2
  show tTest (tOp (rNeA K) (tVar 2) (tLst tNil)) σ H _
  refine ⟨_, s2, Nat.zero_le _, fun q hq => ?_⟩
  have st1 := st.step (Ext.side st.gh (o := .lst []) hq)
  have nw : a2 ≠ q := ne_of_none H2 hq
  let Gw : Hp := upd (upd (fun _ => none) a2 (.lst (l.map V.int))) q (.lst [])
  have sw : Same Gw (upd H q (.lst [])) := fun b o e => by
    simp only [Gw] at e
    by_cases z : b = q
    · subst z
      rw [upd_same] at e ⊢
      exact e
    · simp only [upd_ne z] at e
      by_cases z2 : b = a2
      · subst z2
        rw [upd_same] at e
        rw [← e, upd_ne z]
        exact H2
      · rw [upd_ne z2] at e
        cases e
  have r1 : Rep m Gw (.ref a2) (.lst (l.map D.int)) := .lst (by simp only [Gw]; rw [upd_ne nw, upd_same]) (Reps.ints l)
  have r2 : Rep m Gw (.ref q) (.lst []) := .lst (by simp only [Gw]; rw [upd_same]) .nil
  have n1 := ints_nob l
  have n2 : (D.lst []).nob 2 = true := rfl
  refine .inr ⟨_, _, r1.dp sw 2 n1, r2.dp sw 2 n2, nob_shaped (by omega) n1, nob_shaped (by omega) n2, ?_⟩
  rw [nob_eqv 2 2 _ _ n1 n2]
  cases l with
  | nil =>
    refine ⟨_, rfl, ?_⟩
    refine cm.nx _ _ G _ st1 ?_
    have e1 : ρ = (ρ0.set 2 (.own [])).set 3 (.own (l2.map D.int)) := by
      have i2' : ρ[2]? = some (.own []) := i2
      rw [← hset, set_same i2', set_same i3]
    rw [e1]
    exact hn l2 (by simpa using hp)
  | cons x l =>
    refine ⟨_, rfl, ?_⟩
    show ∃ N : L2.St → Hp → Prop, _ ∧ tShB m K _ σ (upd H q (.lst []))
    refine ⟨fun σ' H' => ∃ (G : Hp) (ρ : Rho) (l' l2' : List Int), l'.length < (x :: l).length ∧ (l2' ++ l').Perm (l20 ++ l0) ∧ StOk m (drawR p w c ce) S ρ σ' G H' ∧ ρ[0]? = some (.val (.raw (.ref p))) ∧ ρ[2]? = some (.own (l'.map D.int)) ∧ ρ[3]? = some (.own (l2'.map D.int)) ∧
      (∀ x y, (ρ.set 2 x).set 3 y = (ρ0.set 2 x).set 3 y), fun σ' H' ⟨G, ρ, l', l2', g1, g2⟩ => ⟨_, g1, G, ρ, l', l2', rfl, g2⟩, ?_⟩
    obtain ⟨v0, s0, r0⟩ := st1.envE.at_ 0 _ i0
    cases r0
    obtain ⟨b3, t3, K3⟩ := own_at st1 i3
    obtain ⟨b2, t2, K2⟩ := own_at st1 i2
    rw [s2] at t2
    cases t2
    refine ⟨_, t3, .inl ⟨rfl, _, SqL.of K3⟩, ?_⟩
    refine ⟨_, s2, .inl ⟨rfl, _, SqL.of K2⟩, ?_⟩
    refine ⟨_, s0, _, s2, ?_⟩
    refine ⟨_, _, rfl, .inl ⟨_, SqL.of K2, rfl⟩, ?_⟩
    have hlx : (((x :: l).map V.int).length : Int) = ((l.length + 1 : Nat) : Int) := by simp
    refine ⟨drawR p w c ce, [.raw (.ref p), .int (((x :: l).map V.int).length : Int)], G, fun d => ∃ k : Nat, d = .int (k : Int) ∧ k < (x :: l).length, .cons (.raw _) (.cons (.int _) .nil), st1.gh, ⟨p, _, ⟨w, c, ce, rfl⟩, rfl, ⟨by omega, by simp only [List.length_cons] at hle; omega⟩, fun i g0 g1 => ⟨i.toNat, by rw [Int.toNat_of_nonneg g0], by simp only [List.length_cons]; omega⟩⟩, fun v d G' H' e r hk => ?_⟩
    obtain ⟨k, rfl, hkl⟩ := hk
    cases r
    have st2 := st1.step e
    obtain ⟨c2, u2, L2'⟩ := own_at st2 i2
    rw [s2] at u2
    cases u2
    have hx : (x :: l)[k]? = some (x :: l)[k] := List.getElem?_eq_getElem hkl
    refine ⟨a2, _, (k : Int), k, .int ((x :: l)[k]), rfl, rfl, L2', by omega, by simp only [List.length_cons] at hkl hle; omega, ?_, ?_, ?_⟩
    · simp only [seqIndex?, List.length_map]
      have : ¬ ((k : Int) < 0) := by omega
      simp only [this, if_false]
      have h5 : (k : Int) < (((x :: l).length : Nat) : Int) := by omega
      simp [h5]
      simp only [List.length_cons] at hkl
      omega
    · rw [List.getElem?_map, hx]
      rfl
    · rw [eraseIdx_map_int]
      have st3 := st2.wr (i := 2) (l := a2) (o := .lst (((x :: l).eraseIdx k).map V.int)) (s1 := .own (((x :: l).eraseIdx k).map D.int)) i2 s2 (by
        obtain ⟨a, vs, g1, g2, g3, g4, g5⟩ := st2.at_ 2 _ i2
        rw [s2] at g1
        cases g1
        exact ⟨a2, _, s2, upd_same, g3, g4, Reps.ints _⟩) fun a o => o
      have i3' : (ρ.set 2 (.own (((x :: l).eraseIdx k).map D.int)))[3]? = some (.own (l2.map D.int)) := by rw [List.getElem?_set_ne (by omega)]; exact i3
      obtain ⟨b3', t3', K3'⟩ := own_at st3 i3'
      rw [t3] at t3'
      cases t3'
      refine ⟨b3, _, _, rfl, rfl, K3', ?_, ?_⟩
      · have := sizeLine_eq
        simp only [List.length_map]
        omega
      · have st4 := st3.wr (i := 3) (l := b3) (o := .lst (l2.map V.int ++ [.int ((x :: l)[k])])) (s1 := .own ((l2 ++ [(x :: l)[k]]).map D.int)) i3' t3 (by
          obtain ⟨a, vs, g1, g2, g3, g4, g5⟩ := st3.at_ 3 _ i3'
          rw [t3] at g1
          cases g1
          refine ⟨b3, _, t3, upd_same, g3, g4, ?_⟩
          have := Reps.ints (m := m) (G := G') (l2 ++ [(x :: l)[k]])
          simpa using this) fun a o => o
        refine ⟨G', _, (x :: l).eraseIdx k, l2 ++ [(x :: l)[k]], ?_, ?_, st4, ?_, ?_, ?_, ?_⟩
        · rw [List.length_eraseIdx_of_lt hkl]
          simp
        · refine List.Perm.trans ?_ hp
          rw [List.append_assoc]
          exact List.Perm.append_left l2 (perm_pop hx)
        · rw [List.getElem?_set_ne (by omega), List.getElem?_set_ne (by omega)]
          exact i0
        · rw [List.getElem?_set_ne (by omega)]
          exact List.getElem?_set_self (List.getElem?_eq_some_iff.mp i2).1
        · exact List.getElem?_set_self (by rw [List.length_set]; exact (List.getElem?_eq_some_iff.mp i3).1)
        · intro y z
          rw [← hset y z]
          rw [List.set_comm _ _ (by omega : (3 : Nat) ≠ 2), List.set_set, List.set_set]
end
end Dl
set_option Elab.async false
set_option linter.all false
set_option maxRecDepth 100000
set_option maxHeartbeats 2000000
/-! The law's draws. -/
namespace Dl
open PySem PySem.Spec PyProof.Rows L2
theorem _root_.L2.Room.u1 {k : Nat} {A : Around} (r : Room k A) : A.units + 1 < cLine := by have := r.un; omega
theorem s_drI (R : Res) (i : Nat) (ρ : Rho) (k : D → Prop) : dDrI R i ρ k = ∃ p, IsDr R p ∧ ρ[i]? = some (.val (.raw (.ref p))) ∧ ∀ z, 0 ≤ z → k (.int z) := rfl
theorem s_drP (R : Res) (i : Nat) (de : TdE) (De : EndsD) (ρ : Rho) : dDrPut R i de De ρ = de ρ fun x => ∃ p z, IsDr R p ∧ ρ[i]? = some (.val (.raw (.ref p))) ∧ x = .int z ∧ 0 ≤ z ∧ De.nx ρ := rfl
theorem s_drT (R : Res) (i : Nat) (da : TdT) (De : EndsD) (ρ : Rho) : dDrTop R i da De ρ = da ρ fun _ => ∃ p, IsDr R p ∧ ρ[i]? = some (.val (.raw (.ref p))) ∧ De.nx ρ := rfl
theorem s_drC (R : Res) (i : Nat) (ρ : Rho) (k : List D → Prop) : dCells R i ρ k = ∃ p, IsDr R p ∧ ρ[i]? = some (.val (.raw (.ref p))) ∧ ∀ ce : List Int, k (ce.map D.int) := rfl
theorem len_l_mixed (R : Res) (ds : List D) (kk : D → Prop) (h : sp_l_mixed R ds kk) : ds.length = 1 := by obtain ⟨_, _, rfl, _⟩ := h; rfl
theorem len_l_take (R : Res) (ds : List D) (kk : D → Prop) (h : sp_l_take R ds kk) : ds.length = 2 := by obtain ⟨_, _, _, rfl, _⟩ := h; rfl
/-- _law_mixed: slots 0 _law_draw 1 _law_turn 2 _law_found 3 _law_prime 4 _law_blend 5 _law_cell -/
abbrev d_l_mixed (m : Pm) (R : Res) : TdS := dSeq (dAsg 1 (dOp opAdd (dDrI R 0) (dC (.int 1)))) (dSeq (dDrPut R 0 (dVar 1)) (dSeq (dAsg 2 (dC (.int 0))) (dSeq (dFor (dIter (dLst (dCons (dC (.int 2147483629)) (dCons (dC (.int 2147483587)) (dCons (dC (.int 2147483579)) (dCons (dC (.int 2147483563)) (dNil))))))) (dgName 3) (dSeq (dAsg 4 (dOp (opI (fun _ j => 0 < j) fun i j => .int (i % j)) (dCall fInt (dCons (dOp opAdd (dOp opMul (dVar 1) (dC (.int 69621))) (dOp (opI CDiv fun i j => .int (i / j)) (dVar 3) (dC (.int 7)))) (dNil))) (dVar 3))) (dSeq (dFor (dCells R 0) (dgName 5) (dAsg 4 (dOp (opI (fun _ j => 0 < j) fun i j => .int (i % j)) (dCall fInt (dCons (dOp opAdd (dOp opMul (dVar 4) (dC (.int 48271))) (dVar 5)) (dNil))) (dVar 3)))) (dAsg 2 (dOp opAdd (dOp opMul (dVar 2) (dC (.int 2147483647))) (dOp (opI (fun _ j => 0 < j) fun i j => .int (i % j)) (dCall fInt (dCons (dOp (opI CPow fun i j => .int (i ^ j.toNat)) (dVar 4) (dC (.int 5))) (dNil))) (dVar 3))))))) (dRet (dVar 2)))))
theorem law_l_mixed (m : Pm) (R : Res) (ds : List D) (kk : D → Prop) (h : sp_l_mixed R ds kk) : d_l_mixed m R { nx := fun _ => kk .non, rt := kk } (startD 6 ds) := by
  obtain ⟨p, hR, rfl, h⟩ := h
  simp [startD]
  refine ⟨p, hR, rfl, fun t ht => ?_⟩
  simp
  refine ⟨p, _, hR, rfl, rfl, by omega, ?_⟩
  simp
  refine ⟨by have := sizeLine_eq; omega, ?_⟩
  show ForB _ _ _ _ (([2147483629, 2147483587, 2147483579, 2147483563] : List Int).map D.int)
  refine forMap ([2147483629, 2147483587, 2147483579, 2147483563] : List Int) D.int (fun _ ρ => ∃ f s3 s4 s5, 0 ≤ f ∧ ρ = [.val (.raw (.ref p)), .val (.int (t + 1)), .val (.int f), s3, s4, s5]) ⟨0, _, _, _, by omega, rfl⟩ (fun pre x post e ρ ⟨f, s3, s4, s5, hf, hρ⟩ => ?_) fun ρ ⟨f, s3, s4, s5, hf, hρ⟩ => ?_
  · subst hρ
    have hx : x ∈ ([2147483629, 2147483587, 2147483579, 2147483563] : List Int) := by rw [e]; simp
    have hx2 : 0 < x ∧ x < 2147483648 := by
      simp at hx
      omega
    simp [fInt]
    refine ⟨.inr ⟨by omega, by omega⟩, ⟨by omega, by omega⟩, hx2.1, ?_⟩
    refine ⟨p, hR, rfl, fun ce => ?_⟩
    refine forMap ce D.int (fun _ ρ => ∃ b s5, (0 ≤ b ∧ b < x) ∧ ρ = [.val (.raw (.ref p)), .val (.int (t + 1)), .val (.int f), .val (.int x), .val (.int b), s5]) ⟨_, _, ⟨Int.emod_nonneg _ (by omega), Int.emod_lt_of_pos _ hx2.1⟩, rfl⟩ (fun pre y post e ρ ⟨b, s5, hb, hρ⟩ => ?_) fun ρ ⟨b, s5, hb, hρ⟩ => ?_
    · subst hρ
      simp [fInt]
      exact ⟨.inr ⟨by omega, by omega⟩, hx2.1, Int.emod_nonneg _ (by omega), Int.emod_lt_of_pos _ hx2.1⟩
    · subst hρ
      simp [fInt]
      refine ⟨.inr ⟨by omega, by omega⟩, ⟨by omega, by omega, by omega⟩, hx2.1, ?_⟩
      have h1 := Int.emod_nonneg (b ^ 5) (show x ≠ 0 by omega)
      omega
  · subst hρ
    simp
    exact h f hf
theorem ok_l_mixed {P : Program} {w : World} {K : PySem.W.Frag} {mg : Str → Option Value} {base : Heap} (c : Sys K mg) : ∃ fd, FnOk P w K mg base CX0 1 ((p_l_mixed).at_ K) fd ["_law_draw"] (spD (pm K w) sp_l_mixed) ∧ Binds K fd ["_law_draw"] [] := by
  obtain ⟨fd, F⟩ := c.d_l_mixed
  have S : FnScope ["_law_draw", "_law_turn", "_law_found", "_law_prime", "_law_blend", "_law_cell"] ["_law_draw"] (defScope (top 74)) := ⟨rfl, rfl, rfl, by decide +kernel, rfl, by decide +kernel, by decide +kernel⟩
  have hN : (["_law_draw", "_law_turn", "_law_found", "_law_prime", "_law_blend", "_law_cell"] : List Str).Nodup := S.nd
  refine ⟨fd, fn_ok F S len_l_mixed fun cdv A outer s H E hr R => ?_, F.bindsN fun _ _ _ _ _ _ us hl => match us, hl with | [_], _ => rfl⟩
  exact ⟨_, d_l_mixed (pm K w) R, pdss_cons (pds_set 1 hN (pd_op (ke_add (K := K)) (pd_turn 0 (pv 0) pe_str hr.u1) (pd_int))) (pdss_cons (pds_putT 0 (pv 0) pe_str (pd 1) hr.u1) (pdss_cons (pds_set 2 hN (pd_int)) (pdss_cons (pds_for rfl (ki_seq (K := K) (pd_lst (pda_cons (pd_int) (pda_cons (pd_int) (pda_cons (pd_int) (pda_cons (pd_int) (pda_nil))))))) (pdg_name 3 hN) (pdss_cons (pds_set 4 hN (pd_op od_mod (pd_callTy cd_int rfl c.n_int (by rfl) (pda_cons (pd_op (ke_add (K := K)) (pd_op od_mul (pd 1) (pd_int)) (pd_op od_fdiv (pd 3) (pd_int))) (pda_nil))) (pd 3))) (pdss_cons (pds_for rfl (pdi_cells (K := K) 0 (pv 0) pe_str hr.u1) (pdg_name 5 hN) (pdss_one (pds_set 4 hN (pd_op od_mod (pd_callTy cd_int rfl c.n_int (by rfl) (pda_cons (pd_op (ke_add (K := K)) (pd_op od_mul (pd 4) (pd_int)) (pd 5)) (pda_nil))) (pd 3))))) (pdss_one (pds_set 2 hN (pd_op (ke_add (K := K)) (pd_op od_mul (pd 2) (pd_int)) (pd_op od_mod (pd_callTy cd_int rfl c.n_int (by rfl) (pda_cons (pd_op od_pow (pd 4) (pd_int)) (pda_nil))) (pd 3)))))))) (pdss_one (pds_ret (pd 2)))))), fun ds kk h => law_l_mixed _ R ds kk h⟩
theorem raw_l_mixed {P : Program} {w : World} {K : PySem.W.Frag} {mg : Str → Option Value} {base : Heap} (c : Sys K mg) : FnR P w K mg base CX0 1 ((p_l_mixed).at_ K) (spD (pm K w) sp_l_mixed) := let ⟨_, F, B⟩ := ok_l_mixed (P := P) (w := w) (base := base) c; raw0 F B
/-- _law_take: slots 0 _law_draw 1 _law_many 2 _law_found -/
abbrev d_l_take (m : Pm) (R : Res) : TdS := dSeq (dDrTop R 0 (dTest (dOp (opEq false) (dDrI R 0) (dC (.int 0))))) (dSeq (dIfS (dTest (dOp (opEq false) (dDrI R 0) (dC (.int 0)))) (dDrPut R 0 (dCall (sp_l_mixed R) (dCons (dVar 0) (dNil)))) (dNext)) (dSeq (dAsg 2 (dOp (opI (fun _ j => 0 < j) fun i j => .int (i % j)) (dCall fInt (dCons (dDrI R 0) (dNil))) (dVar 1))) (dSeq (dDrPut R 0 (dOp (opI CDiv fun i j => .int (i / j)) (dDrI R 0) (dVar 1))) (dRet (dVar 2)))))
theorem law_l_take (m : Pm) (R : Res) (ds : List D) (kk : D → Prop) (h : sp_l_take R ds kk) : d_l_take m R { nx := fun _ => kk .non, rt := kk } (startD 3 ds) := by
  obtain ⟨p, n, hR, rfl, hn, h⟩ := h
  have fin : ∀ ρ : Rho, ρ = [.val (.raw (.ref p)), .val (.int n), .no] → dSeq (dAsg 2 (dOp (opI (fun _ j => 0 < j) fun i j => .int (i % j)) (dCall fInt (dCons (dDrI R 0) (dNil))) (dVar 1))) (dSeq (dDrPut R 0 (dOp (opI CDiv fun i j => .int (i / j)) (dDrI R 0) (dVar 1))) (dRet (dVar 2))) { nx := fun _ => kk .non, rt := kk } ρ := fun ρ e => by
    subst e
    simp [s_drI, s_drP, fInt]
    refine ⟨p, hR, rfl, fun z hz => ⟨by omega, p, hR, rfl, fun y hy => ⟨⟨by omega, by omega⟩, p, hR, rfl, Int.ediv_nonneg hy (by omega), h _ (Int.emod_nonneg _ (by omega)) (Int.emod_lt_of_pos _ (by omega))⟩⟩⟩
  show dDrTop R 0 _ _ (startD 3 _)
  rw [s_drT]
  simp only [s_dTest, s_dOp, s_drI]
  refine ⟨p, hR, rfl, fun z hz => ?_⟩
  simp [startD]
  refine ⟨p, hR, rfl, ?_⟩
  simp only [s_drI]
  refine ⟨p, hR, rfl, fun z hz => ?_⟩
  simp
  split
  · simp only [s_drP, s_dCall, s_dCons, s_dNil, s_dVar, List.getElem?_cons_zero]
    exact ⟨p, hR, rfl, fun i hi => ⟨p, i, hR, rfl, rfl, hi, fin _ rfl⟩⟩
  · have f := fin _ rfl
    simp [s_drI] at f
    exact f
theorem ok_l_take {P : Program} {w : World} {K : PySem.W.Frag} {mg : Str → Option Value} {base : Heap} (c : Sys K mg) : ∃ fd, FnOk P w K mg base CX0 2 ((p_l_take).at_ K) fd ["_law_draw", "_law_many"] (spD (pm K w) sp_l_take) ∧ Binds K fd ["_law_draw", "_law_many"] [] := by
  obtain ⟨fd, F⟩ := c.d_l_take
  have S : FnScope ["_law_draw", "_law_many", "_law_found"] ["_law_draw", "_law_many"] (defScope (top 75)) := ⟨rfl, rfl, rfl, by decide +kernel, rfl, by decide +kernel, by decide +kernel⟩
  have hN : (["_law_draw", "_law_many", "_law_found"] : List Str).Nodup := S.nd
  refine ⟨fd, fn_ok F S len_l_take fun cdv A outer s H E hr R => ?_, F.bindsN fun _ _ _ _ _ _ us hl => match us, hl with | [_, _], _ => rfl⟩
  exact ⟨_, d_l_take (pm K w) R, pdss_cons (pds_top (K := K) 0 (pdt_cmp (ke_eq (K := K) hr.units) (pd_left 0 (pv 0) pe_str hr.u1) (pd_int)) (pt_cmpR (od_ne hr.units (R := R) (m := pm K w)).pe (pe_dget hr.u1 (pv 0) pe_str (by intro _ _; rfl)) (pe_lst pa_nil) (by rfl)) (pss_one (ps_dput hr.u1 (pv 0) pe_str (pe_bm PySem.F.plainAttrs_list PySem.F.slot_list_pop PySem.F.type_list_pop mt_popAt (pe_dget hr.u1 (pv 0) pe_str (by intro _ _; rfl)) (pa_cons pe_int pa_nil)) (by rfl)))) (pdss_cons (pds_if (pdt_cmp (ke_eq (K := K) hr.units) (pd_left 0 (pv 0) pe_str hr.u1) (pd_int)) (pdss_one (pds_putL 0 (pv 0) pe_str (pd_call (raw_l_mixed c) (hr.mono (by decide : 1 ≤ 1)) rfl c.g_l_mixed c.k_l_mixed (pda_cons (pd 0) (pda_nil))) hr.u1)) (pdss_nil)) (pdss_cons (pds_set 2 hN (pd_op od_mod (pd_callTy cd_int rfl c.n_int (by rfl) (pda_cons (pd_left 0 (pv 0) pe_str hr.u1) (pda_nil))) (pd 1))) (pdss_cons (pds_putL 0 (pv 0) pe_str (pd_op od_fdiv (pd_left 0 (pv 0) pe_str hr.u1) (pd 1)) hr.u1) (pdss_one (pds_ret (pd 2)))))), fun ds kk h => law_l_take _ R ds kk h⟩
theorem raw_l_take {P : Program} {w : World} {K : PySem.W.Frag} {mg : Str → Option Value} {base : Heap} (c : Sys K mg) : FnR P w K mg base CX0 2 ((p_l_take).at_ K) (spD (pm K w) sp_l_take) := let ⟨_, F, B⟩ := ok_l_take (P := P) (w := w) (base := base) c; raw0 F B
def sp_l_pick : DSp := fun R ds kk => ∃ p, ∃ l : List D, IsDr R p ∧ ds = [.raw (.ref p), .lst l] ∧ (1 ≤ l.length ∧ l.length ≤ 1000) ∧ ∀ x ∈ l, kk x
theorem len_l_pick (R : Res) (ds : List D) (kk : D → Prop) (h : sp_l_pick R ds kk) : ds.length = 2 := by obtain ⟨_, _, _, rfl, _⟩ := h; rfl
/-- _law_pick: slots 0 _law_draw 1 _law_some -/
abbrev d_l_pick (m : Pm) (R : Res) : TdS := dRet (dOp opIx (dVar 1) (dCall (sp_l_take R) (dCons (dVar 0) (dCons (dCall fLen (dCons (dVar 1) (dNil))) (dNil)))))
theorem law_l_pick (m : Pm) (R : Res) (ds : List D) (kk : D → Prop) (h : sp_l_pick R ds kk) : d_l_pick m R { nx := fun _ => kk .non, rt := kk } (startD 2 ds) := by
  obtain ⟨p, l, hR, rfl, hl, h⟩ := h
  simp [startD]
  refine ⟨p, l.length, hR, rfl, ⟨by omega, by omega⟩, fun i h0 h1 => ?_⟩
  obtain ⟨i, rfl⟩ := Int.eq_ofNat_of_zero_le h0
  have hi : i < l.length := by omega
  rw [s_ix_l, atIn, List.getElem?_eq_getElem hi]
  exact h _ (List.getElem_mem hi)
theorem ok_l_pick {P : Program} {w : World} {K : PySem.W.Frag} {mg : Str → Option Value} {base : Heap} (c : Sys K mg) : ∃ fd, FnOk P w K mg base CX0 3 ((p_l_pick).at_ K) fd ["_law_draw", "_law_some"] (spD (pm K w) sp_l_pick) ∧ Binds K fd ["_law_draw", "_law_some"] [] := by
  obtain ⟨fd, F⟩ := c.d_l_pick
  have S : FnScope ["_law_draw", "_law_some"] ["_law_draw", "_law_some"] (defScope (top 76)) := ⟨rfl, rfl, rfl, by decide +kernel, rfl, by decide +kernel, by decide +kernel⟩
  have hN : (["_law_draw", "_law_some"] : List Str).Nodup := S.nd
  refine ⟨fd, fn_ok F S len_l_pick fun cdv A outer s H E hr R => ?_, F.bindsN fun _ _ _ _ _ _ us hl => match us, hl with | [_, _], _ => rfl⟩
  exact ⟨_, d_l_pick (pm K w) R, pdss_one (pds_ret (k_ix (K := K) (pd 1) (pd_call (raw_l_take c) (hr.mono (by decide : 2 ≤ 2)) rfl c.g_l_take c.k_l_take (pda_cons (pd 0) (pda_cons (pd_callB (kd_len (K := K)) rfl c.n_len (by rfl) (pda_cons (pd 1) (pda_nil))) (pda_nil)))))), fun ds kk h => law_l_pick _ R ds kk h⟩
theorem raw_l_pick {P : Program} {w : World} {K : PySem.W.Frag} {mg : Str → Option Value} {base : Heap} (c : Sys K mg) : FnR P w K mg base CX0 3 ((p_l_pick).at_ K) (spD (pm K w) sp_l_pick) := let ⟨_, F, B⟩ := ok_l_pick (P := P) (w := w) (base := base) c; raw0 F B
theorem s_listO (e : TdE) (ρ : Rho) (k : Sl → Prop) : dListO e ρ k = e ρ fun d => match d with
  | .lst l => k (.own l)
  | .tup l => k (.own l)
  | _ => False := rfl
theorem pds_shuf {m : Pm} {R : Res} {X : Cx} {st : Stmt} {K : PySem.W.Frag} (h : PS X st (tShuf m K)) : PDS m R X st (tShuf m K) (dShuf R) := ⟨h, sem_shuf⟩
def sp_l_shuffled : DSp := fun R ds kk => ∃ p, ∃ l : List Int, IsDr R p ∧ ds = [.raw (.ref p), .lst (l.map D.int)] ∧ l.length ≤ 1000 ∧ ∀ L : List Int, L.Perm l → kk (.lst (L.map D.int))
theorem len_l_shuffled (R : Res) (ds : List D) (kk : D → Prop) (h : sp_l_shuffled R ds kk) : ds.length = 2 := by obtain ⟨_, _, _, rfl, _⟩ := h; rfl
/-- _law_shuffled: slots 0 _law_draw 1 _law_some 2 _law_left 3 _law_found -/
abbrev d_l_shuffled (m : Pm) (R : Res) : TdS := dSeq (dPar 2 3 (dListO (dVar 1)) (dOwn (dNil))) (dSeq (dShuf R) (dFrz 3 (dRet (dVar 3))))
theorem law_l_shuffled (m : Pm) (R : Res) (ds : List D) (kk : D → Prop) (h : sp_l_shuffled R ds kk) : d_l_shuffled m R { nx := fun _ => kk .non, rt := kk } (startD 4 ds) := by
  obtain ⟨p, l, hR, rfl, hl, h⟩ := h
  simp [startD, s_listO]
  refine ⟨p, l, [], hR, rfl, rfl, rfl, by simpa using hl, fun L hL => ?_⟩
  simp
  exact h L (by simpa using hL)
theorem ok_l_shuffled {P : Program} {w : World} {K : PySem.W.Frag} {mg : Str → Option Value} {base : Heap} (c : Sys K mg) : ∃ fd, FnOk P w K mg base CX0 3 ((p_l_shuffled).at_ K) fd ["_law_draw", "_law_some"] (spD (pm K w) sp_l_shuffled) ∧ Binds K fd ["_law_draw", "_law_some"] [] := by
  obtain ⟨fd, F⟩ := c.d_l_shuffled
  have S : FnScope ["_law_draw", "_law_some", "_law_left", "_law_found"] ["_law_draw", "_law_some"] (defScope (top 77)) := ⟨rfl, rfl, rfl, by decide +kernel, rfl, by decide +kernel, by decide +kernel⟩
  have hN : (["_law_draw", "_law_some", "_law_left", "_law_found"] : List Str).Nodup := S.nd
  refine ⟨fd, fn_ok F S len_l_shuffled fun cdv A outer s H E hr R => ?_, F.bindsN fun _ _ _ _ _ _ us hl => match us, hl with | [_, _], _ => rfl⟩
  exact ⟨_, d_l_shuffled (pm K w) R, pdss_cons (pds_par rfl hN (sl_list (K := K) rfl c.n_list (by rfl) (pd 1)) (sl_lst (pda_nil))) (pdss_cons (pds_shuf (K := K) (ps_while PassesOwn.never (pt_cmpR (od_ne hr.units (R := R) (m := pm K w)).pe (pv 2) (pe_lst pa_nil) (by rfl)) (pss_one (ps_expr (pe_bm PySem.F.plainAttrs_list PySem.F.slot_list_append PySem.F.type_list_append mt_append (pv 3) (pa_cons (pe_bm PySem.F.plainAttrs_list PySem.F.slot_list_pop PySem.F.type_list_pop mt_popAt (pv 2) (pa_cons (pe_callR (raw_l_take c) (hr.mono (by decide : 2 ≤ 2)) rfl c.g_l_take c.k_l_take (pa_cons (pv 0) (pa_cons (pe_callB call_len rfl c.n_len boot_len (pa_cons (pv 2) pa_nil)) pa_nil))) pa_nil)) pa_nil)))))) (pdss_frz 3 (pdss_one (pds_ret (pd 3))))), fun ds kk h => law_l_shuffled _ R ds kk h⟩
theorem raw_l_shuffled {P : Program} {w : World} {K : PySem.W.Frag} {mg : Str → Option Value} {base : Heap} (c : Sys K mg) : FnR P w K mg base CX0 3 ((p_l_shuffled).at_ K) (spD (pm K w) sp_l_shuffled) := let ⟨_, F, B⟩ := ok_l_shuffled (P := P) (w := w) (base := base) c; raw0 F B

end Dl
set_option Elab.async false
set_option linter.all false
set_option maxRecDepth 100000
set_option maxHeartbeats 2000000
/-! The law's raw steps. -/
namespace Dl
open PySem PySem.Spec PyProof.Rows L2
theorem pdss_never {m : Pm} {R : Res} {X : Cx} {ss : List Stmt} : PDSs m R X ss tNever dNever := ⟨⟨fun _ _ _ _ _ _ h => h.elim⟩, fun _ _ _ _ _ _ _ _ _ h => h.elim⟩
inductive All2 {α β : Type} (r : α → β → Prop) : List α → List β → Prop
  | nil : All2 r [] []
  | cons {x : α} {y : β} {xs : List α} {ys : List β} : r x y → All2 r xs ys → All2 r (x :: xs) (y :: ys)
theorem All2.snoc {α β : Type} {r : α → β → Prop} : ∀ {xs : List α} {ys : List β} {x : α} {y : β}, All2 r xs ys → r x y → All2 r (xs ++ [x]) (ys ++ [y])
  | _, _, _, _, .nil, h => .cons h .nil
  | _, _, _, _, .cons a b, h => .cons a (All2.snoc b h)
theorem All2.len {α β : Type} {r : α → β → Prop} : ∀ {xs : List α} {ys : List β}, All2 r xs ys → ys.length = xs.length
  | _, _, .nil => rfl
  | _, _, .cons _ b => by simp [All2.len b]
/-- a list of whatever the elements give -/
theorem lcRel {α β : Type} {ρ : Rho} {dg : TdG} {dt : TdT} {de : TdE} {vs : List Nat} {kk : List D → Prop} (l : List α) (enc : α → D) (enc2 : β → D) (r : α → β → Prop)
    (hs : ∀ x ∈ l, ∀ (Kt : D → Prop) (Kf : Prop), (∀ y, r x y → Kt (enc2 y)) → dg (enc x) (wipeR ρ vs) fun ρ2 => dt ρ2 fun b => if b = true then de ρ2 Kt else Kf)
    (hl : l.length ≤ sizeLine) (h : ∀ ys, All2 r l ys → kk (ys.map enc2)) : LcB dg dt de vs ρ (l.map enc) kk := by
  refine ⟨fun i acc => ∃ ys, acc = ys.map enc2 ∧ All2 r (l.take i) ys, ⟨[], rfl, by simpa using .nil⟩, fun i d acc hd ⟨ys, ea, ha⟩ => ?_, fun acc ⟨ys, ea, ha⟩ => ?_⟩
  · rw [List.getElem?_map, Option.map_eq_some_iff] at hd
    obtain ⟨x, hx, rfl⟩ := hd
    have hil := (List.getElem?_eq_some_iff.mp hx).1
    have e : l.take (i + 1) = l.take i ++ [x] := by rw [List.take_add_one, hx]; rfl
    refine hs x (List.mem_of_getElem? hx) _ _ fun y hy => ⟨?_, ys ++ [y], by rw [ea]; simp, by rw [e]; exact ha.snoc hy⟩
    have := ha.len
    rw [ea]
    simp only [List.length_map, List.length_take] at this ⊢
    omega
  · subst ea
    rw [List.length_map, List.take_length] at ha
    exact h ys ha
@[simp] theorem cut1 {α : Type} (a : α) (l : List α) : cutL (a :: l) none (some 1) = [a] := cut_lo (a :: l) 1 (by simp)
@[simp] theorem cut2 {α : Type} (a b : α) (l : List α) : cutL (a :: b :: l) none (some 2) = [a, b] := cut_lo (a :: b :: l) 2 (by simp)
@[simp] theorem cut2d {α : Type} (a b : α) (l : List α) : cutL (a :: b :: l) (some 2) none = l := cut_hi (a :: b :: l) 2 (by simp)
/-! raw steps: rhythms are (size, rests) -/
def rawR (r : Rhy) : Prop := (1 ≤ r.s ∧ r.s ≤ 6 ∧ r.s ∣ 12) ∧ r.rs.Nodup ∧ r.rs.length ≤ 6 ∧ ∀ x ∈ r.rs, 0 ≤ x ∧ x < r.s
def rawP : Pl → Prop
  | .shift i => -5 ≤ i ∧ i ≤ 5
  | .keep r => rawR r
  | .strike r => rawR r
  | .from_ i => -1 ≤ i ∧ i ≤ 100
  | .until_ i => -1 ≤ i ∧ i ≤ 100
def raw : Stp → Prop
  | .pl p => rawP p
  | .add r a b => rawR r ∧ (-2 ≤ a ∧ a ≤ 15) ∧ ∀ x, b = some x → -2 ≤ x ∧ x ≤ 30
  | .since c l => (0 ≤ c ∧ c ≤ 9) ∧ (1 ≤ l.length ∧ l.length ≤ 2) ∧ ∀ p ∈ l, rawP p
def ewR (r : Rhy) : D := .tup [.int r.s, .tup (r.rs.map D.int)]
def ewP : Pl → D
  | .shift i => .tup [.str "shift", .int i]
  | .keep r => .tup [.str "keep", ewR r]
  | .strike r => .tup [.str "strike", ewR r]
  | .from_ i => .tup [.str "from", .int i]
  | .until_ i => .tup [.str "until", .int i]
def ew : Stp → D
  | .pl p => ewP p
  | .add r a b => .tup [.str "add", ewR r, .int a, encO b]
  | .since c l => .tup [.str "since", .int c, .tup (l.map ewP)]
def LikeP (p q : Pl) : Prop := q.Ok ∧ q.abs = p.abs
structure Like (s t : Stp) : Prop where
  ok : t.Ok
  len : t.flat.length = s.flat.length
  sum : (t.flat.map Stp.abs).sum = (s.flat.map Stp.abs).sum
theorem dvd12 {r : Rhy} {s : Int} (h1 : 1 ≤ r.s) (h2 : r.s ∣ s) (h : s ∣ 12) : r.Ok := ⟨h1, Int.dvd_trans h2 h⟩
def sp_l_real0 : DSp := fun R ds kk => ∃ p : Pl, ds = [ewP p] ∧ rawP p ∧ ∀ q, LikeP p q → kk (encP q)
theorem len_l_real0 (R : Res) (ds : List D) (kk : D → Prop) (h : sp_l_real0 R ds kk) : ds.length = 1 := by obtain ⟨_, rfl, _⟩ := h; rfl
/-- _law_real: slots 0 _law_step 1 _law_inner -/
abbrev d_l_real0 (m : Pm) (R : Res) : TdS := dSeq (dIfS (dTest (dOp (opIn false) (dOp opIx (dVar 0) (dC (.int 0))) (dTup (dCons (dC (.str "keep")) (dCons (dC (.str "strike")) (dCons (dC (.str "add")) (dNil))))))) (dRet (dOp opAdd (dOp opAdd (dSl (dVar 0) (dNoPart) (dPart (dC (.int 1)))) (dTup (dCons (dCall (sp_Rhythm_init R) (dCons (dOp opIx (dOp opIx (dVar 0) (dC (.int 1))) (dC (.int 0))) (dCons (dOp opIx (dOp opIx (dVar 0) (dC (.int 1))) (dC (.int 1))) (dNil)))) (dNil)))) (dSl (dVar 0) (dPart (dC (.int 2))) (dNoPart)))) (dNext)) (dSeq (dIfS (dTest (dOp (opEq false) (dOp opIx (dVar 0) (dC (.int 0))) (dC (.str "since")))) (dNever) (dNext)) (dRet (dVar 0)))
theorem law_l_real0 (m : Pm) (R : Res) (ds : List D) (kk : D → Prop) (h : sp_l_real0 R ds kk) : d_l_real0 m R { nx := fun _ => kk .non, rt := kk } (startD 2 ds) := by
  obtain ⟨p, rfl, hp, h⟩ := h
  have hg := huge
  have h3 : 3 ≤ sizeLine := by omega
  have h1' : 1 ≤ sizeLine := by omega
  have h2' : 2 ≤ sizeLine := by omega
  cases p with
  | shift i =>
    simp [startD, ewP, h3]
    exact h (.shift i) ⟨by obtain ⟨a, b⟩ := hp; exact ⟨by omega, by omega⟩, rfl⟩
  | keep r =>
    obtain ⟨⟨a1, a2, a3⟩, a4, a5, a6⟩ := hp
    simp [startD, ewP, ewR, h3]
    refine ⟨r.s, _, r.rs, rfl, .inr rfl, a1, by omega, a4, by omega, a6, fun q h1 h2 => ?_⟩
    simp [h3, h1', h2']
    exact h (.keep q) ⟨dvd12 h1 h2 a3, rfl⟩
  | strike r =>
    obtain ⟨⟨a1, a2, a3⟩, a4, a5, a6⟩ := hp
    simp [startD, ewP, ewR, h3]
    refine ⟨r.s, _, r.rs, rfl, .inr rfl, a1, by omega, a4, by omega, a6, fun q h1 h2 => ?_⟩
    simp [h3, h1', h2']
    exact h (.strike q) ⟨dvd12 h1 h2 a3, rfl⟩
  | from_ i =>
    simp [startD, ewP, h3]
    exact h (.from_ i) ⟨by obtain ⟨a, b⟩ := hp; exact ⟨by omega, by omega⟩, rfl⟩
  | until_ i =>
    simp [startD, ewP, h3]
    exact h (.until_ i) ⟨by obtain ⟨a, b⟩ := hp; exact ⟨by omega, by omega⟩, rfl⟩
theorem ok_l_real0 {P : Program} {w : World} {K : PySem.W.Frag} {mg : Str → Option Value} {base : Heap} (c : Sys K mg) : ∃ fd, FnOk P w K mg base CX0 5 ((p_l_real).at_ K) fd ["_law_step"] (spD (pm K w) sp_l_real0) ∧ Binds K fd ["_law_step"] [] := by
  obtain ⟨fd, F⟩ := c.d_l_real
  have S : FnScope ["_law_step", "_law_inner"] ["_law_step"] (defScope (top 78)) := ⟨rfl, rfl, rfl, by decide +kernel, rfl, by decide +kernel, by decide +kernel⟩
  have hN : (["_law_step", "_law_inner"] : List Str).Nodup := S.nd
  refine ⟨fd, fn_ok F S len_l_real0 fun cdv A outer s H E hr R => ?_, F.bindsN fun _ _ _ _ _ _ us hl => match us, hl with | [_], _ => rfl⟩
  exact ⟨_, d_l_real0 (pm K w) R, pdss_cons (pds_if (pdt_cmp (ke_in (K := K)) (k_ix (K := K) (pd 0) (pd_int)) (pd_tup (pda_cons (pd_str) (pda_cons (pd_str) (pda_cons (pd_str) (pda_nil)))))) (pdss_one (pds_ret (pd_op (ke_add (K := K)) (pd_op (ke_add (K := K)) (k_slice (K := K) (pd 0) (pdo_none) (pdo_some (pd_int))) (pd_tup (pda_cons (pd_make (n := 0) c.mk_Rhythm (raw_Rhythm_init c) (hr.mono (by decide : 4 ≤ 4)) rfl c.g_Rhythm (pda_cons (k_ix (K := K) (k_ix (K := K) (pd 0) (pd_int)) (pd_int)) (pda_cons (k_ix (K := K) (k_ix (K := K) (pd 0) (pd_int)) (pd_int)) (pda_nil)))) (pda_nil)))) (k_slice (K := K) (pd 0) (pdo_some (pd_int)) (pdo_none))))) (pdss_nil)) (pdss_cons (pds_if (pdt_cmp (ke_eq (K := K) hr.units) (k_ix (K := K) (pd 0) (pd_int)) (pd_str)) (pdss_one (pds_never)) (pdss_nil)) (pdss_one (pds_ret (pd 0)))), fun ds kk h => law_l_real0 _ R ds kk h⟩
theorem raw_l_real0 {P : Program} {w : World} {K : PySem.W.Frag} {mg : Str → Option Value} {base : Heap} (c : Sys K mg) : FnR P w K mg base CX0 5 ((p_l_real).at_ K) (spD (pm K w) sp_l_real0) := let ⟨_, F, B⟩ := ok_l_real0 (P := P) (w := w) (base := base) c; raw0 F B
def sp_l_real : DSp := fun R ds kk => ∃ s : Stp, ds = [ew s] ∧ raw s ∧ ∀ t, Like s t → kk (encS t)
theorem len_l_real (R : Res) (ds : List D) (kk : D → Prop) (h : sp_l_real R ds kk) : ds.length = 1 := by obtain ⟨_, rfl, _⟩ := h; rfl
theorem like_pl {p q : Pl} (h : LikeP p q) : Like (.pl p) (.pl q) := ⟨h.1, rfl, by simp [Stp.flat, Stp.abs, h.2]⟩
theorem like_since {c : Int} {l k : List Pl} (hc : 0 ≤ c ∧ c ≤ 9) (hl : 1 ≤ l.length ∧ l.length ≤ 2) (h : All2 LikeP l k) : Like (.since c l) (.since c k) := by
  have hlen := h.len
  have ho : ∀ p ∈ k, p.Ok := by
    clear hl hlen
    induction h with
    | nil => intro p hp; cases hp
    | cons a b ih =>
      intro p hp
      rcases List.mem_cons.mp hp with rfl | hp
      · exact a.1
      · exact ih p hp
  have hs : ((k.map Stp.pl).map Stp.abs).sum = ((l.map Stp.pl).map Stp.abs).sum := by
    clear hl hlen ho
    induction h with
    | nil => rfl
    | cons a b ih => simp only [List.map_cons, List.sum_cons, Stp.abs, a.2] at ih ⊢; rw [ih]
  refine ⟨⟨⟨by omega, by omega⟩, fun z => ?_, by omega, ho⟩, by simp [Stp.flat, hlen], by simp only [Stp.flat, List.map_cons, List.sum_cons, hs]; rfl⟩
  rw [z] at hlen
  simp at hlen
  omega
/-- _law_real: slots 0 _law_step 1 _law_inner -/
abbrev d_l_real (m : Pm) (R : Res) : TdS := dSeq (dIfS (dTest (dOp (opIn false) (dOp opIx (dVar 0) (dC (.int 0))) (dTup (dCons (dC (.str "keep")) (dCons (dC (.str "strike")) (dCons (dC (.str "add")) (dNil))))))) (dRet (dOp opAdd (dOp opAdd (dSl (dVar 0) (dNoPart) (dPart (dC (.int 1)))) (dTup (dCons (dCall (sp_Rhythm_init R) (dCons (dOp opIx (dOp opIx (dVar 0) (dC (.int 1))) (dC (.int 0))) (dCons (dOp opIx (dOp opIx (dVar 0) (dC (.int 1))) (dC (.int 1))) (dNil)))) (dNil)))) (dSl (dVar 0) (dPart (dC (.int 2))) (dNoPart)))) (dNext)) (dSeq (dIfS (dTest (dOp (opEq false) (dOp opIx (dVar 0) (dC (.int 0))) (dC (.str "since")))) (dRet (dOp opAdd (dSl (dVar 0) (dNoPart) (dPart (dC (.int 2)))) (dTup (dCons (dCall fTuple (dCons (dLc (dIter (dOp opIx (dVar 0) (dC (.int 2)))) (dgName 1) (dYes) (dCall (sp_l_real0 R) (dCons (dVar 1) (dNil))) [1]) (dNil))) (dNil))))) (dNext)) (dRet (dVar 0)))
theorem law_l_real (m : Pm) (R : Res) (ds : List D) (kk : D → Prop) (h : sp_l_real R ds kk) : d_l_real m R { nx := fun _ => kk .non, rt := kk } (startD 2 ds) := by
  obtain ⟨s, rfl, hp, h⟩ := h
  have hg := huge
  have h3 : 3 ≤ sizeLine := by omega
  have h1' : 1 ≤ sizeLine := by omega
  have h2' : 2 ≤ sizeLine := by omega
  have h4 : 4 ≤ sizeLine := by omega
  cases s with
  | pl p =>
    cases p with
    | shift i =>
      simp [startD, ew, ewP, h3]
      exact h (.pl (.shift i)) (like_pl ⟨by obtain ⟨a, b⟩ := hp; exact ⟨by omega, by omega⟩, rfl⟩)
    | keep r =>
      obtain ⟨⟨a1, a2, a3⟩, a4, a5, a6⟩ := hp
      simp [startD, ew, ewP, ewR, h3]
      refine ⟨r.s, _, r.rs, rfl, .inr rfl, a1, by omega, a4, by omega, a6, fun q h1 h2 => ?_⟩
      simp [h3, h1', h2']
      exact h (.pl (.keep q)) (like_pl ⟨dvd12 h1 h2 a3, rfl⟩)
    | strike r =>
      obtain ⟨⟨a1, a2, a3⟩, a4, a5, a6⟩ := hp
      simp [startD, ew, ewP, ewR, h3]
      refine ⟨r.s, _, r.rs, rfl, .inr rfl, a1, by omega, a4, by omega, a6, fun q h1 h2 => ?_⟩
      simp [h3, h1', h2']
      exact h (.pl (.strike q)) (like_pl ⟨dvd12 h1 h2 a3, rfl⟩)
    | from_ i =>
      simp [startD, ew, ewP, h3]
      exact h (.pl (.from_ i)) (like_pl ⟨by obtain ⟨a, b⟩ := hp; exact ⟨by omega, by omega⟩, rfl⟩)
    | until_ i =>
      simp [startD, ew, ewP, h3]
      exact h (.pl (.until_ i)) (like_pl ⟨by obtain ⟨a, b⟩ := hp; exact ⟨by omega, by omega⟩, rfl⟩)
  | add r a b =>
    obtain ⟨⟨⟨a1, a2, a3⟩, a4, a5, a6⟩, b1, b2⟩ := hp
    simp [startD, ew, ewR, h3]
    refine ⟨r.s, _, r.rs, rfl, .inr rfl, a1, by omega, a4, by omega, a6, fun q h1 h2 => ?_⟩
    simp [h3, h1', h2', h4]
    refine h (.add q a b) ⟨⟨dvd12 h1 h2 a3, ⟨by omega, by omega⟩, fun x hx => ?_⟩, rfl, rfl⟩
    have := b2 x hx
    exact ⟨by omega, by omega⟩
  | since c l =>
    obtain ⟨hc, hl, hp⟩ := hp
    simp [startD, ew, h3]
    refine lcRel l ewP encP LikeP (fun p hpl Kt Kf hk => ?_) (by omega) fun ys hy => ?_
    · simp [wipeR]
      exact ⟨p, rfl, hp p hpl, hk⟩
    · simp [h3, h1', h2']
      exact h (.since c ys) (like_since hc hl hy)
theorem ok_l_real {P : Program} {w : World} {K : PySem.W.Frag} {mg : Str → Option Value} {base : Heap} (c : Sys K mg) : ∃ fd, FnOk P w K mg base CX0 6 ((p_l_real).at_ K) fd ["_law_step"] (spD (pm K w) sp_l_real) ∧ Binds K fd ["_law_step"] [] := by
  obtain ⟨fd, F⟩ := c.d_l_real
  have S : FnScope ["_law_step", "_law_inner"] ["_law_step"] (defScope (top 78)) := ⟨rfl, rfl, rfl, by decide +kernel, rfl, by decide +kernel, by decide +kernel⟩
  have hN : (["_law_step", "_law_inner"] : List Str).Nodup := S.nd
  refine ⟨fd, fn_ok F S len_l_real fun cdv A outer s H E hr R => ?_, F.bindsN fun _ _ _ _ _ _ us hl => match us, hl with | [_], _ => rfl⟩
  exact ⟨_, d_l_real (pm K w) R, pdss_cons (pds_if (pdt_cmp (ke_in (K := K)) (k_ix (K := K) (pd 0) (pd_int)) (pd_tup (pda_cons (pd_str) (pda_cons (pd_str) (pda_cons (pd_str) (pda_nil)))))) (pdss_one (pds_ret (pd_op (ke_add (K := K)) (pd_op (ke_add (K := K)) (k_slice (K := K) (pd 0) (pdo_none) (pdo_some (pd_int))) (pd_tup (pda_cons (pd_make (n := 0) c.mk_Rhythm (raw_Rhythm_init c) (hr.mono (by decide : 4 ≤ 5)) rfl c.g_Rhythm (pda_cons (k_ix (K := K) (k_ix (K := K) (pd 0) (pd_int)) (pd_int)) (pda_cons (k_ix (K := K) (k_ix (K := K) (pd 0) (pd_int)) (pd_int)) (pda_nil)))) (pda_nil)))) (k_slice (K := K) (pd 0) (pdo_some (pd_int)) (pdo_none))))) (pdss_nil)) (pdss_cons (pds_if (pdt_cmp (ke_eq (K := K) hr.units) (k_ix (K := K) (pd 0) (pd_int)) (pd_str)) (pdss_one (pds_ret (pd_op (ke_add (K := K)) (k_slice (K := K) (pd 0) (pdo_none) (pdo_some (pd_int))) (pd_tup (pda_cons (pd_callTy (kd_tuple (K := K)) rfl c.n_tuple (by rfl) (pda_cons (pd_lc [("_law_inner", 1)] rfl hN (ki_seq (K := K) (k_ix (K := K) (pd 0) (pd_int))) (blkOk_by (N := ["_law_step", "_law_inner"]) (sc := defScope (top 78)) (by decide +kernel)) (fun _ _ _ _ _ => pdg_name 1 hN) (fun _ _ _ _ _ => pdts_nil) (fun _ _ _ _ _ => pd_call (raw_l_real0 c) (hr.mono (by decide : 5 ≤ 5)) rfl c.g_l_real c.k_l_real (pda_cons (pd 1) (pda_nil)))) (pda_nil))) (pda_nil)))))) (pdss_nil)) (pdss_one (pds_ret (pd 0)))), fun ds kk h => law_l_real _ R ds kk h⟩
theorem raw_l_real {P : Program} {w : World} {K : PySem.W.Frag} {mg : Str → Option Value} {base : Heap} (c : Sys K mg) : FnR P w K mg base CX0 6 ((p_l_real).at_ K) (spD (pm K w) sp_l_real) := let ⟨_, F, B⟩ := ok_l_real (P := P) (w := w) (base := base) c; raw0 F B
end Dl
set_option Elab.async false
set_option linter.all false
set_option maxRecDepth 100000
set_option maxHeartbeats 2000000
/-! The law's scripts and dates. -/
namespace Dl
open PySem PySem.Spec PyProof.Rows L2
theorem like_scr {l t : List Stp} (h : All2 Like l t) : (∀ s ∈ t, s.Ok) ∧ (flatS t).length = (flatS l).length ∧ spanS t = spanS l := by
  induction h with
  | nil => exact ⟨fun s hs => (by cases hs), rfl, rfl⟩
  | cons a b ih =>
    obtain ⟨h1, h2, h3⟩ := ih
    refine ⟨fun s hs => ?_, ?_, ?_⟩
    · rcases List.mem_cons.mp hs with rfl | hs
      · exact a.ok
      · exact h1 s hs
    · simp only [flatS, List.flatMap_cons, List.length_append, a.len] at h2 ⊢
      rw [h2]
    · unfold spanS at h3 ⊢
      simp only [flatS, List.flatMap_cons, List.map_append, List.sum_append, a.sum] at h3 ⊢
      rw [h3]
theorem rw_abs {p : Pl} (h : rawP p) : 0 ≤ p.abs ∧ p.abs ≤ 5 := by
  cases p <;> simp [Pl.abs]
  have : _ ∧ _ := h
  omega
theorem rw_sum {s : Stp} (h : raw s) : (s.flat.map Stp.abs).sum ≤ 10 := by
  cases s with
  | pl p =>
    have := rw_abs (p := p) h
    simp [Stp.flat, Stp.abs]
    omega
  | add r a b => simp [Stp.flat, Stp.abs]
  | since c l =>
    obtain ⟨_, hl, hp⟩ := h
    match l, hl, hp with
    | [p], _, hp =>
      have := rw_abs (hp p (by simp))
      simp [Stp.flat, Stp.abs]
      omega
    | [p, q], _, hp =>
      have h1 := rw_abs (hp p (by simp))
      have h2 := rw_abs (hp q (by simp))
      simp [Stp.flat, Stp.abs]
      omega
    | [], hl, _ => simp at hl
    | _ :: _ :: _ :: _, hl, _ => simp at hl
theorem rw_span {l : List Stp} (h : ∀ s ∈ l, raw s) : spanS l ≤ 10 * l.length := by
  unfold spanS
  induction l with
  | nil => simp [flatS]
  | cons s l ih =>
    have h1 := rw_sum (h s List.mem_cons_self)
    have h2 := ih fun t ht => h t (List.mem_cons_of_mem _ ht)
    simp only [flatS, List.flatMap_cons, List.map_append, List.sum_append, List.length_cons] at h2 ⊢
    omega
def sp_l_made : DSp := fun R ds kk => ∃ l : List Stp, ds = [.lst (l.map ew)] ∧ (∀ s ∈ l, raw s) ∧ (flatS l).length ≤ 12 ∧ ∀ t, All2 Like l t → kk (encC t)
theorem len_l_made (R : Res) (ds : List D) (kk : D → Prop) (h : sp_l_made R ds kk) : ds.length = 1 := by obtain ⟨_, rfl, _⟩ := h; rfl
/-- _law_made: slots 0 _law_steps 1 _law_step -/
abbrev d_l_made (m : Pm) (R : Res) : TdS := dRet (dCall (sp_Script_init R) (dCons (dLc (dIter (dVar 0)) (dgName 1) (dYes) (dCall (sp_l_real R) (dCons (dVar 1) (dNil))) [1]) (dNil)))
theorem law_l_made (m : Pm) (R : Res) (ds : List D) (kk : D → Prop) (h : sp_l_made R ds kk) : d_l_made m R { nx := fun _ => kk .non, rt := kk } (startD 2 ds) := by
  obtain ⟨l, rfl, hl, hf, h⟩ := h
  have hg := huge
  have hln := len_le_flat l
  simp [startD]
  refine lcRel l ew encS Like (fun s hs Kt Kf hk => ?_) (by omega) fun t ht => ?_
  · simp [wipeR]
    exact ⟨s, rfl, hl s hs, hk⟩
  · obtain ⟨h1, h2, h3⟩ := like_scr ht
    exact ⟨_, t, rfl, .inl rfl, ⟨h1, by omega⟩, h t ht⟩
theorem ok_l_made {P : Program} {w : World} {K : PySem.W.Frag} {mg : Str → Option Value} {base : Heap} (c : Sys K mg) : ∃ fd, FnOk P w K mg base CX0 8 ((p_l_made).at_ K) fd ["_law_steps"] (spD (pm K w) sp_l_made) ∧ Binds K fd ["_law_steps"] [] := by
  obtain ⟨fd, F⟩ := c.d_l_made
  have S : FnScope ["_law_steps", "_law_step"] ["_law_steps"] (defScope (top 79)) := ⟨rfl, rfl, rfl, by decide +kernel, rfl, by decide +kernel, by decide +kernel⟩
  have hN : (["_law_steps", "_law_step"] : List Str).Nodup := S.nd
  refine ⟨fd, fn_ok F S len_l_made fun cdv A outer s H E hr R => ?_, F.bindsN fun _ _ _ _ _ _ us hl => match us, hl with | [_], _ => rfl⟩
  exact ⟨_, d_l_made (pm K w) R, pdss_one (pds_ret (pd_make (n := 1) c.mk_Script (raw_Script_init c) (hr.mono (by decide : 7 ≤ 7)) rfl c.g_Script (pda_cons (pd_lc [("_law_step", 1)] rfl hN (ki_seq (K := K) (pd 0)) (blkOk_by (N := ["_law_steps", "_law_step"]) (sc := defScope (top 79)) (by decide +kernel)) (fun _ _ _ _ _ => pdg_name 1 hN) (fun _ _ _ _ _ => pdts_nil) (fun _ _ _ _ _ => pd_call (raw_l_real c) (hr.mono (by decide : 6 ≤ 7)) rfl c.g_l_real c.k_l_real (pda_cons (pd 1) (pda_nil)))) (pda_nil)))), fun ds kk h => law_l_made _ R ds kk h⟩
theorem raw_l_made {P : Program} {w : World} {K : PySem.W.Frag} {mg : Str → Option Value} {base : Heap} (c : Sys K mg) : FnR P w K mg base CX0 8 ((p_l_made).at_ K) (spD (pm K w) sp_l_made) := let ⟨_, F, B⟩ := ok_l_made (P := P) (w := w) (base := base) c; raw0 F B
def sp_l_dates : DSp := fun R ds kk => ∃ p, IsDr R p ∧ ds = [.raw (.ref p), .int 4] ∧ ∀ L : List Int, L.Nodup → L.length ≤ 4 → (∀ x ∈ L, 0 ≤ x ∧ x ≤ 1000) → kk (.lst (L.map D.int))
theorem len_l_dates (R : Res) (ds : List D) (kk : D → Prop) (h : sp_l_dates R ds kk) : ds.length = 2 := by obtain ⟨_, _, rfl, _⟩ := h; rfl
/-- _law_dates: slots 0 _law_draw 1 _law_most 2 _law_wide 3 _law_found 4 _law_turn -/
abbrev d_l_dates (m : Pm) (R : Res) : TdS := dSeq (dAsg 2 (dCall (sp_l_pick R) (dCons (dVar 0) (dCons (dLst (dCons (dC (.int 12)) (dCons (dC (.int 40)) (dCons (dC (.int 40)) (dCons (dC (.int 120)) (dCons (dC (.int 1001)) (dNil))))))) (dNil))))) (dSeq (dAsg 3 (dLc (dRng1 (dCons (dCall (sp_l_take R) (dCons (dVar 0) (dCons (dOp opAdd (dVar 1) (dC (.int 1))) (dNil)))) (dNil))) (dgName 4) (dYes) (dCall (sp_l_take R) (dCons (dVar 0) (dCons (dVar 2) (dNil)))) [4])) (dRet (dCall (sp_l_shuffled R) (dCons (dVar 0) (dCons (dSortSet (dVar 3)) (dNil))))))
theorem law_l_dates (m : Pm) (R : Res) (ds : List D) (kk : D → Prop) (h : sp_l_dates R ds kk) : d_l_dates m R { nx := fun _ => kk .non, rt := kk } (startD 5 ds) := by
  obtain ⟨p, hR, rfl, h⟩ := h
  have hg := huge
  simp [startD]
  refine ⟨by omega, p, _, hR, rfl, ⟨by simp, by simp⟩, fun x hx => ?_⟩
  have hw : ∃ w : Int, x = .int w ∧ 1 ≤ w ∧ w ≤ 1001 := by
    simp at hx
    rcases hx with rfl | rfl | rfl | rfl <;> exact ⟨_, rfl, by omega, by omega⟩
  obtain ⟨w, rfl, w1, w2⟩ := hw
  refine ⟨p, _, hR, rfl, ⟨by omega, by omega⟩, fun n n0 n1 => ?_⟩
  simp
  refine ⟨by omega, ?_⟩
  show LcB _ _ _ _ _ ((List.range n.toNat).map fun (i : Nat) => D.int (0 + (i : Int))) _
  refine lcRel (List.range n.toNat) _ D.int (fun _ (y : Int) => 0 ≤ y ∧ y < w) (fun i hi Kt Kf hk => ?_) (by simp; omega) fun ys hy => ?_
  · simp [wipeR]
    exact ⟨p, w, hR, rfl, ⟨by omega, by omega⟩, fun y y0 y1 => hk y ⟨y0, y1⟩⟩
  · have hl := hy.len
    simp at hl
    have hmem : ∀ y ∈ ys, 0 ≤ y ∧ y < w := by
      clear hl
      generalize List.range n.toNat = l at hy
      induction hy with
      | nil => intro y hy; cases hy
      | cons a b ih =>
        intro y hy
        rcases List.mem_cons.mp hy with rfl | hy
        · exact a
        · exact ih y hy
    simp only [dSortSet, s_dVar, List.getElem?_cons_succ, List.getElem?_cons_zero, D.ints_map]
    refine ⟨by omega, fun ns hp hm => ?_⟩
    have hnd : ns.Nodup := hp.imp fun hlt e => by omega
    have hlen : ns.length ≤ ys.length := hnd.length_le_of_subset fun k hk => (hm k).mp hk
    refine ⟨p, ns, hR, rfl, by omega, fun L hL => h L (hL.nodup_iff.mpr hnd) (by rw [hL.length_eq]; omega) fun x hx => ?_⟩
    have := hmem x ((hm x).mp (hL.mem_iff.mp hx))
    omega
theorem ok_l_dates {P : Program} {w : World} {K : PySem.W.Frag} {mg : Str → Option Value} {base : Heap} (c : Sys K mg) : ∃ fd, FnOk P w K mg base CX0 4 ((p_l_dates).at_ K) fd ["_law_draw", "_law_most"] (spD (pm K w) sp_l_dates) ∧ Binds K fd ["_law_draw", "_law_most"] [] := by
  obtain ⟨fd, F⟩ := c.d_l_dates
  have S : FnScope ["_law_draw", "_law_most", "_law_wide", "_law_found", "_law_turn"] ["_law_draw", "_law_most"] (defScope (top 80)) := ⟨rfl, rfl, rfl, by decide +kernel, rfl, by decide +kernel, by decide +kernel⟩
  have hN : (["_law_draw", "_law_most", "_law_wide", "_law_found", "_law_turn"] : List Str).Nodup := S.nd
  refine ⟨fd, fn_ok F S len_l_dates fun cdv A outer s H E hr R => ?_, F.bindsN fun _ _ _ _ _ _ us hl => match us, hl with | [_, _], _ => rfl⟩
  exact ⟨_, d_l_dates (pm K w) R, pdss_cons (pds_set 2 hN (pd_call (raw_l_pick c) (hr.mono (by decide : 3 ≤ 3)) rfl c.g_l_pick c.k_l_pick (pda_cons (pd 0) (pda_cons (pd_lst (pda_cons (pd_int) (pda_cons (pd_int) (pda_cons (pd_int) (pda_cons (pd_int) (pda_cons (pd_int) (pda_nil))))))) (pda_nil))))) (pdss_cons (pds_setLc 3 [("_law_turn", 4)] rfl hN (pdi_rng1 rfl c.n_range (pda_cons (pd_call (raw_l_take c) (hr.mono (by decide : 2 ≤ 3)) rfl c.g_l_take c.k_l_take (pda_cons (pd 0) (pda_cons (pd_op (ke_add (K := K)) (pd 1) (pd_int)) (pda_nil)))) (pda_nil))) (blkOk_by (N := ["_law_draw", "_law_most", "_law_wide", "_law_found", "_law_turn"]) (sc := defScope (top 80)) (by decide +kernel)) (fun _ _ _ _ _ => pdg_name 4 hN) (fun _ _ _ _ _ => pdts_nil) (fun _ _ _ _ _ => pd_call (raw_l_take c) (hr.mono (by decide : 2 ≤ 3)) rfl c.g_l_take c.k_l_take (pda_cons (pd 0) (pda_cons (pd 2) (pda_nil))))) (pdss_one (pds_ret (pd_call (raw_l_shuffled c) (hr.mono (by decide : 3 ≤ 3)) rfl c.g_l_shuffled c.k_l_shuffled (pda_cons (pd 0) (pda_cons (k_sortSet (K := K) rfl rfl c.n_sorted rfl c.n_set (pd 3)) (pda_nil))))))), fun ds kk h => law_l_dates _ R ds kk h⟩
theorem raw_l_dates {P : Program} {w : World} {K : PySem.W.Frag} {mg : Str → Option Value} {base : Heap} (c : Sys K mg) : FnR P w K mg base CX0 4 ((p_l_dates).at_ K) (spD (pm K w) sp_l_dates) := let ⟨_, F, B⟩ := ok_l_dates (P := P) (w := w) (base := base) c; raw0 F B
end Dl
set_option Elab.async false
set_option linter.all false
set_option maxRecDepth 100000
set_option maxHeartbeats 2000000
/-! The law's tiny steps. -/
namespace Dl
open PySem PySem.Spec PyProof.Rows L2
/-- some of the numbers below n, whichever a test takes -/
theorem lcSome {ρ : Rho} {dg : TdG} {dt : TdT} {de : TdE} {vs : List Nat} {kk : List D → Prop} (n : Nat)
    (hs : ∀ (i : Nat) (Kt : D → Prop) (Kf : Prop), i < n → Kt (.int (i : Int)) → Kf → dg (.int (0 + (i : Int))) (wipeR ρ vs) fun ρ2 => dt ρ2 fun b => if b = true then de ρ2 Kt else Kf)
    (hl : n ≤ sizeLine) (h : ∀ rs : List Int, rs.Nodup → rs.length ≤ n → (∀ x ∈ rs, 0 ≤ x ∧ x < n) → kk (rs.map D.int)) : LcB dg dt de vs ρ ((List.range n).map fun (i : Nat) => D.int (0 + (i : Int))) kk := by
  refine ⟨fun i acc => ∃ rs : List Int, acc = rs.map D.int ∧ rs.Nodup ∧ rs.length ≤ i ∧ ∀ x ∈ rs, 0 ≤ x ∧ x < i, ⟨[], rfl, .nil, Nat.le_refl _, fun x hx => by cases hx⟩, fun i d acc hd ⟨rs, ea, h1, h2, h3⟩ => ?_, fun acc ⟨rs, ea, h1, h2, h3⟩ => ?_⟩
  · rw [List.getElem?_map, Option.map_eq_some_iff] at hd
    obtain ⟨x, hx, rfl⟩ := hd
    obtain ⟨hil, rfl⟩ := List.getElem?_eq_some_iff.mp hx
    simp at hil
    rw [List.getElem_range]
    refine hs i _ _ hil ⟨by rw [ea]; simp only [List.length_map]; omega, rs ++ [(i : Int)], by rw [ea]; simp, ?_, by simp; omega, fun y hy => ?_⟩ ⟨rs, ea, h1, by omega, fun y hy => by have := h3 y hy; omega⟩
    · rw [List.nodup_append]
      refine ⟨h1, by simp, fun a ha b hb e => ?_⟩
      simp at hb
      have := h3 a ha
      omega
    · rcases List.mem_append.mp hy with hy | hy
      · have := h3 y hy
        omega
      · simp at hy
        omega
  · subst ea
    simp at h2 h3
    exact h rs h1 h2 h3
def baseOk (b : Int) : Prop := b = 1 ∨ b = 2 ∨ b = 3 ∨ b = 4 ∨ b = 6
def sp_l_tiny_rhythm : DSp := fun R ds kk => ∃ p b, IsDr R p ∧ ds = [.raw (.ref p), .int b] ∧ baseOk b ∧ ∀ r : Rhy, rawR r → kk (ewR r)
theorem len_l_tiny_rhythm (R : Res) (ds : List D) (kk : D → Prop) (h : sp_l_tiny_rhythm R ds kk) : ds.length = 2 := by obtain ⟨_, _, _, rfl, _⟩ := h; rfl
/-- _law_tiny_rhythm: slots 0 _law_draw 1 _law_base 2 _law_size 3 _law_one 4 _law_rest -/
abbrev d_l_tiny_rhythm (m : Pm) (R : Res) : TdS := dSeq (dAsg 2 (dCall (sp_l_pick R) (dCons (dVar 0) (dCons (dLc (dIter (dLst (dCons (dC (.int 1)) (dCons (dC (.int 2)) (dCons (dC (.int 3)) (dCons (dC (.int 4)) (dCons (dC (.int 6)) (dNil)))))))) (dgName 3) (dTest (dOp (opEq false) (dOp (opI (fun _ j => 0 < j) fun i j => .int (i % j)) (dVar 1) (dVar 3)) (dC (.int 0)))) (dVar 3) [3]) (dNil))))) (dRet (dTup (dCons (dVar 2) (dCons (dCall fTuple (dCons (dLc (dRng1 (dCons (dVar 2) (dNil))) (dgName 4) (dTest (dOp (opEq false) (dCall (sp_l_take R) (dCons (dVar 0) (dCons (dC (.int 2)) (dNil)))) (dC (.int 0)))) (dVar 4) [4]) (dNil))) (dNil)))))
theorem law_l_tiny_rhythm (m : Pm) (R : Res) (ds : List D) (kk : D → Prop) (h : sp_l_tiny_rhythm R ds kk) : d_l_tiny_rhythm m R { nx := fun _ => kk .non, rt := kk } (startD 5 ds) := by
  obtain ⟨p, b, hR, rfl, hb, h⟩ := h
  have hg := huge
  simp [startD]
  refine ⟨by omega, ?_⟩
  show LcB _ _ _ _ _ (([1, 2, 3, 4, 6] : List Int).map D.int) _
  refine lcMap ([1, 2, 3, 4, 6] : List Int) D.int (fun x => decide (b % x = 0)) D.int (fun x hx Kt Kf ht hf => ?_) (by simp; omega) ?_
  · have hx0 : 0 < x := by
      simp at hx
      omega
    simp [wipeR]
    refine ⟨hx0, ?_⟩
    split
    · rename_i hz
      exact ht (by simpa using hz)
    · rename_i hz
      exact hf (by simpa using hz)
  · have h1 : 1 ≤ (([1, 2, 3, 4, 6] : List Int).filter fun x => decide (b % x = 0)).length := List.length_pos_of_mem (a := 1) (by simp)
    have h2 := List.length_filter_le (fun x => decide (b % x = 0)) ([1, 2, 3, 4, 6] : List Int)
    refine ⟨p, _, hR, rfl, ⟨by simpa using h1, by simp only [List.length_map]; simp only [List.length_cons, List.length_nil] at h2; omega⟩, fun y hy => ?_⟩
    obtain ⟨s, hs, rfl⟩ := List.mem_map.mp hy
    have hs := (List.mem_filter.mp hs).1
    have hsb : 1 ≤ s ∧ s ≤ 6 ∧ s ∣ 12 := by
      simp at hs
      rcases hs with rfl | rfl | rfl | rfl | rfl <;> decide
    simp
    refine ⟨by omega, ?_⟩
    refine lcSome s.toNat (fun i Kt Kf hi ht hf => ?_) (by omega) fun rs r1 r2 r3 => ?_
    · simp [wipeR]
      refine ⟨p, 2, hR, rfl, ⟨by omega, by omega⟩, fun z z0 z1 => ?_⟩
      simp only [s_eq_i, Bool.false_eq_true, if_false, decide_eq_true_eq]
      split
      · exact ht
      · exact hf
    · refine ⟨by omega, ?_⟩
      exact h ⟨s, rs⟩ ⟨hsb, r1, by show rs.length ≤ 6; omega, fun x hx => by have := r3 x hx; show 0 ≤ x ∧ x < s; omega⟩
theorem ok_l_tiny_rhythm {P : Program} {w : World} {K : PySem.W.Frag} {mg : Str → Option Value} {base : Heap} (c : Sys K mg) : ∃ fd, FnOk P w K mg base CX0 4 ((p_l_tiny_rhythm).at_ K) fd ["_law_draw", "_law_base"] (spD (pm K w) sp_l_tiny_rhythm) ∧ Binds K fd ["_law_draw", "_law_base"] [] := by
  obtain ⟨fd, F⟩ := c.d_l_tiny_rhythm
  have S : FnScope ["_law_draw", "_law_base", "_law_size", "_law_one", "_law_rest"] ["_law_draw", "_law_base"] (defScope (top 81)) := ⟨rfl, rfl, rfl, by decide +kernel, rfl, by decide +kernel, by decide +kernel⟩
  have hN : (["_law_draw", "_law_base", "_law_size", "_law_one", "_law_rest"] : List Str).Nodup := S.nd
  refine ⟨fd, fn_ok F S len_l_tiny_rhythm fun cdv A outer s H E hr R => ?_, F.bindsN fun _ _ _ _ _ _ us hl => match us, hl with | [_, _], _ => rfl⟩
  exact ⟨_, d_l_tiny_rhythm (pm K w) R, pdss_cons (pds_set 2 hN (pd_call (raw_l_pick c) (hr.mono (by decide : 3 ≤ 3)) rfl c.g_l_pick c.k_l_pick (pda_cons (pd 0) (pda_cons (pd_lc [("_law_one", 3)] rfl hN (ki_seq (K := K) (pd_lst (pda_cons (pd_int) (pda_cons (pd_int) (pda_cons (pd_int) (pda_cons (pd_int) (pda_cons (pd_int) (pda_nil)))))))) (blkOk_by (N := ["_law_draw", "_law_base", "_law_size", "_law_one", "_law_rest"]) (sc := defScope (top 81)) (by decide +kernel)) (fun _ _ _ _ _ => pdg_name 3 hN) (fun _ _ _ _ _ => pdts_one (pdt_cmp (ke_eq (K := K) hr.units) (pd_op od_mod (pd 1) (pd 3)) (pd_int))) (fun _ _ _ _ _ => pd 3)) (pda_nil))))) (pdss_one (pds_ret (pd_tup (pda_cons (pd 2) (pda_cons (pd_callTy (kd_tuple (K := K)) rfl c.n_tuple (by rfl) (pda_cons (pd_lc [("_law_rest", 4)] rfl hN (pdi_rng1 rfl c.n_range (pda_cons (pd 2) (pda_nil))) (blkOk_by (N := ["_law_draw", "_law_base", "_law_size", "_law_one", "_law_rest"]) (sc := defScope (top 81)) (by decide +kernel)) (fun _ _ _ _ _ => pdg_name 4 hN) (fun _ _ _ _ _ => pdts_one (pdt_cmp (ke_eq (K := K) hr.units) (pd_call (raw_l_take c) (hr.mono (by decide : 2 ≤ 3)) rfl c.g_l_take c.k_l_take (pda_cons (pd 0) (pda_cons (pd_int) (pda_nil)))) (pd_int))) (fun _ _ _ _ _ => pd 4)) (pda_nil))) (pda_nil)))))), fun ds kk h => law_l_tiny_rhythm _ R ds kk h⟩
theorem raw_l_tiny_rhythm {P : Program} {w : World} {K : PySem.W.Frag} {mg : Str → Option Value} {base : Heap} (c : Sys K mg) : FnR P w K mg base CX0 4 ((p_l_tiny_rhythm).at_ K) (spD (pm K w) sp_l_tiny_rhythm) := let ⟨_, F, B⟩ := ok_l_tiny_rhythm (P := P) (w := w) (base := base) c; raw0 F B
end Dl
set_option Elab.async false
set_option linter.all false
set_option maxRecDepth 100000
set_option maxHeartbeats 2000000
namespace Dl
open PySem PySem.Spec PyProof.Rows L2
def sp_l_tiny_step0 : DSp := fun R ds kk => ∃ p b, ∃ ws : List Str, IsDr R p ∧ ds = [.raw (.ref p), .int b, .lst (ws.map D.str)] ∧ baseOk b ∧ (1 ≤ ws.length ∧ ws.length ≤ 20) ∧ (∀ w ∈ ws, w = "shift" ∨ w = "strike" ∨ w = "from" ∨ w = "until") ∧ ∀ q, rawP q → kk (ewP q)
theorem len_l_tiny_step0 (R : Res) (ds : List D) (kk : D → Prop) (h : sp_l_tiny_step0 R ds kk) : ds.length = 3 := by obtain ⟨_, _, _, _, rfl, _⟩ := h; rfl
/-- _law_tiny_step: slots 0 _law_draw 1 _law_base 2 _law_words 3 _law_word 4 _law_first 5 _law_inner 6 _law_some 7 _law_k -/
abbrev d_l_tiny_step0 (m : Pm) (R : Res) : TdS := dSeq (dAsg 3 (dCall (sp_l_pick R) (dCons (dVar 0) (dCons (dVar 2) (dNil))))) (dSeq (dIfS (dTest (dOp (opEq false) (dVar 3) (dC (.str "shift")))) (dRet (dTup (dCons (dVar 3) (dCons (dCall (sp_l_pick R) (dCons (dVar 0) (dCons (dLst (dCons (dC (.int 1)) (dCons (dNeg (dC (.int 1))) (dCons (dC (.int 2)) (dCons (dNeg (dC (.int 2))) (dCons (dC (.int 3)) (dCons (dNeg (dC (.int 4))) (dNil)))))))) (dNil)))) (dNil))))) (dNext)) (dSeq (dIfS (dTest (dOp (opIn false) (dVar 3) (dTup (dCons (dC (.str "keep")) (dCons (dC (.str "strike")) (dNil)))))) (dRet (dTup (dCons (dVar 3) (dCons (dCall (sp_l_tiny_rhythm R) (dCons (dVar 0) (dCons (dVar 1) (dNil)))) (dNil))))) (dNext)) (dSeq (dIfS (dTest (dOp (opEq false) (dVar 3) (dC (.str "add")))) (dSeq (dAsg 4 (dOp (opI0 fun i j => .int (i - j)) (dCall (sp_l_take R) (dCons (dVar 0) (dCons (dC (.int 12)) (dNil)))) (dC (.int 2)))) (dRet (dTup (dCons (dVar 3) (dCons (dCall (sp_l_tiny_rhythm R) (dCons (dVar 0) (dCons (dVar 1) (dNil)))) (dCons (dVar 4) (dCons (dCall (sp_l_pick R) (dCons (dVar 0) (dCons (dLst (dCons (dC .non) (dCons (dVar 4) (dCons (dOp opAdd (dVar 4) (dCall (sp_l_take R) (dCons (dVar 0) (dCons (dC (.int 7)) (dNil))))) (dNil))))) (dNil)))) (dNil)))))))) (dNext)) (dSeq (dIfS (dTest (dOp (opEq false) (dVar 3) (dC (.str "since")))) (dNever) (dNext)) (dRet (dTup (dCons (dVar 3) (dCons (dOp (opI0 fun i j => .int (i - j)) (dCall (sp_l_take R) (dCons (dVar 0) (dCons (dC (.int 12)) (dNil)))) (dC (.int 1))) (dNil)))))))))
theorem law_l_tiny_step0 (m : Pm) (R : Res) (ds : List D) (kk : D → Prop) (h : sp_l_tiny_step0 R ds kk) : d_l_tiny_step0 m R { nx := fun _ => kk .non, rt := kk } (startD 8 ds) := by
  obtain ⟨p, b, ws, hR, rfl, hb, hl, hw, h⟩ := h
  have hg := huge
  simp [startD]
  refine ⟨p, _, hR, rfl, ⟨by simpa using hl.1, by simp; omega⟩, fun y hy => ?_⟩
  obtain ⟨w, hwm, rfl⟩ := List.mem_map.mp hy
  rcases hw w hwm with rfl | rfl | rfl | rfl
  · simp
    refine ⟨by omega, p, _, hR, rfl, ⟨by simp, by simp⟩, fun x hx => ?_⟩
    have hx2 : ∃ i : Int, x = .int i ∧ -5 ≤ i ∧ i ≤ 5 := by
      simp at hx
      rcases hx with rfl | rfl | rfl | rfl | rfl | rfl <;> exact ⟨_, rfl, by omega, by omega⟩
    obtain ⟨i, rfl, hi⟩ := hx2
    simp
    exact ⟨by omega, h (.shift i) hi⟩
  · simp
    exact ⟨by omega, p, b, hR, rfl, hb, fun r hr => ⟨by omega, h (.strike r) hr⟩⟩
  · simp
    exact ⟨by omega, p, 12, hR, rfl, ⟨by omega, by omega⟩, fun z z0 z1 => by simp; exact ⟨by omega, h (.from_ (z - 1)) ⟨by omega, by omega⟩⟩⟩
  · simp
    exact ⟨by omega, p, 12, hR, rfl, ⟨by omega, by omega⟩, fun z z0 z1 => by simp; exact ⟨by omega, h (.until_ (z - 1)) ⟨by omega, by omega⟩⟩⟩
theorem ok_l_tiny_step0 {P : Program} {w : World} {K : PySem.W.Frag} {mg : Str → Option Value} {base : Heap} (c : Sys K mg) : ∃ fd, FnOk P w K mg base CX0 5 ((p_l_tiny_step).at_ K) fd ["_law_draw", "_law_base", "_law_words"] (spD (pm K w) sp_l_tiny_step0) ∧ Binds K fd ["_law_draw", "_law_base", "_law_words"] [] := by
  obtain ⟨fd, F⟩ := c.d_l_tiny_step
  have S : FnScope ["_law_draw", "_law_base", "_law_words", "_law_word", "_law_first", "_law_inner", "_law_some", "_law_k"] ["_law_draw", "_law_base", "_law_words"] (defScope (top 82)) := ⟨rfl, rfl, rfl, by decide +kernel, rfl, by decide +kernel, by decide +kernel⟩
  have hN : (["_law_draw", "_law_base", "_law_words", "_law_word", "_law_first", "_law_inner", "_law_some", "_law_k"] : List Str).Nodup := S.nd
  refine ⟨fd, fn_ok F S len_l_tiny_step0 fun cdv A outer s H E hr R => ?_, F.bindsN fun _ _ _ _ _ _ us hl => match us, hl with | [_, _, _], _ => rfl⟩
  exact ⟨_, d_l_tiny_step0 (pm K w) R, pdss_cons (pds_set 3 hN (pd_call (raw_l_pick c) (hr.mono (by decide : 3 ≤ 4)) rfl c.g_l_pick c.k_l_pick (pda_cons (pd 0) (pda_cons (pd 2) (pda_nil))))) (pdss_cons (pds_if (pdt_cmp (ke_eq (K := K) hr.units) (pd 3) (pd_str)) (pdss_one (pds_ret (pd_tup (pda_cons (pd 3) (pda_cons (pd_call (raw_l_pick c) (hr.mono (by decide : 3 ≤ 4)) rfl c.g_l_pick c.k_l_pick (pda_cons (pd 0) (pda_cons (pd_lst (pda_cons (pd_int) (pda_cons (pd_neg (pd_int)) (pda_cons (pd_int) (pda_cons (pd_neg (pd_int)) (pda_cons (pd_int) (pda_cons (pd_neg (pd_int)) (pda_nil)))))))) (pda_nil)))) (pda_nil)))))) (pdss_nil)) (pdss_cons (pds_if (pdt_cmp (ke_in (K := K)) (pd 3) (pd_tup (pda_cons (pd_str) (pda_cons (pd_str) (pda_nil))))) (pdss_one (pds_ret (pd_tup (pda_cons (pd 3) (pda_cons (pd_call (raw_l_tiny_rhythm c) (hr.mono (by decide : 4 ≤ 4)) rfl c.g_l_tiny_rhythm c.k_l_tiny_rhythm (pda_cons (pd 0) (pda_cons (pd 1) (pda_nil)))) (pda_nil)))))) (pdss_nil)) (pdss_cons (pds_if (pdt_cmp (ke_eq (K := K) hr.units) (pd 3) (pd_str)) (pdss_cons (pds_set 4 hN (pd_op od_sub (pd_call (raw_l_take c) (hr.mono (by decide : 2 ≤ 4)) rfl c.g_l_take c.k_l_take (pda_cons (pd 0) (pda_cons (pd_int) (pda_nil)))) (pd_int))) (pdss_one (pds_ret (pd_tup (pda_cons (pd 3) (pda_cons (pd_call (raw_l_tiny_rhythm c) (hr.mono (by decide : 4 ≤ 4)) rfl c.g_l_tiny_rhythm c.k_l_tiny_rhythm (pda_cons (pd 0) (pda_cons (pd 1) (pda_nil)))) (pda_cons (pd 4) (pda_cons (pd_call (raw_l_pick c) (hr.mono (by decide : 3 ≤ 4)) rfl c.g_l_pick c.k_l_pick (pda_cons (pd 0) (pda_cons (pd_lst (pda_cons (pd_non) (pda_cons (pd 4) (pda_cons (pd_op (ke_add (K := K)) (pd 4) (pd_call (raw_l_take c) (hr.mono (by decide : 2 ≤ 4)) rfl c.g_l_take c.k_l_take (pda_cons (pd 0) (pda_cons (pd_int) (pda_nil))))) (pda_nil))))) (pda_nil)))) (pda_nil))))))))) (pdss_nil)) (pdss_cons (pds_if (pdt_cmp (ke_eq (K := K) hr.units) (pd 3) (pd_str)) (pdss_never) (pdss_nil)) (pdss_one (pds_ret (pd_tup (pda_cons (pd 3) (pda_cons (pd_op od_sub (pd_call (raw_l_take c) (hr.mono (by decide : 2 ≤ 4)) rfl c.g_l_take c.k_l_take (pda_cons (pd 0) (pda_cons (pd_int) (pda_nil)))) (pd_int)) (pda_nil)))))))))), fun ds kk h => law_l_tiny_step0 _ R ds kk h⟩
theorem raw_l_tiny_step0 {P : Program} {w : World} {K : PySem.W.Frag} {mg : Str → Option Value} {base : Heap} (c : Sys K mg) : FnR P w K mg base CX0 5 ((p_l_tiny_step).at_ K) (spD (pm K w) sp_l_tiny_step0) := let ⟨_, F, B⟩ := ok_l_tiny_step0 (P := P) (w := w) (base := base) c; raw0 F B
end Dl
set_option Elab.async false
set_option linter.all false
set_option maxRecDepth 100000
set_option maxHeartbeats 2000000
namespace Dl
open PySem PySem.Spec PyProof.Rows L2
def tin : Stp → Prop
  | .pl (.shift i) => -4 ≤ i
  | _ => True
def sp_l_tiny_step : DSp := fun R ds kk => ∃ p b, ∃ ws : List Str, IsDr R p ∧ ds = [.raw (.ref p), .int b, .lst (ws.map D.str)] ∧ baseOk b ∧ (1 ≤ ws.length ∧ ws.length ≤ 20) ∧ (∀ w ∈ ws, w = "shift" ∨ w = "keep" ∨ w = "strike" ∨ w = "from" ∨ w = "until" ∨ w = "add" ∨ w = "since") ∧ ∀ s, raw s → tin s → (¬ ("since" : Str) ∈ ws → s.flat.length = 1) → kk (ew s)
theorem len_l_tiny_step (R : Res) (ds : List D) (kk : D → Prop) (h : sp_l_tiny_step R ds kk) : ds.length = 3 := by obtain ⟨_, _, _, _, rfl, _⟩ := h; rfl
/-- _law_tiny_step: slots 0 _law_draw 1 _law_base 2 _law_words 3 _law_word 4 _law_first 5 _law_inner 6 _law_some 7 _law_k -/
abbrev d_l_tiny_step (m : Pm) (R : Res) : TdS := dSeq (dAsg 3 (dCall (sp_l_pick R) (dCons (dVar 0) (dCons (dVar 2) (dNil))))) (dSeq (dIfS (dTest (dOp (opEq false) (dVar 3) (dC (.str "shift")))) (dRet (dTup (dCons (dVar 3) (dCons (dCall (sp_l_pick R) (dCons (dVar 0) (dCons (dLst (dCons (dC (.int 1)) (dCons (dNeg (dC (.int 1))) (dCons (dC (.int 2)) (dCons (dNeg (dC (.int 2))) (dCons (dC (.int 3)) (dCons (dNeg (dC (.int 4))) (dNil)))))))) (dNil)))) (dNil))))) (dNext)) (dSeq (dIfS (dTest (dOp (opIn false) (dVar 3) (dTup (dCons (dC (.str "keep")) (dCons (dC (.str "strike")) (dNil)))))) (dRet (dTup (dCons (dVar 3) (dCons (dCall (sp_l_tiny_rhythm R) (dCons (dVar 0) (dCons (dVar 1) (dNil)))) (dNil))))) (dNext)) (dSeq (dIfS (dTest (dOp (opEq false) (dVar 3) (dC (.str "add")))) (dSeq (dAsg 4 (dOp (opI0 fun i j => .int (i - j)) (dCall (sp_l_take R) (dCons (dVar 0) (dCons (dC (.int 12)) (dNil)))) (dC (.int 2)))) (dRet (dTup (dCons (dVar 3) (dCons (dCall (sp_l_tiny_rhythm R) (dCons (dVar 0) (dCons (dVar 1) (dNil)))) (dCons (dVar 4) (dCons (dCall (sp_l_pick R) (dCons (dVar 0) (dCons (dLst (dCons (dC .non) (dCons (dVar 4) (dCons (dOp opAdd (dVar 4) (dCall (sp_l_take R) (dCons (dVar 0) (dCons (dC (.int 7)) (dNil))))) (dNil))))) (dNil)))) (dNil)))))))) (dNext)) (dSeq (dIfS (dTest (dOp (opEq false) (dVar 3) (dC (.str "since")))) (dSeq (dAsg 5 (dLst (dCons (dC (.str "shift")) (dCons (dC (.str "shift")) (dCons (dC (.str "strike")) (dCons (dC (.str "from")) (dCons (dC (.str "until")) (dNil)))))))) (dSeq (dAsg 6 (dLc (dRng1 (dCons (dOp opAdd (dC (.int 1)) (dCall (sp_l_take R) (dCons (dVar 0) (dCons (dC (.int 2)) (dNil))))) (dNil))) (dgName 7) (dYes) (dCall (sp_l_tiny_step0 R) (dCons (dVar 0) (dCons (dVar 1) (dCons (dVar 5) (dNil))))) [7])) (dRet (dTup (dCons (dVar 3) (dCons (dCall (sp_l_take R) (dCons (dVar 0) (dCons (dC (.int 10)) (dNil)))) (dCons (dCall fTuple (dCons (dVar 6) (dNil))) (dNil)))))))) (dNext)) (dRet (dTup (dCons (dVar 3) (dCons (dOp (opI0 fun i j => .int (i - j)) (dCall (sp_l_take R) (dCons (dVar 0) (dCons (dC (.int 12)) (dNil)))) (dC (.int 1))) (dNil)))))))))
theorem law_l_tiny_step (m : Pm) (R : Res) (ds : List D) (kk : D → Prop) (h : sp_l_tiny_step R ds kk) : d_l_tiny_step m R { nx := fun _ => kk .non, rt := kk } (startD 8 ds) := by
  obtain ⟨p, b, ws, hR, rfl, hb, hl, hw, h⟩ := h
  have hg := huge
  simp [startD]
  refine ⟨p, _, hR, rfl, ⟨by simpa using hl.1, by simp; omega⟩, fun y hy => ?_⟩
  obtain ⟨w, hwm, rfl⟩ := List.mem_map.mp hy
  rcases hw w hwm with rfl | rfl | rfl | rfl | rfl | rfl | rfl
  · simp
    refine ⟨by omega, p, _, hR, rfl, ⟨by simp, by simp⟩, fun x hx => ?_⟩
    have hx2 : ∃ i : Int, x = .int i ∧ (-5 ≤ i ∧ i ≤ 5) ∧ -4 ≤ i := by
      simp at hx
      rcases hx with rfl | rfl | rfl | rfl | rfl | rfl <;> exact ⟨_, rfl, ⟨by omega, by omega⟩, by omega⟩
    obtain ⟨i, rfl, hi, ht⟩ := hx2
    simp
    exact ⟨by omega, h (.pl (.shift i)) hi ht fun _ => rfl⟩
  · simp
    exact ⟨by omega, p, b, hR, rfl, hb, fun r hr => ⟨by omega, h (.pl (.keep r)) hr trivial fun _ => rfl⟩⟩
  · simp
    exact ⟨by omega, p, b, hR, rfl, hb, fun r hr => ⟨by omega, h (.pl (.strike r)) hr trivial fun _ => rfl⟩⟩
  · simp
    exact ⟨by omega, p, 12, hR, rfl, ⟨by omega, by omega⟩, fun z z0 z1 => by simp; exact ⟨by omega, h (.pl (.from_ (z - 1))) ⟨by omega, by omega⟩ trivial fun _ => rfl⟩⟩
  · simp
    exact ⟨by omega, p, 12, hR, rfl, ⟨by omega, by omega⟩, fun z z0 z1 => by simp; exact ⟨by omega, h (.pl (.until_ (z - 1))) ⟨by omega, by omega⟩ trivial fun _ => rfl⟩⟩
  · simp
    refine ⟨by omega, p, 12, hR, rfl, ⟨by omega, by omega⟩, fun z z0 z1 => ?_⟩
    simp
    refine ⟨p, b, hR, rfl, hb, fun r hr => ?_⟩
    refine ⟨p, 7, hR, rfl, ⟨by omega, by omega⟩, fun y y0 y1 => ?_⟩
    simp
    refine ⟨by omega, p, _, hR, rfl, ⟨by simp, by simp⟩, fun x hx => ⟨by omega, ?_⟩⟩
    simp at hx
    rcases hx with rfl | rfl | rfl
    · exact h (.add r (z - 2) none) ⟨hr, ⟨by omega, by omega⟩, fun x hx => by cases hx⟩ trivial fun _ => rfl
    · exact h (.add r (z - 2) (some (z - 2))) ⟨hr, ⟨by omega, by omega⟩, fun x hx => by cases hx; exact ⟨by omega, by omega⟩⟩ trivial fun _ => rfl
    · exact h (.add r (z - 2) (some (z - 2 + y))) ⟨hr, ⟨by omega, by omega⟩, fun x hx => by cases hx; exact ⟨by omega, by omega⟩⟩ trivial fun _ => rfl
  · simp
    refine ⟨by omega, by omega, p, 2, hR, rfl, ⟨by omega, by omega⟩, fun y y0 y1 => ?_⟩
    simp
    refine ⟨by omega, ?_⟩
    show LcB _ _ _ _ _ ((List.range (1 + y).toNat).map fun (i : Nat) => D.int (0 + (i : Int))) _
    refine lcRel (List.range (1 + y).toNat) _ ewP (fun _ q => rawP q) (fun i hi Kt Kf hk => ?_) (by simp; omega) fun qs hq => ?_
    · simp [wipeR]
      exact ⟨p, b, ["shift", "shift", "strike", "from", "until"], hR, rfl, hb, ⟨by decide, by decide⟩, fun w hw => by simp at hw; rcases hw with rfl | rfl | rfl | rfl <;> simp, fun q hq => hk q hq⟩
    · have hql := hq.len
      simp at hql
      have hall : ∀ q ∈ qs, rawP q := by
        clear hql
        generalize List.range (1 + y).toNat = l at hq
        induction hq with
        | nil => intro y hy; cases hy
        | cons a b ih =>
          intro y hy
          rcases List.mem_cons.mp hy with rfl | hy
          · exact a
          · exact ih y hy
      refine ⟨p, 10, hR, rfl, ⟨by omega, by omega⟩, fun z z0 z1 => ⟨by omega, ?_⟩⟩
      exact h (.since z qs) ⟨⟨by omega, by omega⟩, ⟨by omega, by omega⟩, hall⟩ trivial fun hno => absurd hwm hno
theorem ok_l_tiny_step {P : Program} {w : World} {K : PySem.W.Frag} {mg : Str → Option Value} {base : Heap} (c : Sys K mg) : ∃ fd, FnOk P w K mg base CX0 6 ((p_l_tiny_step).at_ K) fd ["_law_draw", "_law_base", "_law_words"] (spD (pm K w) sp_l_tiny_step) ∧ Binds K fd ["_law_draw", "_law_base", "_law_words"] [] := by
  obtain ⟨fd, F⟩ := c.d_l_tiny_step
  have S : FnScope ["_law_draw", "_law_base", "_law_words", "_law_word", "_law_first", "_law_inner", "_law_some", "_law_k"] ["_law_draw", "_law_base", "_law_words"] (defScope (top 82)) := ⟨rfl, rfl, rfl, by decide +kernel, rfl, by decide +kernel, by decide +kernel⟩
  have hN : (["_law_draw", "_law_base", "_law_words", "_law_word", "_law_first", "_law_inner", "_law_some", "_law_k"] : List Str).Nodup := S.nd
  refine ⟨fd, fn_ok F S len_l_tiny_step fun cdv A outer s H E hr R => ?_, F.bindsN fun _ _ _ _ _ _ us hl => match us, hl with | [_, _, _], _ => rfl⟩
  exact ⟨_, d_l_tiny_step (pm K w) R, pdss_cons (pds_set 3 hN (pd_call (raw_l_pick c) (hr.mono (by decide : 3 ≤ 5)) rfl c.g_l_pick c.k_l_pick (pda_cons (pd 0) (pda_cons (pd 2) (pda_nil))))) (pdss_cons (pds_if (pdt_cmp (ke_eq (K := K) hr.units) (pd 3) (pd_str)) (pdss_one (pds_ret (pd_tup (pda_cons (pd 3) (pda_cons (pd_call (raw_l_pick c) (hr.mono (by decide : 3 ≤ 5)) rfl c.g_l_pick c.k_l_pick (pda_cons (pd 0) (pda_cons (pd_lst (pda_cons (pd_int) (pda_cons (pd_neg (pd_int)) (pda_cons (pd_int) (pda_cons (pd_neg (pd_int)) (pda_cons (pd_int) (pda_cons (pd_neg (pd_int)) (pda_nil)))))))) (pda_nil)))) (pda_nil)))))) (pdss_nil)) (pdss_cons (pds_if (pdt_cmp (ke_in (K := K)) (pd 3) (pd_tup (pda_cons (pd_str) (pda_cons (pd_str) (pda_nil))))) (pdss_one (pds_ret (pd_tup (pda_cons (pd 3) (pda_cons (pd_call (raw_l_tiny_rhythm c) (hr.mono (by decide : 4 ≤ 5)) rfl c.g_l_tiny_rhythm c.k_l_tiny_rhythm (pda_cons (pd 0) (pda_cons (pd 1) (pda_nil)))) (pda_nil)))))) (pdss_nil)) (pdss_cons (pds_if (pdt_cmp (ke_eq (K := K) hr.units) (pd 3) (pd_str)) (pdss_cons (pds_set 4 hN (pd_op od_sub (pd_call (raw_l_take c) (hr.mono (by decide : 2 ≤ 5)) rfl c.g_l_take c.k_l_take (pda_cons (pd 0) (pda_cons (pd_int) (pda_nil)))) (pd_int))) (pdss_one (pds_ret (pd_tup (pda_cons (pd 3) (pda_cons (pd_call (raw_l_tiny_rhythm c) (hr.mono (by decide : 4 ≤ 5)) rfl c.g_l_tiny_rhythm c.k_l_tiny_rhythm (pda_cons (pd 0) (pda_cons (pd 1) (pda_nil)))) (pda_cons (pd 4) (pda_cons (pd_call (raw_l_pick c) (hr.mono (by decide : 3 ≤ 5)) rfl c.g_l_pick c.k_l_pick (pda_cons (pd 0) (pda_cons (pd_lst (pda_cons (pd_non) (pda_cons (pd 4) (pda_cons (pd_op (ke_add (K := K)) (pd 4) (pd_call (raw_l_take c) (hr.mono (by decide : 2 ≤ 5)) rfl c.g_l_take c.k_l_take (pda_cons (pd 0) (pda_cons (pd_int) (pda_nil))))) (pda_nil))))) (pda_nil)))) (pda_nil))))))))) (pdss_nil)) (pdss_cons (pds_if (pdt_cmp (ke_eq (K := K) hr.units) (pd 3) (pd_str)) (pdss_cons (pds_set 5 hN (pd_lst (pda_cons (pd_str) (pda_cons (pd_str) (pda_cons (pd_str) (pda_cons (pd_str) (pda_cons (pd_str) (pda_nil)))))))) (pdss_cons (pds_setLc 6 [("_law_k", 7)] rfl hN (pdi_rng1 rfl c.n_range (pda_cons (pd_op (ke_add (K := K)) (pd_int) (pd_call (raw_l_take c) (hr.mono (by decide : 2 ≤ 5)) rfl c.g_l_take c.k_l_take (pda_cons (pd 0) (pda_cons (pd_int) (pda_nil))))) (pda_nil))) (blkOk_by (N := ["_law_draw", "_law_base", "_law_words", "_law_word", "_law_first", "_law_inner", "_law_some", "_law_k"]) (sc := defScope (top 82)) (by decide +kernel)) (fun _ _ _ _ _ => pdg_name 7 hN) (fun _ _ _ _ _ => pdts_nil) (fun _ _ _ _ _ => pd_call (raw_l_tiny_step0 c) (hr.mono (by decide : 5 ≤ 5)) rfl c.g_l_tiny_step c.k_l_tiny_step (pda_cons (pd 0) (pda_cons (pd 1) (pda_cons (pd 5) (pda_nil)))))) (pdss_one (pds_ret (pd_tup (pda_cons (pd 3) (pda_cons (pd_call (raw_l_take c) (hr.mono (by decide : 2 ≤ 5)) rfl c.g_l_take c.k_l_take (pda_cons (pd 0) (pda_cons (pd_int) (pda_nil)))) (pda_cons (pd_callTy (kd_tuple (K := K)) rfl c.n_tuple (by rfl) (pda_cons (pd 6) (pda_nil))) (pda_nil))))))))) (pdss_nil)) (pdss_one (pds_ret (pd_tup (pda_cons (pd 3) (pda_cons (pd_op od_sub (pd_call (raw_l_take c) (hr.mono (by decide : 2 ≤ 5)) rfl c.g_l_take c.k_l_take (pda_cons (pd 0) (pda_cons (pd_int) (pda_nil)))) (pd_int)) (pda_nil)))))))))), fun ds kk h => law_l_tiny_step _ R ds kk h⟩
theorem raw_l_tiny_step {P : Program} {w : World} {K : PySem.W.Frag} {mg : Str → Option Value} {base : Heap} (c : Sys K mg) : FnR P w K mg base CX0 6 ((p_l_tiny_step).at_ K) (spD (pm K w) sp_l_tiny_step) := let ⟨_, F, B⟩ := ok_l_tiny_step (P := P) (w := w) (base := base) c; raw0 F B
end Dl
set_option Elab.async false
set_option linter.all false
set_option maxRecDepth 100000
set_option maxHeartbeats 2000000
namespace Dl
open PySem PySem.Spec PyProof.Rows L2
theorem ew_word (s : Stp) : (∃ c l, s = .since c l) ∨ ∃ w r, ew s = .tup (.str w :: r) ∧ decide (w = ("since" : Str)) = false ∧ s.flat.length = 1 := by
  cases s with
  | pl p => cases p <;> exact .inr ⟨_, _, rfl, by decide +kernel, rfl⟩
  | add r a b => exact .inr ⟨_, _, rfl, by decide +kernel, rfl⟩
  | since c l => exact .inl ⟨c, l, rfl⟩
def sp_l_cut : DSp := fun R ds kk => ∃ l : List Stp, ds = [.lst (l.map ew)] ∧ l.length ≤ 1000 ∧ (∀ s ∈ l, raw s) ∧ ∀ L : List Stp, L.Sublist l → (flatS L).length ≤ 11 → kk (.lst (L.map ew))
theorem len_l_cut (R : Res) (ds : List D) (kk : D → Prop) (h : sp_l_cut R ds kk) : ds.length = 1 := by obtain ⟨_, rfl, _⟩ := h; rfl
/-- _law_cut: slots 0 _law_steps 1 _law_step 2 _law_found 3 _law_many -/
abbrev d_l_cut (m : Pm) (R : Res) : TdS := dSeq (dPar 2 3 (dVal (dLst (dNil))) (dVal (dC (.int 0)))) (dSeq (dFor (dIter (dVar 0)) (dgName 1) (dSeq (dAsg 3 (dOp opAdd (dOp opAdd (dVar 3) (dC (.int 1))) (dIf (dTest (dOp (opEq false) (dOp opIx (dVar 1) (dC (.int 0))) (dC (.str "since")))) (dCall fLen (dCons (dOp opIx (dVar 1) (dC (.int 2))) (dNil))) (dC (.int 0))))) (dAsg 2 (dOp opAdd (dVar 2) (dOp opMul (dLst (dCons (dVar 1) (dNil))) (dCall fInt (dCons (dOp (opI0 fun i j => .bl (decide (i < j))) (dVar 3) (dC (.int 12))) (dNil)))))))) (dRet (dVar 2)))
theorem law_l_cut (m : Pm) (R : Res) (ds : List D) (kk : D → Prop) (h : sp_l_cut R ds kk) : d_l_cut m R { nx := fun _ => kk .non, rt := kk } (startD 4 ds) := by
  obtain ⟨l, rfl, hl, hr, h⟩ := h
  have hg := huge
  simp [startD]
  refine forMap l ew (fun pre ρ => ∃ s1 L, ρ = [.val (.lst (l.map ew)), s1, .val (.lst (L.map ew)), .val (.int ((flatS pre).length : Int))] ∧ List.Sublist L pre ∧ (flatS L).length ≤ 11 ∧ (flatS L).length ≤ (flatS pre).length) ⟨_, [], rfl, List.Sublist.refl _, by simp [flatS], by simp [flatS]⟩ (fun pre x post e ρ ⟨s1, L, hρ, hs, h1, h2⟩ => ?_) fun ρ ⟨s1, L, hρ, hs, h1, h2⟩ => ?_
  · subst hρ
    have hLl : L.length ≤ 11 := Nat.le_trans (len_le_flat L) h1
    have ef : (flatS (pre ++ [x])).length = (flatS pre).length + x.flat.length := by simp [flatS]
    have eL : (flatS (L ++ [x])).length = (flatS L).length + x.flat.length := by simp [flatS]
    have hx : raw x := hr x (by rw [e]; simp)
    have hcast : ((flatS pre).length : Int) + (x.flat.length : Int) = ((flatS (pre ++ [x])).length : Int) := by rw [ef]; omega
    have tail : ∀ n : Int, n = ((flatS pre).length : Int) + (x.flat.length : Int) → [ew x].length ≤ sizeLine ∧ opI0 (fun i j => D.bl (decide (i < j))) (.int n) (.int 12) fun d_1 => fInt [d_1] fun y => opMul (.lst [ew x]) y fun y => opAdd (.lst (L.map ew)) y fun d_2 =>
        ∃ s1' L', ([.val (.lst (l.map ew)), .val (ew x), .val d_2, .val (.int n)] : Rho) = [.val (.lst (l.map ew)), s1', .val (.lst (L'.map ew)), .val (.int ((flatS (pre ++ [x])).length : Int))] ∧ List.Sublist L' (pre ++ [x]) ∧ (flatS L').length ≤ 11 ∧ (flatS L').length ≤ (flatS (pre ++ [x])).length := fun n hn => by
      refine ⟨by simp; omega, ?_⟩
      by_cases hlt : n < 12
      · simp [hlt]
        refine ⟨by omega, by omega, _, L ++ [x], ⟨rfl, by simp, by rw [hn, hcast]⟩, hs.append (List.Sublist.refl _), by omega, by omega⟩
      · simp [hlt]
        exact ⟨by omega, _, L, ⟨rfl, rfl, by rw [hn, hcast]⟩, hs.trans (List.sublist_append_left _ _), h1, by omega⟩
    simp only [s_dgName, s_dSeq, s_dAsg, s_dOp, s_dVar, s_dC, s_dIf, s_dTest, s_dCall, s_dCons, s_dNil, s_dLst, List.set_cons_succ, List.set_cons_zero, List.getElem?_cons_succ, List.getElem?_cons_zero]
    rcases ew_word x with ⟨c, k, rfl⟩ | ⟨w, r, hw, hd, hf⟩
    · have hfl : (Stp.since c k).flat.length = 1 + k.length := by simp [Stp.flat]; omega
      have hk : k.length ≤ 2 := hx.2.1.2
      simp only [s_add_i, ew, s_ix_t, atI0, s_eq_s, decide_true, if_true, Bool.false_eq_true, if_false, atI2, s_len_t, List.length_map]
      exact tail _ (by omega)
    · rw [s_add_i, hw]
      simp only [s_ix_t, atI0, s_eq_s, hd, Bool.false_eq_true, if_false, s_add_i]
      rw [← hw]
      exact tail _ (by omega)
  · subst hρ
    simp
    exact h L hs h1
theorem ok_l_cut {P : Program} {w : World} {K : PySem.W.Frag} {mg : Str → Option Value} {base : Heap} (c : Sys K mg) : ∃ fd, FnOk P w K mg base CX0 1 ((p_l_cut).at_ K) fd ["_law_steps"] (spD (pm K w) sp_l_cut) ∧ Binds K fd ["_law_steps"] [] := by
  obtain ⟨fd, F⟩ := c.d_l_cut
  have S : FnScope ["_law_steps", "_law_step", "_law_found", "_law_many"] ["_law_steps"] (defScope (top 84)) := ⟨rfl, rfl, rfl, by decide +kernel, rfl, by decide +kernel, by decide +kernel⟩
  have hN : (["_law_steps", "_law_step", "_law_found", "_law_many"] : List Str).Nodup := S.nd
  refine ⟨fd, fn_ok F S len_l_cut fun cdv A outer s H E hr R => ?_, F.bindsN fun _ _ _ _ _ _ us hl => match us, hl with | [_], _ => rfl⟩
  exact ⟨_, d_l_cut (pm K w) R, pdss_cons (pds_par rfl hN (sl_val (pd_lst (pda_nil))) (sl_val (pd_int))) (pdss_cons (pds_for rfl (ki_seq (K := K) (pd 0)) (pdg_name 1 hN) (pdss_cons (pds_set 3 hN (pd_op (ke_add (K := K)) (pd_op (ke_add (K := K)) (pd 3) (pd_int)) (pd_if (pdt_cmp (ke_eq (K := K) hr.units) (k_ix (K := K) (pd 1) (pd_int)) (pd_str)) (pd_callB (kd_len (K := K)) rfl c.n_len (by rfl) (pda_cons (k_ix (K := K) (pd 1) (pd_int)) (pda_nil))) (pd_int)))) (pdss_one (pds_set 2 hN (pd_op (ke_add (K := K)) (pd 2) (pd_op od_mul (pd_lst (pda_cons (pd 1) (pda_nil))) (pd_callTy cd_int rfl c.n_int (by rfl) (pda_cons (pd_cmp od_lt (pd 3) (pd_int)) (pda_nil))))))))) (pdss_one (pds_ret (pd 2)))), fun ds kk h => law_l_cut _ R ds kk h⟩
theorem raw_l_cut {P : Program} {w : World} {K : PySem.W.Frag} {mg : Str → Option Value} {base : Heap} (c : Sys K mg) : FnR P w K mg base CX0 1 ((p_l_cut).at_ K) (spD (pm K w) sp_l_cut) := let ⟨_, F, B⟩ := ok_l_cut (P := P) (w := w) (base := base) c; raw0 F B
end Dl
set_option Elab.async false
set_option linter.all false
set_option maxRecDepth 100000
set_option maxHeartbeats 2000000
namespace Dl
open PySem PySem.Spec PyProof.Rows L2
def sp_l_tiny : DSp := fun R ds kk => ∃ p, ∃ (n : Int) (b : Bool), IsDr R p ∧ ds = [.raw (.ref p), .int n, .bl b] ∧ (0 ≤ n ∧ n ≤ 4) ∧ ∀ l : List Stp, (∀ s ∈ l, raw s ∧ tin s) → (l.length : Int) ≤ n → (flatS l).length ≤ 11 → kk (.lst (l.map ew))
theorem len_l_tiny (R : Res) (ds : List D) (kk : D → Prop) (h : sp_l_tiny R ds kk) : ds.length = 3 := by obtain ⟨_, _, _, _, rfl, _⟩ := h; rfl
/-- _law_tiny: slots 0 _law_draw 1 _law_most 2 _law_has_new 3 _law_words 4 _law_base 5 _law_turn -/
abbrev d_l_tiny (m : Pm) (R : Res) : TdS := dSeq (dAsgG (dTup (dCons (dCall (sp_l_pick R) (dCons (dVar 0) (dCons (dLst (dCons (dC (.int 1)) (dCons (dC (.int 2)) (dCons (dC (.int 3)) (dCons (dC (.int 4)) (dCons (dC (.int 6)) (dNil))))))) (dNil)))) (dCons (dLst (dCons (dC (.str "shift")) (dCons (dC (.str "keep")) (dCons (dC (.str "strike")) (dCons (dC (.str "from")) (dCons (dC (.str "until")) (dCons (dC (.str "since")) (dCons (dC (.str "since")) (dNil))))))))) (dNil)))) (dgTup [4, 3])) (dSeq (dAsg 3 (dOp opAdd (dVar 3) (dOp opMul (dLst (dCons (dC (.str "add")) (dCons (dC (.str "add")) (dCons (dC (.str "add")) (dNil))))) (dCall fInt (dCons (dVar 2) (dNil)))))) (dRet (dCall (sp_l_cut R) (dCons (dLc (dRng1 (dCons (dCall (sp_l_take R) (dCons (dVar 0) (dCons (dOp opAdd (dVar 1) (dC (.int 1))) (dNil)))) (dNil))) (dgName 5) (dYes) (dCall (sp_l_tiny_step R) (dCons (dVar 0) (dCons (dVar 4) (dCons (dVar 3) (dNil))))) [5]) (dNil)))))
theorem law_l_tiny (m : Pm) (R : Res) (ds : List D) (kk : D → Prop) (h : sp_l_tiny R ds kk) : d_l_tiny m R { nx := fun _ => kk .non, rt := kk } (startD 6 ds) := by
  obtain ⟨p, n, b, hR, rfl, hn, h⟩ := h
  have hg := huge
  have all7 : ∀ (ys : List Stp) (k : List Nat), All2 (fun (_ : Nat) s => raw s ∧ tin s) k ys → ∀ s ∈ ys, raw s ∧ tin s := fun ys k hy => by
    induction hy with
    | nil => intro y hy; cases hy
    | cons a b ih =>
      intro y hy
      rcases List.mem_cons.mp hy with rfl | hy
      · exact a
      · exact ih y hy
  have fin : ∀ (ws : List Str) (y : Int), baseOk y → (1 ≤ ws.length ∧ ws.length ≤ 20) → (∀ w ∈ ws, w = "shift" ∨ w = "keep" ∨ w = "strike" ∨ w = "from" ∨ w = "until" ∨ w = "add" ∨ w = "since") →
      sp_l_take R [D.raw (V.ref p), D.int (n + 1)] fun d_1 => match [d_1] with
        | [D.int n_1] => (-4611686018427387904 ≤ n_1 ∧ n_1 < 4611686018427387904) ∧ LcB (dgName 5) dYes (dCall (sp_l_tiny_step R) (dCons (dVar 0) (dCons (dVar 4) (dCons (dVar 3) dNil)))) [5]
            [Sl.val (D.raw (V.ref p)), Sl.val (D.int n), Sl.val (D.bl b), Sl.val (D.lst (ws.map D.str)), Sl.val (.int y), Sl.no] (rngD 0 n_1.toNat) fun acc => sp_l_cut R [D.lst acc] kk
        | x => False := fun ws y hy h1 h2 => by
    refine ⟨p, _, hR, rfl, ⟨by omega, by omega⟩, fun z z0 z1 => ⟨⟨by omega, by omega⟩, ?_⟩⟩
    show LcB _ _ _ _ _ ((List.range z.toNat).map fun (i : Nat) => D.int (0 + (i : Int))) _
    refine lcRel (List.range z.toNat) _ ew (fun _ s => raw s ∧ tin s) (fun i hi Kt Kf hk => ?_) (by simp; omega) fun qs hq => ?_
    · simp [wipeR]
      exact ⟨p, y, ws, hR, rfl, hy, h1, h2, fun s r1 r2 _ => hk s ⟨r1, r2⟩⟩
    · have hql := hq.len
      simp at hql
      have hall := all7 _ _ hq
      refine ⟨qs, rfl, by omega, fun s hs => (hall s hs).1, fun L hL hf => h L (fun s hs => hall s (hL.subset hs)) ?_ hf⟩
      have := hL.length_le
      omega
  simp [startD]
  refine ⟨by omega, p, _, hR, rfl, ⟨by simp, by simp⟩, fun x hx => ?_⟩
  have hx2 : ∃ y : Int, x = .int y ∧ baseOk y := by
    simp at hx
    rcases hx with rfl | rfl | rfl | rfl | rfl <;> exact ⟨_, rfl, by simp [baseOk]⟩
  obtain ⟨y, rfl, hy⟩ := hx2
  refine ⟨by omega, by omega, by omega, ?_⟩
  cases b with
  | false =>
    refine ⟨⟨by decide, by decide⟩, by simp, by simp; omega, ?_⟩
    exact fin ["shift", "keep", "strike", "from", "until", "since", "since"] y hy ⟨by decide, by decide⟩ fun w hw => by simp at hw; rcases hw with rfl | rfl | rfl | rfl | rfl | rfl <;> simp
  | true =>
    refine ⟨⟨by decide, by decide⟩, by simp; omega, by simp; omega, ?_⟩
    exact fin ["shift", "keep", "strike", "from", "until", "since", "since", "add", "add", "add"] y hy ⟨by decide, by decide⟩ fun w hw => by simp at hw; rcases hw with rfl | rfl | rfl | rfl | rfl | rfl | rfl <;> simp
theorem ok_l_tiny {P : Program} {w : World} {K : PySem.W.Frag} {mg : Str → Option Value} {base : Heap} (c : Sys K mg) : ∃ fd, FnOk P w K mg base CX0 7 ((p_l_tiny).at_ K) fd ["_law_draw", "_law_most", "_law_has_new"] (spD (pm K w) sp_l_tiny) ∧ Binds K fd ["_law_draw", "_law_most", "_law_has_new"] [] := by
  obtain ⟨fd, F⟩ := c.d_l_tiny
  have S : FnScope ["_law_draw", "_law_most", "_law_has_new", "_law_words", "_law_base", "_law_turn"] ["_law_draw", "_law_most", "_law_has_new"] (defScope (top 83)) := ⟨rfl, rfl, rfl, by decide +kernel, rfl, by decide +kernel, by decide +kernel⟩
  have hN : (["_law_draw", "_law_most", "_law_has_new", "_law_words", "_law_base", "_law_turn"] : List Str).Nodup := S.nd
  refine ⟨fd, fn_ok F S len_l_tiny fun cdv A outer s H E hr R => ?_, F.bindsN fun _ _ _ _ _ _ us hl => match us, hl with | [_, _, _], _ => rfl⟩
  exact ⟨_, d_l_tiny (pm K w) R, pdss_cons (pds_asg (pd_tup (pda_cons (pd_call (raw_l_pick c) (hr.mono (by decide : 3 ≤ 6)) rfl c.g_l_pick c.k_l_pick (pda_cons (pd 0) (pda_cons (pd_lst (pda_cons (pd_int) (pda_cons (pd_int) (pda_cons (pd_int) (pda_cons (pd_int) (pda_cons (pd_int) (pda_nil))))))) (pda_nil)))) (pda_cons (pd_lst (pda_cons (pd_str) (pda_cons (pd_str) (pda_cons (pd_str) (pda_cons (pd_str) (pda_cons (pd_str) (pda_cons (pd_str) (pda_cons (pd_str) (pda_nil))))))))) (pda_nil)))) (kg_tup (K := K) rfl (pgn_cons 4 hN (pgn_cons 3 hN (pgn_nil))))) (pdss_cons (pds_set 3 hN (pd_op (ke_add (K := K)) (pd 3) (pd_op od_mul (pd_lst (pda_cons (pd_str) (pda_cons (pd_str) (pda_cons (pd_str) (pda_nil))))) (pd_callTy cd_int rfl c.n_int (by rfl) (pda_cons (pd 2) (pda_nil)))))) (pdss_one (pds_ret (pd_call (raw_l_cut c) (hr.mono (by decide : 1 ≤ 6)) rfl c.g_l_cut c.k_l_cut (pda_cons (pd_lc [("_law_turn", 5)] rfl hN (pdi_rng1 rfl c.n_range (pda_cons (pd_call (raw_l_take c) (hr.mono (by decide : 2 ≤ 6)) rfl c.g_l_take c.k_l_take (pda_cons (pd 0) (pda_cons (pd_op (ke_add (K := K)) (pd 1) (pd_int)) (pda_nil)))) (pda_nil))) (blkOk_by (N := ["_law_draw", "_law_most", "_law_has_new", "_law_words", "_law_base", "_law_turn"]) (sc := defScope (top 83)) (by decide +kernel)) (fun _ _ _ _ _ => pdg_name 5 hN) (fun _ _ _ _ _ => pdts_nil) (fun _ _ _ _ _ => pd_call (raw_l_tiny_step c) (hr.mono (by decide : 6 ≤ 6)) rfl c.g_l_tiny_step c.k_l_tiny_step (pda_cons (pd 0) (pda_cons (pd 4) (pda_cons (pd 3) (pda_nil)))))) (pda_nil)))))), fun ds kk h => law_l_tiny _ R ds kk h⟩
theorem raw_l_tiny {P : Program} {w : World} {K : PySem.W.Frag} {mg : Str → Option Value} {base : Heap} (c : Sys K mg) : FnR P w K mg base CX0 7 ((p_l_tiny).at_ K) (spD (pm K w) sp_l_tiny) := let ⟨_, F, B⟩ := ok_l_tiny (P := P) (w := w) (base := base) c; raw0 F B
end Dl
set_option Elab.async false
set_option linter.all false
set_option maxRecDepth 100000
set_option maxHeartbeats 2000000
namespace Dl
open PySem PySem.Spec PyProof.Rows L2
def sp_l_kin : DSp := fun R ds kk => ∃ p, ∃ l : List Stp, IsDr R p ∧ ds = [.raw (.ref p), .lst (l.map ew)] ∧ l.length ≤ 4 ∧ (∀ s ∈ l, raw s ∧ tin s) ∧ ∀ L : List Stp, (∀ s ∈ L, raw s) → L.length ≤ 6 → kk (.lst (L.map ew))
theorem len_l_kin (R : Res) (ds : List D) (kk : D → Prop) (h : sp_l_kin R ds kk) : ds.length = 2 := by obtain ⟨_, _, _, rfl, _⟩ := h; rfl
theorem can_w (w : Str) (h : (PyData.str w).canLay0 = true) (n : Nat) : (D.str w).nob n = true := h
theorem ewR_nob (r : Rhy) (n : Nat) : (ewR r).nob (n + 2) = true := by
  show (true && (D.nobs (r.rs.map D.int) n && true)) = true
  rw [nobs_ints]
  rfl
theorem ewP_nob (p : Pl) (n : Nat) : (ewP p).nob (n + 3) = true := by
  cases p with
  | shift i =>
    show ((PyData.str (Str.ofString "shift")).canLay0 && (true && true)) = true
    decide +kernel
  | keep r =>
    show ((PyData.str (Str.ofString "keep")).canLay0 && ((ewR r).nob (n + 2) && true)) = true
    rw [ewR_nob]
    decide +kernel
  | strike r =>
    show ((PyData.str (Str.ofString "strike")).canLay0 && ((ewR r).nob (n + 2) && true)) = true
    rw [ewR_nob]
    decide +kernel
  | from_ i =>
    show ((PyData.str (Str.ofString "from")).canLay0 && (true && true)) = true
    decide +kernel
  | until_ i =>
    show ((PyData.str (Str.ofString "until")).canLay0 && (true && true)) = true
    decide +kernel
theorem ew_nob (s : Stp) : (ew s).nob 5 = true := by
  cases s with
  | pl p => exact ewP_nob p 2
  | add r a b =>
    show ((PyData.str (Str.ofString "add")).canLay0 && ((ewR r).nob 4 && (true && ((encO b).nob 4 && true)))) = true
    rw [ewR_nob]
    have h1 : ∀ b : Option Int, (encO b).nob 4 = true := fun b => by cases b <;> rfl
    rw [h1]
    decide +kernel
  | since c l =>
    show ((PyData.str (Str.ofString "since")).canLay0 && (true && (D.nobs (l.map ewP) 3 && true))) = true
    rw [nobs_map (fun p => ewP_nob p 0) l]
    decide +kernel
theorem s_eq_nil {k : D → Prop} (neg : Bool) (l : List Stp) : opEq neg (.lst (l.map ew)) (.lst []) k = k (.bl (if neg then !decide (l = []) else decide (l = []))) := by
  rw [s_eq_l]
  have e : (D.lst (l.map ew)).eqb (.lst []) = decide (l = []) := by
    cases l with
    | nil => rfl
    | cons a l => rfl
  rw [e]
  exact propext ⟨fun h => h.2, fun h => ⟨⟨6, by omega, nobs_map ew_nob l, rfl⟩, h⟩⟩
theorem seq_if {c : TdT} {A U : TdS} {E : EndsD} {ρ : Rho} {b : Bool} (hc : ∀ k : Bool → Prop, k b → c ρ k) (ht : b = true → A { E with nx := U E } ρ) (hf : b = false → U E ρ) : dSeq (dIfS c A dNext) U E ρ := by
  refine hc _ ?_
  cases b with
  | true => exact ht rfl
  | false => exact hf rfl
theorem seq_gen {t U : TdS} {E : EndsD} {ρ : Rho} (P : (Rho → Prop) → Prop) (h : ∀ N, P N → t { E with nx := N } ρ) (hp : P (U E)) : dSeq t U E ρ := h _ hp
/-- an expression that has one value -/
def Va (e : TdE) (ρ : Rho) (d : D) : Prop := ∀ k, k d → e ρ k
def VaA (e : TdA) (ρ : Rho) (d : List D) : Prop := ∀ k, k d → e ρ k
theorem va_c (d : D) (ρ : Rho) : Va (dC d) ρ d := fun k h => h
theorem va_nil (ρ : Rho) : VaA dNil ρ [] := fun k h => h
theorem va_cons {a : TdE} {r : TdA} {ρ : Rho} {d : D} {ds : List D} (ha : Va a ρ d) (hr : VaA r ρ ds) : VaA (dCons a r) ρ (d :: ds) := fun k h => ha _ (hr _ h)
theorem va_tup {r : TdA} {ρ : Rho} {ds : List D} (hr : VaA r ρ ds) (hl : ds.length ≤ 1000) : Va (dTup r) ρ (.tup ds) := fun k h => hr _ ⟨by have := huge; omega, h⟩
theorem va_lst {r : TdA} {ρ : Rho} {ds : List D} (hr : VaA r ρ ds) (hl : ds.length ≤ 1000) : Va (dLst r) ρ (.lst ds) := fun k h => hr _ ⟨by have := huge; omega, h⟩
theorem va_neg (i : Int) (ρ : Rho) : Va (dNeg (dC (.int i))) ρ (.int (-i)) := fun k h => h
def isSh : Stp → Bool
  | .pl (.shift _) => true
  | _ => false
theorem ew_sh (s : Stp) : ∃ w r, ew s = .tup (.str w :: r) ∧ decide (w = ("shift" : Str)) = isSh s := by
  cases s with
  | pl p => cases p <;> exact ⟨_, _, rfl, by simp [isSh]; try decide +kernel⟩
  | add r a b => exact ⟨_, _, rfl, by simp [isSh]; try decide +kernel⟩
  | since c l => exact ⟨_, _, rfl, by simp [isSh]; try decide +kernel⟩
/-- _law_kin: slots 0 _law_draw 1 _law_steps 2 _law_at 3 _law_more 4 _law_way -/
abbrev d_l_kin (m : Pm) (R : Res) : TdS := dSeq (dPar 4 2 (dVal (dCall (sp_l_take R) (dCons (dVar 0) (dCons (dC (.int 6)) (dNil))))) (dVal (dCall (sp_l_take R) (dCons (dVar 0) (dCons (dOp opAdd (dCall fLen (dCons (dVar 1) (dNil))) (dC (.int 1))) (dNil)))))) (dSeq (dIfS (dOr (dTest (dOp (opEq false) (dVar 4) (dC (.int 0)))) (dTest (dOp (opEq false) (dVar 1) (dLst (dNil))))) (dRet (dCall (sp_l_tiny R) (dCons (dVar 0) (dCons (dC (.int 4)) (dCons (dC (.bl true)) (dNil)))))) (dNext)) (dSeq (dAsg 2 (dCall fMin (dCons (dVar 2) (dCons (dOp (opI0 fun i j => .int (i - j)) (dCall fLen (dCons (dVar 1) (dNil))) (dC (.int 1))) (dNil))))) (dSeq (dIfS (dTest (dOp (opEq false) (dVar 4) (dC (.int 1)))) (dRet (dOp opAdd (dSl (dVar 1) (dNoPart) (dPart (dVar 2))) (dSl (dVar 1) (dPart (dOp opAdd (dVar 2) (dC (.int 1)))) (dNoPart)))) (dNext)) (dSeq (dIfS (dAnd (dTest (dOp (opEq false) (dVar 4) (dC (.int 2)))) (dTest (dOp (opI0 fun i j => .bl (decide (i < j))) (dOp opAdd (dVar 2) (dC (.int 1))) (dCall fLen (dCons (dVar 1) (dNil)))))) (dRet (dOp opAdd (dOp opAdd (dSl (dVar 1) (dNoPart) (dPart (dVar 2))) (dLst (dCons (dOp opIx (dVar 1) (dOp opAdd (dVar 2) (dC (.int 1)))) (dCons (dOp opIx (dVar 1) (dVar 2)) (dNil))))) (dSl (dVar 1) (dPart (dOp opAdd (dVar 2) (dC (.int 2)))) (dNoPart)))) (dNext)) (dSeq (dIfS (dAnd (dTest (dOp (opEq false) (dVar 4) (dC (.int 3)))) (dTest (dOp (opEq false) (dOp opIx (dOp opIx (dVar 1) (dVar 2)) (dC (.int 0))) (dC (.str "shift"))))) (dRet (dOp opAdd (dOp opAdd (dSl (dVar 1) (dNoPart) (dPart (dVar 2))) (dLst (dCons (dTup (dCons (dC (.str "shift")) (dCons (dOp (opI0 fun i j => .int (i - j)) (dOp opIx (dOp opIx (dVar 1) (dVar 2)) (dC (.int 1))) (dC (.int 1))) (dNil)))) (dCons (dTup (dCons (dC (.str "shift")) (dCons (dC (.int 1)) (dNil)))) (dNil))))) (dSl (dVar 1) (dPart (dOp opAdd (dVar 2) (dC (.int 1)))) (dNoPart)))) (dNext)) (dSeq (dAsg 3 (dCall (sp_l_pick R) (dCons (dVar 0) (dCons (dLst (dCons (dTup (dCons (dC (.str "shift")) (dCons (dC (.int 0)) (dNil)))) (dCons (dTup (dCons (dC (.str "from")) (dCons (dC (.int 0)) (dNil)))) (dCons (dTup (dCons (dC (.str "from")) (dCons (dNeg (dC (.int 1))) (dNil)))) (dCons (dTup (dCons (dC (.str "until")) (dCons (dC (.int 100)) (dNil)))) (dCons (dTup (dCons (dC (.str "strike")) (dCons (dTup (dCons (dC (.int 1)) (dCons (dTup (dNil)) (dNil)))) (dNil)))) (dCons (dOp opIx (dVar 1) (dVar 2)) (dNil)))))))) (dNil))))) (dRet (dOp opAdd (dOp opAdd (dSl (dVar 1) (dNoPart) (dPart (dVar 2))) (dLst (dCons (dVar 3) (dNil)))) (dSl (dVar 1) (dPart (dVar 2)) (dNoPart))))))))))
theorem law_l_kin (m : Pm) (R : Res) (ds : List D) (kk : D → Prop) (h : sp_l_kin R ds kk) : d_l_kin m R { nx := fun _ => kk .non, rt := kk } (startD 5 ds) := by
  obtain ⟨p, l, hR, rfl, hl, hr, h⟩ := h
  have hg := huge
  have tiny : sp_l_tiny R [D.raw (V.ref p), D.int 4, D.bl true] kk := ⟨p, 4, true, hR, rfl, ⟨by omega, by omega⟩, fun L h1 h2 _ => h L (fun s hs => (h1 s hs).1) (by omega)⟩
  refine seq_gen (fun N => ∀ y z : Int, (0 ≤ y ∧ y < 6) → (0 ≤ z ∧ z < l.length + 1) → N [.val (.raw (.ref p)), .val (.lst (l.map ew)), .val (.int z), .no, .val (.int y)]) (fun N hN => ?_) fun y z hy hz => ?_
  · simp [startD]
    exact ⟨p, 6, hR, rfl, ⟨by omega, by omega⟩, fun y y0 y1 => ⟨p, _, hR, rfl, ⟨by omega, by omega⟩, fun z z0 z1 => hN y z ⟨y0, y1⟩ ⟨z0, z1⟩⟩⟩
  refine seq_if (b := decide (y = 0) || decide (l = [])) (fun k hk => ?_) (fun hb => ?_) fun hb => ?_
  · simp [s_eq_nil]
    by_cases h0 : y = 0
    · simpa [h0] using hk
    · simpa [h0] using hk
  · simp
    exact tiny
  have hl0 : l ≠ [] := fun e => by simp [e] at hb
  have hlp : 0 < l.length := List.length_pos_iff.mpr hl0
  refine seq_gen (fun N => ∀ i : Nat, i < l.length → N [.val (.raw (.ref p)), .val (.lst (l.map ew)), .val (.int (i : Int)), .no, .val (.int y)]) (fun N hN => ?_) fun i hi => ?_
  · simp
    by_cases hlt : (l.length : Int) - 1 < z
    · rw [if_pos hlt]
      have e : (l.length : Int) - 1 = ((l.length - 1 : Nat) : Int) := by omega
      rw [e]
      exact hN _ (by omega)
    · rw [if_neg hlt]
      obtain ⟨z, rfl⟩ := Int.eq_ofNat_of_zero_le hz.1
      exact hN z (by omega)
  have cA : cutL (l.map ew) none (some (i : Int)) = (l.take i).map ew := by rw [cut_lo _ _ (by simp; omega), List.map_take]
  have cB : cutL (l.map ew) (some (i : Int)) none = (l.drop i).map ew := by rw [cut_hi _ _ (by simp; omega), List.map_drop]
  have cC : cutL (l.map ew) (some ((i : Int) + 1)) none = (l.drop (i + 1)).map ew := by
    have := cut_hi (l.map ew) (i + 1) (by simp; omega)
    rw [List.map_drop, ← this]
    rfl
  have ix : ∀ (j : Nat) (hj : j < l.length) (k : D → Prop), opIx (.lst (l.map ew)) (.int (j : Int)) k = k (ew l[j]) := fun j hj k => by
    rw [s_ix_l, atIn, List.getElem?_map, List.getElem?_eq_getElem hj]
    rfl
  have mT : ∀ s ∈ l.take i, raw s := fun s hs => (hr s (List.mem_of_mem_take hs)).1
  have mD : ∀ (j : Nat), ∀ s ∈ l.drop j, raw s := fun j s hs => (hr s (List.mem_of_mem_drop hs)).1
  refine seq_if (b := decide (y = 1)) (fun k hk => by simp; simpa using hk) (fun hb => ?_) fun hb => ?_
  · simp [cA, cC]
    refine ⟨by omega, ?_⟩
    have := h (l.take i ++ l.drop (i + 1)) (fun s hs => (List.mem_append.mp hs).elim (mT s) (mD _ s)) (by simp; omega)
    simpa using this
  refine seq_if (b := decide (y = 2) && decide ((i : Int) + 1 < l.length)) (fun k hk => ?_) (fun hb => ?_) fun hb => ?_
  · simp
    by_cases h2 : y = 2
    · simpa [h2] using hk
    · simpa [h2] using hk
  · have hi2 : i + 1 < l.length := by simp at hb; omega
    have cE : cutL (l.map ew) (some ((i : Int) + 2)) none = (l.drop (i + 2)).map ew := by
      have := cut_hi (l.map ew) (i + 2) (by simp; omega)
      rw [List.map_drop, ← this]
      rfl
    have ix1 := ix (i + 1) hi2
    have ix0 := ix i hi
    have ec : (((i + 1 : Nat) : Int)) = (i : Int) + 1 := by omega
    rw [ec] at ix1
    simp only [s_dRet, s_dOp, s_dSl, s_dVar, s_dNoPart, s_dPart, s_dLst, s_dCons, s_dNil, s_dC, List.getElem?_cons_succ, List.getElem?_cons_zero, s_add_i, ix1, ix0, cA, cE, s_add_l]
    refine ⟨by simp; omega, by simp; omega, by simp; omega, ?_⟩
    have := h (l.take i ++ [l[i + 1], l[i]] ++ l.drop (i + 2)) (fun s hs => ?_) (by simp; omega)
    · simpa using this
    · rcases List.mem_append.mp hs with hs | hs
      · rcases List.mem_append.mp hs with hs | hs
        · exact mT s hs
        · simp at hs
          rcases hs with rfl | rfl
          · exact (hr _ (List.getElem_mem _)).1
          · exact (hr _ (List.getElem_mem _)).1
      · exact mD _ s hs
  have hs := hr l[i] (List.getElem_mem hi)
  have ix0 := ix i hi
  have fin3 : ∀ (s : Stp), raw s ∧ tin s → l[i] = s → True := fun _ _ _ => trivial
  refine seq_if (b := decide (y = 3) && isSh l[i]) (fun k hk => ?_) (fun hb => ?_) fun hb => ?_
  · obtain ⟨w, r, hw, hd⟩ := ew_sh l[i]
    simp only [s_dAnd, s_dTest, s_dOp, s_dVar, s_dC, List.getElem?_cons_succ, List.getElem?_cons_zero, s_eq_i, Bool.false_eq_true, if_false]
    by_cases h3 : y = 3
    · subst h3
      rw [← hd] at hk
      simp only [decide_true, if_true, ix0, hw, s_ix_t, atI0, s_eq_s, Bool.false_eq_true, if_false]
      simpa using hk
    · have e : decide (y = 3) = false := decide_eq_false h3
      simp only [e, Bool.false_eq_true, if_false]
      rw [e] at hk
      simpa using hk
  · simp at hb
    generalize hg2 : l[i] = s at hs ix0 hb
    obtain ⟨j, rfl⟩ : ∃ j, s = .pl (.shift j) := by
      cases s with
      | pl p => cases p <;> first | exact ⟨_, rfl⟩ | simp [isSh] at hb
      | _ => simp [isSh] at hb
    simp only [s_dRet, s_dOp, s_dSl, s_dVar, s_dNoPart, s_dPart, s_dLst, s_dTup, s_dCons, s_dNil, s_dC, List.getElem?_cons_succ, List.getElem?_cons_zero, s_add_i, ix0, cA, cC, s_add_l, ew, ewP, s_ix_t, atI1, s_opI0]
    refine ⟨by simp; omega, by simp; omega, by simp; omega, by simp; omega, by simp; omega, ?_⟩
    have hj : -4 ≤ j := hs.2
    have hj2 : -5 ≤ j ∧ j ≤ 5 := hs.1
    have := h (l.take i ++ [.pl (.shift (j - 1)), .pl (.shift 1)] ++ l.drop (i + 1)) (fun s hs => ?_) (by simp; omega)
    · simpa [ew, ewP] using this
    · rcases List.mem_append.mp hs with hs | hs
      · rcases List.mem_append.mp hs with hs | hs
        · exact mT s hs
        · simp at hs
          rcases hs with rfl | rfl
          · exact ⟨by omega, by omega⟩
          · exact ⟨by omega, by omega⟩
      · exact mD _ s hs
  refine seq_gen (fun N => ∀ s : Stp, raw s → N [.val (.raw (.ref p)), .val (.lst (l.map ew)), .val (.int (i : Int)), .val (ew s), .val (.int y)]) (fun N hN => ?_) fun s hs2 => ?_
  · have vi : Va (dOp opIx (dVar 1) (dVar 2)) [.val (.raw (.ref p)), .val (.lst (l.map ew)), .val (.int (i : Int)), .no, .val (.int y)] (ew l[i]) := fun k h => by
      show opIx (.lst (l.map ew)) (.int (i : Int)) k
      rw [ix0]
      exact h
    have vl : Va (dLst (dCons (dTup (dCons (dC (.str "shift")) (dCons (dC (.int 0)) (dNil)))) (dCons (dTup (dCons (dC (.str "from")) (dCons (dC (.int 0)) (dNil)))) (dCons (dTup (dCons (dC (.str "from")) (dCons (dNeg (dC (.int 1))) (dNil)))) (dCons (dTup (dCons (dC (.str "until")) (dCons (dC (.int 100)) (dNil)))) (dCons (dTup (dCons (dC (.str "strike")) (dCons (dTup (dCons (dC (.int 1)) (dCons (dTup (dNil)) (dNil)))) (dNil)))) (dCons (dOp opIx (dVar 1) (dVar 2)) (dNil)))))))) [.val (.raw (.ref p)), .val (.lst (l.map ew)), .val (.int (i : Int)), .no, .val (.int y)] (.lst [.tup [.str "shift", .int 0], .tup [.str "from", .int 0], .tup [.str "from", .int (-1)], .tup [.str "until", .int 100], .tup [.str "strike", .tup [.int 1, .tup []]], ew l[i]]) :=
      va_lst (va_cons (va_tup (va_cons (va_c _ _) (va_cons (va_c _ _) (va_nil _))) (by decide)) (va_cons (va_tup (va_cons (va_c _ _) (va_cons (va_c _ _) (va_nil _))) (by decide)) (va_cons (va_tup (va_cons (va_c _ _) (va_cons (va_neg _ _) (va_nil _))) (by decide))
      (va_cons (va_tup (va_cons (va_c _ _) (va_cons (va_c _ _) (va_nil _))) (by decide)) (va_cons (va_tup (va_cons (va_c _ _) (va_cons (va_tup (va_cons (va_c _ _) (va_cons (va_tup (va_nil _) (by decide)) (va_nil _))) (by decide)) (va_nil _))) (by decide)) (va_cons vi (va_nil _))))))) (Nat.le_of_ble_eq_true rfl)
    refine vl (fun d2 => sp_l_pick R [.raw (.ref p), d2] fun x => N [.val (.raw (.ref p)), .val (.lst (l.map ew)), .val (.int (i : Int)), .val x, .val (.int y)]) ?_
    refine ⟨p, _, hR, rfl, ⟨by simp, by simp⟩, fun x hx => ?_⟩
    simp at hx
    rcases hx with rfl | rfl | rfl | rfl | rfl | rfl
    · exact hN (.pl (.shift 0)) ⟨by omega, by omega⟩
    · exact hN (.pl (.from_ 0)) ⟨by omega, by omega⟩
    · exact hN (.pl (.from_ (-1))) ⟨by omega, by omega⟩
    · exact hN (.pl (.until_ 100)) ⟨by omega, by omega⟩
    · exact hN (.pl (.strike ⟨1, []⟩)) ⟨by decide, .nil, by decide, fun x hx => by cases hx⟩
    · exact hN _ hs.1
  · simp only [s_dRet, s_dOp, s_dSl, s_dVar, s_dNoPart, s_dPart, s_dLst, s_dTup, s_dCons, s_dNil, s_dC, List.getElem?_cons_succ, List.getElem?_cons_zero, cA, cB, s_add_l]
    refine ⟨by simp; omega, by simp; omega, by simp; omega, ?_⟩
    have := h (l.take i ++ [s] ++ l.drop i) (fun t ht => ?_) (by simp; omega)
    · simpa using this
    · rcases List.mem_append.mp ht with ht | ht
      · rcases List.mem_append.mp ht with ht | ht
        · exact mT t ht
        · simp at ht
          subst ht
          exact hs2
      · exact mD _ t ht
theorem ok_l_kin {P : Program} {w : World} {K : PySem.W.Frag} {mg : Str → Option Value} {base : Heap} (c : Sys K mg) : ∃ fd, FnOk P w K mg base CX0 8 ((p_l_kin).at_ K) fd ["_law_draw", "_law_steps"] (spD (pm K w) sp_l_kin) ∧ Binds K fd ["_law_draw", "_law_steps"] [] := by
  obtain ⟨fd, F⟩ := c.d_l_kin
  have S : FnScope ["_law_draw", "_law_steps", "_law_at", "_law_more", "_law_way"] ["_law_draw", "_law_steps"] (defScope (top 85)) := ⟨rfl, rfl, rfl, by decide +kernel, rfl, by decide +kernel, by decide +kernel⟩
  have hN : (["_law_draw", "_law_steps", "_law_at", "_law_more", "_law_way"] : List Str).Nodup := S.nd
  refine ⟨fd, fn_ok F S len_l_kin fun cdv A outer s H E hr R => ?_, F.bindsN fun _ _ _ _ _ _ us hl => match us, hl with | [_, _], _ => rfl⟩
  exact ⟨_, d_l_kin (pm K w) R, pdss_cons (pds_par rfl hN (sl_val (pd_call (raw_l_take c) (hr.mono (by decide : 2 ≤ 7)) rfl c.g_l_take c.k_l_take (pda_cons (pd 0) (pda_cons (pd_int) (pda_nil))))) (sl_val (pd_call (raw_l_take c) (hr.mono (by decide : 2 ≤ 7)) rfl c.g_l_take c.k_l_take (pda_cons (pd 0) (pda_cons (pd_op (ke_add (K := K)) (pd_callB (kd_len (K := K)) rfl c.n_len (by rfl) (pda_cons (pd 1) (pda_nil))) (pd_int)) (pda_nil)))))) (pdss_cons (pds_if (PDW.pt (pdw_or (pdt_cmp (ke_eq (K := K) hr.units) (pd 4) (pd_int)) (pdw_or1 (pdt_cmp (ke_eq (K := K) hr.units) (pd 1) (pd_lst (pda_nil)))))) (pdss_one (pds_ret (pd_call (raw_l_tiny c) (hr.mono (by decide : 7 ≤ 7)) rfl c.g_l_tiny c.k_l_tiny (pda_cons (pd 0) (pda_cons (pd_int) (pda_cons (pd_bl) (pda_nil))))))) (pdss_nil)) (pdss_cons (pds_set 2 hN (pd_callB (kd_min (K := K) rfl) rfl c.n_min (by rfl) (pda_cons (pd 2) (pda_cons (pd_op od_sub (pd_callB (kd_len (K := K)) rfl c.n_len (by rfl) (pda_cons (pd 1) (pda_nil))) (pd_int)) (pda_nil))))) (pdss_cons (pds_if (pdt_cmp (ke_eq (K := K) hr.units) (pd 4) (pd_int)) (pdss_one (pds_ret (pd_op (ke_add (K := K)) (k_slice (K := K) (pd 1) (pdo_none) (pdo_some (pd 2))) (k_slice (K := K) (pd 1) (pdo_some (pd_op (ke_add (K := K)) (pd 2) (pd_int))) (pdo_none))))) (pdss_nil)) (pdss_cons (pds_if (PDW.pt (pdw_and (pdt_cmp (ke_eq (K := K) hr.units) (pd 4) (pd_int)) (pdw_and1 (pdt_cmp od_lt (pd_op (ke_add (K := K)) (pd 2) (pd_int)) (pd_callB (kd_len (K := K)) rfl c.n_len (by rfl) (pda_cons (pd 1) (pda_nil))))))) (pdss_one (pds_ret (pd_op (ke_add (K := K)) (pd_op (ke_add (K := K)) (k_slice (K := K) (pd 1) (pdo_none) (pdo_some (pd 2))) (pd_lst (pda_cons (k_ix (K := K) (pd 1) (pd_op (ke_add (K := K)) (pd 2) (pd_int))) (pda_cons (k_ix (K := K) (pd 1) (pd 2)) (pda_nil))))) (k_slice (K := K) (pd 1) (pdo_some (pd_op (ke_add (K := K)) (pd 2) (pd_int))) (pdo_none))))) (pdss_nil)) (pdss_cons (pds_if (PDW.pt (pdw_and (pdt_cmp (ke_eq (K := K) hr.units) (pd 4) (pd_int)) (pdw_and1 (pdt_cmp (ke_eq (K := K) hr.units) (k_ix (K := K) (k_ix (K := K) (pd 1) (pd 2)) (pd_int)) (pd_str))))) (pdss_one (pds_ret (pd_op (ke_add (K := K)) (pd_op (ke_add (K := K)) (k_slice (K := K) (pd 1) (pdo_none) (pdo_some (pd 2))) (pd_lst (pda_cons (pd_tup (pda_cons (pd_str) (pda_cons (pd_op od_sub (k_ix (K := K) (k_ix (K := K) (pd 1) (pd 2)) (pd_int)) (pd_int)) (pda_nil)))) (pda_cons (pd_tup (pda_cons (pd_str) (pda_cons (pd_int) (pda_nil)))) (pda_nil))))) (k_slice (K := K) (pd 1) (pdo_some (pd_op (ke_add (K := K)) (pd 2) (pd_int))) (pdo_none))))) (pdss_nil)) (pdss_cons (pds_set 3 hN (pd_call (raw_l_pick c) (hr.mono (by decide : 3 ≤ 7)) rfl c.g_l_pick c.k_l_pick (pda_cons (pd 0) (pda_cons (pd_lst (pda_cons (pd_tup (pda_cons (pd_str) (pda_cons (pd_int) (pda_nil)))) (pda_cons (pd_tup (pda_cons (pd_str) (pda_cons (pd_int) (pda_nil)))) (pda_cons (pd_tup (pda_cons (pd_str) (pda_cons (pd_neg (pd_int)) (pda_nil)))) (pda_cons (pd_tup (pda_cons (pd_str) (pda_cons (pd_int) (pda_nil)))) (pda_cons (pd_tup (pda_cons (pd_str) (pda_cons (pd_tup (pda_cons (pd_int) (pda_cons (pd_tup (pda_nil)) (pda_nil)))) (pda_nil)))) (pda_cons (k_ix (K := K) (pd 1) (pd 2)) (pda_nil)))))))) (pda_nil))))) (pdss_one (pds_ret (pd_op (ke_add (K := K)) (pd_op (ke_add (K := K)) (k_slice (K := K) (pd 1) (pdo_none) (pdo_some (pd 2))) (pd_lst (pda_cons (pd 3) (pda_nil)))) (k_slice (K := K) (pd 1) (pdo_some (pd 2)) (pdo_none))))))))))), fun ds kk h => law_l_kin _ R ds kk h⟩
theorem raw_l_kin {P : Program} {w : World} {K : PySem.W.Frag} {mg : Str → Option Value} {base : Heap} (c : Sys K mg) : FnR P w K mg base CX0 8 ((p_l_kin).at_ K) (spD (pm K w) sp_l_kin) := let ⟨_, F, B⟩ := ok_l_kin (P := P) (w := w) (base := base) c; raw0 F B
end Dl
set_option Elab.async false
set_option linter.all false
set_option maxRecDepth 100000
set_option maxHeartbeats 2000000
namespace Dl
open PySem PySem.Spec PyProof.Rows L2
theorem beq_dec (a b : Int) : (a == b) = decide (a = b) := Bool.eq_iff_iff.mpr (by simp)
theorem eqb_O (a b : Option Int) : (encO a).eqb (encO b) = decide (a = b) := by
  cases a <;> cases b <;> simp [encO, D.eqb, beq_dec]
theorem eqbs_St : ∀ a b : List St1, D.eqbs (a.map encSt) (b.map encSt) = decide (a = b)
  | [], [] => by simp [D.eqbs]
  | [], _ :: _ => by simp [D.eqbs]
  | _ :: _, [] => by simp [D.eqbs]
  | x :: a, y :: b => by
    have h := eqbs_St a b
    obtain ⟨x1, x2⟩ := x
    obtain ⟨y1, y2⟩ := y
    have e : (encSt (x1, x2)).eqb (encSt (y1, y2)) = decide ((x1, x2) = (y1, y2)) := by
      show ((D.int x1).eqb (.int y1) && ((encO x2).eqb (encO y2) && true)) = _
      rw [eqb_O]
      simp [D.eqb, Bool.decide_and, beq_dec]
    simp only [List.map_cons, D.eqbs, e, h]
    simp [Bool.decide_and]
theorem St_nob (x : St1) : (encSt x).nob 2 = true := by
  obtain ⟨x1, x2⟩ := x
  cases x2 <;> rfl
theorem s_eq_St {k : D → Prop} (neg : Bool) (a b : List St1) : opEq neg (.lst (a.map encSt)) (.lst (b.map encSt)) k = k (.bl (if neg then !decide (a = b) else decide (a = b))) := by
  rw [s_eq_l]
  have e : (D.lst (a.map encSt)).eqb (.lst (b.map encSt)) = decide (a = b) := by
    simp only [D.eqb]
    exact eqbs_St a b
  rw [e]
  exact propext ⟨fun h => h.2, fun h => ⟨⟨3, by omega, nobs_map St_nob a, nobs_map St_nob b⟩, h⟩⟩
def Dates (dl : List Int) : Prop := dl.length ≤ 12 ∧ dl.Nodup ∧ ∀ x ∈ dl, 0 ≤ x ∧ x ≤ 1000
theorem use_all {R : Res} {l : Scr} {dl : List Int} {last : Int} {k : D → Prop} (hl : l.Ok) (hd : Dates dl) (h0 : 0 ≤ last) (h1 : last ≤ 10000) (h : k (.lst ((standsL l dl last).map encSt))) : sp_all_stands R [encC l, .lst (dl.map D.int), .int last] k :=
  ⟨l, _, dl, last, rfl, hl, .inl rfl, hd.1, hd.2.1, hd.2.2, h0, h1, h⟩
def sp_l_parted_right : DSp := fun R ds kk => ∃ (l m : Scr) (dl : List Int), ds = [encC l, encC m, .lst (dl.map D.int)] ∧ l.Ok ∧ m.Ok ∧ Dates dl ∧ Parted l m dl 400 ∧ kk (.bl true)
theorem len_l_parted_right (R : Res) (ds : List D) (kk : D → Prop) (h : sp_l_parted_right R ds kk) : ds.length = 3 := by obtain ⟨_, _, _, rfl, _⟩ := h; rfl
/-- _law_parted_right: slots 0 _law_one 1 _law_other 2 _law_dates_here 3 _law_last 4 _law_date 5 _law_some 6 _law_near -/
abbrev d_l_parted_right (m : Pm) (R : Res) : TdS := dSeq (dAsg 3 (dC (.int 400))) (dSeq (dIfS (dTest (dOp (opEq false) (dCall (sp_all_stands R) (dCons (dVar 0) (dCons (dVar 2) (dCons (dVar 3) (dNil))))) (dCall (sp_all_stands R) (dCons (dVar 1) (dCons (dVar 2) (dCons (dVar 3) (dNil))))))) (dRet (dC (.bl false))) (dNext)) (dSeq (dFor (dIter (dVar 2)) (dgName 4) (dSeq (dAsg 5 (dLc (dIter (dVar 2)) (dgName 6) (dTest (dOp (opEq true) (dVar 6) (dVar 4))) (dVar 6) [6])) (dIfS (dTest (dOp (opEq true) (dCall (sp_all_stands R) (dCons (dVar 0) (dCons (dVar 5) (dCons (dVar 3) (dNil))))) (dCall (sp_all_stands R) (dCons (dVar 1) (dCons (dVar 5) (dCons (dVar 3) (dNil))))))) (dRet (dC (.bl false))) (dNext)))) (dRet (dC (.bl true)))))
theorem law_l_parted_right (m : Pm) (R : Res) (ds : List D) (kk : D → Prop) (h : sp_l_parted_right R ds kk) : d_l_parted_right m R { nx := fun _ => kk .non, rt := kk } (startD 7 ds) := by
  obtain ⟨l, k, dl, rfl, hl, hm, hd, ⟨hp, hq⟩, h⟩ := h
  have hg := huge
  refine seq_gen (fun N => N [.val (encC l), .val (encC k), .val (.lst (dl.map D.int)), .val (.int 400), .no, .no, .no]) (fun N hN => hN) ?_
  refine seq_if (b := false) (fun K hK => ?_) (fun hb => by cases hb) fun _ => ?_
  · simp only [s_dTest, s_dOp, s_dCall, s_dCons, s_dNil, s_dVar, List.getElem?_cons_succ, List.getElem?_cons_zero]
    refine use_all hl hd (by omega) (by omega) (use_all hm hd (by omega) (by omega) ?_)
    rw [s_eq_St, decide_eq_false hp]
    exact hK
  simp only [s_dSeq, s_dFor, s_dIter, s_dVar, List.getElem?_cons_succ, List.getElem?_cons_zero]
  refine forMap dl D.int (fun _ ρ => ∃ s4 s5 s6, ρ = [.val (encC l), .val (encC k), .val (.lst (dl.map D.int)), .val (.int 400), s4, s5, s6]) ⟨_, _, _, rfl⟩ (fun pre x post e ρ ⟨s4, s5, s6, hρ⟩ => ?_) fun ρ ⟨s4, s5, s6, hρ⟩ => ?_
  · subst hρ
    simp only [s_dgName, List.set_cons_succ, List.set_cons_zero]
    have hx : x ∈ dl := by rw [e]; simp
    refine seq_gen (fun N => N [.val (encC l), .val (encC k), .val (.lst (dl.map D.int)), .val (.int 400), .val (.int x), .val (.lst ((dl.filter fun e => decide (e ≠ x)).map D.int)), s6]) (fun N hN => ?_) ?_
    · simp only [s_dAsg, s_dLc, s_dIter, s_dVar, List.getElem?_cons_succ, List.getElem?_cons_zero]
      refine lcMap dl D.int (fun e => decide (e ≠ x)) D.int (fun y hy Kt Kf ht hf => ?_) (by have := hd.1; omega) (by simpa using hN)
      simp [wipeR]
      split
      · rename_i hz
        exact hf (by simpa using hz)
      · rename_i hz
        exact ht (by simpa using hz)
    · have hd2 : Dates (dl.filter fun e => decide (e ≠ x)) := ⟨Nat.le_trans (List.length_filter_le _ _) hd.1, hd.2.1.filter _, fun y hy => hd.2.2 y (List.mem_filter.mp hy).1⟩
      simp only [s_dIfS, s_dTest, s_dOp, s_dCall, s_dCons, s_dNil, s_dVar, List.getElem?_cons_succ, List.getElem?_cons_zero]
      refine use_all hl hd2 (by omega) (by omega) (use_all hm hd2 (by omega) (by omega) ?_)
      rw [s_eq_St, decide_eq_true (hq x hx)]
      exact ⟨_, _, _, rfl⟩
  · subst hρ
    exact h
theorem ok_l_parted_right {P : Program} {w : World} {K : PySem.W.Frag} {mg : Str → Option Value} {base : Heap} (c : Sys K mg) : ∃ fd, FnOk P w K mg base CX0 12 ((p_l_parted_right).at_ K) fd ["_law_one", "_law_other", "_law_dates_here"] (spD (pm K w) sp_l_parted_right) ∧ Binds K fd ["_law_one", "_law_other", "_law_dates_here"] [] := by
  obtain ⟨fd, F⟩ := c.d_l_parted_right
  have S : FnScope ["_law_one", "_law_other", "_law_dates_here", "_law_last", "_law_date", "_law_some", "_law_near"] ["_law_one", "_law_other", "_law_dates_here"] (defScope (top 86)) := ⟨rfl, rfl, rfl, by decide +kernel, rfl, by decide +kernel, by decide +kernel⟩
  have hN : (["_law_one", "_law_other", "_law_dates_here", "_law_last", "_law_date", "_law_some", "_law_near"] : List Str).Nodup := S.nd
  refine ⟨fd, fn_ok F S len_l_parted_right fun cdv A outer s H E hr R => ?_, F.bindsN fun _ _ _ _ _ _ us hl => match us, hl with | [_, _, _], _ => rfl⟩
  exact ⟨_, d_l_parted_right (pm K w) R, pdss_cons (pds_set 3 hN (pd_int)) (pdss_cons (pds_if (pdt_cmp (ke_eq (K := K) hr.units) (pd_call (raw_all_stands c) (hr.mono (by decide : 11 ≤ 11)) rfl c.g_all_stands c.k_all_stands (pda_cons (pd 0) (pda_cons (pd 2) (pda_cons (pd 3) (pda_nil))))) (pd_call (raw_all_stands c) (hr.mono (by decide : 11 ≤ 11)) rfl c.g_all_stands c.k_all_stands (pda_cons (pd 1) (pda_cons (pd 2) (pda_cons (pd 3) (pda_nil)))))) (pdss_one (pds_ret (pd_bl))) (pdss_nil)) (pdss_cons (pds_for rfl (ki_seq (K := K) (pd 2)) (pdg_name 4 hN) (pdss_cons (pds_setLc 5 [("_law_near", 6)] rfl hN (ki_seq (K := K) (pd 2)) (blkOk_by (N := ["_law_one", "_law_other", "_law_dates_here", "_law_last", "_law_date", "_law_some", "_law_near"]) (sc := defScope (top 86)) (by decide +kernel)) (fun _ _ _ _ _ => pdg_name 6 hN) (fun _ _ _ _ _ => pdts_one (pdt_cmp (ke_ne (K := K) hr.units) (pd 6) (pd 4))) (fun _ _ _ _ _ => pd 6)) (pdss_one (pds_if (pdt_cmp (ke_ne (K := K) hr.units) (pd_call (raw_all_stands c) (hr.mono (by decide : 11 ≤ 11)) rfl c.g_all_stands c.k_all_stands (pda_cons (pd 0) (pda_cons (pd 5) (pda_cons (pd 3) (pda_nil))))) (pd_call (raw_all_stands c) (hr.mono (by decide : 11 ≤ 11)) rfl c.g_all_stands c.k_all_stands (pda_cons (pd 1) (pda_cons (pd 5) (pda_cons (pd 3) (pda_nil)))))) (pdss_one (pds_ret (pd_bl))) (pdss_nil))))) (pdss_one (pds_ret (pd_bl))))), fun ds kk h => law_l_parted_right _ R ds kk h⟩
theorem raw_l_parted_right {P : Program} {w : World} {K : PySem.W.Frag} {mg : Str → Option Value} {base : Heap} (c : Sys K mg) : FnR P w K mg base CX0 12 ((p_l_parted_right).at_ K) (spD (pm K w) sp_l_parted_right) := let ⟨_, F, B⟩ := ok_l_parted_right (P := P) (w := w) (base := base) c; raw0 F B
end Dl
set_option Elab.async false
set_option linter.all false
set_option maxRecDepth 100000
set_option maxHeartbeats 2000000
namespace Dl
open PySem PySem.Spec PyProof.Rows L2
/-- the scripts of the law -/
structure Tn (l : Scr) : Prop where
  all : ∀ s ∈ l, s.Ok
  flat : (flatS l).length ≤ 11
  span : spanS l ≤ 40
theorem Tn.ok {l : Scr} (h : Tn l) : l.Ok := ⟨h.all, by have := h.flat; omega⟩
theorem Tn.small {l : Scr} (h : Tn l) : Small l := ⟨h.ok, by have := h.span; omega⟩
theorem Tn.snoc {l : Scr} (h : Tn l) {t : Stp} (ht : t.Ok) (hf : t.flat.length = 1) (hs : (t.flat.map Stp.abs).sum ≤ 10) : Small (l ++ [t]) := by
  have e : flatS (l ++ [t]) = flatS l ++ t.flat := by simp [flatS]
  refine ⟨⟨fun s hs => ?_, by rw [e, List.length_append, hf]; have := h.flat; omega⟩, ?_⟩
  · rcases List.mem_append.mp hs with hs | hs
    · exact h.all s hs
    · simp at hs
      subst hs
      exact ht
  · have := h.span
    unfold spanS at this ⊢
    rw [e, List.map_append, List.sum_append]
    omega
def sp_l_alike_right : DSp := fun R ds kk => ∃ p, ∃ l m : Scr, IsDr R p ∧ ds = [.raw (.ref p), encC l, encC m] ∧ Tn l ∧ Tn m ∧ Alk l m ∧ kk (.bl true)
theorem len_l_alike_right (R : Res) (ds : List D) (kk : D → Prop) (h : sp_l_alike_right R ds kk) : ds.length = 3 := by obtain ⟨_, _, _, _, rfl, _⟩ := h; rfl
/-- _law_alike_right: slots 0 _law_draw 1 _law_one 2 _law_other 3 _law_lap 4 _law_more 5 _law_dates_here 6 _law_last -/
abbrev d_l_alike_right (m : Pm) (R : Res) : TdS := dSeq (dFor (dRng1 (dCons (dC (.int 4)) (dNil))) (dgName 3) (dSeq (dAsg 5 (dCall (sp_l_dates R) (dCons (dVar 0) (dCons (dC (.int 4)) (dNil))))) (dSeq (dAsg 6 (dOp opAdd (dCall fMax (dCons (dOp opAdd (dLst (dCons (dC (.int 0)) (dNil))) (dVar 5)) (dNil))) (dCall (sp_l_take R) (dCons (dVar 0) (dCons (dC (.int 90)) (dNil)))))) (dIfS (dTest (dOp (opEq true) (dCall (sp_all_stands R) (dCons (dVar 1) (dCons (dVar 5) (dCons (dVar 6) (dNil))))) (dCall (sp_all_stands R) (dCons (dVar 2) (dCons (dVar 5) (dCons (dVar 6) (dNil))))))) (dRet (dC (.bl false))) (dNext))))) (dSeq (dAsg 4 (dCall (sp_l_made R) (dCons (dLst (dCons (dCall (sp_l_tiny_step R) (dCons (dVar 0) (dCons (dC (.int 6)) (dCons (dLst (dCons (dC (.str "shift")) (dCons (dC (.str "strike")) (dCons (dC (.str "from")) (dCons (dC (.str "until")) (dCons (dC (.str "add")) (dNil))))))) (dNil))))) (dNil))) (dNil)))) (dRet (dCall (sp_alike R) (dCons (dOp (opAddO 1 (sp_Script_add R)) (dVar 1) (dVar 4)) (dCons (dOp (opAddO 1 (sp_Script_add R)) (dVar 2) (dVar 4)) (dNil))))))
theorem law_l_alike_right (m : Pm) (R : Res) (ds : List D) (kk : D → Prop) (h : sp_l_alike_right R ds kk) : d_l_alike_right m R { nx := fun _ => kk .non, rt := kk } (startD 7 ds) := by
  obtain ⟨p, l, k, hR, rfl, hl, hm, ha, h⟩ := h
  have hg := huge
  have hal := (alk_al hl.ok hm.ok).mp ha
  refine seq_gen (fun N => ∀ s3 s5 s6, N [.val (.raw (.ref p)), .val (encC l), .val (encC k), s3, .no, s5, s6]) (fun N hN => ?_) fun s3 s5 s6 => ?_
  · simp only [s_dFor, s_dRng1, s_dCons, s_dC, s_dNil]
    refine ⟨⟨by omega, by omega⟩, ?_⟩
    show ForB _ _ _ _ ((List.range 4).map fun (i : Nat) => D.int (0 + (i : Int)))
    refine forMap (List.range 4) _ (fun _ ρ => ∃ s3 s5 s6, ρ = [.val (.raw (.ref p)), .val (encC l), .val (encC k), s3, .no, s5, s6]) ⟨_, _, _, rfl⟩ (fun pre x post e ρ ⟨s3, s5, s6, hρ⟩ => ?_) fun ρ ⟨s3, s5, s6, hρ⟩ => ?_
    · subst hρ
      simp only [s_dgName, List.set_cons_succ, List.set_cons_zero]
      refine seq_gen (fun N => ∀ L : List Int, L.Nodup → L.length ≤ 4 → (∀ x ∈ L, 0 ≤ x ∧ x ≤ 1000) → N [.val (.raw (.ref p)), .val (encC l), .val (encC k), .val (.int (0 + (x : Int))), .no, .val (.lst (L.map D.int)), s6]) (fun N hN => ?_) fun L h1 h2 h3 => ?_
      · simp only [s_dAsg, s_dCall, s_dCons, s_dNil, s_dC, s_dVar, List.getElem?_cons_zero]
        exact ⟨p, hR, rfl, fun L h1 h2 h3 => hN L h1 h2 h3⟩
      refine seq_gen (fun N => ∀ t : Int, 0 ≤ t → t ≤ 2000 → N [.val (.raw (.ref p)), .val (encC l), .val (encC k), .val (.int (0 + (x : Int))), .no, .val (.lst (L.map D.int)), .val (.int t)]) (fun N hN => ?_) fun t t0 t1 => ?_
      · simp only [s_dAsg, s_dOp, s_dCall, s_dCons, s_dNil, s_dC, s_dVar, s_dLst, List.getElem?_cons_succ, List.getElem?_cons_zero, s_add_l]
        refine ⟨by simp; omega, by simp; omega, ?_⟩
        have e : fMax [.lst ([D.int 0] ++ L.map D.int)] = fMax [.lst ((0 :: L).map D.int)] := rfl
        rw [e]
        simp only [fMax, D.ints_map]
        refine ⟨by simp, fun m hm1 hm2 => ?_⟩
        have m0 := hm2 0 List.mem_cons_self
        have m1 : m ≤ 1000 := by
          rcases List.mem_cons.mp hm1 with rfl | hm1
          · omega
          · exact (h3 m hm1).2
        exact ⟨p, 90, hR, rfl, ⟨by omega, by omega⟩, fun z z0 z1 => hN (m + z) (by omega) (by omega)⟩
      · have hd : Dates L := ⟨by omega, h1, h3⟩
        simp only [s_dIfS, s_dTest, s_dOp, s_dCall, s_dCons, s_dNil, s_dVar, List.getElem?_cons_succ, List.getElem?_cons_zero]
        refine use_all hl.ok hd t0 (by omega) (use_all hm.ok hd t0 (by omega) ?_)
        rw [s_eq_St, decide_eq_true (stands_al hl.ok hm.ok hal (fun e he => (h3 e he).1) t)]
        exact ⟨_, _, _, rfl⟩
    · subst hρ
      exact hN _ _ _
  refine seq_gen (fun N => ∀ t : Stp, t.Ok → t.flat.length = 1 → (t.flat.map Stp.abs).sum ≤ 10 → N [.val (.raw (.ref p)), .val (encC l), .val (encC k), s3, .val (encC [t]), s5, s6]) (fun N hN => ?_) fun t h1 h2 h3 => ?_
  · have vl : Va (dLst (dCons (dC (.str "shift")) (dCons (dC (.str "strike")) (dCons (dC (.str "from")) (dCons (dC (.str "until")) (dCons (dC (.str "add")) (dNil))))))) [.val (.raw (.ref p)), .val (encC l), .val (encC k), s3, .no, s5, s6] (.lst ((["shift", "strike", "from", "until", "add"] : List Str).map D.str)) :=
      va_lst (va_cons (va_c _ _) (va_cons (va_c _ _) (va_cons (va_c _ _) (va_cons (va_c _ _) (va_cons (va_c _ _) (va_nil _)))))) (by decide)
    refine vl (fun d2 => sp_l_tiny_step R [.raw (.ref p), .int 6, d2] fun d => [d].length ≤ sizeLine ∧ sp_l_made R [.lst [d]] fun x => N [.val (.raw (.ref p)), .val (encC l), .val (encC k), s3, .val x, s5, s6]) ?_
    refine ⟨p, 6, _, hR, rfl, by simp [baseOk], ⟨by decide, by decide⟩, fun w hw => by simp at hw; rcases hw with rfl | rfl | rfl | rfl | rfl <;> simp, fun s h1 h2 h3 => ⟨by simp; omega, ?_⟩⟩
    have hf : s.flat.length = 1 := h3 (by decide +kernel)
    refine ⟨[s], rfl, fun s' hs => by simp at hs; subst hs; exact h1, by simp [flatS]; omega, fun ts hts => ?_⟩
    cases hts with
    | @cons _ y _ ys hy hr =>
      cases hr
      exact hN y hy.ok (hy.len.trans hf) (by rw [hy.sum]; exact rw_sum h1)
  · have g1 := hl.snoc h1 h2 h3
    have g2 := hm.snoc h1 h2 h3
    simp only [s_dRet, s_dOp, s_dCall, s_dCons, s_dNil, s_dVar, List.getElem?_cons_succ, List.getElem?_cons_zero]
    refine ⟨rfl, rfl, l, [t], rfl, g1.toOk, ⟨rfl, rfl, k, [t], rfl, g2.toOk, ?_⟩⟩
    exact ⟨l ++ [t], k ++ [t], rfl, g1, g2, fun _ => h, fun z => absurd ((alk_al g1.toOk g2.toOk).mpr (hal.snoc t)) z⟩
theorem ok_l_alike_right {P : Program} {w : World} {K : PySem.W.Frag} {mg : Str → Option Value} {base : Heap} (c : Sys K mg) : ∃ fd, FnOk P w K mg base CX0 13 ((p_l_alike_right).at_ K) fd ["_law_draw", "_law_one", "_law_other"] (spD (pm K w) sp_l_alike_right) ∧ Binds K fd ["_law_draw", "_law_one", "_law_other"] [] := by
  obtain ⟨fd, F⟩ := c.d_l_alike_right
  have S : FnScope ["_law_draw", "_law_one", "_law_other", "_law_lap", "_law_more", "_law_dates_here", "_law_last"] ["_law_draw", "_law_one", "_law_other"] (defScope (top 87)) := ⟨rfl, rfl, rfl, by decide +kernel, rfl, by decide +kernel, by decide +kernel⟩
  have hN : (["_law_draw", "_law_one", "_law_other", "_law_lap", "_law_more", "_law_dates_here", "_law_last"] : List Str).Nodup := S.nd
  refine ⟨fd, fn_ok F S len_l_alike_right fun cdv A outer s H E hr R => ?_, F.bindsN fun _ _ _ _ _ _ us hl => match us, hl with | [_, _, _], _ => rfl⟩
  exact ⟨_, d_l_alike_right (pm K w) R, pdss_cons (pds_for rfl (pdi_rng1 rfl c.n_range (pda_cons (pd_int) (pda_nil))) (pdg_name 3 hN) (pdss_cons (pds_set 5 hN (pd_call (raw_l_dates c) (hr.mono (by decide : 4 ≤ 12)) rfl c.g_l_dates c.k_l_dates (pda_cons (pd 0) (pda_cons (pd_int) (pda_nil))))) (pdss_cons (pds_set 6 hN (pd_op (ke_add (K := K)) (pd_callB (kd_max (K := K) rfl) rfl c.n_max (by rfl) (pda_cons (pd_op (ke_add (K := K)) (pd_lst (pda_cons (pd_int) (pda_nil))) (pd 5)) (pda_nil))) (pd_call (raw_l_take c) (hr.mono (by decide : 2 ≤ 12)) rfl c.g_l_take c.k_l_take (pda_cons (pd 0) (pda_cons (pd_int) (pda_nil)))))) (pdss_one (pds_if (pdt_cmp (ke_ne (K := K) hr.units) (pd_call (raw_all_stands c) (hr.mono (by decide : 11 ≤ 12)) rfl c.g_all_stands c.k_all_stands (pda_cons (pd 1) (pda_cons (pd 5) (pda_cons (pd 6) (pda_nil))))) (pd_call (raw_all_stands c) (hr.mono (by decide : 11 ≤ 12)) rfl c.g_all_stands c.k_all_stands (pda_cons (pd 2) (pda_cons (pd 5) (pda_cons (pd 6) (pda_nil)))))) (pdss_one (pds_ret (pd_bl))) (pdss_nil)))))) (pdss_cons (pds_set 4 hN (pd_call (raw_l_made c) (hr.mono (by decide : 8 ≤ 12)) rfl c.g_l_made c.k_l_made (pda_cons (pd_lst (pda_cons (pd_call (raw_l_tiny_step c) (hr.mono (by decide : 6 ≤ 12)) rfl c.g_l_tiny_step c.k_l_tiny_step (pda_cons (pd 0) (pda_cons (pd_int) (pda_cons (pd_lst (pda_cons (pd_str) (pda_cons (pd_str) (pda_cons (pd_str) (pda_cons (pd_str) (pda_cons (pd_str) (pda_nil))))))) (pda_nil))))) (pda_nil))) (pda_nil)))) (pdss_one (pds_ret (pd_call (raw_alike c) (hr.mono (by decide : 12 ≤ 12)) rfl c.g_alike c.k_alike (pda_cons (pd_op (od_addO c.o_add c.self_ (raw_Script_add c) (hr.mono (by decide : 8 ≤ 12))) (pd 1) (pd 4)) (pda_cons (pd_op (od_addO c.o_add c.self_ (raw_Script_add c) (hr.mono (by decide : 8 ≤ 12))) (pd 2) (pd 4)) (pda_nil))))))), fun ds kk h => law_l_alike_right _ R ds kk h⟩
theorem raw_l_alike_right {P : Program} {w : World} {K : PySem.W.Frag} {mg : Str → Option Value} {base : Heap} (c : Sys K mg) : FnR P w K mg base CX0 13 ((p_l_alike_right).at_ K) (spD (pm K w) sp_l_alike_right) := let ⟨_, F, B⟩ := ok_l_alike_right (P := P) (w := w) (base := base) c; raw0 F B
end Dl
set_option Elab.async false
set_option linter.all false
set_option maxRecDepth 100000
set_option maxHeartbeats 2000000
/-! The law's first draw dict, made of the script. -/
namespace Dl
open PySem PySem.Spec PyProof.Rows L2
/-- the script is read while other things are made -/
theorem resOf {K : PySem.W.Frag} {H : Hp} {a : Addr} {xs : List V} (h : SqL K H a xs) : ∃ R : Res, R.ok H ∧ (∀ H', R.ok H' → SqL K H' a xs) ∧ ∀ b, R.M b → ∃ o, H b = some o := by
  rcases h with h | h
  · have e : ∃ o, H a = some o := by
      rcases h with h | ⟨o, h⟩
      · exact ⟨_, h⟩
      · exact ⟨_, h⟩
    refine ⟨⟨fun b => b = a, fun H' => L2.Rd H' a (.lst xs), fun H1 H2 k r => ?_⟩, h, fun H' r => .inl r, fun b (hb : b = a) => hb ▸ e⟩
    rcases r with r | ⟨o, r⟩
    · exact .inl (k _ _ rfl r)
    · exact .inr ⟨o, k _ _ rfl r⟩
  · exact ⟨⟨fun _ => False, fun _ => True, fun _ _ _ _ => trivial⟩, trivial, fun _ _ => .inr h, fun b hb => hb.elim⟩
theorem sql_upd {K : PySem.W.Frag} {H : Hp} {a p : Addr} {o : HO} {xs : List V} (h : SqL K H a xs) (hp : H p = some (.dK [])) : SqL K (upd H p o) a xs := by
  rcases h with h | h
  · left
    rcases h with h | ⟨u, h⟩
    · have n : a ≠ p := fun e => by rw [e, hp] at h; cases h
      exact .inl (by rw [upd_ne n]; exact h)
    · have n : a ≠ p := fun e => by rw [e, hp] at h; cases h
      exact .inr ⟨u, by rw [upd_ne n]; exact h⟩
  · exact .inr h
section
variable {m : Pm} {R : Res} {X : Cx} {elt iter tg : Expr} {ifs : List Expr} {scope : Scope} {pos spos : Pos} {wi : TI} {di : TdI} {g : TG} {dg : TdG} {tt : TT} {dt : TdT} {te : TE} {de : TdE} {js : List Nat}
def dScr (a : Addr) (ns : List Int) (i : Nat) : TdI := fun ρ k => ρ[i]? = some (.val (.raw (.ref a))) ∧ k (ns.map D.int)
theorem pdi_scr {K : PySem.W.Frag} {a : Addr} {ns : List Int} (i : Nat) {e : Expr} (hS : ∀ H, R.ok H → SqL K H a (ns.map V.int)) (he : PE X e (tVar i)) (hK : X.K = K := by rfl) : PDI m R X tg e (iSeq K (tVar i)) (dScr a ns i) := by
  subst hK
  refine ⟨pi_seq he, fun ρ σ G H k RR hv gh h q => ?_⟩
  obtain ⟨hi, hk⟩ := h
  obtain ⟨v, h1, r⟩ := hv.at_ i _ hi
  cases r
  have rs : Reps m G (ns.map V.int) (ns.map D.int) := Reps.ints ns
  refine ⟨_, h1, .inr ⟨a, rfl, ⟨_, hS _ gh.ok⟩, q _ (ns.map D.int) G H (Ext.refl gh) ?_ hk⟩⟩
  have w := @walk_list X.K a (ns.map V.int)
  refine ⟨fun i G2 H2 hi sm gh => w.goes i H2 (by rw [rs.length]; exact hi) (hS _ gh.ok), fun G2 H2 sm gh => by rw [← rs.length]; exact w.stops H2 (hS _ gh.ok), fun i G2 H2 x H3 hi sm gh y => ?_⟩
  obtain ⟨e1, e2⟩ := w.yields i H2 x H3 (by rw [rs.length]; exact hi) (hS _ gh.ok) y
  subst e1
  obtain ⟨d, h1, h2⟩ := rs.getV e2
  exact ⟨d, G2, h1, Ext.refl gh, h2.mono sm⟩
theorem pds_setLcO (i : Nat) (own : List (Str × Nat)) {y : Str} {py : Pos} (hc : X.calm = true) (hN : X.N.Nodup) (hi : PDI m R X tg iter wi di) (ok : BlkOk X.N X.env.scope scope own)
    (hg : ∀ (s : Shared) (H : Hp) (C : Addr) (cl : List (Str × Addr)) (fp : List Addr), PDG m (X.blk s H scope (compEnvC scope cl C X.env) fp) js tg g dg) (ht : ∀ (s : Shared) (H : Hp) (C : Addr) (cl : List (Str × Addr)) (fp : List Addr), PDTs m R (X.blk s H scope (compEnvC scope cl C X.env) fp) ifs tt dt)
    (he : ∀ (s : Shared) (H : Hp) (C : Addr) (cl : List (Str × Addr)) (fp : List Addr), PD m R (X.blk s H scope (compEnvC scope cl C X.env) fp) elt te de) (hj : ∀ j ∈ js, j ∈ own.map (·.2) := by decide) (hs : ∀ x, foldedSetIterable iter X.env x = pure x := by intro _; rfl)
    (hy : X.N[i]? = some y := by rfl) (hyl : X.env.scope.names.lookup y = some .local := by rfl) (hsw : swapsWith (.ListComp elt [⟨tg, iter, ifs, 0⟩] scope pos) (some (.Name y py)) spos.line X.env = pure true := by exact sw_true rfl rfl rfl (by decide +kernel)) :
    PDS m R X (.Assign [.Name y py] (.ListComp elt [⟨tg, iter, ifs, 0⟩] scope pos) spos) (tAsg (tLc wi g tt te (own.map (·.2))) (gName i)) (dAsgS i (dLcO di dg dt de (own.map (·.2)))) :=
  ⟨ps_setLc hc hN hy hyl hsw hi.pe ok (fun s H C cl fp => (hg s H C cl fp).pe) (fun s H C cl fp => (ht s H C cl fp).pe) (fun s H C cl fp => (he s H C cl fp).pe) hs,
    fun S ρ σ G H De Dd st c h => sem_lcO hi.sem (hg X.s_0 X.H_0 0 [] []).sem (ht X.s_0 X.H_0 0 [] []).sem (he X.s_0 X.H_0 0 [] []).sem hj ρ σ G H _ _ st.envE st.gh h fun v s G1 H1 e1 r1 h1 => c.nx _ _ G1 H1 (st.setS e1 r1) h1⟩
end
def spBegun (K : PySem.W.Frag) : Sp := fun vs H Q _ => ∃ (a : Addr) (ns : List Int), vs = [.ref a] ∧ ns.length ≤ 63 ∧ SqL K H a (ns.map V.int) ∧ ∀ (p w c : Addr) (ce wi : List Int) (H' : Hp), DrawAt p w c ce wi 0 0 H' → SqL K H' a (ns.map V.int) → Q (.ref p) H'
/-- what the wide list holds -/
theorem wide_sem {a : Addr} {ns : List Int} (hl : ns.length ≤ 63) (k : Sl → Prop) (h : ∀ wi : List Int, (∀ x ∈ wi, 0 ≤ x) → k (.own (wi.map D.int))) :
    dLcO (dScr a ns 0) (dgName 2) (dTest (dOp (opI0 fun i j => .bl (decide (j ≤ i))) (dCall fAbs (dCons (dVar 2) (dNil))) (dOp (opI CPow fun i j => .int (i ^ j.toNat)) (dC (.int 10)) (dC (.int 18)))))
      (dOp (opI0 fun i j => .int (i - j)) (dCall fAbs (dCons (dVar 2) (dNil))) (dOp (opI CPow fun i j => .int (i ^ j.toNat)) (dC (.int 10)) (dC (.int 18)))) [2] [.val (.raw (.ref a)), .no, .no] k := by
  have hg := huge
  rw [s_dLcO]
  refine ⟨rfl, ?_⟩
  refine lcMap ns D.int (fun x => decide ((10 : Int) ^ 18 ≤ x.natAbs)) (fun x => .int (x.natAbs - 10 ^ 18)) (fun x hx Kt Kf ht hf => ?_) (by omega) ?_
  · have hp : CPow 10 18 := ⟨by decide, by decide⟩
    simp [wipeR]
    refine ⟨hp, ?_⟩
    split
    · rename_i hz
      exact ⟨hp, by simpa using ht (by simpa using hz)⟩
    · rename_i hz
      exact hf (by simpa using hz)
  · have := h ((ns.filter fun x => decide ((10 : Int) ^ 18 ≤ x.natAbs)).map fun x => (x.natAbs : Int) - 10 ^ 18) (fun y hy => by
      obtain ⟨x, hx, rfl⟩ := List.mem_map.mp hy
      have := (List.mem_filter.mp hx).2
      simp only [decide_eq_true_eq] at this
      omega)
    rw [List.map_map] at this
    exact this
theorem two {m : Pm} {R : Res} {X : Cx} {st1 st2 : Stmt} {t1 t2 : TS} {d1 : TdS} {e3 : Expr} {tc : TE} {d3 : TdSl} (h2 : PE X e3 tc → PS X st2 t2) (h1 : PDS m R X st1 t1 d1) (h3 : PDSl m R X e3 tc d3) :
    PSs X [st1, st2] (tSeq t1 t2) ∧ SemS m R t1 d1 ∧ SemSl m R tc d3 := ⟨pss_cons h1.pe (pss_one (h2 h3.pe)), h1.sem, h3.sem⟩
abbrev drPairs (tc : TE) : List (TE × TE) := [(tC (.str "wide"), tVar 1), (tC (.str "left"), tC (.int 0)), (tC (.str "cells"), tc), (tC (.str "turn"), tC (.int 0))]
theorem pure_begun {K : PySem.W.Frag} {m : Pm} {R : Res} {a : Addr} {ns : List Int} {H : Hp} {Q : VK} {D0 : Ends} {t1 : TS} {tc : TE} {N : List Str} (hN : N.length = 3) (hl : ns.length ≤ 63) (hS : SqL K H a (ns.map V.int)) (hR : ∀ H', R.ok H' → SqL K H' a (ns.map V.int)) (gh : GH R (fun _ => none) H) (hD : D0.rt = Q)
    (hQ : ∀ (p w c : Addr) (ce wi : List Int) (H' : Hp), DrawAt p w c ce wi 0 0 H' → SqL K H' a (ns.map V.int) → Q (.ref p) H')
    (h1 : SemS m R t1 (dAsgS 1 (dLcO (dScr a ns 0) (dgName 2) (dTest (dOp (opI0 fun i j => .bl (decide (j ≤ i))) (dCall fAbs (dCons (dVar 2) (dNil))) (dOp (opI CPow fun i j => .int (i ^ j.toNat)) (dC (.int 10)) (dC (.int 18)))))
      (dOp (opI0 fun i j => .int (i - j)) (dCall fAbs (dCons (dVar 2) (dNil))) (dOp (opI CPow fun i j => .int (i ^ j.toNat)) (dC (.int 10)) (dC (.int 18)))) [2])))
    (h3 : SemSl m R tc (dLcO (dScr a ns 0) (dgName 2) dYes (dCall fAbs (dCons (dVar 2) (dNil))) [2])) :
    tSeq t1 (tRet (tDisp (drPairs tc))) D0 (L2.start N [.ref a]) H := by
  have hg := huge
  have st : StOk m R ⟨fun _ => none, H, fun _ => none⟩ (startD N.length [.raw (.ref a)]) (L2.start N [.ref a]) (fun _ => none) H := startD_ok (.cons (.raw _) .nil) gh (by simp; omega)
  rw [hN] at st
  refine h1 _ _ _ _ _ { nx := fun ρ => ∃ wi : List Int, (∀ x ∈ wi, 0 ≤ x) ∧ ρ = [.val (.raw (.ref a)), .own (wi.map D.int), .no], rt := fun _ => False } _ st ⟨fun ρ σ G H1 st1 ⟨wi, hw, hρ⟩ => ?_, fun v d G' H' e r' hk => hk.elim, fun _ _ _ _ _ z => z.elim, fun _ _ _ _ _ z => z.elim⟩ (wide_sem hl _ fun wi hw => ⟨wi, hw, rfl⟩)
  subst hρ
  obtain ⟨w, vs, g1, g2, g3, g4, g5⟩ := st1.at_ 1 _ rfl
  rw [Reps.of_ints g5] at g2
  intro p hp
  have e2 := Ext.side st1.gh (o := .dK []) hp
  have nM := st1.gh.notM hp
  refine ⟨.ref w, g1, ?_⟩
  refine h3 _ σ G _ (fun s => ∃ ce : List Int, s = .own (ce.map D.int)) _ (st1.step e2).envE e2.gh ⟨rfl, ?_⟩ fun v s G3 H3 e3 r3 ⟨ce, hs⟩ => ?_
  · refine lcMap ns D.int (fun _ => true) (fun x => .int x.natAbs) (fun x hx Kt Kf ht hf => ?_) (by omega) ?_
    · simp [wipeR]
      exact ht rfl
    · refine ⟨ns.map fun x => (x.natAbs : Int), ?_⟩
      rw [List.filter_eq_self.mpr fun _ _ => rfl, List.map_map]
      rfl
  · subst hs
    obtain ⟨c, us, rfl, k1, k2, k3, k4⟩ := r3
    rw [Reps.of_ints k4] at k1
    have hp3 : H3 p = some (.dK []) := e3.hh _ _ (by rw [upd_same]) nM
    have hw2 : (upd H1 p (.dK [])) w = some (.lst (wi.map V.int)) := by rw [upd_ne (ne_of_none g2 hp)]; exact g2
    have hw3 : H3 w = some (.lst (wi.map V.int)) := e3.hh _ _ hw2 (st1.notM g3)
    have nwp : w ≠ p := fun e => by rw [e, hp3] at hw3; cases hw3
    have ncp : c ≠ p := fun e => by rw [e, hp3] at k1; cases k1
    have nwc : w ≠ c := fun e => by rw [← e, hw2] at k2; cases k2
    refine ⟨hp3, drKvs w c 0 0, rfl, by simp, ?_⟩
    rw [hD]
    have hm : mergeK [] (drKvs w c 0 0) = drKvs w c 0 0 := rfl
    rw [hm]
    refine hQ p w c ce wi _ ⟨upd_same .., by rw [upd_ne nwp]; exact hw3, by rw [upd_ne ncp]; exact k1, nwc, by omega, by omega, hw⟩ (sql_upd (hR _ e3.gh.ok) hp3)
theorem ok_l_begun {P : Program} {w : World} {K : PySem.W.Frag} {mg : Str → Option Value} {base : Heap} (c : Sys K mg) : ∃ fd, FnOk P w K mg base CX0 1 ((p_l_begun).at_ K) fd ["_law_script"] (spBegun K) ∧ Binds K fd ["_law_script"] [] := by
  obtain ⟨fd, F⟩ := c.d_l_begun
  have S : FnScope ["_law_script", "_law_wide", "_law_cell"] ["_law_script"] (defScope (top 73)) := ⟨rfl, rfl, rfl, by decide +kernel, rfl, by decide +kernel, by decide +kernel⟩
  have hN : (["_law_script", "_law_wide", "_law_cell"] : List Str).Nodup := S.nd
  refine ⟨fd, F.ok S (fun vs H Q E h => ?_) (fun cdv A outer s H vs Q E hr h => ?_), F.bindsN fun _ _ _ _ _ _ us hl => match us, hl with | [_], _ => rfl⟩
  · obtain ⟨a, ns, rfl, _⟩ := h
    rfl
  · obtain ⟨a, ns, rfl, hl, hS, hQ⟩ := h
    obtain ⟨R, r1, r2, r3⟩ := resOf hS
    have gh : GH R (fun _ => none) H := ⟨fun b o e => (by cases e), r1, fun b hb => ⟨rfl, r3 b hb⟩⟩
    obtain ⟨t1, tc, hs, h1, h3⟩ : ∃ t1 tc, PSs (cxOf CX0 P w K mg base ["_law_script", "_law_wide", "_law_cell"] p_l_begun.qual (defScope (top 73)) ((p_l_begun).at_ K) cdv A outer s H E).nox (defBody (top 73)) (tSeq t1 (tRet (tDisp (drPairs tc)))) ∧
        SemS (pm K w) R t1 (dAsgS 1 (dLcO (dScr a ns 0) (dgName 2) (dTest (dOp (opI0 fun i j => .bl (decide (j ≤ i))) (dCall fAbs (dCons (dVar 2) (dNil))) (dOp (opI CPow fun i j => .int (i ^ j.toNat)) (dC (.int 10)) (dC (.int 18)))))
          (dOp (opI0 fun i j => .int (i - j)) (dCall fAbs (dCons (dVar 2) (dNil))) (dOp (opI CPow fun i j => .int (i ^ j.toNat)) (dC (.int 10)) (dC (.int 18)))) [2])) ∧
        SemSl (pm K w) R tc (dLcO (dScr a ns 0) (dgName 2) dYes (dCall fAbs (dCons (dVar 2) (dNil))) [2]) :=
      ⟨_, _, two (fun h => ps_ret (pe_disp (pps_cons pe_str (pv 1) (pps_cons pe_str pe_int (pps_cons pe_str h (pps_cons pe_str pe_int pps_nil)))) rfl rfl (by simp) (by decide)))
        (pds_setLcO 1 [("_law_cell", 2)] rfl hN (pdi_scr (K := K) 0 r2 (pv 0)) (blkOk_by (N := ["_law_script", "_law_wide", "_law_cell"]) (sc := defScope (top 73)) (by decide +kernel)) (fun _ _ _ _ _ => pdg_name 2 hN)
          (fun _ _ _ _ _ => pdts_one (pdt_cmp od_ge (pd_callB cd_abs rfl c.n_abs (by rfl) (pda_cons (pd 2) (pda_nil))) (pd_op od_pow (pd_int) (pd_int)))) (fun _ _ _ _ _ => pd_op od_sub (pd_callB cd_abs rfl c.n_abs (by rfl) (pda_cons (pd 2) (pda_nil))) (pd_op od_pow (pd_int) (pd_int))))
        (sl_lc [("_law_cell", 2)] rfl hN (pdi_scr (K := K) 0 r2 (pv 0)) (blkOk_by (N := ["_law_script", "_law_wide", "_law_cell"]) (sc := defScope (top 73)) (by decide +kernel)) (fun _ _ _ _ _ => pdg_name 2 hN)
          (fun _ _ _ _ _ => pdts_nil) (fun _ _ _ _ _ => pd_callB cd_abs rfl c.n_abs (by rfl) (pda_cons (pd 2) (pda_nil))))⟩
    exact ⟨_, hs.nox, pure_begun rfl hl hS r2 gh rfl hQ h1 h3⟩
theorem raw_l_begun {P : Program} {w : World} {K : PySem.W.Frag} {mg : Str → Option Value} {base : Heap} (c : Sys K mg) : FnR P w K mg base CX0 1 ((p_l_begun).at_ K) (spBegun K) := let ⟨_, F, B⟩ := ok_l_begun (P := P) (w := w) (base := base) c; raw0 F B
end Dl
set_option Elab.async false
set_option linter.all false
set_option maxRecDepth 100000
set_option maxHeartbeats 2000000
/-! One turn of the law. -/
namespace Dl
open PySem PySem.Spec PyProof.Rows L2
theorem tn_of {l : List Stp} {t : Scr} (h : All2 Like l t) (hr : ∀ s ∈ l, raw s) (hl : l.length ≤ 4) (hf : (flatS l).length ≤ 11) : Tn t := by
  obtain ⟨h1, h2, h3⟩ := like_scr h
  have := rw_span hr
  exact ⟨h1, by omega, by omega⟩
theorem Part.dates {l m : Scr} (hl : Tn l) (hm : Tn m) {p : Part} (hp : IsPart l m p) : Dates p.days := by
  obtain ⟨h1, h2, h3, h4, h5, h6⟩ := rd_of hl.ok hm.ok
  have b1 := bord_le hl.all
  have b2 := bord_le hm.all
  have d1 := dvd12_le (rnd_facts hl.all).2.1 (rnd_facts hl.all).1
  have hc := (com_dvd (rnd_facts hl.all).1 (rnd_facts hm.all).1 (rnd_facts hl.all).2.1 (rnd_facts hm.all).2.1)
  have d2 := dvd12_le hc.2.1 hc.1
  have s1 := hl.span
  have s2 := hm.span
  have hM : manyS l m ≤ 400 := by
    unfold manyS farS
    omega
  cases p with
  | no => exact ⟨by decide, .nil, fun x hx => by cases hx⟩
  | news => exact ⟨by decide, .nil, fun x hx => by cases hx⟩
  | one d =>
    obtain ⟨_, h0, _⟩ := hp
    exact ⟨by simp [Part.days], by simp [Part.days], fun x hx => by simp [Part.days] at hx; omega⟩
  | two i j =>
    obtain ⟨_, _, h0, _⟩ := hp
    exact ⟨by simp [Part.days], by simp [Part.days]; omega, fun x hx => by simp [Part.days] at hx; omega⟩
theorem Part.parts {l m : Scr} (hl : Tn l) (hm : Tn m) {p : Part} (hp : IsPart l m p) (hno : p ≠ .no) : Parted l m p.days 400 := by
  have b1 := bord_le hl.all
  have b2 := bord_le hm.all
  have hc := (com_dvd (rnd_facts hl.all).1 (rnd_facts hm.all).1 (rnd_facts hl.all).2.1 (rnd_facts hm.all).2.1)
  have d2 := dvd12_le hc.2.1 hc.1
  have s1 := hl.span
  have s2 := hm.span
  refine parted hl.ok hm.ok hp hno ?_
  unfold manyS farS
  omega
theorem Part.not {l m : Scr} {p : Part} (hp : IsPart l m p) (hno : p ≠ .no) : ¬ Alk l m := fun ⟨h1, h2, h3⟩ => by
  cases p with
  | no => exact hno rfl
  | news => exact hp h1
  | one d => exact h2 d hp.2.1.1 hp.2.1.2 hp.2.2
  | two i j => exact h3 i j hp.2.2.1.1 hp.2.2.1.2.1 hp.2.2.1.2.2 hp.2.2.2
def Part.isNo : Part → Bool
  | .no => true
  | _ => false
theorem is_part {k : D → Prop} (neg : Bool) (p : Part) : opIs neg (encPart p) .non k = k (.bl (if p.isNo = true then !neg else neg)) := by
  cases p <;> rfl
theorem list_part {k : D → Prop} {p : Part} (h : p.isNo = false) : fList [encPart p] k = k (.lst (p.days.map D.int)) := by
  cases p with
  | no => cases h
  | _ => rfl
theorem cut4 {α : Type} (l : List α) : cutL l none (some 4) = l.take 4 := by
  rcases Nat.le_total 4 l.length with h | h
  · exact cut_lo l 4 h
  · have e : cutL l none (some ((4 : Nat) : Int)) = l.take 4 := by
      unfold cutL
      rw [HT.sIx_none, HT.sIx_nat, Nat.min_eq_right h]
      simp [List.take_of_length_le h]
    exact e
abbrev d_law_body (m : Pm) (R : Res) : TdS := dSeq (dAsg 3 (dCall (sp_l_tiny R) (dCons (dVar 1) (dCons (dC (.int 3)) (dCons (dC (.bl true)) (dNil)))))) (dSeq (dAsgS 4 (dOwn (dCons (dCall (sp_l_made R) (dCons (dVar 3) (dNil))) (dNil)))) (dSeq (dFor (dRng1 (dCons (dC (.int 2)) (dNil))) (dgName 5) (dApp 4 (dCall (sp_l_made R) (dCons (dSl (dCall (sp_l_cut R) (dCons (dCall (sp_l_kin R) (dCons (dVar 1) (dCons (dVar 3) (dNil)))) (dNil))) (dNoPart) (dPart (dC (.int 4)))) (dNil))))) (dSeq (dAsgS 6 (dOwn (dNil))) (dFrz 4 (dSeq (dFor (dIter (dLst (dCons (dTup (dCons (dOp opIx (dVar 4) (dC (.int 0))) (dCons (dOp opIx (dVar 4) (dC (.int 1))) (dNil)))) (dCons (dTup (dCons (dOp opIx (dVar 4) (dC (.int 1))) (dCons (dOp opIx (dVar 4) (dC (.int 2))) (dNil)))) (dCons (dTup (dCons (dOp opIx (dVar 4) (dC (.int 0))) (dCons (dOp opIx (dVar 4) (dC (.int 2))) (dNil)))) (dNil)))))) (dgTup [8, 9]) (dSeq (dAsg 10 (dCall (sp_parting R) (dCons (dVar 8) (dCons (dVar 9) (dNil))))) (dSeq (dApp 6 (dOp (opIs false) (dVar 10) (dC .non))) (dSeq (dIfS (dAnd (dTest (dOp (opIs true) (dVar 10) (dC .non))) (dNot (dTest (dCall (sp_l_parted_right R) (dCons (dVar 8) (dCons (dVar 9) (dCons (dCall fList (dCons (dVar 10) (dNil))) (dNil)))))))) (dRet (dC (.bl false))) (dNext)) (dIfS (dAnd (dTest (dOp (opIs false) (dVar 10) (dC .non))) (dNot (dTest (dCall (sp_l_alike_right R) (dCons (dVar 1) (dCons (dVar 8) (dCons (dVar 9) (dNil)))))))) (dRet (dC (.bl false))) (dNext)))))) (dFrz 6 (dSeq (dIfS (dTest (dOp (opEq false) (dCnt (dVar 6) (dC (.bl true))) (dC (.int 2)))) (dRet (dC (.bl false))) (dNext)) (dSeq (dAsg 7 (dCall (sp_Script_init R) (dCons (dLc (dIter (dCall (sp_cut_down R) (dCons (dOp opIx (dVar 4) (dC (.int 1))) (dNil)))) (dgName 11) (dYes) (dOp (opIxO 1 (sp_Script_getitem R)) (dOp opIx (dVar 4) (dC (.int 1))) (dVar 11)) [11]) (dNil)))) (dIfS (dOr (dNot (dTest (dCall (sp_alike R) (dCons (dVar 7) (dCons (dOp opIx (dVar 4) (dC (.int 1))) (dNil)))))) (dTest (dOp (opEq true) (dCall (sp_idle_steps R) (dCons (dVar 7) (dNil))) (dLst (dNil))))) (dRet (dC (.bl false))) (dNext))))))))))
theorem frz_to {t : TdS} {E : EndsD} {ρ : Rho} {i : Nat} {ds : List D} (h : ρ[i]? = some (.own ds)) (k : t E (ρ.set i (.val (.lst ds)))) : dFrz i t E ρ := by
  rw [s_dFrz, h]
  exact k
abbrev encPair (x : Scr × Scr) : D := .tup [encC x.1, encC x.2]
theorem law_body (m : Pm) (R : Res) (p : Addr) (hR : IsDr R p) (a : Addr) (E : EndsD) (hE : ∀ s2 s3 s4 s5 s6 s7 s8 s9 s10 s11, E.nx [.val (.raw (.ref a)), .val (.raw (.ref p)), s2, s3, s4, s5, s6, s7, s8, s9, s10, s11]) :
    ∀ s2 s3 s4 s5 s6 s7 s8 s9 s10 s11, d_law_body m R E [.val (.raw (.ref a)), .val (.raw (.ref p)), s2, s3, s4, s5, s6, s7, s8, s9, s10, s11] := by
  intro s2 s3 s4 s5 s6 s7 s8 s9 s10 s11
  have hg := huge
  refine seq_gen (fun N => ∀ l : List Stp, (∀ s ∈ l, raw s ∧ tin s) → l.length ≤ 3 → (flatS l).length ≤ 11 → N [.val (.raw (.ref a)), .val (.raw (.ref p)), s2, .val (.lst (l.map ew)), s4, s5, s6, s7, s8, s9, s10, s11]) (fun N hN => ?_) fun l hl l3 lf => ?_
  · simp only [s_dAsg, s_dCall, s_dCons, s_dNil, s_dC, s_dVar, List.getElem?_cons_succ, List.getElem?_cons_zero]
    exact ⟨p, 3, true, hR, rfl, ⟨by omega, by omega⟩, fun l h1 h2 h3 => hN l h1 (by omega) h3⟩
  refine seq_gen (fun N => ∀ t0 : Scr, Tn t0 → N [.val (.raw (.ref a)), .val (.raw (.ref p)), s2, .val (.lst (l.map ew)), .own [encC t0], s5, s6, s7, s8, s9, s10, s11]) (fun N hN => ?_) fun t0 ht0 => ?_
  · simp only [s_dAsgS, s_dOwn, s_dCall, s_dCons, s_dNil, s_dC, s_dVar, List.getElem?_cons_succ, List.getElem?_cons_zero]
    exact ⟨l, rfl, fun s hs => (hl s hs).1, by omega, fun t ht => ⟨by simp; omega, hN t (tn_of ht (fun s hs => (hl s hs).1) (by omega) lf)⟩⟩
  refine seq_gen (fun N => ∀ (t1 t2 : Scr) s5, Tn t1 → t1.length ≤ 4 → Tn t2 → N [.val (.raw (.ref a)), .val (.raw (.ref p)), s2, .val (.lst (l.map ew)), .own [encC t0, encC t1, encC t2], s5, s6, s7, s8, s9, s10, s11]) (fun N hN => ?_) fun t1 t2 s5 ht1 h1l ht2 => ?_
  · simp only [s_dFor, s_dRng1, s_dCons, s_dC, s_dNil]
    refine ⟨⟨by omega, by omega⟩, ?_⟩
    show ForB _ _ _ _ ((List.range 2).map fun (i : Nat) => D.int (0 + (i : Int)))
    refine forMap (List.range 2) _ (fun pre ρ => ∃ (ts : List Scr) (s5 : Sl), ts.length = pre.length ∧ (∀ t ∈ ts, Tn t ∧ t.length ≤ 4) ∧ ρ = [.val (.raw (.ref a)), .val (.raw (.ref p)), s2, .val (.lst (l.map ew)), .own (encC t0 :: ts.map encC), s5, s6, s7, s8, s9, s10, s11]) ⟨[], _, rfl, fun t ht => (by cases ht), rfl⟩ (fun pre x post e ρ ⟨ts, s5, h1, h2, hρ⟩ => ?_) fun ρ ⟨ts, s5, h1, h2, hρ⟩ => ?_
    · subst hρ
      have hpl : pre.length < 2 := by
        have := congrArg List.length e
        simp at this
        omega
      simp only [s_dgName, List.set_cons_succ, List.set_cons_zero, s_dApp, s_dCall, s_dCons, s_dNil, s_dSl, s_dNoPart, s_dPart, s_dC, s_dVar, List.getElem?_cons_succ, List.getElem?_cons_zero]
      refine ⟨p, l, hR, rfl, by omega, hl, fun L hL hLl => ⟨L, rfl, by omega, hL, fun L2 hs hf => ?_⟩⟩
      show sp_l_made R [.lst (cutL (L2.map ew) none (some 4))] _
      rw [cut4, ← List.map_take]
      have hr2 : ∀ s ∈ L2.take 4, raw s := fun s hs2 => hL s (hs.subset (List.mem_of_mem_take hs2))
      have hf2 : (flatS (L2.take 4)).length ≤ 11 := Nat.le_trans (flat_sub (List.take_sublist _ _)) hf
      have hl4 : (L2.take 4).length ≤ 4 := by simp; omega
      refine ⟨L2.take 4, rfl, hr2, by omega, fun t ht => ⟨by simp; omega, ts ++ [t], .val (.int (0 + (x : Int))), by simp [h1], fun t' ht' => ?_, by simp⟩⟩
      rcases List.mem_append.mp ht' with q | q
      · exact h2 t' q
      · simp at q
        subst q
        exact ⟨tn_of ht hr2 hl4 hf2, by rw [ht.len]; exact hl4⟩
    · subst hρ
      match ts, h1, h2 with
      | [t1, t2], _, h2 => exact hN t1 t2 s5 (h2 t1 (by simp)).1 (h2 t1 (by simp)).2 (h2 t2 (by simp)).1
  refine seq_gen (fun N => N [.val (.raw (.ref a)), .val (.raw (.ref p)), s2, .val (.lst (l.map ew)), .own [encC t0, encC t1, encC t2], s5, .own [], s7, s8, s9, s10, s11]) (fun N hN => ⟨Nat.zero_le _, hN⟩) ?_
  refine frz_to (ds := [encC t0, encC t1, encC t2]) rfl ?_
  show dSeq _ _ _ [.val (.raw (.ref a)), .val (.raw (.ref p)), s2, .val (.lst (l.map ew)), .val (.lst [encC t0, encC t1, encC t2]), s5, .own [], s7, s8, s9, s10, s11]
  refine seq_gen (fun N => ∀ (s8 s9 s10 : Sl) (b0 b1 b2 : Bool), (b0 = true ↔ Alk t0 t1) → (b1 = true ↔ Alk t1 t2) → (b2 = true ↔ Alk t0 t2) →
    N [.val (.raw (.ref a)), .val (.raw (.ref p)), s2, .val (.lst (l.map ew)), .val (.lst [encC t0, encC t1, encC t2]), s5, .own ([b0, b1, b2].map D.bl), s7, s8, s9, s10, s11]) (fun N hN => ?_) fun s8 s9 s10 b0 b1 b2 hb0 hb1 hb2 => ?_
  · have vi : ∀ (j : Int) (d : D), (match atI [encC t0, encC t1, encC t2] j with
      | some x => x = d
      | none => False) → Va (dOp opIx (dVar 4) (dC (.int j))) [.val (.raw (.ref a)), .val (.raw (.ref p)), s2, .val (.lst (l.map ew)), .val (.lst [encC t0, encC t1, encC t2]), s5, .own [], s7, s8, s9, s10, s11] d := fun j d hj k hk => by
      show opIx (.lst [encC t0, encC t1, encC t2]) (.int j) k
      rw [s_ix_l]
      cases q : atI [encC t0, encC t1, encC t2] j with
      | none => rw [q] at hj; exact hj.elim
      | some x =>
        rw [q] at hj
        subst hj
        exact hk
    have vl : Va (dLst (dCons (dTup (dCons (dOp opIx (dVar 4) (dC (.int 0))) (dCons (dOp opIx (dVar 4) (dC (.int 1))) (dNil)))) (dCons (dTup (dCons (dOp opIx (dVar 4) (dC (.int 1))) (dCons (dOp opIx (dVar 4) (dC (.int 2))) (dNil)))) (dCons (dTup (dCons (dOp opIx (dVar 4) (dC (.int 0))) (dCons (dOp opIx (dVar 4) (dC (.int 2))) (dNil)))) (dNil))))) [.val (.raw (.ref a)), .val (.raw (.ref p)), s2, .val (.lst (l.map ew)), .val (.lst [encC t0, encC t1, encC t2]), s5, .own [], s7, s8, s9, s10, s11] (.lst [.tup [encC t0, encC t1], .tup [encC t1, encC t2], .tup [encC t0, encC t2]]) :=
      va_lst (va_cons (va_tup (va_cons (vi 0 _ rfl) (va_cons (vi 1 _ rfl) (va_nil _))) (Nat.le_of_ble_eq_true rfl)) (va_cons (va_tup (va_cons (vi 1 _ rfl) (va_cons (vi 2 _ rfl) (va_nil _))) (Nat.le_of_ble_eq_true rfl))
        (va_cons (va_tup (va_cons (vi 0 _ rfl) (va_cons (vi 2 _ rfl) (va_nil _))) (Nat.le_of_ble_eq_true rfl)) (va_nil _)))) (Nat.le_of_ble_eq_true rfl)
    rw [s_dFor, s_dIter]
    refine vl _ ?_
    show ForB _ _ _ _ (([(t0, t1), (t1, t2), (t0, t2)] : List (Scr × Scr)).map encPair)
    refine forMap ([(t0, t1), (t1, t2), (t0, t2)] : List (Scr × Scr)) encPair (fun pre ρ => ∃ (bs : List Bool) (s8 s9 s10 : Sl), All2 (fun (x : Scr × Scr) b => b = true ↔ Alk x.1 x.2) pre bs ∧
      ρ = [.val (.raw (.ref a)), .val (.raw (.ref p)), s2, .val (.lst (l.map ew)), .val (.lst [encC t0, encC t1, encC t2]), s5, .own (bs.map D.bl), s7, s8, s9, s10, s11]) ⟨[], _, _, _, .nil, rfl⟩ (fun pre x post e ρ ⟨bs, s8, s9, s10, hb, hρ⟩ => ?_) fun ρ ⟨bs, s8, s9, s10, hb, hρ⟩ => ?_
    · subst hρ
      have hx : Tn x.1 ∧ Tn x.2 := by
        have : x ∈ ([(t0, t1), (t1, t2), (t0, t2)] : List (Scr × Scr)) := by rw [e]; simp
        simp at this
        rcases this with rfl | rfl | rfl
        · exact ⟨ht0, ht1⟩
        · exact ⟨ht1, ht2⟩
        · exact ⟨ht0, ht2⟩
      have hpl : pre.length < 3 := by
        have := congrArg List.length e
        simp at this
        omega
      have hbl := hb.len
      refine ⟨rfl, ?_⟩
      show dSeq _ _ _ [.val (.raw (.ref a)), .val (.raw (.ref p)), s2, .val (.lst (l.map ew)), .val (.lst [encC t0, encC t1, encC t2]), s5, .own (bs.map D.bl), s7, .val (encC x.1), .val (encC x.2), s10, s11]
      refine seq_gen (fun N => ∀ pt : Part, IsPart x.1 x.2 pt → N [.val (.raw (.ref a)), .val (.raw (.ref p)), s2, .val (.lst (l.map ew)), .val (.lst [encC t0, encC t1, encC t2]), s5, .own (bs.map D.bl), s7, .val (encC x.1), .val (encC x.2), .val (encPart pt), s11]) (fun N hN => ⟨x.1, x.2, rfl, hx.1.small, hx.2.small, hN⟩) fun pt hpt => ?_
      refine seq_gen (fun N => N [.val (.raw (.ref a)), .val (.raw (.ref p)), s2, .val (.lst (l.map ew)), .val (.lst [encC t0, encC t1, encC t2]), s5, .own ((bs ++ [pt.isNo]).map D.bl), s7, .val (encC x.1), .val (encC x.2), .val (encPart pt), s11]) (fun N hN => ?_) ?_
      · simp only [s_dApp, s_dOp, s_dC, s_dVar, List.getElem?_cons_succ, List.getElem?_cons_zero]
        rw [is_part]
        refine ⟨by simp; omega, ?_⟩
        have e2 : (if pt.isNo = true then !false else false) = pt.isNo := by cases pt.isNo <;> rfl
        rw [e2]
        simpa using hN
      have hpn : pt.isNo = false → pt ≠ .no := fun h z => by rw [z] at h; cases h
      have hpy : pt.isNo = true → pt = .no := fun h => by
        cases pt with
        | no => rfl
        | _ => cases h
      refine seq_if (b := false) (fun k hk => ?_) (fun hb => by cases hb) fun _ => ?_
      · simp only [s_dAnd, s_dTest, s_dNot, s_dOp, s_dC, s_dVar, List.getElem?_cons_succ, List.getElem?_cons_zero]
        rw [is_part]
        cases q : pt.isNo with
        | true => simpa using hk
        | false =>
          simp only [Bool.false_eq_true, if_false, if_true, s_dCall, s_dCons, s_dNil, s_dVar, List.getElem?_cons_succ, List.getElem?_cons_zero]
          rw [list_part q]
          exact ⟨x.1, x.2, pt.days, rfl, hx.1.ok, hx.2.ok, Part.dates hx.1 hx.2 hpt, Part.parts hx.1 hx.2 hpt (hpn q), hk⟩
      have hba : pt.isNo = true ↔ Alk x.1 x.2 := ⟨fun q => by rw [hpy q] at hpt; exact hpt, fun ha => by
        cases q : pt.isNo with
        | true => rfl
        | false => exact absurd ha (Part.not hpt (hpn q))⟩
      have fin : ∃ (bs' : List Bool) (s8 s9 s10 : Sl), All2 (fun (x : Scr × Scr) b => b = true ↔ Alk x.1 x.2) (pre ++ [x]) bs' ∧
          ([.val (.raw (.ref a)), .val (.raw (.ref p)), s2, .val (.lst (l.map ew)), .val (.lst [encC t0, encC t1, encC t2]), s5, .own ((bs ++ [pt.isNo]).map D.bl), s7, .val (encC x.1), .val (encC x.2), .val (encPart pt), s11] : Rho) = [.val (.raw (.ref a)), .val (.raw (.ref p)), s2, .val (.lst (l.map ew)), .val (.lst [encC t0, encC t1, encC t2]), s5, .own (bs'.map D.bl), s7, s8, s9, s10, s11] := ⟨_, _, _, _, hb.snoc hba, rfl⟩
      simp only [s_dIfS, s_dAnd, s_dTest, s_dNot, s_dOp, s_dC, s_dVar, List.getElem?_cons_succ, List.getElem?_cons_zero]
      rw [is_part]
      cases q : pt.isNo with
      | false =>
        rw [q] at fin
        simpa using fin
      | true =>
        simp only [Bool.not_false, if_true, s_dCall, s_dCons, s_dNil, s_dVar, List.getElem?_cons_succ, List.getElem?_cons_zero]
        refine ⟨p, x.1, x.2, hR, rfl, hx.1, hx.2, hba.mp q, ?_⟩
        rw [q] at fin
        exact fin
    · subst hρ
      cases hb with
      | cons h0 hb => cases hb with
        | cons h1 hb => cases hb with
          | cons h2 hb => cases hb with
            | nil => exact hN _ _ _ _ _ _ h0 h1 h2
  refine frz_to (ds := [b0, b1, b2].map D.bl) rfl ?_
  show dSeq _ _ _ [.val (.raw (.ref a)), .val (.raw (.ref p)), s2, .val (.lst (l.map ew)), .val (.lst [encC t0, encC t1, encC t2]), s5, .val (.lst ([b0, b1, b2].map D.bl)), s7, s8, s9, s10, s11]
  refine seq_if (b := false) (fun k hk => ?_) (fun hb => by cases hb) fun _ => ?_
  · refine ⟨[b0, b1, b2], rfl, ?_⟩
    have a01 := alk_al ht0.ok ht1.ok
    have a12 := alk_al ht1.ok ht2.ok
    have a02 := alk_al ht0.ok ht2.ok
    have hc : ([b0, b1, b2].count true : Nat) ≠ 2 := by
      cases b0 <;> cases b1 <;> cases b2 <;> simp at hb0 hb1 hb2 ⊢
      · exact hb0 (a01.mpr ((a02.mp hb2).trans (a12.mp hb1).symm))
      · exact hb1 (a12.mpr ((a01.mp hb0).symm.trans (a02.mp hb2)))
      · exact hb2 (a02.mpr ((a01.mp hb0).trans (a12.mp hb1)))
    dsimp only
    rw [s_dC, s_eq_i, decide_eq_false (by omega)]
    exact hk
  refine seq_gen (fun N => ∀ lot ∈ lots t1.length, Alk t1 (pick t1 lot) → (∀ lot2 ∈ lots t1.length, lot2.length < lot.length → ¬ Alk t1 (pick t1 lot2)) →
    N [.val (.raw (.ref a)), .val (.raw (.ref p)), s2, .val (.lst (l.map ew)), .val (.lst [encC t0, encC t1, encC t2]), s5, .val (.lst ([b0, b1, b2].map D.bl)), .val (encC (pick t1 lot)), s8, s9, s10, s11]) (fun N hN => ?_) fun lot h1 h2 h3 => ?_
  · simp only [s_dAsg, s_dCall, s_dCons, s_dNil, s_dC, s_dVar, s_dOp, s_dLc, s_dIter, s_ix_l, atI1, List.getElem?_cons_succ, List.getElem?_cons_zero]
    refine ⟨t1, rfl, ht1.small, by omega, fun lot h1 h2 h3 => ?_⟩
    have hxl := lot_len _ lot h1
    refine lcAll lot (fun (i : Nat) => D.int (i : Int)) (fun i => ((t1[i]?).map encS).getD .non) (fun i hi Kt ht => ?_) (by omega) ?_
    · have hil := lot_lt _ lot h1 i hi
      simp only [s_dgName, wipeR, List.set_cons_succ, List.set_cons_zero, s_dOp, s_dC, s_dVar, s_ix_l, atI1, List.getElem?_cons_succ, List.getElem?_cons_zero]
      refine ⟨rfl, t1, i, t1[i], rfl, List.getElem?_eq_getElem hil, ?_⟩
      rw [List.getElem?_eq_getElem hil] at ht
      exact ht
    · have e2 : lot.map (fun i => ((t1[i]?).map encS).getD .non) = (pick t1 lot).map encS := by
        have : ∀ y : List Nat, (∀ i ∈ y, i < t1.length) → y.map (fun i => ((t1[i]?).map encS).getD .non) = (pick t1 y).map encS := fun y => by
          induction y with
          | nil => intro _; rfl
          | cons i y ih =>
            intro hy
            have h1 := ih fun j hj => hy j (List.mem_cons_of_mem _ hj)
            have h2 := hy i List.mem_cons_self
            unfold pick at h1 ⊢
            simp [List.getElem?_eq_getElem h2, h1]
        exact this lot fun i hi => lot_lt _ lot h1 i hi
      rw [e2]
      have hs : List.Sublist (pick t1 lot) t1 := by
        have := pick_sub t1 t1.length (Nat.le_refl _) lot h1
        rwa [List.take_length] at this
      exact ⟨_, pick t1 lot, rfl, .inl rfl, ht1.ok.sub hs, hN lot h1 h2 h3⟩
  · obtain ⟨c1, c2, c3⟩ := cut_idle ht1.small h1 h2 h3
    simp only [s_dIfS, s_dOr, s_dNot, s_dTest, s_dCall, s_dCons, s_dNil, s_dC, s_dVar, s_dOp, s_ix_l, atI1, List.getElem?_cons_succ, List.getElem?_cons_zero]
    refine ⟨pick t1 lot, t1, rfl, c1, ht1.small, fun _ => ?_, fun z => absurd c2 z⟩
    simp only [Bool.not_true, Bool.false_eq_true, if_false]
    refine ⟨pick t1 lot, rfl, c1, c3, ?_⟩
    refine ⟨Nat.zero_le _, ?_⟩
    have e : opEq true (.lst []) (.lst []) = opEq true (.lst (([] : List Stp).map ew)) (.lst []) := rfl
    dsimp only
    rw [e, s_eq_nil, decide_eq_true rfl]
    exact hE _ _ _ _ _ _ _ _ _ _
end Dl
set_option Elab.async false
set_option linter.all false
set_option maxRecDepth 100000
set_option maxHeartbeats 2000000
/-! The law. -/
namespace Dl
open PySem PySem.Spec PyProof.Rows L2
theorem sem_forAt {m : Pm} {R : Res} {wi : TI} {di : TdI} {g : TG} {dg : TdG} {js : List Nat} {t : TS} {td : TdS} {S : Start} {ρ : Rho} {σ : L2.St} {G H : Hp} {De : EndsD} {Dd : Ends} (hi : SemIAt m R wi di ρ σ G H) (hg : SemG m js g dg) (hb : SemS m R t td) (st : StOk m R S ρ σ G H) (cm : Compat m R S De Dd) (h : dFor di dg td De ρ) : tFor wi g t Dd σ H := by
  refine hi _ _ h fun J ds G1 H1 e1 wk ⟨I, h0, hs, hd⟩ => ?_
  have st1 := (st.step e1).base (Same.refl G1)
  have sB : Same S.B G1 := st.bs.trans e1.gg
  refine ⟨fun i n σ' H' => n = ds.length - i ∧ i ≤ ds.length ∧ ∃ ρ' G', StOk m R { S with B := G1 } ρ' σ' G' H' ∧ I i ρ', ⟨_, rfl, Nat.zero_le _, ρ, G1, st1, h0⟩, ?_⟩
  rintro i n σ' H' ⟨rfl, hil, ρ', G', st', hI⟩
  by_cases hlt : i < ds.length
  · refine .inr ⟨wk.goes i G' H' hlt st'.bs st'.gh, fun σ2 H2 => ∃ ρ2 G2, StOk m R { S with B := G1 } ρ2 σ2 G2 H2 ∧ I (i + 1) ρ2, fun σ2 H2 hh => ⟨ds.length - (i + 1), by omega, rfl, hlt, hh⟩, fun x H2 y => ?_⟩
    obtain ⟨d, G2, hd1, e2, r2⟩ := wk.yields i G' H' x H2 hlt st'.bs st'.gh y
    have st2 := st'.step e2
    refine hg G2 H2 x d ρ' σ' _ _ st2.gh.s r2 (hs i d ρ' hd1 hI) fun l hl hk => ?_
    refine hb { S with B := G1 } _ _ G2 H2 { De with nx := I (i + 1), ct := I (i + 1), bk := De.nx } _ (StOk.sets l st2 fun q hq => (hl q hq).2) ⟨fun ρ3 σ3 G3 H3 s3 h3 => ⟨ρ3, G3, s3, h3⟩, fun v d G3 H3 e3 r3 h3 => cm.rt v d G3 H3 e3 r3 h3, fun ρ3 σ3 G3 H3 s3 h3 => cm.nx ρ3 σ3 G3 H3 (s3.weakB sB) h3, fun ρ3 σ3 G3 H3 s3 h3 => ⟨ρ3, G3, s3, h3⟩⟩ hk
  · have e : i = ds.length := by omega
    subst e
    exact .inl ⟨wk.stops G' H' st'.bs st'.gh, cm.nx ρ' σ' G' H' (st'.weakB sB) (hd ρ' hI)⟩
abbrev tLawN (K : PySem.W.Frag) : TA := tCons (tOp (fun x y H Q => rI0 (fun i j => .int (i + j)) x y H Q ∨ rCatA K x y H Q ∨ rCat x y H Q) (tC (.int 2)) (tCB (fun xs H Q => (∃ i j, xs = [.int i, .int j] ∧ Q (.int (if j < i then j else i)) H) ∨ rMin K xs H Q)
  (tCons (tCB (fun xs H Q => ∃ p ys, xs = [.ref p] ∧ (SqL K H p ys ∨ SqT K H p ys) ∧ Q (.int ys.length) H) (tCons (tVar 0) tNil)) (tCons (tC (.int 5)) tNil)))) tNil
theorem rng_at {m : Pm} {R : Res} {K : PySem.W.Frag} {ρ : Rho} {σ : L2.St} {G H : Hp} {a : Addr} {ns : List Int} (hi : σ[0]? = some (some (.ref a))) (hl : ns.length ≤ 63) (hS : SqL K H a (ns.map V.int)) (gh : GH R G H) : SemIAt m R (iRng1 (tLawN K)) (fun _ k => ∀ n : Nat, k (rngD 0 n)) ρ σ G H := by
  intro k RR h q
  have hn : ((ns.map V.int).length : Int) ≤ 63 := by simp; omega
  refine ⟨.ref a, hi, a, _, rfl, .inl hS, .inl ⟨_, 5, rfl, .inl ⟨2, _, rfl, rfl, ⟨_, rfl, ?_, ?_, q _ _ G H (Ext.refl gh) walkD_range (h _)⟩⟩⟩⟩
  · split <;> omega
  · split <;> omega
def spLaw (K : PySem.W.Frag) : Sp := fun vs H Q _ => ∃ (a : Addr) (ns : List Int), vs = [.ref a] ∧ ns.length ≤ 63 ∧ SqL K H a (ns.map V.int) ∧ ∀ H', Q (.bl true) H'
theorem pure_law {K : PySem.W.Frag} {m : Pm} {N : List Str} {a : Addr} {ns : List Int} {H : Hp} {D : Ends} {tb : TS} (hN : N.length = 12) (hl : ns.length ≤ 63) (hS : SqL K H a (ns.map V.int)) (hQ : ∀ H', D.rt (.bl true) H') (hb : ∀ R, SemS m R tb (d_law_body m R)) :
    tSeq (tAsg (tCB (fun vs H Q => spBegun K vs H Q E0) (tCons (tVar 0) tNil)) (gName 1)) (tSeq (tFor (iRng1 (tLawN K)) (gName 2) tb) (tRet (tC (.bl true)))) D (L2.start N [.ref a]) H := by
  refine ⟨.ref a, rfl, a, ns, rfl, hl, hS, fun p w c ce wi H' d hS' => ?_⟩
  have hR : IsDr (drawR p w c ce) p := ⟨w, c, ce, rfl⟩
  have gh : GH (drawR p w c ce) (fun _ => none) H' := ⟨fun b o e => (by cases e), ⟨wi, 0, 0, d⟩, fun b hb => ⟨rfl, by
    rcases hb with e | e | e
    · exact ⟨_, by rw [e]; exact d.hd⟩
    · exact ⟨_, by rw [e]; exact d.hw⟩
    · exact ⟨_, by rw [e]; exact d.hc⟩⟩⟩
  have st0 : StOk m (drawR p w c ce) ⟨fun _ => none, H', fun _ => none⟩ (startD N.length [.raw (.ref a)]) (L2.start N [.ref a]) (fun _ => none) H' := startD_ok (.cons (.raw _) .nil) gh (by simp; omega)
  have st := st0.setV (i := 1) (Rep.raw (m := m) (G := fun _ => none) (.ref p))
  rw [hN] at st
  refine sem_forAt (De := { nx := fun _ => True, rt := fun _ => False }) (rng_at ?_ hl hS' gh) (sem_gname 2) (hb _) st ⟨fun ρ σ G H2 _ _ => hQ H2, fun v d G' H' e r' hk => hk.elim, fun _ _ _ _ _ z => z.elim, fun _ _ _ _ _ z => z.elim⟩ fun n => ?_
  · match N, hN with
    | [_, _, _, _, _, _, _, _, _, _, _, _], _ => rfl
  · refine ⟨fun _ ρ => ∃ s2 s3 s4 s5 s6 s7 s8 s9 s10 s11, ρ = [.val (.raw (.ref a)), .val (.raw (.ref p)), s2, s3, s4, s5, s6, s7, s8, s9, s10, s11], ⟨_, _, _, _, _, _, _, _, _, _, rfl⟩, fun i d ρ' hd ⟨s2, s3, s4, s5, s6, s7, s8, s9, s10, s11, hρ⟩ => ?_, fun _ _ => trivial⟩
    subst hρ
    refine law_body m _ p hR a _ (fun s2 s3 s4 s5 s6 s7 s8 s9 s10 s11 => ?_) (.val d) s3 s4 s5 s6 s7 s8 s9 s10 s11
    exact ⟨s2, s3, s4, s5, s6, s7, s8, s9, s10, s11, rfl⟩
def lawFor : List Stmt := match defBody (top 88) with
  | [_, .For _ _ body _ _, _] => body
  | _ => []
def lawIter : List Expr := match defBody (top 88) with
  | [_, .For _ (.Call _ es _ _) _ _ _, _] => es
  | _ => []
theorem ok_lawF {P : Program} {w : World} {K : PySem.W.Frag} {mg : Str → Option Value} {base : Heap} {fd : FuncData} (c : Sys K mg) (F : FunD K p_law.name p_law.qual (defArgs p_law.st) (defBody p_law.st) (defScope p_law.st) (p_law.dvs K) [] ((p_law).at_ K) fd) : FnOk P w K mg base CX0 14 ((p_law).at_ K) fd ["_law_script"] (spLaw K) := by
  have S : FnScope ["_law_script", "_law_draw", "_law_turn", "_law_steps", "_law_line", "_law_lap", "_law_marks", "_law_short", "_law_one", "_law_other", "_law_dates_here", "_law_at"] ["_law_script"] (defScope (top 88)) := ⟨rfl, rfl, rfl, by decide +kernel, rfl, by decide +kernel, by decide +kernel⟩
  have hN : (["_law_script", "_law_draw", "_law_turn", "_law_steps", "_law_line", "_law_lap", "_law_marks", "_law_short", "_law_one", "_law_other", "_law_dates_here", "_law_at"] : List Str).Nodup := S.nd
  refine F.ok S (fun vs H Q E h => ?_) fun cdv A outer s H vs Q E hr h => ?_
  · obtain ⟨a, ns, rfl, _⟩ := h
    rfl
  · obtain ⟨a, ns, rfl, hl, hS, hQ⟩ := h
    obtain ⟨tb, hs, hb⟩ : ∃ tb, PSs (cxOf CX0 P w K mg base ["_law_script", "_law_draw", "_law_turn", "_law_steps", "_law_line", "_law_lap", "_law_marks", "_law_short", "_law_one", "_law_other", "_law_dates_here", "_law_at"] p_law.qual (defScope (top 88)) ((p_law).at_ K) cdv A outer s H E).nox (defBody (top 88)) (tSeq (tAsg (tCB (fun vs H Q => spBegun K vs H Q E0) (tCons (tVar 0) tNil)) (gName 1)) (tSeq (tFor (iRng1 (tLawN K)) (gName 2) tb) (tRet (tC (.bl true))))) ∧
        ∀ R, SemS (pm K w) R tb (d_law_body (pm K w) R) := by
      obtain ⟨tb, hb⟩ : ∃ tb, ∀ R, PDSs (pm K w) R (cxOf CX0 P w K mg base ["_law_script", "_law_draw", "_law_turn", "_law_steps", "_law_line", "_law_lap", "_law_marks", "_law_short", "_law_one", "_law_other", "_law_dates_here", "_law_at"] p_law.qual (defScope (top 88)) ((p_law).at_ K) cdv A outer s H E).nox lawFor tb (d_law_body (pm K w) R) := ⟨_, fun R => pdss_cons (pds_set 3 hN (pd_call (raw_l_tiny c) (hr.mono (by decide : 7 ≤ 13)) rfl c.g_l_tiny c.k_l_tiny (pda_cons (pd 1) (pda_cons (pd_int) (pda_cons (pd_bl) (pda_nil)))))) (pdss_cons (pds_setS 4 hN (sl_lst (pda_cons (pd_call (raw_l_made c) (hr.mono (by decide : 8 ≤ 13)) rfl c.g_l_made c.k_l_made (pda_cons (pd 3) (pda_nil))) (pda_nil)))) (pdss_cons (pds_for rfl (pdi_rng1 rfl c.n_range (pda_cons (pd_int) (pda_nil))) (pdg_name 5 hN) (pdss_one (pds_app 4 (pd_call (raw_l_made c) (hr.mono (by decide : 8 ≤ 13)) rfl c.g_l_made c.k_l_made (pda_cons (k_slice (K := K) (pd_call (raw_l_cut c) (hr.mono (by decide : 1 ≤ 13)) rfl c.g_l_cut c.k_l_cut (pda_cons (pd_call (raw_l_kin c) (hr.mono (by decide : 8 ≤ 13)) rfl c.g_l_kin c.k_l_kin (pda_cons (pd 1) (pda_cons (pd 3) (pda_nil)))) (pda_nil))) (pdo_none) (pdo_some (pd_int))) (pda_nil)))))) (pdss_cons (pds_setS 6 hN (sl_lst (pda_nil))) (pdss_frz 4 (pdss_cons (pds_for rfl (ki_seq (K := K) (pd_lst (pda_cons (pd_tup (pda_cons (k_ix (K := K) (pd 4) (pd_int)) (pda_cons (k_ix (K := K) (pd 4) (pd_int)) (pda_nil)))) (pda_cons (pd_tup (pda_cons (k_ix (K := K) (pd 4) (pd_int)) (pda_cons (k_ix (K := K) (pd 4) (pd_int)) (pda_nil)))) (pda_cons (pd_tup (pda_cons (k_ix (K := K) (pd 4) (pd_int)) (pda_cons (k_ix (K := K) (pd 4) (pd_int)) (pda_nil)))) (pda_nil)))))) (kg_tup (K := K) rfl (pgn_cons 8 hN (pgn_cons 9 hN (pgn_nil)))) (pdss_cons (pds_set 10 hN (pd_call (raw_parting c) (hr.mono (by decide : 11 ≤ 13)) rfl c.g_parting c.k_parting (pda_cons (pd 8) (pda_cons (pd 9) (pda_nil))))) (pdss_cons (pds_app 6 (pd_cmp od_is (pd 10) (pd_non))) (pdss_cons (pds_if (PDW.pt (pdw_and (pdt_cmp od_isn (pd 10) (pd_non)) (pdw_and1 (pdt_not (pdt_val (pd_call (raw_l_parted_right c) (hr.mono (by decide : 12 ≤ 13)) rfl c.g_l_parted_right c.k_l_parted_right (pda_cons (pd 8) (pda_cons (pd 9) (pda_cons (pd_callTy (kd_list (K := K)) rfl c.n_list (by rfl) (pda_cons (pd 10) (pda_nil))) (pda_nil)))))))))) (pdss_one (pds_ret (pd_bl))) (pdss_nil)) (pdss_one (pds_if (PDW.pt (pdw_and (pdt_cmp od_is (pd 10) (pd_non)) (pdw_and1 (pdt_not (pdt_val (pd_call (raw_l_alike_right c) (hr.mono (by decide : 13 ≤ 13)) rfl c.g_l_alike_right c.k_l_alike_right (pda_cons (pd 1) (pda_cons (pd 8) (pda_cons (pd 9) (pda_nil)))))))))) (pdss_one (pds_ret (pd_bl))) (pdss_nil))))))) (pdss_frz 6 (pdss_cons (pds_if (pdt_cmp (ke_eq (K := K) hr.units) (pd_count (K := K) (pd 6) (pd_bl)) (pd_int)) (pdss_one (pds_ret (pd_bl))) (pdss_nil)) (pdss_cons (pds_set 7 hN (pd_make (n := 1) c.mk_Script (raw_Script_init c) (hr.mono (by decide : 7 ≤ 13)) rfl c.g_Script (pda_cons (pd_lc [("_law_at", 11)] rfl hN (ki_seq (K := K) (pd_call (raw_cut_down c) (hr.mono (by decide : 13 ≤ 13)) rfl c.g_cut_down c.k_cut_down (pda_cons (k_ix (K := K) (pd 4) (pd_int)) (pda_nil)))) (blkOk_by (N := ["_law_script", "_law_draw", "_law_turn", "_law_steps", "_law_line", "_law_lap", "_law_marks", "_law_short", "_law_one", "_law_other", "_law_dates_here", "_law_at"]) (sc := defScope (top 88)) (by decide +kernel)) (fun _ _ _ _ _ => pdg_name 11 hN) (fun _ _ _ _ _ => pdts_nil) (fun _ _ _ _ _ => pd_ixO c.o_getitem (raw_Script_getitem c) (hr.mono (by decide : 4 ≤ 13)) (k_ix (K := K) (pd 4) (pd_int)) (pd 11))) (pda_nil)))) (pdss_one (pds_if (PDW.pt (pdw_or (pdt_not (pdt_val (pd_call (raw_alike c) (hr.mono (by decide : 12 ≤ 13)) rfl c.g_alike c.k_alike (pda_cons (pd 7) (pda_cons (k_ix (K := K) (pd 4) (pd_int)) (pda_nil)))))) (pdw_or1 (pdt_cmp (ke_ne (K := K) hr.units) (pd_call (raw_idle_steps c) (hr.mono (by decide : 13 ≤ 13)) rfl c.g_idle_steps c.k_idle_steps (pda_cons (pd 7) (pda_nil))) (pd_lst (pda_nil)))))) (pdss_one (pds_ret (pd_bl))) (pdss_nil)))))))))))⟩
      have hi : PDA (pm K w) Res.nil (cxOf CX0 P w K mg base ["_law_script", "_law_draw", "_law_turn", "_law_steps", "_law_line", "_law_lap", "_law_marks", "_law_short", "_law_one", "_law_other", "_law_dates_here", "_law_at"] p_law.qual (defScope (top 88)) ((p_law).at_ K) cdv A outer s H E).nox lawIter (tLawN K) (dCons (dOp opAdd (dC (.int 2)) (dCall fMin (dCons (dCall fLen (dCons (dVar 0) (dNil))) (dCons (dC (.int 5)) (dNil))))) (dNil)) :=
        (pda_cons (pd_op (ke_add (K := K)) (pd_int) (pd_callB (kd_min (K := K) rfl) rfl c.n_min (by rfl) (pda_cons (pd_callB (kd_len (K := K)) rfl c.n_len (by rfl) (pda_cons (pd 0) (pda_nil))) (pda_cons (pd_int) (pda_nil))))) (pda_nil))
      refine ⟨tb, pss_cons (ps_set (i := 1) hN rfl (Or.inl rfl) (pe_callR (raw_l_begun c) (hr.mono (by decide : 1 ≤ 13)) rfl c.g_l_begun c.k_l_begun (pa_cons (pv 0) pa_nil))) (pss_cons (ps_for PassesOwn.never rfl (pi_range1 rfl c.n_range hi.pe)
        (pdg_name (m := pm K w) 2 hN).pe (hb Res.nil).pe) (pss_one (ps_ret pe_bl))), fun R => (hb R).sem⟩
    exact ⟨_, hs.nox, pure_law rfl hl hS hQ hb⟩
end Dl
set_option Elab.async false
set_option linter.all false
set_option maxRecDepth 100000
set_option maxHeartbeats 0
/-! The end: the head and the law. -/
namespace Dl
open PySem PySem.Spec PyProof.Rows L2
theorem facts {P : Program} {w : World} {K : PySem.W.Frag} {h : Heap} {mg : Str → Option Value} {f : Addr} (X : K.In h) (G : h.Ns mainGlobals mg) (hfa : mg ("law" : Str) = some (.ref f)) (c : obsP K = valP) :
    ∃ fd : FuncData, (∀ (s : Shared) (v : Value), BindsTo s fd ⟨[v], []⟩ [("_law_script", v)]) ∧ ∀ base : Heap, K.In base → base.Ns mainGlobals mg → FnOk P w K mg base CX0 14 f fd ["_law_script"] (spLaw K) := by
  have S := sys_of X G c
  have e := hfa.symm.trans S.g_law
  cases e
  obtain ⟨fd, hd⟩ := S.d_law
  have b := FunD.bindsA (ps := ["_law_script"]) hd fun _ _ _ _ _ _ us hl => match us, hl with | [_], _ => rfl
  refine ⟨fd, fun s v => b s [v] rfl, fun base _ _ => ?_⟩
  exact ok_lawF S hd
end Dl
open PySem PySem.W PySem.Calls PyProof.Rows
theorem PySem.Challenge.cw_stillstruck_k38_whole_alike_scripts_holds : PySem.Challenge.rw_stillstruck_k38_whole_alike_scripts.Holds := by
  w_on; o_law
  refine HandSHeadRun.head_any (r := OpenLaw.row PySem.Challenge.rw_stillstruck_k38_whole_alike_scripts) (q := view (OpenLaw.row PySem.Challenge.rw_stillstruck_k38_whole_alike_scripts).prog [88]) (H := Dl.hookP) (ob := Dl.obP) (M := 5400) (loose := Dl.looseL) (d := HandSHeadRun.topDef (OpenLaw.row PySem.Challenge.rw_stillstruck_k38_whole_alike_scripts).prog 88) (kwd := []) Dl.obP_eq
    (by kernel_rfl) (fun s => by kernel_rfl) Dl.runP (by kernel_rfl) (by kernel_rfl) (by kernel_rfl) (by rfl) (by first | assumption | decide +kernel) (by decide +kernel) ⟨rfl, rfl, rfl, rfl, rfl, by decide +kernel⟩ ?hw ?hc
  case hw => w_witness2
  case hc =>
    refine L2.walk_ofE (l := PySem.Challenge.rw_stillstruck_k38_whole_alike_scripts) (n := 63) (k := 14) (x := "_law_script") (CX := L2.CX0) rfl (by decide) (by kernel_rfl) ⟨rfl, by decide, by decide⟩ ?F (fun _ _ _ _ z => z)
    intro w mg fa h Y G hmg0
    obtain ⟨K, KX, c⟩ := Y
    have hmg : mg ("law" : PySem.Str) = some (.ref fa) := by
      have e : (HandSHeadRun.topDef (OpenLaw.row PySem.Challenge.rw_stillstruck_k38_whole_alike_scripts).prog 88).name = ("law" : PySem.Str) := by kernel_rfl
      rw [← e]
      exact hmg0
    obtain ⟨fd, hb, hF⟩ := Dl.facts (P := (PySem.Challenge.rw_stillstruck_k38_whole_alike_scripts).prog) (w := w) KX G hmg c
    exact ⟨K, fd, Dl.spLaw K, KX, hb, fun H a ns hl _ hS => ⟨a, ns, rfl, hl, hS, fun _ => rfl⟩, hF⟩
