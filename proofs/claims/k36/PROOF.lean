import PyProof.Rows.All
import Wide.All
import OpenK.AllK
import Wide.FinOn
import PySem.Challenge.RW_eachentry_k36_whole_blockers_blocked_aga
import HandS.ForExc
import HandS.Comp
import HandS.Iter
import HandS.Zip
import HandS.IsInst
import HandS.Deep
import HandS.TupAny
import HandS.SortInts
import HandS.Strs
import HandS.SetFor
import HandS.TupSets
import HandS.SetBool
import KE.SortCalls
import KE.SortData
import HandS.MakeKwOnly
import HandS.Style
set_option Elab.async false
set_option linter.all false
set_option maxRecDepth 100000
set_option maxHeartbeats 8000000
/-! DL: a calculus of data over the hand layer. Values are data (lists and tuples by value), and a small store G of the objects that the body itself changes. A reading t over data is laid down to a reading of the hand layer by conc. -/
namespace DL
open PySem PySem.Spec PyProof.Rows L2

/-- a value as data; ref: an object of the store, a def, a class .. -/
inductive D where
  | non | bl (b : Bool) | int (i : Int) | str (s : Str) | ty (n : String) | ref (a : Addr)
  | lst (xs : List D) | tup (xs : List D)

mutual
/-- v stands for the data d over the heap F -/
inductive Rep (K : PySem.W.Frag) (F : Hp) : V → D → Prop
  | non : Rep K F .non .non
  | bl (b : Bool) : Rep K F (.bl b) (.bl b)
  | int (i : Int) : Rep K F (.int i) (.int i)
  | str (x : Str) : Rep K F (.str x) (.str x)
  | ty (n : String) : Rep K F (.ty n) (.ty n)
  | ref (a : Addr) : Rep K F (.ref a) (.ref a)
  | lst {a : Addr} {vs : List V} {ds : List D} : F a = some (.lst vs) → vs.length ≤ sizeLine → Reps K F vs ds → Rep K F (.ref a) (.lst ds)
  | tup {a : Addr} {vs : List V} {ds : List D} : SqT K F a vs → vs.length ≤ sizeLine → Reps K F vs ds → Rep K F (.ref a) (.tup ds)
inductive Reps (K : PySem.W.Frag) (F : Hp) : List V → List D → Prop
  | nil : Reps K F [] []
  | cons {v : V} {d : D} {vs : List V} {ds : List D} : Rep K F v d → Reps K F vs ds → Reps K F (v :: vs) (d :: ds)
end

/-- F' holds all that F holds -/
abbrev Sub (F F' : Hp) : Prop := ∀ a o, F a = some o → F' a = some o
theorem sub_sqT {K : PySem.W.Frag} {F F' : Hp} {a : Addr} {xs : List V} (e : Sub F F') (h : SqT K F a xs) : SqT K F' a xs := by
  rcases h with (h | ⟨o, h⟩) | h
  · exact Or.inl (Or.inl (e _ _ h))
  · exact Or.inl (Or.inr ⟨o, e _ _ h⟩)
  · exact Or.inr h
mutual
theorem Rep.mono {K : PySem.W.Frag} {F F' : Hp} (e : Sub F F') : ∀ {v : V} {d : D}, Rep K F v d → Rep K F' v d
  | _, _, .non => .non
  | _, _, .bl b => .bl b
  | _, _, .int i => .int i
  | _, _, .str x => .str x
  | _, _, .ty n => .ty n
  | _, _, .ref a => .ref a
  | _, _, .lst h z r => .lst (e _ _ h) z (Reps.mono e r)
  | _, _, .tup h z r => .tup (sub_sqT e h) z (Reps.mono e r)
theorem Reps.mono {K : PySem.W.Frag} {F F' : Hp} (e : Sub F F') : ∀ {vs : List V} {ds : List D}, Reps K F vs ds → Reps K F' vs ds
  | _, _, .nil => .nil
  | _, _, .cons r t => .cons (Rep.mono e r) (Reps.mono e t)
end
theorem Reps.len {K : PySem.W.Frag} {F : Hp} : ∀ {vs : List V} {ds : List D}, Reps K F vs ds → vs.length = ds.length
  | _, _, .nil => rfl
  | _, _, .cons _ t => congrArg (· + 1) (Reps.len t)
theorem Reps.app {K : PySem.W.Frag} {F : Hp} : ∀ {vs ws : List V} {ds es : List D}, Reps K F vs ds → Reps K F ws es → Reps K F (vs ++ ws) (ds ++ es)
  | _, _, _, _, .nil, s => s
  | _, _, _, _, .cons r t, s => .cons r (Reps.app t s)
theorem Reps.get {K : PySem.W.Frag} {F : Hp} : ∀ {vs : List V} {ds : List D} {i : Nat} {v : V}, Reps K F vs ds → vs[i]? = some v → ∃ d, ds[i]? = some d ∧ Rep K F v d
  | _, _, _, _, .nil, e => by simp at e
  | _, _, 0, _, .cons r _, e => by simp at e; subst e; exact ⟨_, rfl, r⟩
  | _, _, i + 1, v, .cons _ t, e => by
    obtain ⟨d, h1, h2⟩ := Reps.get (i := i) (v := v) t (by simpa using e)
    exact ⟨d, by simpa using h1, h2⟩
theorem Reps.getD {K : PySem.W.Frag} {F : Hp} : ∀ {vs : List V} {ds : List D} {i : Nat} {d : D}, Reps K F vs ds → ds[i]? = some d → ∃ v, vs[i]? = some v ∧ Rep K F v d
  | _, _, _, _, .nil, e => by simp at e
  | _, _, 0, _, .cons r _, e => by simp at e; subst e; exact ⟨_, rfl, r⟩
  | _, _, i + 1, d, .cons _ t, e => by
    obtain ⟨v, h1, h2⟩ := Reps.getD (i := i) (d := d) t (by simpa using e)
    exact ⟨v, by simpa using h1, h2⟩
theorem Reps.take {K : PySem.W.Frag} {F : Hp} : ∀ {vs : List V} {ds : List D} (n : Nat), Reps K F vs ds → Reps K F (vs.take n) (ds.take n)
  | _, _, 0, _ => .nil
  | _, _, _ + 1, .nil => .nil
  | _, _, n + 1, .cons r t => .cons r (Reps.take n t)
theorem Reps.drop {K : PySem.W.Frag} {F : Hp} : ∀ {vs : List V} {ds : List D} (n : Nat), Reps K F vs ds → Reps K F (vs.drop n) (ds.drop n)
  | _, _, 0, r => r
  | _, _, _ + 1, .nil => .nil
  | _, _, n + 1, .cons _ t => Reps.drop n t
theorem Reps.set {K : PySem.W.Frag} {F : Hp} {v : V} {d : D} (r : Rep K F v d) : ∀ {vs : List V} {ds : List D} (i : Nat), Reps K F vs ds → Reps K F (vs.set i v) (ds.set i d)
  | _, _, _, .nil => .nil
  | _, _, 0, .cons _ t => .cons r t
  | _, _, i + 1, .cons q t => .cons q (Reps.set r i t)
theorem Reps.rev {K : PySem.W.Frag} {F : Hp} : ∀ {vs : List V} {ds : List D}, Reps K F vs ds → Reps K F vs.reverse ds.reverse
  | _, _, .nil => .nil
  | _, _, .cons r t => by
    rw [List.reverse_cons, List.reverse_cons]
    exact (Reps.rev t).app (.cons r .nil)
theorem Reps.ints {K : PySem.W.Frag} {F : Hp} : ∀ {vs : List V} {ns : List Int}, Reps K F vs (ns.map D.int) → vs = ns.map V.int
  | _, [], h => by cases h; rfl
  | _, n :: ns, h => by
    cases h with
    | cons r t =>
      cases r
      exact congrArg _ (Reps.ints t)
theorem Reps.of_ints {K : PySem.W.Frag} {F : Hp} : ∀ (ns : List Int), Reps K F (ns.map V.int) (ns.map D.int)
  | [] => .nil
  | n :: ns => .cons (.int n) (Reps.of_ints ns)
theorem Reps.bls {K : PySem.W.Frag} {F : Hp} : ∀ {vs : List V} {bs : List Bool}, Reps K F vs (bs.map D.bl) → vs = bs.map V.bl
  | _, [], h => by cases h; rfl
  | _, n :: ns, h => by
    cases h with
    | cons r t =>
      cases r
      exact congrArg _ (Reps.bls t)

/-- an object of the store: a list -/
inductive MO where
  | lst (xs : List D)
abbrev GM := Addr → Option MO
def updG (G : GM) (a : Addr) (m : MO) : GM := fun b => if b = a then some m else G b
def delG (G : GM) (a : Addr) : GM := fun b => if b = a then none else G b
theorem updG_same {G : GM} {a : Addr} {m : MO} : updG G a m a = some m := by unfold updG; rw [if_pos rfl]
theorem updG_ne {G : GM} {a b : Addr} {m : MO} (h : b ≠ a) : updG G a m b = G b := by unfold updG; rw [if_neg h]
theorem delG_ne {G : GM} {a b : Addr} (h : b ≠ a) : delG G a b = G b := by unfold delG; rw [if_neg h]
theorem delG_same {G : GM} {a : Addr} : delG G a a = none := by unfold delG; rw [if_pos rfl]
theorem updG_upd {G : GM} {a : Addr} {m n : MO} : updG (updG G a m) a n = updG G a n := by
  funext b; unfold updG; split <;> rfl

def MRep (K : PySem.W.Frag) (F H : Hp) (a : Addr) : MO → Prop
  | .lst ds => ∃ vs, H a = some (.lst vs) ∧ vs.length ≤ sizeLine ∧ Reps K F vs ds

/-- F: what stands for ever; G: what may change; both within H -/
structure Ok (K : PySem.W.Frag) (F : Hp) (G : GM) (H : Hp) : Prop where
  sub : Sub F H
  g : ∀ a m, G a = some m → F a = none ∧ MRep K F H a m
/-- one step on -/
structure Ext (K : PySem.W.Frag) (F : Hp) (G : GM) (H : Hp) (F' : Hp) (G' : GM) (H' : Hp) : Prop where
  ok : Ok K F' G' H'
  mono : Sub F F'
  new : ∀ a o, F' a = some o → F a = some o ∨ H a = none ∨ G a ≠ none
  frame : ∀ a o, H a = some o → G a = none → H' a = some o
  gnew : ∀ a, G' a ≠ none → G a ≠ none ∨ H a = none
  dom : ∀ a, H' a = none → H a = none
theorem Ext.refl {K : PySem.W.Frag} {F : Hp} {G : GM} {H : Hp} (o : Ok K F G H) : Ext K F G H F G H := ⟨o, fun _ _ h => h, fun _ _ h => .inl h, fun _ _ h _ => h, fun _ h => .inl h, fun _ h => h⟩
theorem Ext.trans {K : PySem.W.Frag} {F F1 F2 : Hp} {G G1 G2 : GM} {H H1 H2 : Hp} (x : Ext K F G H F1 G1 H1) (y : Ext K F1 G1 H1 F2 G2 H2) : Ext K F G H F2 G2 H2 where
  ok := y.ok
  mono := fun a o h => y.mono a o (x.mono a o h)
  new := fun a o h => by
    rcases y.new a o h with h | h | h
    · exact x.new a o h
    · refine .inr ?_
      cases e : H a with
      | none => exact .inl rfl
      | some u =>
        right
        intro g
        rw [x.frame a u e g] at h
        cases h
    · rcases x.gnew a h with g | g
      · exact .inr (.inr g)
      · exact .inr (.inl g)
  frame := fun a o h g => by
    refine y.frame a o (x.frame a o h g) ?_
    cases e : G1 a with
    | none => rfl
    | some m =>
      rcases x.gnew a (by rw [e]; exact fun z => by cases z) with q | q
      · exact absurd g q
      · rw [h] at q; cases q
  gnew := fun a h => by
    rcases y.gnew a h with g | g
    · exact x.gnew a g
    · cases e : H a with
      | none => exact .inr rfl
      | some u =>
        left
        intro z
        rw [x.frame a u e z] at g
        cases g
  dom := fun a h => x.dom a (y.dom a h)
theorem MRep.keep {K : PySem.W.Frag} {F F' H H' : Hp} {a : Addr} {m : MO} (h : MRep K F H a m) (e : Sub F F') (k : ∀ o, H a = some o → H' a = some o) : MRep K F' H' a m := by
  cases m with
  | lst ds =>
    obtain ⟨vs, h1, h2, h3⟩ := h
    exact ⟨vs, k _ h1, h2, h3.mono e⟩

/-- the slots -/
structure Slots (K : PySem.W.Frag) (F : Hp) (σ : L2.St) (ρ : List (Option D)) : Prop where
  len : ρ.length = σ.length
  at_ : ∀ (i : Nat) (d : D), ρ[i]? = some (some d) → ∃ v, σ[i]? = some (some v) ∧ Rep K F v d
theorem Slots.mono {K : PySem.W.Frag} {F F' : Hp} {σ : L2.St} {ρ : List (Option D)} (s : Slots K F σ ρ) (e : Sub F F') : Slots K F' σ ρ :=
  ⟨s.len, fun i d h => let ⟨v, a, b⟩ := s.at_ i d h; ⟨v, a, b.mono e⟩⟩
theorem Slots.set {K : PySem.W.Frag} {F : Hp} {σ : L2.St} {ρ : List (Option D)} {v : V} {d : D} (s : Slots K F σ ρ) (i : Nat) (r : Rep K F v d) : Slots K F (σ.set i (some v)) (ρ.set i (some d)) := by
  refine ⟨by rw [List.length_set, List.length_set, s.len], fun j e h => ?_⟩
  by_cases hj : i = j
  · subst hj
    by_cases hl : i < ρ.length
    · rw [List.getElem?_set_self hl] at h
      cases h
      exact ⟨v, List.getElem?_set_self (by rw [← s.len]; exact hl), r⟩
    · rw [List.getElem?_eq_none (by simpa using hl)] at h; cases h
  · rw [List.getElem?_set_ne hj] at h ⊢
    exact s.at_ j e h
theorem Slots.wipe {K : PySem.W.Frag} {F : Hp} {σ : L2.St} {ρ : List (Option D)} (s : Slots K F σ ρ) (i : Nat) : Slots K F (σ.set i none) (ρ.set i none) := by
  refine ⟨by rw [List.length_set, List.length_set, s.len], fun j e h => ?_⟩
  by_cases hj : i = j
  · subst hj
    by_cases hl : i < ρ.length
    · rw [List.getElem?_set_self hl] at h; cases h
    · rw [List.getElem?_eq_none (by simpa using hl)] at h; cases h
  · rw [List.getElem?_set_ne hj] at h ⊢
    exact s.at_ j e h

/-! ### readings over data -/
abbrev Rh := List (Option D)
abbrev QD := D → GM → Prop
abbrev TED := Rh → GM → QD → Prop
abbrev TTD := Rh → GM → (Bool → GM → Prop) → Prop
abbrev TAD := Rh → GM → (List D → GM → Prop) → Prop
structure EndsD where
  nx : Rh → GM → Prop
  rt : QD
  bk : Rh → GM → Prop := fun _ _ => False
  ct : Rh → GM → Prop := fun _ _ => False
abbrev TSD := EndsD → Rh → GM → Prop

def conc (K : PySem.W.Frag) (t : TED) : TE := fun σ H Qv => ∃ (ρ : Rh) (F : Hp) (G : GM) (Q : QD), Ok K F G H ∧ Slots K F σ ρ ∧ t ρ G Q ∧
  ∀ v d F' G' H', Ext K F G H F' G' H' → Rep K F' v d → Q d G' → Qv v H'
def concT (K : PySem.W.Frag) (t : TTD) : TT := fun σ H Qv => ∃ (ρ : Rh) (F : Hp) (G : GM) (Q : Bool → GM → Prop), Ok K F G H ∧ Slots K F σ ρ ∧ t ρ G Q ∧
  ∀ b F' G' H', Ext K F G H F' G' H' → Q b G' → Qv b H'
def concA (K : PySem.W.Frag) (t : TAD) : TA := fun σ H Qv => ∃ (ρ : Rh) (F : Hp) (G : GM) (Q : List D → GM → Prop), Ok K F G H ∧ Slots K F σ ρ ∧ t ρ G Q ∧
  ∀ vs ds F' G' H', Ext K F G H F' G' H' → Reps K F' vs ds → Q ds G' → Qv vs H'
structure EndsOk (K : PySem.W.Frag) (F : Hp) (G : GM) (H : Hp) (E : EndsD) (V : Ends) : Prop where
  nx : ∀ σ ρ F' G' H', Ext K F G H F' G' H' → Slots K F' σ ρ → E.nx ρ G' → V.nx σ H'
  rt : ∀ v d F' G' H', Ext K F G H F' G' H' → Rep K F' v d → E.rt d G' → V.rt v H'
  bk : ∀ σ ρ F' G' H', Ext K F G H F' G' H' → Slots K F' σ ρ → E.bk ρ G' → V.bk σ H'
  ct : ∀ σ ρ F' G' H', Ext K F G H F' G' H' → Slots K F' σ ρ → E.ct ρ G' → V.ct σ H'
def concS (K : PySem.W.Frag) (t : TSD) : TS := fun V σ H => ∃ (ρ : Rh) (F : Hp) (G : GM) (E : EndsD), Ok K F G H ∧ Slots K F σ ρ ∧ t E ρ G ∧ EndsOk K F G H E V

theorem EndsOk.step {K : PySem.W.Frag} {F F1 : Hp} {G G1 : GM} {H H1 : Hp} {E : EndsD} {V : Ends} (e : EndsOk K F G H E V) (x : Ext K F G H F1 G1 H1) : EndsOk K F1 G1 H1 E V :=
  ⟨fun σ ρ F' G' H' y => e.nx σ ρ F' G' H' (x.trans y), fun v d F' G' H' y => e.rt v d F' G' H' (x.trans y), fun σ ρ F' G' H' y => e.bk σ ρ F' G' H' (x.trans y), fun σ ρ F' G' H' y => e.ct σ ρ F' G' H' (x.trans y)⟩

/-- a judgement by a stronger reading -/
theorem pe_imp {X : Cx} {e : Expr} {t t' : TE} (h : PE X e t) (i : ∀ σ H Q, t' σ H Q → t σ H Q) : PE X e t' := ⟨fun pins s σ H Q I q => h.run pins s σ H Q I (i σ H Q q)⟩
theorem pt_imp {X : Cx} {e : Expr} {t t' : TT} (h : PT X e t) (i : ∀ σ H Q, t' σ H Q → t σ H Q) : PT X e t' := ⟨fun pins s σ H Q I q => h.run pins s σ H Q I (i σ H Q q)⟩
theorem pw_imp {X : Cx} {e : Expr} {t t' : TT} (h : PW X e t) (i : ∀ σ H Q, t' σ H Q → t σ H Q) : PW X e t' := ⟨fun w pins s σ H Q I q => h.run w pins s σ H Q I (i σ H Q q)⟩
theorem pa_imp {X : Cx} {es : List Expr} {t t' : TA} (h : PA X es t) (i : ∀ σ H Q, t' σ H Q → t σ H Q) : PA X es t' := ⟨fun pos pins s σ H Q I q => h.run pos pins s σ H Q I (i σ H Q q)⟩
theorem ps_imp {X : Cx} {st : Stmt} {t t' : TS} (h : PS X st t) (i : ∀ V σ H, t' V σ H → t V σ H) : PS X st t' := ⟨fun pins s σ H V I q => h.run pins s σ H V I (i V σ H q)⟩
theorem pss_imp {X : Cx} {st : List Stmt} {t t' : TS} (h : PSs X st t) (i : ∀ V σ H, t' V σ H → t V σ H) : PSs X st t' := ⟨fun pins s σ H V I q => h.run pins s σ H V I (i V σ H q)⟩

abbrev DE (X : Cx) (e : Expr) (t : TED) : Prop := PE X e (conc X.K t)
abbrev DT (X : Cx) (e : Expr) (t : TTD) : Prop := PT X e (concT X.K t)
abbrev DW (X : Cx) (e : Expr) (t : TTD) : Prop := PW X e (concT X.K t)
abbrev DA (X : Cx) (es : List Expr) (t : TAD) : Prop := PA X es (concA X.K t)
abbrev DS (X : Cx) (st : Stmt) (t : TSD) : Prop := PS X st (concS X.K t)
abbrev DSs (X : Cx) (st : List Stmt) (t : TSD) : Prop := PSs X st (concS X.K t)
end DL

namespace DL
open PySem PySem.Spec PyProof.Rows L2
section
variable {X : Cx}

/-! ### names and constants -/
def dVar (i : Nat) : TED := fun ρ G Q => ∃ d, ρ[i]? = some (some d) ∧ Q d G
theorem dv (i : Nat) {x : Str} {pos : Pos} (hN : X.N[i]? = some x := by rfl) (hv : Vis X.env.scope x := by first | exact Or.inl rfl | exact Or.inr (Or.inl rfl) | exact Or.inr (Or.inr rfl)) (hd : (x == ("__debug__" : Str)) = false := by decide)
    (hcd : (x == ("__classdict__" : Str)) = false := by decide) : DE X (.Name x pos) (dVar i) := by
  refine pe_imp (pe_var hN hv hd hcd) fun σ H Qv h => ?_
  obtain ⟨ρ, F, G, Q, ok, sl, ⟨d, e, q⟩, k⟩ := h
  obtain ⟨v, ev, r⟩ := sl.at_ i d e
  exact ⟨v, ev, k v d F G H (Ext.refl ok) r q⟩
def dC (d : D) : TED := fun _ G Q => Q d G
theorem dc_of {e : Expr} {v : V} {d : D} (h : PE X e (tC v)) (r : ∀ F, Rep X.K F v d) : DE X e (dC d) := by
  refine pe_imp h fun σ H Qv h => ?_
  obtain ⟨ρ, F, G, Q, ok, sl, q, k⟩ := h
  exact k v d F G H (Ext.refl ok) (r F) q
theorem d_int {i j pos} : DE X (.Constant (.int i) j pos) (dC (.int i)) := dc_of pe_int fun _ => .int i
theorem d_bl {b j pos} : DE X (.Constant (.bool b) j pos) (dC (.bl b)) := dc_of pe_bl fun _ => .bl b
theorem d_non {j pos} : DE X (.Constant .none j pos) (dC .non) := dc_of pe_non fun _ => .non
theorem d_str {x j pos} : DE X (.Constant (.str x) j pos) (dC (.str x)) := dc_of pe_str fun _ => .str x
theorem d_glob {x : Str} {v : V} {u : Value} {d : D} {pos : Pos} (hg : Gl X x) (hm : X.mg x = some u) (r : RelV v u) (rd : ∀ F, Rep X.K F v d) (hd : (x == ("__debug__" : Str)) = false := by decide) : DE X (.Name x pos) (dC d) := dc_of (pe_glob hg hm r hd) rd
theorem d_ty {x : Str} {n : String} {pos : Pos} (hg : Gl X x) (hm : X.mg x = none) (hv : bootBuiltins x = some (.type n)) (hn : x ≠ "__name__" := by decide) (hd : (x == ("__debug__" : Str)) = false := by decide) : DE X (.Name x pos) (dC (.ty n)) :=
  dc_of (v := .ty n) (pe_bltn hg hm hv rfl hn hd) fun _ => .ty n

/-! ### two operands -/
def dBin (f : D → D → GM → QD → Prop) (ta tb : TED) : TED := fun ρ G Q => ta ρ G fun d1 G1 => tb ρ G1 fun d2 G2 => f d1 d2 G2 Q
/-- what f says of data is what r says of values -/
def Op2 (K : PySem.W.Frag) (r : R2) (f : D → D → GM → QD → Prop) : Prop := ∀ (F : Hp) (G : GM) (H : Hp) (x y : V) (d e : D) (Q : QD) (Qv : VK), Ok K F G H → Rep K F x d → Rep K F y e → f d e G Q →
  (∀ v d' F' G' H', Ext K F G H F' G' H' → Rep K F' v d' → Q d' G' → Qv v H') → r x y H Qv
theorem tOp_conc {r : R2} {f : D → D → GM → QD → Prop} {ta tb : TED} {K : PySem.W.Frag} (h : Op2 K r f) {σ : L2.St} {H : Hp} {Qv : VK} (q : conc K (dBin f ta tb) σ H Qv) : tOp r (conc K ta) (conc K tb) σ H Qv := by
  obtain ⟨ρ, F, G, Q, ok, sl, q, k⟩ := q
  refine ⟨ρ, F, G, _, ok, sl, q, fun x d F1 G1 H1 x1 r1 q1 => ?_⟩
  refine ⟨ρ, F1, G1, _, x1.ok, sl.mono x1.mono, q1, fun y e F2 G2 H2 x2 r2 q2 => ?_⟩
  exact h F2 G2 H2 x y d e Q Qv x2.ok (r1.mono x2.mono) r2 q2 fun v d' F' G' H' x3 r3 q3 => k v d' F' G' H' ((x1.trans x2).trans x3) r3 q3
variable {a b c : Expr} {ta tb tc : TED} {pos : Pos}
theorem d_op {op : Operator} {r : R2} {f : D → D → GM → QD → Prop} (ho : OpR X (binaryOp op) r) (hf : Op2 X.K r f) (ha : DE X a ta) (hb : DE X b tb) : DE X (.BinOp a op b pos) (dBin f ta tb) :=
  pe_imp (pe_op ho ha hb) fun _ _ _ q => tOp_conc hf q
theorem d_cmp {op : CmpOp} {r : R2} {f : D → D → GM → QD → Prop} (ho : OpR X (compareOp op) r) (hf : Op2 X.K r f) (ha : DE X a ta) (hb : DE X b tb) (hm : behindInMarks op b = false := by first | exact nobehind _ (by decide) (by decide) | rfl) :
    DE X (.Compare a [op] [b] pos) (dBin f ta tb) :=
  pe_imp (pe_cmpR ho ha hb hm) fun _ _ _ q => tOp_conc hf q
theorem d_un {op : UnaryOp} {r : V → Hp → VK → Prop} {f : D → GM → QD → Prop} (ho : UnR X (unaryOp op) r)
    (hf : ∀ (F : Hp) (G : GM) (H : Hp) (x : V) (d : D) (Q : QD) (Qv : VK), Ok X.K F G H → Rep X.K F x d → f d G Q → (∀ v d' F' G' H', Ext X.K F G H F' G' H' → Rep X.K F' v d' → Q d' G' → Qv v H') → r x H Qv)
    (ha : DE X a ta) : DE X (.UnaryOp op a pos) (fun ρ G Q => ta ρ G fun d G1 => f d G1 Q) := by
  refine pe_imp (pe_un ho ha) fun σ H Qv q => ?_
  obtain ⟨ρ, F, G, Q, ok, sl, q, k⟩ := q
  refine ⟨ρ, F, G, _, ok, sl, q, fun x d F1 G1 H1 x1 r1 q1 => ?_⟩
  exact hf F1 G1 H1 x d Q Qv x1.ok r1 q1 fun v d' F' G' H' x3 r3 q3 => k v d' F' G' H' (x1.trans x3) r3 q3

/-- ints under C -/
def fI (C : Int → Int → Prop) (g : Int → Int → D) : D → D → GM → QD → Prop := fun d e G Q => ∃ i j, d = .int i ∧ e = .int j ∧ C i j ∧ Q (g i j) G
theorem op2_I {K : PySem.W.Frag} {C : Int → Int → Prop} {g : Int → Int → V} {gd : Int → Int → D} (hg : ∀ F i j, Rep K F (g i j) (gd i j)) : Op2 K (rI C g) (fI C gd) := by
  rintro F G H x y d e Q Qv ok rx ry ⟨i, j, rfl, rfl, hc, q⟩ k
  cases rx; cases ry
  exact ⟨i, j, rfl, rfl, hc, k _ _ F G H (Ext.refl ok) (hg F i j) q⟩
abbrev noC : Int → Int → Prop := fun _ _ => True
theorem op2_I0 {K : PySem.W.Frag} {g : Int → Int → V} {gd : Int → Int → D} (hg : ∀ F i j, Rep K F (g i j) (gd i j)) : Op2 K (rI0 g) (fI noC gd) := by
  rintro F G H x y d e Q Qv ok rx ry ⟨i, j, rfl, rfl, hc, q⟩ k
  cases rx; cases ry
  exact ⟨i, j, rfl, rfl, k _ _ F G H (Ext.refl ok) (hg F i j) q⟩
abbrev fAdd := fI noC fun i j => .int (i + j)
abbrev fSub := fI noC fun i j => .int (i - j)
abbrev fMul := fI CMul fun i j => .int (i * j)
abbrev fFdiv := fI CDiv fun i j => .int (i / j)
abbrev fMod := fI (fun _ j => 0 < j) fun i j => .int (i % j)
abbrev fPow := fI CPow fun i j => .int (i ^ j.toNat)
theorem d_add (ha : DE X a ta) (hb : DE X b tb) : DE X (.BinOp a .Add b pos) (dBin fAdd ta tb) := d_op op_add (op2_I0 fun _ _ _ => .int _) ha hb
theorem d_sub (ha : DE X a ta) (hb : DE X b tb) : DE X (.BinOp a .Sub b pos) (dBin fSub ta tb) := d_op op_sub (op2_I0 fun _ _ _ => .int _) ha hb
theorem d_mul (ha : DE X a ta) (hb : DE X b tb) : DE X (.BinOp a .Mult b pos) (dBin fMul ta tb) := d_op op_mul (op2_I fun _ _ _ => .int _) ha hb
theorem d_fdiv (ha : DE X a ta) (hb : DE X b tb) : DE X (.BinOp a .FloorDiv b pos) (dBin fFdiv ta tb) := d_op op_fdiv (op2_I fun _ _ _ => .int _) ha hb
theorem d_mod (ha : DE X a ta) (hb : DE X b tb) : DE X (.BinOp a .Mod b pos) (dBin fMod ta tb) := d_op op_mod (op2_I fun _ _ _ => .int _) ha hb
theorem d_pow (ha : DE X a ta) (hb : DE X b tb) : DE X (.BinOp a .Pow b pos) (dBin fPow ta tb) := d_op op_pow (op2_I fun _ _ _ => .int _) ha hb
abbrev fLt := fI noC fun i j => .bl (decide (i < j))
abbrev fLe := fI noC fun i j => .bl (decide (i ≤ j))
abbrev fGt := fI noC fun i j => .bl (decide (j < i))
abbrev fGe := fI noC fun i j => .bl (decide (j ≤ i))
theorem d_lt (ha : DE X a ta) (hb : DE X b tb) : DE X (.Compare a [.Lt] [b] pos) (dBin fLt ta tb) := d_cmp op_lt (op2_I0 fun _ _ _ => .bl _) ha hb
theorem d_le (ha : DE X a ta) (hb : DE X b tb) : DE X (.Compare a [.LtE] [b] pos) (dBin fLe ta tb) := d_cmp op_le (op2_I0 fun _ _ _ => .bl _) ha hb
theorem d_gt (ha : DE X a ta) (hb : DE X b tb) : DE X (.Compare a [.Gt] [b] pos) (dBin fGt ta tb) := d_cmp op_gt (op2_I0 fun _ _ _ => .bl _) ha hb
theorem d_ge (ha : DE X a ta) (hb : DE X b tb) : DE X (.Compare a [.GtE] [b] pos) (dBin fGe ta tb) := d_cmp op_ge (op2_I0 fun _ _ _ => .bl _) ha hb
/-- a <= b < c of ints -/
def dChain (p q : Int → Int → Bool) (ta tb tc : TED) : TED := fun ρ G Q => ta ρ G fun d1 G1 => tb ρ G1 fun d2 G2 => ∃ i j, d1 = .int i ∧ d2 = .int j ∧ if p i j = true then tc ρ G2 (fun d3 G3 => ∃ k, d3 = .int k ∧ Q (.bl (q j k)) G3) else Q (.bl false) G2
theorem d_chain {op op' : CmpOp} {p q : Int → Int → Bool} (ho : OpR X (compareOp op) (rI0 fun i j => .bl (p i j))) (ho' : OpR X (compareOp op') (rI0 fun i j => .bl (q i j))) (ha : DE X a ta) (hb : DE X b tb) (hc : DE X c tc)
    (hm : lastMarks [op, op'] [b, c] = false := by with_unfolding_all rfl) : DE X (.Compare a [op, op'] [b, c] pos) (dChain p q ta tb tc) := by
  refine pe_imp (pe_chain ho ho' ha hb hc hm) fun σ H Qv z => ?_
  obtain ⟨ρ, F, G, Q, ok, sl, z, k⟩ := z
  refine ⟨ρ, F, G, _, ok, sl, z, fun x d F1 G1 H1 x1 r1 q1 => ?_⟩
  refine ⟨ρ, F1, G1, _, x1.ok, sl.mono x1.mono, q1, fun y e F2 G2 H2 x2 r2 q2 => ?_⟩
  obtain ⟨i, j, rfl, rfl, q2⟩ := q2
  cases r1; cases r2
  refine ⟨i, j, rfl, rfl, p i j, rfl, ?_⟩
  cases e : p i j with
  | true =>
    rw [e] at q2
    rw [if_pos rfl] at q2
    rw [if_pos rfl]
    refine ⟨ρ, F2, G2, _, x2.ok, sl.mono (x1.trans x2).mono, q2, fun w d3 F3 G3 H3 x3 r3 q3 => ?_⟩
    obtain ⟨m, rfl, q3⟩ := q3
    cases r3
    exact ⟨j, m, rfl, rfl, k _ _ F3 G3 H3 ((x1.trans x2).trans x3) (.bl _) q3⟩
  | false =>
    rw [e] at q2
    rw [if_neg Bool.false_ne_true] at q2
    rw [if_neg Bool.false_ne_true]
    exact k _ _ F2 G2 H2 (x1.trans x2) (.bl _) q2

/-! ### truth -/
def dB (t : TED) : TTD := fun ρ G Q => t ρ G fun d G1 => ∃ b, d = .bl b ∧ Q b G1
theorem dt_val {e : Expr} {t : TED} (h : DE X e t) (he : ∀ whole, isTrue e X.env whole = (do let v ← whole; standAt e.pos; holding [v] (truthy v)) := by intro _; rfl) : DT X e (dB t) := by
  refine pt_imp (pt_val h he) fun σ H Qv z => ?_
  obtain ⟨ρ, F, G, Q, ok, sl, z, k⟩ := z
  refine ⟨ρ, F, G, _, ok, sl, z, fun x d F1 G1 H1 x1 r1 q1 => ?_⟩
  obtain ⟨b, rfl, q1⟩ := q1
  cases r1
  exact ⟨b, rfl, k b F1 G1 H1 x1 q1⟩
theorem dt_cmp {op : CmpOp} {t : TED} (h : DE X (.Compare a [op] [b] pos) t) (he : ∀ whole, isTrue (.Compare a [op] [b] pos) X.env whole = (do let v ← whole; standAt (Expr.pos (.Compare a [op] [b] pos)); holding [v] (truthy v)) := by intro _; rfl) : DT X (.Compare a [op] [b] pos) (dB t) := dt_val h he
def dNot (t : TTD) : TTD := fun ρ G Q => t ρ G fun b G1 => Q (!b) G1
theorem dt_not {t : TTD} (h : DT X a t) : DT X (.UnaryOp .Not a pos) (dNot t) := by
  refine pt_imp (pt_not h) fun σ H Qv z => ?_
  obtain ⟨ρ, F, G, Q, ok, sl, z, k⟩ := z
  exact ⟨ρ, F, G, _, ok, sl, z, fun b F1 G1 H1 x1 q1 => k _ F1 G1 H1 x1 q1⟩
def dAnd (t u : TTD) : TTD := fun ρ G Q => t ρ G fun b G1 => if b = true then u ρ G1 Q else Q false G1
def dOr (t u : TTD) : TTD := fun ρ G Q => t ρ G fun b G1 => if b = true then Q true G1 else u ρ G1 Q
theorem dAnd_conc {K : PySem.W.Frag} {t u : TTD} {σ : L2.St} {H : Hp} {Qv : Bool → Hp → Prop} (z : concT K (dAnd t u) σ H Qv) : tAnd (concT K t) (concT K u) σ H Qv := by
  obtain ⟨ρ, F, G, Q, ok, sl, z, k⟩ := z
  refine ⟨ρ, F, G, _, ok, sl, z, fun b F1 G1 H1 x1 q1 => ?_⟩
  cases b with
  | true =>
    rw [if_pos rfl] at q1 ⊢
    exact ⟨ρ, F1, G1, _, x1.ok, sl.mono x1.mono, q1, fun b F2 G2 H2 x2 q2 => k b F2 G2 H2 (x1.trans x2) q2⟩
  | false =>
    rw [if_neg Bool.false_ne_true] at q1 ⊢
    exact k _ F1 G1 H1 x1 q1
theorem dOr_conc {K : PySem.W.Frag} {t u : TTD} {σ : L2.St} {H : Hp} {Qv : Bool → Hp → Prop} (z : concT K (dOr t u) σ H Qv) : tOr (concT K t) (concT K u) σ H Qv := by
  obtain ⟨ρ, F, G, Q, ok, sl, z, k⟩ := z
  refine ⟨ρ, F, G, _, ok, sl, z, fun b F1 G1 H1 x1 q1 => ?_⟩
  cases b with
  | true =>
    rw [if_pos rfl] at q1 ⊢
    exact k _ F1 G1 H1 x1 q1
  | false =>
    rw [if_neg Bool.false_ne_true] at q1 ⊢
    exact ⟨ρ, F1, G1, _, x1.ok, sl.mono x1.mono, q1, fun b F2 G2 H2 x2 q2 => k b F2 G2 H2 (x1.trans x2) q2⟩
variable {rest : List Expr} {t u : TTD}
theorem dw_and1 (h : DT X a t) : DW X (.BoolOp .And [a] pos) t := pw_and1 h
theorem dw_or1 (h : DT X a t) : DW X (.BoolOp .Or [a] pos) t := pw_or1 h
theorem dw_and (h : DT X a t) (hb : DW X (.BoolOp .And (b :: rest) pos) u) : DW X (.BoolOp .And (a :: b :: rest) pos) (dAnd t u) := pw_imp (pw_and h hb) fun _ _ _ z => dAnd_conc z
theorem dw_or (h : DT X a t) (hb : DW X (.BoolOp .Or (b :: rest) pos) u) : DW X (.BoolOp .Or (a :: b :: rest) pos) (dOr t u) := pw_imp (pw_or h hb) fun _ _ _ z => dOr_conc z
theorem dt_w {e : Expr} (h : DW X e t) : DT X e t := h.pt
/-- and, or, not of truth values as values -/
def dAndV (ta tb : TED) : TED := fun ρ G Q => ta ρ G fun d G1 => ∃ b, d = .bl b ∧ if b = true then tb ρ G1 Q else Q (.bl false) G1
def dOrV (ta tb : TED) : TED := fun ρ G Q => ta ρ G fun d G1 => ∃ b, d = .bl b ∧ if b = true then Q (.bl true) G1 else tb ρ G1 Q
def dNotV (ta : TED) : TED := fun ρ G Q => ta ρ G fun d G1 => ∃ b, d = .bl b ∧ Q (.bl (!b)) G1
theorem d_one {op} (h : DE X a ta) : DE X (.BoolOp op [a] pos) ta := pe_one h
theorem d_and (ha : DE X a ta) (hb : DE X (.BoolOp .And (b :: rest) pos) tb) : DE X (.BoolOp .And (a :: b :: rest) pos) (dAndV ta tb) := by
  refine pe_imp (pe_and ha hb) fun σ H Qv z => ?_
  obtain ⟨ρ, F, G, Q, ok, sl, z, k⟩ := z
  refine ⟨ρ, F, G, _, ok, sl, z, fun x d F1 G1 H1 x1 r1 q1 => ?_⟩
  obtain ⟨b, rfl, q1⟩ := q1
  cases r1
  refine ⟨b, rfl, ?_⟩
  cases b with
  | true =>
    rw [if_pos rfl] at q1 ⊢
    exact ⟨ρ, F1, G1, _, x1.ok, sl.mono x1.mono, q1, fun v d F2 G2 H2 x2 r2 q2 => k v d F2 G2 H2 (x1.trans x2) r2 q2⟩
  | false =>
    rw [if_neg Bool.false_ne_true] at q1 ⊢
    exact k _ _ F1 G1 H1 x1 (.bl _) q1
theorem d_or (ha : DE X a ta) (hb : DE X (.BoolOp .Or (b :: rest) pos) tb) : DE X (.BoolOp .Or (a :: b :: rest) pos) (dOrV ta tb) := by
  refine pe_imp (pe_or ha hb) fun σ H Qv z => ?_
  obtain ⟨ρ, F, G, Q, ok, sl, z, k⟩ := z
  refine ⟨ρ, F, G, _, ok, sl, z, fun x d F1 G1 H1 x1 r1 q1 => ?_⟩
  obtain ⟨b, rfl, q1⟩ := q1
  cases r1
  refine ⟨b, rfl, ?_⟩
  cases b with
  | true =>
    rw [if_pos rfl] at q1 ⊢
    exact k _ _ F1 G1 H1 x1 (.bl _) q1
  | false =>
    rw [if_neg Bool.false_ne_true] at q1 ⊢
    exact ⟨ρ, F1, G1, _, x1.ok, sl.mono x1.mono, q1, fun v d F2 G2 H2 x2 r2 q2 => k v d F2 G2 H2 (x1.trans x2) r2 q2⟩
theorem d_not (ha : DE X a ta) : DE X (.UnaryOp .Not a pos) (dNotV ta) := by
  refine pe_imp (pe_not ha) fun σ H Qv z => ?_
  obtain ⟨ρ, F, G, Q, ok, sl, z, k⟩ := z
  refine ⟨ρ, F, G, _, ok, sl, z, fun x d F1 G1 H1 x1 r1 q1 => ?_⟩
  obtain ⟨b, rfl, q1⟩ := q1
  cases r1
  exact ⟨b, rfl, k _ _ F1 G1 H1 x1 (.bl _) q1⟩
def dIf (t : TTD) (ta tb : TED) : TED := fun ρ G Q => t ρ G fun b G1 => if b = true then ta ρ G1 Q else tb ρ G1 Q
theorem d_if (hc : DT X c t) (ha : DE X a ta) (hb : DE X b tb) : DE X (.IfExp c a b pos) (dIf t ta tb) := by
  refine pe_imp (pe_ifExp hc ha hb) fun σ H Qv z => ?_
  obtain ⟨ρ, F, G, Q, ok, sl, z, k⟩ := z
  refine ⟨ρ, F, G, _, ok, sl, z, fun b F1 G1 H1 x1 q1 => ?_⟩
  cases b with
  | true =>
    rw [if_pos rfl] at q1 ⊢
    exact ⟨ρ, F1, G1, _, x1.ok, sl.mono x1.mono, q1, fun v d F2 G2 H2 x2 r2 q2 => k v d F2 G2 H2 (x1.trans x2) r2 q2⟩
  | false =>
    rw [if_neg Bool.false_ne_true] at q1 ⊢
    exact ⟨ρ, F1, G1, _, x1.ok, sl.mono x1.mono, q1, fun v d F2 G2 H2 x2 r2 q2 => k v d F2 G2 H2 (x1.trans x2) r2 q2⟩

/-! ### argument lists, displays -/
def dNil : TAD := fun _ G Q => Q [] G
def dCons (ta : TED) (tr : TAD) : TAD := fun ρ G Q => ta ρ G fun d G1 => tr ρ G1 fun ds G2 => Q (d :: ds) G2
theorem da_nil : DA X [] dNil := by
  refine pa_imp pa_nil fun σ H Qv z => ?_
  obtain ⟨ρ, F, G, Q, ok, sl, z, k⟩ := z
  exact k [] [] F G H (Ext.refl ok) .nil z
theorem da_cons {e : Expr} {es : List Expr} {te : TED} {tr : TAD} (ha : DE X e te) (hr : DA X es tr) (hs : starEach (e :: es) X.env = (false, eval e X.env) :: starEach es X.env := by rfl) : DA X (e :: es) (dCons te tr) := by
  refine pa_imp (pa_cons ha hr hs) fun σ H Qv z => ?_
  obtain ⟨ρ, F, G, Q, ok, sl, z, k⟩ := z
  refine ⟨ρ, F, G, _, ok, sl, z, fun x d F1 G1 H1 x1 r1 q1 => ?_⟩
  exact ⟨ρ, F1, G1, _, x1.ok, sl.mono x1.mono, q1, fun vs ds F2 G2 H2 x2 r2 q2 => k _ _ F2 G2 H2 (x1.trans x2) (.cons (r1.mono x2.mono) r2) q2⟩

/-- a new object that stands for ever -/
theorem Ok.freeze {K : PySem.W.Frag} {F H : Hp} {G : GM} (ok : Ok K F G H) {p : Addr} (hp : H p = none) (o : HO) : Ext K F G H (upd F p o) G (upd H p o) where
  ok := by
    refine ⟨fun a u h => ?_, fun a m h => ?_⟩
    · by_cases e : a = p
      · subst e; rw [upd_same] at h ⊢; exact h
      · rw [upd_ne e] at h ⊢; exact ok.sub a u h
    · obtain ⟨f, r⟩ := ok.g a m h
      have e : a ≠ p := by
        rintro rfl
        cases m with
        | lst ds => obtain ⟨vs, q, _⟩ := r; rw [hp] at q; cases q
      refine ⟨by rw [upd_ne e]; exact f, r.keep (fun b u q => ?_) fun u q => by rw [upd_ne e]; exact q⟩
      have e : b ≠ p := by
        rintro rfl
        rw [ok.sub b u q] at hp; cases hp
      rw [upd_ne e]; exact q
  mono := fun b u q => by
    have e : b ≠ p := by
      rintro rfl
      rw [ok.sub b u q] at hp; cases hp
    rw [upd_ne e]; exact q
  new := fun a u h => by
    by_cases e : a = p
    · subst e; exact .inr (.inl hp)
    · rw [upd_ne e] at h; exact .inl h
  frame := fun a u h _ => by
    have e : a ≠ p := by rintro rfl; rw [h] at hp; cases hp
    rw [upd_ne e]; exact h
  gnew := fun a h => .inl h
  dom := fun a h => by
    by_cases e : a = p
    · subst e; rw [upd_same] at h; cases h
    · rw [upd_ne e] at h; exact h
/-- a new object of the store -/
theorem Ok.newG {K : PySem.W.Frag} {F H : Hp} {G : GM} (ok : Ok K F G H) {p : Addr} (hp : H p = none) {vs : List V} {ds : List D} (z : vs.length ≤ sizeLine) (r : Reps K F vs ds) : G p = none ∧ Ext K F G H F (updG G p (.lst ds)) (upd H p (.lst vs)) := by
  have gp : G p = none := by
    cases e : G p with
    | none => rfl
    | some m =>
      obtain ⟨_, q⟩ := ok.g p m e
      cases m with
      | lst ds => obtain ⟨vs, q, _⟩ := q; rw [hp] at q; cases q
  have ne : ∀ b u, F b = some u → b ≠ p := by
    rintro b u q rfl
    rw [ok.sub b u q] at hp; cases hp
  refine ⟨gp, ⟨⟨fun a u h => by rw [upd_ne (ne a u h)]; exact ok.sub a u h, fun a m h => ?_⟩, fun _ _ h => h, fun _ _ h => .inl h, fun a u h _ => ?_, fun a h => ?_, fun a h => ?_⟩⟩
  · by_cases e : a = p
    · subst e
      rw [updG_same] at h
      cases h
      refine ⟨?_, vs, upd_same, z, r⟩
      cases q : F a with
      | none => rfl
      | some u => exact absurd rfl (ne a u q)
    · rw [updG_ne e] at h
      obtain ⟨f, r⟩ := ok.g a m h
      exact ⟨f, r.keep (fun _ _ h => h) fun u q => by rw [upd_ne e]; exact q⟩
  · have e : a ≠ p := by rintro rfl; rw [h] at hp; cases hp
    rw [upd_ne e]; exact h
  · by_cases e : a = p
    · subst e; exact .inr hp
    · rw [updG_ne e] at h; exact .inl h
  · by_cases e : a = p
    · subst e; rw [upd_same] at h; cases h
    · rw [upd_ne e] at h; exact h
variable {es : List Expr} {tA : TAD}
def dTup (t : TAD) : TED := fun ρ G Q => t ρ G fun ds G1 => ds.length ≤ sizeLine ∧ Q (.tup ds) G1
theorem d_tup {k1} (h : DA X es tA) : DE X (.Tuple es k1 pos) (dTup tA) := by
  refine pe_imp (pe_tup h) fun σ H Qv z => ?_
  obtain ⟨ρ, F, G, Q, ok, sl, z, k⟩ := z
  refine ⟨ρ, F, G, _, ok, sl, z, fun vs ds F1 G1 H1 x1 r1 q1 => ?_⟩
  obtain ⟨hz, q1⟩ := q1
  have hz' : vs.length ≤ sizeLine := by rw [r1.len]; exact hz
  refine ⟨hz', fun p hp => ?_⟩
  have x2 := x1.ok.freeze hp (.tup vs)
  exact k _ _ _ _ _ (x1.trans x2) (.tup (SqT.of upd_same) hz' (r1.mono x2.mono)) q1
/-- a list that nobody changes -/
def dLst (t : TAD) : TED := fun ρ G Q => t ρ G fun ds G1 => ds.length ≤ sizeLine ∧ Q (.lst ds) G1
theorem d_lst (h : DA X es tA) : DE X (.List es pos) (dLst tA) := by
  refine pe_imp (pe_lst h) fun σ H Qv z => ?_
  obtain ⟨ρ, F, G, Q, ok, sl, z, k⟩ := z
  refine ⟨ρ, F, G, _, ok, sl, z, fun vs ds F1 G1 H1 x1 r1 q1 => ?_⟩
  obtain ⟨hz, q1⟩ := q1
  have hz' : vs.length ≤ sizeLine := by rw [r1.len]; exact hz
  refine ⟨hz', fun p hp => ?_⟩
  have x2 := x1.ok.freeze hp (.lst vs)
  exact k _ _ _ _ _ (x1.trans x2) (.lst upd_same hz' (r1.mono x2.mono)) q1
/-- a list of the store -/
def dLstM (t : TAD) : TED := fun ρ G Q => t ρ G fun ds G1 => ds.length ≤ sizeLine ∧ ∀ p, G1 p = none → Q (.ref p) (updG G1 p (.lst ds))
theorem d_lstM (h : DA X es tA) : DE X (.List es pos) (dLstM tA) := by
  refine pe_imp (pe_lst h) fun σ H Qv z => ?_
  obtain ⟨ρ, F, G, Q, ok, sl, z, k⟩ := z
  refine ⟨ρ, F, G, _, ok, sl, z, fun vs ds F1 G1 H1 x1 r1 q1 => ?_⟩
  obtain ⟨hz, q1⟩ := q1
  have hz' : vs.length ≤ sizeLine := by rw [r1.len]; exact hz
  refine ⟨hz', fun p hp => ?_⟩
  obtain ⟨gp, x2⟩ := x1.ok.newG hp hz' r1
  exact k _ _ _ _ _ (x1.trans x2) (.ref p) (q1 p gp)
end
end DL

namespace DL
open PySem PySem.Spec PyProof.Rows L2

/-! ### the items of a list or tuple; the whole data behind a value -/
def lstG (G : GM) : D → Option (List D)
  | .lst ds => some ds
  | .ref a => match G a with
    | some (.lst ds) => some ds
    | none => none
  | _ => none
def seqG (G : GM) : D → Option (List D)
  | .tup ds => some ds
  | d => lstG G d
theorem lstG_rep {K : PySem.W.Frag} {F H : Hp} {G : GM} {v : V} {d : D} {ds : List D} (ok : Ok K F G H) (r : Rep K F v d) (h : lstG G d = some ds) : ∃ a vs, v = .ref a ∧ H a = some (.lst vs) ∧ vs.length ≤ sizeLine ∧ Reps K F vs ds := by
  cases r with
  | non => cases h
  | bl b => cases h
  | int i => cases h
  | str i => cases h
  | ty i => cases h
  | tup _ _ _ => cases h
  | ref a =>
    have h : (match G a with | some (.lst ds) => some ds | none => none) = some ds := h
    cases e : G a with
    | none => rw [e] at h; cases h
    | some m =>
      rw [e] at h
      cases m with
      | lst es =>
        cases h
        obtain ⟨_, vs, h1, h2, h3⟩ := ok.g a _ e
        exact ⟨a, vs, rfl, h1, h2, h3⟩
  | @lst a vs _ hF z rr =>
    cases h
    exact ⟨a, vs, rfl, ok.sub _ _ hF, z, rr⟩
theorem seqG_rep {K : PySem.W.Frag} {F H : Hp} {G : GM} {v : V} {d : D} {ds : List D} (ok : Ok K F G H) (r : Rep K F v d) (h : seqG G d = some ds) : ∃ a vs, v = .ref a ∧ (SqL K H a vs ∨ SqT K H a vs) ∧ vs.length ≤ sizeLine ∧ Reps K F vs ds := by
  by_cases ht : ∃ es, d = .tup es
  · obtain ⟨es, rfl⟩ := ht
    cases h
    cases r with
    | tup s z rr => exact ⟨_, _, rfl, .inr (sub_sqT ok.sub s), z, rr⟩
  · have h' : lstG G d = some ds := by
      cases d <;> first | exact h | exact absurd ⟨_, rfl⟩ ht
    obtain ⟨a, vs, e, h1, z, rr⟩ := lstG_rep ok r h'
    exact ⟨a, vs, e, .inl (SqL.of h1), z, rr⟩

mutual
inductive Vw (G : GM) : D → D → Prop
  | non : Vw G .non .non
  | bl (b : Bool) : Vw G (.bl b) (.bl b)
  | int (i : Int) : Vw G (.int i) (.int i)
  | str (x : Str) : Vw G (.str x) (.str x)
  | lst {ds es : List D} : Vws G ds es → Vw G (.lst ds) (.lst es)
  | tup {ds es : List D} : Vws G ds es → Vw G (.tup ds) (.tup es)
  | ref {a : Addr} {ds es : List D} : G a = some (.lst ds) → Vws G ds es → Vw G (.ref a) (.lst es)
inductive Vws (G : GM) : List D → List D → Prop
  | nil : Vws G [] []
  | cons {d e : D} {ds es : List D} : Vw G d e → Vws G ds es → Vws G (d :: ds) (e :: es)
end
mutual
/-- no ref, no class within -/
def D.dat : D → Bool
  | .ref _ => false
  | .ty _ => false
  | .lst ds => D.dats ds
  | .tup ds => D.dats ds
  | _ => true
def D.dats : List D → Bool
  | [] => true
  | d :: ds => d.dat && D.dats ds
end
mutual
theorem Vw.self {G : GM} : ∀ {d : D}, d.dat = true → Vw G d d
  | .non, _ => .non
  | .bl b, _ => .bl b
  | .int i, _ => .int i
  | .str x, _ => .str x
  | .ty _, h => by simp [D.dat] at h
  | .ref _, h => by simp [D.dat] at h
  | .lst ds, h => .lst (Vws.self (by simpa [D.dat] using h))
  | .tup ds, h => .tup (Vws.self (by simpa [D.dat] using h))
theorem Vws.self {G : GM} : ∀ {ds : List D}, D.dats ds = true → Vws G ds ds
  | [], _ => .nil
  | d :: ds, h => by
    have h : (d.dat && D.dats ds) = true := by simpa [D.dats] using h
    rw [Bool.and_eq_true] at h
    exact .cons (Vw.self h.1) (Vws.self h.2)
end
mutual
theorem Vw.rep {K : PySem.W.Frag} {F H : Hp} {G : GM} (ok : Ok K F G H) : ∀ {v : V} {d e : D}, Rep K F v d → Vw G d e → Rep K H v e
  | _, .non, .non, r, .non => by cases r; exact .non
  | _, .bl b, .bl c, r, w => by cases r; cases w; exact .bl b
  | _, .int b, .int c, r, w => by cases r; cases w; exact .int b
  | _, .str b, .str c, r, w => by cases r; cases w; exact .str b
  | _, .lst _, .lst _, r, .lst w => by
    cases r with
    | lst h z rr => exact .lst (ok.sub _ _ h) z (Vws.rep ok rr w)
  | _, .tup _, .tup _, r, .tup w => by
    cases r with
    | tup h z rr => exact .tup (sub_sqT ok.sub h) z (Vws.rep ok rr w)
  | _, .ref _, .lst _, r, .ref g w => by
    cases r with
    | ref a =>
      obtain ⟨_, vs, h1, z, rr⟩ := ok.g _ _ g
      exact .lst h1 z (Vws.rep ok rr w)
theorem Vws.rep {K : PySem.W.Frag} {F H : Hp} {G : GM} (ok : Ok K F G H) : ∀ {vs : List V} {ds es : List D}, Reps K F vs ds → Vws G ds es → Reps K H vs es
  | _, _, _, r, .nil => by cases r; exact .nil
  | _, _, _, r, .cons w ws => by
    cases r with
    | cons r rs => exact .cons (Vw.rep ok r w) (Vws.rep ok rs ws)
end
mutual
def D.py : D → PyData
  | .bl b => .bool b
  | .int i => .int i
  | .str x => .str x
  | .lst ds => .list (D.pys ds)
  | .tup ds => .tuple (D.pys ds)
  | _ => .none
def D.pys : List D → List PyData
  | [] => []
  | d :: ds => d.py :: D.pys ds
end
theorem pys_map : ∀ ds : List D, D.pys ds = ds.map D.py
  | [] => rfl
  | d :: ds => by rw [D.pys, pys_map ds]; rfl
mutual
theorem Vw.dat {G : GM} : ∀ {d e : D}, Vw G d e → e.dat = true
  | _, _, .non => rfl
  | _, _, .bl _ => rfl
  | _, _, .int _ => rfl
  | _, _, .str _ => rfl
  | _, _, .lst w => by simpa [D.dat] using Vws.dat w
  | _, _, .tup w => by simpa [D.dat] using Vws.dat w
  | _, _, .ref _ w => by simpa [D.dat] using Vws.dat w
theorem Vws.dat {G : GM} : ∀ {ds es : List D}, Vws G ds es → D.dats es = true
  | _, _, .nil => rfl
  | _, _, .cons w ws => by
    have h1 := Vw.dat w
    have h2 := Vws.dat ws
    simp [D.dats, h1, h2]
end
mutual
theorem Rep.dp {K : PySem.W.Frag} {H : Hp} : ∀ {v : V} {d : D}, Rep K H v d → d.dat = true → Dp K H v d.py
  | _, _, .non, _ => .non
  | _, _, .bl b, _ => .bl b
  | _, _, .int b, _ => .int b
  | _, _, .str b, _ => .str b
  | _, _, .ty _, h => by simp [D.dat] at h
  | _, _, .ref _, h => by simp [D.dat] at h
  | _, _, .lst h z r, q => .lst (SqL.of h) (Reps.dp r (by simpa [D.dat] using q))
  | _, _, .tup h z r, q => .tup h (Reps.dp r (by simpa [D.dat] using q))
theorem Reps.dp {K : PySem.W.Frag} {H : Hp} : ∀ {vs : List V} {ds : List D}, Reps K H vs ds → D.dats ds = true → DpAll K H vs (D.pys ds)
  | _, _, .nil, _ => .nil
  | _, _, .cons (d := d) (ds := ds) r t, q => by
    have q : (d.dat && D.dats ds) = true := by simpa [D.dats] using q
    rw [Bool.and_eq_true] at q
    exact .cons (Rep.dp r q.1) (Reps.dp t q.2)
end

section
variable {X : Cx} {a b c e o i : Expr} {ta tb tc te : TED} {tA : TAD} {pos apos cpos : Pos}

/-! ### ==, in over data -/
def fEq : D → D → GM → QD → Prop := fun d e G Q => ∃ d' e', Vw G d d' ∧ Vw G e e' ∧ SeqAt.shaped d'.py = true ∧ SeqAt.shaped e'.py = true ∧ Q (.bl (PyData.eqv d'.py e'.py)) G
def fNe : D → D → GM → QD → Prop := fun d e G Q => ∃ d' e', Vw G d d' ∧ Vw G e e' ∧ SeqAt.shaped d'.py = true ∧ SeqAt.shaped e'.py = true ∧ Q (.bl (!PyData.eqv d'.py e'.py)) G
theorem op2_eq {K : PySem.W.Frag} : Op2 K (rEqD K) fEq := by
  rintro F G H x y d e Q Qv ok rx ry ⟨d', e', w1, w2, s1, s2, q⟩ k
  exact ⟨_, _, (w1.rep ok rx).dp w1.dat, (w2.rep ok ry).dp w2.dat, s1, s2, k _ _ F G H (Ext.refl ok) (.bl _) q⟩
theorem op2_ne {K : PySem.W.Frag} : Op2 K (rNeD K) fNe := by
  rintro F G H x y d e Q Qv ok rx ry ⟨d', e', w1, w2, s1, s2, q⟩ k
  exact ⟨_, _, (w1.rep ok rx).dp w1.dat, (w2.rep ok ry).dp w2.dat, s1, s2, k _ _ F G H (Ext.refl ok) (.bl _) q⟩
theorem d_eq (hu : X.A.units + 64 < cLine) (ha : DE X a ta) (hb : DE X b tb) : DE X (.Compare a [.Eq] [b] pos) (dBin fEq ta tb) := d_cmp (op_eqD hu) op2_eq ha hb
theorem d_ne (hu : X.A.units + 64 < cLine) (ha : DE X a ta) (hb : DE X b tb) : DE X (.Compare a [.NotEq] [b] pos) (dBin fNe ta tb) := d_cmp (op_neD hu) op2_ne ha hb
/-- x in xs: xs a list of data (any depth) -/
def fIn (neg : Bool) : D → D → GM → QD → Prop := fun d e G Q => ∃ d' es, Vw G d d' ∧ Vw G e (.lst es) ∧ SeqAt.shaped d'.py = true ∧ SeqAt.shaped (.list (D.pys es)) = true ∧ Q (.bl (if neg = true then !((D.pys es).any fun z => PyData.eqv z d'.py) else (D.pys es).any fun z => PyData.eqv z d'.py)) G
theorem op2_inD {K : PySem.W.Frag} : Op2 K (rInD K) (fIn false) := by
  rintro F G H x y d e Q Qv ok rx ry ⟨d', es, w1, w2, s1, s2, q⟩ k
  have r2 := (w2.rep ok ry).dp w2.dat
  rw [D.py] at r2
  exact ⟨_, _, (w1.rep ok rx).dp w1.dat, r2, s1, s2, k _ _ F G H (Ext.refl ok) (.bl _) q⟩
theorem op2_notInD {K : PySem.W.Frag} : Op2 K (rNotInD K) (fIn true) := by
  rintro F G H x y d e Q Qv ok rx ry ⟨d', es, w1, w2, s1, s2, q⟩ k
  have r2 := (w2.rep ok ry).dp w2.dat
  rw [D.py] at r2
  exact ⟨_, _, (w1.rep ok rx).dp w1.dat, r2, s1, s2, k _ _ F G H (Ext.refl ok) (.bl _) q⟩
theorem d_inD (hu : X.A.units + 65 < cLine) (ha : DE X a ta) (hb : DE X b tb) (hm : behindInMarks .In b = false := by rfl) : DE X (.Compare a [.In] [b] pos) (dBin (fIn false) ta tb) := d_cmp (op_inD hu) op2_inD ha hb hm
theorem d_notInD (hu : X.A.units + 65 < cLine) (ha : DE X a ta) (hb : DE X b tb) (hm : behindInMarks .NotIn b = false := by rfl) : DE X (.Compare a [.NotIn] [b] pos) (dBin (fIn true) ta tb) := d_cmp (op_notInD hu) op2_notInD ha hb hm
/-- n in ns: whole numbers, a list or a tuple -/
def fInI (neg : Bool) : D → D → GM → QD → Prop := fun d e G Q => ∃ (n : Int) (ns : List Int), d = .int n ∧ seqG G e = some (ns.map D.int) ∧ Q (.bl (if neg = true then !decide (n ∈ ns) else decide (n ∈ ns))) G
theorem inV_int (n : Int) : ∀ ns : List Int, inV (.int n) (ns.map V.int) = decide (n ∈ ns)
  | [] => rfl
  | m :: ns => by
    have ih := inV_int n ns
    have e : inV (.int n) (V.int m :: ns.map V.int) = (eqV (.int m) (.int n) || inV (.int n) (ns.map V.int)) := rfl
    rw [List.map_cons, e, ih]
    have e2 : eqV (.int m) (.int n) = decide (m = n) := by
      first | rfl | simp [eqV]
    rw [e2]
    by_cases h : m = n
    · subst h; simp
    · have h' : ¬ n = m := fun z => h z.symm
      simp [h, h']
theorem flat_ints : ∀ ns : List Int, (ns.map V.int).all flatV = true
  | [] => rfl
  | n :: ns => by
    rw [List.map_cons, List.all_cons, flat_ints ns]
    rfl
theorem op2_inI {K : PySem.W.Frag} (neg : Bool) : Op2 K (rIn K neg) (fInI neg) := by
  rintro F G H x y d e Q Qv ok rx ry ⟨n, ns, rfl, hs, q⟩ k
  cases rx
  obtain ⟨a, vs, rfl, h1, _, rr⟩ := seqG_rep ok ry hs
  have ev := rr.ints
  subst ev
  refine ⟨a, _, rfl, h1, rfl, flat_ints ns, ?_⟩
  rw [inV_int]
  exact k _ _ F G H (Ext.refl ok) (.bl _) q
theorem d_inI (ha : DE X a ta) (hb : DE X b tb) (hm : behindInMarks .In b = false := by rfl) : DE X (.Compare a [.In] [b] pos) (dBin (fInI false) ta tb) := d_cmp op_in_seq (op2_inI false) ha hb hm
theorem d_notInI (ha : DE X a ta) (hb : DE X b tb) (hm : behindInMarks .NotIn b = false := by rfl) : DE X (.Compare a [.NotIn] [b] pos) (dBin (fInI true) ta tb) := d_cmp op_notIn_seq (op2_inI true) ha hb hm

/-! ### subscripts, slices, + -/
def fIx : D → D → GM → QD → Prop := fun d e G Q => ∃ ds j x, seqG G d = some ds ∧ e = .int j ∧ atI ds j = some x ∧ Q x G
theorem atI_rep {K : PySem.W.Frag} {F : Hp} {vs : List V} {ds : List D} {j : Int} {x : D} (r : Reps K F vs ds) (h : atI ds j = some x) : ∃ v, atI vs j = some v ∧ Rep K F v x := by
  unfold atI at h ⊢
  rw [r.len]
  cases e : ixN ds.length j with
  | none => rw [e] at h; cases h
  | some n =>
    rw [e] at h
    exact r.getD h
theorem op2_ix {K : PySem.W.Frag} : Op2 K (fun x y H Q => rIxL K x y H Q ∨ rIxT K x y H Q) fIx := by
  rintro F G H x y d e Q Qv ok rx ry ⟨ds, j, z, hs, rfl, hz, q⟩ k
  cases ry
  obtain ⟨a, vs, rfl, h1, _, rr⟩ := seqG_rep ok rx hs
  obtain ⟨v, hv, rv⟩ := atI_rep rr hz
  have fin := k _ _ F G H (Ext.refl ok) rv q
  rcases h1 with h1 | h1
  · exact .inl ⟨a, vs, j, v, rfl, rfl, h1, hv, fin⟩
  · exact .inr ⟨a, vs, j, v, rfl, rfl, h1, hv, fin⟩
theorem d_ix (ha : DE X a ta) (hb : DE X b tb) (hs : PlainIx b := by exact fun _ _ => rfl) : DE X (.Subscript a b pos) (dBin fIx ta tb) :=
  pe_imp (pe_ix (IxR.or ix_list ix_tup) ha hb hs) fun _ _ _ q => tOp_conc op2_ix q
def cutD (ds : List D) (lo hi : Option Int) : List D := (ds.drop (HT.sIx ds.length 0 lo)).take (HT.sIx ds.length ds.length hi - HT.sIx ds.length 0 lo)
theorem cut_rep {K : PySem.W.Frag} {F : Hp} {vs : List V} {ds : List D} (r : Reps K F vs ds) (lo hi : Option Int) : Reps K F (cutV vs lo hi) (cutD ds lo hi) := by
  unfold cutV cutD
  rw [r.len]
  exact (r.drop _).take _
abbrev TOD := Rh → GM → (Option Int → GM → Prop) → Prop
def concO (K : PySem.W.Frag) (t : TOD) : TO := fun σ H Qv => ∃ (ρ : Rh) (F : Hp) (G : GM) (Q : Option Int → GM → Prop), Ok K F G H ∧ Slots K F σ ρ ∧ t ρ G Q ∧ ∀ j F' G' H', Ext K F G H F' G' H' → Q j G' → Qv j H'
theorem po_imp {X : Cx} {e : Option Expr} {t t' : TO} (h : PO X e t) (i : ∀ σ H Q, t' σ H Q → t σ H Q) : PO X e t' := ⟨fun pins s σ H Q I q => h.run pins s σ H Q I (i σ H Q q)⟩
abbrev DO (X : Cx) (e : Option Expr) (t : TOD) : Prop := PO X e (concO X.K t)
def oNone : TOD := fun _ G Q => Q none G
def oSome (t : TED) : TOD := fun ρ G Q => t ρ G fun d G1 => ∃ j, d = .int j ∧ Q (some j) G1
theorem do_none : DO X none oNone := po_imp po_none fun σ H Qv z => by
  obtain ⟨ρ, F, G, Q, ok, sl, z, k⟩ := z
  exact k _ F G H (Ext.refl ok) z
theorem do_some (h : DE X e te) : DO X (some e) (oSome te) := po_imp (po_some h) fun σ H Qv z => by
  obtain ⟨ρ, F, G, Q, ok, sl, z, k⟩ := z
  refine ⟨ρ, F, G, _, ok, sl, z, fun x d F1 G1 H1 x1 r1 q1 => ?_⟩
  obtain ⟨j, rfl, q1⟩ := q1
  cases r1
  exact ⟨j, rfl, k _ F1 G1 H1 x1 q1⟩
variable {tl th : TOD} {lo hi : Option Expr} {p2 : Pos}
/-- xs[lo:hi], a list -/
def dSl (te : TED) (tl th : TOD) : TED := fun ρ G Q => te ρ G fun d G1 => tl ρ G1 fun l G2 => th ρ G2 fun h G3 => ∃ ds, lstG G3 d = some ds ∧ Q (.lst (cutD ds l h)) G3
theorem d_slice (he : DE X e te) (hl : DO X lo tl) (hh : DO X hi th) : DE X (.Subscript e (.Slice lo hi none p2) pos) (dSl te tl th) := by
  refine pe_imp (pe_slice sl_list he hl hh) fun σ H Qv z => ?_
  obtain ⟨ρ, F, G, Q, ok, sl, z, k⟩ := z
  refine ⟨ρ, F, G, _, ok, sl, z, fun x d F1 G1 H1 x1 r1 q1 => ?_⟩
  refine ⟨ρ, F1, G1, _, x1.ok, sl.mono x1.mono, q1, fun j F2 G2 H2 x2 q2 => ?_⟩
  refine ⟨ρ, F2, G2, _, x2.ok, sl.mono (x1.trans x2).mono, q2, fun j' F3 G3 H3 x3 q3 => ?_⟩
  obtain ⟨ds, hs, q3⟩ := q3
  obtain ⟨a, vs, rfl, h1, hz, rr⟩ := lstG_rep x3.ok (r1.mono (x2.trans x3).mono) hs
  refine ⟨a, vs, rfl, SqL.of h1, fun p hp => ?_⟩
  have x4 := x3.ok.freeze hp (.lst (cutV vs j j'))
  exact k _ _ _ _ _ (((x1.trans x2).trans x3).trans x4) (.lst upd_same (Nat.le_trans (cutV_length vs j j') hz) ((cut_rep rr j j').mono x4.mono)) q3
/-- xs + ys, lists -/
def fCat : D → D → GM → QD → Prop := fun d e G Q => ∃ ds es, lstG G d = some ds ∧ lstG G e = some es ∧ ds.length + es.length ≤ sizeLine ∧ Q (.lst (ds ++ es)) G
theorem op2_cat {K : PySem.W.Frag} : Op2 K rCat fCat := by
  rintro F G H x y d e Q Qv ok rx ry ⟨ds, es, h1, h2, z, q⟩ k
  obtain ⟨a, vs, rfl, ha, _, ra⟩ := lstG_rep ok rx h1
  obtain ⟨b, ws, rfl, hb, _, rb⟩ := lstG_rep ok ry h2
  have z' : vs.length + ws.length ≤ sizeLine := by rw [ra.len, rb.len]; exact z
  refine ⟨a, b, vs, ws, rfl, rfl, ha, hb, z', fun p hp => ?_⟩
  have x4 := ok.freeze hp (.lst (vs ++ ws))
  exact k _ _ _ _ _ x4 (.lst upd_same (by rw [List.length_append]; exact z') ((ra.app rb).mono x4.mono)) q
theorem d_cat (ha : DE X a ta) (hb : DE X b tb) : DE X (.BinOp a .Add b pos) (dBin fCat ta tb) := d_op op_cat op2_cat ha hb
/-- t + u, tuples -/
def fCatT : D → D → GM → QD → Prop := fun d e G Q => ∃ ds es, d = .tup ds ∧ e = .tup es ∧ ds.length + es.length ≤ sizeLine ∧ Q (.tup (ds ++ es)) G
theorem op2_catT {K : PySem.W.Frag} : Op2 K (rCatA K) fCatT := by
  rintro F G H x y d e Q Qv ok rx ry ⟨ds, es, rfl, rfl, z, q⟩ k
  cases rx with
  | @tup a vs _ sa za ra =>
    cases ry with
    | @tup b ws _ sb zb rb =>
      have z' : vs.length + ws.length ≤ sizeLine := by rw [ra.len, rb.len]; exact z
      refine ⟨a, b, vs, ws, rfl, rfl, sub_sqT ok.sub sa, sub_sqT ok.sub sb, z', fun e => ?_, fun e1 e2 => ?_, fun _ _ p hp => ?_⟩
      · subst e
        cases ra
        exact k _ _ F G H (Ext.refl ok) (.tup sb zb rb) q
      · subst e2
        cases rb
        rw [List.append_nil] at q
        exact k _ _ F G H (Ext.refl ok) (.tup sa za ra) q
      · have x4 := ok.freeze hp (.tup (vs ++ ws))
        exact k _ _ _ _ _ x4 (.tup (SqT.of upd_same) (by rw [List.length_append]; exact z') ((ra.app rb).mono x4.mono)) q
theorem d_catT (ha : DE X a ta) (hb : DE X b tb) : DE X (.BinOp a .Add b pos) (dBin fCatT ta tb) := d_op op_catA op2_catT ha hb

/-! ### calls of builtins -/
def dCB (f : List D → GM → QD → Prop) (tA : TAD) : TED := fun ρ G Q => tA ρ G fun ds G1 => f ds G1 Q
def Call1 (K : PySem.W.Frag) (r : List V → Hp → VK → Prop) (f : List D → GM → QD → Prop) : Prop := ∀ (F : Hp) (G : GM) (H : Hp) (xs : List V) (ds : List D) (Q : QD) (Qv : VK), Ok K F G H → Reps K F xs ds → f ds G Q →
  (∀ v d' F' G' H', Ext K F G H F' G' H' → Rep K F' v d' → Q d' G' → Qv v H') → r xs H Qv
theorem tCB_conc {K : PySem.W.Frag} {r : List V → Hp → VK → Prop} {f : List D → GM → QD → Prop} (h : Call1 K r f) {σ : L2.St} {H : Hp} {Qv : VK} (z : conc K (dCB f tA) σ H Qv) : tCB r (concA K tA) σ H Qv := by
  obtain ⟨ρ, F, G, Q, ok, sl, z, k⟩ := z
  refine ⟨ρ, F, G, _, ok, sl, z, fun vs ds F1 G1 H1 x1 r1 q1 => ?_⟩
  exact h F1 G1 H1 vs ds Q Qv x1.ok r1 q1 fun v d' F' G' H' x2 r2 q2 => k v d' F' G' H' (x1.trans x2) r2 q2
variable {x : Str} {p : Pos} {es : List Expr}
theorem d_callB {id : String} {r : List V → Hp → VK → Prop} {f : List D → GM → QD → Prop} (hc : CallR X (.builtin id) r) (hf : Call1 X.K r f) (hg : Gl X x) (hm : X.mg x = none) (hv : bootBuiltins x = some (.builtin id)) (ha : DA X (e :: es) tA)
    (hdb : (x == ("__debug__" : Str)) = false := by decide) (hn : x ≠ "__name__" := by decide) (he : starEach (e :: es) X.env = (false, eval e X.env) :: starEach es X.env := by rfl) (hpl : (backTo pos (starEach es X.env)).any (·.1) = false := by rfl) :
    DE X (.Call (.Name x p) (e :: es) [] pos) (dCB f tA) :=
  pe_imp (pe_callB hc hg hm hv ha hn hdb he hpl) fun _ _ _ q => tCB_conc hf q
end
end DL

namespace DL
open PySem PySem.Spec PyProof.Rows L2
section
variable {X : Cx} {a b c e o i : Expr} {ta tb tc te : TED} {tA : TAD} {pos apos cpos : Pos} {x : Str} {p : Pos} {es : List Expr}

theorem d_callTy {T : String} {r : List V → Hp → VK → Prop} {f : List D → GM → QD → Prop} (hc : CallR X (.type T) r) (hf : Call1 X.K r f) (hg : Gl X x) (hm : X.mg x = none) (hv : bootBuiltins x = some (.type T)) (ha : DA X (e :: es) tA)
    (hn : x ≠ "__name__" := by decide) (hdb : (x == ("__debug__" : Str)) = false := by decide) (he : starEach (e :: es) X.env = (false, eval e X.env) :: starEach es X.env := by rfl) (hpl : (backTo pos (starEach es X.env)).any (·.1) = false := by rfl) :
    DE X (.Call (.Name x p) (e :: es) [] pos) (dCB f tA) :=
  pe_imp (pe_callTy hc hg hm hv ha hn hdb he hpl) fun _ _ _ q => tCB_conc hf q

/-! ### len, any, all, list, tuple, int -/
def fLen : List D → GM → QD → Prop := fun ds G Q => ∃ d es, ds = [d] ∧ seqG G d = some es ∧ Q (.int es.length) G
theorem c1_len {K : PySem.W.Frag} : Call1 K (fun xs H Q => ∃ p ys, xs = [.ref p] ∧ (SqL K H p ys ∨ SqT K H p ys) ∧ Q (.int ys.length) H) fLen := by
  rintro F G H xs ds Q Qv ok rr ⟨d, es, rfl, hs, q⟩ k
  cases rr with
  | cons r t =>
    cases t
    obtain ⟨a, vs, rfl, h1, _, rv⟩ := seqG_rep ok r hs
    refine ⟨a, vs, rfl, h1, k _ _ F G H (Ext.refl ok) ?_ q⟩
    rw [rv.len]
    exact .int _
theorem d_len (hg : Gl X "len") (hm : X.mg "len" = none) (ha : DA X [a] (dCons ta dNil)) (he : starEach [a] X.env = [(false, eval a X.env)] := by rfl) : DE X (.Call (.Name "len" p) [a] [] pos) (dCB fLen (dCons ta dNil)) :=
  d_callB call_len_seq c1_len hg hm PySem.boot_len ha (by decide) (by decide) he rfl
def fAny (all : Bool) : List D → GM → QD → Prop := fun ds G Q => ∃ (d : D) (bs : List Bool), ds = [d] ∧ lstG G d = some (bs.map D.bl) ∧ Q (.bl (if all = true then bs.all id else bs.any id)) G
theorem c1_any {K : PySem.W.Frag} : Call1 K (rAny K) (fAny false) := by
  rintro F G H xs ds Q Qv ok rr ⟨d, bs, rfl, hs, q⟩ k
  cases rr with
  | cons r t =>
    cases t
    obtain ⟨a, vs, rfl, h1, _, rv⟩ := lstG_rep ok r hs
    have ev := rv.bls
    subst ev
    exact ⟨a, bs, rfl, SqL.of h1, k _ _ F G H (Ext.refl ok) (.bl _) q⟩
theorem c1_all {K : PySem.W.Frag} : Call1 K (rAll K) (fAny true) := by
  rintro F G H xs ds Q Qv ok rr ⟨d, bs, rfl, hs, q⟩ k
  cases rr with
  | cons r t =>
    cases t
    obtain ⟨a, vs, rfl, h1, _, rv⟩ := lstG_rep ok r hs
    have ev := rv.bls
    subst ev
    exact ⟨a, bs, rfl, SqL.of h1, k _ _ F G H (Ext.refl ok) (.bl _) q⟩
theorem d_any (hc : X.calm = true) (hg : Gl X "any") (hm : X.mg "any" = none) (ha : DA X [a] (dCons ta dNil)) (he : starEach [a] X.env = [(false, eval a X.env)] := by rfl) : DE X (.Call (.Name "any" p) [a] [] pos) (dCB (fAny false) (dCons ta dNil)) :=
  d_callB (cr_any hc) c1_any hg hm (by decide +kernel) ha (by decide) (by decide) he rfl
theorem d_all (hc : X.calm = true) (hg : Gl X "all") (hm : X.mg "all" = none) (ha : DA X [a] (dCons ta dNil)) (he : starEach [a] X.env = [(false, eval a X.env)] := by rfl) : DE X (.Call (.Name "all" p) [a] [] pos) (dCB (fAny true) (dCons ta dNil)) :=
  d_callB (cr_all hc) c1_all hg hm (by decide +kernel) ha (by decide) (by decide) he rfl
def fList : List D → GM → QD → Prop := fun ds G Q => ∃ d es, ds = [d] ∧ seqG G d = some es ∧ Q (.lst es) G
def fListM : List D → GM → QD → Prop := fun ds G Q => ∃ d es, ds = [d] ∧ seqG G d = some es ∧ ∀ q, G q = none → Q (.ref q) (updG G q (.lst es))
def rListO (K : PySem.W.Frag) : List V → Hp → VK → Prop := fun xs H Q => ∃ p ys, xs = [.ref p] ∧ (SqL K H p ys ∨ SqT K H p ys) ∧ ∀ l, H l = none → Q (.ref l) (upd H l (.lst ys))
theorem c1_list {K : PySem.W.Frag} : Call1 K (rListO K) fList := by
  rintro F G H xs ds Q Qv ok rr ⟨d, es, rfl, hs, q⟩ k
  cases rr with
  | cons r t =>
    cases t
    obtain ⟨a, vs, rfl, h1, z, rv⟩ := seqG_rep ok r hs
    refine ⟨a, vs, rfl, h1, fun p hp => ?_⟩
    have x4 := ok.freeze hp (.lst vs)
    exact k _ _ _ _ _ x4 (.lst upd_same z (rv.mono x4.mono)) q
theorem c1_listM {K : PySem.W.Frag} : Call1 K (rListO K) fListM := by
  rintro F G H xs ds Q Qv ok rr ⟨d, es, rfl, hs, q⟩ k
  cases rr with
  | cons r t =>
    cases t
    obtain ⟨a, vs, rfl, h1, z, rv⟩ := seqG_rep ok r hs
    refine ⟨a, vs, rfl, h1, fun p hp => ?_⟩
    obtain ⟨gp, x4⟩ := ok.newG hp z rv
    exact k _ _ _ _ _ x4 (.ref p) (q p gp)
theorem d_listOf (hg : Gl X "list") (hm : X.mg "list" = none) (ha : DA X [a] (dCons ta dNil)) (he : starEach [a] X.env = [(false, eval a X.env)] := by rfl) : DE X (.Call (.Name "list" p) [a] [] pos) (dCB fList (dCons ta dNil)) :=
  d_callTy (T := "list") call_list_of c1_list hg hm (by decide +kernel) ha (by decide) (by decide) he rfl
theorem d_listOfM (hg : Gl X "list") (hm : X.mg "list" = none) (ha : DA X [a] (dCons ta dNil)) (he : starEach [a] X.env = [(false, eval a X.env)] := by rfl) : DE X (.Call (.Name "list" p) [a] [] pos) (dCB fListM (dCons ta dNil)) :=
  d_callTy (T := "list") call_list_of c1_listM hg hm (by decide +kernel) ha (by decide) (by decide) he rfl
def fTuple : List D → GM → QD → Prop := fun ds G Q => ∃ d es, ds = [d] ∧ seqG G d = some es ∧ Q (.tup es) G
theorem c1_tuple {K : PySem.W.Frag} : Call1 K (fun xs H Q => ∃ p ys, xs = [.ref p] ∧ ((SqL K H p ys ∧ ∀ l, H l = none → Q (.ref l) (upd H l (.tup ys))) ∨ (SqT K H p ys ∧ Q (.ref p) H))) fTuple := by
  rintro F G H xs ds Q Qv ok rr ⟨d, es, rfl, hs, q⟩ k
  cases rr with
  | cons r t =>
    cases t
    by_cases ht : ∃ zs, d = .tup zs
    · obtain ⟨zs, rfl⟩ := ht
      cases hs
      cases r with
      | @tup a vs _ s z rv => exact ⟨a, vs, rfl, .inr ⟨sub_sqT ok.sub s, k _ _ F G H (Ext.refl ok) (.tup s z rv) q⟩⟩
    · have hs' : lstG G d = some es := by
        cases d <;> first | exact hs | exact absurd ⟨_, rfl⟩ ht
      obtain ⟨a, vs, rfl, h1, z, rv⟩ := lstG_rep ok r hs'
      refine ⟨a, vs, rfl, .inl ⟨SqL.of h1, fun p hp => ?_⟩⟩
      have x4 := ok.freeze hp (.tup vs)
      exact k _ _ _ _ _ x4 (.tup (SqT.of upd_same) z (rv.mono x4.mono)) q
theorem d_tupleOf (hg : Gl X "tuple") (hm : X.mg "tuple" = none) (ha : DA X [a] (dCons ta dNil)) (he : starEach [a] X.env = [(false, eval a X.env)] := by rfl) : DE X (.Call (.Name "tuple" p) [a] [] pos) (dCB fTuple (dCons ta dNil)) :=
  d_callTy (T := "tuple") call_tuple_of c1_tuple hg hm (by decide +kernel) ha (by decide) (by decide) he rfl
def fInt : List D → GM → QD → Prop := fun ds G Q => ∃ j, ds = [.int j] ∧ Q (.int j) G
theorem c1_int {K : PySem.W.Frag} : Call1 K (fun xs H Q => (∃ i, xs = [.int i] ∧ Q (.int i) H) ∨ ∃ k, xs = [.bl k] ∧ Q (.int (if k then 1 else 0)) H) fInt := by
  rintro F G H xs ds Q Qv ok rr ⟨j, rfl, q⟩ k
  cases rr with
  | cons r t =>
    cases t
    cases r
    exact .inl ⟨j, rfl, k _ _ F G H (Ext.refl ok) (.int j) q⟩
theorem d_intOf (hg : Gl X "int") (hm : X.mg "int" = none) (ha : DA X [a] (dCons ta dNil)) (he : starEach [a] X.env = [(false, eval a X.env)] := by rfl) : DE X (.Call (.Name "int" p) [a] [] pos) (dCB fInt (dCons ta dNil)) :=
  d_callTy (T := "int") call_int1 c1_int hg hm (by decide +kernel) ha (by decide) (by decide) he rfl
/-- sorted of whole numbers -/
def fSortI : List D → GM → QD → Prop := fun ds G Q => ∃ (d : D) (ns : List Int), ds = [d] ∧ lstG G d = some (ns.map D.int) ∧ ∀ ms : List Int, ms.Perm ns → ms.Pairwise (· ≤ ·) → Q (.lst (ms.map D.int)) G
theorem c1_sortI {K : PySem.W.Frag} : Call1 K (rSortedI K) fSortI := by
  rintro F G H xs ds Q Qv ok rr ⟨d, ns, rfl, hs, q⟩ k
  cases rr with
  | cons r t =>
    cases t
    obtain ⟨a, vs, rfl, h1, z, rv⟩ := lstG_rep ok r hs
    have ev := rv.ints
    subst ev
    refine ⟨a, ns, rfl, SqL.of h1, fun ms p hp hs hn => ?_⟩
    have x4 := ok.freeze hn (.lst (ms.map V.int))
    refine k _ _ _ _ _ x4 (.lst upd_same ?_ ((Reps.of_ints ms).mono fun _ _ h => h)) (q ms hp hs)
    rw [List.length_map, hp.length_eq, ← List.length_map (f := V.int)]
    exact z
theorem d_sortI (hg : Gl X "sorted") (hm : X.mg "sorted" = none) (ha : DA X [a] (dCons ta dNil)) (he : starEach [a] X.env = [(false, eval a X.env)] := by rfl) : DE X (.Call (.Name "sorted" p) [a] [] pos) (dCB fSortI (dCons ta dNil)) :=
  d_callB cr_sortedI c1_sortI hg hm (by decide +kernel) ha (by decide) (by decide) he rfl

/-! ### isinstance -/
/-- the name of a value's type -/
def tyD (G : GM) : D → Option String
  | .non => some "NoneType"
  | .bl _ => some "bool"
  | .int _ => some "int"
  | .str _ => some "str"
  | .lst _ => some "list"
  | .tup _ => some "tuple"
  | .ref a => match G a with
    | some (.lst _) => some "list"
    | none => none
  | .ty _ => none
theorem tyD_rep {K : PySem.W.Frag} {F H : Hp} {G : GM} {v : V} {d : D} {T : String} (ok : Ok K F G H) (r : Rep K F v d) (h : tyD G d = some T) : TyX K H v (.type T) := by
  cases r with
  | non => cases h; exact .base .non
  | bl b => cases h; exact .base (.bl b)
  | int b => cases h; exact .base (.int b)
  | str b => cases h; exact .base (.str b)
  | ty _ => cases h
  | lst hF z rr => cases h; exact .base (.lst (ok.sub _ _ hF))
  | tup s z rr =>
    cases h
    rcases sub_sqT ok.sub s with (s | ⟨o, s⟩) | ⟨o, _, _, e, c, _⟩
    · exact .base (.tup s)
    · exact .fTuple s
    · exact .kTuple e c
  | ref a =>
    have h : (match G a with | some (.lst _) => some "list" | none => none) = some T := h
    cases e : G a with
    | none => rw [e] at h; cases h
    | some m =>
      rw [e] at h
      cases m with
      | lst es =>
        cases h
        obtain ⟨_, vs, h1, _⟩ := ok.g a _ e
        exact .base (.lst h1)
def fIsi : List D → GM → QD → Prop := fun ds G Q => ∃ d T C b, ds = [d, .ty C] ∧ tyD G d = some T ∧ kitB T C = some b ∧ Q (.bl b) G
theorem c1_isi {K : PySem.W.Frag} : Call1 K (rIsi K) fIsi := by
  rintro F G H xs ds Q Qv ok rr ⟨d, T, C, b, rfl, ht, hk, q⟩ k
  cases rr with
  | cons r t =>
    cases t with
    | cons r2 t2 =>
      cases t2
      cases r2
      exact ⟨_, _, _, _, b, rfl, .ty C, tyD_rep ok r ht, kit_ty hk, k _ _ F G H (Ext.refl ok) (.bl b) q⟩
theorem d_isi (hg : Gl X "isinstance") (hm : X.mg "isinstance" = none) (ha : DA X (a :: es) tA) (he : starEach (a :: es) X.env = (false, eval a X.env) :: starEach es X.env := by rfl) (hpl : (backTo pos (starEach es X.env)).any (·.1) = false := by rfl) :
    DE X (.Call (.Name "isinstance" p) (a :: es) [] pos) (dCB fIsi tA) :=
  d_callB call_isi c1_isi hg hm (by decide +kernel) ha (by decide) (by decide) he hpl
/-- isinstance(x, (C1, C2)) -/
def dIsi2 (C C' : String) (ta : TED) : TED := fun ρ G Q => ta ρ G fun d G1 => ∃ T b b', tyD G1 d = some T ∧ kitB T C = some b ∧ kitB T C' = some b' ∧ Q (.bl (b || b')) G1
theorem d_isi2 {y y' : Str} {C C' : String} {p1 p2 p3 : Pos} {k3} (hg : Gl X "isinstance") (hm : X.mg "isinstance" = none) (ha : DE X a ta) (g1 : Gl X y) (m1 : X.mg y = none) (b1 : bootBuiltins y = some (.type C)) (g2 : Gl X y') (m2 : X.mg y' = none) (b2 : bootBuiltins y' = some (.type C'))
    (n1 : y ≠ "__name__" := by decide) (n2 : y' ≠ "__name__" := by decide) (d1 : (y == ("__debug__" : Str)) = false := by decide) (d2 : (y' == ("__debug__" : Str)) = false := by decide)
    (he : starEach [a, .Tuple [.Name y p1, .Name y' p2] k3 p3] X.env = (false, eval a X.env) :: starEach [.Tuple [.Name y p1, .Name y' p2] k3 p3] X.env := by rfl) (hpl : (backTo pos (starEach [.Tuple [.Name y p1, .Name y' p2] k3 p3] X.env)).any (·.1) = false := by rfl)
    (he2 : starEach [.Tuple [.Name y p1, .Name y' p2] k3 p3] X.env = (false, eval (.Tuple [.Name y p1, .Name y' p2] k3 p3) X.env) :: starEach [] X.env := by rfl)
    (he3 : starEach [.Name y p1, .Name y' p2] X.env = (false, eval (.Name y p1) X.env) :: starEach [.Name y' p2] X.env := by rfl) (he4 : starEach [.Name y' p2] X.env = (false, eval (.Name y' p2) X.env) :: starEach [] X.env := by rfl) :
    DE X (.Call (.Name "isinstance" p) [a, .Tuple [.Name y p1, .Name y' p2] k3 p3] [] pos) (dIsi2 C C' ta) := by
  refine pe_imp (pe_callB call_isiT hg hm (by decide +kernel) (pa_cons ha (pa_cons (pe_tup (pa_cons (pe_bltn (v := .ty C) g1 m1 b1 rfl n1 d1) (pa_cons (pe_bltn (v := .ty C') g2 m2 b2 rfl n2 d2) pa_nil he4) he3)) pa_nil he2) he) (by decide) (by decide) he hpl) fun σ H Qv z => ?_
  obtain ⟨ρ, F, G, Q, ok, sl, z, k⟩ := z
  refine ⟨ρ, F, G, _, ok, sl, z, fun x d F1 G1 H1 x1 r1 q1 => ?_⟩
  obtain ⟨T, b, b', ht, hk, hk', q1⟩ := q1
  refine ⟨(by show 2 ≤ sizeLine; decide), fun tp hp => ?_⟩
  have x2 := x1.ok.freeze hp (.tup [V.ty C, V.ty C'])
  have hb : PySem.W.kitAny X.K (.type T) [.type C, .type C'] = some (b || b') := by
    refine kitAny_cons (kit_ty hk) (fun e => ?_) (fun e => by rw [e]; rfl)
    rw [e, Bool.false_or]
    exact kitAny_cons (kit_ty hk') (fun e => by rw [e]; exact kitAny_nil) (fun e => e)
  exact ⟨_, tp, _, _, _, _, rfl, upd_same, .cons (.ty C) (.cons (.ty C') .nil), tyD_rep x2.ok (r1.mono x2.mono) ht, hb, k _ _ _ _ _ (x1.trans x2) (.bl _) q1⟩
end
end DL

namespace DL
open PySem PySem.Spec PyProof.Rows L2
section
variable {X : Cx} {a b c e o i : Expr} {ta tb tc te : TED} {tA : TAD} {pos apos cpos spos : Pos} {x : Str} {p : Pos} {es : List Expr}

/-! ### blocks -/
def dNext : TSD := fun E ρ G => E.nx ρ G
def dSeq (t u : TSD) : TSD := fun E ρ G => t { E with nx := u E } ρ G
theorem dss_nil : DSs X [] dNext := pss_imp pss_nil fun V σ H z => by
  obtain ⟨ρ, F, G, E, ok, sl, z, k⟩ := z
  exact k.nx σ ρ F G H (Ext.refl ok) sl z
theorem dss_cons {st : Stmt} {rest : List Stmt} {t u : TSD} (h1 : DS X st t) (h2 : DSs X rest u) : DSs X (st :: rest) (dSeq t u) := pss_imp (pss_cons h1 h2) fun V σ H z => by
  obtain ⟨ρ, F, G, E, ok, sl, z, k⟩ := z
  refine ⟨ρ, F, G, _, ok, sl, z, ⟨fun σ' ρ' F' G' H' x1 s1 q => ?_, k.rt, k.bk, k.ct⟩⟩
  exact ⟨ρ', F', G', E, x1.ok, s1, q, k.step x1⟩
theorem dss_one {st : Stmt} {t : TSD} (h1 : DS X st t) : DSs X [st] t := pss_one h1
def dIfS (t : TTD) (u v : TSD) : TSD := fun E ρ G => t ρ G fun b G1 => if b = true then u E ρ G1 else v E ρ G1
theorem ds_if {t : TTD} {u v : TSD} {bs cs : List Stmt} (hc : DT X c t) (hb : DSs X bs u) (he : DSs X cs v) : DS X (.If c bs cs pos) (dIfS t u v) := ps_imp (ps_if hc hb he) fun V σ H z => by
  obtain ⟨ρ, F, G, E, ok, sl, z, k⟩ := z
  refine ⟨ρ, F, G, _, ok, sl, z, fun b F1 G1 H1 x1 q1 => ?_⟩
  cases b with
  | true =>
    rw [if_pos rfl] at q1 ⊢
    exact ⟨ρ, F1, G1, E, x1.ok, sl.mono x1.mono, q1, k.step x1⟩
  | false =>
    rw [if_neg Bool.false_ne_true] at q1 ⊢
    exact ⟨ρ, F1, G1, E, x1.ok, sl.mono x1.mono, q1, k.step x1⟩
def dRet (t : TED) : TSD := fun E ρ G => t ρ G E.rt
theorem ds_ret (h : DE X e te) : DS X (.Return (some e) pos) (dRet te) := ps_imp (ps_ret h) fun V σ H z => by
  obtain ⟨ρ, F, G, E, ok, sl, z, k⟩ := z
  exact ⟨ρ, F, G, _, ok, sl, z, fun v d F1 G1 H1 x1 r1 q1 => k.rt v d F1 G1 H1 x1 r1 q1⟩
def dDrop (t : TED) : TSD := fun E ρ G => t ρ G fun _ G1 => E.nx ρ G1
theorem ds_expr (h : DE X e te) (hs : swapsWith e none pos.line X.env = pure false := by rfl) : DS X (.Expr e pos) (dDrop te) := ps_imp (ps_expr h hs) fun V σ H z => by
  obtain ⟨ρ, F, G, E, ok, sl, z, k⟩ := z
  exact ⟨ρ, F, G, _, ok, sl, z, fun v d F1 G1 H1 x1 r1 q1 => k.nx σ ρ F1 G1 H1 x1 (sl.mono x1.mono) q1⟩
def dNever : TSD := fun _ _ _ => False
theorem ds_never {st : Stmt} : DS X st dNever := ps_imp (ps_never) fun V σ H z => by
  obtain ⟨ρ, F, G, E, ok, sl, z, k⟩ := z
  exact z.elim
theorem dss_never {st : List Stmt} : DSs X st dNever := pss_imp (pss_never) fun V σ H z => by
  obtain ⟨ρ, F, G, E, ok, sl, z, k⟩ := z
  exact z.elim

/-! ### targets -/
abbrev TGD := D → Rh → (Rh → Prop) → Prop
/-- but for the slots ts all is as it was -/
def Off (ts : List Nat) (σ σ' : L2.St) : Prop := σ'.length = σ.length ∧ ∀ i, i ∉ ts → σ'[i]? = σ[i]?
theorem Off.refl (σ : L2.St) : Off [] σ σ := ⟨rfl, fun _ _ => rfl⟩
theorem Off.trans {ts us : List Nat} {σ σ' σ'' : L2.St} (h : Off ts σ σ') (k : Off us σ' σ'') : Off (ts ++ us) σ σ'' :=
  ⟨k.1.trans h.1, fun i hi => by
    rw [List.mem_append, not_or] at hi
    rw [k.2 i hi.2, h.2 i hi.1]⟩
theorem Off.set (σ : L2.St) (i : Nat) (x : Option V) : Off [i] σ (σ.set i x) :=
  ⟨List.length_set, fun j hj => List.getElem?_set_ne (fun e => hj (by rw [e]; exact List.mem_singleton.mpr rfl))⟩
def SndG (K : PySem.W.Frag) (g : TG) (gd : TGD) (ts : List Nat) : Prop := ∀ (F : Hp) (G : GM) (H : Hp) (σ : L2.St) (ρ : Rh) (v : V) (d : D) (Q : Rh → Prop) (Qv : L2.St → Hp → Prop), Ok K F G H → Slots K F σ ρ → Rep K F v d → gd d ρ Q → (∀ σ' ρ', Slots K F σ' ρ' → Off ts σ σ' → Q ρ' → Qv σ' H) → g v σ H Qv
structure DG (X : Cx) (tg : Expr) (gd : TGD) (ts : List Nat) : Prop where
  ex : ∃ g, PG X tg g ∧ SndG X.K g gd ts
def gN (i : Nat) : TGD := fun d ρ Q => Q (ρ.set i (some d))
theorem snd_gName {K : PySem.W.Frag} (i : Nat) : SndG K (gName i) (gN i) [i] := fun F G H σ ρ v d Q Qv ok sl r q k => k _ _ (sl.set i r) (Off.set σ i _) q
abbrev TGsD := List D → Rh → (Rh → Prop) → Prop
def SndGs (K : PySem.W.Frag) (g : TGs) (gd : TGsD) (ts : List Nat) : Prop := ∀ (F : Hp) (G : GM) (H : Hp) (σ : L2.St) (ρ : Rh) (vs : List V) (ds : List D) (Q : Rh → Prop) (Qv : L2.St → Hp → Prop), Ok K F G H → Slots K F σ ρ → Reps K F vs ds → gd ds ρ Q → (∀ σ' ρ', Slots K F σ' ρ' → Off ts σ σ' → Q ρ' → Qv σ' H) → g vs σ H Qv
def gsNil : TGsD := fun ds ρ Q => ds = [] ∧ Q ρ
def gsCons (g : TGD) (u : TGsD) : TGsD := fun ds ρ Q => ∃ d r, ds = d :: r ∧ g d ρ fun ρ' => u r ρ' Q
theorem snd_nil {K : PySem.W.Frag} : SndGs K gNil gsNil [] := by
  rintro F G H σ ρ vs ds Q Qv ok sl r ⟨rfl, q⟩ k
  cases r
  exact ⟨rfl, k σ ρ sl (Off.refl σ) q⟩
theorem snd_cons {K : PySem.W.Frag} {g : TG} {gd : TGD} {u : TGs} {ud : TGsD} {ts us : List Nat} (h : SndG K g gd ts) (hu : SndGs K u ud us) : SndGs K (gCons g u) (gsCons gd ud) (ts ++ us) := by
  rintro F G H σ ρ vs ds Q Qv ok sl r ⟨d, ds', rfl, q⟩ k
  cases r with
  | cons r rs =>
    refine ⟨_, _, rfl, ?_⟩
    exact h F G H σ ρ _ _ _ _ ok sl r q fun σ1 ρ1 s1 o1 q1 => hu F G H σ1 ρ1 _ _ _ _ ok s1 rs q1 fun σ2 ρ2 s2 o2 q2 => k σ2 ρ2 s2 (o1.trans o2) q2
def gT (n : Nat) (u : TGsD) : TGD := fun d ρ Q => ∃ ds, d = .tup ds ∧ ds.length = n ∧ u ds ρ Q
theorem snd_tup {K : PySem.W.Frag} {n : Nat} {u : TGs} {ud : TGsD} {ts : List Nat} (hu : SndGs K u ud ts) : SndG K (gTup K n u) (gT n ud) ts := by
  rintro F G H σ ρ v d Q Qv ok sl r ⟨ds, rfl, hn, q⟩ k
  cases r with
  | @tup a vs _ s z rs => exact ⟨a, vs, rfl, sub_sqT ok.sub s, rs.len.trans hn, hu F G H σ ρ _ _ _ _ ok sl rs q k⟩
theorem dg_name {i : Nat} (hN : X.N.Nodup) (hi : X.N[i]? = some x) (hx : Loc X.env.scope x) (hf : X.fn x = true ∨ X.env.scope.names.lookup x = some .local := by first | exact .inl rfl | exact .inr rfl | assumption) : DG X (.Name x pos) (gN i) [i] :=
  ⟨⟨_, pg_name hN hi hx hf, snd_gName i⟩⟩
structure DGs (X : Cx) (tgs : List Expr) (gd : TGsD) (ts : List Nat) : Prop where
  ex : ∃ g, PGs X tgs g ∧ SndGs X.K g gd ts
theorem dgs_nil : DGs X [] gsNil [] := ⟨⟨_, pgs_nil, snd_nil⟩⟩
theorem dgs_cons {g : TGD} {u : TGsD} {ts us : List Nat} (h1 : DG X e g ts) (h2 : DGs X es u us) (hs : (assignEach (e :: es) X.env).map (·.2) = assign e X.env :: (assignEach es X.env).map (·.2) := by rfl) : DGs X (e :: es) (gsCons g u) (ts ++ us) := by
  obtain ⟨g', p1, s1⟩ := h1.ex
  obtain ⟨u', p2, s2⟩ := h2.ex
  exact ⟨⟨_, pgs_cons p1 p2 hs, snd_cons s1 s2⟩⟩
theorem dg_tup {u : TGsD} {k : Nat} {n : Nat} {ts : List Nat} (hc : X.calm = true) (h : DGs X es u ts) (hn : (assignEach es X.env).length = n := by rfl) (hst : (assignEach es X.env).findIdx? (·.1) = none := by rfl) : DG X (.Tuple es k pos) (gT n u) ts := by
  obtain ⟨u', p2, s2⟩ := h.ex
  exact ⟨⟨_, pg_tup hc p2 hn hst, snd_tup s2⟩⟩
def dAsg (t : TED) (g : TGD) : TSD := fun E ρ G => t ρ G fun d G1 => g d ρ fun ρ1 => E.nx ρ1 G1
theorem asg_conc {K : PySem.W.Frag} {t : TED} {g : TG} {gd : TGD} {ts : List Nat} (hg : SndG K g gd ts) {V : Ends} {σ : L2.St} {H : Hp} (z : concS K (dAsg t gd) V σ H) : tAsg (conc K t) g V σ H := by
  obtain ⟨ρ, F, G, E, ok, sl, z, k⟩ := z
  refine ⟨ρ, F, G, _, ok, sl, z, fun v d F1 G1 H1 x1 r1 q1 => ?_⟩
  exact hg F1 G1 H1 σ ρ v d _ _ x1.ok (sl.mono x1.mono) r1 q1 fun σ' ρ' s _ q => k.nx σ' ρ' F1 G1 H1 x1 s q
theorem ds_set {i : Nat} {pos' : Pos} (hN : X.N.Nodup) (hi : X.N[i]? = some x) (hx : Loc X.env.scope x) (he : DE X e te) (hs : swapsWith e (some (.Name x pos')) pos.line X.env = pure false := by rfl)
    (hf : X.fn x = true ∨ X.env.scope.names.lookup x = some .local := by first | exact .inl rfl | exact .inr rfl | assumption) : DS X (.Assign [.Name x pos'] e pos) (dAsg te (gN i)) :=
  ps_imp (ps_set hN hi hx he hs hf) fun _ _ _ z => asg_conc (snd_gName i) z
theorem ds_asg {tg : Expr} {g : TGD} {ts : List Nat} (he : DE X e te) (hg : DG X tg g ts) (hs : swapsWithSole [tg] e pos.line X.env = pure false := by rfl) (hw : swappedStores [tg] e X.env = pure none := by rfl)
    (h1 : (assignEach [tg] X.env).map (·.2) = [assign tg X.env] := by rfl) : DS X (.Assign [tg] e pos) (dAsg te g) := by
  obtain ⟨g', p, s⟩ := hg.ex
  exact ps_imp (ps_asg he p hs hw h1) fun _ _ _ z => asg_conc s z
/-- o[i] = e, o a list of the store -/
def dStore (te to ti : TED) : TSD := fun E ρ G => te ρ G fun d G1 => to ρ G1 fun o G2 => ti ρ G2 fun j G3 => ∃ a ds k n, o = .ref a ∧ G3 a = some (.lst ds) ∧ j = .int k ∧ ixN ds.length k = some n ∧ E.nx ρ (updG G3 a (.lst (ds.set n d)))
theorem Ok.setG {K : PySem.W.Frag} {F H : Hp} {G : GM} (ok : Ok K F G H) {a : Addr} {m : MO} (ha : G a = some m) {vs : List V} {ds : List D} (z : vs.length ≤ sizeLine) (r : Reps K F vs ds) : Ext K F G H F (updG G a (.lst ds)) (upd H a (.lst vs)) := by
  obtain ⟨fa, _⟩ := ok.g a m ha
  have ne : ∀ b u, F b = some u → b ≠ a := by
    rintro b u q rfl
    rw [fa] at q; cases q
  refine ⟨⟨fun b u h => by rw [upd_ne (ne b u h)]; exact ok.sub b u h, fun b m h => ?_⟩, fun _ _ h => h, fun _ _ h => .inl h, fun b u h g => ?_, fun b h => ?_, fun b h => ?_⟩
  · by_cases e : b = a
    · subst e
      rw [updG_same] at h
      cases h
      exact ⟨fa, vs, upd_same, z, r⟩
    · rw [updG_ne e] at h
      obtain ⟨f, r⟩ := ok.g b m h
      exact ⟨f, r.keep (fun _ _ h => h) fun u q => by rw [upd_ne e]; exact q⟩
  · have e : b ≠ a := by rintro rfl; rw [ha] at g; cases g
    rw [upd_ne e]; exact h
  · by_cases e : b = a
    · subst e; exact .inl (by rw [ha]; exact fun z => by cases z)
    · rw [updG_ne e] at h; exact .inl h
  · by_cases e : b = a
    · subst e; rw [upd_same] at h; cases h
    · rw [upd_ne e] at h; exact h
theorem ds_store {to ti : TED} (he : DE X e te) (ho : DE X o to) (hi : DE X i ti)
    (ha : ∀ v, assign (.Subscript o i pos) X.env v = (do
      let ov ← holding [v] (eval o X.env)
      let iv ← holding [v, ov] (eval i X.env)
      standAt pos
      holding [v, ov, iv] (setItem ov iv v)
      release [v, ov, iv] []) := by intro _; rfl)
    (hs : swapsWithSole [.Subscript o i pos] e spos.line X.env = pure false := by rfl) (hw : swappedStores [.Subscript o i pos] e X.env = pure none := by rfl)
    (h1 : (assignEach [.Subscript o i pos] X.env).map (·.2) = [assign (.Subscript o i pos) X.env] := by rfl) : DS X (.Assign [.Subscript o i pos] e spos) (dStore te to ti) := by
  refine ps_imp (ps_asg he (pg_sub ho hi set_list ha) hs hw h1) fun V σ H z => ?_
  obtain ⟨ρ, F, G, E, ok, sl, z, k⟩ := z
  refine ⟨ρ, F, G, _, ok, sl, z, fun v d F1 G1 H1 x1 r1 q1 => ?_⟩
  refine ⟨ρ, F1, G1, _, x1.ok, sl.mono x1.mono, q1, fun ov od F2 G2 H2 x2 r2 q2 => ?_⟩
  refine ⟨ρ, F2, G2, _, x2.ok, sl.mono (x1.trans x2).mono, q2, fun iv id F3 G3 H3 x3 r3 q3 => ?_⟩
  obtain ⟨a, ds, kk, n, rfl, hG, rfl, hn, q3⟩ := q3
  cases r2; cases r3
  obtain ⟨fa, vs, hv, hz, rr⟩ := x3.ok.g a _ hG
  have r1' := r1.mono (x2.trans x3).mono
  have x4 := x3.ok.setG hG (vs := vs.set n v) (ds := ds.set n d) (by rw [List.length_set]; exact hz) (rr.set r1' n)
  have xx := ((x1.trans x2).trans x3).trans x4
  exact ⟨a, vs, kk, n, rfl, rfl, hv, by rw [rr.len]; exact hn, k.nx σ ρ _ _ _ xx (sl.mono xx.mono) q3⟩

/-! ### append, extend of a list of the store -/
def dMt (f : D → List D → GM → QD → Prop) (to : TED) (tA : TAD) : TED := fun ρ G Q => to ρ G fun o G1 => (∃ a ds, o = .ref a ∧ G1 a = some (.lst ds)) ∧ tA ρ G1 fun ds G2 => f o ds G2 Q
def fApp : D → List D → GM → QD → Prop := fun o ds G Q => ∃ a xs d, o = .ref a ∧ ds = [d] ∧ G a = some (.lst xs) ∧ xs.length < sizeLine ∧ Q .non (updG G a (.lst (xs ++ [d])))
def fExt : D → List D → GM → QD → Prop := fun o ds G Q => ∃ a xs d zs, o = .ref a ∧ ds = [d] ∧ G a = some (.lst xs) ∧ lstG G d = some zs ∧ xs.length + zs.length ≤ sizeLine ∧ Q .non (updG G a (.lst (xs ++ zs)))
def Meth1 (K : PySem.W.Frag) (r : V → List V → Hp → VK → Prop) (f : D → List D → GM → QD → Prop) : Prop := ∀ (F : Hp) (G : GM) (H : Hp) (x : V) (xs : List V) (d : D) (ds : List D) (Q : QD) (Qv : VK), Ok K F G H → Rep K F x d → Reps K F xs ds → f d ds G Q →
  (∀ v d' F' G' H', Ext K F G H F' G' H' → Rep K F' v d' → Q d' G' → Qv v H') → r x xs H Qv
theorem m1_app {K : PySem.W.Frag} : Meth1 K rAppend fApp := by
  rintro F G H x xs d ds Q Qv ok r rs ⟨a, zs, e, rfl, rfl, hG, hz, q⟩ k
  cases r
  cases rs with
  | cons r1 t =>
    cases t
    obtain ⟨_, vs, hv, z, rr⟩ := ok.g a _ hG
    have hz' : vs.length < sizeLine := by rw [rr.len]; exact hz
    have x4 := ok.setG hG (vs := vs ++ [_]) (ds := zs ++ [e]) (by rw [List.length_append, List.length_singleton]; omega) (rr.app (.cons r1 .nil))
    exact ⟨a, vs, _, rfl, rfl, hv, hz', k _ _ _ _ _ x4 .non q⟩
theorem m1_ext {K : PySem.W.Frag} : Meth1 K rExtend fExt := by
  rintro F G H x xs d ds Q Qv ok r rs ⟨a, zs, e, ws, rfl, rfl, hG, hl, hz, q⟩ k
  cases r
  cases rs with
  | cons r1 t =>
    cases t
    obtain ⟨_, vs, hv, z, rr⟩ := ok.g a _ hG
    obtain ⟨b, us, rfl, hb, _, rb⟩ := lstG_rep ok r1 hl
    have hz' : vs.length + us.length ≤ sizeLine := by rw [rr.len, rb.len]; exact hz
    have x4 := ok.setG hG (vs := vs ++ us) (ds := zs ++ ws) (by rw [List.length_append]; exact hz') (rr.app rb)
    exact ⟨a, b, vs, us, rfl, rfl, hv, hb, hz', k _ _ _ _ _ x4 .non q⟩
theorem d_mt {name : Str} {id : String} {to : TED} {r : V → List V → Hp → VK → Prop} {f : D → List D → GM → QD → Prop} (slot : Slot "list" name id) (hty : typeOf (.builtin id) = pure (.type "method_descriptor")) (hm : MtR X id r) (hf : Meth1 X.K r f) (ho : DE X o to) (ha : DA X (e :: es) tA)
    (hbase : attributeBase o name X.env (eval o X.env) = eval o X.env := by rfl)
    (hfew : ((backTo cpos (starEach (e :: es) X.env)).all (fun x => !x.1) && (backToKw cpos (keywordEach [] X.env)).all (fun x => x.1.isSome)
      && decide ((e :: es).length + ([] : List Keyword).length + (if ([] : List Keyword).isEmpty then 0 else 1) < 30)) = true := by rfl)
    (hline : (apos.endLine == cpos.line) = true := by rfl) (hs : starEach (e :: es) X.env = (false, eval e X.env) :: starEach es X.env := by rfl) (hplain : (backTo cpos (starEach es X.env)).any (·.1) = false := by rfl) :
    DE X (.Call (.Attribute o name apos) (e :: es) [] cpos) (dMt f to tA) := by
  refine pe_imp (pe_bm PySem.F.plainAttrs_list slot hty hm ho ha hbase hfew hline hs hplain) fun σ H Qv z => ?_
  obtain ⟨ρ, F, G, Q, ok, sl, z, k⟩ := z
  refine ⟨ρ, F, G, _, ok, sl, z, fun v d F1 G1 H1 x1 r1 q1 => ?_⟩
  obtain ⟨⟨a, ds, rfl, hG⟩, q1⟩ := q1
  obtain ⟨_, vs, hv, _, _⟩ := x1.ok.g a _ hG
  have r1' := r1
  cases r1
  refine ⟨.inl ⟨rfl, _, SqL.of hv⟩, ?_⟩
  refine ⟨ρ, F1, G1, _, x1.ok, sl.mono x1.mono, q1, fun us es F2 G2 H2 x2 r2 q2 => ?_⟩
  exact hf F2 G2 H2 _ us _ es Q Qv x2.ok (r1'.mono x2.mono) r2 q2 fun v d' F' G' H' x3 r3 q3 => k v d' F' G' H' ((x1.trans x2).trans x3) r3 q3
theorem d_append {to : TED} (ho : DE X o to) (ha : DA X [e] tA) (hbase : attributeBase o "append" X.env (eval o X.env) = eval o X.env := by rfl)
    (hfew : ((backTo cpos (starEach [e] X.env)).all (fun x => !x.1) && (backToKw cpos (keywordEach [] X.env)).all (fun x => x.1.isSome)
      && decide ([e].length + ([] : List Keyword).length + (if ([] : List Keyword).isEmpty then 0 else 1) < 30)) = true := by rfl)
    (hline : (apos.endLine == cpos.line) = true := by rfl) (hs : starEach [e] X.env = (false, eval e X.env) :: starEach [] X.env := by rfl) :
    DE X (.Call (.Attribute o "append" apos) [e] [] cpos) (dMt fApp to tA) := d_mt PySem.F.slot_list_append PySem.F.type_list_append mt_append m1_app ho ha hbase hfew hline hs rfl
theorem d_extend {to : TED} (ho : DE X o to) (ha : DA X [e] tA) (hbase : attributeBase o "extend" X.env (eval o X.env) = eval o X.env := by rfl)
    (hfew : ((backTo cpos (starEach [e] X.env)).all (fun x => !x.1) && (backToKw cpos (keywordEach [] X.env)).all (fun x => x.1.isSome)
      && decide ([e].length + ([] : List Keyword).length + (if ([] : List Keyword).isEmpty then 0 else 1) < 30)) = true := by rfl)
    (hline : (apos.endLine == cpos.line) = true := by rfl) (hs : starEach [e] X.env = (false, eval e X.env) :: starEach [] X.env := by rfl) :
    DE X (.Call (.Attribute o "extend" apos) [e] [] cpos) (dMt fExt to tA) := d_mt PySem.F.slot_list_extend PySem.F.type_list_extend mt_extend m1_ext ho ha hbase hfew hline hs rfl

/-- a list of the store that is changed no more -/
def dFrz (t : TED) : TED := fun ρ G Q => t ρ G fun d G1 => ∃ a ds, d = .ref a ∧ G1 a = some (.lst ds) ∧ Q (.lst ds) (delG G1 a)
theorem Ok.frz {K : PySem.W.Frag} {F H : Hp} {G : GM} (ok : Ok K F G H) {a : Addr} {ds : List D} (ha : G a = some (.lst ds)) : ∃ vs, vs.length ≤ sizeLine ∧ Reps K F vs ds ∧ Ext K F G H (upd F a (.lst vs)) (delG G a) H := by
  obtain ⟨fa, vs, hv, z, rr⟩ := ok.g a _ ha
  have ne : ∀ b u, F b = some u → b ≠ a := by
    rintro b u q rfl
    rw [fa] at q; cases q
  have sb : Sub F (upd F a (.lst vs)) := fun b u q => by rw [upd_ne (ne b u q)]; exact q
  refine ⟨vs, z, rr, ⟨⟨fun b u h => ?_, fun b m h => ?_⟩, sb, fun b u h => ?_, fun b u h _ => h, fun b h => ?_, fun _ h => h⟩⟩
  · by_cases e : b = a
    · subst e; rw [upd_same] at h; cases h; exact hv
    · rw [upd_ne e] at h; exact ok.sub b u h
  · by_cases e : b = a
    · subst e; rw [delG_same] at h; cases h
    · rw [delG_ne e] at h
      obtain ⟨f, r⟩ := ok.g b m h
      exact ⟨by rw [upd_ne e]; exact f, r.keep sb fun u q => q⟩
  · by_cases e : b = a
    · subst e; exact .inr (.inr (by rw [ha]; exact fun z => by cases z))
    · rw [upd_ne e] at h; exact .inl h
  · by_cases e : b = a
    · subst e; rw [delG_same] at h; exact absurd rfl h
    · rw [delG_ne e] at h; exact .inl h
theorem d_frz (h : DE X e te) : DE X e (dFrz te) := by
  refine pe_imp h fun σ H Qv z => ?_
  obtain ⟨ρ, F, G, Q, ok, sl, z, k⟩ := z
  refine ⟨ρ, F, G, _, ok, sl, z, fun v d F1 G1 H1 x1 r1 q1 => ?_⟩
  obtain ⟨a, ds, rfl, hG, q⟩ := q1
  cases r1
  obtain ⟨vs, z, rr, x2⟩ := x1.ok.frz hG
  exact k _ _ _ _ _ (x1.trans x2) (.lst upd_same z (rr.mono x2.mono)) q
end
end DL

namespace DL
open PySem PySem.Spec PyProof.Rows L2

/-! ### what is walked -/
structure Src (K : PySem.W.Frag) (stab : GM → Prop) (J : It) (items : List D) (F : Hp) (G : GM) (H : Hp) : Prop where
  sz : items.length ≤ sizeLine
  go : ∀ i F' G' H', Ext K F G H F' G' H' → stab G' → i < items.length → J.go i H'
  yld : ∀ i F' G' H' x H'', Ext K F G H F' G' H' → stab G' → J.yld i H' x H'' → ∀ d, items[i]? = some d → ∃ F'', Ext K F' G' H' F'' G' H'' ∧ Rep K F'' x d
  stop : ∀ i F' G' H', Ext K F G H F' G' H' → stab G' → items.length ≤ i → J.stop i H'
abbrev TID := Rh → GM → (List D → (GM → Prop) → GM → Prop) → Prop
def concI (K : PySem.W.Frag) (t : TID) : TI := fun σ H R => ∃ (ρ : Rh) (F : Hp) (G : GM) (Q : List D → (GM → Prop) → GM → Prop), Ok K F G H ∧ Slots K F σ ρ ∧ t ρ G Q ∧
  ∀ J items stab F' G' H', Ext K F G H F' G' H' → stab G' → Src K stab J items F' G' H' → Q items stab G' → R J H'
abbrev DI (X : Cx) (tg iter : Expr) (t : TID) : Prop := PI X tg iter (concI X.K t)
theorem pi_imp {X : Cx} {tg iter : Expr} {t t' : TI} (h : PI X tg iter t) (i : ∀ σ H Q, t' σ H Q → t σ H Q) : PI X tg iter t' := ⟨fun pins s σ H Q I q => h.run pins s σ H Q I (i σ H Q q)⟩

/-- what must stay of a list that is walked -/
def stabOf : D → List D → GM → Prop
  | .ref a, ds, G => G a = some (.lst ds)
  | _, _, _ => True
theorem later_list {K : PySem.W.Frag} {F F' : Hp} {G G' : GM} {H H' : Hp} {v : V} {d : D} {ds : List D} (ok : Ok K F G H) (r : Rep K F v d) (h : lstG G d = some ds) (x : Ext K F G H F' G' H') (st : stabOf d ds G') :
    ∃ a vs, v = .ref a ∧ H' a = some (.lst vs) ∧ vs.length ≤ sizeLine ∧ Reps K F' vs ds := by
  refine lstG_rep x.ok (r.mono x.mono) ?_
  cases d with
  | ref a =>
    have st : G' a = some (.lst ds) := st
    show (match G' a with | some (.lst ds) => some ds | none => none) = some ds
    rw [st]
  | lst es => exact h
  | non => cases h
  | bl b => cases h
  | int b => cases h
  | str b => cases h
  | ty b => cases h
  | tup b => cases h
theorem stab_now {G : GM} {d : D} {ds : List D} (h : lstG G d = some ds) : stabOf d ds G := by
  cases d with
  | ref a =>
    show G a = some (.lst ds)
    have h : (match G a with | some (.lst ds) => some ds | none => none) = some ds := h
    cases e : G a with
    | none => rw [e] at h; cases h
    | some m =>
      rw [e] at h
      cases m
      cases h
      rfl
  | _ => trivial
theorem src_list {K : PySem.W.Frag} {F : Hp} {G : GM} {H : Hp} {a : Addr} {d : D} {ds : List D} (ok : Ok K F G H) (r : Rep K F (.ref a) d) (h : lstG G d = some ds) : Src K (stabOf d ds) (Itl K a) ds F G H where
  sz := by
    obtain ⟨b, vs, e, _, z, rr⟩ := lstG_rep ok r h
    rw [← rr.len]; exact z
  go := fun i F' G' H' x st hi => by
    obtain ⟨b, vs, e, hv, z, rr⟩ := later_list ok r h x st
    cases e
    have hi' : i < vs.length := by rw [rr.len]; exact hi
    exact ⟨vs, vs[i], SqL.of hv, List.getElem?_eq_getElem hi'⟩
  yld := fun i F' G' H' v H'' x st y d' hd => by
    obtain ⟨b, vs, e, hv, z, rr⟩ := later_list ok r h x st
    cases e
    obtain ⟨rfl, y⟩ := y
    obtain ⟨u, hu, ru⟩ := rr.getD hd
    have e := y vs (SqL.of hv)
    rw [hu] at e
    cases e
    exact ⟨F', Ext.refl x.ok, ru⟩
  stop := fun i F' G' H' x st hi => by
    obtain ⟨b, vs, e, hv, z, rr⟩ := later_list ok r h x st
    cases e
    exact ⟨vs, SqL.of hv, by rw [rr.len]; exact hi⟩
theorem src_tup {K : PySem.W.Frag} {F : Hp} {G : GM} {H : Hp} {a : Addr} {vs : List V} {ds : List D} (ok : Ok K F G H) (s : SqT K F a vs) (z : vs.length ≤ sizeLine) (rr : Reps K F vs ds) : Src K (fun _ => True) (Itt K a) ds F G H where
  sz := by rw [← rr.len]; exact z
  go := fun i F' G' H' x _ hi => by
    have hi' : i < vs.length := by rw [rr.len]; exact hi
    exact ⟨vs, vs[i], sub_sqT x.ok.sub (sub_sqT x.mono s), List.getElem?_eq_getElem hi'⟩
  yld := fun i F' G' H' v H'' x _ y d' hd => by
    obtain ⟨rfl, y⟩ := y
    obtain ⟨u, hu, ru⟩ := (rr.mono x.mono).getD hd
    have e := y vs (sub_sqT x.ok.sub (sub_sqT x.mono s))
    rw [hu] at e
    cases e
    exact ⟨F', Ext.refl x.ok, ru⟩
  stop := fun i F' G' H' x _ hi => ⟨vs, sub_sqT x.ok.sub (sub_sqT x.mono s), by rw [rr.len]; exact hi⟩
section
variable {X : Cx} {a b c e o i tg iter : Expr} {ta tb tc te : TED} {tA : TAD} {pos apos cpos spos : Pos} {x : Str} {p : Pos} {es : List Expr}
/-- for x in l: l a list -/
def iLst (t : TED) : TID := fun ρ G Q => t ρ G fun d G1 => ∃ ds, lstG G1 d = some ds ∧ Q ds (stabOf d ds) G1
theorem di_list (h : DE X e te) : DI X tg e (iLst te) := pi_imp (pi_list h) fun σ H R z => by
  obtain ⟨ρ, F, G, Q, ok, sl, z, k⟩ := z
  refine ⟨ρ, F, G, _, ok, sl, z, fun v d F1 G1 H1 x1 r1 q1 => ?_⟩
  obtain ⟨ds, hs, q1⟩ := q1
  obtain ⟨a, vs, rfl, hv, _, rr⟩ := lstG_rep x1.ok r1 hs
  exact ⟨a, rfl, ⟨vs, SqL.of hv⟩, k _ ds _ F1 G1 H1 x1 (stab_now hs) (src_list x1.ok r1 hs) q1⟩
/-- l a tuple -/
def iTupD (t : TED) : TID := fun ρ G Q => t ρ G fun d G1 => ∃ ds, d = .tup ds ∧ Q ds (fun _ => True) G1
theorem di_tup (h : DE X e te) : DI X tg e (iTupD te) := pi_imp (pi_tup h) fun σ H R z => by
  obtain ⟨ρ, F, G, Q, ok, sl, z, k⟩ := z
  refine ⟨ρ, F, G, _, ok, sl, z, fun v d F1 G1 H1 x1 r1 q1 => ?_⟩
  obtain ⟨ds, rfl, q1⟩ := q1
  cases r1 with
  | @tup a vs _ s z rr => exact ⟨a, rfl, ⟨vs, sub_sqT x1.ok.sub s⟩, k _ ds _ F1 G1 H1 x1 trivial (src_tup x1.ok s z rr) q1⟩
/-- l a list or a tuple -/
def iSeqV (K : PySem.W.Frag) (tl : TE) : TI := fun σ H R => tl σ H fun x H1 => ∃ a, x = .ref a ∧ (((∃ xs, SqL K H1 a xs) ∧ R (Itl K a) H1) ∨ ((∃ xs, SqT K H1 a xs) ∧ R (Itt K a) H1))
theorem pi_seqV {l : Expr} {tl : TE} (hl : PE X l tl) : PI X tg l (iSeqV X.K tl) := by
  refine ⟨fun pins s σ H R I h => ?_⟩
  refine thn (hl.run pins s σ H _ I h) fun v s1 ⟨x, H1, I1, r1, q1⟩ => ?_
  obtain ⟨a, e, q⟩ := q1
  subst e
  cases r1
  rcases q with ⟨⟨xs, hq⟩, q⟩ | ⟨⟨xs, hq⟩, q⟩
  · obtain ⟨its, rv, p, hz⟩ := I1.list hq
    refine wpAny_pyIter_list p.isList ⟨s1.heap.objs.size, [s1.heap.objs.size], _, _, H1, rfl, I1.kept (t' := s1.toks) fun b o e => Heap.get?_push_of_some _ e, turn_list a _, ⟨_, Heap.get?_push_size _ rfl, rfl, rfl⟩, fun b hb => ?_, q⟩
    obtain rfl : b = s1.heap.objs.size := by simpa using hb
    exact I1.fpOk (Nat.le_refl _) (I1.hok.fresh (Nat.le_refl _))
  · obtain ⟨its, rv, p, hz⟩ := I1.tuple hq
    refine wpAny_pyIter_tuple (show s1.heap.IsTuple a its.toArray from p) ⟨s1.heap.objs.size, [s1.heap.objs.size], _, _, H1, rfl, I1.kept (t' := s1.toks) fun b o e => Heap.get?_push_of_some _ e, turn_tuple a _, ⟨_, Heap.get?_push_size _ rfl, rfl, rfl⟩, fun b hb => ?_, q⟩
    obtain rfl : b = s1.heap.objs.size := by simpa using hb
    exact I1.fpOk (Nat.le_refl _) (I1.hok.fresh (Nat.le_refl _))
def iSeq (t : TED) : TID := fun ρ G Q => t ρ G fun d G1 => ∃ ds, seqG G1 d = some ds ∧ Q ds (stabOf d ds) G1
theorem di_seq (h : DE X e te) : DI X tg e (iSeq te) := pi_imp (pi_seqV h) fun σ H R z => by
  obtain ⟨ρ, F, G, Q, ok, sl, z, k⟩ := z
  refine ⟨ρ, F, G, _, ok, sl, z, fun v d F1 G1 H1 x1 r1 q1 => ?_⟩
  obtain ⟨ds, hs, q1⟩ := q1
  by_cases ht : ∃ zs, d = .tup zs
  · obtain ⟨zs, rfl⟩ := ht
    cases hs
    cases r1 with
    | @tup a vs _ s z rr => exact ⟨a, rfl, .inr ⟨⟨vs, sub_sqT x1.ok.sub s⟩, k _ ds _ F1 G1 H1 x1 trivial (src_tup x1.ok s z rr) q1⟩⟩
  · have hs' : lstG G1 d = some ds := by
      cases d <;> first | exact hs | exact absurd ⟨_, rfl⟩ ht
    obtain ⟨a, vs, rfl, hv, _, rr⟩ := lstG_rep x1.ok r1 hs'
    exact ⟨a, rfl, .inl ⟨⟨vs, SqL.of hv⟩, k _ ds _ F1 G1 H1 x1 (stab_now hs') (src_list x1.ok r1 hs') q1⟩⟩
/-- range(n), range(a, b) -/
def rngD (lo : Int) (n : Nat) : List D := (List.range n).map fun k => .int (lo + (k : Nat))
theorem rngD_get {lo : Int} {n i : Nat} {d : D} (h : (rngD lo n)[i]? = some d) : i < n ∧ d = .int (lo + (i : Nat)) := by
  unfold rngD at h
  rw [List.getElem?_map] at h
  by_cases hi : i < n
  · rw [List.getElem?_range hi] at h
    cases h
    exact ⟨hi, rfl⟩
  · rw [List.getElem?_eq_none (by simpa using hi)] at h; cases h
theorem rngD_len {lo : Int} {n : Nat} : (rngD lo n).length = n := by simp [rngD]
theorem src_rng {K : PySem.W.Frag} {F : Hp} {G : GM} {H : Hp} {lo : Int} {n : Nat} (hn : n ≤ sizeLine) : Src K (fun _ => True) (Itr lo n) (rngD lo n) F G H where
  sz := by rw [rngD_len]; exact hn
  go := fun i F' G' H' x _ hi => by
    rw [rngD_len] at hi
    exact hi
  yld := fun i F' G' H' v H'' x _ y d hd => by
    obtain ⟨hi, rfl⟩ := rngD_get hd
    obtain ⟨rfl, rfl⟩ := y
    exact ⟨F', Ext.refl x.ok, .int _⟩
  stop := fun i F' G' H' x _ hi => by
    rw [rngD_len] at hi
    exact hi
def iR1 (tA : TAD) : TID := fun ρ G Q => tA ρ G fun ds G1 => ∃ j : Int, ds = [.int j] ∧ j ≤ 16777216 ∧ -(2 ^ 62) ≤ j ∧ Q (rngD 0 j.toNat) (fun _ => True) G1
def iR2 (tA : TAD) : TID := fun ρ G Q => tA ρ G fun ds G1 => ∃ i j : Int, ds = [.int i, .int j] ∧ (-(2 ^ 62) ≤ i ∧ i < 2 ^ 62 ∧ -(2 ^ 62) ≤ j ∧ j < 2 ^ 62 ∧ j - i ≤ 16777216) ∧ Q (rngD i (j - i).toNat) (fun _ => True) G1
theorem di_range1 (hg : Gl X "range") (hm : X.mg "range" = none) (ha : DA X [a] tA) (hs : starEach [a] X.env = [(false, eval a X.env)] := by rfl) : DI X tg (.Call (.Name "range" p) [a] [] pos) (iR1 tA) :=
  pi_imp (pi_range1 hg hm ha hs) fun σ H R z => by
    obtain ⟨ρ, F, G, Q, ok, sl, z, k⟩ := z
    refine ⟨ρ, F, G, _, ok, sl, z, fun vs ds F1 G1 H1 x1 r1 q1 => ?_⟩
    obtain ⟨j, rfl, h1, h2, q1⟩ := q1
    cases r1 with
    | cons r t =>
      cases t; cases r
      exact ⟨j, rfl, h2, by omega, k _ _ _ F1 G1 H1 x1 trivial (src_rng (by rw [sizeLine_eq]; omega)) q1⟩
theorem di_range2 (hg : Gl X "range") (hm : X.mg "range" = none) (ha : DA X [a, b] tA) (hs : starEach [a, b] X.env = [(false, eval a X.env), (false, eval b X.env)] := by rfl) (hs2 : starEach [b] X.env = [(false, eval b X.env)] := by rfl) :
    DI X tg (.Call (.Name "range" p) [a, b] [] pos) (iR2 tA) :=
  pi_imp (pi_range2 hg hm ha hs hs2) fun σ H R z => by
    obtain ⟨ρ, F, G, Q, ok, sl, z, k⟩ := z
    refine ⟨ρ, F, G, _, ok, sl, z, fun vs ds F1 G1 H1 x1 r1 q1 => ?_⟩
    obtain ⟨i, j, rfl, ⟨h1, h2, h3, h4, h5⟩, q1⟩ := q1
    cases r1 with
    | cons r t =>
      cases t with
      | cons r2 t =>
        cases t; cases r; cases r2
        exact ⟨i, j, rfl, ⟨h1, h2, h3, h4⟩, k _ _ _ F1 G1 H1 x1 trivial (src_rng (by rw [sizeLine_eq]; omega)) q1⟩
/-- enumerate(xs), a list -/
def enumD (ds : List D) : List D := ds.zipIdx.map fun p => .tup [.int (p.2 : Nat), p.1]
theorem enumD_get {ds : List D} {i : Nat} {d : D} (h : (enumD ds)[i]? = some d) : ∃ e, ds[i]? = some e ∧ d = .tup [.int (i : Nat), e] := by
  unfold enumD at h
  rw [List.getElem?_map, List.getElem?_zipIdx] at h
  cases e : ds[i]? with
  | none => rw [e] at h; cases h
  | some u =>
    rw [e] at h
    cases h
    exact ⟨u, rfl, by simp⟩
theorem src_enum {K : PySem.W.Frag} {F : Hp} {G : GM} {H : Hp} {a : Addr} {d : D} {ds : List D} (ok : Ok K F G H) (r : Rep K F (.ref a) d) (h : lstG G d = some ds) : Src K (stabOf d ds) (Ite K a) (enumD ds) F G H where
  sz := by
    obtain ⟨b, vs, e, _, z, rr⟩ := lstG_rep ok r h
    show (List.map _ ds.zipIdx).length ≤ sizeLine
    rw [List.length_map, List.length_zipIdx, ← rr.len]; exact z
  go := fun i F' G' H' x st hi => by
    obtain ⟨b, vs, e, hv, z, rr⟩ := later_list ok r h x st
    cases e
    have hi' : i < vs.length := by
      rw [rr.len]
      simpa [enumD] using hi
    exact ⟨vs, vs[i], SqL.of hv, List.getElem?_eq_getElem hi'⟩
  yld := fun i F' G' H' v H'' x st y d' hd => by
    obtain ⟨b, vs, e, hv, z, rr⟩ := later_list ok r h x st
    cases e
    obtain ⟨u, hu, rfl⟩ := enumD_get hd
    obtain ⟨w, hw, rw'⟩ := rr.getD hu
    obtain ⟨T, y', rfl, hT, rfl, hy⟩ := y
    have e := hy vs (SqL.of hv)
    rw [hw] at e
    cases e
    have x4 := x.ok.freeze hT (.tup [.int (i : Nat), w])
    exact ⟨_, x4, .tup (SqT.of upd_same) (by show 2 ≤ sizeLine; decide) (.cons (.int _) (.cons (rw'.mono x4.mono) .nil))⟩
  stop := fun i F' G' H' x st hi => by
    obtain ⟨b, vs, e, hv, z, rr⟩ := later_list ok r h x st
    cases e
    refine ⟨vs, SqL.of hv, ?_⟩
    rw [rr.len]
    simpa [enumD] using hi
def iEn (tA : TAD) : TID := fun ρ G Q => tA ρ G fun ds G1 => ∃ d es, ds = [d] ∧ lstG G1 d = some es ∧ Q (enumD es) (stabOf d es) G1
theorem di_enum {elts : List Expr} {kk : Nat} {tpos : Pos} (hg : Gl X "enumerate") (hm : X.mg "enumerate" = none) (ha : DA X [e] tA) (hs : starEach [e] X.env = [(false, eval e X.env)] := by rfl) : DI X (.Tuple elts kk tpos) (.Call (.Name "enumerate" p) [e] [] pos) (iEn tA) :=
  pi_imp (pi_enum hg hm ha hs) fun σ H R z => by
    obtain ⟨ρ, F, G, Q, ok, sl, z, k⟩ := z
    refine ⟨ρ, F, G, _, ok, sl, z, fun vs ds F1 G1 H1 x1 r1 q1 => ?_⟩
    obtain ⟨d, es, rfl, hl, q1⟩ := q1
    cases r1 with
    | cons r t =>
      cases t
      obtain ⟨a, us, rfl, hv, _, rr⟩ := lstG_rep x1.ok r hl
      exact ⟨a, us, rfl, SqL.of hv, k _ _ _ F1 G1 H1 x1 (stab_now hl) (src_enum x1.ok r hl) q1⟩
/-- zip of two lists or of two tuples -/
def zipD : List D → List D → List D
  | d :: ds, e :: es => .tup [d, e] :: zipD ds es
  | _, _ => []
theorem zipD_len : ∀ ds es : List D, (zipD ds es).length = min ds.length es.length
  | [], _ => by simp [zipD]
  | _ :: _, [] => by simp [zipD]
  | d :: ds, e :: es => by
    have ih := zipD_len ds es
    simp only [zipD, List.length_cons, ih]
    omega
theorem zipD_get : ∀ {ds es : List D} {i : Nat} {z : D}, (zipD ds es)[i]? = some z → ∃ d e, ds[i]? = some d ∧ es[i]? = some e ∧ z = .tup [d, e]
  | [], _, _, _, h => by simp [zipD] at h
  | _ :: _, [], _, _, h => by simp [zipD] at h
  | d :: ds, e :: es, 0, z, h => by
    simp [zipD] at h
    exact ⟨d, e, rfl, rfl, h.symm⟩
  | d :: ds, e :: es, i + 1, z, h => by
    have h : (zipD ds es)[i]? = some z := by simpa [zipD] using h
    obtain ⟨d', e', h1, h2, h3⟩ := zipD_get h
    exact ⟨d', e', by simpa using h1, by simpa using h2, h3⟩
def iZp (tA : TAD) : TID := fun ρ G Q => tA ρ G fun zs G1 => ∃ d e ds es, zs = [d, e] ∧ ((lstG G1 d = some ds ∧ lstG G1 e = some es ∧ Q (zipD ds es) (fun G => stabOf d ds G ∧ stabOf e es G) G1) ∨ (d = .tup ds ∧ e = .tup es ∧ Q (zipD ds es) (fun _ => True) G1))
theorem di_zip {elts : List Expr} {kk : Nat} {tpos : Pos} (hg : Gl X "zip") (hm : X.mg "zip" = none) (ha : DA X [a, b] tA) (hs : starEach [a, b] X.env = (false, eval a X.env) :: starEach [b] X.env := by rfl) (hpl : (backTo pos (starEach [b] X.env)).any (·.1) = false := by rfl) :
    DI X (.Tuple elts kk tpos) (.Call (.Name "zip" p) [a, b] [] pos) (iZp tA) :=
  pi_imp (RZ.pi_zipA hg hm ha hs hpl) fun σ H R z => by
    obtain ⟨ρ, F, G, Q, ok, sl, z, k⟩ := z
    refine ⟨ρ, F, G, _, ok, sl, z, fun vs zs F1 G1 H1 x1 r1 q1 => ?_⟩
    obtain ⟨d, e, ds, es, rfl, q1⟩ := q1
    cases r1 with
    | cons r t =>
      cases t with
      | cons r2 t =>
        cases t
        rcases q1 with ⟨hd, he, q1⟩ | ⟨rfl, rfl, q1⟩
        · obtain ⟨a', us, rfl, hv, zv, rr⟩ := lstG_rep x1.ok r hd
          obtain ⟨b', ws, rfl, hw, zw, rr2⟩ := lstG_rep x1.ok r2 he
          refine ⟨a', b', us, ws, rfl, .inl ⟨SqL.of hv, SqL.of hw, k _ _ (fun G => stabOf d ds G ∧ stabOf e es G) F1 G1 H1 x1 ⟨stab_now hd, stab_now he⟩ ⟨?_, fun i F' G' H' x st hi => ?_, fun i F' G' H' v H'' x st y z hz => ?_, fun i F' G' H' x st hi => ?_⟩ q1⟩⟩
          · rw [zipD_len]
            have := rr.len
            omega
          · obtain ⟨_, us', e1, hv', _, rr'⟩ := later_list x1.ok r hd x st.1
            obtain ⟨_, ws', e2, hw', _, rr2'⟩ := later_list x1.ok r2 he x st.2
            cases e1; cases e2
            rw [zipD_len] at hi
            have l1 := rr'.len
            have l2 := rr2'.len
            exact ⟨us', ws', us'[i]'(by omega), ws'[i]'(by omega), SqL.of hv', SqL.of hw', List.getElem?_eq_getElem _, List.getElem?_eq_getElem _⟩
          · obtain ⟨_, us', e1, hv', _, rr'⟩ := later_list x1.ok r hd x st.1
            obtain ⟨_, ws', e2, hw', _, rr2'⟩ := later_list x1.ok r2 he x st.2
            cases e1; cases e2
            obtain ⟨d', e', h1, h2, rfl⟩ := zipD_get hz
            obtain ⟨u, hu, ru⟩ := rr'.getD h1
            obtain ⟨w, hw2, rw2⟩ := rr2'.getD h2
            obtain ⟨T, x', y', rfl, hT, rfl, hy1, hy2⟩ := y
            have e1 := hy1 us' (SqL.of hv')
            have e2 := hy2 ws' (SqL.of hw')
            rw [hu] at e1; rw [hw2] at e2
            cases e1; cases e2
            have x4 := x.ok.freeze hT (.tup [u, w])
            exact ⟨_, x4, .tup (SqT.of upd_same) (by show 2 ≤ sizeLine; decide) (.cons (ru.mono x4.mono) (.cons (rw2.mono x4.mono) .nil))⟩
          · obtain ⟨_, us', e1, hv', _, rr'⟩ := later_list x1.ok r hd x st.1
            obtain ⟨_, ws', e2, hw', _, rr2'⟩ := later_list x1.ok r2 he x st.2
            cases e1; cases e2
            rw [zipD_len] at hi
            have l1 := rr'.len
            have l2 := rr2'.len
            exact ⟨us', ws', SqL.of hv', SqL.of hw', by omega⟩
        · cases r with
          | @tup a' us _ s zv rr =>
            cases r2 with
            | @tup b' ws _ s2 zw rr2 =>
              refine ⟨a', b', us, ws, rfl, .inr ⟨sub_sqT x1.ok.sub s, sub_sqT x1.ok.sub s2, k _ _ (fun _ => True) F1 G1 H1 x1 trivial ⟨?_, fun i F' G' H' x st hi => ?_, fun i F' G' H' v H'' x st y z hz => ?_, fun i F' G' H' x st hi => ?_⟩ q1⟩⟩
              · rw [zipD_len]
                have := rr.len
                omega
              · rw [zipD_len] at hi
                have l1 := rr.len
                have l2 := rr2.len
                exact ⟨us, ws, us[i]'(by omega), ws[i]'(by omega), sub_sqT x.ok.sub (sub_sqT x.mono s), sub_sqT x.ok.sub (sub_sqT x.mono s2), List.getElem?_eq_getElem _, List.getElem?_eq_getElem _⟩
              · obtain ⟨d', e', h1, h2, rfl⟩ := zipD_get hz
                obtain ⟨u, hu, ru⟩ := (rr.mono x.mono).getD h1
                obtain ⟨w, hw2, rw2⟩ := (rr2.mono x.mono).getD h2
                obtain ⟨T, x', y', rfl, hT, rfl, hy1, hy2⟩ := y
                have e1 := hy1 us (sub_sqT x.ok.sub (sub_sqT x.mono s))
                have e2 := hy2 ws (sub_sqT x.ok.sub (sub_sqT x.mono s2))
                rw [hu] at e1; rw [hw2] at e2
                cases e1; cases e2
                have x4 := x.ok.freeze hT (.tup [u, w])
                exact ⟨_, x4, .tup (SqT.of upd_same) (by show 2 ≤ sizeLine; decide) (.cons (ru.mono x4.mono) (.cons (rw2.mono x4.mono) .nil))⟩
              · rw [zipD_len] at hi
                have l1 := rr.len
                have l2 := rr2.len
                exact ⟨us, ws, sub_sqT x.ok.sub (sub_sqT x.mono s), sub_sqT x.ok.sub (sub_sqT x.mono s2), by omega⟩

/-! ### for -/
def forD (stab : GM → Prop) (g : TGD) (tb : TSD) (E : EndsD) : List D → Rh → GM → Prop
  | [], ρ, G => E.nx ρ G
  | d :: ds, ρ, G => g d ρ fun ρ1 => tb { E with nx := fun ρ' G' => stab G' ∧ forD stab g tb E ds ρ' G', ct := fun ρ' G' => stab G' ∧ forD stab g tb E ds ρ' G', bk := E.nx } ρ1 G
def dFor (wd : TID) (g : TGD) (tb : TSD) : TSD := fun E ρ G => wd ρ G fun items stab G1 => forD stab g tb E items ρ G1
theorem ds_for {bs : List Stmt} {wd : TID} {g : TGD} {tb : TSD} {ts : List Nat} (hp : PassesOwn (model X.prog X.w) X.A X.env X.xe) (hc : X.calm = true) (hi : DI X tg iter wd) (hg : DG X tg g ts) (hb : DSs X bs tb)
    (hs : ∀ x, foldedSetIterable iter X.env x = pure x := by intro _; rfl) : DS X (.For tg iter bs [] pos) (dFor wd g tb) := by
  obtain ⟨g', pg, sg⟩ := hg.ex
  refine ps_imp (ps_for hp hc hi pg hb hs) fun V σ H z => ?_
  obtain ⟨ρ, F, G, E, ok, sl, z, k⟩ := z
  refine ⟨ρ, F, G, _, ok, sl, z, fun J items stab F1 G1 H1 x1 st1 src q1 => ?_⟩
  refine ⟨fun i m σ' H' => ∃ ρ' F' G', Ext X.K F1 G1 H1 F' G' H' ∧ Slots X.K F' σ' ρ' ∧ stab G' ∧ m = items.length - i ∧ i ≤ items.length ∧ forD stab g tb E (items.drop i) ρ' G',
    ⟨items.length, ρ, F1, G1, Ext.refl x1.ok, sl.mono x1.mono, st1, by simp, Nat.zero_le _, by simpa using q1⟩, ?_⟩
  rintro i m σ' H' ⟨ρ', F', G', x2, s2, st2, rfl, hi, q2⟩
  by_cases hlt : i < items.length
  · right
    rw [List.drop_eq_getElem_cons hlt] at q2
    refine ⟨src.go i F' G' H' x2 st2 hlt, fun σ3 H3 => ∃ ρ3 F3 G3, Ext X.K F1 G1 H1 F3 G3 H3 ∧ Slots X.K F3 σ3 ρ3 ∧ stab G3 ∧ forD stab g tb E (items.drop (i + 1)) ρ3 G3, fun σ3 H3 h3 => ?_, fun v H'' y => ?_⟩
    · obtain ⟨ρ3, F3, G3, a1, a2, a3, a4⟩ := h3
      exact ⟨items.length - (i + 1), by omega, ρ3, F3, G3, a1, a2, a3, rfl, hlt, a4⟩
    · obtain ⟨F'', x3, r3⟩ := src.yld i F' G' H' v H'' x2 st2 y items[i] (List.getElem?_eq_getElem hlt)
      refine sg F'' G' H'' σ' ρ' v _ _ _ x3.ok (s2.mono x3.mono) r3 q2 fun σ4 ρ4 s4 _ q4 => ?_
      have x23 := x2.trans x3
      refine ⟨ρ4, F'', G', _, x3.ok, s4, q4, ⟨fun σ5 ρ5 F5 G5 H5 x5 s5 q5 => ⟨ρ5, F5, G5, x23.trans x5, s5, q5.1, q5.2⟩, fun v d F5 G5 H5 x5 r5 q5 => k.rt v d F5 G5 H5 ((x1.trans x23).trans x5) r5 q5,
        fun σ5 ρ5 F5 G5 H5 x5 s5 q5 => k.nx σ5 ρ5 F5 G5 H5 ((x1.trans x23).trans x5) s5 q5, fun σ5 ρ5 F5 G5 H5 x5 s5 q5 => ⟨ρ5, F5, G5, x23.trans x5, s5, q5.1, q5.2⟩⟩⟩
  · left
    have e : i = items.length := by omega
    subst e
    rw [List.drop_length] at q2
    exact ⟨src.stop _ F' G' H' x2 st2 (Nat.le_refl _), k.nx σ' ρ' F' G' H' (x1.trans x2) s2 q2⟩
end
end DL

namespace DL
open PySem PySem.Spec PyProof.Rows L2

/-! ### comprehensions -/
def wipeD (ρ : Rh) : List Nat → Rh
  | [] => ρ
  | v :: vs => (wipeD ρ vs).set v none
theorem slots_wipes {K : PySem.W.Frag} {F : Hp} {σ : L2.St} {ρ : Rh} (s : Slots K F σ ρ) : ∀ vs : List Nat, Slots K F (L2.wipe σ vs) (wipeD ρ vs)
  | [] => s
  | v :: vs => (slots_wipes s vs).wipe v
theorem wipe_in {σ : L2.St} {i : Nat} : ∀ {vs : List Nat}, i ∈ vs → i < σ.length → (wipe σ vs)[i]? = some none
  | v :: vs, h, hl => by
    unfold wipe
    by_cases e : v = i
    · subst e
      exact List.getElem?_set_self (by rw [wipe_length]; exact hl)
    · rw [List.getElem?_set_ne e]
      rcases List.mem_cons.mp h with z | z
      · exact absurd z.symm e
      · exact wipe_in z hl
theorem wipe_out {σ : L2.St} {i : Nat} : ∀ {vs : List Nat}, i ∉ vs → (wipe σ vs)[i]? = σ[i]?
  | [], _ => rfl
  | v :: vs, h => by
    rw [List.mem_cons, not_or] at h
    unfold wipe
    rw [List.getElem?_set_ne (fun e => h.1 e.symm)]
    exact wipe_out h.2
theorem wipe_off {σ σ' : L2.St} {ts vs : List Nat} (o : Off ts σ σ') (h : ∀ i ∈ ts, i ∈ vs) : wipe σ' vs = wipe σ vs := by
  refine List.ext_getElem? fun i => ?_
  by_cases hi : i ∈ vs
  · by_cases hl : i < σ.length
    · rw [wipe_in hi hl, wipe_in hi (by rw [o.1]; exact hl)]
    · rw [List.getElem?_eq_none (by rw [wipe_length, o.1]; omega), List.getElem?_eq_none (by rw [wipe_length]; omega)]
  · rw [wipe_out hi, wipe_out hi]
    exact o.2 i fun z => hi (h i z)
theorem wipe_wipe (σ : L2.St) (vs : List Nat) : wipe (wipe σ vs) vs = wipe σ vs := by
  refine List.ext_getElem? fun i => ?_
  by_cases hi : i ∈ vs
  · by_cases hl : i < σ.length
    · rw [wipe_in hi hl, wipe_in hi (by rw [wipe_length]; exact hl)]
    · rw [List.getElem?_eq_none (by rw [wipe_length, wipe_length]; omega), List.getElem?_eq_none (by rw [wipe_length]; omega)]
  · rw [wipe_out hi]
def dYes : TTD := fun _ G Q => Q true G
structure DTs (X : Cx) (ifs : List Expr) (t : TTD) : Prop where
  run : PTs X ifs (concT X.K t)
theorem pts_imp {X : Cx} {es : List Expr} {t t' : TT} (h : PTs X es t) (i : ∀ σ H Q, t' σ H Q → t σ H Q) : PTs X es t' := ⟨fun pins s σ H Q I q => h.run pins s σ H Q I (i σ H Q q)⟩
theorem dts_nil {X : Cx} : DTs X [] dYes := ⟨pts_imp pts_nil fun σ H Qv z => by
  obtain ⟨ρ, F, G, Q, ok, sl, z, k⟩ := z
  exact k true F G H (Ext.refl ok) z⟩
theorem dts_one {X : Cx} {c : Expr} {t : TTD} (h : DT X c t) : DTs X [c] t := ⟨pts_one h⟩
def lcD (stab : GM → Prop) (g : TGD) (tt : TTD) (te : TED) (ρ : Rh) : List D → GM → (List D → GM → Prop) → Prop
  | [], G, Q => Q [] G
  | d :: ds, G, Q => g d ρ fun ρ1 => tt ρ1 G fun b G1 => if b = true then te ρ1 G1 fun y G2 => stab G2 ∧ lcD stab g tt te ρ ds G2 fun rs G3 => Q (y :: rs) G3 else stab G1 ∧ lcD stab g tt te ρ ds G1 Q
/-- the new list stands for ever -/
def dLc (wd : TID) (g : TGD) (tt : TTD) (te : TED) (vs : List Nat) : TED := fun ρ G Q => wd ρ G fun items stab G1 => lcD stab g tt te (wipeD ρ vs) items G1 fun rs G2 => Q (.lst rs) G2
/-- the new list is one of the store -/
def dLcM (wd : TID) (g : TGD) (tt : TTD) (te : TED) (vs : List Nat) : TED := fun ρ G Q => wd ρ G fun items stab G1 => lcD stab g tt te (wipeD ρ vs) items G1 fun rs G2 => ∀ p, G2 p = none → Q (.ref p) (updG G2 p (.lst rs))
/-- what is neither frozen nor of the store is rewritten -/
theorem Ext.poke {K : PySem.W.Frag} {F F' : Hp} {G G' : GM} {H H' : Hp} {p : Addr} (x : Ext K F G H F' G' H') (h0 : H p = none) (f : F' p = none) (g : G' p = none) (o : HO) : Ext K F G H F' G' (upd H' p o) where
  ok := ⟨fun a u h => by
      have e : a ≠ p := by rintro rfl; rw [f] at h; cases h
      rw [upd_ne e]; exact x.ok.sub a u h, fun a m h => by
      have e : a ≠ p := by rintro rfl; rw [g] at h; cases h
      obtain ⟨q, r⟩ := x.ok.g a m h
      exact ⟨q, r.keep (fun _ _ h => h) fun u q => by rw [upd_ne e]; exact q⟩⟩
  mono := x.mono
  new := x.new
  frame := fun a u h g' => by
    have e : a ≠ p := by rintro rfl; rw [h0] at h; cases h
    rw [upd_ne e]; exact x.frame a u h g'
  gnew := x.gnew
  dom := fun a h => by
    by_cases e : a = p
    · subst e; rw [upd_same] at h; cases h
    · rw [upd_ne e] at h; exact x.dom a h
/-- what was made meanwhile is frozen, or goes into the store -/
theorem Ext.adopt {K : PySem.W.Frag} {F F' : Hp} {G G' : GM} {H H' : Hp} {p : Addr} {o : HO} (x : Ext K F G H F' G' H') (h0 : H p = none) (f : F' p = none) (g : G' p = none) (h : H' p = some o) : Ext K F G H (upd F' p o) G' H' where
  ok := ⟨fun a u q => by
      by_cases e : a = p
      · subst e; rw [upd_same] at q; cases q; exact h
      · rw [upd_ne e] at q; exact x.ok.sub a u q, fun a m q => by
      have e : a ≠ p := by rintro rfl; rw [g] at q; cases q
      obtain ⟨z, r⟩ := x.ok.g a m q
      refine ⟨by rw [upd_ne e]; exact z, r.keep (fun b u q => ?_) fun u q => q⟩
      have e : b ≠ p := by rintro rfl; rw [f] at q; cases q
      rw [upd_ne e]; exact q⟩
  mono := fun a u q => by
    have q' := x.mono a u q
    have e : a ≠ p := by rintro rfl; rw [f] at q'; cases q'
    rw [upd_ne e]; exact q'
  new := fun a u q => by
    by_cases e : a = p
    · subst e; exact .inr (.inl h0)
    · rw [upd_ne e] at q; exact x.new a u q
  frame := x.frame
  gnew := x.gnew
  dom := x.dom
theorem Ext.adoptG {K : PySem.W.Frag} {F F' : Hp} {G G' : GM} {H H' : Hp} {p : Addr} {vs : List V} {ds : List D} (x : Ext K F G H F' G' H') (h0 : H p = none) (f : F' p = none) (h : H' p = some (.lst vs)) (z : vs.length ≤ sizeLine) (r : Reps K F' vs ds) : Ext K F G H F' (updG G' p (.lst ds)) H' where
  ok := ⟨x.ok.sub, fun a m q => by
      by_cases e : a = p
      · subst e; rw [updG_same] at q; cases q; exact ⟨f, vs, h, z, r⟩
      · rw [updG_ne e] at q; exact x.ok.g a m q⟩
  mono := x.mono
  new := x.new
  frame := x.frame
  gnew := fun a q => by
    by_cases e : a = p
    · subst e; exact .inr h0
    · rw [updG_ne e] at q; exact x.gnew a q
  dom := x.dom
theorem Ext.stays {K : PySem.W.Frag} {F F' : Hp} {G G' : GM} {H H' : Hp} {p : Addr} {o : HO} (x : Ext K F G H F' G' H') (f : F p = none) (g : G p = none) (h : H p = some o) : F' p = none ∧ G' p = none ∧ H' p = some o := by
  refine ⟨?_, ?_, x.frame p o h g⟩
  · cases e : F' p with
    | none => rfl
    | some u =>
      rcases x.new p u e with z | z | z
      · rw [f] at z; cases z
      · rw [h] at z; cases z
      · exact absurd g z
  · cases e : G' p with
    | none => rfl
    | some m =>
      rcases x.gnew p (by rw [e]; exact fun z => by cases z) with z | z
      · exact absurd g z
      · rw [h] at z; cases z
theorem Ok.none_of {K : PySem.W.Frag} {F : Hp} {G : GM} {H : Hp} {p : Addr} (ok : Ok K F G H) (h : H p = none) : F p = none ∧ G p = none := by
  refine ⟨?_, ?_⟩
  · cases e : F p with
    | none => rfl
    | some u => rw [ok.sub p u e] at h; cases h
  · cases e : G p with
    | none => rfl
    | some m =>
      obtain ⟨_, q⟩ := ok.g p m e
      cases m with
      | lst ds => obtain ⟨us, q, _⟩ := q; rw [h] at q; cases q
theorem lc_conc {K : PySem.W.Frag} {wd : TID} {g' : TG} {g : TGD} {tt : TTD} {te : TED} {vs ts : List Nat} (sg : SndG K g' g ts) (hts : ∀ i ∈ ts, i ∈ vs) {σ : L2.St} {H : Hp} {Qv : VK} {ρ : Rh} {F : Hp} {G : GM} {R : List D → GM → Prop} (ok : Ok K F G H) (sl : Slots K F σ ρ)
    (z : wd ρ G fun items stab G1 => lcD stab g tt te (wipeD ρ vs) items G1 R)
    (k : ∀ D xs rs F' G' H', Ext K F G H F' G' H' → H D = none → F' D = none → G' D = none → H' D = some (.lst xs) → xs.length ≤ sizeLine → Reps K F' xs rs → R rs G' → Qv (.ref D) H') :
    tLc (concI K wd) g' (concT K tt) (conc K te) vs σ H Qv := by
  refine ⟨ρ, F, G, _, ok, sl, z, fun J items stab F1 G1 H1 x1 st1 src q1 => ?_⟩
  intro p hp
  obtain ⟨f1, g1⟩ := x1.ok.none_of hp
  refine ⟨fun i m H' => ∃ F' G' xs rs, Ext K F1 G1 H1 F' G' H' ∧ F' p = none ∧ G' p = none ∧ H' p = some (.lst xs) ∧ xs.length ≤ i ∧ Reps K F' xs rs ∧ stab G' ∧ m = items.length - i ∧ i ≤ items.length ∧ lcD stab g tt te (wipeD ρ vs) (items.drop i) G' (fun ys G2 => R (rs ++ ys) G2),
    ⟨items.length, F1, G1, [], [], (Ext.refl x1.ok).poke hp f1 g1 _, f1, g1, upd_same, Nat.zero_le _, .nil, st1, by simp, Nat.zero_le _, by simpa using q1⟩, ?_⟩
  rintro i m H' ⟨F', G', xs, rs, x2, f2, g2, h2, hx, rr, st2, rfl, hi, q2⟩
  have sz := src.sz
  by_cases hlt : i < items.length
  · right
    rw [List.drop_eq_getElem_cons hlt] at q2
    refine ⟨src.go i F' G' H' x2 st2 hlt, fun H3 => ∃ F' G' xs rs, Ext K F1 G1 H1 F' G' H3 ∧ F' p = none ∧ G' p = none ∧ H3 p = some (.lst xs) ∧ xs.length ≤ i + 1 ∧ Reps K F' xs rs ∧ stab G' ∧ lcD stab g tt te (wipeD ρ vs) (items.drop (i + 1)) G' (fun ys G2 => R (rs ++ ys) G2), fun H3 h3 => ?_, fun v H'' y => ?_⟩
    · obtain ⟨F3, G3, ys, zs, a1, a2, a3, a4, a5, a6, a7, a8⟩ := h3
      exact ⟨items.length - (i + 1), by omega, F3, G3, ys, zs, a1, a2, a3, a4, a5, a6, a7, rfl, hlt, a8⟩
    · obtain ⟨F'', x3, r3⟩ := src.yld i F' G' H' v H'' x2 st2 y items[i] (List.getElem?_eq_getElem hlt)
      obtain ⟨f3, g3, h3⟩ := x3.stays f2 g2 h2
      have x23 := x2.trans x3
      refine sg F'' G' H'' (L2.wipe σ vs) (wipeD ρ vs) v _ _ _ x3.ok (slots_wipes (sl.mono (fun a u q => x23.mono a u (x1.mono a u q))) vs) r3 q2 fun σ4 ρ4 s4 o4 q4 => ?_
      refine ⟨by rw [wipe_off o4 hts, wipe_wipe], ?_⟩
      refine ⟨ρ4, F'', G', _, x3.ok, s4, q4, fun b F5 G5 H5 x5 q5 => ?_⟩
      obtain ⟨f5, g5, h5⟩ := x5.stays f3 g3 h3
      have x25 := x23.trans x5
      have rr5 := (rr.mono x3.mono).mono x5.mono
      cases b with
      | true =>
        rw [if_pos rfl] at q5 ⊢
        refine ⟨ρ4, F5, G5, _, x5.ok, s4.mono x5.mono, q5, fun u d F6 G6 H6 x6 r6 q6 => ?_⟩
        obtain ⟨st6, q6⟩ := q6
        obtain ⟨f6, g6, h6⟩ := x6.stays f5 g5 h5
        have x26 := x25.trans x6
        refine ⟨xs, h6, by omega, F6, G6, xs ++ [u], rs ++ [d], x26.poke hp f6 g6 _, f6, g6, upd_same, by rw [List.length_append, List.length_singleton]; omega, (rr5.mono x6.mono).app (.cons r6 .nil), st6, ?_⟩
        simpa [List.append_assoc] using q6
      | false =>
        rw [if_neg Bool.false_ne_true] at q5 ⊢
        exact ⟨F5, G5, xs, rs, x25, f5, g5, h5, by omega, rr5, q5.1, q5.2⟩
  · left
    have e : i = items.length := by omega
    subst e
    rw [List.drop_length] at q2
    refine ⟨src.stop _ F' G' H' x2 st2 (Nat.le_refl _), k p xs rs F' G' H' (x1.trans x2) (x1.dom p hp) f2 g2 h2 (by omega) rr ?_⟩
    simpa [lcD] using q2
section
variable {X : Cx} {a b c e o i tg iter elt : Expr} {ta tb tc te : TED} {tA : TAD} {pos apos cpos spos : Pos} {x : Str} {p : Pos} {es ifs : List Expr} {wd : TID} {g : TGD} {tt : TTD} {ts : List Nat} {scope : Scope} {own : List (Str × Nat)}
/-- [elt for tg in iter if ..] as a value, frozen -/
theorem d_lc (hc : X.calm = true) (hN : X.N.Nodup) (hi : DI X tg iter wd) (ok : BlkOk X.N X.env.scope scope own)
    (hg : ∃ g', (∀ (s : Shared) (H : Hp) (C : Addr) (cl : List (Str × Addr)) (fp : List Addr), PG (X.blk s H scope (compEnvC scope cl C X.env) fp) tg g') ∧ SndG X.K g' g ts) (hts : ∀ i ∈ ts, i ∈ own.map (·.2))
    (ht : ∀ (s : Shared) (H : Hp) (C : Addr) (cl : List (Str × Addr)) (fp : List Addr), DTs (X.blk s H scope (compEnvC scope cl C X.env) fp) ifs tt)
    (he : ∀ (s : Shared) (H : Hp) (C : Addr) (cl : List (Str × Addr)) (fp : List Addr), DE (X.blk s H scope (compEnvC scope cl C X.env) fp) elt te) (hs : ∀ x, foldedSetIterable iter X.env x = pure x := by intro _; rfl) :
    DE X (.ListComp elt [⟨tg, iter, ifs, 0⟩] scope pos) (dLc wd g tt te (own.map (·.2))) := by
  obtain ⟨g', pg, sg⟩ := hg
  refine pe_imp (pe_lc (tt := concT X.K tt) (te := conc X.K te) hc hN hi ok pg (fun s H C cl fp => (ht s H C cl fp).run) (fun s H C cl fp => he s H C cl fp) hs) fun σ H Qv z => ?_
  obtain ⟨ρ, F, G, Q, okk, sl, z, k⟩ := z
  refine lc_conc sg hts okk sl z fun p xs rs F' G' H' x h0 f g h zz rr q => ?_
  have x' := x.adopt h0 f g h
  refine k _ _ _ _ _ x' (.lst upd_same zz (rr.mono fun a u q => ?_)) q
  have e : a ≠ p := by rintro rfl; rw [f] at q; cases q
  rw [upd_ne e]; exact q
theorem d_lcM (hc : X.calm = true) (hN : X.N.Nodup) (hi : DI X tg iter wd) (ok : BlkOk X.N X.env.scope scope own)
    (hg : ∃ g', (∀ (s : Shared) (H : Hp) (C : Addr) (cl : List (Str × Addr)) (fp : List Addr), PG (X.blk s H scope (compEnvC scope cl C X.env) fp) tg g') ∧ SndG X.K g' g ts) (hts : ∀ i ∈ ts, i ∈ own.map (·.2))
    (ht : ∀ (s : Shared) (H : Hp) (C : Addr) (cl : List (Str × Addr)) (fp : List Addr), DTs (X.blk s H scope (compEnvC scope cl C X.env) fp) ifs tt)
    (he : ∀ (s : Shared) (H : Hp) (C : Addr) (cl : List (Str × Addr)) (fp : List Addr), DE (X.blk s H scope (compEnvC scope cl C X.env) fp) elt te) (hs : ∀ x, foldedSetIterable iter X.env x = pure x := by intro _; rfl) :
    DE X (.ListComp elt [⟨tg, iter, ifs, 0⟩] scope pos) (dLcM wd g tt te (own.map (·.2))) := by
  obtain ⟨g', pg, sg⟩ := hg
  refine pe_imp (pe_lc (tt := concT X.K tt) (te := conc X.K te) hc hN hi ok pg (fun s H C cl fp => (ht s H C cl fp).run) (fun s H C cl fp => he s H C cl fp) hs) fun σ H Qv z => ?_
  obtain ⟨ρ, F, G, Q, okk, sl, z, k⟩ := z
  refine lc_conc sg hts okk sl z fun p xs rs F' G' H' x h0 f g h zz rr q => ?_
  exact k _ _ _ _ _ (x.adoptG h0 f h zz rr) (.ref p) (q p g)
/-- y = [..] -/
theorem ds_setLc {i : Nat} {y : Str} {py : Pos} (hc : X.calm = true) (hN : X.N.Nodup) (hy : X.N[i]? = some y) (hyl : X.env.scope.names.lookup y = some .local)
    (hsw : swapsWith (.ListComp elt [⟨tg, iter, ifs, 0⟩] scope pos) (some (.Name y py)) spos.line X.env = pure true) (hi : DI X tg iter wd) (ok : BlkOk X.N X.env.scope scope own)
    (hg : ∃ g', (∀ (s : Shared) (H : Hp) (C : Addr) (cl : List (Str × Addr)) (fp : List Addr), PG (X.blk s H scope (compEnvC scope cl C X.env) fp) tg g') ∧ SndG X.K g' g ts) (hts : ∀ i ∈ ts, i ∈ own.map (·.2))
    (ht : ∀ (s : Shared) (H : Hp) (C : Addr) (cl : List (Str × Addr)) (fp : List Addr), DTs (X.blk s H scope (compEnvC scope cl C X.env) fp) ifs tt)
    (he : ∀ (s : Shared) (H : Hp) (C : Addr) (cl : List (Str × Addr)) (fp : List Addr), DE (X.blk s H scope (compEnvC scope cl C X.env) fp) elt te) (hs : ∀ x, foldedSetIterable iter X.env x = pure x := by intro _; rfl) :
    DS X (.Assign [.Name y py] (.ListComp elt [⟨tg, iter, ifs, 0⟩] scope pos) spos) (dAsg (dLc wd g tt te (own.map (·.2))) (gN i)) := by
  obtain ⟨g', pg, sg⟩ := hg
  refine ps_imp (L2.ps_setLc (tt := concT X.K tt) (te := conc X.K te) hc hN hy hyl hsw hi ok pg (fun s H C cl fp => (ht s H C cl fp).run) (fun s H C cl fp => he s H C cl fp) hs) fun V σ H z => ?_
  obtain ⟨ρ, F, G, E, okk, sl, z, k⟩ := z
  refine lc_conc sg hts okk sl z fun p xs rs F' G' H' x h0 f g h zz rr q => ?_
  have x' := x.adopt h0 f g h
  refine k.nx _ _ _ _ _ x' ((sl.mono x'.mono).set i (.lst upd_same zz (rr.mono fun a u q => ?_))) q
  have e : a ≠ p := by rintro rfl; rw [f] at q; cases q
  rw [upd_ne e]; exact q
theorem ds_setLcM {i : Nat} {y : Str} {py : Pos} (hc : X.calm = true) (hN : X.N.Nodup) (hy : X.N[i]? = some y) (hyl : X.env.scope.names.lookup y = some .local)
    (hsw : swapsWith (.ListComp elt [⟨tg, iter, ifs, 0⟩] scope pos) (some (.Name y py)) spos.line X.env = pure true) (hi : DI X tg iter wd) (ok : BlkOk X.N X.env.scope scope own)
    (hg : ∃ g', (∀ (s : Shared) (H : Hp) (C : Addr) (cl : List (Str × Addr)) (fp : List Addr), PG (X.blk s H scope (compEnvC scope cl C X.env) fp) tg g') ∧ SndG X.K g' g ts) (hts : ∀ i ∈ ts, i ∈ own.map (·.2))
    (ht : ∀ (s : Shared) (H : Hp) (C : Addr) (cl : List (Str × Addr)) (fp : List Addr), DTs (X.blk s H scope (compEnvC scope cl C X.env) fp) ifs tt)
    (he : ∀ (s : Shared) (H : Hp) (C : Addr) (cl : List (Str × Addr)) (fp : List Addr), DE (X.blk s H scope (compEnvC scope cl C X.env) fp) elt te) (hs : ∀ x, foldedSetIterable iter X.env x = pure x := by intro _; rfl) :
    DS X (.Assign [.Name y py] (.ListComp elt [⟨tg, iter, ifs, 0⟩] scope pos) spos) (dAsg (dLcM wd g tt te (own.map (·.2))) (gN i)) := by
  obtain ⟨g', pg, sg⟩ := hg
  refine ps_imp (L2.ps_setLc (tt := concT X.K tt) (te := conc X.K te) hc hN hy hyl hsw hi ok pg (fun s H C cl fp => (ht s H C cl fp).run) (fun s H C cl fp => he s H C cl fp) hs) fun V σ H z => ?_
  obtain ⟨ρ, F, G, E, okk, sl, z, k⟩ := z
  refine lc_conc sg hts okk sl z fun p xs rs F' G' H' x h0 f g h zz rr q => ?_
  have x' := x.adoptG h0 f h zz rr
  exact k.nx _ _ _ _ _ x' ((sl.mono x'.mono).set i (.ref p)) (q p g)

/-! ### defs: their promises over data -/
abbrev SpD := List D → GM → QD → Prop
def spD (K : PySem.W.Frag) (m : SpD) : Sp := fun vs H Q _ => ∃ (F : Hp) (G : GM) (ds : List D) (Qd : QD), Ok K F G H ∧ Reps K F vs ds ∧ m ds G Qd ∧ ∀ v d F' G' H', Ext K F G H F' G' H' → Rep K F' v d → Qd d G' → Q v H'
def dCall (m : SpD) (tA : TAD) : TED := fun ρ G Q => tA ρ G fun ds G1 => m ds G1 Q
theorem d_call {CX : CXT} {k : Nat} {f : Addr} {fd : FuncData} {ps : List Str} {m : SpD} {E : XK} (Fn : FnOk X.prog X.w X.K X.mg X.base CX k f fd ps (spD X.K m)) (hr : Room k X.A) (hg : Gl X x) (hm : X.mg x = some (.ref f)) (hk : PySem.W.keepIn X.K (.ref f) = true) (hb : Binds X.K fd ps []) (hx : Passes CX X E)
    (ha : DA X (e :: es) tA) (hdb : (x == ("__debug__" : Str)) = false := by decide) (he : starEach (e :: es) X.env = (false, eval e X.env) :: starEach es X.env := by rfl) (hpl : (backTo pos (starEach es X.env)).any (·.1) = false := by rfl) :
    DE X (.Call (.Name x p) (e :: es) [] pos) (dCall m tA) := by
  refine pe_imp (pe_call Fn hr hg hm hk hb .nil hx ha hdb he hpl) fun σ H Qv z => ?_
  obtain ⟨ρ, F, G, Q, ok, sl, z, k⟩ := z
  refine ⟨ρ, F, G, _, ok, sl, z, fun vs ds F1 G1 H1 x1 r1 q1 => ?_⟩
  show spD X.K m (vs ++ []) H1 Qv E
  rw [List.append_nil]
  exact ⟨F1, G1, ds, Q, x1.ok, r1, q1, fun v d F' G' H' x2 r2 q2 => k v d F' G' H' (x1.trans x2) r2 q2⟩
/-- a scalar -/
def D.scal : D → Bool
  | .non => true
  | .bl _ => true
  | .int _ => true
  | .str _ => true
  | _ => false
theorem Rep.scal {K : PySem.W.Frag} {F F' : Hp} {v : V} {d : D} (r : Rep K F v d) (h : d.scal = true) : Rep K F' v d := by
  cases r with
  | non => exact .non
  | bl b => exact .bl b
  | int b => exact .int b
  | str b => exact .str b
  | ty _ => cases h
  | ref _ => cases h
  | lst _ _ _ => cases h
  | tup _ _ _ => cases h
def G0 : GM := fun _ => none
/-- a call whose result is a scalar, its arguments seen as data -/
def dCallV (m : SpD) (tA : TAD) : TED := fun ρ G Q => tA ρ G fun ds G1 => ∃ es, Vws G1 ds es ∧ m es G0 fun d _ => d.scal = true ∧ Q d G1
theorem Ext.look {K : PySem.W.Frag} {F : Hp} {G : GM} {H : Hp} (ok : Ok K F G H) {F' : Hp} {G' : GM} {H' : Hp} (x : Ext K H G0 H F' G' H') : Ext K F G H F G H' where
  ok := ⟨fun a u h => x.frame a u (ok.sub a u h) rfl, fun a m h => by
    obtain ⟨q, r⟩ := ok.g a m h
    exact ⟨q, r.keep (fun _ _ h => h) fun u q => x.frame a u q rfl⟩⟩
  mono := fun _ _ h => h
  new := fun _ _ h => .inl h
  frame := fun a u h _ => x.frame a u h rfl
  gnew := fun _ h => .inl h
  dom := x.dom
theorem d_callV {CX : CXT} {k : Nat} {f : Addr} {fd : FuncData} {ps : List Str} {m : SpD} {E : XK} (Fn : FnOk X.prog X.w X.K X.mg X.base CX k f fd ps (spD X.K m)) (hr : Room k X.A) (hg : Gl X x) (hm : X.mg x = some (.ref f)) (hk : PySem.W.keepIn X.K (.ref f) = true) (hb : Binds X.K fd ps []) (hx : Passes CX X E)
    (ha : DA X (e :: es) tA) (hdb : (x == ("__debug__" : Str)) = false := by decide) (he : starEach (e :: es) X.env = (false, eval e X.env) :: starEach es X.env := by rfl) (hpl : (backTo pos (starEach es X.env)).any (·.1) = false := by rfl) :
    DE X (.Call (.Name x p) (e :: es) [] pos) (dCallV m tA) := by
  refine pe_imp (pe_call Fn hr hg hm hk hb .nil hx ha hdb he hpl) fun σ H Qv z => ?_
  obtain ⟨ρ, F, G, Q, ok, sl, z, k⟩ := z
  refine ⟨ρ, F, G, _, ok, sl, z, fun vs ds F1 G1 H1 x1 r1 q1 => ?_⟩
  show spD X.K m (vs ++ []) H1 Qv E
  rw [List.append_nil]
  obtain ⟨es, w, q1⟩ := q1
  refine ⟨H1, G0, es, _, ⟨fun _ _ h => h, fun _ _ h => by cases h⟩, w.rep x1.ok r1, q1, fun v d F' G' H' x2 r2 q2 => ?_⟩
  exact k v d F1 G1 H' (x1.trans (Ext.look x1.ok x2)) (r2.scal q2.1) q2.2
end
/-- THE RULE for a def that lets nothing out -/
def startD (N : List Str) (ds : List D) : Rh := ds.map some ++ List.replicate (N.length - ds.length) none
theorem slots_start {K : PySem.W.Frag} {F : Hp} {N : List Str} {vs : List V} {ds : List D} (r : Reps K F vs ds) : Slots K F (L2.start N vs) (startD N ds) := by
  refine ⟨?_, fun i d h => ?_⟩
  · unfold startD L2.start
    rw [List.length_append, List.length_append, List.length_map, List.length_map, List.length_replicate, List.length_replicate, r.len]
  · unfold startD at h
    by_cases hi : i < ds.length
    · rw [List.getElem?_append_left (by simpa using hi), List.getElem?_map] at h
      cases e : ds[i]? with
      | none => rw [e] at h; cases h
      | some u =>
        rw [e] at h
        cases h
        obtain ⟨v, hv, rv⟩ := r.getD e
        refine ⟨v, ?_, rv⟩
        unfold L2.start
        rw [List.getElem?_append_left (by rw [List.length_map, r.len]; exact hi), List.getElem?_map, hv]
        rfl
    · rw [List.getElem?_append_right (by simpa using hi), List.getElem?_replicate] at h
      split at h <;> cases h
section
variable {P : Program} {w : World} {K : PySem.W.Frag} {mg : Str → Option Value} {base : Heap}
theorem fnD {x qual : Str} {st : Stmt} {f : Addr} {fd : FuncData} {N ps : List Str} {k : Nat} {m : SpD} (Fn : Fun K x qual st f fd) (S : FnScope N ps (defScope st)) (len : ∀ ds G Q, m ds G Q → ds.length = ps.length)
    (hbody : ∀ (cdv : Value) (A : Around) (outer : List Env) (s : Shared) (H : Hp) (E : XK), Room k (A.deeper (envOfC qual (defScope st) s.heap.objs.size f cdv)) → ∀ (ds : List D) (G : GM) (Q : QD), m ds G Q →
      ∃ t, DSs (cxOf CX0 P w K mg base N qual (defScope st) f cdv A outer s H E).nox (defBody st) t ∧ t { nx := fun _ G' => Q .non G', rt := Q } (startD N ds) G) : FnOk P w K mg base CX0 (k + 1) f fd ps (spD K m) := by
  refine Fn.ok S (fun vs H Q E h => ?_) (fun cdv A outer s H vs Q E hr h => ?_)
  · obtain ⟨F, G, ds, Qd, _, r, h, _⟩ := h
    rw [r.len]
    exact len _ _ _ h
  · obtain ⟨F, G, ds, Qd, ok, r, h, k⟩ := h
    obtain ⟨t, ht, q⟩ := hbody cdv A outer s H E hr ds G Qd h
    refine ⟨_, ht, startD N ds, F, G, _, ok, slots_start r, q, ⟨fun σ ρ F' G' H' x _ q => k _ _ F' G' H' x .non q, fun v d F' G' H' x r q => k v d F' G' H' x r q, fun _ _ _ _ _ _ _ q => q.elim, fun _ _ _ _ _ _ _ q => q.elim⟩⟩
end
end DL

namespace DL
open PySem PySem.Spec PyProof.Rows L2

/-! ### set(xs), xs a list of whole numbers -/
abbrev emS (w : World) : Obj := { cls := .type "set", dict := none, data := .set #[] 0 (.fresh 0 0 (!w.params.followText "set-order")) }
section
variable {P : Program} {w : World} {A : Around} {E : Value → Shared → Prop} {s : Shared}
theorem set_of_list {l : Addr} {items : Array Value} (ns : List Int) {Q : Value → Shared → Prop} (nh : A.handled = none) (il : s.heap.IsList l items) (ia : IntsAre items.toList ns) (few : ns.length + 1 < scanBound)
    (h : ∀ (h' : Heap) (tk c : Nat), SetR w h' s.heap.objs.size (fun j => decide (j ∈ ns)) c → c ≤ ns.length → (∀ b o, s.heap.get? b = some o → h'.get? b = some o) → Q (.ref s.heap.objs.size) { s with heap := h', toks := tk }) :
    wpAny (model P w) A (call (.type "set") [.ref l]) Q E s := by
  have lenI : items.size = ns.length := by
    have q := IntsAre.length ia
    rwa [Array.length_toList] at q
  obtain ⟨c, tl, mro_⟩ := F.called_set.mro
  have made_ := F.called_set.made; have sub_ := F.called_set.sub
  refine wpAny_call (codeAny_of_tree (show wpAny _ _ (callAny (.type "set") _) _ _ _ from wpAny_pure ⟨Code.quiet_builtin _ (by decide +kernel), codeAny_builtin F.entry_type_call ?_⟩))
  rw [Around.under_plain (weight_type_call_type "set" [.ref l] []) rfl]
  have n1 := F.called_set.notType; have n2 := F.called_set.canCreate; have n3 := F.typeCall_set_1 (.ref l)
  repeat (any_goals (first | assumption | wp_step))
  refine codeAny_mono (code_set_led1 (.ref l) (E := E) (Q₁ := fun obj s₁ => obj = .ref s.heap.objs.size ∧ s₁ = { s with heap := s.heap.push (emS w) }) ⟨rfl, rfl⟩) fun r s₁ hr => ?_
  cases r with
  | error e => exact hr
  | ok fl =>
    cases fl with
    | ret obj =>
      obtain ⟨rfl, rfl⟩ := hr
      have atS : (s.heap.push (emS w)).get? s.heap.objs.size = some (emS w) := Heap.get?_push_size _ rfl
      have tyS : Shared.TypeIs { s with heap := s.heap.push (emS w) } (.ref s.heap.objs.size) "set" := ⟨_, atS, rfl⟩
      have n4 := F.called_set.init.lookup; have n5 := F.called_set.init.bind (.ref s.heap.objs.size)
      repeat (any_goals (first | assumption | wp_step))
      refine codeAny_mono (codeAny_call_builtin (R := wants (fun r s₂ => r = .none ∧ ∃ h' tk c, s₂ = { s with heap := h', toks := tk } ∧ SetR w h' s.heap.objs.size (fun j => decide (j ∈ ns)) c ∧ c ≤ ns.length ∧ ∀ b o, s.heap.get? b = some o → h'.get? b = some o) E) F.called_set.init.plain F.entry_set_init (check_set_init_1 tyS ?_)) fun r₂ s₂ hr₂ => ?_
      · obtain ⟨⟨ocls, odict, odata, oslots⟩, hol, hcl, nl, hdl⟩ := il
        simp only at hcl hdl
        subst hcl; subst hdl
        have hol2 : (s.heap.push (emS w)).get? l = some { cls := .type "list", dict := odict, data := .seq items nl, slots := oslots } := Heap.get?_push_of_some _ hol
        have u1 := F.sub_list_set; have u2 := F.sub_list_frozenset
        have u3 : (Value.type "list" == Value.type "dict") = false := by decide
        have il1 : (s.heap.push (emS w)).IsList l items := ⟨_, hol2, rfl, nl, rfl⟩
        unfold Builtin.«set.__init__» noKeywords Builtin.Frozenset.updateFrom
        generalize hPI : pyIter = PI
        wp_walk
        subst hPI
        refine wpAny_pyIter_list il1 (wpAny_bind (wpAny_runValue ?_))
        have ltl : l < s.heap.objs.size := Heap.lt_size hol
        have nh3 : A.in1.in1.in1.handled = none := by simp [nh]
        have psz : (s.heap.push (emS w)).objs.size = s.heap.objs.size + 1 := Heap.size_push ..
        have neI : l ≠ (s.heap.push (emS w)).objs.size := by rw [psz]; exact Nat.ne_of_lt (Nat.lt_succ_of_lt ltl)
        have nmS : s.heap.objs.size ∉ [(s.heap.push (emS w)).objs.size, l] := by
          rw [psz]
          simp only [List.mem_cons, List.not_mem_nil, or_false, not_or]
          exact ⟨Nat.ne_of_lt (Nat.lt_succ_self _), Nat.ne_of_gt ltl⟩
        have vals_ : ∀ (i : Nat) (v : Value), items[i]? = some v → ∃ k t, ns[i]? = some k ∧ v = .int k t := fun i v hv => by
          have hi : i < ns.length := by rw [← lenI]; exact (Array.getElem?_eq_some_iff.mp hv).1
          obtain ⟨t, e⟩ := PyProof.Rows.IntsAre.int_at ia i v (by rw [Array.getElem?_toList]; exact hv)
          refine ⟨ns[i], t, List.getElem?_eq_getElem hi, ?_⟩
          rw [e, List.getD_eq_getElem?_getD, List.getElem?_eq_getElem hi] <;> rfl
        refine set_update_ints ((Walks.list nh3 _ l neI items).toS) s.heap.objs.size nmS ns lenI few vals_ (items.size - 0) 0 _ (by omega) (Nat.zero_le _) ⟨⟨_, Heap.get?_push_size _ rfl, rfl, rfl⟩, (il1.push _)⟩ ?start ?fin
        case start => exact ⟨0, Nat.le_refl 0, setR_new_at (Heap.get?_push_of_some _ atS)⟩
        case fin =>
          intro s' c' hm hc' hS'
          obtain ⟨h', g2, d', tk', os'⟩ := s'
          obtain rfl : g2 = s.gens := hm.gens
          obtain rfl : d' = s.drawn := hm.drawn
          obtain rfl : os' = s.os := hm.os
          rw [lenI] at hc'
          refine show wpAny _ _ _ _ _ _ from wpAny_pure (show wpAny _ _ (ret Value.none) _ _ _ from wpAny_pure ⟨rfl, h', tk', c', rfl, hS', hc', fun b o e => ?_⟩)
          have b0 : b < s.heap.objs.size := Heap.lt_size e
          refine hm.heap b o ?_ (Heap.get?_push_of_some _ (Heap.get?_push_of_some _ e))
          simp only [List.mem_cons, List.not_mem_nil, or_false, not_or]
          exact ⟨Nat.ne_of_lt b0, by rw [psz]; exact Nat.ne_of_lt (Nat.lt_succ_of_lt b0)⟩
      · cases r₂ with
        | error e => exact hr₂
        | ok fl₂ =>
          cases fl₂ with
          | ret r =>
            obtain ⟨rfl, h', tk, c', rfl, hS', hc', hk'⟩ := hr₂
            repeat (any_goals (first | assumption | wp_step))
            exact h _ _ _ hS' hc' hk'
          | _ => exact hr₂.elim
    | _ => exact hr.elim
end
def rSetI (K : PySem.W.Frag) (w : World) : List V → Hp → VK → Prop := fun xs H Q => ∃ (a : Addr) (ns : List Int), xs = [.ref a] ∧ (SqL K H a (ns.map V.int) ∨ SqT K H a (ns.map V.int)) ∧ ns.length + 1 < scanBound ∧ ∀ p n, n ≤ ns.length → H p = none → Q (.ref p) (upd H p (SetO w p (fun j => decide (j ∈ ns)) n))
theorem ints_of_vals : ∀ {ns : List Int} {us : List Value}, Vals (ns.map V.int) us → IntsAre us ns
  | [], _, h => by cases h; exact .nil
  | n :: ns, _, h => by
    cases h with
    | cons r t =>
      obtain ⟨k, rfl⟩ := r
      exact .cons n k (ints_of_vals t)
theorem cr_setI {X : Cx} (hc : X.calm = true) : CallR X (.type "set") (rSetI X.K X.w) := by
  intro pins s σ H xs us Q I r h
  obtain ⟨a, ns, rfl, hs, few, q⟩ := h
  rw [Vals.ref1 r]
  have fin : ∀ (h' : Heap) (tk c : Nat), SetR X.w h' s.heap.objs.size (fun j => decide (j ∈ ns)) c → c ≤ ns.length → (∀ b o, s.heap.get? b = some o → h'.get? b = some o) → EP X pins σ Q (.ref s.heap.objs.size) { s with heap := h', toks := tk } := fun h' tk c R hc hk =>
    ⟨.ref _, upd H s.heap.objs.size (SetO X.w s.heap.objs.size (fun j => decide (j ∈ ns)) c), I.laid (t' := tk) hk (Nat.le_refl _) (setO_new R), rfl, q _ c hc (I.hok.fresh (Nat.le_refl _))⟩
  rcases hs with hs | hs
  · obtain ⟨its, rv, pl, hz⟩ := I.list hs
    exact set_of_list ns (I.ok.hd hc) pl.isList (by simpa using ints_of_vals rv) few fin
  · obtain ⟨its, rv, pl, hz⟩ := I.tuple hs
    exact call_set_tupI ns (I.ok.hd hc) pl (by simpa using ints_of_vals rv) few fin
section
variable {X : Cx} {a : Expr} {ta : TED} {p p2 q pos : Pos}
/-- sorted(set(e)), e whole numbers (fewer than 64) -/
def dSortSet (ta : TED) : TED := fun ρ G Q => ta ρ G fun d G1 => ∃ ns : List Int, seqG G1 d = some (ns.map D.int) ∧ ns.length < 64 ∧ ∀ ms : List Int, ms.Pairwise (· < ·) → (∀ k, k ∈ ms ↔ k ∈ ns) → Q (.lst (ms.map D.int)) G1
theorem d_sortSet (hc : X.calm = true) (hg : Gl X "sorted") (hm : X.mg "sorted" = none) (hg2 : Gl X "set") (hm2 : X.mg "set" = none) (ha : DE X a ta) (he : starEach [a] X.env = (false, eval a X.env) :: starEach [] X.env := by rfl)
    (he2 : starEach [.Call (.Name "set" p2) [a] [] q] X.env = (false, eval (.Call (.Name "set" p2) [a] [] q) X.env) :: starEach [] X.env := by rfl) : DE X (.Call (.Name "sorted" p) [.Call (.Name "set" p2) [a] [] q] [] pos) (dSortSet ta) := by
  refine pe_imp (pe_callB (cr_sortedSet hc) hg hm (by decide +kernel) (pa_cons (pe_callTy (T := "set") (cr_setI hc) hg2 hm2 (by decide +kernel) (pa_cons ha pa_nil he) (by decide) (by decide) he rfl) pa_nil he2) (by decide) (by decide) he2 rfl) fun σ H Qv z => ?_
  obtain ⟨ρ, F, G, Q, ok, sl, z, k⟩ := z
  refine ⟨ρ, F, G, _, ok, sl, z, fun v d F1 G1 H1 x1 r1 q1 => ?_⟩
  obtain ⟨ns, hs, few, q1⟩ := q1
  obtain ⟨b, vs, rfl, hv, zv, rr⟩ := seqG_rep x1.ok r1 hs
  have ev := rr.ints
  subst ev
  refine ⟨b, ns, rfl, hv, by unfold scanBound; omega, fun p n hn hp => ?_⟩
  obtain ⟨f1, g1⟩ := x1.ok.none_of hp
  have x2 := (Ext.refl x1.ok).poke hp f1 g1 (SetO X.w p (fun j => decide (j ∈ ns)) n)
  refine ⟨p, _, n, rfl, upd_same, by omega, fun ms p3 h1 h2 h3 h4 => ?_⟩
  have x3 := x2.ok.freeze h4 (.lst (ms.map V.int))
  refine k _ _ _ _ _ ((x1.trans x2).trans x3) (.lst upd_same ?_ (Reps.of_ints ms)) (q1 ms h1 fun k => ?_)
  · rw [List.length_map, h3, sizeLine_eq]; omega
  · rw [h2 k]
    exact decide_eq_true_iff
end
end DL

/-! DL: sorted of alike data (tuples of any lengths, the empty one too), sorted of a set of tuples of whole numbers. -/
namespace DL
open PySem PySem.Spec PyProof.Rows L2 PySem.W PySem.SeqAt PySem.Calls

section
variable {prog : Program} {w : World} {A : Around} {E : Value → Shared → Prop} {s : Shared}
theorem call_tuple_lt {Q : Value → Shared → Prop} {l b : Addr} {items items2 : Array Value} {e r : Nat → Bool} (hl : s.heap.IsTuple l items) (hb : s.heap.IsTuple b items2)
    (he : ∀ j (h1 : j < items.size) (h2 : j < items2.size), EqAt A.in1 s items[j] items2[j] (e j)) (hr : ∀ j (h1 : j < items.size) (h2 : j < items2.size), e j = false → RcLt A.in1 s items[j] items2[j] (r j))
    (h : Q (.bool (firstLt e r (decide (items.size < items2.size)) (List.range (min items.size items2.size)))) s) : wpAny (model prog w) A (call (.builtin "tuple.__lt__") [.ref l, .ref b]) Q E s := by
  obtain ⟨⟨cls, dd, data, sl⟩, ho, hc, n, hd⟩ := id hl
  obtain ⟨⟨cls2, dd2, data2, sl2⟩, ho2, hc2, n2, hd2⟩ := id hb
  simp only at hc hd hc2 hd2
  subst hc hd hc2 hd2
  exact call_meets F.slot_tuple_lt ⟨_, ho, rfl⟩ F.entry_tuple_lt (F.args_tuple_lt_2 _ _) (tuple_ltAt l b items items2 n n2 dd dd2 sl sl2 e r) ⟨ho, ho2, he, hr, h⟩
theorem oneLt_tup {xs : List PyData} {db : PyData} {a b : Value} {as bs : List Addr} {Q : Bool → Shared → Prop} (ra : Reads s.heap a (.tuple xs) as) (rb : Reads s.heap b db bs) (h : alike (.tuple xs) db = true)
    (hu : A.units + min (PyData.tuple xs).depth db.depth < cLine) (hq : Q (dataLt (.tuple xs) db) s) : wpAny (model prog w) A (oneLt' true a b) Q E s := by
  cases db with
  | tuple ys =>
    have hal : alikeAll xs ys = true := by simpa [alike] using h
    cases ra with
    | @tuple l o vs n _ as₁ h1 h2 h3 h4 =>
      cases rb with
      | @tuple l' o' vs' n' _ bs₁ k1 k2 k3 k4 =>
        have n1 : vs.size = xs.length := by simpa using ReadsAll.length _ _ _ h4
        have n2 : vs'.size = ys.length := by simpa using ReadsAll.length _ _ _ k4
        rw [dataLt_tuple, ← firstLt_toks xs ys hal, ← n1, ← n2] at hq
        rw [oneLt'_eq]
        simp only [if_true]
        refine wpAny_bind (wpAny_cRoomFor (room_here hu) ?_)
        refine wpAny_bind (wpAny_callSpecialIfBound?_slot (T := "tuple") ⟨_, h1, h2⟩ F.slot_tuple_lt (call_tuple_lt (e := pairEq xs ys) (r := fun j => dataLt (xs.getD j .none) (ys.getD j .none)) ⟨_, h1, h2, _, h3⟩ ⟨_, k1, k2, _, k3⟩ (fun j j1 j2 => ?_) (fun j j1 j2 hj => ?_) ?_))
        · have := eqAt_alikeAll xs ys A.in1 s vs.toList vs'.toList _ _ h4 k4 hal (room_in hu) j (by simpa using j1) (by simpa using j2)
          simpa using this
        · have := rcLt_alikeAll xs ys A.in1 s vs.toList vs'.toList _ _ h4 k4 hal (room_in hu) j (by simpa using j1) (by simpa using j2) hj
          simpa using this
        · exact wpAny_truthy_bool hq
  | _ => exact absurd h (by simp [alike])
/-- a tuple with an item -/
def neTup : PyData → Bool
  | .tuple (_ :: _) => true
  | _ => false
def isTup : PyData → Bool
  | .tuple _ => true
  | _ => false
theorem firsts_any {M : Model} : ∀ {vs : List Value} {ds : List PyData}, EachIs (fun v d => ∃ as, Reads s.heap v d as) vs ds → (∀ d ∈ ds, isTup d = true) →
    ∃ os : List (Option Value), os.map (·.isSome) = ds.map neTup ∧ ∀ (Q : List (Option Value) → Shared → Prop), Q os s → wpAny M A (vs.mapM firstOfTuple') Q E s
  | _, _, .nil, _ => ⟨[], rfl, fun Q h => by rw [List.mapM_nil]; exact wpAny_pure h⟩
  | _, _, .cons (b := d) ⟨as, r⟩ t, ht => by
    obtain ⟨os, h1, h2⟩ := firsts_any (M := M) t fun d hd => ht d (List.mem_cons_of_mem _ hd)
    have hd := ht d (List.mem_cons_self ..)
    cases d with
    | tuple xs =>
      cases r with
      | @tuple a o vs n _ _ ho hc hd hr =>
        have e : (vs[0]?).isSome = neTup (.tuple xs) := by
          have hl := ReadsAll.length _ _ _ hr
          cases xs with
          | nil =>
            have z : vs.size = 0 := by simpa using hl
            show _ = false
            rw [Array.getElem?_eq_none (by omega)]
            rfl
          | cons x xs =>
            have z : 0 < vs.size := by
              have z : vs.size = xs.length + 1 := by simpa using hl
              omega
            show _ = true
            rw [Array.getElem?_eq_getElem z]
            rfl
        refine ⟨vs[0]? :: os, by rw [List.map_cons, List.map_cons, h1, e], fun Q h => ?_⟩
        rw [List.mapM_cons]
        refine wpAny_bind ?_
        rw [kas_first_eq]
        refine wpAny_bind (Looks.here (show Looks M s.heap (typeOf (.ref a)) o.cls from (Looks.ld ho).andThen .now) ?_)
        rw [hc, if_neg (by first | decide | simp)]
        refine wpAny_bind (listItems_at ho hd (wpAny_pure ?_))
        exact wpAny_bind (h2 (fun bs s' => wpAny M A (pure (vs[0]? :: bs)) Q E s') (wpAny_pure h))
    | _ => exact absurd hd (by simp [isTup])
/-- the kind of tuples of which the empty one is one -/
theorem keyKind_mix {M : Model} {vs : List Value} {d₀ : PyData} {ds : List PyData} {Q : SortKind → Shared → Prop} (e : EachIs (fun v d => ∃ as, Reads s.heap v d as) vs (d₀ :: ds)) (ht : ∀ d ∈ d₀ :: ds, isTup d = true) (hne : ∃ d ∈ d₀ :: ds, neTup d = false)
    (h : Q (if neTup d₀ = true then general' else oneType') s) : wpAny M A (keyKind' vs.toArray) Q E s := by
  obtain ⟨os, h1, h2⟩ := firsts_any (M := M) (A := A) (E := E) e ht
  rw [keyKind'_eq, List.mapM_toArray, map_eq_pure_bind]
  refine wpAny_bind (wpAny_bind (h2 _ (wpAny_pure ?_)))
  have hall : ¬ (os.toArray.all fun x => x.isSome) = true := by
    intro z
    rw [List.all_toArray, List.all_eq_true] at z
    obtain ⟨d, hd, hn⟩ := hne
    have m : false ∈ os.map (·.isSome) := by
      rw [h1]
      exact List.mem_map.mpr ⟨d, hd, hn⟩
    obtain ⟨x, hx, e⟩ := List.mem_map.mp m
    rw [z x hx] at e
    cases e
  rw [if_neg hall]
  obtain ⟨o₀, os', rfl⟩ : ∃ o₀ os', os = o₀ :: os' := by
    cases os with
    | nil => simp at h1
    | cons o os => exact ⟨o, os, rfl⟩
  have h0 : (o₀ :: os').toArray[0]? = some o₀ := by simp
  rw [h0]
  have e0 : o₀.isSome = neTup d₀ := by
    have := h1
    rw [List.map_cons, List.map_cons] at this
    exact (List.cons.inj this).1
  show wpAny _ _ (if (o₀.isSome) = true then _ else _) _ _ _
  rw [e0]
  cases hn : neTup d₀ with
  | true =>
    rw [hn, if_pos rfl] at h
    rw [if_pos rfl]
    exact wpAny_pure h
  | false =>
    rw [hn, if_neg Bool.false_ne_true] at h
    rw [if_neg Bool.false_ne_true]
    cases e with
    | @cons v _ vs' _ r0 t0 =>
    rw [oneTypeOnly'_eq, List.mapM_toArray, map_eq_pure_bind]
    refine wpAny_bind (wpAny_bind (wpAny_bind (kas_mapM (r := Value.type "tuple") _ (fun u hu Q' hq => ?_) (wpAny_pure ?_))))
    · have er : EachIs (fun v d => ∃ as, Reads s.heap v d as) (v :: vs') (d₀ :: ds) := .cons r0 t0
      obtain ⟨d, hd, as, r⟩ := er.left u hu
      have hi := ht d hd
      have lk := looks_reads (M := M) r
      cases d with
      | tuple xs => exact lk.here hq
      | _ => exact absurd hi (by simp [isTup])
    · have hall2 : ((List.map (fun _ => Value.type "tuple") (v :: vs')).toArray.all fun x => x == Value.type "tuple") = true := by
        simp only [List.all_toArray, List.all_map, List.all_eq_true]
        intro _ _
        exact beq_self_eq_true _
      have h0 : (List.map (fun _ => Value.type "tuple") (v :: vs')).toArray[0]? = some (Value.type "tuple") := by simp
      rw [h0]
      simp only [hall2, if_true]
      exact wpAny_pure (wpAny_pure h)
/-- alike data, none of them None, can be sorted -/
theorem sorts_alike {vs : List Value} {ds : List PyData} (e : EachIs (fun v d => ∃ as, Reads s.heap v d as) vs ds) (hal : AllAlike ds) (hk : ∀ d ∈ ds, d ≠ .none) (hu : ∀ d, d ∈ ds → A.units + d.depth < cLine) : SortsAt prog w A s (dataKind s.heap ds) vs := by
  by_cases h1 : ∀ d ∈ ds, ∃ x r, d = .tuple (x :: r)
  · exact SortsAt.data e hal (.inl h1) hu
  by_cases h2 : ∃ d ∈ ds, isTup d = true
  · have ht : ∀ d ∈ ds, isTup d = true := fun d hd => by
      obtain ⟨d', hd', q⟩ := h2
      have a := hal d' hd' d hd
      cases d' with
      | tuple xs =>
        cases d with
        | tuple ys => rfl
        | _ => exact absurd a (by simp [alike])
      | _ => exact absurd q (by simp [isTup])
    have hne : ∃ d ∈ ds, neTup d = false := by
      rcases Classical.em (∃ d ∈ ds, neTup d = false) with c | c
      · exact c
      · refine absurd (fun d hd => ?_) h1
        have q := ht d hd
        cases d with
        | tuple xs =>
          cases xs with
          | nil => exact absurd ⟨_, hd, rfl⟩ c
          | cons x r => exact ⟨x, r, rfl⟩
        | _ => exact absurd q (by simp [isTup])
    refine ⟨fun v hv => ?_, ?_⟩
    · obtain ⟨d, hd, as, r⟩ := e.left v hv
      exact ⟨_, dataKind_some hal hd r⟩
    · have room : ∀ {d d' : PyData}, d ∈ ds → A.units + min d.depth d'.depth < cLine := fun {d d'} hd => Nat.lt_of_le_of_lt (Nat.add_le_add_left (Nat.min_le_left _ _) _) (hu d hd)
      cases ds with
      | nil => obtain ⟨d, hd, _⟩ := h2; exact absurd hd (by simp)
      | cons d₀ ds₀ =>
        refine ⟨if neTup d₀ = true then general' else oneType', ?_, fun _ E Q hq => keyKind_mix e ht hne hq⟩
        intro E x y a b Q ha hb hq
        obtain ⟨d, as, hd, ra, rfl⟩ := dataKind_inv ha
        obtain ⟨d', as', hd', rb, rfl⟩ := dataKind_inv hb
        have q := ht d hd
        have hdd := hal d hd d' hd'
        cases d with
        | tuple xs =>
          cases neTup d₀ with
          | true =>
            show wpAny _ _ (oneLt' false x y) _ _ _
            exact oneLt_alike (fun z => absurd z Bool.false_ne_true) ra rb hdd (fun z => by cases z) (room hd) hq
          | false =>
            show wpAny _ _ (oneLt' true x y) _ _ _
            exact oneLt_tup ra rb hdd (room hd) hq
        | _ => exact absurd q (by simp [isTup])
  · refine SortsAt.data e hal (.inr fun d hd => ⟨hk d hd, fun xs z => h2 ⟨d, hd, by rw [z]; rfl⟩⟩) hu
end
end DL

/-! DL: sorted(xs) of alike data; sorted({e for x in xs}), e tuples of whole numbers (at most 62 different ones). -/
namespace DL
open PySem PySem.Spec PyProof.Rows L2 PySem.W PySem.SeqAt PySem.Calls

/-! ### sorted(xs) -/
section
variable {prog : Program} {w : World} {A : Around} {E : Value → Shared → Prop} {s : Shared}
theorem sorted_mix {β : Type} {vs : List Value} {bs : List β} {enc : β → PyData} {R : Value → β → Prop} {l : Addr} {Q : Value → Shared → Prop} (hl : s.heap.IsList l vs.toArray) (e : EachIs R vs bs) (er : EachIs (fun v b => ∃ as, Reads s.heap v (enc b) as) vs bs) (hal : AllAlike (bs.map enc))
    (hk : ∀ d ∈ bs.map enc, d ≠ .none) (hL : bs.length ≤ sizeLine) (hu : ∀ b, b ∈ bs → A.units + 2 + (enc b).depth < cLine)
    (h : ∀ out, out.length = bs.length → EachIs R out (bs.mergeSort (dataLe false enc)) → Q (.ref (s.heap.objs.size + 1)) { s with heap := sortedAll s.heap vs (List.toArray out) }) :
    wpAny (model prog w) A (call (.builtin "sorted") [.ref l]) Q E s := by
  have er' : EachIs (fun v b => ∃ as, Reads (sortingHeap (copyHeap s.heap vs) (s.heap.objs.size + 1) vs) v (enc b) as) vs bs := er.mono fun _ _ ⟨as, r⟩ => ⟨as, PyProof.Rows.Reads.keeps (fun _ _ => sorting_copy_old) r⟩
  exact sorted_vals hl (sorts_alike (s := { s with heap := sortingHeap (copyHeap s.heap vs) (s.heap.objs.size + 1) vs }) (each_map (R := fun v d => ∃ as, Reads (sortingHeap (copyHeap s.heap vs) (s.heap.objs.size + 1) vs) v d as) enc er') hal hk (bound_map hu)) (by rw [e.length]; exact hL)
    (h _ (by rw [sortVals_length false rfl]; exact e.length) (sortVals_data false e er' hal))
end
theorem each_vals {β : Type} (f : β → V) : ∀ {us : List Value} {bs : List β}, EachIs (fun u b => RelV (f b) u) us bs → Vals (bs.map f) us
  | _, _, .nil => .nil
  | _, _, .cons r t => .cons r (each_vals f t)
theorem vals_each {β : Type} (f : β → V) : ∀ {bs : List β} {us : List Value}, Vals (bs.map f) us → EachIs (fun u b => RelV (f b) u) us bs
  | [], _, h => by cases h; exact .nil
  | b :: bs, _, h => by
    cases h with
    | cons r t => exact .cons r (vals_each f t)
theorem each_and {α β : Type} {R S : α → β → Prop} : ∀ {as : List α} {bs : List β}, EachIs R as bs → (∀ a b, b ∈ bs → R a b → S a b) → EachIs S as bs
  | _, _, .nil, _ => .nil
  | _, _, .cons r t, h => .cons (h _ _ (List.mem_cons_self ..) r) (each_and t fun a b m => h a b (List.mem_cons_of_mem _ m))
def rSortD (K : PySem.W.Frag) : List V → Hp → VK → Prop := fun xs H Q => ∃ (a : Addr) (bs : List (V × PyData)), xs = [.ref a] ∧ SqL K H a (bs.map (·.1)) ∧ bs.length ≤ sizeLine ∧ (∀ b ∈ bs, Dp K H b.1 b.2) ∧ AllAlike (bs.map (·.2)) ∧ (∀ b ∈ bs, b.2 ≠ .none ∧ b.2.depth ≤ 40) ∧
  ∀ p, H p = none → Q (.ref p) (upd H p (.lst ((bs.mergeSort (dataLe false fun b : V × PyData => b.2)).map (·.1))))
theorem cr_sortD {X : Cx} (hu : X.A.units + 64 < cLine) : CallR X (.builtin "sorted") (rSortD X.K) := by
  intro pins s σ H xs us Q I r h
  obtain ⟨a, bs, rfl, ha, hz, hd, hal, hk, q⟩ := h
  rw [Vals.ref1 r]
  obtain ⟨its, rv, pl, _⟩ := I.list ha
  have e1 := vals_each (β := V × PyData) (·.1) rv
  have er : EachIs (fun u b => ∃ as, Reads s.heap u b.2 as) its bs := each_and e1 fun u b hb ru => Dp.reads I b.2 b.1 u (hd b hb) ru
  refine sorted_mix (enc := (·.2)) pl.isList e1 er hal (fun d hm => ?_) hz (fun b hb => ?_) fun out hl eo => ?_
  · obtain ⟨b, hb, rfl⟩ := List.mem_map.mp hm
    exact (hk b hb).1
  · have := (hk b hb).2
    omega
  · obtain ⟨ep, he'⟩ := PyProof.Rows.sortedAll_at s.heap its out.toArray
    have hlen : ((bs.mergeSort (dataLe false fun b : V × PyData => b.2)).map (·.1)).length ≤ sizeLine := by
      rw [List.length_map, List.length_mergeSort]; exact hz
    exact ⟨.ref _, upd H (s.heap.objs.size + 1) (.lst ((bs.mergeSort (dataLe false fun b : V × PyData => b.2)).map fun b : V × PyData => b.1)), I.laid (t' := s.toks) (fun _ _ => PyProof.Rows.sortedAll_old) (Nat.le_succ _) ⟨hlen, out, ep, each_vals (fun b : V × PyData => b.1) eo, he'⟩, rfl, q _ (I.hok.fresh (Nat.le_succ _))⟩
theorem dats_mem : ∀ {ds : List D}, D.dats ds = true → ∀ d ∈ ds, d.dat = true
  | [], _, d, h => absurd h (by simp)
  | e :: ds, q, d, h => by
    have q : (e.dat && D.dats ds) = true := by simpa [D.dats] using q
    rw [Bool.and_eq_true] at q
    rcases List.mem_cons.mp h with z | z
    · rw [z]; exact q.1
    · exact dats_mem q.2 d z
theorem reps_zip {K : PySem.W.Frag} {F : Hp} : ∀ {vs : List V} {ds : List D}, Reps K F vs ds → ∀ p ∈ vs.zip ds, Rep K F p.1 p.2
  | _, _, .nil, p, h => absurd h (by simp)
  | _, _, .cons r t, p, h => by
    rw [List.zip_cons_cons] at h
    rcases List.mem_cons.mp h with z | z
    · rw [z]; exact r
    · exact reps_zip t p z
theorem reps_of {K : PySem.W.Frag} {F : Hp} : ∀ {ps : List (V × D)}, (∀ p ∈ ps, Rep K F p.1 p.2) → Reps K F (ps.map (·.1)) (ps.map (·.2))
  | [], _ => .nil
  | p :: ps, h => .cons (h p (List.mem_cons_self ..)) (reps_of fun q m => h q (List.mem_cons_of_mem _ m))
/-- sorted of a list of alike data -/
def fSortD : List D → GM → QD → Prop := fun ds G Q => ∃ (d : D) (es : List D), ds = [d] ∧ lstG G d = some es ∧ D.dats es = true ∧ AllAlike (es.map D.py) ∧ (∀ e ∈ es, e.py ≠ .none ∧ e.py.depth ≤ 40) ∧ Q (.lst (es.mergeSort (dataLe false D.py))) G
theorem c1_sortD {K : PySem.W.Frag} : Call1 K (rSortD K) fSortD := by
  rintro F G H xs ds Q Qv ok rr ⟨d, es, rfl, hs, hdat, hal, hk, q⟩ k
  cases rr with
  | cons r t =>
    cases t
    obtain ⟨a, vs, rfl, h1, z, rv⟩ := lstG_rep ok r hs
    have hlen := rv.len
    have f1 : (vs.zip es).map Prod.fst = vs := List.map_fst_zip (by omega)
    have f2 : (vs.zip es).map Prod.snd = es := List.map_snd_zip (by omega)
    have hz := reps_zip rv
    refine ⟨a, (vs.zip es).map fun p => (p.1, p.2.py), rfl, ?_, ?_, ?_, ?_, ?_, fun p hp => ?_⟩
    · rw [List.map_map]
      show SqL K H a ((vs.zip es).map Prod.fst)
      rw [f1]
      exact SqL.of h1
    · rw [List.length_map, List.length_zip]; omega
    · intro b hb
      obtain ⟨p, hp, rfl⟩ := List.mem_map.mp hb
      exact ((hz p hp).mono ok.sub).dp (dats_mem hdat p.2 (List.of_mem_zip hp).2)
    · rw [List.map_map]
      have e : (vs.zip es).map ((fun b : V × PyData => b.2) ∘ fun p => (p.1, p.2.py)) = es.map D.py := by
        rw [← f2, List.map_map, f2]
        rfl
      rw [e]
      exact hal
    · intro b hb
      obtain ⟨p, hp, rfl⟩ := List.mem_map.mp hb
      exact hk p.2 (List.of_mem_zip hp).2
    · have e1 : ((vs.zip es).map fun p => (p.1, p.2.py)).mergeSort (dataLe false fun b : V × PyData => b.2) = ((vs.zip es).mergeSort (dataLe false fun p => p.2.py)).map fun p => (p.1, p.2.py) :=
        (sort_maps (fun p : V × D => (p.1, p.2.py)) fun _ _ _ _ => rfl).symm
      have e2 : ((vs.zip es).mergeSort (dataLe false fun p => p.2.py)).map Prod.snd = es.mergeSort (dataLe false D.py) := by
        rw [sort_maps (r := dataLe false fun p : V × D => p.2.py) (s := dataLe false D.py) Prod.snd fun _ _ _ _ => rfl, f2]
      rw [e1, List.map_map]
      have x4 := ok.freeze hp (.lst (((vs.zip es).mergeSort (dataLe false fun p => p.2.py)).map Prod.fst))
      refine k _ _ _ _ _ x4 (.lst upd_same ?_ ?_) q
      · rw [List.length_map, List.length_mergeSort, List.length_zip]; omega
      · rw [← e2]
        exact reps_of fun p hp => (hz p ((List.mergeSort_perm _ _).mem_iff.mp hp)).mono x4.mono
section
variable {X : Cx} {a : Expr} {ta : TED} {p pos : Pos}
theorem d_sortD (hu : X.A.units + 64 < cLine) (hg : Gl X "sorted") (hm : X.mg "sorted" = none) (ha : DA X [a] (dCons ta dNil)) (he : starEach [a] X.env = [(false, eval a X.env)] := by rfl) : DE X (.Call (.Name "sorted" p) [a] [] pos) (dCB fSortD (dCons ta dNil)) :=
  d_callB (cr_sortD hu) c1_sortD hg hm (by decide +kernel) ha (by decide) (by decide) he rfl
end

/-! ### a set of tuples of whole numbers -/
theorem perm_pull {α β : Type} {f : α → β} : ∀ {vs ws : List β}, vs.Perm ws → ∀ L, ws = L.map f → ∃ L1 : List α, L1.Perm L ∧ vs = L1.map f := by
  intro vs ws h
  induction h with
  | nil => intro L e; exact ⟨L, List.Perm.refl _, e⟩
  | cons x _ ih =>
    intro L e
    cases L with
    | nil => simp at e
    | cons y L =>
      rw [List.map_cons] at e
      obtain ⟨e1, e2⟩ := List.cons.inj e
      obtain ⟨L1, p, q⟩ := ih L e2
      exact ⟨y :: L1, p.cons y, by rw [List.map_cons, e1, q]⟩
  | swap x y l =>
    intro L e
    match L, e with
    | [], e => simp at e
    | [_], e => simp at e
    | u :: v :: L, e =>
      rw [List.map_cons, List.map_cons] at e
      obtain ⟨e1, e2⟩ := List.cons.inj e
      obtain ⟨e2, e3⟩ := List.cons.inj e2
      exact ⟨v :: u :: L, List.Perm.swap .., by rw [List.map_cons, List.map_cons, e1, e2, e3]⟩
  | trans _ _ ih1 ih2 =>
    intro L e
    obtain ⟨L2, p2, e2⟩ := ih2 L e
    obtain ⟨L1, p1, e1⟩ := ih1 L2 e2
    exact ⟨L1, p1.trans p2, e1⟩
theorem reads_ints {h : Heap} : ∀ {us : List Value} {ks : List Int}, IntsAre us ks → ∃ as, ReadsAll h us (ks.map .int) as
  | _, _, .nil => ⟨[], .nil⟩
  | _, _, .cons n t r => by
    obtain ⟨as, q⟩ := reads_ints r
    exact ⟨_, .cons (.int n t) q⟩
abbrev encT (p : Addr × List Int) : PyData := .tuple (p.2.map .int)
theorem alike_tups {L : List (Addr × List Int)} : AllAlike (L.map encT) := AllAlike.of fun b b' => by
  show alike (.tuple _) (.tuple _) = true
  rw [alike]
  exact alike_ints _ _
theorem each_refs {S : Value → Addr × List Int → Prop} : ∀ (l : List (Addr × List Int)), (∀ q ∈ l, S (.ref q.1) q) → EachIs S (l.map fun q => Value.ref q.1) l
  | [], _ => .nil
  | q :: l, h => .cons (h q (List.mem_cons_self ..)) (each_refs l fun r m => h r (List.mem_cons_of_mem _ m))
section
variable {P : Program} {w : World} {A : Around} {E : Value → Shared → Prop} {s : Shared}
theorem reads_isT {h : Heap} {k : List Int} {b : Addr} (x : IsT P w h k b) : ∃ as, Reads h (.ref b) (.tuple (k.map .int)) as := by
  obtain ⟨o, items, n, ho, hc, hd, hi⟩ := x
  obtain ⟨as, q⟩ := reads_ints (h := h) (ints_of_items hi)
  exact ⟨_, .tuple ho hc hd q⟩
/-- sorted of a set of tuples of any lengths -/
theorem sorted_setD {a : Addr} {L : List (Addr × List Int)} {es : Array (Int × Value)} {ep : Nat} {t : SetTable} {Q : Value → Shared → Prop} (R : SetTR P w s.heap a L es ep t) (hh : A.handled = none) (hu : A.units + 8 < cLine)
    (hQ : ∀ s' p (out : Array Value) (c : Nat) (L' : List (Addr × List Int)), (∀ b o, s.heap.get? b = some o → s'.heap.get? b = some o) → s'.gens = s.gens → s'.os = s.os → s.heap.objs.size ≤ p →
      s'.heap.get? p = some (seqObj "list" out c) → out.toList = L'.map (fun q => Value.ref q.1) → L'.Perm L → L'.Pairwise (fun q r => dataLe false encT q r = true) → Q (.ref p) s') :
    wpAny (model P w) A (call (.builtin "sorted") [.ref a]) Q E s := by
  obtain ⟨o, ho, hex, hd⟩ := R.ob
  have few := R.few
  have hsize := R.size
  refine Calls.call_function_entry kind_sorted plain_sorted entry_sorted (args_sorted1 _) ?_
  unfold Builtin.«sorted»
  refine wpAny_bind (m := checkCount "sorted" 1 1 _) (wpAny_pure ?_)
  refine wpAny_bind (collect_set (A := A.in1) hh ⟨o, ho, hex.1, hd⟩ R.fits (by unfold scanBound; omega) R.tab.ris R.led fun s1 vs k1 hz g1 o1 pm => ?_)
  have rowsV : es.toList.map (·.2) = L.map fun q => Value.ref q.1 := by
    rw [R.rows]
    unfold L2.rowsOf
    rw [List.map_map] <;> rfl
  rw [rowsV] at pm
  obtain ⟨L1, pL, e1⟩ := perm_pull pm L rfl
  have hvl : vs.length < 64 := by rw [pm.length_eq, List.length_map]; exact few
  refine wpAny_bind (wpAny_newList ?_ (by rw [sizeLine_eq]; omega))
  have at1 : (s1.heap.push (seqObj "list" vs.toArray 0)).get? s1.heap.objs.size = some (seqObj "list" vs.toArray 0) := Heap.get?_push_size _ rfl
  have olds : ∀ b u, s.heap.get? b = some u → (sortingHeap (s1.heap.push (seqObj "list" vs.toArray 0)) s1.heap.objs.size vs).get? b = some u := fun b u e =>
    sortingHeap_old (Nat.ne_of_lt (Heap.lt_size (k1 b u e))) (Heap.get?_push_of_some _ (k1 b u e))
  have er : EachIs (fun v q => ∃ as, Reads (sortingHeap (s1.heap.push (seqObj "list" vs.toArray 0)) s1.heap.objs.size vs) v (encT q) as) vs L1 := by
    have q := each_refs (S := fun v q => ∃ as, Reads (sortingHeap (s1.heap.push (seqObj "list" vs.toArray 0)) s1.heap.objs.size vs) v (encT q) as) L1 fun q hq => reads_isT (P := P) (w := w) (isT_keep (R.tup q (pL.mem_iff.mp hq)) olds)
    rw [← e1] at q
    exact q
  have eq1 : EachIs (fun v (q : Addr × List Int) => v = Value.ref q.1) vs L1 := by
    have q := each_refs (S := fun v (q : Addr × List Int) => v = Value.ref q.1) L1 fun q _ => rfl
    rw [← e1] at q
    exact q
  have depth : ∀ q ∈ L1, (encT q).depth ≤ 1 := fun q _ => by
    show (PyData.tuple (q.2.map .int)).depth ≤ 1
    rw [PyData.depth, depth_ints]
    first | exact Nat.le_refl _ | omega
  refine wpAny_bind (wpAny_holding (wpAny_call_entry slot_list_sort ⟨_, at1, rfl⟩ entry_list_sort (list_sort_vals (s := { s1 with heap := s1.heap.push (seqObj "list" vs.toArray 0) }) at1
    (sorts_alike (s := { s1 with heap := sortingHeap (s1.heap.push (seqObj "list" vs.toArray 0)) s1.heap.objs.size vs }) (each_map (R := fun v d => ∃ as, Reads (sortingHeap (s1.heap.push (seqObj "list" vs.toArray 0)) s1.heap.objs.size vs) v d as) encT er) alike_tups
      (fun d hm => by obtain ⟨q, _, rfl⟩ := List.mem_map.mp hm; exact fun z => by cases z) (bound_map fun q hq => ?_)) (by rw [sizeLine_eq]; omega) ⟨_, rfl, ?_⟩) (args_list_sort _)))
  · have := depth q hq
    show A.units + 1 + 1 + (encT q).depth < cLine
    omega
  · have so := sortVals_data (enc := encT) false eq1 er alike_tups
    obtain ⟨c, hc⟩ := sortedHeap_at (vs := vs) (out := (sortVals (dataKind (sortingHeap (s1.heap.push (seqObj "list" vs.toArray 0)) s1.heap.objs.size vs) (L1.map encT)) false vs vs).toArray) at1
    have outs : ∀ {us : List Value} {l : List (Addr × List Int)}, EachIs (fun v (q : Addr × List Int) => v = Value.ref q.1) us l → us = l.map fun q => Value.ref q.1 := by
      intro us l h
      induction h with
      | nil => rfl
      | cons h _ ih => rw [List.map_cons, h, ih]
    have tot := sortLe_total (listOrd itemOrd) false fun q : Addr × List Int => keyToks (encT q)
    refine wpAny_pure ⟨_, rfl, hQ _ s1.heap.objs.size _ c (L1.mergeSort (dataLe false encT)) (fun b u e => ?_) g1 o1 hz hc (outs so) ((List.mergeSort_perm _ _).trans pL)
      (List.pairwise_mergeSort tot.trans (fun a b => by
        rcases tot.total a b with z | z
        · show (sortLe _ _ _ a b || _) = true
          rw [z]; rfl
        · show (_ || sortLe _ _ _ b a) = true
          rw [z, Bool.or_true]) L1)⟩
    have q := k1 b u e
    have lt := Heap.lt_size q
    show (sortedHeap (s1.heap.push (seqObj "list" vs.toArray 0)) s1.heap.objs.size vs _).get? b = some u
    rw [sortedHeap_old (Nat.ne_of_lt lt) (by rw [size_push']; exact Nat.lt_succ_of_lt lt)]
    exact Heap.get?_push_of_some _ q
end
end DL

/-! DL: {e for x in xs}, e tuples of whole numbers; sorted of it. -/
namespace DL
open PySem PySem.Spec PyProof.Rows L2 PySem.W PySem.SeqAt PySem.Calls

section
variable {X : Cx}
/-- set.add of a tuple of whole numbers -/
theorem addT_ok {pins : List (Addr × Obj)} {σ : L2.St} {H : Hp} {s : Shared} {E : Value → Shared → Prop} {T x : Addr} {L : List (Addr × List Int)} {k : List Int} {Q : Value → Shared → Prop} (I : Inv X pins σ H s) (hT : H T = some (SetTO X.prog X.w T L))
    (hL : ∀ p ∈ L, SqT X.K H p.1 (p.2.map V.int)) (hx : SqT X.K H x (k.map V.int)) (few : L.length + 1 < 64) (hu : X.A.units + 64 < cLine)
    (h : ∀ s' L', (k ∈ L.map (·.2) → L' = L) → (k ∉ L.map (·.2) → L'.Perm ((x, k) :: L)) → Inv X pins σ (upd H T (SetTO X.prog X.w T L')) s' → Q .none s') : wpAny (model X.prog X.w) X.A (call (.builtin "set.add") [.ref T, .ref x]) Q E s := by
  have R0 : SetT0 X.prog X.w s.heap T L := (I.hok T _ hT).1
  obtain ⟨es, ep, t, R⟩ := R0.full fun p hp => I.isT (hL p hp)
  have ix := I.isT hx
  obtain ⟨o, ho, hex, hd⟩ := R.ob
  refine wpAny_call_entry F.slot_set_add ⟨o, ho, hex.1⟩ F.entry_set_add ?_ (F.args_set_add_2 _ _)
  unfold Builtin.«set.add» Builtin.Frozenset.oneOther
  simp only [List.isEmpty_nil, bind_assoc]
  unfold Builtin.Frozenset.addrOf setAdd
  refine wpAny_bind (wpAny_pure ?_)
  try dsimp only
  refine wpAny_bind (wpAny_pure ?_)
  try dsimp only
  refine wpAny_bind ?_
  refine wpAny_holding ?_
  refine wpAny_bind (wpAny_pyHash_tuple (knd := intKind X.prog X.w) (by simp only [Around.in1_units]; omega) ix ?_)
  refine add_at (s := { s with toks := s.toks + (k.length + 1) }) R ix (by simp only [Around.in1_units]; omega) few fun b h' L' es' ep' t' sb R' c1 c2 => ?_
  show wpAny _ _ (ret Value.none) _ _ _
  refine wpAny_pure ⟨_, rfl, ?_⟩
  have he : ∃ u, h'.get? T = some u := by
    have ⟨o, ho, _⟩ := R'.ob
    exact ⟨o, ho⟩
  exact h _ L' c1 c2 (I.write (e := T) (t' := s.toks + (k.length + 1)) (by rw [hT]; trivial) (.inl rfl) (fun b u hb hu => (sb.2 b hb).trans hu) he (setTO_new R'.t0))

/-- {elt for target in iter if ..}, elt a tuple of whole numbers: T the new set -/
def tScT (K : PySem.W.Frag) (P : Program) (w : World) (wi : TI) (g : TG) (tt : TT) (te : TE) (vs : List Nat) : TE := fun σ H Q => wi σ H fun J H1 => ∀ T, H1 T = none → ∃ W : Nat → Nat → Hp → Prop, (∃ m, W 0 m (upd H1 T (SetTO P w T []))) ∧ ∀ i m H, W i m H →
  (J.stop i H ∧ Q (.ref T) H) ∨ (J.go i H ∧ ∃ Nx : Hp → Prop, (∀ H', Nx H' → ∃ m', m' < m ∧ W (i + 1) m' H') ∧ ∀ x H', J.yld i H x H' → g x (wipe σ vs) H' fun σ2 H2 => wipe σ2 vs = wipe σ vs ∧ tt σ2 H2 fun b H3 =>
    if b = true then te σ2 H3 fun y H4 => ∃ (a : Addr) (k : List Int) (L : List (Addr × List Int)), y = .ref a ∧ H4 T = some (SetTO P w T L) ∧ (∀ p ∈ L, SqT K H4 p.1 (p.2.map V.int)) ∧ SqT K H4 a (k.map V.int) ∧ L.length + 1 < 64 ∧
      ∀ L', (k ∈ L.map (·.2) → L' = L) → (k ∉ L.map (·.2) → L'.Perm ((a, k) :: L)) → Nx (upd H4 T (SetTO P w T L')) else Nx H3)
theorem scT_core {pins : List (Addr × Obj)} {s : Shared} {σ : L2.St} {H : Hp} {Q : VK} {elt tg iter : Expr} {ifs : List Expr} {scope : Scope} {own : List (PySem.Str × Nat)} {pos pos' : Pos} {wi : TI} {g : TG} {tt : TT} {te : TE} {use : Option (Value → Sem Unit)} {Qf : Value → Shared → Prop}
    (hu : X.A.units + 64 < cLine) (hc : X.calm = true) (hN : X.N.Nodup) (I : Inv X pins σ H s) (hi : PI X tg iter wi) (ok : BlkOk X.N X.env.scope scope own)
    (hg : ∀ (s : Shared) (H : Hp) (C : Addr) (cl : List (PySem.Str × Addr)) (fp : List Addr), PG (X.blk s H scope (compEnvC scope cl C X.env) fp) tg g) (ht : ∀ (s : Shared) (H : Hp) (C : Addr) (cl : List (PySem.Str × Addr)) (fp : List Addr), PTs (X.blk s H scope (compEnvC scope cl C X.env) fp) ifs tt)
    (he : ∀ (s : Shared) (H : Hp) (C : Addr) (cl : List (PySem.Str × Addr)) (fp : List Addr), PE (X.blk s H scope (compEnvC scope cl C X.env) fp) elt te) (hs : ∀ x, foldedSetIterable iter X.env x = pure x)
    (h : tScT X.K X.prog X.w wi g tt te (own.map (·.2)) σ H Q)
    (hRR : ∀ T C s' m H', Inv X pins σ H' s' → Q (.ref T) H' → s'.heap.Ns C m → FpOk X pins H' C → compPost (model X.prog X.w) X.A X.xe use Qf (.ref T) C (.ok .next) s') :
    wpAny (model X.prog X.w) X.A (comprehension (.SetComp elt [⟨tg, iter, ifs, 0⟩] scope pos) scope X.env pos' (newSet (.type "set")) false (eval iter X.env) use) Qf X.xe s := by
  have free : ∀ y ∈ scope.names, y.2 = .free → ∃ c, X.env.cells.lookup y.1 = some c := fun y hy e => by
    rcases ok.free y hy e with k | k
    · exact I.ok.has _ (.inl k)
    · exact I.ok.has _ (.inr k)
  refine wpAny_comprehension_free (use := use) rfl hs (closure_ok free) ok.kind (fun y hy e => by rw [ok.uniq y hy, e])
    (thn (hi.run pins s σ H _ I h) fun xv s1 hx => thn hx fun itv s2 h2 => ?_)
  obtain ⟨it, fp, tn, J, H2, e, I2, Tk, st2, f2, q⟩ := h2
  subst e
  refine PpSet.newSet_ok (newEnv_comp ?_)
  generalize hT : s2.heap.objs.size = T
  have free2 : H2 T = none := I2.hok.fresh (Nat.le_of_eq hT)
  obtain ⟨W, ⟨m0, w0⟩, turn⟩ := q T free2
  generalize hs3 : ({ s2 with heap := s2.heap.push (emS X.w) } : Shared) = s3
  have I3 : Inv X pins σ (upd H2 T (SetTO X.prog X.w T [])) s3 := by
    rw [← hs3]
    refine I2.laid (t' := s2.toks) (fun b o e => Heap.get?_push_of_some _ e) (Nat.le_of_eq hT) ?_
    rw [← hT]
    exact setTO_new (setTR_fresh (P := X.prog) (w := X.w) (Heap.get?_push_size _ rfl)).t0
  have heap3 : s3.heap = s2.heap.push (emS X.w) := by rw [← hs3]
  have old : ∀ b ∈ fp, b < s2.heap.objs.size := fun b hb => by
    obtain ⟨o, e, _⟩ := Tk.obj _ _ st2 b hb
    exact Heap.lt_size e
  have f3 : ∀ b ∈ fp, FpOk X pins (upd H2 T (SetTO X.prog X.w T [])) b ∧ b < s3.heap.objs.size := fun b hb => by
    have lt := old b hb
    refine ⟨⟨?_, (f2 b hb).2⟩, by rw [heap3, Heap.size_push]; exact Nat.lt_succ_of_lt lt⟩
    rw [upd_ne (by rw [← hT]; exact Nat.ne_of_lt lt)]
    exact (f2 b hb).1
  have st3 : tn 0 s3.heap := Tk.keep _ _ _ st2 fun b _ o e => by rw [heap3]; exact Heap.get?_push_of_some _ e
  generalize hH3 : upd H2 T (SetTO X.prog X.w T []) = H3 at I3 w0 f3
  have I4 := block_start I3 ok hN f3
  show codeAny _ _ (.compStart (.SetComp elt [⟨tg, iter, ifs, 0⟩] scope pos) 0 (.ref it) (.ref T) (compEnvC scope (cellsFrom (s3.heap.objs.size + 1) scope.names (cloFrom X.env.cells scope.names [])) s3.heap.objs.size X.env)) (compPost (model X.prog X.w) X.A X.xe use Qf (.ref T) s3.heap.objs.size) { s3 with heap := pushCells (s3.heap.push { cls := .type "dict", data := .dict #[] }) scope.names }
  generalize hcl : cellsFrom (s3.heap.objs.size + 1) scope.names (cloFrom X.env.cells scope.names []) = cl at I4 ⊢
  have pg := hg s3 H3 s3.heap.objs.size cl fp
  have pt := ht s3 H3 s3.heap.objs.size cl fp
  have pe := he s3 H3 s3.heap.objs.size cl fp
  have none3 : ∀ b ∈ fp, H3 b = none := fun b hb => (f3 b hb).1.1
  generalize hce : compEnvC scope cl s3.heap.objs.size X.env = ce at I4 pg pt pe ⊢
  have loc : ce.locals = s3.heap.objs.size := by subst hce; rfl
  generalize hs4 : ({ s3 with heap := pushCells (s3.heap.push { cls := .type "dict", data := .dict #[] }) scope.names } : Shared) = s4 at I4 ⊢
  have st4 : tn 0 s4.heap := Tk.keep _ _ _ st3 fun b _ o e => by rw [← hs4]; exact pushCells_keeps _ _ _ _ (Heap.get?_push_of_some _ e)
  have walkOk : ∀ {σ' : L2.St} {H' : Hp} {s' : Shared}, Inv (X.blk s3 H3 scope ce fp) [] σ' H' s' → (∀ b ∈ fp, H' b = none) → ∀ b ∈ fp, FpOk (X.blk s3 H3 scope ce fp) [] H' b := fun {σ' H' s'} I' hn b hb =>
    ⟨hn b hb, (I'.ok.exf b hb).1, I'.ok.exfs b hb, .inl hb, fun x c e => (I'.ok.exf b hb).2 x c e, fun p hp => absurd (show p ∈ ([] : List (Addr × Obj)) ++ [] from hp) (by simp)⟩
  have loop : codeAny (model X.prog X.w) X.A (.compLoop (.SetComp elt [⟨tg, iter, ifs, 0⟩] scope pos) 0 (.ref it) (.ref T) ce) (compPost (model X.prog X.w) X.A X.xe use Qf (.ref T) s3.heap.objs.size) s4 := by
    refine PpSet.compLoopS_any (fun n s' => ∃ i H', Inv (X.blk s3 H3 scope ce fp) [] (wipe σ (own.map (·.2))) H' s' ∧ tn i s'.heap ∧ (∀ b ∈ fp, H' b = none) ∧ W i n H') ?_ m0 ⟨0, H3, I4, st4, none3, w0⟩
    rintro n s5 ⟨i, H5, I5, st5, n5, w5⟩
    rcases turn i n H5 w5 with ⟨stop, qq⟩ | ⟨go, Nx, hNx, step⟩
    · have td := Tk.done (X.blk s3 H3 scope ce fp) rfl rfl rfl hc i [] s5 _ H5 (fun _ _ => False) I5 (walkOk I5 n5) st5 stop
      refine thnF td fun r s6 ⟨hr, I6⟩ => ?_
      subst hr
      have I7 : Inv X pins σ H5 s6 := I3.call' (ch := fp) I6.os I6.base I6.hok I6.bare fun b hb => ⟨(f3 b hb).1.2.2.2.1, (f3 b hb).1.2.1, (f3 b hb).1.2.2.2.2.1, (f3 b hb).1.2.2.2.2.2⟩
      have nC : H5 s3.heap.objs.size = none := by
        have z : H5 ce.locals = none := I6.free
        rw [loc] at z
        exact z
      obtain ⟨m, hn, _⟩ := I6.loc
      have hn : s6.heap.Ns ce.locals m := hn
      rw [loc] at hn
      exact hRR T s3.heap.objs.size s6 m H5 I7 qq hn (I3.fpOk (Nat.le_refl _) nC)
    · have ti := Tk.item (X.blk s3 H3 scope ce fp) rfl rfl rfl hc i [] s5 _ H5 (fun _ _ => False) I5 (walkOk I5 n5) st5 go
      refine thnF ti fun r s6 ⟨u, hr, h6⟩ => ?_
      subst hr
      refine thnF h6 fun _ s7 ⟨x, H7, I7, r7, y7, st7, n7⟩ => ?_
      have I7' := I7.pinned (walkOk I7 n7) (Tk.obj _ _ st7)
      refine thnF (pg.run _ s7 _ H7 x u _ I7' r7 (step x H7 y7)) fun _ s8 ⟨σ8, H8, I8, hw8, q8⟩ => ?_
      refine thnF (pt.run _ s8 σ8 H8 _ I8 q8) fun b s9 ⟨H9, I9, q9⟩ => ?_
      have fin : ∀ {s' : Shared} {H' : Hp}, Inv (X.blk s3 H3 scope ce fp) ([] ++ pinsAt fp s7.heap) σ8 H' s' → Nx H' → ∃ m, m < n ∧ ∃ i H', Inv (X.blk s3 H3 scope ce fp) [] (wipe σ (own.map (·.2))) H' s' ∧ tn i s'.heap ∧ (∀ b ∈ fp, H' b = none) ∧ W i m H' := fun {s' H'} I' nx => by
        obtain ⟨m', hm, w'⟩ := hNx H' nx
        have pinned : ∀ b ∈ fp, ∀ o, s7.heap.get? b = some o → s'.heap.get? b = some o ∧ H' b = none := fun b hb o e =>
          let z := I'.pin (b, o) (List.mem_append_right _ (List.mem_append_right _ (mem_pinsAt hb e)))
          ⟨z.1, z.2.1⟩
        have hl : (wipe σ (own.map (·.2))).length = σ8.length := by rw [← hw8, wipe_length]
        refine ⟨m', hm, i + 1, H', (I'.unpinned (pins := [])).weak hl (fun j v e => ?_), Tk.keep _ _ _ st7 fun b hb o e => (pinned b hb o e).1, fun b hb => ?_, w'⟩
        · rw [← hw8] at e
          exact (wipe_some e).1
        · obtain ⟨o, e, _⟩ := Tk.obj _ _ st7 b hb
          exact (pinned b hb o e).2
      cases b with
      | false =>
        simp only [Bool.false_eq_true, if_false] at q9 ⊢
        exact fin I9 q9
      | true =>
        simp only [if_true] at q9 ⊢
        refine thnF (pe.run _ s9 σ8 H9 _ I9 q9) fun z s10 ⟨yv, H10, I10, r10, a, kk, L, ey, hT10, hL10, ha10, few, nx⟩ => ?_
        subst ey
        cases (show z = Value.ref a from r10)
        exact addT_ok (X := X.blk s3 H3 scope ce fp) I10 hT10 hL10 ha10 few hu fun s11 L' c1 c2 I11 => fin I11 (nx L' c1 c2)
  exact PpSet.codeAny_compStart_set loop (Tk.self X.A 0 _ _ _ st4 loop)
theorem pe_scT {elt tg iter : Expr} {ifs : List Expr} {scope : Scope} {own : List (PySem.Str × Nat)} {pos : Pos} {wi : TI} {g : TG} {tt : TT} {te : TE} (hu : X.A.units + 64 < cLine) (hc : X.calm = true) (hN : X.N.Nodup) (hi : PI X tg iter wi) (ok : BlkOk X.N X.env.scope scope own)
    (hg : ∀ (s : Shared) (H : Hp) (C : Addr) (cl : List (PySem.Str × Addr)) (fp : List Addr), PG (X.blk s H scope (compEnvC scope cl C X.env) fp) tg g) (ht : ∀ (s : Shared) (H : Hp) (C : Addr) (cl : List (PySem.Str × Addr)) (fp : List Addr), PTs (X.blk s H scope (compEnvC scope cl C X.env) fp) ifs tt)
    (he : ∀ (s : Shared) (H : Hp) (C : Addr) (cl : List (PySem.Str × Addr)) (fp : List Addr), PE (X.blk s H scope (compEnvC scope cl C X.env) fp) elt te) (hs : ∀ x, foldedSetIterable iter X.env x = pure x := by intro _; rfl) :
    PE X (.SetComp elt [⟨tg, iter, ifs, 0⟩] scope pos) (tScT X.K X.prog X.w wi g tt te (own.map (·.2))) := by
  refine ⟨fun pins s σ H Q I h => ?_⟩
  rw [PpSet.eval_SetComp]
  refine scT_core hu hc hN I hi ok hg ht he hs h fun T C s' m H' I' q hn f => ⟨m, hn, fun h'' sb => ?_⟩
  obtain ⟨f0, f1, f2, f3, f4, f5⟩ := f
  exact ⟨.ref T, H', I'.turned (t' := s'.toks) (fun b o hb e => (sb.2 b hb).trans e) f0 f1 f3 f4 f5, rfl, q⟩
/-- sorted(set), tuples of any lengths -/
def rSortedD (K : PySem.W.Frag) (P : Program) (w : World) : List V → Hp → VK → Prop := fun vs H Q => ∃ (a : Addr) (L : List (Addr × List Int)), vs = [V.ref a] ∧ H a = some (SetTO P w a L) ∧ (∀ p ∈ L, SqT K H p.1 (p.2.map V.int)) ∧
  ∀ (L' : List (Addr × List Int)) (p : Addr), L'.Perm L → (L'.map (·.2)).Nodup → L'.length < 64 → L'.Pairwise (fun q r => dataLe false encT q r = true) → H p = none → Q (.ref p) (upd H p (.lst (L'.map fun q => V.ref q.1)))
theorem cr_sortedD (hc : X.calm = true) (hu : X.A.units + 64 < cLine) : CallR X (.builtin "sorted") (rSortedD X.K X.prog X.w) := by
  intro pins s σ H vs us Q I r h
  obtain ⟨a, L, rfl, ha, hk, q⟩ := h
  have R0 : SetT0 X.prog X.w s.heap a L := (I.hok a _ ha).1
  obtain ⟨es, ep, t, R⟩ := R0.full fun p hp => I.isT (hk p hp)
  rw [Vals.ref1 r]
  refine sorted_setD R (I.ok.hd hc) (by omega) fun s' p out c L' k g o hp hg hout pm pw => ?_
  have few : L'.length < 64 := by rw [pm.length_eq]; exact R.few
  have hlen : (L'.map fun q => V.ref q.1).length ≤ sizeLine := by rw [List.length_map, sizeLine_eq]; omega
  have fr : H p = none := I.hok.fresh hp
  have hv : Vals (L'.map fun q => V.ref q.1) out.toList := by rw [hout]; exact vals_of_refs L'
  have J : Inv X pins σ (upd H p (.lst (L'.map fun q => V.ref q.1))) { s with heap := s'.heap, gens := s'.gens, drawn := s'.drawn, toks := s'.toks } :=
    I.call (ch := []) (Un.laid k hp fr) (I.hok.laid k hp ⟨hlen, out.toList, c, hv, hg⟩) (by rw [g]; exact I.bare) (fun _ z => nomatch z)
  have e : s' = { s with heap := s'.heap, gens := s'.gens, drawn := s'.drawn, toks := s'.toks } := by
    cases s'
    cases s
    cases o
    rfl
  rw [e]
  exact ⟨.ref p, _, J, rfl, q L' p pm ((pm.map (·.2)).nodup_iff.mpr R.nd) few pw fr⟩
end

/-! ### over data -/
def tupI (k : List Int) : D := .tup (k.map D.int)
def scD (U : List (List Int)) (stab : GM → Prop) (g : TGD) (tt : TTD) (te : TED) (ρ : Rh) : List D → GM → (List (List Int) → GM → Prop) → Prop
  | [], G, Q => Q [] G
  | d :: ds, G, Q => g d ρ fun ρ1 => tt ρ1 G fun b G1 => if b = true then te ρ1 G1 fun y G2 => stab G2 ∧ ∃ k, y = tupI k ∧ k ∈ U ∧ scD U stab g tt te ρ ds G2 fun rs G3 => Q (k :: rs) G3 else stab G1 ∧ scD U stab g tt te ρ ds G1 Q
/-- the order of lists of whole numbers -/
def ltL (x y : List Int) : Prop := x ≤ y ∧ x ≠ y
/-- sorted({e for x in xs}) -/
def dSortSc (wd : TID) (g : TGD) (tt : TTD) (te : TED) (vs : List Nat) : TED := fun ρ G Q => wd ρ G fun items stab G1 => ∃ U : List (List Int), U.length ≤ 62 ∧ scD U stab g tt te (wipeD ρ vs) items G1 fun rs G2 =>
  ∀ ms : List (List Int), ms.Pairwise ltL → (∀ k, k ∈ ms ↔ k ∈ rs) → Q (.lst (ms.map tupI)) G2
theorem tup_sq {K : PySem.W.Frag} {F : Hp} {v : V} {k : List Int} (r : Rep K F v (tupI k)) : ∃ a, v = .ref a ∧ SqT K F a (k.map V.int) := by
  cases r with
  | @tup a vs _ s z rr =>
    have e := rr.ints
    subst e
    exact ⟨a, rfl, s⟩
theorem nodup_le {α : Type} : ∀ (l U : List α), l.Nodup → (∀ x ∈ l, x ∈ U) → l.length ≤ U.length
  | [], _, _, _ => Nat.zero_le _
  | x :: l, U, hn, hs => by
    obtain ⟨h1, h2⟩ := List.nodup_cons.mp hn
    obtain ⟨A, B, e⟩ := List.append_of_mem (hs x (List.mem_cons_self ..))
    have ih := nodup_le l (A ++ B) h2 fun y hy => by
      have m := hs y (List.mem_cons_of_mem _ hy)
      rw [e, List.mem_append, List.mem_cons] at m
      rw [List.mem_append]
      rcases m with m | m | m
      · exact .inl m
      · exact absurd (m ▸ hy) h1
      · exact .inr m
    rw [e, List.length_append, List.length_cons, List.length_cons]
    rw [List.length_append] at ih
    omega
end DL

namespace DL
open PySem PySem.Spec PyProof.Rows L2 PySem.W PySem.SeqAt PySem.Calls
theorem tup_sqz {K : PySem.W.Frag} {F : Hp} {v : V} {k : List Int} (r : Rep K F v (tupI k)) : ∃ a, v = .ref a ∧ SqT K F a (k.map V.int) ∧ k.length ≤ sizeLine := by
  cases r with
  | @tup a vs _ s z rr =>
    have e := rr.ints
    subst e
    exact ⟨a, rfl, s, by simpa using z⟩
theorem le_of_data {q r : Addr × List Int} (h : dataLe false encT q r = true) : q.2 ≤ r.2 := by
  have e : dataLe false encT q r = dataLe false (fun p : Addr × List Int => .list (p.2.map .int)) q r := by
    show (!dataLt _ _) = (!dataLt _ _)
    rw [dataLt_tuple, dataLt_list]
  rw [e, dataLe_rows] at h
  exact of_decide_eq_true h
theorem pair_ltL : ∀ {L : List (Addr × List Int)}, L.Pairwise (fun q r => dataLe false encT q r = true) → (L.map (·.2)).Nodup → (L.map (·.2)).Pairwise ltL := by
  intro L h hn
  have hn' := List.pairwise_map.mp hn
  exact List.pairwise_map.mpr (h.imp₂ (fun q r a b => ⟨le_of_data a, b⟩) hn')
theorem reps_rows {K : PySem.W.Frag} {F : Hp} : ∀ {L : List (Addr × List Int)}, (∀ q ∈ L, SqT K F q.1 (q.2.map V.int) ∧ q.2.length ≤ sizeLine) → Reps K F (L.map fun q => V.ref q.1) ((L.map (·.2)).map tupI)
  | [], _ => .nil
  | q :: L, h => by
    obtain ⟨s, z⟩ := h q (List.mem_cons_self ..)
    exact .cons (.tup s (by rw [List.length_map]; exact z) (Reps.of_ints q.2)) (reps_rows fun r m => h r (List.mem_cons_of_mem _ m))
section
variable {X : Cx} {a b c e o i tg iter elt : Expr} {pos apos cpos spos q : Pos} {x : Str} {p : Pos} {ifs : List Expr} {wd : TID} {g : TGD} {tt : TTD} {te : TED} {ts : List Nat} {scope : Scope} {own : List (Str × Nat)}
theorem d_sortSc (hu : X.A.units + 64 < cLine) (hc : X.calm = true) (hN : X.N.Nodup) (hgs : Gl X "sorted") (hms : X.mg "sorted" = none) (hi : DI X tg iter wd) (ok : BlkOk X.N X.env.scope scope own)
    (hg : ∃ g', (∀ (s : Shared) (H : Hp) (C : Addr) (cl : List (Str × Addr)) (fp : List Addr), PG (X.blk s H scope (compEnvC scope cl C X.env) fp) tg g') ∧ SndG X.K g' g ts) (hts : ∀ i ∈ ts, i ∈ own.map (·.2))
    (ht : ∀ (s : Shared) (H : Hp) (C : Addr) (cl : List (Str × Addr)) (fp : List Addr), DTs (X.blk s H scope (compEnvC scope cl C X.env) fp) ifs tt)
    (he : ∀ (s : Shared) (H : Hp) (C : Addr) (cl : List (Str × Addr)) (fp : List Addr), DE (X.blk s H scope (compEnvC scope cl C X.env) fp) elt te) (hs : ∀ x, foldedSetIterable iter X.env x = pure x := by intro _; rfl)
    (he2 : starEach [.SetComp elt [⟨tg, iter, ifs, 0⟩] scope q] X.env = (false, eval (.SetComp elt [⟨tg, iter, ifs, 0⟩] scope q) X.env) :: starEach [] X.env := by rfl) :
    DE X (.Call (.Name "sorted" p) [.SetComp elt [⟨tg, iter, ifs, 0⟩] scope q] [] pos) (dSortSc wd g tt te (own.map (fun p : Str × Nat => p.2))) := by
  obtain ⟨g', pg, sg⟩ := hg
  refine pe_imp (pe_callB (cr_sortedD hc hu) hgs hms (by decide +kernel) (pa_cons (pe_scT (tt := concT X.K tt) (te := conc X.K te) hu hc hN hi ok pg (fun s H C cl fp => (ht s H C cl fp).run) (fun s H C cl fp => he s H C cl fp) hs) pa_nil he2) (by decide) (by decide) he2 rfl) fun σ H Qv z => ?_
  obtain ⟨ρ, F, G, Q, okk, sl, z, k⟩ := z
  refine ⟨ρ, F, G, _, okk, sl, z, fun J items stab F1 G1 H1 x1 st1 src q1 => ?_⟩
  obtain ⟨U, hU, q1⟩ := q1
  intro T hT
  obtain ⟨f1, g1⟩ := x1.ok.none_of hT
  generalize hR : (fun (rs : List (List Int)) (G2 : GM) => ∀ ms : List (List Int), ms.Pairwise ltL → (∀ k, k ∈ ms ↔ k ∈ rs) → Q (.lst (ms.map tupI)) G2) = R at q1
  refine ⟨fun i m H' => ∃ F' G' L rs, Ext X.K F1 G1 H1 F' G' H' ∧ F' T = none ∧ G' T = none ∧ H' T = some (SetTO X.prog X.w T L) ∧ (∀ q ∈ L, SqT X.K F' q.1 (q.2.map V.int) ∧ q.2.length ≤ sizeLine) ∧ (L.map (·.2)).Nodup ∧ (∀ k, k ∈ L.map (·.2) ↔ k ∈ rs) ∧ (∀ k ∈ rs, k ∈ U) ∧ stab G' ∧
      m = items.length - i ∧ i ≤ items.length ∧ scD U stab g tt te (wipeD ρ (own.map (fun p : Str × Nat => p.2))) (items.drop i) G' (fun ys G2 => R (rs ++ ys) G2),
    ⟨items.length, F1, G1, [], [], (Ext.refl x1.ok).poke hT f1 g1 _, f1, g1, upd_same, fun _ h => absurd h (by simp), List.nodup_nil, fun k => by simp, fun _ h => absurd h (by simp), st1, by simp, Nat.zero_le _, by simpa using q1⟩, ?_⟩
  rintro i m H' ⟨F', G', L, rs, x2, f2, g2, h2, hL, nd, hm, hrU, st2, rfl, hi', q2⟩
  have lenU : L.length ≤ 62 := by
    have := nodup_le (L.map (·.2)) U nd fun k hk => hrU k ((hm k).mp hk)
    rw [List.length_map] at this
    omega
  by_cases hlt : i < items.length
  · right
    rw [List.drop_eq_getElem_cons hlt] at q2
    refine ⟨src.go i F' G' H' x2 st2 hlt, fun H3 => ∃ F' G' L rs, Ext X.K F1 G1 H1 F' G' H3 ∧ F' T = none ∧ G' T = none ∧ H3 T = some (SetTO X.prog X.w T L) ∧ (∀ q ∈ L, SqT X.K F' q.1 (q.2.map V.int) ∧ q.2.length ≤ sizeLine) ∧ (L.map (·.2)).Nodup ∧ (∀ k, k ∈ L.map (·.2) ↔ k ∈ rs) ∧ (∀ k ∈ rs, k ∈ U) ∧ stab G' ∧
      scD U stab g tt te (wipeD ρ (own.map (fun p : Str × Nat => p.2))) (items.drop (i + 1)) G' (fun ys G2 => R (rs ++ ys) G2), fun H3 h3 => ?_, fun v H'' y => ?_⟩
    · obtain ⟨F3, G3, L3, r3, a1, a2, a3, a4, a5, a6, a7, a8, a9, a10⟩ := h3
      exact ⟨items.length - (i + 1), by omega, F3, G3, L3, r3, a1, a2, a3, a4, a5, a6, a7, a8, a9, rfl, hlt, a10⟩
    · obtain ⟨F'', x3, r3⟩ := src.yld i F' G' H' v H'' x2 st2 y items[i] (List.getElem?_eq_getElem hlt)
      obtain ⟨f3, g3, h3⟩ := x3.stays f2 g2 h2
      have x23 := x2.trans x3
      refine sg F'' G' H'' (L2.wipe σ (own.map (fun p : Str × Nat => p.2))) (wipeD ρ (own.map (fun p : Str × Nat => p.2))) v _ _ _ x3.ok (slots_wipes (sl.mono (fun a u q => x23.mono a u (x1.mono a u q))) _) r3 q2 fun σ4 ρ4 s4 o4 q4 => ?_
      refine ⟨by rw [wipe_off o4 hts, wipe_wipe], ?_⟩
      refine ⟨ρ4, F'', G', _, x3.ok, s4, q4, fun b F5 G5 H5 x5 q5 => ?_⟩
      obtain ⟨f5, g5, h5⟩ := x5.stays f3 g3 h3
      have x25 := x23.trans x5
      have L5 : ∀ q ∈ L, SqT X.K F5 q.1 (q.2.map V.int) ∧ q.2.length ≤ sizeLine := fun q hq => ⟨sub_sqT (x3.trans x5).mono (hL q hq).1, (hL q hq).2⟩
      cases b with
      | true =>
        rw [if_pos rfl] at q5 ⊢
        refine ⟨ρ4, F5, G5, _, x5.ok, s4.mono x5.mono, q5, fun u d F6 G6 H6 x6 r6 q6 => ?_⟩
        obtain ⟨st6, kk, rfl, hkU, q6⟩ := q6
        obtain ⟨f6, g6, h6⟩ := x6.stays f5 g5 h5
        have x26 := x25.trans x6
        obtain ⟨ad, rfl, hs6, hz6⟩ := tup_sqz r6
        have L6 : ∀ q ∈ L, SqT X.K F6 q.1 (q.2.map V.int) ∧ q.2.length ≤ sizeLine := fun q hq => ⟨sub_sqT x6.mono (L5 q hq).1, (L5 q hq).2⟩
        refine ⟨ad, kk, L, rfl, h6, fun q hq => sub_sqT x6.ok.sub (L6 q hq).1, sub_sqT x6.ok.sub hs6, by omega, fun L' c1 c2 => ?_⟩
        refine ⟨F6, G6, L', rs ++ [kk], x26.poke hT f6 g6 _, f6, g6, upd_same, fun q hq => ?_, ?_, fun k => ?_, fun k hk => ?_, st6, ?_⟩
        · by_cases c : kk ∈ L.map (·.2)
          · rw [c1 c] at hq; exact L6 q hq
          · rcases List.mem_cons.mp ((c2 c).mem_iff.mp hq) with z | z
            · rw [z]; exact ⟨hs6, hz6⟩
            · exact L6 q z
        · by_cases c : kk ∈ L.map (·.2)
          · rw [c1 c]; exact nd
          · exact ((c2 c).map (·.2)).nodup_iff.mpr (List.nodup_cons.mpr ⟨c, nd⟩)
        · rw [List.mem_append, List.mem_singleton]
          by_cases c : kk ∈ L.map (·.2)
          · rw [c1 c, hm k]
            exact ⟨.inl, fun z => z.elim id fun e => by rw [e]; exact (hm kk).mp c⟩
          · rw [((c2 c).map (·.2)).mem_iff]
            show k ∈ kk :: L.map (·.2) ↔ _
            rw [List.mem_cons, hm k]
            exact Or.comm
        · rw [List.mem_append, List.mem_singleton] at hk
          rcases hk with z | z
          · exact hrU k z
          · rw [z]; exact hkU
        · simpa [List.append_assoc] using q6
      | false =>
        rw [if_neg Bool.false_ne_true] at q5 ⊢
        exact ⟨F5, G5, L, rs, x25, f5, g5, h5, L5, nd, hm, hrU, q5.1, q5.2⟩
  · left
    have e : i = items.length := by omega
    subst e
    rw [List.drop_length] at q2
    have q2 : R rs G' := by simpa [scD] using q2
    refine ⟨src.stop _ F' G' H' x2 st2 (Nat.le_refl _), T, L, rfl, h2, fun q hq => sub_sqT x2.ok.sub (hL q hq).1, fun L' p3 pm nd3 few pw fr => ?_⟩
    have x4 := x2.ok.freeze fr (.lst (L'.map fun q => V.ref q.1))
    rw [← hR] at q2
    refine k _ _ _ _ _ ((x1.trans x2).trans x4) (.lst upd_same (by rw [List.length_map, sizeLine_eq]; omega) ((reps_rows fun q hq => hL q (pm.mem_iff.mp hq)).mono x4.mono)) (q2 (L'.map (·.2)) (pair_ltL pw nd3) fun k => ?_)
    rw [(pm.map (·.2)).mem_iff]
    exact hm k
end
end DL

/-! Tables of sets of any size: the way of a search meets each slot, at each mask 2^e - 1. -/
namespace DT
open PySem PySem.Spec PyProof.Rows L2
/-- 0, 1, 6, 31 ..: each five times the last, and one -/
def gO : Nat → Nat
  | 0 => 0
  | b + 1 => gO b * 5 + 1
theorem gO_add (a : Nat) : ∀ b, gO (a + b) = 5 ^ b * gO a + gO b
  | 0 => by simp [gO]
  | b + 1 => by
    show gO (a + b) * 5 + 1 = 5 ^ (b + 1) * gO a + (gO b * 5 + 1)
    rw [gO_add a b, Nat.pow_succ, Nat.add_mul, Nat.add_assoc]
    congr 1
    rw [Nat.mul_right_comm]
theorem five_odd (b : Nat) : ∃ t, 5 ^ b = 4 * t + 1 := by
  induction b with
  | zero => exact ⟨0, rfl⟩
  | succ b ih =>
    obtain ⟨t, e⟩ := ih
    exact ⟨5 * t + 1, by rw [Nat.pow_succ, e]; omega⟩
theorem gO_pow : ∀ e, ∃ v, gO (2 ^ e) = 2 ^ e * (2 * v + 1)
  | 0 => ⟨0, rfl⟩
  | e + 1 => by
    obtain ⟨v, hv⟩ := gO_pow e
    obtain ⟨t, ht⟩ := five_odd (2 ^ e)
    refine ⟨(2 * v + 1) * t + v, ?_⟩
    have e1 : 2 ^ (e + 1) = 2 ^ e + 2 ^ e := by rw [Nat.pow_succ]; omega
    rw [e1, gO_add, ht]
    have e2 : (4 * t + 1) * gO (2 ^ e) + gO (2 ^ e) = gO (2 ^ e) * (4 * t + 2) := by
      rw [Nat.mul_comm (4 * t + 1), ← Nat.mul_succ]
    rw [e2, hv]
    have e3 : 2 ^ e + 2 ^ e = 2 ^ e * 2 := by omega
    rw [e3, Nat.mul_assoc, Nat.mul_assoc]
    congr 1
    have e4 : (2 * v + 1) * (4 * t + 2) = 2 * ((2 * v + 1) * (2 * t + 1)) := by
      have : 4 * t + 2 = 2 * (2 * t + 1) := by omega
      rw [this, Nat.mul_left_comm]
    rw [e4]
    congr 1
    rw [Nat.mul_add, Nat.mul_one, Nat.mul_left_comm]
    omega
/-- one round on: as many as the mask's slots, odd times -/
theorem gO_far (e b : Nat) : ∃ z, gO (2 ^ e + b) = gO b + 2 ^ e + 2 ^ e * (2 * z) := by
  obtain ⟨v, hv⟩ := gO_pow e
  obtain ⟨t, ht⟩ := five_odd b
  refine ⟨2 * t * (2 * v + 1) + v, ?_⟩
  rw [gO_add, hv, ht]
  have e1 : (4 * t + 1) * (2 ^ e * (2 * v + 1)) = 2 ^ e * ((4 * t + 1) * (2 * v + 1)) := Nat.mul_left_comm ..
  have e2 : (4 * t + 1) * (2 * v + 1) = 1 + 2 * (2 * t * (2 * v + 1) + v) := by
    have : (4 * t + 1) * (2 * v + 1) = 4 * t * (2 * v + 1) + (2 * v + 1) := by rw [Nat.add_mul, Nat.one_mul]
    rw [this]
    have : 4 * t * (2 * v + 1) = 2 * (2 * t * (2 * v + 1)) := by rw [← Nat.mul_assoc, ← Nat.mul_assoc]
    omega
  rw [e1, e2, Nat.mul_add, Nat.mul_one]
  omega
theorem gO_meets : ∀ (e j : Nat), ∃ b, b < 2 ^ e ∧ gO b % 2 ^ e = j % 2 ^ e
  | 0, j => ⟨0, by decide, by rw [Nat.pow_zero, Nat.mod_one, Nat.mod_one]⟩
  | e + 1, j => by
    obtain ⟨b, hb, h⟩ := gO_meets e j
    have hp : 0 < 2 ^ e := Nat.pow_pos (by decide)
    have ep : 2 ^ (e + 1) = 2 ^ e * 2 := Nat.pow_succ ..
    have split : ∀ x, x % 2 ^ (e + 1) = x % 2 ^ e + 2 ^ e * (x / 2 ^ e % 2) := fun x => by rw [ep, Nat.mod_mul]
    by_cases c : gO b / 2 ^ e % 2 = j / 2 ^ e % 2
    · exact ⟨b, by omega, by rw [split, split, h, c]⟩
    · obtain ⟨z, hz⟩ := gO_far e b
      refine ⟨2 ^ e + b, by omega, ?_⟩
      have m1 : gO (2 ^ e + b) % 2 ^ e = gO b % 2 ^ e := by rw [hz, Nat.add_mul_mod_self_left, Nat.add_mod_right]
      have d1 : gO (2 ^ e + b) / 2 ^ e = gO b / 2 ^ e + 1 + 2 * z := by rw [hz, Nat.add_mul_div_left _ _ hp, Nat.add_div_right _ hp]
      rw [split, split, m1, h, d1]
      have : (gO b / 2 ^ e + 1 + 2 * z) % 2 = j / 2 ^ e % 2 := by omega
      rw [this]
theorem lcgN_gO (m : Nat) : ∀ b, lcgN m b = gO b % (m + 1)
  | 0 => by show 0 = 0 % (m + 1); rw [Nat.zero_mod]
  | b + 1 => by
    show (lcgN m b * 5 + 1) % (m + 1) = (gO b * 5 + 1) % (m + 1)
    rw [lcgN_gO m b, Nat.add_mod, Nat.mod_mul_mod, ← Nat.add_mod]
/-- a mask -/
def Msk (m : Nat) : Prop := ∃ e, 3 ≤ e ∧ e ≤ 11 ∧ m + 1 = 2 ^ e
theorem Msk.meets {m : Nat} (hm : Msk m) {i j : Nat} (hi : i ≤ m) (hj : j ≤ m) : ∃ k, k ≤ m ∧ lcgI m i k = j := by
  obtain ⟨e, _, _, hp⟩ := hm
  have get : ∀ x, x ≤ m → ∃ b, b ≤ m ∧ lcgN m b = x := fun x hx => by
    obtain ⟨b, h1, h2⟩ := gO_meets e x
    rw [← hp] at h1 h2
    exact ⟨b, by omega, by rw [lcgN_gO, h2, Nat.mod_eq_of_lt (by omega)]⟩
  obtain ⟨a, ha, rfl⟩ := get i hi
  obtain ⟨b, hb, rfl⟩ := get j hj
  by_cases c : a ≤ b
  · exact ⟨b - a, by omega, by rw [lcgN_add]; congr 1; omega⟩
  · refine ⟨b + (m + 1) - a, by omega, ?_⟩
    rw [lcgN_add]
    have e1 : a + (b + (m + 1) - a) = (m + 1) + b := by omega
    rw [e1, lcgN_gO, lcgN_gO]
    obtain ⟨z, hz⟩ := gO_far e b
    rw [hp, hz, Nat.add_mul_mod_self_left, Nat.add_mod_right]
theorem Msk.odd {m : Nat} (hm : Msk m) : m % 2 = 1 := by
  obtain ⟨e, h, _, hp⟩ := hm
  obtain ⟨d, rfl⟩ : ∃ d, e = d + 1 := ⟨e - 1, by omega⟩
  rw [Nat.pow_succ] at hp
  omega
theorem Msk.le {m : Nat} (hm : Msk m) : m ≤ 2047 := by
  obtain ⟨e, _, h, hp⟩ := hm
  have : 2 ^ e ≤ 2 ^ 11 := Nat.pow_le_pow_right (by decide) h
  omega
theorem Msk.runs {m : Nat} (hm : Msk m) (h : Int) {j : Nat} (hj : j ≤ m) : ∃ n, n ≤ m + 12 ∧ runI m (SetTable.bits h) n = j := by
  obtain ⟨k, hk, e⟩ := hm.meets (runI_le m (SetTable.bits h) 12) hj
  exact ⟨12 + k, by omega, (runI_tail (bits_lt h) k).trans e⟩
theorem way_in (m : Nat) (h : Int) (k : Nat) : way m h k ≤ m := by
  have b0 : SetTable.bits h % (m + 1) ≤ m := Nat.le_of_lt_succ (Nat.mod_lt _ (Nat.succ_pos _))
  have r := runEnd_bd b0
  have q := nth_in (m := m) k (runAt m (SetTable.bits h % (m + 1)) (SetTable.bits h)) (by
    show SetTable.bits h % (m + 1) + (SetTable.runEnd m (SetTable.bits h % (m + 1)) - SetTable.bits h % (m + 1)) ≤ m
    omega)
  exact Nat.le_trans (Nat.le_add_right _ _) q
/-- the n-th run's beginning, as a step of the way -/
theorem way_off (m : Nat) (h : Int) (n : Nat) : way m h (off m (SetTable.bits h % (m + 1)) (SetTable.bits h) n) = runI m (SetTable.bits h) n := by
  show (nth m _ _).j = _
  rw [nth_off, itL_run]
  rfl
theorem off_le (m : Nat) : ∀ (n i b : Nat), i ≤ m → off m i b n ≤ 10 * n
  | 0, _, _, _ => Nat.le_refl _
  | n + 1, i, b, hi => by
    have r := runEnd_bd hi
    have ih := off_le m n (SetTable.leap m i b).1 (SetTable.leap m i b).2 (leap_le m i b)
    show (SetTable.runEnd m i - i + 1) + off m _ _ n ≤ 10 * (n + 1)
    omega
/-- the first slot of the way with a property that some slot has -/
theorem Msk.first {m : Nat} (hm : Msk m) (h : Int) (p : Nat → Prop) {j : Nat} (hj : j ≤ m) (hp : p j) : ∃ n K, n ≤ m + 12 ∧ K ≤ off m (SetTable.bits h % (m + 1)) (SetTable.bits h) n ∧ K ≤ 10 * (m + 12) ∧ p (way m h K) ∧ ∀ k, k < K → ¬ p (way m h k) := by
  obtain ⟨n, hn, e⟩ := hm.runs h hj
  obtain ⟨K, a, b, c⟩ := st_least (p := fun k => p (way m h k)) (off m (SetTable.bits h % (m + 1)) (SetTable.bits h) n) (by show p (way m h _); rw [way_off, e]; exact hp)
  have o := off_le m n (SetTable.bits h % (m + 1)) (SetTable.bits h) (Nat.le_of_lt_succ (Nat.mod_lt _ (Nat.succ_pos _)))
  exact ⟨n, K, hn, a, by omega, b, c⟩
end DT

/-! Tables of sets of tuples: one put in, all laid anew. -/
namespace DT
open PySem PySem.Spec PyProof.Rows L2
/-- the masks that come below 1200 members -/
def Five (m : Nat) : Prop := m = 7 ∨ m = 31 ∨ m = 127 ∨ m = 511 ∨ m = 2047
theorem Five.msk {m : Nat} (h : Five m) : Msk m := by
  rcases h with e | e | e | e | e <;> subst e
  · exact ⟨3, by decide, by decide, rfl⟩
  · exact ⟨5, by decide, by decide, rfl⟩
  · exact ⟨7, by decide, by decide, rfl⟩
  · exact ⟨9, by decide, by decide, rfl⟩
  · exact ⟨11, by decide, by decide, rfl⟩
/-- h leads to the slot j past taken ones -/
def OnWay (m : Nat) (pl : List Nat) (j : Nat) (h : Int) : Prop := ∃ k, way m h k = j ∧ ∀ k', k' < k → way m h k' ∈ pl
theorem OnWay.more {m : Nat} {pl pl' : List Nat} {j : Nat} {h : Int} (o : OnWay m pl j h) (s : ∀ x ∈ pl, x ∈ pl') : OnWay m pl' j h := let ⟨k, e, a⟩ := o; ⟨k, e, fun k' hk => s _ (a k' hk)⟩
structure TabG (t : SetTable) (hs : List Int) : Prop where
  ris : Ris t.place.toList
  dm : t.dummies = #[]
  sz : t.place.toList.length = hs.length
  mok : Five t.mask
  bd : ∀ x ∈ t.place.toList, x ≤ t.mask
  reach : ∀ q ∈ t.place.toList.zip hs, OnWay t.mask t.place.toList q.1 q.2
theorem TabG.first {t : SetTable} {hs : List Int} (T : TabG t hs) (hl : hs.length ≤ t.mask) (h : Int) : ∃ K, K ≤ 10 * (t.mask + 12) ∧ way t.mask h K ∉ t.place.toList ∧ ∀ k, k < K → way t.mask h k ∈ t.place.toList := by
  obtain ⟨j, hj, hn⟩ := st_missing t.place.toList (t.mask + 1) (by rw [T.sz]; omega)
  obtain ⟨_, K, _, _, a, b, c⟩ := T.mok.msk.first h (fun j => j ∉ t.place.toList) (Nat.le_of_lt_succ hj) hn
  exact ⟨K, a, b, fun k hk => Classical.byContradiction (c k hk)⟩
theorem TabG.before {t : SetTable} {hs : List Int} (T : TabG t hs) {h : Int} {K i : Nat} (hK : way t.mask h K ∉ t.place.toList) (hi : hs[i]? = some h) : ∃ k, k < K ∧ t.place.toList[i]? = some (way t.mask h k) := by
  have il : i < hs.length := (List.getElem?_eq_some_iff.mp hi).1
  have ip : i < t.place.toList.length := by rw [T.sz]; exact il
  have hj := List.getElem?_eq_getElem ip
  have hz : (t.place.toList.zip hs)[i]? = some (t.place.toList[i], h) := by rw [List.getElem?_zip_eq_some]; exact ⟨hj, hi⟩
  obtain ⟨k, e, b⟩ := T.reach _ (List.mem_of_getElem? hz)
  refine ⟨k, ?_, by rw [hj, e]⟩
  rcases Nat.lt_trichotomy k K with c | c | c
  · exact c
  · rw [← c, e] at hK; exact absurd (List.getElem_mem ip) hK
  · exact absurd (b K c) hK
theorem zip_ins {α β : Type} {x : α} {y : β} : ∀ (p : Nat) (l : List α) (m : List β), l.length = m.length → (l.take p ++ x :: l.drop p).zip (m.take p ++ y :: m.drop p) = (l.zip m).take p ++ (x, y) :: (l.zip m).drop p
  | 0, l, m, _ => by simp
  | p + 1, [], [], _ => by simp
  | p + 1, [], _ :: _, h => by simp at h
  | p + 1, _ :: _, [], h => by simp at h
  | p + 1, a :: l, b :: m, h => by
    have ih := zip_ins (x := x) (y := y) p l m (by simpa using h)
    simp only [List.take_succ_cons, List.drop_succ_cons, List.cons_append, List.zip_cons_cons]
    rw [ih]
theorem mem_at {α : Type} {l : List α} {p : Nat} {x y : α} (h : y ∈ l.take p ++ x :: l.drop p) : y = x ∨ y ∈ l := by
  rcases List.mem_append.mp h with z | z
  · exact .inr (List.mem_of_mem_take z)
  · rcases List.mem_cons.mp z with z | z
    · exact .inl z
    · exact .inr (List.mem_of_mem_drop z)
theorem at_mem {α : Type} {l : List α} {p : Nat} {x y : α} (h : y = x ∨ y ∈ l) : y ∈ l.take p ++ x :: l.drop p := by
  rw [List.mem_append, List.mem_cons]
  rcases h with z | z
  · exact .inr (.inl z)
  · have z' : y ∈ l.take p ++ l.drop p := by rw [List.take_append_drop]; exact z
    rcases List.mem_append.mp z' with z | z
    · exact .inl z
    · exact .inr (.inr z)
theorem TabG.put {t : SetTable} {hs : List Int} (T : TabG t hs) {h : Int} {K : Nat} (hK : way t.mask h K ∉ t.place.toList) (hb : ∀ k, k < K → way t.mask h k ∈ t.place.toList) {t1 : SetTable} {p : Nat} (hp : t.put (way t.mask h K) = (t1, p)) :
    p ≤ hs.length ∧ TabG t1 (hs.take p ++ h :: hs.drop p) ∧ t1.mask = t.mask ∧ t1.led = t.led ∧ t1.plain = t.plain ∧ t1.fill = hs.length + 1 := by
  have ep : p = SetTable.below t.place (way t.mask h K) := congrArg Prod.snd hp.symm
  have et : t1 = (t.put (way t.mask h K)).1 := congrArg Prod.fst hp.symm
  have pl : t1.place.toList = t.place.toList.take p ++ way t.mask h K :: t.place.toList.drop p := by rw [et, ep]; exact put_place t _
  have em : t1.mask = t.mask := by rw [et]; rfl
  have dm : t1.dummies = #[] := by rw [et]; exact put_dm T.dm _
  have ph : p ≤ hs.length := by
    rw [ep, ← T.sz]
    exact (below_cut T.ris (way t.mask h K)).1
  have up : ∀ x ∈ t.place.toList, x ∈ t1.place.toList := fun x hx => by rw [pl]; exact at_mem (.inr hx)
  have size : t1.place.toList.length = hs.length + 1 := by
    rw [pl, List.length_append, List.length_cons, List.length_take, List.length_drop, T.sz]; omega
  have ris1 : Ris t1.place.toList := by
    rw [et]
    exact ris_insert T.ris fun e => hK (List.mem_of_getElem? (by rw [Array.getElem?_toList]; exact e))
  refine ⟨ph, ⟨ris1, dm, by rw [size, List.length_append, List.length_cons, List.length_take, List.length_drop]; omega, by rw [em]; exact T.mok, fun x hx => ?_, fun q hq => ?_⟩, em, by rw [et]; rfl, by rw [et]; rfl, ?_⟩
  · rw [pl] at hx
    rw [em]
    rcases mem_at hx with z | z
    · rw [z]; exact way_in _ _ _
    · exact T.bd x z
  · rw [em]
    rw [pl, zip_ins p _ _ T.sz] at hq
    rcases mem_at hq with z | z
    · rw [z]; exact ⟨K, rfl, fun k' hk' => up _ (hb k' hk')⟩
    · exact (T.reach q z).more up
  · show t1.place.size + t1.dummies.size = hs.length + 1
    rw [dm, ← size]; rfl
/-! ### all laid anew -/
theorem own_step {m : Nat} (hm : Msk m) {done : List Int} {owner : Array (Option Nat)} (W : Own m done owner) (hl : done.length ≤ m) (h : Int) :
    ∃ j, SetTable.layClean.free m owner (SetTable.turns m) (SetTable.bits h % (m + 1)) (SetTable.bits h) = some j ∧ Own m (done ++ [h]) (owner.setIfInBounds j (some done.length)) := by
  obtain ⟨ps, lps, inps⟩ := W.ps
  obtain ⟨j0, l0, n0⟩ := st_missing ps (m + 1) (by omega)
  have f0 : oAt owner j0 = none := Classical.byContradiction fun z => n0 (inps j0 (Nat.le_of_lt_succ l0) z)
  obtain ⟨n, K, hn, ho, _, free, taken⟩ := hm.first h (fun j => oAt owner j = none) (Nat.le_of_lt_succ l0) f0
  have ew : SetTable.layClean.free m owner (SetTable.turns m) (SetTable.bits h % (m + 1)) (SetTable.bits h) = some (way m h K) :=
    free_spec m owner (SetTable.turns m) n _ _ K (by unfold SetTable.turns; omega) ho (fun k hk => by
      cases z : oAt owner (nth m (runAt m (SetTable.bits h % (m + 1)) (SetTable.bits h)) k).j with
      | none => exact absurd z (taken k hk)
      | some _ => rfl) (by
      have z : oAt owner (nth m (runAt m (SetTable.bits h % (m + 1)) (SetTable.bits h)) K).j = none := free
      rw [z]; rfl)
  have inb : way m h K < owner.size := by rw [W.sz]; exact Nat.lt_succ_of_le (way_in m h K)
  have now := oAt_set_self (some done.length) inb
  have still : ∀ i, oAt owner i ≠ none → oAt (owner.setIfInBounds (way m h K) (some done.length)) i ≠ none := fun i hi => by
    by_cases c : i = way m h K
    · rw [c, now]; exact fun z => by cases z
    · rw [oAt_set_ne _ c]; exact hi
  refine ⟨_, ew, ⟨by rw [Array.size_setIfInBounds]; exact W.sz, fun j k hj e => ?_, fun k hk => ?_, way m h K :: ps, by simp [lps], fun j hj e => ?_⟩⟩
  · by_cases c : j = way m h K
    · rw [c, now] at e
      cases e
      exact ⟨h, K, by simp, c.symm, fun k' hk' => still _ (taken k' hk')⟩
    · rw [oAt_set_ne _ c] at e
      obtain ⟨h', K', a1, a2, a3⟩ := W.at_ j k hj e
      exact ⟨h', K', by rw [List.getElem?_append_left (List.getElem?_eq_some_iff.mp a1).1]; exact a1, a2, fun k' hk' => still _ (a3 k' hk')⟩
  · rw [List.length_append, List.length_singleton] at hk
    by_cases c : k < done.length
    · obtain ⟨j, hj, e⟩ := W.all k c
      exact ⟨j, hj, by rw [oAt_set_ne _ (fun z => by rw [z, free] at e; cases e)]; exact e⟩
    · have : k = done.length := by omega
      exact ⟨way m h K, way_in m h K, by rw [this]; exact now⟩
  · by_cases c : j = way m h K
    · rw [c]; exact List.mem_cons_self
    · rw [oAt_set_ne _ c] at e
      exact List.mem_cons_of_mem _ (inps j hj e)
theorem own_all {m : Nat} (hm : Msk m) : ∀ (rest done : List Int) (owner : Array (Option Nat)), Own m done owner → done.length + rest.length ≤ m →
    ∃ owner', rest.foldl (stepF m) (some (owner, done.length)) = some (owner', done.length + rest.length) ∧ Own m (done ++ rest) owner'
  | [], done, owner, W, _ => ⟨owner, rfl, by rw [List.append_nil]; exact W⟩
  | h :: rest, done, owner, W, hl => by
    rw [List.length_cons] at hl
    obtain ⟨j, e, W1⟩ := own_step hm W (by omega) h
    obtain ⟨owner', e2, W2⟩ := own_all hm rest (done ++ [h]) _ W1 (by rw [List.length_append, List.length_singleton]; omega)
    rw [List.length_append, List.length_singleton] at e2
    refine ⟨owner', ?_, by rw [List.append_assoc] at W2; exact W2⟩
    rw [List.foldl_cons, stepF_some e, e2, List.length_cons]
    congr 2
    omega
theorem laid {t : SetTable} {hs : Array Int} {wanted M : Nat} (hw : SetTable.sizeAbove wanted - 1 = M) (hM : Five M) (hn : hs.size ≤ M) :
    ∃ t' order, t.relaid hs wanted = some (t', order) ∧ order.toList.Perm (List.range hs.size) ∧ TabG t' (order.toList.map fun i => hs.getD i 0) ∧ t'.mask = M ∧ t'.led = t.led ∧ t'.plain = t.plain := by
  obtain ⟨owner, e, W⟩ := own_all hM.msk hs.toList [] _ (Own.init M) (by rw [Array.length_toList]; show 0 + hs.size ≤ M; omega)
  rw [List.nil_append] at W
  have hr : t.relaid hs wanted = some (tabOf t M owner, ((liveOf M owner).map (·.2)).toArray) := by
    have lc : SetTable.layClean M hs = some owner := by
      rw [layClean_eq]
      have e' : hs.toList.foldl (stepF M) (some (Array.replicate (M + 1) none, 0)) = some (owner, ([] : List Int).length + hs.toList.length) := e
      rw [e']; rfl
    rw [relaid_eq, hw, lc]; rfl
  have rl := ris_live (fun j => owner.getD j none) (List.range (M + 1)) (by unfold Ris; first | exact List.pairwise_lt_range | exact List.pairwise_lt_range _)
  have r1 : Ris ((liveOf M owner).map (·.1)) := rl.1
  have r2 : ∀ x ∈ (liveOf M owner).map (·.1), x ∈ List.range (M + 1) := rl.2
  have mem := fun {j k : Nat} => mem_live (j := j) (k := k) W.sz
  have len : (liveOf M owner).length = hs.size := by
    obtain ⟨ps, p1, p2⟩ := W.ps
    have nd : ((liveOf M owner).map fun q : Nat × Nat => q.1).Nodup := List.Pairwise.imp (fun h => Nat.ne_of_lt h) r1
    have a := nat_nodup_len ((liveOf M owner).map fun q : Nat × Nat => q.1) ps nd fun x hx => by
      obtain ⟨⟨y, k⟩, hq, rfl⟩ := List.mem_map.mp hx
      obtain ⟨b1, b2⟩ := mem.1 hq
      exact p2 y b1 (by rw [b2]; exact fun z => by cases z)
    have b := nat_nodup_len (List.range hs.size) ((liveOf M owner).map fun q : Nat × Nat => q.2) List.nodup_range fun k hk => by
      obtain ⟨j, b1, b2⟩ := W.all k (by rw [Array.length_toList]; exact List.mem_range.mp hk)
      exact List.mem_map.mpr ⟨(j, k), mem.2 ⟨b1, b2⟩, rfl⟩
    rw [List.length_map, p1] at a
    have ez : hs.toList.length = hs.size := rfl
    rw [List.length_map, List.length_range] at b
    omega
  have opl : (((liveOf M owner).map (·.2)).toArray).toList = (liveOf M owner).map (·.2) := rfl
  refine ⟨_, _, hr, ?_, ⟨r1, rfl, ?_, hM, fun x hx => Nat.le_of_lt_succ (List.mem_range.mp (r2 x hx)), fun q hq => ?_⟩, rfl, rfl, rfl⟩
  · refine perm_range hs.size _ (by rw [opl, List.length_map]; exact len) fun k hk => ?_
    obtain ⟨j, b1, b2⟩ := W.all k (by rw [Array.length_toList]; exact hk)
    exact List.mem_map.mpr ⟨(j, k), mem.2 ⟨b1, b2⟩, rfl⟩
  · show ((liveOf M owner).map (·.1)).length = _
    rw [opl, List.length_map, List.length_map, List.length_map]
  · have hq : q ∈ ((liveOf M owner).map (·.1)).zip (((liveOf M owner).map (·.2)).map fun i => hs.getD i 0) := hq
    rw [List.map_map, List.zip_map', List.mem_map] at hq
    obtain ⟨⟨y, k⟩, hl, rfl⟩ := hq
    obtain ⟨b1, b2⟩ := mem.1 hl
    obtain ⟨h0, K, a1, a2, a3⟩ := W.at_ y k b1 b2
    have eh : hs.getD k 0 = h0 := by rw [Array.getD_eq_getD_getElem?, ← Array.getElem?_toList, a1]; rfl
    show OnWay M ((liveOf M owner).map (·.1)) y (hs.getD k 0)
    rw [eh]
    refine ⟨K, a2, fun k' hk' => ?_⟩
    cases z : oAt owner (way M h0 k') with
    | none => exact absurd z (a3 k' hk')
    | some k2 => exact List.mem_map.mpr ⟨(way M h0 k', k2), mem.2 ⟨way_in _ _ _, z⟩, rfl⟩
end DT

/-! Sets of tuples of whole numbers, below 1200 members: the search, adding. -/
namespace DT
open PySem PySem.Spec PyProof.Rows L2
abbrev Row := Addr × List Int
structure SetG (P : Program) (w : World) (h : Heap) (a : Addr) (L : List Row) (es : Array (Int × Value)) (ep : Nat) (t : SetTable) : Prop where
  ob : ∃ o, h.get? a = some o ∧ o.ExactSet ∧ o.data = .set es ep t
  rows : es.toList = L2.rowsOf P w L
  tab : TabG t (L.map fun p => thash P w p.2)
  nd : (L.map (·.2)).Nodup
  tup : ∀ p ∈ L, IsT P w h p.2 p.1
  plain : t.plain = true
  led : w.params.followText "set-order" = true ∨ t.led = true
  room : L.length * 5 < t.mask * 3
  few : L.length < 1200
section
variable {P : Program} {w : World} {A : Around} {E : Value → Shared → Prop} {s : Shared} {a : Addr} {L : List Row} {es : Array (Int × Value)} {ep : Nat} {t : SetTable}
theorem rows_size (hr : es.toList = L2.rowsOf P w L) : es.size = L.length := by
  have h := congrArg List.length hr
  unfold L2.rowsOf at h
  rw [List.length_map] at h
  exact h
theorem rows_at (hr : es.toList = L2.rowsOf P w L) {i : Nat} {p : Row} (h : L[i]? = some p) : es[i]? = some (thash P w p.2, Value.ref p.1) := by
  rw [← Array.getElem?_toList, hr]
  unfold L2.rowsOf
  rw [List.getElem?_map, h]; rfl
theorem tab_fits {hs : List Int} (T : TabG t hs) {n : Nat} (hn : n = hs.length) (hl : n ≤ t.mask) : t.fits n = true := by
  have z : t.place.size = hs.length := T.sz
  unfold SetTable.fits SetTable.fill
  rw [T.dm, Bool.and_eq_true, beq_iff_eq, decide_eq_true_eq]
  show t.place.size = n ∧ t.place.size + 0 ≤ t.mask
  omega
theorem SetG.size (R : SetG P w s.heap a L es ep t) : es.size = L.length := rows_size R.rows
theorem SetG.fits (R : SetG P w s.heap a L es ep t) : t.fits es.size = true := by
  have := R.room
  exact tab_fits R.tab (by rw [R.size, List.length_map]) (by rw [R.size]; omega)
theorem SetG.gw (R : SetG P w s.heap a L es ep t) : ¬ t.gaveWay = true := by
  unfold SetTable.gaveWay
  rw [R.tab.mok.msk.odd]
  decide
/-- how far the way has gone without an end: from the c-th step on the search goes on to its end -/
theorem seek (R : SetG P w s.heap a L es ep t) {x : Addr} {k : List Int} (hx : IsT P w s.heap k x) (hu : A.units < cLine) {K : Nat} (lim : K < 10 * SetTable.turns t.mask)
    (free : way t.mask (thash P w k) K ∉ t.place.toList) (taken : ∀ c, c < K → way t.mask (thash P w k) c ∈ t.place.toList) {Q : SetFound → Shared → Prop}
    (yes : k ∈ L.map (·.2) → Q (.there none) s) (no : k ∉ L.map (·.2) → Q (.free (way t.mask (thash P w k) K) false) s) :
    ∀ (f c : Nat) (stand : Option SetTable.Probe), stand.getD (t.probeStart (thash P w k)) = nth t.mask (runAt t.mask (SetTable.bits (thash P w k) % (t.mask + 1)) (SetTable.bits (thash P w k))) c → c ≤ K → K < f + c →
      (∀ (i : Nat) p, L[i]? = some p → p.2 = k → ∃ d, c ≤ d ∧ d < K ∧ t.place.toList[i]? = some (way t.mask (thash P w k) d)) →
      wpAny (model P w) A (setSearchFrom a (.ref x) (thash P w k) true f stand) Q E s := by
  intro f
  induction f with
  | zero => intro c stand _ h1 h2; omega
  | succ f ih =>
    intro c stand at_ hc hf ahead
    obtain ⟨o, ho, hex, hd⟩ := R.ob
    generalize hst : nth t.mask (runAt t.mask (SetTable.bits (thash P w k) % (t.mask + 1)) (SetTable.bits (thash P w k))) c = pc at at_
    have step : ∀ q, (nth t.mask pc q).j = way t.mask (thash P w k) (c + q) := fun q => by rw [← hst, ← nth_add]
    have step1 : ∀ q, nth t.mask pc q = nth t.mask (runAt t.mask (SetTable.bits (thash P w k) % (t.mask + 1)) (SetTable.bits (thash P w k))) (c + q) := fun q => by rw [← hst, ← nth_add]
    have noDummy : ∀ (n : Nat) (p : SetTable.Probe), p.dummy = none → (nth t.mask p n).dummy = none := by
      intro n
      induction n with
      | zero => exact fun p h => h
      | succ n ih =>
        intro p h
        exact ih (adv t.mask p) (by unfold adv; split <;> exact h)
    have dm0 : pc.dummy = none := by rw [← hst]; exact noDummy c _ rfl
    have hashOf : ∀ (i : Nat) p, L[i]? = some p → (es[i]?.map (·.1)).getD 0 = thash P w p.2 := fun i p hp => by rw [rows_at R.rows hp]; rfl
    have kc : c + (K - c) = K := by omega
    have met := go_spec t R.tab.ris R.tab.dm (fun i => (es[i]?.map (·.1)).getD 0) (thash P w k) (10 * SetTable.turns t.mask) (K - c) pc dm0 (by omega)
      (fun q hq => by rw [step]; exact taken _ (by omega)) (by rw [step, kc]; exact free)
    rw [setSearchFrom_succ]
    refine wpAny_bind (wpAny_setState_of ho hd R.fits ?_)
    dsimp only
    refine wp_if_neg R.gw ?_
    try refine wpAny_bind (wpAny_pure ?_)
    rcases met with ⟨q, i, hq, hi, hh, before, pr⟩ | ⟨before, pr⟩
    · have pr' : t.probe (fun i => (es[i]?.map (·.1)).getD 0) (thash P w k) (stand.getD (t.probeStart (thash P w k))) = some (.candidate (way t.mask (thash P w k) (c + q)) i (nth t.mask pc (q + 1))) := by
        rw [at_, ← step]
        exact pr
      rw [pr']
      dsimp only
      rw [step] at hi
      have il : i < L.length := by
        have h1 := (List.getElem?_eq_some_iff.mp hi).1
        have h2 := R.tab.sz
        rw [List.length_map] at h2
        omega
      obtain ⟨p, hp⟩ : ∃ p, L[i]? = some p := ⟨_, List.getElem?_eq_getElem il⟩
      have pm : p ∈ L := List.mem_of_getElem? hp
      have sl : t.slot (way t.mask (thash P w k) (c + q)) = .live i := slot_live R.tab.ris hi
      have onward : wpAny (model P w) A (searchRest a (.ref x) (thash P w k) true f es t (way t.mask (thash P w k) (c + q)) i (nth t.mask pc (q + 1))) Q E s := by
        unfold searchRest
        rw [rows_at R.rows hp]
        dsimp only
        refine wpAny_bind (wpAny_holding (wpAny_eqBool_tuple hu (R.tup p pm) hx ?_))
        refine wpAny_bind (wpAny_setState_of ho hd R.fits ?_)
        dsimp only
        by_cases same : p.2 = k
        · refine wp_if_pos (by simp [same]) (wpAny_pure (yes (List.mem_map.mpr ⟨p, pm, same⟩)))
        · refine wp_if_neg (by simp [same]) ?_
          try refine wpAny_bind (wpAny_pure ?_)
          rw [sameMem]
          dsimp only
          simp only [if_true, sl, rows_at R.rows hp]
          refine wpAny_bind (wpAny_isSame_ref_self (wpAny_bind (wpAny_pure ?_)))
          simp only [if_true]
          refine wp_if_neg (by simp [same]) ?_
          refine ih (c + (q + 1)) _ (by rw [← step1]; rfl) (by omega) (by omega) fun i0 p0 h0 e0 => ?_
          obtain ⟨d, d1, d2, d3⟩ := ahead i0 p0 h0 e0
          refine ⟨d, ?_, d2, d3⟩
          rcases Nat.lt_trichotomy d (c + q) with z | z | z
          · exact absurd ((hashOf i0 p0 h0).trans (congrArg (thash P w) e0)) (before (d - c) i0 (by omega) (by rw [step, show c + (d - c) = d by omega]; exact d3))
          · rw [z] at d3
            have s0 := slot_live R.tab.ris d3
            rw [sl] at s0
            injection s0 with s0
            rw [← s0, hp] at h0
            exact absurd ((congrArg Prod.snd (Option.some.inj h0)).trans e0) same
          · omega
      by_cases hl : t.led = true
      · refine wp_if_neg (by simp [hl]) ?_
        try refine wpAny_bind (wpAny_pure ?_)
        exact onward
      · refine wp_if_pos (by simp [hl]) ?_
        refine wpAny_bind (seen_tup hx (fun y hy => ?_) ?_)
        · obtain ⟨e, he, rfl⟩ := List.mem_map.mp hy
          have he2 : e ∈ es.toList := by
            have z : e ∈ es ∧ e.1 = thash P w k := by simpa using he
            simpa using z.1
          rw [R.rows] at he2
          obtain ⟨p2, m2, rfl⟩ := List.mem_map.mp he2
          exact ⟨p2.2, p2.1, rfl, R.tup p2 m2⟩
        · refine wp_if_neg (by decide) ?_
          try refine wpAny_bind (wpAny_pure ?_)
          exact onward
    · have pr' : t.probe (fun i => (es[i]?.map (·.1)).getD 0) (thash P w k) (stand.getD (t.probeStart (thash P w k))) = some (.empty (way t.mask (thash P w k) K) none) := by
        have e2 : way t.mask (thash P w k) K = (nth t.mask pc (K - c)).j := by rw [step, kc]
        rw [at_, e2]
        exact pr
      rw [pr']
      dsimp only
      refine wpAny_pure (no fun hm => ?_)
      obtain ⟨p0, m0, e0⟩ := List.mem_map.mp hm
      obtain ⟨i0, l0, g0⟩ := List.getElem_of_mem m0
      have h0 : L[i0]? = some p0 := by rw [List.getElem?_eq_getElem l0, g0]
      obtain ⟨d, d1, d2, d3⟩ := ahead i0 p0 h0 e0
      exact before (d - c) i0 (by omega) (by rw [step, show c + (d - c) = d by omega]; exact d3) ((hashOf i0 p0 h0).trans (congrArg (thash P w) e0))
theorem seek_add (R : SetG P w s.heap a L es ep t) {x : Addr} {k : List Int} (hx : IsT P w s.heap k x) (hu : A.units < cLine) {Q : SetFound → Shared → Prop}
    (yes : k ∈ L.map (·.2) → Q (.there none) s)
    (no : ∀ K, k ∉ L.map (·.2) → way t.mask (thash P w k) K ∉ t.place.toList → (∀ c, c < K → way t.mask (thash P w k) c ∈ t.place.toList) → Q (.free (way t.mask (thash P w k) K) false) s) :
    wpAny (model P w) A (setSearch a (.ref x) (thash P w k) true) Q E s := by
  have room := R.room
  have lm := R.tab.mok.msk.le
  obtain ⟨K, lim, free, taken⟩ := R.tab.first (by rw [List.length_map]; omega) (thash P w k)
  unfold setSearch
  refine seek R hx hu (by unfold SetTable.turns; omega) free taken yes (fun hn => no K hn free taken) 100000 0 none rfl (Nat.zero_le _) (by omega) fun i p hp e => ?_
  have hi : (L.map fun p => thash P w p.2)[i]? = some (thash P w k) := by rw [List.getElem?_map, hp, ← e]; rfl
  obtain ⟨d, d1, d2⟩ := R.tab.before free hi
  exact ⟨d, Nat.zero_le _, d1, d2⟩
/-- the table laid anew -/
theorem relay {o : Obj} (ho : s.heap.get? a = some o) (hex : o.ExactSet) (hd : o.data = .set es ep t) (hrows : es.toList = L2.rowsOf P w L) (T0 : TabG t (L.map fun p => thash P w p.2)) (fl : L.length ≤ t.mask)
    (nd : (L.map (·.2)).Nodup) (tup : ∀ p ∈ L, IsT P w s.heap p.2 p.1) (pl : t.plain = true) (ld : w.params.followText "set-order" = true ∨ t.led = true) (few : L.length < 1200) {wanted M : Nat}
    (hw : SetTable.sizeAbove wanted - 1 = M) (hM : Five M) (hw2 : SetTable.sizeAbove wanted ≤ 2048) (room : L.length * 5 < M * 3) {Q : Unit → Shared → Prop}
    (hQ : ∀ h' L' es' ep' t', Heap.SameBut a s.heap h' → SetG P w h' a L' es' ep' t' → L'.Perm L → Q () { s with heap := h' }) : wpAny (model P w) A (setRelay a wanted) Q E s := by
  have sz := rows_size hrows
  obtain ⟨t', order, e, perm, T, em, el, epl⟩ := laid (t := t) (hs := es.map (·.1)) (wanted := wanted) hw hM (by rw [Array.size_map, sz]; omega)
  rw [Array.size_map, sz] at perm
  obtain ⟨L2, r1, r2, r3⟩ := order_rows L es order hrows perm
  rw [← r3] at T
  have sz2 : (order.filterMap (es[·]?)).size = es.size := by rw [rows_size r1, r2.length_eq, sz]
  rw [setRelay_eq]
  refine wpAny_bind (wpAny_setState_of ho hd (tab_fits T0 (by rw [sz, List.length_map]) (by rw [sz]; exact fl)) ?_)
  dsimp only
  refine wp_if_neg (by rw [sizeLine_eq]; omega) ?_
  try refine wpAny_bind (wpAny_pure ?_)
  rw [e]
  dsimp only
  refine wpAny_bind ?_
  refine wp_if_neg (by rw [sz2]; simp) ?_
  try refine wpAny_bind (wpAny_pure ?_)
  refine wpAny_pure ?_
  dsimp only
  refine wpAny_storeSet_of ho hd ?_ (by rw [sz2, sz, sizeLine_eq]; omega)
  have sb : Heap.SameBut a s.heap (s.heap.update a (Obj.putSet (order.filterMap (es[·]?)) t')) := Heap.SameBut.update ..
  exact hQ _ L2 _ (ep + 1) t' sb ⟨⟨_, store_at ho hd, ⟨hex.1, hex.2.1, hex.2.2⟩, rfl⟩, r1, T, (r2.map (·.2)).nodup_iff.mpr nd, fun p hp => isT_same (tup p (r2.mem_iff.mp hp)) ho hd sb, by rw [epl]; exact pl, by rw [el]; exact ld, by rw [r2.length_eq, em]; exact room, by rw [r2.length_eq]; exact few⟩ r2
theorem size_of (n M : Nat) (h : (n = 5 ∧ M = 31) ∨ (n = 19 ∧ M = 127) ∨ (n = 77 ∧ M = 511) ∨ (n = 307 ∧ M = 2047)) : SetTable.sizeAbove (SetTable.grown n) = M + 1 := by
  rcases h with ⟨rfl, rfl⟩ | ⟨rfl, rfl⟩ | ⟨rfl, rfl⟩ | ⟨rfl, rfl⟩ <;> decide +kernel
/-- ADDING -/
theorem add (R : SetG P w s.heap a L es ep t) {x : Addr} {k : List Int} (hx : IsT P w s.heap k x) (hu : A.units < cLine) (hfew : L.length + 1 < 1200) {Q : Bool → Shared → Prop}
    (hQ : ∀ b h' L' es' ep' t', Heap.SameBut a s.heap h' → SetG P w h' a L' es' ep' t' → (k ∈ L.map (·.2) → L' = L) → (k ∉ L.map (·.2) → L'.Perm ((x, k) :: L)) → Q b { s with heap := h' }) :
    wpAny (model P w) A (setAddHashed a (.ref x) (thash P w k)) Q E s := by
  obtain ⟨o, ho, hex, hd⟩ := R.ob
  have sz := R.size
  have room := R.room
  unfold setAddHashed
  refine wpAny_holding ?_
  rw [show (100000 : Nat) = 99999 + 1 from rfl, setAddHashedIn_succ]
  refine wpAny_bind (wpAny_setState_of ho hd R.fits ?_)
  dsimp only
  refine wp_if_neg (by simp [byScan, Value.scannable]) ?_
  try refine wpAny_bind (wpAny_pure ?_)
  refine wpAny_bind (seek_add R hx hu (fun hm => ?_) fun K hm free taken => ?_)
  · dsimp only
    exact wpAny_pure (hQ false s.heap L es ep t (Heap.SameBut.refl a s.heap) R (fun _ => rfl) fun z => absurd hm z)
  · dsimp only
    refine wpAny_bind (wpAny_setState_of ho hd R.fits ?_)
    dsimp only
    cases hpt : t.put (way t.mask (thash P w k) K) with
    | mk t1 p =>
    obtain ⟨hp, T1, em, el, epl, efill⟩ := R.tab.put free taken hpt
    have pl1 : t1.plain = true := by rw [epl]; exact R.plain
    have ld1 : w.params.followText "set-order" = true ∨ t1.led = true := by rw [el]; exact R.led
    dsimp only
    first
      | (refine wpAny_bind ?_; refine wp_if_pos pl1 ?_; refine hashBy_tup hx ?_)
      | refine wp_if_pos pl1 (wpAny_bind (hashBy_tup hx ?_))
    simp only [if_true]
    have rows1 : (SetTable.insertAt es p (thash P w k, Value.ref x)).toList = L2.rowsOf P w (L.take p ++ (x, k) :: L.drop p) := by rw [SetTable.toList_insertAt, rows_put, R.rows]
    have pm : (L.take p ++ (x, k) :: L.drop p).Perm ((x, k) :: L) := put_perm L p (x, k)
    have hh : (L.take p ++ (x, k) :: L.drop p).map (fun p => thash P w p.2) = (L.map fun p => thash P w p.2).take p ++ thash P w k :: (L.map fun p => thash P w p.2).drop p := by
      rw [List.map_append, List.map_cons, List.map_take, List.map_drop]
    rw [← hh] at T1
    rw [List.length_map] at efill
    generalize SetTable.insertAt es p (thash P w k, Value.ref x) = es1 at rows1 ⊢
    generalize L.take p ++ (x, k) :: L.drop p = L1 at pm T1 rows1
    have len1 : L1.length = L.length + 1 := pm.length_eq
    have sz1 : es1.size = L.length + 1 := by rw [rows_size rows1, len1]
    have nd1 : (L1.map (·.2)).Nodup := (pm.map (·.2)).nodup_iff.mpr (List.nodup_cons.mpr ⟨hm, R.nd⟩)
    refine wpAny_bind (wpAny_storeSet_of ho hd ?_ (by rw [sz1, sizeLine_eq]; omega))
    have sb : Heap.SameBut a s.heap (s.heap.update a (Obj.putSet es1 t1)) := Heap.SameBut.update ..
    have ho1 := store_at (es' := es1) (t' := t1) ho hd
    generalize s.heap.update a (Obj.putSet es1 t1) = h1 at sb ho1 ⊢
    have tup1 : ∀ p ∈ L1, IsT P w h1 p.2 p.1 := fun p hp => by
      rcases List.mem_cons.mp (pm.mem_iff.mp hp) with e | hp
      · rw [e]; exact isT_same hx ho hd sb
      · exact isT_same (R.tup p hp) ho hd sb
    by_cases hf : t1.tooFull = true
    · first
        | (refine wpAny_bind ?_; refine wp_if_pos (by simp [hf]) ?_)
        | (refine wp_if_pos (by simp [hf]) ?_; refine wpAny_bind ?_)
      have full : (L.length + 1) * 5 ≥ t.mask * 3 := by
        have h := hf
        unfold SetTable.tooFull at h
        rw [decide_eq_true_eq, efill, em] at h
        exact h
      rw [sz]
      obtain ⟨M, hc, hM5, big⟩ : ∃ M, ((L.length + 1 = 5 ∧ M = 31) ∨ (L.length + 1 = 19 ∧ M = 127) ∨ (L.length + 1 = 77 ∧ M = 511) ∨ (L.length + 1 = 307 ∧ M = 2047)) ∧ Five M ∧ (L.length + 1) * 5 < M * 3 := by
        rcases R.tab.mok with e | e | e | e | e
        · exact ⟨31, by omega, .inr (.inl rfl), by omega⟩
        · exact ⟨127, by omega, .inr (.inr (.inl rfl)), by omega⟩
        · exact ⟨511, by omega, .inr (.inr (.inr (.inl rfl))), by omega⟩
        · exact ⟨2047, by omega, .inr (.inr (.inr (.inr rfl))), by omega⟩
        · omega
      have sA := size_of _ _ hc
      have lm := hM5.msk.le
      refine relay (s := { s with heap := h1 }) ho1 ⟨hex.1, hex.2.1, hex.2.2⟩ rfl rows1 T1 (by rw [len1, em]; omega) nd1 tup1 pl1 ld1 (by rw [len1]; exact hfew) (by rw [sA]; rfl) hM5 (by rw [sA]; omega) (by rw [len1]; exact big) ?_
      intro h2 L2 es2 ep2 t2 sb2 R2 pm2
      exact wpAny_pure (hQ true h2 L2 es2 ep2 t2 (sb.trans sb2) R2 (fun z => absurd z hm) fun _ => pm2.trans pm)
    · first
        | refine wp_if_neg (by simp [hf]) ?_
        | (refine wpAny_bind ?_; refine wp_if_neg (by simp [hf]) ?_; refine wpAny_pure ?_)
      refine wpAny_pure (hQ true h1 L1 es1 (ep + 1) t1 sb ⟨⟨_, ho1, ⟨hex.1, hex.2.1, hex.2.2⟩, rfl⟩, rows1, T1, nd1, tup1, pl1, ld1, ?_, by rw [len1]; exact hfew⟩ (fun z => absurd z hm) fun _ => pm)
      have h := hf
      unfold SetTable.tooFull at h
      rw [decide_eq_true_eq, efill] at h
      rw [len1]
      omega
end
end DT

/-! DL: sorted({e for x in xs}), e tuples of whole numbers, at most 1100 different ones. -/
namespace DL
open PySem PySem.Spec PyProof.Rows L2 PySem.W PySem.SeqAt PySem.Calls
/-- the set at a, without the tuples themselves -/
structure SetG0 (P : Program) (w : World) (h : Heap) (a : Addr) (L : List (Addr × List Int)) : Prop where
  ex : ∃ (es : Array (Int × Value)) (ep : Nat) (t : SetTable), (∃ o, h.get? a = some o ∧ o.ExactSet ∧ o.data = .set es ep t) ∧ es.toList = L2.rowsOf P w L ∧ DT.TabG t (L.map fun p => thash P w p.2) ∧ (L.map (·.2)).Nodup ∧ t.plain = true ∧
    (w.params.followText "set-order" = true ∨ t.led = true) ∧ L.length * 5 < t.mask * 3 ∧ L.length < 1200
def SetGO (P : Program) (w : World) (a : Addr) (L : List (Addr × List Int)) : HO := .ext fun h => SetG0 P w h a L
theorem setG_t0 {P : Program} {w : World} {h : Heap} {a : Addr} {L : List (Addr × List Int)} {es : Array (Int × Value)} {ep : Nat} {t : SetTable} (R : DT.SetG P w h a L es ep t) : SetG0 P w h a L :=
  ⟨es, ep, t, R.ob, R.rows, R.tab, R.nd, R.plain, R.led, R.room, R.few⟩
theorem SetG0.full {P : Program} {w : World} {h : Heap} {a : Addr} {L : List (Addr × List Int)} (R : SetG0 P w h a L) (ht : ∀ p ∈ L, IsT P w h p.2 p.1) : ∃ es ep t, DT.SetG P w h a L es ep t := by
  obtain ⟨es, ep, t, h1, h2, h3, h4, h5, h6, h7, h8⟩ := R.ex
  exact ⟨es, ep, t, h1, h2, h3, h4, ht, h5, h6, h7, h8⟩
theorem setGO_new {P : Program} {w : World} {H : Hp} {h : Heap} {a : Addr} {L : List (Addr × List Int)} (R : SetG0 P w h a L) : ObjOk P w H h a (SetGO P w a L) := by
  have ⟨es, ep, t, ⟨o, ho, r⟩, q⟩ := R.ex
  refine ⟨R, ⟨o, ho⟩, fun h1 h2 p k => ?_⟩
  have ⟨es', ep', t', ⟨o', ho', r'⟩, q'⟩ := SetG0.ex p
  exact ⟨es', ep', t', ⟨o', k o' ho', r'⟩, q'⟩
theorem setG_fresh {P : Program} {w : World} {h : Heap} {a : Addr} (ho : h.get? a = some (emS w)) : SetG0 P w h a [] :=
  ⟨#[], 0, .fresh 0 0 (!w.params.followText "set-order"), ⟨_, ho, ⟨rfl, rfl, rfl⟩, rfl⟩, rfl, ⟨List.Pairwise.nil, rfl, rfl, .inl rfl, fun x hx => (by cases hx), fun q hq => (by cases hq)⟩, List.nodup_nil, rfl, (by
    show _ ∨ (!w.params.followText "set-order") = true
    cases w.params.followText "set-order"
    · exact .inr rfl
    · exact .inl rfl), (by show 0 * 5 < 7 * 3; decide), (by show 0 < 1200; decide)⟩
section
variable {P : Program} {w : World} {A : Around} {E : Value → Shared → Prop} {s : Shared}
/-- sorted of a set of tuples of any lengths -/
theorem sorted_setG {a : Addr} {L : List (Addr × List Int)} {es : Array (Int × Value)} {ep : Nat} {t : SetTable} {Q : Value → Shared → Prop} (R : DT.SetG P w s.heap a L es ep t) (hh : A.handled = none) (hu : A.units + 8 < cLine)
    (hQ : ∀ s' p (out : Array Value) (c : Nat) (L' : List (Addr × List Int)), (∀ b o, s.heap.get? b = some o → s'.heap.get? b = some o) → s'.gens = s.gens → s'.os = s.os → s.heap.objs.size ≤ p →
      s'.heap.get? p = some (seqObj "list" out c) → out.toList = L'.map (fun q => Value.ref q.1) → L'.Perm L → L'.Pairwise (fun q r => dataLe false encT q r = true) → Q (.ref p) s') :
    wpAny (model P w) A (call (.builtin "sorted") [.ref a]) Q E s := by
  obtain ⟨o, ho, hex, hd⟩ := R.ob
  have few := R.few
  have hsize := R.size
  refine Calls.call_function_entry kind_sorted plain_sorted entry_sorted (args_sorted1 _) ?_
  unfold Builtin.«sorted»
  refine wpAny_bind (m := checkCount "sorted" 1 1 _) (wpAny_pure ?_)
  refine wpAny_bind (collect_set (A := A.in1) hh ⟨o, ho, hex.1, hd⟩ R.fits (by unfold scanBound; omega) R.tab.ris R.led fun s1 vs k1 hz g1 o1 pm => ?_)
  have rowsV : es.toList.map (·.2) = L.map fun q => Value.ref q.1 := by
    rw [R.rows]
    unfold L2.rowsOf
    rw [List.map_map] <;> rfl
  rw [rowsV] at pm
  obtain ⟨L1, pL, e1⟩ := perm_pull pm L rfl
  have hvl : vs.length < 1200 := by rw [pm.length_eq, List.length_map]; exact few
  refine wpAny_bind (wpAny_newList ?_ (by rw [sizeLine_eq]; omega))
  have at1 : (s1.heap.push (seqObj "list" vs.toArray 0)).get? s1.heap.objs.size = some (seqObj "list" vs.toArray 0) := Heap.get?_push_size _ rfl
  have olds : ∀ b u, s.heap.get? b = some u → (sortingHeap (s1.heap.push (seqObj "list" vs.toArray 0)) s1.heap.objs.size vs).get? b = some u := fun b u e =>
    sortingHeap_old (Nat.ne_of_lt (Heap.lt_size (k1 b u e))) (Heap.get?_push_of_some _ (k1 b u e))
  have er : EachIs (fun v q => ∃ as, Reads (sortingHeap (s1.heap.push (seqObj "list" vs.toArray 0)) s1.heap.objs.size vs) v (encT q) as) vs L1 := by
    have q := each_refs (S := fun v q => ∃ as, Reads (sortingHeap (s1.heap.push (seqObj "list" vs.toArray 0)) s1.heap.objs.size vs) v (encT q) as) L1 fun q hq => reads_isT (P := P) (w := w) (isT_keep (R.tup q (pL.mem_iff.mp hq)) olds)
    rw [← e1] at q
    exact q
  have eq1 : EachIs (fun v (q : Addr × List Int) => v = Value.ref q.1) vs L1 := by
    have q := each_refs (S := fun v (q : Addr × List Int) => v = Value.ref q.1) L1 fun q _ => rfl
    rw [← e1] at q
    exact q
  have depth : ∀ q ∈ L1, (encT q).depth ≤ 1 := fun q _ => by
    show (PyData.tuple (q.2.map .int)).depth ≤ 1
    rw [PyData.depth, depth_ints]
    first | exact Nat.le_refl _ | omega
  refine wpAny_bind (wpAny_holding (wpAny_call_entry slot_list_sort ⟨_, at1, rfl⟩ entry_list_sort (list_sort_vals (s := { s1 with heap := s1.heap.push (seqObj "list" vs.toArray 0) }) at1
    (sorts_alike (s := { s1 with heap := sortingHeap (s1.heap.push (seqObj "list" vs.toArray 0)) s1.heap.objs.size vs }) (each_map (R := fun v d => ∃ as, Reads (sortingHeap (s1.heap.push (seqObj "list" vs.toArray 0)) s1.heap.objs.size vs) v d as) encT er) alike_tups
      (fun d hm => by obtain ⟨q, _, rfl⟩ := List.mem_map.mp hm; exact fun z => by cases z) (bound_map fun q hq => ?_)) (by rw [sizeLine_eq]; omega) ⟨_, rfl, ?_⟩) (args_list_sort _)))
  · have := depth q hq
    show A.units + 1 + 1 + (encT q).depth < cLine
    omega
  · have so := sortVals_data (enc := encT) false eq1 er alike_tups
    obtain ⟨c, hc⟩ := sortedHeap_at (vs := vs) (out := (sortVals (dataKind (sortingHeap (s1.heap.push (seqObj "list" vs.toArray 0)) s1.heap.objs.size vs) (L1.map encT)) false vs vs).toArray) at1
    have outs : ∀ {us : List Value} {l : List (Addr × List Int)}, EachIs (fun v (q : Addr × List Int) => v = Value.ref q.1) us l → us = l.map fun q => Value.ref q.1 := by
      intro us l h
      induction h with
      | nil => rfl
      | cons h _ ih => rw [List.map_cons, h, ih]
    have tot := sortLe_total (listOrd itemOrd) false fun q : Addr × List Int => keyToks (encT q)
    refine wpAny_pure ⟨_, rfl, hQ _ s1.heap.objs.size _ c (L1.mergeSort (dataLe false encT)) (fun b u e => ?_) g1 o1 hz hc (outs so) ((List.mergeSort_perm _ _).trans pL)
      (List.pairwise_mergeSort tot.trans (fun a b => by
        rcases tot.total a b with z | z
        · show (sortLe _ _ _ a b || _) = true
          rw [z]; rfl
        · show (_ || sortLe _ _ _ b a) = true
          rw [z, Bool.or_true]) L1)⟩
    have q := k1 b u e
    have lt := Heap.lt_size q
    show (sortedHeap (s1.heap.push (seqObj "list" vs.toArray 0)) s1.heap.objs.size vs _).get? b = some u
    rw [sortedHeap_old (Nat.ne_of_lt lt) (by rw [size_push']; exact Nat.lt_succ_of_lt lt)]
    exact Heap.get?_push_of_some _ q
end
section
variable {X : Cx}
/-- set.add of a tuple of whole numbers -/
theorem addG_ok {pins : List (Addr × Obj)} {σ : L2.St} {H : Hp} {s : Shared} {E : Value → Shared → Prop} {T x : Addr} {L : List (Addr × List Int)} {k : List Int} {Q : Value → Shared → Prop} (I : Inv X pins σ H s) (hT : H T = some (SetGO X.prog X.w T L))
    (hL : ∀ p ∈ L, SqT X.K H p.1 (p.2.map V.int)) (hx : SqT X.K H x (k.map V.int)) (few : L.length + 1 < 1200) (hu : X.A.units + 64 < cLine)
    (h : ∀ s' L', (k ∈ L.map (·.2) → L' = L) → (k ∉ L.map (·.2) → L'.Perm ((x, k) :: L)) → Inv X pins σ (upd H T (SetGO X.prog X.w T L')) s' → Q .none s') : wpAny (model X.prog X.w) X.A (call (.builtin "set.add") [.ref T, .ref x]) Q E s := by
  have R0 : SetG0 X.prog X.w s.heap T L := (I.hok T _ hT).1
  obtain ⟨es, ep, t, R⟩ := R0.full fun p hp => I.isT (hL p hp)
  have ix := I.isT hx
  obtain ⟨o, ho, hex, hd⟩ := R.ob
  refine wpAny_call_entry F.slot_set_add ⟨o, ho, hex.1⟩ F.entry_set_add ?_ (F.args_set_add_2 _ _)
  unfold Builtin.«set.add» Builtin.Frozenset.oneOther
  simp only [List.isEmpty_nil, bind_assoc]
  unfold Builtin.Frozenset.addrOf setAdd
  refine wpAny_bind (wpAny_pure ?_)
  try dsimp only
  refine wpAny_bind (wpAny_pure ?_)
  try dsimp only
  refine wpAny_bind ?_
  refine wpAny_holding ?_
  refine wpAny_bind (wpAny_pyHash_tuple (knd := intKind X.prog X.w) (by simp only [Around.in1_units]; omega) ix ?_)
  refine DT.add (s := { s with toks := s.toks + (k.length + 1) }) R ix (by simp only [Around.in1_units]; omega) few fun b h' L' es' ep' t' sb R' c1 c2 => ?_
  show wpAny _ _ (ret Value.none) _ _ _
  refine wpAny_pure ⟨_, rfl, ?_⟩
  have he : ∃ u, h'.get? T = some u := by
    have ⟨o, ho, _⟩ := R'.ob
    exact ⟨o, ho⟩
  exact h _ L' c1 c2 (I.write (e := T) (t' := s.toks + (k.length + 1)) (by rw [hT]; trivial) (.inl rfl) (fun b u hb hu => (sb.2 b hb).trans hu) he (setGO_new (setG_t0 R')))

/-- {elt for target in iter if ..}, elt a tuple of whole numbers: T the new set -/
def tScG (K : PySem.W.Frag) (P : Program) (w : World) (wi : TI) (g : TG) (tt : TT) (te : TE) (vs : List Nat) : TE := fun σ H Q => wi σ H fun J H1 => ∀ T, H1 T = none → ∃ W : Nat → Nat → Hp → Prop, (∃ m, W 0 m (upd H1 T (SetGO P w T []))) ∧ ∀ i m H, W i m H →
  (J.stop i H ∧ Q (.ref T) H) ∨ (J.go i H ∧ ∃ Nx : Hp → Prop, (∀ H', Nx H' → ∃ m', m' < m ∧ W (i + 1) m' H') ∧ ∀ x H', J.yld i H x H' → g x (wipe σ vs) H' fun σ2 H2 => wipe σ2 vs = wipe σ vs ∧ tt σ2 H2 fun b H3 =>
    if b = true then te σ2 H3 fun y H4 => ∃ (a : Addr) (k : List Int) (L : List (Addr × List Int)), y = .ref a ∧ H4 T = some (SetGO P w T L) ∧ (∀ p ∈ L, SqT K H4 p.1 (p.2.map V.int)) ∧ SqT K H4 a (k.map V.int) ∧ L.length + 1 < 1200 ∧
      ∀ L', (k ∈ L.map (·.2) → L' = L) → (k ∉ L.map (·.2) → L'.Perm ((a, k) :: L)) → Nx (upd H4 T (SetGO P w T L')) else Nx H3)
theorem scG_core {pins : List (Addr × Obj)} {s : Shared} {σ : L2.St} {H : Hp} {Q : VK} {elt tg iter : Expr} {ifs : List Expr} {scope : Scope} {own : List (PySem.Str × Nat)} {pos pos' : Pos} {wi : TI} {g : TG} {tt : TT} {te : TE} {use : Option (Value → Sem Unit)} {Qf : Value → Shared → Prop}
    (hu : X.A.units + 64 < cLine) (hc : X.calm = true) (hN : X.N.Nodup) (I : Inv X pins σ H s) (hi : PI X tg iter wi) (ok : BlkOk X.N X.env.scope scope own)
    (hg : ∀ (s : Shared) (H : Hp) (C : Addr) (cl : List (PySem.Str × Addr)) (fp : List Addr), PG (X.blk s H scope (compEnvC scope cl C X.env) fp) tg g) (ht : ∀ (s : Shared) (H : Hp) (C : Addr) (cl : List (PySem.Str × Addr)) (fp : List Addr), PTs (X.blk s H scope (compEnvC scope cl C X.env) fp) ifs tt)
    (he : ∀ (s : Shared) (H : Hp) (C : Addr) (cl : List (PySem.Str × Addr)) (fp : List Addr), PE (X.blk s H scope (compEnvC scope cl C X.env) fp) elt te) (hs : ∀ x, foldedSetIterable iter X.env x = pure x)
    (h : tScG X.K X.prog X.w wi g tt te (own.map (·.2)) σ H Q)
    (hRR : ∀ T C s' m H', Inv X pins σ H' s' → Q (.ref T) H' → s'.heap.Ns C m → FpOk X pins H' C → compPost (model X.prog X.w) X.A X.xe use Qf (.ref T) C (.ok .next) s') :
    wpAny (model X.prog X.w) X.A (comprehension (.SetComp elt [⟨tg, iter, ifs, 0⟩] scope pos) scope X.env pos' (newSet (.type "set")) false (eval iter X.env) use) Qf X.xe s := by
  have free : ∀ y ∈ scope.names, y.2 = .free → ∃ c, X.env.cells.lookup y.1 = some c := fun y hy e => by
    rcases ok.free y hy e with k | k
    · exact I.ok.has _ (.inl k)
    · exact I.ok.has _ (.inr k)
  refine wpAny_comprehension_free (use := use) rfl hs (closure_ok free) ok.kind (fun y hy e => by rw [ok.uniq y hy, e])
    (thn (hi.run pins s σ H _ I h) fun xv s1 hx => thn hx fun itv s2 h2 => ?_)
  obtain ⟨it, fp, tn, J, H2, e, I2, Tk, st2, f2, q⟩ := h2
  subst e
  refine PpSet.newSet_ok (newEnv_comp ?_)
  generalize hT : s2.heap.objs.size = T
  have free2 : H2 T = none := I2.hok.fresh (Nat.le_of_eq hT)
  obtain ⟨W, ⟨m0, w0⟩, turn⟩ := q T free2
  generalize hs3 : ({ s2 with heap := s2.heap.push (emS X.w) } : Shared) = s3
  have I3 : Inv X pins σ (upd H2 T (SetGO X.prog X.w T [])) s3 := by
    rw [← hs3]
    refine I2.laid (t' := s2.toks) (fun b o e => Heap.get?_push_of_some _ e) (Nat.le_of_eq hT) ?_
    rw [← hT]
    exact setGO_new (setG_fresh (P := X.prog) (w := X.w) (Heap.get?_push_size _ rfl))
  have heap3 : s3.heap = s2.heap.push (emS X.w) := by rw [← hs3]
  have old : ∀ b ∈ fp, b < s2.heap.objs.size := fun b hb => by
    obtain ⟨o, e, _⟩ := Tk.obj _ _ st2 b hb
    exact Heap.lt_size e
  have f3 : ∀ b ∈ fp, FpOk X pins (upd H2 T (SetGO X.prog X.w T [])) b ∧ b < s3.heap.objs.size := fun b hb => by
    have lt := old b hb
    refine ⟨⟨?_, (f2 b hb).2⟩, by rw [heap3, Heap.size_push]; exact Nat.lt_succ_of_lt lt⟩
    rw [upd_ne (by rw [← hT]; exact Nat.ne_of_lt lt)]
    exact (f2 b hb).1
  have st3 : tn 0 s3.heap := Tk.keep _ _ _ st2 fun b _ o e => by rw [heap3]; exact Heap.get?_push_of_some _ e
  generalize hH3 : upd H2 T (SetGO X.prog X.w T []) = H3 at I3 w0 f3
  have I4 := block_start I3 ok hN f3
  show codeAny _ _ (.compStart (.SetComp elt [⟨tg, iter, ifs, 0⟩] scope pos) 0 (.ref it) (.ref T) (compEnvC scope (cellsFrom (s3.heap.objs.size + 1) scope.names (cloFrom X.env.cells scope.names [])) s3.heap.objs.size X.env)) (compPost (model X.prog X.w) X.A X.xe use Qf (.ref T) s3.heap.objs.size) { s3 with heap := pushCells (s3.heap.push { cls := .type "dict", data := .dict #[] }) scope.names }
  generalize hcl : cellsFrom (s3.heap.objs.size + 1) scope.names (cloFrom X.env.cells scope.names []) = cl at I4 ⊢
  have pg := hg s3 H3 s3.heap.objs.size cl fp
  have pt := ht s3 H3 s3.heap.objs.size cl fp
  have pe := he s3 H3 s3.heap.objs.size cl fp
  have none3 : ∀ b ∈ fp, H3 b = none := fun b hb => (f3 b hb).1.1
  generalize hce : compEnvC scope cl s3.heap.objs.size X.env = ce at I4 pg pt pe ⊢
  have loc : ce.locals = s3.heap.objs.size := by subst hce; rfl
  generalize hs4 : ({ s3 with heap := pushCells (s3.heap.push { cls := .type "dict", data := .dict #[] }) scope.names } : Shared) = s4 at I4 ⊢
  have st4 : tn 0 s4.heap := Tk.keep _ _ _ st3 fun b _ o e => by rw [← hs4]; exact pushCells_keeps _ _ _ _ (Heap.get?_push_of_some _ e)
  have walkOk : ∀ {σ' : L2.St} {H' : Hp} {s' : Shared}, Inv (X.blk s3 H3 scope ce fp) [] σ' H' s' → (∀ b ∈ fp, H' b = none) → ∀ b ∈ fp, FpOk (X.blk s3 H3 scope ce fp) [] H' b := fun {σ' H' s'} I' hn b hb =>
    ⟨hn b hb, (I'.ok.exf b hb).1, I'.ok.exfs b hb, .inl hb, fun x c e => (I'.ok.exf b hb).2 x c e, fun p hp => absurd (show p ∈ ([] : List (Addr × Obj)) ++ [] from hp) (by simp)⟩
  have loop : codeAny (model X.prog X.w) X.A (.compLoop (.SetComp elt [⟨tg, iter, ifs, 0⟩] scope pos) 0 (.ref it) (.ref T) ce) (compPost (model X.prog X.w) X.A X.xe use Qf (.ref T) s3.heap.objs.size) s4 := by
    refine PpSet.compLoopS_any (fun n s' => ∃ i H', Inv (X.blk s3 H3 scope ce fp) [] (wipe σ (own.map (·.2))) H' s' ∧ tn i s'.heap ∧ (∀ b ∈ fp, H' b = none) ∧ W i n H') ?_ m0 ⟨0, H3, I4, st4, none3, w0⟩
    rintro n s5 ⟨i, H5, I5, st5, n5, w5⟩
    rcases turn i n H5 w5 with ⟨stop, qq⟩ | ⟨go, Nx, hNx, step⟩
    · have td := Tk.done (X.blk s3 H3 scope ce fp) rfl rfl rfl hc i [] s5 _ H5 (fun _ _ => False) I5 (walkOk I5 n5) st5 stop
      refine thnF td fun r s6 ⟨hr, I6⟩ => ?_
      subst hr
      have I7 : Inv X pins σ H5 s6 := I3.call' (ch := fp) I6.os I6.base I6.hok I6.bare fun b hb => ⟨(f3 b hb).1.2.2.2.1, (f3 b hb).1.2.1, (f3 b hb).1.2.2.2.2.1, (f3 b hb).1.2.2.2.2.2⟩
      have nC : H5 s3.heap.objs.size = none := by
        have z : H5 ce.locals = none := I6.free
        rw [loc] at z
        exact z
      obtain ⟨m, hn, _⟩ := I6.loc
      have hn : s6.heap.Ns ce.locals m := hn
      rw [loc] at hn
      exact hRR T s3.heap.objs.size s6 m H5 I7 qq hn (I3.fpOk (Nat.le_refl _) nC)
    · have ti := Tk.item (X.blk s3 H3 scope ce fp) rfl rfl rfl hc i [] s5 _ H5 (fun _ _ => False) I5 (walkOk I5 n5) st5 go
      refine thnF ti fun r s6 ⟨u, hr, h6⟩ => ?_
      subst hr
      refine thnF h6 fun _ s7 ⟨x, H7, I7, r7, y7, st7, n7⟩ => ?_
      have I7' := I7.pinned (walkOk I7 n7) (Tk.obj _ _ st7)
      refine thnF (pg.run _ s7 _ H7 x u _ I7' r7 (step x H7 y7)) fun _ s8 ⟨σ8, H8, I8, hw8, q8⟩ => ?_
      refine thnF (pt.run _ s8 σ8 H8 _ I8 q8) fun b s9 ⟨H9, I9, q9⟩ => ?_
      have fin : ∀ {s' : Shared} {H' : Hp}, Inv (X.blk s3 H3 scope ce fp) ([] ++ pinsAt fp s7.heap) σ8 H' s' → Nx H' → ∃ m, m < n ∧ ∃ i H', Inv (X.blk s3 H3 scope ce fp) [] (wipe σ (own.map (·.2))) H' s' ∧ tn i s'.heap ∧ (∀ b ∈ fp, H' b = none) ∧ W i m H' := fun {s' H'} I' nx => by
        obtain ⟨m', hm, w'⟩ := hNx H' nx
        have pinned : ∀ b ∈ fp, ∀ o, s7.heap.get? b = some o → s'.heap.get? b = some o ∧ H' b = none := fun b hb o e =>
          let z := I'.pin (b, o) (List.mem_append_right _ (List.mem_append_right _ (mem_pinsAt hb e)))
          ⟨z.1, z.2.1⟩
        have hl : (wipe σ (own.map (·.2))).length = σ8.length := by rw [← hw8, wipe_length]
        refine ⟨m', hm, i + 1, H', (I'.unpinned (pins := [])).weak hl (fun j v e => ?_), Tk.keep _ _ _ st7 fun b hb o e => (pinned b hb o e).1, fun b hb => ?_, w'⟩
        · rw [← hw8] at e
          exact (wipe_some e).1
        · obtain ⟨o, e, _⟩ := Tk.obj _ _ st7 b hb
          exact (pinned b hb o e).2
      cases b with
      | false =>
        simp only [Bool.false_eq_true, if_false] at q9 ⊢
        exact fin I9 q9
      | true =>
        simp only [if_true] at q9 ⊢
        refine thnF (pe.run _ s9 σ8 H9 _ I9 q9) fun z s10 ⟨yv, H10, I10, r10, a, kk, L, ey, hT10, hL10, ha10, few, nx⟩ => ?_
        subst ey
        cases (show z = Value.ref a from r10)
        exact addG_ok (X := X.blk s3 H3 scope ce fp) I10 hT10 hL10 ha10 few hu fun s11 L' c1 c2 I11 => fin I11 (nx L' c1 c2)
  exact PpSet.codeAny_compStart_set loop (Tk.self X.A 0 _ _ _ st4 loop)
theorem pe_scG {elt tg iter : Expr} {ifs : List Expr} {scope : Scope} {own : List (PySem.Str × Nat)} {pos : Pos} {wi : TI} {g : TG} {tt : TT} {te : TE} (hu : X.A.units + 64 < cLine) (hc : X.calm = true) (hN : X.N.Nodup) (hi : PI X tg iter wi) (ok : BlkOk X.N X.env.scope scope own)
    (hg : ∀ (s : Shared) (H : Hp) (C : Addr) (cl : List (PySem.Str × Addr)) (fp : List Addr), PG (X.blk s H scope (compEnvC scope cl C X.env) fp) tg g) (ht : ∀ (s : Shared) (H : Hp) (C : Addr) (cl : List (PySem.Str × Addr)) (fp : List Addr), PTs (X.blk s H scope (compEnvC scope cl C X.env) fp) ifs tt)
    (he : ∀ (s : Shared) (H : Hp) (C : Addr) (cl : List (PySem.Str × Addr)) (fp : List Addr), PE (X.blk s H scope (compEnvC scope cl C X.env) fp) elt te) (hs : ∀ x, foldedSetIterable iter X.env x = pure x := by intro _; rfl) :
    PE X (.SetComp elt [⟨tg, iter, ifs, 0⟩] scope pos) (tScG X.K X.prog X.w wi g tt te (own.map (·.2))) := by
  refine ⟨fun pins s σ H Q I h => ?_⟩
  rw [PpSet.eval_SetComp]
  refine scG_core hu hc hN I hi ok hg ht he hs h fun T C s' m H' I' q hn f => ⟨m, hn, fun h'' sb => ?_⟩
  obtain ⟨f0, f1, f2, f3, f4, f5⟩ := f
  exact ⟨.ref T, H', I'.turned (t' := s'.toks) (fun b o hb e => (sb.2 b hb).trans e) f0 f1 f3 f4 f5, rfl, q⟩
/-- sorted(set), tuples of any lengths -/
def rSortedG (K : PySem.W.Frag) (P : Program) (w : World) : List V → Hp → VK → Prop := fun vs H Q => ∃ (a : Addr) (L : List (Addr × List Int)), vs = [V.ref a] ∧ H a = some (SetGO P w a L) ∧ (∀ p ∈ L, SqT K H p.1 (p.2.map V.int)) ∧
  ∀ (L' : List (Addr × List Int)) (p : Addr), L'.Perm L → (L'.map (·.2)).Nodup → L'.length < 1200 → L'.Pairwise (fun q r => dataLe false encT q r = true) → H p = none → Q (.ref p) (upd H p (.lst (L'.map fun q => V.ref q.1)))
theorem cr_sortedG (hc : X.calm = true) (hu : X.A.units + 64 < cLine) : CallR X (.builtin "sorted") (rSortedG X.K X.prog X.w) := by
  intro pins s σ H vs us Q I r h
  obtain ⟨a, L, rfl, ha, hk, q⟩ := h
  have R0 : SetG0 X.prog X.w s.heap a L := (I.hok a _ ha).1
  obtain ⟨es, ep, t, R⟩ := R0.full fun p hp => I.isT (hk p hp)
  rw [Vals.ref1 r]
  refine sorted_setG R (I.ok.hd hc) (by omega) fun s' p out c L' k g o hp hg hout pm pw => ?_
  have few : L'.length < 1200 := by rw [pm.length_eq]; exact R.few
  have hlen : (L'.map fun q => V.ref q.1).length ≤ sizeLine := by rw [List.length_map, sizeLine_eq]; omega
  have fr : H p = none := I.hok.fresh hp
  have hv : Vals (L'.map fun q => V.ref q.1) out.toList := by rw [hout]; exact vals_of_refs L'
  have J : Inv X pins σ (upd H p (.lst (L'.map fun q => V.ref q.1))) { s with heap := s'.heap, gens := s'.gens, drawn := s'.drawn, toks := s'.toks } :=
    I.call (ch := []) (Un.laid k hp fr) (I.hok.laid k hp ⟨hlen, out.toList, c, hv, hg⟩) (by rw [g]; exact I.bare) (fun _ z => nomatch z)
  have e : s' = { s with heap := s'.heap, gens := s'.gens, drawn := s'.drawn, toks := s'.toks } := by
    cases s'
    cases s
    cases o
    rfl
  rw [e]
  exact ⟨.ref p, _, J, rfl, q L' p pm ((pm.map (·.2)).nodup_iff.mpr R.nd) few pw fr⟩
end

def dSortScG (wd : TID) (g : TGD) (tt : TTD) (te : TED) (vs : List Nat) : TED := fun ρ G Q => wd ρ G fun items stab G1 => ∃ U : List (List Int), U.length ≤ 1100 ∧ scD U stab g tt te (wipeD ρ vs) items G1 fun rs G2 =>
  ∀ ms : List (List Int), ms.Pairwise ltL → (∀ k, k ∈ ms ↔ k ∈ rs) → Q (.lst (ms.map tupI)) G2
section
variable {X : Cx} {a b c e o i tg iter elt : Expr} {pos apos cpos spos q : Pos} {x : Str} {p : Pos} {ifs : List Expr} {wd : TID} {g : TGD} {tt : TTD} {te : TED} {ts : List Nat} {scope : Scope} {own : List (Str × Nat)}
theorem d_sortScG (hu : X.A.units + 64 < cLine) (hc : X.calm = true) (hN : X.N.Nodup) (hgs : Gl X "sorted") (hms : X.mg "sorted" = none) (hi : DI X tg iter wd) (ok : BlkOk X.N X.env.scope scope own)
    (hg : ∃ g', (∀ (s : Shared) (H : Hp) (C : Addr) (cl : List (Str × Addr)) (fp : List Addr), PG (X.blk s H scope (compEnvC scope cl C X.env) fp) tg g') ∧ SndG X.K g' g ts) (hts : ∀ i ∈ ts, i ∈ own.map (·.2))
    (ht : ∀ (s : Shared) (H : Hp) (C : Addr) (cl : List (Str × Addr)) (fp : List Addr), DTs (X.blk s H scope (compEnvC scope cl C X.env) fp) ifs tt)
    (he : ∀ (s : Shared) (H : Hp) (C : Addr) (cl : List (Str × Addr)) (fp : List Addr), DE (X.blk s H scope (compEnvC scope cl C X.env) fp) elt te) (hs : ∀ x, foldedSetIterable iter X.env x = pure x := by intro _; rfl)
    (he2 : starEach [.SetComp elt [⟨tg, iter, ifs, 0⟩] scope q] X.env = (false, eval (.SetComp elt [⟨tg, iter, ifs, 0⟩] scope q) X.env) :: starEach [] X.env := by rfl) :
    DE X (.Call (.Name "sorted" p) [.SetComp elt [⟨tg, iter, ifs, 0⟩] scope q] [] pos) (dSortScG wd g tt te (own.map (fun p : Str × Nat => p.2))) := by
  obtain ⟨g', pg, sg⟩ := hg
  refine pe_imp (pe_callB (cr_sortedG hc hu) hgs hms (by decide +kernel) (pa_cons (pe_scG (tt := concT X.K tt) (te := conc X.K te) hu hc hN hi ok pg (fun s H C cl fp => (ht s H C cl fp).run) (fun s H C cl fp => he s H C cl fp) hs) pa_nil he2) (by decide) (by decide) he2 rfl) fun σ H Qv z => ?_
  obtain ⟨ρ, F, G, Q, okk, sl, z, k⟩ := z
  refine ⟨ρ, F, G, _, okk, sl, z, fun J items stab F1 G1 H1 x1 st1 src q1 => ?_⟩
  obtain ⟨U, hU, q1⟩ := q1
  intro T hT
  obtain ⟨f1, g1⟩ := x1.ok.none_of hT
  generalize hR : (fun (rs : List (List Int)) (G2 : GM) => ∀ ms : List (List Int), ms.Pairwise ltL → (∀ k, k ∈ ms ↔ k ∈ rs) → Q (.lst (ms.map tupI)) G2) = R at q1
  refine ⟨fun i m H' => ∃ F' G' L rs, Ext X.K F1 G1 H1 F' G' H' ∧ F' T = none ∧ G' T = none ∧ H' T = some (SetGO X.prog X.w T L) ∧ (∀ q ∈ L, SqT X.K F' q.1 (q.2.map V.int) ∧ q.2.length ≤ sizeLine) ∧ (L.map (·.2)).Nodup ∧ (∀ k, k ∈ L.map (·.2) ↔ k ∈ rs) ∧ (∀ k ∈ rs, k ∈ U) ∧ stab G' ∧
      m = items.length - i ∧ i ≤ items.length ∧ scD U stab g tt te (wipeD ρ (own.map (fun p : Str × Nat => p.2))) (items.drop i) G' (fun ys G2 => R (rs ++ ys) G2),
    ⟨items.length, F1, G1, [], [], (Ext.refl x1.ok).poke hT f1 g1 _, f1, g1, upd_same, fun _ h => absurd h (by simp), List.nodup_nil, fun k => by simp, fun _ h => absurd h (by simp), st1, by simp, Nat.zero_le _, by simpa using q1⟩, ?_⟩
  rintro i m H' ⟨F', G', L, rs, x2, f2, g2, h2, hL, nd, hm, hrU, st2, rfl, hi', q2⟩
  have lenU : L.length ≤ 1100 := by
    have := nodup_le (L.map (·.2)) U nd fun k hk => hrU k ((hm k).mp hk)
    rw [List.length_map] at this
    omega
  by_cases hlt : i < items.length
  · right
    rw [List.drop_eq_getElem_cons hlt] at q2
    refine ⟨src.go i F' G' H' x2 st2 hlt, fun H3 => ∃ F' G' L rs, Ext X.K F1 G1 H1 F' G' H3 ∧ F' T = none ∧ G' T = none ∧ H3 T = some (SetGO X.prog X.w T L) ∧ (∀ q ∈ L, SqT X.K F' q.1 (q.2.map V.int) ∧ q.2.length ≤ sizeLine) ∧ (L.map (·.2)).Nodup ∧ (∀ k, k ∈ L.map (·.2) ↔ k ∈ rs) ∧ (∀ k ∈ rs, k ∈ U) ∧ stab G' ∧
      scD U stab g tt te (wipeD ρ (own.map (fun p : Str × Nat => p.2))) (items.drop (i + 1)) G' (fun ys G2 => R (rs ++ ys) G2), fun H3 h3 => ?_, fun v H'' y => ?_⟩
    · obtain ⟨F3, G3, L3, r3, a1, a2, a3, a4, a5, a6, a7, a8, a9, a10⟩ := h3
      exact ⟨items.length - (i + 1), by omega, F3, G3, L3, r3, a1, a2, a3, a4, a5, a6, a7, a8, a9, rfl, hlt, a10⟩
    · obtain ⟨F'', x3, r3⟩ := src.yld i F' G' H' v H'' x2 st2 y items[i] (List.getElem?_eq_getElem hlt)
      obtain ⟨f3, g3, h3⟩ := x3.stays f2 g2 h2
      have x23 := x2.trans x3
      refine sg F'' G' H'' (L2.wipe σ (own.map (fun p : Str × Nat => p.2))) (wipeD ρ (own.map (fun p : Str × Nat => p.2))) v _ _ _ x3.ok (slots_wipes (sl.mono (fun a u q => x23.mono a u (x1.mono a u q))) _) r3 q2 fun σ4 ρ4 s4 o4 q4 => ?_
      refine ⟨by rw [wipe_off o4 hts, wipe_wipe], ?_⟩
      refine ⟨ρ4, F'', G', _, x3.ok, s4, q4, fun b F5 G5 H5 x5 q5 => ?_⟩
      obtain ⟨f5, g5, h5⟩ := x5.stays f3 g3 h3
      have x25 := x23.trans x5
      have L5 : ∀ q ∈ L, SqT X.K F5 q.1 (q.2.map V.int) ∧ q.2.length ≤ sizeLine := fun q hq => ⟨sub_sqT (x3.trans x5).mono (hL q hq).1, (hL q hq).2⟩
      cases b with
      | true =>
        rw [if_pos rfl] at q5 ⊢
        refine ⟨ρ4, F5, G5, _, x5.ok, s4.mono x5.mono, q5, fun u d F6 G6 H6 x6 r6 q6 => ?_⟩
        obtain ⟨st6, kk, rfl, hkU, q6⟩ := q6
        obtain ⟨f6, g6, h6⟩ := x6.stays f5 g5 h5
        have x26 := x25.trans x6
        obtain ⟨ad, rfl, hs6, hz6⟩ := tup_sqz r6
        have L6 : ∀ q ∈ L, SqT X.K F6 q.1 (q.2.map V.int) ∧ q.2.length ≤ sizeLine := fun q hq => ⟨sub_sqT x6.mono (L5 q hq).1, (L5 q hq).2⟩
        refine ⟨ad, kk, L, rfl, h6, fun q hq => sub_sqT x6.ok.sub (L6 q hq).1, sub_sqT x6.ok.sub hs6, by omega, fun L' c1 c2 => ?_⟩
        refine ⟨F6, G6, L', rs ++ [kk], x26.poke hT f6 g6 _, f6, g6, upd_same, fun q hq => ?_, ?_, fun k => ?_, fun k hk => ?_, st6, ?_⟩
        · by_cases c : kk ∈ L.map (·.2)
          · rw [c1 c] at hq; exact L6 q hq
          · rcases List.mem_cons.mp ((c2 c).mem_iff.mp hq) with z | z
            · rw [z]; exact ⟨hs6, hz6⟩
            · exact L6 q z
        · by_cases c : kk ∈ L.map (·.2)
          · rw [c1 c]; exact nd
          · exact ((c2 c).map (·.2)).nodup_iff.mpr (List.nodup_cons.mpr ⟨c, nd⟩)
        · rw [List.mem_append, List.mem_singleton]
          by_cases c : kk ∈ L.map (·.2)
          · rw [c1 c, hm k]
            exact ⟨.inl, fun z => z.elim id fun e => by rw [e]; exact (hm kk).mp c⟩
          · rw [((c2 c).map (·.2)).mem_iff]
            show k ∈ kk :: L.map (·.2) ↔ _
            rw [List.mem_cons, hm k]
            exact Or.comm
        · rw [List.mem_append, List.mem_singleton] at hk
          rcases hk with z | z
          · exact hrU k z
          · rw [z]; exact hkU
        · simpa [List.append_assoc] using q6
      | false =>
        rw [if_neg Bool.false_ne_true] at q5 ⊢
        exact ⟨F5, G5, L, rs, x25, f5, g5, h5, L5, nd, hm, hrU, q5.1, q5.2⟩
  · left
    have e : i = items.length := by omega
    subst e
    rw [List.drop_length] at q2
    have q2 : R rs G' := by simpa [scD] using q2
    refine ⟨src.stop _ F' G' H' x2 st2 (Nat.le_refl _), T, L, rfl, h2, fun q hq => sub_sqT x2.ok.sub (hL q hq).1, fun L' p3 pm nd3 few pw fr => ?_⟩
    have x4 := x2.ok.freeze fr (.lst (L'.map fun q => V.ref q.1))
    rw [← hR] at q2
    refine k _ _ _ _ _ ((x1.trans x2).trans x4) (.lst upd_same (by rw [List.length_map, sizeLine_eq]; omega) ((reps_rows fun q hq => hL q (pm.mem_iff.mp hq)).mono x4.mono)) (q2 (L'.map (·.2)) (pair_ltL pw nd3) fun k => ?_)
    rw [(pm.map (·.2)).mem_iff]
    exact hm k
end
end DL

/-! DL: enumerate over a tuple; f(k=v). -/
namespace DL
open PySem PySem.Spec PyProof.Rows L2 PySem.W PySem.SeqAt PySem.Calls
open AutoSeq1 (wpAny_loadPart')
theorem enumT_new (l : Addr) (items : Array Value) (n : Nat) (dct : Option Addr) (sl : Array (Option Value)) :
    Meets (Builtin.«enumerate.__new__» ⟨[.type "enumerate", .ref l], []⟩) (fun _ R s => s.heap.get? l = some { cls := .type "tuple", dict := dct, data := .seq items n, slots := sl } ∧
      R (.ok (.ret (.ref (s.heap.push { cls := .type "tuple_iterator", data := .fields #[.ref l, .int 0 0] }).objs.size)))
        { s with heap := (s.heap.push { cls := .type "tuple_iterator", data := .fields #[.ref l, .int 0 0] }).push { cls := .type "enumerate", data := .fields #[.none, .bool false, .ref s.heap.objs.size, rawInt 0, .none, .none] } }) :=
  .of_wp fun prog w A R s h => by
    obtain ⟨hp, g, d, tk, os⟩ := s; obtain ⟨hl, h⟩ := h
    have sub := sub_enumerate
    have isT : Heap.IsTuple (Shared.heap ⟨hp, g, d, tk, os⟩) l items := ⟨_, hl, rfl, n, rfl⟩
    wp_walk using wpAny_loadPart' hl
    refine wpAny_stack_any fun st => wpAny_pure ?_
    split
    · rename_i c _ _ _ _ _
      cases (c == Value.type "enumerate")
      · wp_walk using wpAny_loadPart' hl, wpAny_pyIter_tuple isT
        exact ⟨_, rfl, h⟩
      · wp_walk using wpAny_loadPart' hl, wpAny_pyIter_tuple isT
        exact ⟨_, rfl, h⟩
    · wp_walk using wpAny_loadPart' hl, wpAny_pyIter_tuple isT
      exact ⟨_, rfl, h⟩
section
variable {prog : Program} {w : World} {A : Around} {E : Value → Shared → Prop} {s : Shared}
theorem enumT_call {l : Addr} {items : Array Value} {Q : Value → Shared → Prop} (isT : s.heap.IsTuple l items)
    (h : ∀ h', IsEnum h' (s.heap.objs.size + 1) s.heap.objs.size 0 .none → h'.IsTupleIter s.heap.objs.size l 0 → (∀ b o, s.heap.get? b = some o → h'.get? b = some o) → Q (.ref (s.heap.objs.size + 1)) { s with heap := h' }) :
    wpAny (model prog w) A (call (.type "enumerate") [.ref l]) Q E s := by
  obtain ⟨⟨c, dct, dt, sl⟩, hl, hc, n, hd⟩ := isT
  replace hc : c = .type "tuple" := hc
  replace hd : dt = .seq items n := hd
  subst hc hd
  refine callType_new F.called_enumerate (by decide) (F.typeCall_enumerate_1 _) (F.newCall_enumerate_1 _) (fun obj => F.args_object_init_2 obj _) F.entry_enumerate_new (enumT_new l items n dct sl) ⟨hl, ?_⟩
  have z1 : (s.heap.push { cls := .type "tuple_iterator", data := .fields #[.ref l, .int 0 0] }).objs.size = s.heap.objs.size + 1 := Heap.size_push ..
  show _ ∧ _
  rw [z1]
  have he : IsEnum ((s.heap.push { cls := .type "tuple_iterator", data := .fields #[.ref l, .int 0 0] }).push
      { cls := .type "enumerate", data := .fields #[.none, .bool false, .ref s.heap.objs.size, rawInt 0, .none, .none] }) (s.heap.objs.size + 1) s.heap.objs.size 0 .none := by
    have q := Heap.get?_push_size (s.heap.push { cls := .type "tuple_iterator", data := .fields #[.ref l, .int 0 0] })
      (o := { cls := .type "enumerate", data := .fields #[.none, .bool false, .ref s.heap.objs.size, rawInt 0, .none, .none] }) rfl
    rw [z1] at q; exact q
  exact ⟨⟨_, he, rfl⟩, h _ he ⟨_, Heap.get?_push_of_some _ (Heap.get?_push_size _ rfl), rfl, rfl⟩ fun b o x => Heap.get?_push_of_some _ (Heap.get?_push_of_some _ x)⟩
theorem nextT_item {it l : Addr} {i : Nat} {items} {x : Value} {Q : Value → Shared → Prop} (hit : s.heap.IsTupleIter it l i) (hl : s.heap.IsTuple l items) (hx : items[i]? = some x)
    (hQ : ∀ h', h'.IsTupleIter it l (i + 1) → Heap.SameBut it s.heap h' → Q x { s with heap := h' }) : wpAny (model prog w) A (Builtin.SmallTypes.nextOf (.ref it)) Q E s := by
  obtain ⟨o, ho, hc, hd⟩ := id hit
  obtain ⟨ol, hol, _, nl, hdl⟩ := hl
  unfold Builtin.SmallTypes.nextOf
  refine wpAny_bind (wpAny_callSpecial?_slot (name := Str.ofString "__next__") hit.typeIs F.slot_tuple_iterator_next (wpAny_call_entry F.slot_tuple_iterator_next hit.typeIs F.entry_tuple_iterator_next ?_ (F.args_tuple_iterator_next_1 _)))
  show wpAny _ _ (field (.ref it) 0 >>= _) _ _ s
  refine wpAny_bind (wpAny_field ho hd (x := .ref l) rfl ?_)
  show wpAny _ _ (if (Value.ref l == Value.none) = true then _ else _) _ _ s
  rw [if_neg (show ¬ ((Value.ref l == Value.none) = true) from Bool.false_ne_true)]
  show wpAny _ _ (field (.ref it) 1 >>= _) _ _ s
  refine wpAny_bind (wpAny_field ho hd (x := .int i 0) rfl ?_)
  show wpAny _ _ (seqItems? (.ref l) >>= _) _ _ s
  refine wpAny_bind (wpAny_seqItems hol hdl ?_)
  simp only [Int.toNat_natCast, hx]
  refine wpAny_bind (wpAny_setField ho hd (by simp) (wpAny_pure ⟨x, rfl, wpAny_pure (hQ _ ?_ (Heap.SameBut.update ..))⟩))
  exact ⟨_, Heap.get?_update_self _ ho (Obj.isFreed_of_fields (Obj.data_mapFields hd _)), (Obj.cls_mapFields ..).trans hc, by rw [Obj.data_mapFields hd]; simp [rawInt]⟩
theorem nextT_end {it l : Addr} {i : Nat} {items} {Q : Value → Shared → Prop} (hh : A.handled = none) (hit : s.heap.IsTupleIter it l i) (hl : s.heap.IsTuple l items) (hx : items[i]? = none)
    (hE : ∀ h' e, Heap.ExtBut it s.heap h' → (∃ o, h'.get? e = some o ∧ o.cls = .type "StopIteration") → E (.ref e) { s with heap := h' }) : wpAny (model prog w) A (Builtin.SmallTypes.nextOf (.ref it)) Q E s := by
  obtain ⟨o, ho, hc, hd⟩ := id hit
  obtain ⟨ol, hol, _, nl, hdl⟩ := hl
  unfold Builtin.SmallTypes.nextOf
  refine wpAny_bind (wpAny_callSpecial?_slot (name := Str.ofString "__next__") hit.typeIs F.slot_tuple_iterator_next (wpAny_call_entry F.slot_tuple_iterator_next hit.typeIs F.entry_tuple_iterator_next ?_ (F.args_tuple_iterator_next_1 _)))
  show wpAny _ _ (field (.ref it) 0 >>= _) _ _ s
  refine wpAny_bind (wpAny_field ho hd (x := .ref l) rfl ?_)
  show wpAny _ _ (if (Value.ref l == Value.none) = true then _ else _) _ _ s
  rw [if_neg (show ¬ ((Value.ref l == Value.none) = true) from Bool.false_ne_true)]
  show wpAny _ _ (field (.ref it) 1 >>= _) _ _ s
  refine wpAny_bind (wpAny_field ho hd (x := .int i 0) rfl ?_)
  show wpAny _ _ (seqItems? (.ref l) >>= _) _ _ s
  refine wpAny_bind (wpAny_seqItems hol hdl ?_)
  simp only [Int.toNat_natCast, hx]
  refine wpAny_bind (wpAny_rule (wpAny_bind (wpAny_setField ho hd (by simp) ?_)))
  show wpAny _ _ (newExc (.type "StopIteration") [] >>= _) _ _ _
  refine wpAny_bind ?_
  simp only [newExc, newTuple]
  refine wpAny_bind (wpAny_newObj_type ?_ (by size_fits))
  refine wpAny_bind (m := firstArgMember _ _) (wpAny_of_eq (a := Value.none) (by first | rfl | (simp only [firstArgMember]; rfl)) ?_)
  refine wpAny_newObj_type ?_ (by size_fits)
  simp only [raiseNew]
  refine wpAny_bind (wpAny_handled ?_)
  first | rw [show A.in1.handled = none from hh] | rw [hh]
  refine wpAny_bind (wpAny_pure (wpAny_throw ?_))
  exact hE _ _ (((Heap.SameBut.update ..).extBut.push _).push _) ⟨_, Heap.get?_push_size _ rfl, rfl⟩
theorem itT_push {h : Heap} {a t i} (x : h.IsTupleIter a t i) (o : Obj) : (h.push o).IsTupleIter a t i := let ⟨o', ho, r⟩ := x; ⟨o', Heap.get?_push_of_some o ho, r⟩
theorem enumT_item {e it l : Addr} {i : Nat} {items : Array Value} {x old : Value} {Q : Value → Shared → Prop}
    (he : IsEnum s.heap e it i old) (hit : s.heap.IsTupleIter it l i) (hl : s.heap.IsTuple l items) (hx : items[i]? = some x) (hne : e ≠ it)
    (hQ : ∀ h', IsEnumOut h' e it ((i : Int) + 1) x s.heap.objs.size → h'.IsTupleIter it l (i + 1) →
      h'.get? s.heap.objs.size = some { cls := .type "tuple", data := .seq #[.int i s.toks, x] } → h'.objs.size = s.heap.objs.size + 1 →
      (∀ b o, b ≠ e → b ≠ it → s.heap.get? b = some o → h'.get? b = some o) → Q (.ref s.heap.objs.size) { s with heap := h', toks := s.toks + 1 }) :
    wpAny (model prog w) A (Builtin.«enumerate.__next__» ⟨[.ref e], []⟩) (fun fin s' => ∃ v, fin = .done (.ret v) ∧ Q v s') E s := by
  obtain ⟨hp, g, d, tk, os⟩ := s
  show wpAny _ _ (field (.ref e) 2 >>= _) _ _ _
  refine wpAny_bind (wpAny_field he rfl (x := .ref it) rfl ?_)
  refine wpAny_bind (nextT_item hit hl hx fun ha itA sA => ?_)
  replace sA : Heap.SameBut it hp ha := sA
  have eA : IsEnum ha e it i old := (sA.2 e hne).trans he
  show wpAny _ _ (field (.ref e) 3 >>= _) _ _ ⟨ha, g, d, tk, os⟩
  refine wpAny_bind (wpAny_field eA rfl (x := rawInt i) rfl ?_)
  show wpAny _ _ (field (.ref e) 4 >>= _) _ _ ⟨ha, g, d, tk, os⟩
  refine wpAny_bind (wpAny_field eA rfl (x := .none) rfl ?_)
  show wpAny _ _ (mkInt i >>= _) _ _ ⟨ha, g, d, tk, os⟩
  refine wpAny_bind (wpAny_mkInt ?_)
  show wpAny _ _ (setField (.ref e) 3 (rawInt ((i : Int) + 1)) >>= _) _ _ ⟨ha, g, d, tk + 1, os⟩
  refine wpAny_bind (wpAny_setField_rec eA (by simp) fun hb eB sB => ?_)
  replace sB : Heap.SameBut e ha hb := sB
  replace eB : IsEnum hb e it ((i : Int) + 1) old := eB
  show wpAny _ _ (setField (.ref e) 4 .none >>= _) _ _ ⟨hb, g, d, tk + 1, os⟩
  refine wpAny_bind (wpAny_setField_rec eB (by simp) fun hc eC sC => ?_)
  replace sC : Heap.SameBut e hb hc := sC
  replace eC : IsEnum hc e it ((i : Int) + 1) old := eC
  show wpAny _ _ (newTuple [.int i tk, x] >>= _) _ _ ⟨hc, g, d, tk + 1, os⟩
  refine wpAny_bind (wpAny_newTuple ?_)
  have eD : IsEnum (hc.push { cls := .type "tuple", data := .seq #[.int i tk, x] }) e it ((i : Int) + 1) old := Heap.get?_push_of_some _ eC
  have szC : hc.objs.size = hp.objs.size := by rw [sC.1, sB.1, sA.1]
  generalize ehd : hc.push { cls := .type "tuple", data := .seq #[.int i tk, x] } = hd at eD
  have lte : e < hp.objs.size := Heap.lt_size he
  have tD : hd.get? hp.objs.size = some { cls := .type "tuple", data := .seq #[.int i tk, x] } := by rw [← ehd, ← szC]; exact Heap.get?_push_size _ rfl
  have szD : hd.objs.size = hp.objs.size + 1 := by rw [← ehd, Heap.size_push, szC]
  have keepD : ∀ b o, b ≠ e → b ≠ it → hp.get? b = some o → hd.get? b = some o := fun b o n1 n2 q => by
    rw [← ehd]; exact Heap.get?_push_of_some _ (sC.extBut b o n1 (sB.extBut b o n1 (sA.extBut b o n2 q)))
  have itD : hd.IsTupleIter it l (i + 1) := by
    rw [← ehd]; exact itT_push ((itA.extBut sB.extBut (Ne.symm hne)).extBut sC.extBut (Ne.symm hne)) _
  show wpAny _ _ (Builtin.SmallTypes.ownedTupleIsFree (.ref e) >>= _) _ _ ⟨hd, g, d, tk + 1, os⟩
  rw [szC]
  clear ehd eC sC eB sB eA sA itA szC hc hb ha
  refine wpAny_bind ?_
  unfold Builtin.SmallTypes.ownedTupleIsFree
  refine wpAny_bind (wpAny_field eD rfl (x := .none) rfl (wpAny_pure ?_))
  simp only [if_true]
  refine wpAny_bind (wpAny_rule ?_)
  refine wpAny_bind (wpAny_field eD rfl (x := old) rfl ?_)
  refine wpAny_bind (wpAny_setField_rec eD (by simp) fun hx1 e1 s1 => ?_)
  replace s1 : Heap.SameBut e hd hx1 := s1
  replace e1 : IsEnum hx1 e it ((i : Int) + 1) x := e1
  show wpAny _ _ (Builtin.SmallTypes.ownedTupleHandOut (.ref e) (.ref hp.objs.size) >>= _) _ _ ⟨hx1, g, d, tk + 1, os⟩
  refine wpAny_bind ?_
  unfold Builtin.SmallTypes.ownedTupleHandOut
  refine wpAny_bind (wpAny_setField_rec e1 (by simp) fun hx2 e2 s2 => ?_)
  replace s2 : Heap.SameBut e hx1 hx2 := s2
  replace e2 : IsEnumOut hx2 e it ((i : Int) + 1) x hp.objs.size := e2
  refine wpAny_setField_rec e2 (by simp) fun hx3 e3 s3 => ?_
  replace s3 : Heap.SameBut e hx2 hx3 := s3
  replace e3 : IsEnumOut hx3 e it ((i : Int) + 1) x hp.objs.size := e3
  refine wpAny_bind (wpAny_letGo (wpAny_pure ⟨_, rfl, hQ hx3 e3 ?_ ?_ ?_ ?_⟩))
  · exact ((itD.extBut s1.extBut (Ne.symm hne)).extBut s2.extBut (Ne.symm hne)).extBut s3.extBut (Ne.symm hne)
  · exact s3.extBut _ _ (Nat.ne_of_gt lte) (s2.extBut _ _ (Nat.ne_of_gt lte) (s1.extBut _ _ (Nat.ne_of_gt lte) tD))
  · rw [s3.1, s2.1, s1.1, szD]
  · exact fun b o n1 n2 q => s3.extBut b o n1 (s2.extBut b o n1 (s1.extBut b o n1 (keepD b o n1 n2 q)))
theorem pyNext_enumT_item {e it l : Addr} {i : Nat} {items : Array Value} {x old : Value} {Q : Option Value → Shared → Prop}
    (he : IsEnum s.heap e it i old) (hit : s.heap.IsTupleIter it l i) (hl : s.heap.IsTuple l items) (hx : items[i]? = some x) (hne : e ≠ it)
    (hQ : ∀ h', IsEnumOut h' e it ((i : Int) + 1) x s.heap.objs.size → h'.IsTupleIter it l (i + 1) →
      h'.get? s.heap.objs.size = some { cls := .type "tuple", data := .seq #[.int i s.toks, x] } → h'.objs.size = s.heap.objs.size + 1 →
      (∀ b o, b ≠ e → b ≠ it → s.heap.get? b = some o → h'.get? b = some o) → Q (some (.ref s.heap.objs.size)) { s with heap := h', toks := s.toks + 1 }) :
    wpAny (model prog w) A (pyNext (.ref e)) Q E s := by
  have isE : s.TypeIs (.ref e) "enumerate" := ⟨_, he, rfl⟩
  unfold pyNext
  exact wpAny_bind (wpAny_attempt (wpAny_callSpecial?_slot (name := Str.ofString "__next__") isE F.slot_enumerate_next
    (wpAny_call_entry F.slot_enumerate_next isE F.entry_enumerate_next (enumT_item he hit hl hx hne fun h' a b c d k => wpAny_pure (hQ h' a b c d k)) (F.args_enumerate_next_1 _))))
theorem pyNext_enumT_end {e it l : Addr} {i : Nat} {items : Array Value} {old : Value} {Q : Option Value → Shared → Prop} (hh : A.handled = none)
    (he : IsEnum s.heap e it i old) (hit : s.heap.IsTupleIter it l i) (hl : s.heap.IsTuple l items) (hx : items[i]? = none)
    (hQ : ∀ h', Heap.ExtBut it s.heap h' → Q none { s with heap := h' }) : wpAny (model prog w) A (pyNext (.ref e)) Q E s := by
  have isE : s.TypeIs (.ref e) "enumerate" := ⟨_, he, rfl⟩
  unfold pyNext
  refine wpAny_bind (wpAny_attempt (wpAny_callSpecial?_slot (name := Str.ofString "__next__") isE F.slot_enumerate_next (wpAny_call_entry F.slot_enumerate_next isE F.entry_enumerate_next ?_ (F.args_enumerate_next_1 _))))
  show wpAny _ _ (field (.ref e) 2 >>= _) _ _ _
  refine wpAny_bind (wpAny_field he rfl (x := .ref it) rfl ?_)
  refine wpAny_bind (nextT_end hh hit hl hx fun h' x he' hx' => ?_)
  obtain ⟨o, ho, hc⟩ := hx'
  refine wpAny_bind (wpAny_isInstance (T := "StopIteration") (b := true) ⟨o, ho, hc⟩ isSubtype_stop ?_)
  exact wpAny_pure (hQ _ he')
end
/-- the tuple at a, its items in new pairs -/
def IteT (K : PySem.W.Frag) (a : Addr) : It :=
  ⟨fun i H => ∃ (xs : List V) (x : V), SqT K H a xs ∧ xs[i]? = some x, fun i H v H' => ∃ T x, v = .ref T ∧ H T = none ∧ H' = upd H T (.tup [.int (i : Nat), x]) ∧ ∀ xs, SqT K H a xs → xs[i]? = some x, fun i H => ∃ xs : List V, SqT K H a xs ∧ xs.length ≤ i⟩
theorem turn_enumT {P : Program} {w : World} {K : PySem.W.Frag} {elts : List Expr} {kk : Nat} {tpos : Pos} (a e it : Addr) :
    Turn P w K (.Tuple elts kk tpos) (IteT K a) [e, it] e (fun i h => (∃ old, IsEnum h e it ((i : Nat) : Int) old) ∧ h.IsTupleIter it a i ∧ e ≠ it) where
  mem := by simp
  obj := fun i h st b hb => by
    obtain ⟨⟨old, he⟩, ⟨o, ho, hc, hd⟩, _⟩ := st
    have e' : b = e ∨ b = it := by simpa using hb
    rcases e' with z | z
    · rw [z]; exact ⟨_, he, fun v q => nomatch q⟩
    · rw [z]; exact ⟨o, ho, fun v q => by rw [hd] at q; cases q⟩
  keep := fun i h h' st k => let ⟨⟨old, he⟩, ⟨o, ho, r⟩, hne⟩ := st; ⟨⟨old, k e (by simp) _ he⟩, ⟨o, k it (by simp) o ho, r⟩, hne⟩
  item := by
    intro X hP hw hK hc i pins s σ H E I hf st hg
    subst hP hw hK
    obtain ⟨⟨old, he⟩, hit, hne⟩ := st
    obtain ⟨xs, x, hq, hx⟩ := hg
    obtain ⟨its, rv, p, hz⟩ := I.tuple hq
    obtain ⟨u, hu, ru⟩ := rv.get hx
    have lte : e < s.heap.objs.size := Heap.lt_size he
    have lti : it < s.heap.objs.size := by obtain ⟨_, q, _⟩ := hit; exact Heap.lt_size q
    refine pyNext_enumT_item he hit p (x := u) (by simpa using hu) hne fun h' ho hit' hT hsz hk => ?_
    refine ⟨_, rfl, wpAny_letOwnedTupleGo_enum (s := { s with heap := h', toks := s.toks + 1 }) ho fun h'' he' sb => ?_⟩
    have hT2 : h''.get? s.heap.objs.size = some { cls := .type "tuple", data := .seq #[.int i s.toks, u] } := (sb.2 _ (Nat.ne_of_gt lte)).trans hT
    have new : ObjOk X.prog X.w (upd H s.heap.objs.size (.tup [.int (i : Nat), x])) h'' s.heap.objs.size (.tup [.int (i : Nat), x]) :=
      ⟨by show 2 ≤ sizeLine; decide, [.int i s.toks, u], .cons ⟨_, rfl⟩ (.cons ru .nil), ⟨_, hT2, rfl, _, rfl⟩⟩
    have I1 : Inv X pins σ (upd H s.heap.objs.size (.tup [.int (i : Nat), x])) { s with heap := h'', toks := s.toks + 1 } :=
      I.turnedNew (ch := [e, it]) (fun b ob hb q => (sb.2 b (fun z => hb (by simp [z]))).trans (hk b ob (fun z => hb (by simp [z])) (fun z => hb (by simp [z])) q)) hf (Nat.le_refl _) new
    refine ⟨.ref s.heap.objs.size, _, I1, rfl, ⟨_, x, rfl, I.hok.fresh (Nat.le_refl _), rfl, fun ys hy => ?_⟩, ⟨⟨u, ?_⟩, ?_, hne⟩, fun b hb => ?_⟩
    · rw [I.tuple_inj hy hq]; exact hx
    · have e1 : ((i + 1 : Nat) : Int) = (i : Int) + 1 := by omega
      rw [e1]; exact he'
    · obtain ⟨o, ho', r⟩ := hit'
      exact ⟨o, (sb.2 it (Ne.symm hne)).trans ho', r⟩
    · have hb' : b < s.heap.objs.size := by
        have e' : b = e ∨ b = it := by simpa using hb
        rcases e' with z | z
        · rw [z]; exact lte
        · rw [z]; exact lti
      rw [upd_ne (Nat.ne_of_lt hb')]
      exact (hf b hb).1
  done := by
    intro X hP hw hK hc i pins s σ H E I hf st hg
    subst hP hw hK
    obtain ⟨⟨old, he⟩, hit, hne⟩ := st
    obtain ⟨xs, hq, hx⟩ := hg
    obtain ⟨its, rv, p, hz⟩ := I.tuple hq
    obtain ⟨f0, f1, f2, f3, f4, f5⟩ := hf it (by simp)
    have hl := rv.length
    exact pyNext_enumT_end (I.ok.hd hc) he hit p (by simp; omega) fun h' eb => ⟨rfl, I.turned (t' := s.toks) (fun b o hb q => eb b o hb q) f0 f1 f3 f4 f5⟩
  self := fun A i s Q E st h => let ⟨⟨_, he⟩, _⟩ := st; wpAny_pyIter_enum he h
def iEnumS (K : PySem.W.Frag) (ta : TA) : TI := fun σ H R => ta σ H fun vs H1 => ∃ a, vs = [.ref a] ∧ (((∃ xs, SqL K H1 a xs) ∧ R (Ite K a) H1) ∨ ((∃ xs, SqT K H1 a xs) ∧ R (IteT K a) H1))
theorem pi_enumS {X : Cx} {e : Expr} {ta : TA} {p pos tpos : Pos} {elts : List Expr} {kk : Nat} (hg : Gl X "enumerate") (hm : X.mg "enumerate" = none) (ha : PA X [e] ta) (hs : starEach [e] X.env = [(false, eval e X.env)] := by rfl) :
    PI X (.Tuple elts kk tpos) (.Call (.Name "enumerate" p) [e] [] pos) (iEnumS X.K ta) := by
  refine ⟨fun pins s σ H R I h => ?_⟩
  refine Call_ (ld_blt I hg hm boot_enumerate (PyProof.Rows.callWith_type1 (thn (ha.run pos pins s σ H _ I h) fun us s1 ⟨vs, H1, I1, r1, q1⟩ => ?_) hs rfl))
  obtain ⟨a, ex, q⟩ := q1
  subst ex
  rw [Vals.ref1 r1]
  have fps : ∀ {H1 : Hp} {s1 : Shared}, Inv X pins σ H1 s1 → ∀ b ∈ [s1.heap.objs.size + 1, s1.heap.objs.size], FpOk X pins H1 b := fun {H1 s1} I1 b hb => by
    have hle : s1.heap.objs.size ≤ b := by
      rcases List.mem_cons.mp hb with z | z
      · rw [z]; exact Nat.le_add_right _ _
      · rw [List.mem_singleton.mp z]; exact Nat.le_refl _
    exact I1.fpOk hle (I1.hok.fresh hle)
  rcases q with ⟨⟨xs, hq⟩, q⟩ | ⟨⟨xs, hq⟩, q⟩
  · obtain ⟨its, rv, p', hz⟩ := I1.list hq
    refine call_enumerate_list p'.isList fun h' he hit hsz hk => wpAny_pyIter_enum he ?_
    exact ⟨s1.heap.objs.size + 1, [s1.heap.objs.size + 1, s1.heap.objs.size], _, _, H1, rfl, I1.kept (t' := s1.toks) hk, turn_enum a (s1.heap.objs.size + 1) s1.heap.objs.size, ⟨⟨.none, he⟩, hit, Nat.succ_ne_self _⟩, fps I1, q⟩
  · obtain ⟨its, rv, p', hz⟩ := I1.tuple hq
    refine enumT_call p' fun h' he hit hk => wpAny_pyIter_enum he ?_
    exact ⟨s1.heap.objs.size + 1, [s1.heap.objs.size + 1, s1.heap.objs.size], _, _, H1, rfl, I1.kept (t' := s1.toks) hk, turn_enumT a (s1.heap.objs.size + 1) s1.heap.objs.size, ⟨⟨.none, he⟩, hit, Nat.succ_ne_self _⟩, fps I1, q⟩
theorem enumD_len {ds : List D} : (enumD ds).length = ds.length := by simp [enumD]
theorem src_enumT {K : PySem.W.Frag} {F : Hp} {G : GM} {H : Hp} {a : Addr} {vs : List V} {ds : List D} (s : SqT K F a vs) (z : vs.length ≤ sizeLine) (rr : Reps K F vs ds) : Src K (fun _ => True) (IteT K a) (enumD ds) F G H where
  sz := by rw [enumD_len, ← rr.len]; exact z
  go := fun i F' G' H' x st hi => by
    rw [enumD_len, ← rr.len] at hi
    exact ⟨vs, vs[i], sub_sqT x.ok.sub (sub_sqT x.mono s), List.getElem?_eq_getElem hi⟩
  yld := fun i F' G' H' v H'' x st y d' hd => by
    obtain ⟨u, hu, rfl⟩ := enumD_get hd
    obtain ⟨w, hw, rw'⟩ := (rr.mono x.mono).getD hu
    obtain ⟨T, y', rfl, hT, rfl, hy⟩ := y
    have e := hy vs (sub_sqT x.ok.sub (sub_sqT x.mono s))
    rw [hw] at e
    cases e
    have x4 := x.ok.freeze hT (.tup [.int (i : Nat), w])
    exact ⟨_, x4, .tup (SqT.of upd_same) (by show 2 ≤ sizeLine; decide) (.cons (.int _) (.cons (rw'.mono x4.mono) .nil))⟩
  stop := fun i F' G' H' x st hi => by
    rw [enumD_len, ← rr.len] at hi
    exact ⟨vs, sub_sqT x.ok.sub (sub_sqT x.mono s), hi⟩
section
variable {X : Cx} {a b c e o i : Expr} {ta tb tc te : TED} {tA : TAD} {pos apos cpos spos : Pos} {x : Str} {p : Pos} {es : List Expr}
def iEnS (tA : TAD) : TID := fun ρ G Q => tA ρ G fun ds G1 => ∃ d es, ds = [d] ∧ seqG G1 d = some es ∧ Q (enumD es) (stabOf d es) G1
theorem di_enumS {elts : List Expr} {kk : Nat} {tpos : Pos} (hg : Gl X "enumerate") (hm : X.mg "enumerate" = none) (ha : DA X [e] tA) (hs : starEach [e] X.env = [(false, eval e X.env)] := by rfl) : DI X (.Tuple elts kk tpos) (.Call (.Name "enumerate" p) [e] [] pos) (iEnS tA) :=
  pi_imp (pi_enumS hg hm ha hs) fun σ H R z => by
    obtain ⟨ρ, F, G, Q, ok, sl, z, k⟩ := z
    refine ⟨ρ, F, G, _, ok, sl, z, fun vs ds F1 G1 H1 x1 r1 q1 => ?_⟩
    obtain ⟨d, es, rfl, hl, q1⟩ := q1
    cases r1 with
    | cons r t =>
      cases t
      by_cases ht : ∃ zs, d = .tup zs
      · obtain ⟨zs, rfl⟩ := ht
        cases hl
        cases r with
        | @tup a' us _ s zz rr => exact ⟨a', rfl, .inr ⟨⟨us, sub_sqT x1.ok.sub s⟩, k _ _ _ F1 G1 H1 x1 trivial (src_enumT s zz rr) q1⟩⟩
      · have hl' : lstG G1 d = some es := by
          cases d <;> first | exact hl | exact absurd ⟨_, rfl⟩ ht
        obtain ⟨a', us, rfl, hv, _, rr⟩ := lstG_rep x1.ok r hl'
        exact ⟨a', rfl, .inl ⟨⟨us, SqL.of hv⟩, k _ _ _ F1 G1 H1 x1 (stab_now hl') (src_enum x1.ok r hl') q1⟩⟩

/-! ### f(k=v) -/
theorem pe_callK0 {CX : CXT} {k : Nat} {f : Addr} {fd : FuncData} {ps ks : List Str} {sp : Sp} {E : XK} {g : List Value → List Value → List Value} {gV : List V → List V → List V} {kws : List Keyword} {tk : TA}
    (Fn : FnOk X.prog X.w X.K X.mg X.base CX k f fd ps sp) (hr : Room k X.A) (hg : Gl X x) (hm : X.mg x = some (.ref f)) (hk : PySem.W.keepIn X.K (.ref f) = true) (hb : KBinds X.K fd ps ks g gV) (hx : Passes CX X E) (hkw : PK X kws tk)
    (hall : (backToKw pos (keywordEach kws X.env)).all (·.1.isSome) = true := by rfl) (hks : (backToKw pos (keywordEach kws X.env)).filterMap (·.1) = ks := by rfl) (hdb : (x == ("__debug__" : Str)) = false := by decide)
    (hpl : ((backTo pos (starEach [] X.env)).any (·.1) || (backToKw pos (keywordEach kws X.env)).any (·.1.isNone)) = false := by rfl) :
    PE X (.Call (.Name x p) [] kws pos) (tCallK sp gV E tNil tk) := by
  refine ⟨fun pins s σ H Q I h => ?_⟩
  refine wpAny_Call_Name_kw (ld_glob I hg hm ?_ hdb)
  refine PySem.W.callWith_KW0 (h₀ := X.base) I.ok.mod.kin hk hall ?_ hpl
  refine thn (hkw.run pos pins s σ H _ I h) fun ws s2 ⟨zs, H2, I2, rz, q2⟩ => ⟨I2.kIn, ?_⟩
  rw [hks]
  exact run_fnk (us := []) (vs := []) Fn hr hb hx I2 .nil rz q2
end
end DL

/-! DL: is None, == of whole numbers, xs[::-1], f(k=v); walks that change nothing. -/
namespace DL
open PySem PySem.Spec PyProof.Rows L2 PySem.W PySem.SeqAt PySem.Calls
section
variable {X : Cx} {a b c e o i : Expr} {ta tb tc te : TED} {tA : TAD} {pos apos cpos spos : Pos} {x : Str} {p : Pos} {es : List Expr}
def isNonD : D → Bool
  | .non => true
  | _ => false
def fIsN (neg : Bool) : D → D → GM → QD → Prop := fun d e G Q => e = .non ∧ Q (.bl (if neg = true then !isNonD d else isNonD d)) G
theorem rep_non {K : PySem.W.Frag} {F : Hp} {v : V} {d : D} (r : Rep K F v d) : decide (v = .non) = isNonD d := by
  cases r <;> first | rfl | exact decide_eq_false fun h => by cases h
theorem d_isN (ha : DE X a ta) (hb : DE X b tb) (hm : behindInMarks .Is b = false := by first | exact nobehind _ (by decide) (by decide) | rfl) : DE X (.Compare a [.Is] [b] pos) (dBin (fIsN false) ta tb) :=
  d_cmp op_isN (by
    rintro F G H x y d e Q Qv ok rx ry ⟨rfl, q⟩ k
    cases ry
    refine ⟨rfl, ?_⟩
    rw [rep_non rx]
    exact k _ _ F G H (Ext.refl ok) (.bl _) q) ha hb hm
theorem eqv_int (i j : Int) : PyData.eqv (.int i) (.int j) = decide (i = j) := by
  rw [PyData.eqv]
  first | rfl | (by_cases h : i = j <;> simp [h])
theorem d_eqI (hu : X.A.units + 64 < cLine) (ha : DE X a ta) (hb : DE X b tb) : DE X (.Compare a [.Eq] [b] pos) (dBin (fI noC fun i j => .bl (decide (i = j))) ta tb) := d_cmp (op_eqD hu) (by
  rintro F G H x y d e Q Qv ok rx ry ⟨i, j, rfl, rfl, _, q⟩ k
  refine op2_eq F G H x y _ _ Q Qv ok rx ry ⟨_, _, .int i, .int j, rfl, rfl, ?_⟩ k
  show Q (.bl (PyData.eqv (.int i) (.int j))) G
  rw [eqv_int]
  exact q) ha hb
/-- != of truth values -/
theorem eqv_bl (i j : Bool) : PyData.eqv (.bool i) (.bool j) = decide (i = j) := by
  rw [PyData.eqv]
  cases i <;> cases j <;> rfl
def fNeB : D → D → GM → QD → Prop := fun d e G Q => ∃ i j, d = .bl i ∧ e = .bl j ∧ Q (.bl (!decide (i = j))) G
def fEqB : D → D → GM → QD → Prop := fun d e G Q => ∃ i j, d = .bl i ∧ e = .bl j ∧ Q (.bl (decide (i = j))) G
theorem d_neB (hu : X.A.units + 64 < cLine) (ha : DE X a ta) (hb : DE X b tb) : DE X (.Compare a [.NotEq] [b] pos) (dBin fNeB ta tb) := d_cmp (op_neD hu) (by
  rintro F G H x y d e Q Qv ok rx ry ⟨i, j, rfl, rfl, q⟩ k
  refine op2_ne F G H x y _ _ Q Qv ok rx ry ⟨_, _, .bl i, .bl j, rfl, rfl, ?_⟩ k
  show Q (.bl (!PyData.eqv (.bool i) (.bool j))) G
  rw [eqv_bl]
  exact q) ha hb
theorem d_eqB (hu : X.A.units + 64 < cLine) (ha : DE X a ta) (hb : DE X b tb) : DE X (.Compare a [.Eq] [b] pos) (dBin fEqB ta tb) := d_cmp (op_eqD hu) (by
  rintro F G H x y d e Q Qv ok rx ry ⟨i, j, rfl, rfl, q⟩ k
  refine op2_eq F G H x y _ _ Q Qv ok rx ry ⟨_, _, .bl i, .bl j, rfl, rfl, ?_⟩ k
  show Q (.bl (PyData.eqv (.bool i) (.bool j))) G
  rw [eqv_bl]
  exact q) ha hb
/-- xs[::-1] -/
def dRev (te : TED) : TED := fun ρ G Q => te ρ G fun d G1 => ∃ ds, lstG G1 d = some ds ∧ Q (.lst ds.reverse) G1
theorem d_rev {k : Nat} {p1 p2 p3 : Pos} (he : DE X e te) : DE X (.Subscript e (.Slice none none (some (.UnaryOp .USub (.Constant (.int 1) k p1) p2)) p3) pos) (dRev te) := by
  refine pe_imp (pe_revL he) fun σ H Qv z => ?_
  obtain ⟨ρ, F, G, Q, ok, sl, z, kk⟩ := z
  refine ⟨ρ, F, G, _, ok, sl, z, fun v d F1 G1 H1 x1 r1 q1 => ?_⟩
  obtain ⟨ds, hs, q1⟩ := q1
  obtain ⟨a, vs, rfl, hv, zv, rr⟩ := lstG_rep x1.ok r1 hs
  refine ⟨a, vs, rfl, SqL.of hv, fun p hp => ?_⟩
  have x4 := x1.ok.freeze hp (.lst vs.reverse)
  exact kk _ _ _ _ _ (x1.trans x4) (.lst upd_same (by rw [List.length_reverse]; exact zv) (rr.rev.mono x4.mono)) q1
/-- f(k=v) -/
theorem d_callK0 {CX : CXT} {k : Nat} {f : Addr} {fd : FuncData} {ps ks : List Str} {m : SpD} {E : XK} {g : List Value → List Value → List Value} {nm : Option Str} {kpos : Pos}
    (Fn : FnOk X.prog X.w X.K X.mg X.base CX k f fd ps (spD X.K m)) (hr : Room k X.A) (hg : Gl X x) (hm : X.mg x = some (.ref f)) (hk : PySem.W.keepIn X.K (.ref f) = true) (hb : KBinds X.K fd ps ks g (fun vs zs => vs ++ zs)) (hx : Passes CX X E) (ha : DE X e te)
    (hall : (backToKw pos (keywordEach [⟨nm, e, kpos⟩] X.env)).all (·.1.isSome) = true := by rfl) (hks : (backToKw pos (keywordEach [⟨nm, e, kpos⟩] X.env)).filterMap (·.1) = ks := by rfl) (hdb : (x == ("__debug__" : Str)) = false := by decide)
    (hpl : ((backTo pos (starEach [] X.env)).any (·.1) || (backToKw pos (keywordEach [⟨nm, e, kpos⟩] X.env)).any (·.1.isNone)) = false := by rfl) :
    DE X (.Call (.Name x p) [] [⟨nm, e, kpos⟩] pos) (dCall m (dCons te dNil)) := by
  refine pe_imp (pe_callK0 Fn hr hg hm hk hb hx (pk_cons ha pk_nil) hall hks hdb hpl) fun σ H Qv z => ?_
  obtain ⟨ρ, F, G, Q, ok, sl, z, k⟩ := z
  refine ⟨ρ, F, G, _, ok, sl, z, fun v d F1 G1 H1 x1 r1 q1 => ?_⟩
  exact ⟨F1, G1, [d], Q, x1.ok, .cons r1 .nil, q1, fun v d F' G' H' x2 r2 q2 => k v d F' G' H' (x1.trans x2) r2 q2⟩
end
/-! ### walks that change nothing -/
theorem lc_pure {stab : GM → Prop} {g : TGD} {tt : TTD} {te : TED} {ρ : Rh} {G : GM} (p : D → Bool) (f : D → D) (st : stab G) : ∀ {items : List D} {Q : List D → GM → Prop},
    (∀ d ∈ items, ∀ (QT : QD) (QF : GM → Prop), (p d = true → QT (f d) G) → (p d = false → QF G) → g d ρ fun ρ1 => tt ρ1 G fun b G1 => if b = true then te ρ1 G1 QT else QF G1) →
    Q ((items.filter p).map f) G → lcD stab g tt te ρ items G Q
  | [], Q, _, q => q
  | d :: ds, Q, h, q => by
    refine h d (List.mem_cons_self ..) _ _ (fun hp => ⟨st, ?_⟩) (fun hp => ⟨st, ?_⟩)
    · refine lc_pure p f st (fun e he => h e (List.mem_cons_of_mem _ he)) ?_
      rw [List.filter_cons_of_pos hp] at q
      exact q
    · refine lc_pure p f st (fun e he => h e (List.mem_cons_of_mem _ he)) ?_
      rw [List.filter_cons_of_neg (by rw [hp]; exact Bool.false_ne_true)] at q
      exact q
/-- without a test -/
theorem lc_map {stab : GM → Prop} {g : TGD} {te : TED} {ρ : Rh} {G : GM} (f : D → D) (st : stab G) {items : List D} {Q : List D → GM → Prop} (h : ∀ d ∈ items, ∀ (QT : QD), QT (f d) G → g d ρ fun ρ1 => te ρ1 G QT) (q : Q (items.map f) G) : lcD stab g dYes te ρ items G Q := by
  refine lc_pure (fun _ => true) f st (fun d hd QT QF h1 _ => ?_) ?_
  · show g d ρ fun ρ1 => if true = true then te ρ1 G QT else QF G
    simp only [if_true]
    exact h d hd QT (h1 rfl)
  · rw [List.filter_eq_self.mpr fun _ _ => rfl]
    exact q
theorem sc_map {U : List (List Int)} {stab : GM → Prop} {g : TGD} {te : TED} {ρ : Rh} {G : GM} (f : D → List Int) (st : stab G) : ∀ {items : List D} {Q : List (List Int) → GM → Prop},
    (∀ d ∈ items, f d ∈ U ∧ ∀ (QT : QD), QT (tupI (f d)) G → g d ρ fun ρ1 => te ρ1 G QT) → Q (items.map f) G → scD U stab g dYes te ρ items G Q
  | [], Q, _, q => q
  | d :: ds, Q, h, q => by
    obtain ⟨h1, h2⟩ := h d (List.mem_cons_self ..)
    show g d ρ fun ρ1 => if true = true then te ρ1 G (fun y G2 => stab G2 ∧ ∃ k, y = tupI k ∧ k ∈ U ∧ scD U stab g dYes te ρ ds G2 fun rs G3 => Q (k :: rs) G3) else (stab G ∧ scD U stab g dYes te ρ ds G Q)
    simp only [if_true]
    refine h2 _ ⟨st, _, rfl, h1, ?_⟩
    exact sc_map f st (fun e he => h e (List.mem_cons_of_mem _ he)) q
end DL

/-! DL: a def by its name; what may be called. -/
namespace DL
open PySem PySem.Spec PyProof.Rows L2 PySem.W PySem.SeqAt PySem.Calls
/-- the def st stands at the program's top under the name x -/
structure Dfn (K : PySem.W.Frag) (mg : Str → Option Value) (x : Str) (st : Stmt) : Prop where
  ex : ∃ f fd, Fun K x x st f fd ∧ mg x = some (.ref f)
/-- x may be called: what it promises -/
structure Cal (P : Program) (w : World) (K : PySem.W.Frag) (mg : Str → Option Value) (base : Heap) (x : Str) (k : Nat) (m : SpD) : Prop where
  ex : ∃ f fd ps, FnOk P w K mg base CX0 k f fd ps (spD K m) ∧ mg x = some (.ref f) ∧ PySem.W.keepIn K (.ref f) = true ∧ Binds K fd ps []
/-- x may be called as x(p = v) -/
structure CalK (P : Program) (w : World) (K : PySem.W.Frag) (mg : Str → Option Value) (base : Heap) (x p : Str) (k : Nat) (m : SpD) : Prop where
  ex : ∃ f fd, FnOk P w K mg base CX0 k f fd [p] (spD K m) ∧ mg x = some (.ref f) ∧ PySem.W.keepIn K (.ref f) = true ∧ KBinds K fd [p] [p] (fun us ws => us ++ ws) (fun vs zs => vs ++ zs)
section
variable {X : Cx} {a b c e o i : Expr} {ta tb tc te : TED} {tA : TAD} {pos apos cpos spos : Pos} {x : Str} {p : Pos} {es : List Expr}
theorem d_callC {k j : Nat} {m : SpD} (C : Cal X.prog X.w X.K X.mg X.base x k m) (hr : Room j X.A) (hj : k ≤ j) (hg : Gl X x) (ha : DA X (e :: es) tA) (hdb : (x == ("__debug__" : Str)) = false := by decide)
    (he : starEach (e :: es) X.env = (false, eval e X.env) :: starEach es X.env := by rfl) (hpl : (backTo pos (starEach es X.env)).any (·.1) = false := by rfl) : DE X (.Call (.Name x p) (e :: es) [] pos) (dCall m tA) := by
  obtain ⟨f, fd, ps, F, g, kp, b⟩ := C.ex
  exact d_call F (hr.mono hj) hg g kp b pass0 ha hdb he hpl
theorem d_callVC {k j : Nat} {m : SpD} (C : Cal X.prog X.w X.K X.mg X.base x k m) (hr : Room j X.A) (hj : k ≤ j) (hg : Gl X x) (ha : DA X (e :: es) tA) (hdb : (x == ("__debug__" : Str)) = false := by decide)
    (he : starEach (e :: es) X.env = (false, eval e X.env) :: starEach es X.env := by rfl) (hpl : (backTo pos (starEach es X.env)).any (·.1) = false := by rfl) : DE X (.Call (.Name x p) (e :: es) [] pos) (dCallV m tA) := by
  obtain ⟨f, fd, ps, F, g, kp, b⟩ := C.ex
  exact d_callV F (hr.mono hj) hg g kp b pass0 ha hdb he hpl
theorem d_callKC {k j : Nat} {m : SpD} {nm : Option Str} {q : Str} {kpos : Pos} (C : CalK X.prog X.w X.K X.mg X.base x q k m) (hr : Room j X.A) (hj : k ≤ j) (hg : Gl X x) (ha : DE X e te)
    (hall : (backToKw pos (keywordEach [⟨nm, e, kpos⟩] X.env)).all (·.1.isSome) = true := by rfl) (hks : (backToKw pos (keywordEach [⟨nm, e, kpos⟩] X.env)).filterMap (·.1) = [q] := by rfl) (hdb : (x == ("__debug__" : Str)) = false := by decide)
    (hpl : ((backTo pos (starEach [] X.env)).any (·.1) || (backToKw pos (keywordEach [⟨nm, e, kpos⟩] X.env)).any (·.1.isNone)) = false := by rfl) : DE X (.Call (.Name x p) [] [⟨nm, e, kpos⟩] pos) (dCall m (dCons te dNil)) := by
  obtain ⟨f, fd, F, g, kp, b⟩ := C.ex
  exact d_callK0 F (hr.mono hj) hg g kp b pass0 ha hall hks hdb hpl
end
theorem vals_app : ∀ {vs zs : List V} {us ws : List Value}, Vals vs us → Vals zs ws → Vals (vs ++ zs) (us ++ ws)
  | _, _, _, _, .nil, r => r
  | _, _, _, _, .cons a t, r => .cons a (vals_app t r)
section
variable {P : Program} {w : World} {K : PySem.W.Frag} {mg : Str → Option Value} {base : Heap}
abbrev BodyOk (P : Program) (w : World) (K : PySem.W.Frag) (mg : Str → Option Value) (base : Heap) (x : Str) (st : Stmt) (N : List Str) (k : Nat) (m : SpD) : Prop :=
  ∀ (f : Addr) (cdv : Value) (A : Around) (outer : List Env) (s : Shared) (H : Hp) (E : XK), Room k (A.deeper (envOfC x (defScope st) s.heap.objs.size f cdv)) → ∀ (ds : List D) (G : GM) (Q : QD), m ds G Q →
      ∃ t, DSs (cxOf CX0 P w K mg base N x (defScope st) f cdv A outer s H E).nox (defBody st) t ∧ t { nx := fun _ G' => Q .non G', rt := Q } (startD N ds) G
theorem calD {x : Str} {st : Stmt} {N ps : List Str} {k : Nat} {m : SpD} (F : Dfn K mg x st) (S : FnScope N ps (defScope st))
    (hb : ∀ (kV doc pm : Value) (an : Option Addr) (cdv ct : Value) (us : List Value), us.length = ps.length → bindArgs (PySem.W.fnOf x x (defArgs st) (defBody st) (defScope st) .none kV doc pm an cdv ct) ⟨us, []⟩ = pure (ps.zip us))
    (len : ∀ ds G Q, m ds G Q → ds.length = ps.length) (body : BodyOk P w K mg base x st N k m) : Cal P w K mg base x (k + 1) m := by
  obtain ⟨f, fd, Fn, g⟩ := F.ex
  exact ⟨f, fd, ps, fnD Fn S len fun cdv A outer s H E => body f cdv A outer s H E, g, Fn.kp, Fn.binds hb⟩
theorem calDK {x p : Str} {st : Stmt} {N : List Str} {k : Nat} {m : SpD} (F : Dfn K mg x st) (S : FnScope N [p] (defScope st))
    (hb : ∀ (kV doc pm : Value) (an : Option Addr) (cdv ct v : Value), bindArgs (PySem.W.fnOf x x (defArgs st) (defBody st) (defScope st) .none kV doc pm an cdv ct) ⟨[], [(p, v)]⟩ = pure [(p, v)] ∧ bindArgs (PySem.W.fnOf x x (defArgs st) (defBody st) (defScope st) .none kV doc pm an cdv ct) ⟨[v], []⟩ = pure [(p, v)])
    (len : ∀ ds G Q, m ds G Q → ds.length = 1) (body : BodyOk P w K mg base x st N k m) : CalK P w K mg base x p (k + 1) m := by
  obtain ⟨f, fd, Fn, g⟩ := F.ex
  refine ⟨f, fd, fnD Fn S len fun cdv A outer s H E => body f cdv A outer s H E, g, Fn.kp, ⟨fun s us ws _ hl => ?_, fun r1 r2 => vals_app r1 r2⟩⟩
  obtain ⟨oc, od, kV, doc, pm, an, cdv, ct, osl, rfl, lk, hcd⟩ := Fn.ex
  match us, ws, hl with
  | [], [v], _ => exact .of_eq (hb kV doc pm an cdv ct v).1
  | [v], [], _ => exact .of_eq (hb kV doc pm an cdv ct v).2
end
end DL

/-! DL: answering the readings: tests, comprehensions over lists of like items, for loops by an invariant. -/
namespace DL
open PySem PySem.Spec PyProof.Rows L2 PySem.W PySem.SeqAt PySem.Calls
theorem iT {p q : Prop} (h : p) : if true = true then p else q := by rw [if_pos rfl]; exact h
theorem iF {p q : Prop} (h : q) : if false = true then p else q := by rw [if_neg Bool.false_ne_true]; exact h
theorem iB {b : Bool} {p q : Prop} (hb : b = true) (h : p) : if b = true then p else q := by rw [if_pos hb]; exact h
theorem iN {b : Bool} {p q : Prop} (hb : b = false) (h : q) : if b = true then p else q := by rw [if_neg (by rw [hb]; exact Bool.false_ne_true)]; exact h
theorem iC {b : Bool} {p q : Prop} (h1 : b = true → p) (h2 : b = false → q) : if b = true then p else q := by
  cases b with
  | true => exact iT (h1 rfl)
  | false => exact iF (h2 rfl)
theorem stab_seq {G : GM} {d : D} {ds : List D} (h : seqG G d = some ds) : stabOf d ds G := by
  cases d with
  | ref a =>
    have h : (match G a with | some (.lst ds) => some ds | none => none) = some ds := h
    show G a = some (.lst ds)
    cases e : G a with
    | none => rw [e] at h; cases h
    | some m =>
      rw [e] at h
      cases m with
      | lst es => cases h; rfl
  | _ => trivial
theorem ty_seq {G : GM} {d : D} {ds : List D} (h : seqG G d = some ds) : tyD G d = some "list" ∨ tyD G d = some "tuple" := by
  cases d with
  | lst _ => exact .inl rfl
  | tup _ => exact .inr rfl
  | ref a =>
    have h : (match G a with | some (.lst ds) => some ds | none => none) = some ds := h
    left
    show (match G a with | some (.lst _) => some "list" | none => none) = some "list"
    cases e : G a with
    | none => rw [e] at h; cases h
    | some m =>
      cases m with
      | lst es => rfl
  | _ => cases h
section
variable {α : Type} {stab : GM → Prop} {g : TGD} {tt : TTD} {te : TED} {ρ : Rh} {G : GM}
theorem lc_pureC (c f : α → D) (p : α → Bool) (st : stab G) : ∀ {xs : List α} {Q : List D → GM → Prop},
    (∀ x ∈ xs, ∀ (QT : QD) (QF : GM → Prop), (p x = true → QT (f x) G) → (p x = false → QF G) → g (c x) ρ fun ρ1 => tt ρ1 G fun b G1 => if b = true then te ρ1 G1 QT else QF G1) →
    Q ((xs.filter p).map f) G → lcD stab g tt te ρ (xs.map c) G Q
  | [], Q, _, q => q
  | x :: xs, Q, h, q => by
    refine h x (List.mem_cons_self ..) (fun y G2 => stab G2 ∧ lcD stab g tt te ρ (xs.map c) G2 fun rs G3 => Q (y :: rs) G3) (fun G1 => stab G1 ∧ lcD stab g tt te ρ (xs.map c) G1 Q) (fun hp => ⟨st, ?_⟩) (fun hp => ⟨st, ?_⟩)
    · refine lc_pureC c f p st (fun e he => h e (List.mem_cons_of_mem _ he)) ?_
      rw [List.filter_cons_of_pos hp] at q
      exact q
    · refine lc_pureC c f p st (fun e he => h e (List.mem_cons_of_mem _ he)) ?_
      rw [List.filter_cons_of_neg (by rw [hp]; exact Bool.false_ne_true)] at q
      exact q
theorem lc_mapC (c f : α → D) (st : stab G) {xs : List α} {Q : List D → GM → Prop} (h : ∀ x ∈ xs, ∀ (QT : QD), QT (f x) G → g (c x) ρ fun ρ1 => te ρ1 G QT) (q : Q (xs.map f) G) : lcD stab g dYes te ρ (xs.map c) G Q := by
  refine lc_pureC c f (fun _ => true) st (fun d hd QT QF h1 _ => ?_) ?_
  · show g (c d) ρ fun ρ1 => if true = true then te ρ1 G QT else QF G
    simp only [if_true]
    exact h d hd QT (h1 rfl)
  · rw [List.filter_eq_self.mpr fun _ _ => rfl]
    exact q
theorem sc_mapC {U : List (List Int)} (c : α → D) (f : α → List Int) (st : stab G) : ∀ {xs : List α} {Q : List (List Int) → GM → Prop},
    (∀ x ∈ xs, f x ∈ U ∧ ∀ (QT : QD), QT (tupI (f x)) G → g (c x) ρ fun ρ1 => te ρ1 G QT) → Q (xs.map f) G → scD U stab g dYes te ρ (xs.map c) G Q
  | [], Q, _, q => q
  | d :: ds, Q, h, q => by
    obtain ⟨h1, h2⟩ := h d (List.mem_cons_self ..)
    show g (c d) ρ fun ρ1 => if true = true then te ρ1 G (fun y G2 => stab G2 ∧ ∃ k, y = tupI k ∧ k ∈ U ∧ scD U stab g dYes te ρ (ds.map c) G2 fun rs G3 => Q (k :: rs) G3) else (stab G ∧ scD U stab g dYes te ρ (ds.map c) G Q)
    simp only [if_true]
    refine h2 _ ⟨st, _, rfl, h1, ?_⟩
    exact sc_mapC c f st (fun e he => h e (List.mem_cons_of_mem _ he)) q
/-- a comprehension whose items change the store: an invariant of what is made -/
theorem lc_inv {items : List D} {Q : List D → GM → Prop} (Pv : Nat → List D → GM → Prop) (hst : ∀ i rs G, Pv i rs G → stab G)
    (hs : ∀ i d rs G (C : QD), items[i]? = some d → Pv i rs G → (∀ y G', Pv (i + 1) (rs ++ [y]) G' → C y G') → g d ρ fun ρ1 => te ρ1 G C) (hq : ∀ rs G, Pv items.length rs G → Q rs G) (h0 : Pv 0 [] G) : lcD stab g dYes te ρ items G Q := by
  have go : ∀ (n i : Nat) (rs : List D) (G : GM) (R : List D → GM → Prop), items.length - i = n → i ≤ items.length → Pv i rs G → (∀ ys G2, Q (rs ++ ys) G2 → R ys G2) → lcD stab g dYes te ρ (items.drop i) G R := by
    intro n
    induction n with
    | zero =>
      intro i rs G R hn hi hp hR
      have e : i = items.length := by omega
      subst e
      rw [List.drop_length]
      refine hR [] G ?_
      rw [List.append_nil]
      exact hq rs G hp
    | succ n ih =>
      intro i rs G R hn hi hp hR
      have hlt : i < items.length := by omega
      rw [List.drop_eq_getElem_cons hlt]
      show g items[i] ρ fun ρ1 => if true = true then te ρ1 G (fun y G2 => stab G2 ∧ lcD stab g dYes te ρ (items.drop (i + 1)) G2 fun ys G3 => R (y :: ys) G3) else (stab G ∧ lcD stab g dYes te ρ (items.drop (i + 1)) G R)
      simp only [if_true]
      refine hs i items[i] rs G _ (List.getElem?_eq_getElem hlt) hp fun y G' p' => ⟨hst _ _ _ p', ih (i + 1) (rs ++ [y]) G' _ (by omega) hlt p' fun ys G3 q => hR _ _ ?_⟩
      rw [List.append_assoc] at q
      exact q
  exact go _ 0 [] G Q rfl (Nat.zero_le _) h0 fun ys G2 q => q
theorem for_inv {tb : TSD} {E : EndsD} {items : List D} (Iv : Nat → Rh → GM → Prop) (hst : ∀ i ρ G, Iv i ρ G → stab G)
    (hs : ∀ i d ρ G (C : Rh → GM → Prop), items[i]? = some d → Iv i ρ G → (∀ ρ' G', Iv (i + 1) ρ' G' → C ρ' G') → g d ρ fun ρ1 => tb { E with nx := C, ct := C, bk := E.nx } ρ1 G) (hq : ∀ ρ G, Iv items.length ρ G → E.nx ρ G) (h0 : Iv 0 ρ G) : forD stab g tb E items ρ G := by
  have go : ∀ (n i : Nat) (ρ : Rh) (G : GM), items.length - i = n → i ≤ items.length → Iv i ρ G → forD stab g tb E (items.drop i) ρ G := by
    intro n
    induction n with
    | zero =>
      intro i ρ G hn hi hp
      have e : i = items.length := by omega
      subst e
      rw [List.drop_length]
      exact hq ρ G hp
    | succ n ih =>
      intro i ρ G hn hi hp
      have hlt : i < items.length := by omega
      rw [List.drop_eq_getElem_cons hlt]
      show g items[i] ρ fun ρ1 => tb { E with nx := fun ρ' G' => stab G' ∧ forD stab g tb E (items.drop (i + 1)) ρ' G', ct := fun ρ' G' => stab G' ∧ forD stab g tb E (items.drop (i + 1)) ρ' G', bk := E.nx } ρ1 G
      exact hs i items[i] ρ G _ (List.getElem?_eq_getElem hlt) hp fun ρ' G' p' => ⟨hst _ _ _ p', ih (i + 1) ρ' G' (by omega) hlt p'⟩
  exact go _ 0 ρ G rfl (Nat.zero_le _) h0
/-- a loop that changes nothing -/
theorem for_same {tb : TSD} {E : EndsD} {items : List D} (st : stab G) (Iv : Rh → Prop) (hs : ∀ d ∈ items, ∀ ρ (C : Rh → GM → Prop), Iv ρ → (∀ ρ', Iv ρ' → C ρ' G) → g d ρ fun ρ1 => tb { E with nx := C, ct := C, bk := E.nx } ρ1 G) (hq : ∀ ρ, Iv ρ → E.nx ρ G) (h0 : Iv ρ) : forD stab g tb E items ρ G :=
  for_inv (fun _ ρ' G' => G' = G ∧ Iv ρ') (fun _ _ _ h => h.1 ▸ st) (fun i d ρ' G' C hd h hC => by
    obtain ⟨rfl, h⟩ := h
    exact hs d (List.mem_of_getElem? hd) ρ' C h fun ρ2 h2 => hC ρ2 _ ⟨rfl, h2⟩) (fun ρ' G' h => by obtain ⟨rfl, h⟩ := h; exact hq ρ' h) ⟨rfl, h0⟩
end
theorem all_mapB {α : Type} (p : α → Bool) (xs : List α) : (xs.map fun x => D.bl (p x)) = (xs.map p).map D.bl := by rw [List.map_map]; rfl
end DL

/-! DL: comparisons as tests. -/
namespace DL
open PySem PySem.Spec PyProof.Rows L2 PySem.W PySem.SeqAt PySem.Calls
section
variable {X : Cx} {a b c e o i : Expr} {ta tb tc te : TED} {pos : Pos}
theorem dt_op {op : CmpOp} {r : R2} {f : D → D → GM → QD → Prop} (ho : OpR X (compareOp op) r) (hf : Op2 X.K r f) (ha : DE X a ta) (hb : DE X b tb) (hm : behindInMarks op b = false) : DT X (.Compare a [op] [b] pos) (dB (dBin f ta tb)) := by
  refine pt_imp (pt_cmpR ho ha hb hm) fun σ H Qv z => ?_
  obtain ⟨ρ, F, G, Q, ok, sl, z, k⟩ := z
  refine tOp_conc hf ⟨ρ, F, G, _, ok, sl, z, fun v d F' G' H' x r q => ?_⟩
  obtain ⟨b, rfl, q⟩ := q
  cases r
  exact ⟨b, rfl, k b F' G' H' x q⟩
theorem op2_isN {K : PySem.W.Frag} : Op2 K (fun x y H Q => y = .non ∧ Q (.bl (decide (x = .non))) H) (fIsN false) := by
  rintro F G H x y d e Q Qv ok rx ry ⟨rfl, q⟩ k
  cases ry
  refine ⟨rfl, ?_⟩
  rw [rep_non rx]
  exact k _ _ F G H (Ext.refl ok) (.bl _) q
theorem op2_eqI {K : PySem.W.Frag} : Op2 K (rEqD K) (fI noC fun i j => .bl (decide (i = j))) := by
  rintro F G H x y d e Q Qv ok rx ry ⟨i, j, rfl, rfl, _, q⟩ k
  refine op2_eq F G H x y _ _ Q Qv ok rx ry ⟨_, _, .int i, .int j, rfl, rfl, ?_⟩ k
  show Q (.bl (PyData.eqv (.int i) (.int j))) G
  rw [eqv_int]
  exact q
theorem op2_neI {K : PySem.W.Frag} : Op2 K (rNeD K) (fI noC fun i j => .bl (!decide (i = j))) := by
  rintro F G H x y d e Q Qv ok rx ry ⟨i, j, rfl, rfl, _, q⟩ k
  refine op2_ne F G H x y _ _ Q Qv ok rx ry ⟨_, _, .int i, .int j, rfl, rfl, ?_⟩ k
  show Q (.bl (!PyData.eqv (.int i) (.int j))) G
  rw [eqv_int]
  exact q
theorem op2_neB {K : PySem.W.Frag} : Op2 K (rNeD K) fNeB := by
  rintro F G H x y d e Q Qv ok rx ry ⟨i, j, rfl, rfl, q⟩ k
  refine op2_ne F G H x y _ _ Q Qv ok rx ry ⟨_, _, .bl i, .bl j, rfl, rfl, ?_⟩ k
  show Q (.bl (!PyData.eqv (.bool i) (.bool j))) G
  rw [eqv_bl]
  exact q
theorem op2_eqB {K : PySem.W.Frag} : Op2 K (rEqD K) fEqB := by
  rintro F G H x y d e Q Qv ok rx ry ⟨i, j, rfl, rfl, q⟩ k
  refine op2_eq F G H x y _ _ Q Qv ok rx ry ⟨_, _, .bl i, .bl j, rfl, rfl, ?_⟩ k
  show Q (.bl (PyData.eqv (.bool i) (.bool j))) G
  rw [eqv_bl]
  exact q
theorem d_neI (hu : X.A.units + 64 < cLine) (ha : DE X a ta) (hb : DE X b tb) : DE X (.Compare a [.NotEq] [b] pos) (dBin (fI noC fun i j => .bl (!decide (i = j))) ta tb) := d_cmp (op_neD hu) op2_neI ha hb
theorem dt_lt (ha : DE X a ta) (hb : DE X b tb) : DT X (.Compare a [.Lt] [b] pos) (dB (dBin fLt ta tb)) := dt_op op_lt (op2_I0 fun _ _ _ => .bl _) ha hb (nobehind _ (by decide) (by decide))
theorem dt_le (ha : DE X a ta) (hb : DE X b tb) : DT X (.Compare a [.LtE] [b] pos) (dB (dBin fLe ta tb)) := dt_op op_le (op2_I0 fun _ _ _ => .bl _) ha hb (nobehind _ (by decide) (by decide))
theorem dt_gt (ha : DE X a ta) (hb : DE X b tb) : DT X (.Compare a [.Gt] [b] pos) (dB (dBin fGt ta tb)) := dt_op op_gt (op2_I0 fun _ _ _ => .bl _) ha hb (nobehind _ (by decide) (by decide))
theorem dt_ge (ha : DE X a ta) (hb : DE X b tb) : DT X (.Compare a [.GtE] [b] pos) (dB (dBin fGe ta tb)) := dt_op op_ge (op2_I0 fun _ _ _ => .bl _) ha hb (nobehind _ (by decide) (by decide))
theorem dt_eqI (hu : X.A.units + 64 < cLine) (ha : DE X a ta) (hb : DE X b tb) : DT X (.Compare a [.Eq] [b] pos) (dB (dBin (fI noC fun i j => .bl (decide (i = j))) ta tb)) := dt_op (op_eqD hu) op2_eqI ha hb (nobehind _ (by decide) (by decide))
theorem dt_neI (hu : X.A.units + 64 < cLine) (ha : DE X a ta) (hb : DE X b tb) : DT X (.Compare a [.NotEq] [b] pos) (dB (dBin (fI noC fun i j => .bl (!decide (i = j))) ta tb)) := dt_op (op_neD hu) op2_neI ha hb (nobehind _ (by decide) (by decide))
theorem dt_eq (hu : X.A.units + 64 < cLine) (ha : DE X a ta) (hb : DE X b tb) : DT X (.Compare a [.Eq] [b] pos) (dB (dBin fEq ta tb)) := dt_op (op_eqD hu) op2_eq ha hb (nobehind _ (by decide) (by decide))
theorem dt_ne (hu : X.A.units + 64 < cLine) (ha : DE X a ta) (hb : DE X b tb) : DT X (.Compare a [.NotEq] [b] pos) (dB (dBin fNe ta tb)) := dt_op (op_neD hu) op2_ne ha hb (nobehind _ (by decide) (by decide))
theorem dt_eqB (hu : X.A.units + 64 < cLine) (ha : DE X a ta) (hb : DE X b tb) : DT X (.Compare a [.Eq] [b] pos) (dB (dBin fEqB ta tb)) := dt_op (op_eqD hu) op2_eqB ha hb (nobehind _ (by decide) (by decide))
theorem dt_neB (hu : X.A.units + 64 < cLine) (ha : DE X a ta) (hb : DE X b tb) : DT X (.Compare a [.NotEq] [b] pos) (dB (dBin fNeB ta tb)) := dt_op (op_neD hu) op2_neB ha hb (nobehind _ (by decide) (by decide))
theorem dt_inI (ha : DE X a ta) (hb : DE X b tb) (hm : behindInMarks .In b = false := by rfl) : DT X (.Compare a [.In] [b] pos) (dB (dBin (fInI false) ta tb)) := dt_op op_in_seq (op2_inI false) ha hb hm
theorem dt_notInI (ha : DE X a ta) (hb : DE X b tb) (hm : behindInMarks .NotIn b = false := by rfl) : DT X (.Compare a [.NotIn] [b] pos) (dB (dBin (fInI true) ta tb)) := dt_op op_notIn_seq (op2_inI true) ha hb hm
theorem dt_inD (hu : X.A.units + 65 < cLine) (ha : DE X a ta) (hb : DE X b tb) (hm : behindInMarks .In b = false := by rfl) : DT X (.Compare a [.In] [b] pos) (dB (dBin (fIn false) ta tb)) := dt_op (op_inD hu) op2_inD ha hb hm
theorem dt_notInD (hu : X.A.units + 65 < cLine) (ha : DE X a ta) (hb : DE X b tb) (hm : behindInMarks .NotIn b = false := by rfl) : DT X (.Compare a [.NotIn] [b] pos) (dB (dBin (fIn true) ta tb)) := dt_op (op_notInD hu) op2_notInD ha hb hm
theorem dt_isN (ha : DE X a ta) (hb : DE X b tb) (hm : behindInMarks .Is b = false := by first | exact nobehind _ (by decide) (by decide) | rfl) : DT X (.Compare a [.Is] [b] pos) (dB (dBin (fIsN false) ta tb)) := dt_op op_isN op2_isN ha hb hm
end
end DL

/-! Plain laws: ascending lists, least sets, blockers. -/
namespace Bl
open DL
/-! ### ascending lists -/
abbrev Asc (l : List Int) : Prop := l.Pairwise (· < ·)
def ins (x : Int) : List Int → List Int
  | [] => [x]
  | y :: l => if x < y then x :: y :: l else if x = y then y :: l else y :: ins x l
def canon : List Int → List Int
  | [] => []
  | x :: l => ins x (canon l)
theorem mem_ins (x k : Int) : ∀ l, k ∈ ins x l ↔ k = x ∨ k ∈ l
  | [] => by simp [ins]
  | y :: l => by
    have ih := mem_ins x k l
    unfold ins
    split
    · simp
    · split
      · rename_i h; subst h; simp
      · simp only [List.mem_cons, ih]
        constructor
        · rintro (h | h | h)
          · exact .inr (.inl h)
          · exact .inl h
          · exact .inr (.inr h)
        · rintro (h | h | h)
          · exact .inr (.inl h)
          · exact .inl h
          · exact .inr (.inr h)
theorem asc_ins (x : Int) : ∀ l, Asc l → Asc (ins x l)
  | [], _ => by simp [ins]
  | y :: l, h => by
    obtain ⟨h1, h2⟩ := List.pairwise_cons.mp h
    unfold ins
    split
    · rename_i c
      refine List.pairwise_cons.mpr ⟨fun z hz => ?_, h⟩
      rcases List.mem_cons.mp hz with e | e
      · omega
      · have := h1 z e; omega
    · split
      · exact h
      · rename_i c1 c2
        refine List.pairwise_cons.mpr ⟨fun z hz => ?_, asc_ins x l h2⟩
        rcases (mem_ins x z l).mp hz with e | e
        · omega
        · exact h1 z e
theorem mem_canon (k : Int) : ∀ l, k ∈ canon l ↔ k ∈ l
  | [] => by simp [canon]
  | x :: l => by rw [canon, mem_ins, mem_canon k l, List.mem_cons]
theorem asc_canon : ∀ l, Asc (canon l)
  | [] => List.Pairwise.nil
  | x :: l => asc_ins x _ (asc_canon l)
theorem asc_ext : ∀ {l m : List Int}, Asc l → Asc m → (∀ k, k ∈ l ↔ k ∈ m) → l = m
  | [], [], _, _, _ => rfl
  | [], y :: m, _, _, h => by have := (h y).mpr (List.mem_cons_self ..); simp at this
  | x :: l, [], _, _, h => by have := (h x).mp (List.mem_cons_self ..); simp at this
  | x :: l, y :: m, hl, hm, h => by
    obtain ⟨l1, l2⟩ := List.pairwise_cons.mp hl
    obtain ⟨m1, m2⟩ := List.pairwise_cons.mp hm
    have e : x = y := by
      rcases List.mem_cons.mp ((h x).mp (List.mem_cons_self ..)) with z | z
      · exact z
      · rcases List.mem_cons.mp ((h y).mpr (List.mem_cons_self ..)) with u | u
        · exact u.symm
        · have := m1 x z; have := l1 y u; omega
    subst e
    refine congrArg _ (asc_ext l2 m2 fun k => ⟨fun hk => ?_, fun hk => ?_⟩)
    · rcases List.mem_cons.mp ((h k).mp (List.mem_cons_of_mem _ hk)) with z | z
      · have := l1 k hk; omega
      · exact z
    · rcases List.mem_cons.mp ((h k).mpr (List.mem_cons_of_mem _ hk)) with z | z
      · have := m1 k hk; omega
      · exact z
theorem canon_eq {l m : List Int} (h : Asc m) (hm : ∀ k, k ∈ m ↔ k ∈ l) : m = canon l := asc_ext h (asc_canon l) fun k => by rw [hm k, mem_canon]
theorem canon_asc {l : List Int} (h : Asc l) : canon l = l := (canon_eq h fun k => Iff.rfl).symm
theorem asc_nodup {l : List Int} (h : Asc l) : l.Nodup := h.imp fun {a b} h e => by omega
theorem asc_len {l m : List Int} (h : Asc l) (s : ∀ k ∈ l, k ∈ m) : l.length ≤ m.length := nodup_le l m (asc_nodup h) s
/-- a part as long as the whole is the whole -/
theorem asc_full {l m : List Int} (hl : Asc l) (hm : Asc m) (s : ∀ k ∈ l, k ∈ m) (n : m.length ≤ l.length) : l = m := by
  refine asc_ext hl hm fun k => ⟨s k, fun hk => ?_⟩
  rcases Classical.em (k ∈ l) with c | c
  · exact c
  · have := nodup_le (k :: l) m (List.nodup_cons.mpr ⟨c, asc_nodup hl⟩) fun z hz => by
      rcases List.mem_cons.mp hz with e | e
      · rw [e]; exact hk
      · exact s z e
    rw [List.length_cons] at this
    omega
/-! ### lists of lists in order, each once -/
theorem ltL_irr {x : List Int} : ¬ ltL x x := fun h => h.2 rfl
theorem ltL_asymm {x y : List Int} (h : ltL x y) : ¬ ltL y x := fun k => h.2 (List.le_antisymm h.1 k.1)
theorem ord_ext : ∀ {l m : List (List Int)}, l.Pairwise ltL → m.Pairwise ltL → (∀ k, k ∈ l ↔ k ∈ m) → l = m
  | [], [], _, _, _ => rfl
  | [], y :: m, _, _, h => by have := (h y).mpr (List.mem_cons_self ..); simp at this
  | x :: l, [], _, _, h => by have := (h x).mp (List.mem_cons_self ..); simp at this
  | x :: l, y :: m, hl, hm, h => by
    obtain ⟨l1, l2⟩ := List.pairwise_cons.mp hl
    obtain ⟨m1, m2⟩ := List.pairwise_cons.mp hm
    have e : x = y := by
      rcases List.mem_cons.mp ((h x).mp (List.mem_cons_self ..)) with z | z
      · exact z
      · rcases List.mem_cons.mp ((h y).mpr (List.mem_cons_self ..)) with u | u
        · exact u.symm
        · exact absurd (m1 x z) (ltL_asymm (l1 y u))
    subst e
    refine congrArg _ (ord_ext l2 m2 fun k => ⟨fun hk => ?_, fun hk => ?_⟩)
    · rcases List.mem_cons.mp ((h k).mp (List.mem_cons_of_mem _ hk)) with z | z
      · have := l1 k hk; rw [z] at this; exact absurd this ltL_irr
      · exact z
    · rcases List.mem_cons.mp ((h k).mpr (List.mem_cons_of_mem _ hk)) with z | z
      · have := m1 k hk; rw [z] at this; exact absurd this ltL_irr
      · exact z
/-! ### least sets -/
abbrev Sub (j k : List Int) : Prop := ∀ n ∈ j, n ∈ k
/-- rs: the ascending lists of the sets kss of which no other one is a part, in order, each once -/
structure Least (kss rs : List (List Int)) : Prop where
  ord : rs.Pairwise ltL
  mem : ∀ k, k ∈ rs ↔ (k ∈ kss.map canon ∧ ∀ j ∈ kss.map canon, j.length < k.length → ¬ Sub j k)
theorem Least.asc {kss rs : List (List Int)} (h : Least kss rs) {k : List Int} (hk : k ∈ rs) : Asc k := by
  obtain ⟨x, _, e⟩ := List.mem_map.mp ((h.mem k).mp hk).1
  rw [← e]; exact asc_canon x
/-- each set has a least one within -/
theorem least_below {kss rs : List (List Int)} (h : Least kss rs) : ∀ (n : Nat) (k : List Int), k.length ≤ n → k ∈ kss.map canon → ∃ j ∈ rs, Sub j k := by
  intro n
  induction n with
  | zero =>
    intro k hk hm
    refine ⟨k, (h.mem k).mpr ⟨hm, fun j _ hl => by omega⟩, fun n hn => hn⟩
  | succ n ih =>
    intro k hk hm
    rcases Classical.em (∃ j ∈ kss.map canon, j.length < k.length ∧ Sub j k) with ⟨j, hj, hl, hs⟩ | c
    · obtain ⟨i, hi, his⟩ := ih j (by omega) hj
      exact ⟨i, hi, fun n hn => hs n (his n hn)⟩
    · exact ⟨k, (h.mem k).mpr ⟨hm, fun j hj hl hs => c ⟨j, hj, hl, hs⟩⟩, fun n hn => hn⟩
/-! ### blockers -/
abbrev Hits (k o : List Int) : Prop := ∃ n ∈ o, n ∈ k
abbrev HitsAll (k : List Int) (S : List (List Int)) : Prop := ∀ o ∈ S, Hits k o
/-- a least ascending set that meets each of S -/
structure MinHit (S : List (List Int)) (k : List Int) : Prop where
  asc : Asc k
  hits : HitsAll k S
  least : ∀ j, Asc j → Sub j k → HitsAll j S → j = k
theorem minHit_below (S : List (List Int)) : ∀ (n : Nat) (k : List Int), k.length ≤ n → Asc k → HitsAll k S → ∃ t, MinHit S t ∧ Sub t k := by
  intro n
  induction n with
  | zero =>
    intro k hn ha hh
    refine ⟨k, ⟨ha, hh, fun j hj hs _ => asc_full hj ha hs (by omega)⟩, fun n h => h⟩
  | succ n ih =>
    intro k hn ha hh
    rcases Classical.em (∃ j, Asc j ∧ Sub j k ∧ HitsAll j S ∧ j ≠ k) with ⟨j, h1, h2, h3, h4⟩ | c
    · have lt : j.length < k.length := by
        rcases Nat.lt_or_ge j.length k.length with z | z
        · exact z
        · exact absurd (asc_full h1 ha h2 z) h4
      obtain ⟨t, ht, hs⟩ := ih j (by omega) h1 h3
      exact ⟨t, ht, fun n h => h2 n (hs n h)⟩
    · exact ⟨k, ⟨ha, hh, fun j h1 h2 h3 => Classical.byContradiction fun h4 => c ⟨j, h1, h2, h3, h4⟩⟩, fun n h => h⟩
/-- what is grown from the least blockers of S by the set o -/
structure Grown (S : List (List Int)) (o : List Int) (gs : List (List Int)) : Prop where
  mem : ∀ g, g ∈ gs ↔ ∃ t, MinHit S t ∧ ((Hits t o ∧ g = t) ∨ (¬ Hits t o ∧ ∃ m ∈ o, g = t ++ [m]))
theorem grown_least {S : List (List Int)} {o : List Int} {gs rs : List (List Int)} (hg : Grown S o gs) (h : Least gs rs) : ∀ k, k ∈ rs ↔ MinHit (S ++ [o]) k := by
  have hitG : ∀ g ∈ gs, HitsAll (canon g) (S ++ [o]) := fun g hm => by
    obtain ⟨t, ht, c⟩ := (hg.mem g).mp hm
    intro x hx
    rcases c with ⟨c, e⟩ | ⟨_, m, hmo, e⟩
    · subst e
      rcases List.mem_append.mp hx with z | z
      · obtain ⟨n, a, b⟩ := ht.hits x z; exact ⟨n, a, (mem_canon n _).mpr b⟩
      · rw [List.mem_singleton.mp z]; obtain ⟨n, a, b⟩ := c; exact ⟨n, a, (mem_canon n _).mpr b⟩
    · subst e
      rcases List.mem_append.mp hx with z | z
      · obtain ⟨n, a, b⟩ := ht.hits x z; exact ⟨n, a, (mem_canon n _).mpr (List.mem_append_left _ b)⟩
      · rw [List.mem_singleton.mp z]; exact ⟨m, hmo, (mem_canon m _).mpr (by simp)⟩
  have below : ∀ k, Asc k → HitsAll k (S ++ [o]) → ∃ g ∈ gs, Sub (canon g) k := fun k ha hh => by
    obtain ⟨t, ht, hs⟩ := minHit_below S k.length k (Nat.le_refl _) ha fun x hx => hh x (List.mem_append_left _ hx)
    rcases Classical.em (Hits t o) with c | c
    · exact ⟨t, (hg.mem t).mpr ⟨t, ht, .inl ⟨c, rfl⟩⟩, fun n hn => hs n ((mem_canon n t).mp hn)⟩
    · obtain ⟨m, hm, hk⟩ := hh o (List.mem_append_right _ (List.mem_singleton.mpr rfl))
      refine ⟨t ++ [m], (hg.mem _).mpr ⟨t, ht, .inr ⟨c, m, hm, rfl⟩⟩, fun n hn => ?_⟩
      rcases List.mem_append.mp ((mem_canon n _).mp hn) with z | z
      · exact hs n z
      · rw [List.mem_singleton.mp z]; exact hk
  intro k
  rw [h.mem k]
  constructor
  · rintro ⟨hm, hl⟩
    obtain ⟨g, hgm, rfl⟩ := List.mem_map.mp hm
    refine ⟨asc_canon g, hitG g hgm, fun j hj hs hh => ?_⟩
    obtain ⟨g', hg', hs'⟩ := below j hj hh
    rcases Nat.lt_or_ge (canon g').length (canon g).length with z | z
    · exact absurd (fun n hn => hs n (hs' n hn)) (hl (canon g') (List.mem_map.mpr ⟨g', hg', rfl⟩) z)
    · exact asc_full hj (asc_canon g) hs (Nat.le_trans z (asc_len (asc_canon g') hs'))
  · intro hk
    obtain ⟨g, hgm, hs⟩ := below k hk.asc hk.hits
    have e := hk.least (canon g) (asc_canon g) hs (hitG g hgm)
    refine ⟨by rw [← e]; exact List.mem_map.mpr ⟨g, hgm, rfl⟩, fun j hj hl hjs => ?_⟩
    obtain ⟨g', hg', rfl⟩ := List.mem_map.mp hj
    have e' := hk.least (canon g') (asc_canon g') hjs (hitG g' hg')
    rw [e'] at hl
    omega
/-- to meet the least sets is to meet all -/
theorem hits_least {kss rs : List (List Int)} (h : Least kss rs) (k : List Int) : HitsAll k rs ↔ HitsAll k kss := by
  constructor
  · intro hh x hx
    obtain ⟨j, hj, hs⟩ := least_below h _ (canon x) (Nat.le_refl _) (List.mem_map.mpr ⟨x, hx, rfl⟩)
    obtain ⟨n, a, b⟩ := hh j hj
    exact ⟨n, (mem_canon n x).mp (hs n a), b⟩
  · intro hh j hj
    obtain ⟨x, hx, rfl⟩ := List.mem_map.mp ((h.mem j).mp hj).1
    obtain ⟨n, a, b⟩ := hh x hx
    exact ⟨n, (mem_canon n x).mpr a, b⟩
theorem minHit_congr {S T : List (List Int)} (h : ∀ k, HitsAll k S ↔ HitsAll k T) (k : List Int) : MinHit S k ↔ MinHit T k :=
  ⟨fun m => ⟨m.asc, (h k).mp m.hits, fun j a b c => m.least j a b ((h j).mpr c)⟩, fun m => ⟨m.asc, (h k).mpr m.hits, fun j a b c => m.least j a b ((h j).mp c)⟩⟩
theorem minHit_nil (k : List Int) : MinHit [] k ↔ k = [] :=
  ⟨fun m => (m.least [] List.Pairwise.nil (fun _ h => by simp at h) fun _ h => by simp at h).symm, fun e => by subst e; exact ⟨List.Pairwise.nil, fun _ h => (by simp at h), fun j _ s _ => by
    cases j with
    | nil => rfl
    | cons x j => have := s x (List.mem_cons_self ..); simp at this⟩⟩
/-- a least blocker's members are members of the sets -/
theorem minHit_within {S : List (List Int)} {k : List Int} (h : MinHit S k) : ∀ n ∈ k, ∃ o ∈ S, n ∈ o := fun n hn => by
  rcases Classical.em (∃ o ∈ S, n ∈ o) with c | c
  · exact c
  · have e := h.least (k.filter fun m => m ≠ n) (h.asc.filter _) (fun m hm => (List.mem_filter.mp hm).1) fun o ho => by
      obtain ⟨m, a, b⟩ := h.hits o ho
      refine ⟨m, a, List.mem_filter.mpr ⟨b, decide_eq_true fun e => c ⟨o, ho, e ▸ a⟩⟩⟩
    rw [← e] at hn
    have := (List.mem_filter.mp hn).2
    simp at this
/-! ### all parts of an ascending list -/
def subL : List Int → List (List Int)
  | [] => [[]]
  | x :: l => subL l ++ (subL l).map (x :: ·)
theorem subL_len : ∀ l, (subL l).length = 2 ^ l.length
  | [] => rfl
  | x :: l => by
    rw [subL, List.length_append, List.length_map, subL_len l, List.length_cons, Nat.pow_succ]
    omega
theorem mem_subL : ∀ {l k : List Int}, Asc l → Asc k → Sub k l → k ∈ subL l
  | [], k, _, _, hs => by
    cases k with
    | nil => simp [subL]
    | cons x k => have := hs x (List.mem_cons_self ..); simp at this
  | x :: l, k, hl, hk, hs => by
    obtain ⟨l1, l2⟩ := List.pairwise_cons.mp hl
    rw [subL, List.mem_append]
    cases k with
    | nil => exact .inl (mem_subL l2 List.Pairwise.nil fun n h => by simp at h)
    | cons y k =>
      obtain ⟨k1, k2⟩ := List.pairwise_cons.mp hk
      by_cases e : y = x
      · subst e
        refine .inr (List.mem_map.mpr ⟨k, mem_subL l2 k2 fun n hn => ?_, rfl⟩)
        rcases List.mem_cons.mp (hs n (List.mem_cons_of_mem _ hn)) with z | z
        · have := k1 n hn; omega
        · exact z
      · have hy : y ∈ l := by
          rcases List.mem_cons.mp (hs y (List.mem_cons_self ..)) with z | z
          · exact absurd z e
          · exact z
        have := l1 y hy
        refine .inl (mem_subL l2 hk fun n hn => ?_)
        rcases List.mem_cons.mp (hs n hn) with z | z
        · rcases List.mem_cons.mp hn with u | u
          · omega
          · have := k1 n u; omega
        · exact z
theorem filter_two {α : Type} (p : α → Bool) : ∀ l : List α, (l.filter p).length + (l.filter fun x => !p x).length = l.length
  | [] => rfl
  | x :: l => by
    have ih := filter_two p l
    cases h : p x with
    | true => rw [List.filter_cons_of_pos h, List.filter_cons_of_neg (by rw [h]; simp), List.length_cons, List.length_cons]; omega
    | false => rw [List.filter_cons_of_neg (by rw [h]; simp), List.filter_cons_of_pos (by rw [h]; rfl), List.length_cons, List.length_cons]; omega
def hitsB (o k : List Int) : Bool := o.any fun n => decide (n ∈ k)
theorem hitsB_iff {o k : List Int} : hitsB o k = true ↔ Hits k o := by
  unfold hitsB
  rw [List.any_eq_true]
  exact ⟨fun ⟨n, a, b⟩ => ⟨n, a, of_decide_eq_true b⟩, fun ⟨n, a, b⟩ => ⟨n, a, decide_eq_true b⟩⟩
/-- room for a set's table: o leaves a number of the base out, or the base is small -/
def Roomy (base o : List Int) : Prop := base.length ≤ 5 ∨ (base.length = 6 ∧ ∃ x ∈ base, x ∉ o)
theorem roomy_len {base o : List Int} (hb : Asc base) (h : Roomy base o) : ((subL base).filter (hitsB o)).length ≤ 62 := by
  have e := filter_two (hitsB o) (subL base)
  rw [subL_len] at e
  rcases h with h | ⟨h, x, hx, hn⟩
  · have : 2 ^ base.length ≤ 2 ^ 5 := Nat.pow_le_pow_right (by decide) h
    omega
  · rw [h] at e
    have two : 2 ≤ ((subL base).filter fun k => !hitsB o k).length := by
      refine nodup_le [[], [x]] _ (by simp) fun k hk => ?_
      have f : ∀ k, Asc k → Sub k base → ¬ Hits k o → k ∈ (subL base).filter fun k => !hitsB o k := fun k a s n => by
        refine List.mem_filter.mpr ⟨mem_subL hb a s, ?_⟩
        cases c : hitsB o k with
        | true => exact absurd (hitsB_iff.mp c) n
        | false => rfl
      rcases List.mem_cons.mp hk with z | z
      · rw [z]; exact f [] List.Pairwise.nil (fun n h => by simp at h) fun ⟨n, _, b⟩ => by simp at b
      · rw [List.mem_singleton.mp z]
        refine f [x] (List.pairwise_singleton _ _) (fun n h => by rw [List.mem_singleton.mp h]; exact hx) fun ⟨n, a, b⟩ => ?_
        rw [List.mem_singleton.mp b] at a
        exact hn a
    omega
theorem grown_room {base o : List Int} {S gs : List (List Int)} (hb : Asc base) (hS : ∀ s ∈ S, Sub s base) (ho : Sub o base) (h : Grown S o gs) : ∀ g ∈ gs, canon g ∈ (subL base).filter (hitsB o) := fun g hg => by
  obtain ⟨t, ht, c⟩ := (h.mem g).mp hg
  have tb : Sub t base := fun n hn => by
    obtain ⟨s, hs, m⟩ := minHit_within ht n hn
    exact hS s hs n m
  have hits : Hits (canon g) o := by
    rcases c with ⟨⟨n, a, b⟩, e⟩ | ⟨_, m, hm, e⟩
    · exact ⟨n, a, (mem_canon n g).mpr (e ▸ b)⟩
    · exact ⟨m, hm, (mem_canon m g).mpr (by rw [e]; simp)⟩
  refine List.mem_filter.mpr ⟨mem_subL hb (asc_canon g) fun n hn => ?_, hitsB_iff.mpr hits⟩
  have hn := (mem_canon n g).mp hn
  rcases c with ⟨_, e⟩ | ⟨_, m, hm, e⟩
  · rw [e] at hn; exact tb n hn
  · rw [e] at hn
    rcases List.mem_append.mp hn with z | z
    · exact tb n z
    · rw [List.mem_singleton.mp z]; exact ho m hm
end Bl

namespace Bl
open PySem PySem.Spec PyProof.Rows L2 PySem.W PySem.SeqAt PySem.Calls DL
def topS (i : Nat) : Stmt := PySem.Challenge.pw_eachentry_k36_whole_blockers_blocked_aga.main.body.getD i (.Pass ⟨0, 0, 0, 0⟩)
abbrev s_is_number : Stmt := topS 4
abbrev s_is_members : Stmt := topS 7
abbrev s_is_part : Stmt := topS 8
theorem sc_is_number : FnScope ["value"] ["value"] (defScope s_is_number) := ⟨rfl, rfl, rfl, by decide +kernel, rfl, by decide +kernel, by decide +kernel⟩
theorem sc_is_members : FnScope ["value", "one"] ["value"] (defScope s_is_members) := ⟨rfl, rfl, rfl, by decide +kernel, rfl, by decide +kernel, by decide +kernel⟩
theorem sc_is_part : FnScope ["one", "other", "member"] ["one", "other"] (defScope s_is_part) := ⟨rfl, rfl, rfl, by decide +kernel, rfl, by decide +kernel, by decide +kernel⟩
section
variable {P : Program} {w : World} {K : PySem.W.Frag} {mg : Str → Option Value} {base : Heap}
def mIsNumber : SpD := fun ds G Q => ∃ i, ds = [.int i] ∧ Q (.bl true) G
theorem c_is_number (F : Dfn K mg "is_number" s_is_number) (m_isinstance : mg "isinstance" = none) (m_int : mg "int" = none) (m_bool : mg "bool" = none) : Cal P w K mg base "is_number" 1 mIsNumber := by
  refine calD F sc_is_number (fun _ _ _ _ _ _ us hl => match us, hl with | [_], _ => rfl) (fun ds G Q h => by obtain ⟨i, rfl, _⟩ := h; rfl) fun f cdv A outer s H E hr ds G Q h => ?_
  have nd := sc_is_number.nd
  have hu := hr.units
  refine ⟨_, (dss_one (ds_ret (d_and (d_isi rfl m_isinstance (da_cons (dv 0) (da_cons (d_ty (n := "int") rfl m_int (by decide +kernel)) da_nil))) (d_one (d_not (d_isi rfl m_isinstance (da_cons (dv 0) (da_cons (d_ty (n := "bool") rfl m_bool (by decide +kernel)) da_nil)))))))), ?_⟩
  obtain ⟨i, rfl, q⟩ := h
  refine ⟨_, rfl, _, "int", _, true, rfl, rfl, by decide +kernel, true, rfl, ?_⟩
  refine ⟨_, rfl, _, "int", _, false, rfl, rfl, by decide +kernel, false, rfl, q⟩
def mIsMembers : SpD := fun ds G Q => ∃ (d : D) (ns : List Int), ds = [d] ∧ seqG G d = some (ns.map D.int) ∧ (∀ n ∈ ns, 0 ≤ n ∧ n ≤ 99) ∧ Q (.bl true) G
theorem isi2_seq {G : GM} {d : D} {es : List D} (h : seqG G d = some es) : ∃ T b b', tyD G d = some T ∧ kitB T "list" = some b ∧ kitB T "tuple" = some b' ∧ (b || b') = true := by
  rcases ty_seq h with e | e
  · exact ⟨_, true, false, e, by decide +kernel, by decide +kernel, rfl⟩
  · exact ⟨_, false, true, e, by decide +kernel, by decide +kernel, rfl⟩
theorem c_is_members (F : Dfn K mg "is_members" s_is_members) {tk : Tok} (C_is_number : Cal P w K mg base "is_number" 1 mIsNumber) (m_isinstance : mg "isinstance" = none) (m_list : mg "list" = none) (m_tuple : mg "tuple" = none) (m_all : mg "all" = none) (m_MOST : mg "MOST_MEMBER" = some (.int 99 tk)) : Cal P w K mg base "is_members" 2 mIsMembers := by
  refine calD F sc_is_members (fun _ _ _ _ _ _ us hl => match us, hl with | [_], _ => rfl) (fun ds G Q h => by obtain ⟨d, ns, rfl, _⟩ := h; rfl) fun f cdv A outer s H E hr ds G Q h => ?_
  have nd := sc_is_members.nd
  have hu := hr.units
  refine ⟨_, (dss_cons (ds_if (dt_not (dt_val (d_isi2 (C := "list") (C' := "tuple") rfl m_isinstance (dv 0) rfl m_list (by decide +kernel) rfl m_tuple (by decide +kernel)))) (dss_one (ds_ret d_bl)) dss_nil)
  (dss_one (ds_ret (d_all rfl rfl m_all (da_cons (d_lc (own := [("one", 1)]) rfl nd (di_seq (dv 0)) (blkOk_by (by rfl)) ⟨_, fun _ _ _ _ _ => (pg_name (i := 1) nd rfl (by first | exact Or.inl rfl | exact Or.inr rfl)), (snd_gName 1)⟩ (by decide) (fun _ _ _ _ _ => dts_nil) (fun _ _ _ _ _ => (d_and (d_callC C_is_number hr (by decide) rfl (da_cons (dv 1) da_nil)) (d_one (d_chain op_le op_le d_int (dv 1) (d_glob rfl m_MOST (v := .int 99) ⟨_, rfl⟩ fun _ => .int 99)))))) da_nil))))), ?_⟩
  obtain ⟨d, ns, rfl, hs, hb, q⟩ := h
  obtain ⟨T, b, b', h1, h2, h3, h4⟩ := isi2_seq hs
  refine ⟨d, rfl, T, b, b', h1, h2, h3, b || b', rfl, ?_⟩
  rw [h4]
  refine iF ⟨d, rfl, _, hs, lc_mapC D.int (fun _ => .bl true) (stab_seq hs) (fun n hn QT hQ => ?_) ?_⟩
  · obtain ⟨l, r⟩ := hb n hn
    refine ⟨.int n, rfl, n, rfl, true, rfl, iT ⟨.int n, rfl, 0, n, rfl, rfl, iB (decide_eq_true l) ⟨99, rfl, ?_⟩⟩⟩
    show QT (.bl (decide (n ≤ 99))) G
    rw [decide_eq_true r]
    exact hQ
  · refine ⟨_, ns.map fun _ => true, rfl, ?_, ?_⟩
    · rw [all_mapB]; rfl
    · have e : (ns.map fun _ => true).all id = true := by simp
      show Q (.bl ((ns.map fun _ => true).all id)) G
      rw [e]; exact q
def mIsPart : SpD := fun ds G Q => ∃ (d e : D) (ns ms : List Int), ds = [d, e] ∧ seqG G d = some (ns.map D.int) ∧ seqG G e = some (ms.map D.int) ∧ Q (.bl (ns.all fun n => decide (n ∈ ms))) G
theorem c_is_part (F : Dfn K mg "is_part" s_is_part) (m_all : mg "all" = none) : Cal P w K mg base "is_part" 1 mIsPart := by
  refine calD F sc_is_part (fun _ _ _ _ _ _ us hl => match us, hl with | [_, _], _ => rfl) (fun ds G Q h => by obtain ⟨d, e, ns, ms, rfl, _⟩ := h; rfl) fun f cdv A outer s H E hr ds G Q h => ?_
  have nd := sc_is_part.nd
  have hu := hr.units
  refine ⟨_, (dss_one (ds_ret (d_all rfl rfl m_all (da_cons (d_lc (own := [("member", 2)]) rfl nd (di_seq (dv 0)) (blkOk_by (by rfl)) ⟨_, fun _ _ _ _ _ => (pg_name (i := 2) nd rfl (by first | exact Or.inl rfl | exact Or.inr rfl)), (snd_gName 2)⟩ (by decide) (fun _ _ _ _ _ => dts_nil) (fun _ _ _ _ _ => (d_inI (dv 2) (dv 1)))) da_nil)))), ?_⟩
  obtain ⟨d, e, ns, ms, rfl, h1, h2, q⟩ := h
  refine ⟨d, rfl, _, h1, lc_mapC D.int (fun n => .bl (decide (n ∈ ms))) (stab_seq h1) (fun n hn QT hQ => ?_) ?_⟩
  · exact ⟨.int n, rfl, e, rfl, n, ms, rfl, h2, hQ⟩
  · refine ⟨_, ns.map fun n => decide (n ∈ ms), rfl, ?_, ?_⟩
    · rw [all_mapB]; rfl
    · have e : (ns.map fun n => decide (n ∈ ms)).all id = ns.all fun n => decide (n ∈ ms) := by rw [List.all_map]; rfl
      show Q (.bl ((ns.map fun n => decide (n ∈ ms)).all id)) G
      rw [e]; exact q
end
end Bl

namespace Bl
open PySem PySem.Spec PyProof.Rows L2 PySem.W PySem.SeqAt PySem.Calls DL
abbrev s_least_tuples : Stmt := topS 9
abbrev s_blocker_tuples : Stmt := topS 10
abbrev s_need_sets : Stmt := topS 11
abbrev s_blocker : Stmt := topS 13
abbrev s_least_of : Stmt := topS 12
theorem sc_least_tuples : FnScope ["sets", "some", "one", "other"] ["sets"] (defScope s_least_tuples) := ⟨rfl, rfl, rfl, by decide +kernel, rfl, by decide +kernel, by decide +kernel⟩
theorem sc_blocker_tuples : FnScope ["sets", "found", "one", "grown", "told", "member"] ["sets"] (defScope s_blocker_tuples) := ⟨rfl, rfl, rfl, by decide +kernel, rfl, by decide +kernel, by decide +kernel⟩
theorem sc_need_sets : FnScope ["sets", "at", "one"] ["sets"] (defScope s_need_sets) := ⟨rfl, rfl, rfl, by decide +kernel, rfl, by decide +kernel, by decide +kernel⟩
theorem sc_least_of : FnScope ["sets", "one"] ["sets"] (defScope s_least_of) := ⟨rfl, rfl, rfl, by decide +kernel, rfl, by decide +kernel, by decide +kernel⟩
theorem sc_blocker : FnScope ["sets", "one"] ["sets"] (defScope s_blocker) := ⟨rfl, rfl, rfl, by decide +kernel, rfl, by decide +kernel, by decide +kernel⟩
section
variable {P : Program} {w : World} {K : PySem.W.Frag} {mg : Str → Option Value} {base : Heap}
/-- ps: the items of a list (or tuple), each with the whole numbers that it holds -/
def Sets (G : GM) (d : D) (ps : List (D × List Int)) : Prop := seqG G d = some (ps.map (·.1)) ∧ ∀ p ∈ ps, seqG G p.1 = some (p.2.map D.int) ∧ p.2.length < 64
def mLeast : SpD := fun ds G Q => ∃ (d : D) (ps : List (D × List Int)) (U : List (List Int)), ds = [d] ∧ Sets G d ps ∧ U.length ≤ 1100 ∧ (∀ p ∈ ps, canon p.2 ∈ U) ∧ ∀ rs, Least (ps.map (·.2)) rs → Q (.lst (rs.map tupI)) G
/-- no other one of ms is a part of k -/
def leastB (ms : List (List Int)) (k : List Int) : Bool := !(ms.any fun j => decide (j.length < k.length) && j.all fun n => decide (n ∈ k))
theorem leastB_iff {ms : List (List Int)} {k : List Int} : leastB ms k = true ↔ ∀ j ∈ ms, j.length < k.length → ¬ Sub j k := by
  unfold leastB
  rw [Bool.not_eq_true', ← Bool.not_eq_true, List.any_eq_true]
  constructor
  · intro h j hj hl hs
    refine h ⟨j, hj, ?_⟩
    rw [Bool.and_eq_true]
    exact ⟨decide_eq_true hl, List.all_eq_true.mpr fun n hn => decide_eq_true (hs n hn)⟩
  · rintro h ⟨j, hj, hb⟩
    rw [Bool.and_eq_true] at hb
    exact h j hj (of_decide_eq_true hb.1) fun n hn => of_decide_eq_true (List.all_eq_true.mp hb.2 n hn)
theorem tupI_len (k : List Int) : ((k.map D.int).length : Int) = (k.length : Int) := by rw [List.length_map]
theorem lt_lens (j k : List Int) : decide (((j.map D.int).length : Int) < ((k.map D.int).length : Int)) = decide (j.length < k.length) := by
  rw [List.length_map, List.length_map]
  exact decide_eq_decide.mpr (by omega)
theorem c_least_tuples (F : Dfn K mg "least_tuples" s_least_tuples) (C_is_part : Cal P w K mg base "is_part" 1 mIsPart) (m_sorted : mg "sorted" = none) (m_set : mg "set" = none) (m_tuple : mg "tuple" = none) (m_any : mg "any" = none) (m_len : mg "len" = none) : Cal P w K mg base "least_tuples" 2 mLeast := by
  refine calD F sc_least_tuples (fun _ _ _ _ _ _ us hl => match us, hl with | [_], _ => rfl) (fun ds G Q h => by obtain ⟨d, ps, U, rfl, _⟩ := h; rfl) fun f cdv A outer s H E hr ds G Q h => ?_
  have nd := sc_least_tuples.nd
  have hu := hr.units
  refine ⟨_, (dss_cons (ds_set (i := 1) nd rfl (by first | exact Or.inl rfl | exact Or.inr rfl) (d_sortScG hu rfl nd rfl m_sorted (own := [("one", 2)]) (di_seq (dv 0)) (blkOk_by (by rfl)) ⟨_, fun _ _ _ _ _ => (pg_name (i := 2) nd rfl (by first | exact Or.inl rfl | exact Or.inr rfl)), (snd_gName 2)⟩ (by decide) (fun _ _ _ _ _ => dts_nil) (fun _ _ _ _ _ => (d_tupleOf rfl m_tuple (da_cons (d_sortSet rfl rfl m_sorted rfl m_set (dv 2)) da_nil)))))
  (dss_one (ds_ret (d_lc (own := [("one", 2)]) rfl nd (di_seq (dv 1)) (blkOk_by (by rfl)) ⟨_, fun _ _ _ _ _ => (pg_name (i := 2) nd rfl (by first | exact Or.inl rfl | exact Or.inr rfl)), (snd_gName 2)⟩ (by decide) (fun _ _ _ _ _ => (dts_one (dt_not (dt_val (d_any rfl rfl m_any (da_cons (d_lc (own := [("other", 3)]) rfl nd (di_seq (dv 1)) (blkOk_by (by rfl)) ⟨_, fun _ _ _ _ _ => (pg_name (i := 3) nd rfl (by first | exact Or.inl rfl | exact Or.inr rfl)), (snd_gName 3)⟩ (by decide) (fun _ _ _ _ _ => dts_nil) (fun _ _ _ _ _ => (d_and (d_lt (d_len rfl m_len (da_cons (dv 3) da_nil)) (d_len rfl m_len (da_cons (dv 2) da_nil))) (d_one (d_callC C_is_part hr (by decide) rfl (da_cons (dv 3) (da_cons (dv 2) da_nil))))))) da_nil)))))) (fun _ _ _ _ _ => (dv 2)))))), ?_⟩
  obtain ⟨d, ps, U, rfl, ⟨hs, hp⟩, hU, hc, q⟩ := h
  refine ⟨d, rfl, _, hs, U, hU, sc_mapC (·.1) (fun p => canon p.2) (stab_seq hs) (fun p hm => ⟨hc p hm, fun QT hQ => ?_⟩) fun ms ho hms => ?_⟩
  · obtain ⟨h1, h2⟩ := hp p hm
    refine ⟨p.1, rfl, p.2, h1, h2, fun ks ha hk => ?_⟩
    refine ⟨_, _, rfl, rfl, ?_⟩
    rw [canon_eq ha hk]
    exact hQ
  · refine ⟨_, rfl, _, rfl, ?_⟩
    refine lc_pureC tupI tupI (leastB ms) trivial (fun k hk QT QF h1 h2 => ?_) (q _ ?_)
    · refine ⟨_, rfl, _, rfl, ?_⟩
      refine lc_mapC tupI (fun j => .bl (decide (j.length < k.length) && j.all fun n => decide (n ∈ k))) trivial (fun j hj QT' hQ' => ?_) ?_
      · refine ⟨_, rfl, _, _, rfl, rfl, _, rfl, _, _, rfl, rfl, _, _, rfl, rfl, trivial, _, rfl, ?_⟩
        show if decide (((j.map D.int).length : Int) < ((k.map D.int).length : Int)) = true then _ else _
        rw [lt_lens]
        cases hb : decide (j.length < k.length) with
        | true =>
          rw [hb] at hQ'
          exact iT ⟨_, rfl, _, rfl, _, _, j, k, rfl, rfl, rfl, hQ'⟩
        | false =>
          rw [hb] at hQ'
          exact iF hQ'
      · refine ⟨_, ms.map fun j => decide (j.length < k.length) && j.all fun n => decide (n ∈ k), rfl, ?_, ?_⟩
        · rw [all_mapB]; rfl
        · refine ⟨_, rfl, ?_⟩
          have e : (!(ms.map fun j => decide (j.length < k.length) && j.all fun n => decide (n ∈ k)).any id) = leastB ms k := by
            unfold leastB
            rw [List.any_map]; rfl
          show if (!(ms.map fun j => decide (j.length < k.length) && j.all fun n => decide (n ∈ k)).any id) = true then _ else _
          rw [e]
          exact iC (fun hb => ⟨_, rfl, h1 hb⟩) h2
    · have mem : ∀ k, k ∈ ms ↔ k ∈ (ps.map (·.2)).map canon := fun k => by rw [hms k, List.map_map]; rfl
      refine ⟨ho.filter _, fun k => ?_⟩
      rw [List.mem_filter, leastB_iff, mem k]
      exact ⟨fun ⟨a, b⟩ => ⟨a, fun j hj => b j ((mem j).mpr hj)⟩, fun ⟨a, b⟩ => ⟨a, fun j hj => b j ((mem j).mp hj)⟩⟩
end
end Bl

namespace Bl
open PySem PySem.Spec PyProof.Rows L2 PySem.W PySem.SeqAt PySem.Calls DL
/-- what stood in the store stands -/
def Keeps (G G' : GM) : Prop := ∀ a m, G a = some m → G' a = some m
theorem Keeps.refl (G : GM) : Keeps G G := fun _ _ h => h
theorem Keeps.trans {G G' G'' : GM} (h : Keeps G G') (k : Keeps G' G'') : Keeps G G'' := fun a m e => k a m (h a m e)
theorem Keeps.new {G : GM} {p : Addr} {m : MO} (h : G p = none) : Keeps G (updG G p m) := fun a n e => by
  rw [updG_ne]
  · exact e
  · rintro rfl; rw [h] at e; cases e
theorem Keeps.lst {G G' : GM} {d : D} {es : List D} (k : Keeps G G') (h : lstG G d = some es) : lstG G' d = some es := by
  cases d with
  | ref a =>
    have h : (match G a with | some (.lst ds) => some ds | none => none) = some es := h
    show (match G' a with | some (.lst ds) => some ds | none => none) = some es
    cases e : G a with
    | none => rw [e] at h; cases h
    | some m => rw [k a m e]; rw [e] at h; exact h
  | lst _ => exact h
  | _ => cases h
theorem Keeps.seq {G G' : GM} {d : D} {es : List D} (k : Keeps G G') (h : seqG G d = some es) : seqG G' d = some es := by
  cases d with
  | tup _ => exact h
  | lst xs => exact k.lst (d := .lst xs) h
  | ref a => exact k.lst (d := .ref a) h
  | _ => cases h
theorem Sets.keep {G G' : GM} {d : D} {ps : List (D × List Int)} (k : Keeps G G') (h : Sets G d ps) : Sets G' d ps := ⟨k.seq h.1, fun p hp => ⟨k.seq (h.2 p hp).1, (h.2 p hp).2⟩⟩
theorem seq_ref {G : GM} {p : Addr} {es : List D} (h : G p = some (.lst es)) : seqG G (.ref p) = some es := by
  show (match G p with | some (.lst ds) => some ds | none => none) = some es
  rw [h]
/-- a list of tuples -/
theorem sets_tups {G : GM} {d : D} {gs : List (List Int)} (h : seqG G d = some (gs.map tupI)) (hl : ∀ g ∈ gs, g.length < 64) : Sets G d (gs.map fun g => (tupI g, g)) :=
  ⟨by rw [List.map_map]; exact h, fun p hp => by
    obtain ⟨g, hg, rfl⟩ := List.mem_map.mp hp
    exact ⟨rfl, hl g hg⟩⟩
section
variable {P : Program} {w : World} {K : PySem.W.Frag} {mg : Str → Option Value} {base : Heap}
structure InBase (b : List Int) (ps : List (D × List Int)) : Prop where
  asc : Asc b
  small : b.length ≤ 9
  sub : ∀ p ∈ ps, Sub p.2 b
  few : ps.length ≤ 1100
structure BlockOf (kss rs : List (List Int)) : Prop where
  ord : rs.Pairwise ltL
  mem : ∀ k, k ∈ rs ↔ MinHit kss k
def mBT : SpD := fun ds G Q => ∃ (d : D) (ps : List (D × List Int)) (b : List Int), ds = [d] ∧ Sets G d ps ∧ InBase b ps ∧ ∀ rs G', BlockOf (ps.map (·.2)) rs → Keeps G G' → Q (.lst (rs.map tupI)) G'
theorem small_of {b k : List Int} (hb : b.length ≤ 9) (ha : Asc k) (s : Sub k b) : k.length ≤ 9 := Nat.le_trans (asc_len ha s) hb
theorem c_blocker_tuples (F : Dfn K mg "blocker_tuples" s_blocker_tuples) (C_least_tuples : Cal P w K mg base "least_tuples" 2 mLeast) (m_any : mg "any" = none) : Cal P w K mg base "blocker_tuples" 3 mBT := by
  refine calD F sc_blocker_tuples (fun _ _ _ _ _ _ us hl => match us, hl with | [_], _ => rfl) (fun ds G Q h => by obtain ⟨d, ps, U, rfl, _⟩ := h; rfl) fun f cdv A outer s H E hr ds G Q h => ?_
  have nd := sc_blocker_tuples.nd
  have hu := hr.units
  refine ⟨_, (dss_cons (ds_set (i := 1) nd rfl (by first | exact Or.inl rfl | exact Or.inr rfl) (d_lst (da_cons (d_tup da_nil) da_nil)))
  (dss_cons (ds_for PassesOwn.never rfl (di_seq (d_callC C_least_tuples hr (by decide) rfl (da_cons (dv 0) da_nil))) (dg_name (i := 2) nd rfl (by first | exact Or.inl rfl | exact Or.inr rfl))
    (dss_cons (ds_set (i := 3) nd rfl (by first | exact Or.inl rfl | exact Or.inr rfl) (d_lstM da_nil))
      (dss_cons (ds_for PassesOwn.never rfl (di_seq (dv 1)) (dg_name (i := 4) nd rfl (by first | exact Or.inl rfl | exact Or.inr rfl))
        (dss_one (ds_if (dt_val (d_any rfl rfl m_any (da_cons (d_lc (own := [("member", 5)]) rfl nd (di_seq (dv 4)) (blkOk_by (by rfl)) ⟨_, fun _ _ _ _ _ => (pg_name (i := 5) nd rfl (by first | exact Or.inl rfl | exact Or.inr rfl)), (snd_gName 5)⟩ (by decide) (fun _ _ _ _ _ => dts_nil) (fun _ _ _ _ _ => (d_inI (dv 5) (dv 2)))) da_nil))) (dss_one (ds_expr (d_append (dv 3) (da_cons (dv 4) da_nil)))) (dss_one (ds_expr (d_extend (dv 3) (da_cons (d_lc (own := [("member", 5)]) rfl nd (di_seq (dv 2)) (blkOk_by (by rfl)) ⟨_, fun _ _ _ _ _ => (pg_name (i := 5) nd rfl (by first | exact Or.inl rfl | exact Or.inr rfl)), (snd_gName 5)⟩ (by decide) (fun _ _ _ _ _ => dts_nil) (fun _ _ _ _ _ => (d_catT (dv 4) (d_tup (da_cons (dv 5) da_nil))))) da_nil)))))))
      (dss_one (ds_set (i := 1) nd rfl (by first | exact Or.inl rfl | exact Or.inr rfl) (d_callC C_least_tuples hr (by decide) rfl (da_cons (dv 3) da_nil)))))))
  (dss_one (ds_ret (dv 1))))), ?_⟩
  obtain ⟨d, ps, b, rfl, hS, hB, q⟩ := h
  refine ⟨by decide, by decide, d, rfl, d, ps, ps.map fun p => canon p.2, rfl, hS, by rw [List.length_map]; exact hB.few, fun p hp => List.mem_map.mpr ⟨p, hp, rfl⟩, fun os hos => ⟨_, rfl, ?_⟩⟩
  have osb : ∀ o ∈ os, Asc o ∧ Sub o b := fun o ho => by
    have ao := hos.asc ho
    obtain ⟨x, hx, e⟩ := List.mem_map.mp ((hos.mem o).mp ho).1
    obtain ⟨p, hp, rfl⟩ := List.mem_map.mp hx
    have s1 := hB.sub p hp
    have m : ∀ n, n ∈ o ↔ n ∈ p.2 := fun n => by rw [← e, mem_canon]
    exact ⟨ao, fun n hn => s1 n ((m n).mp hn)⟩
  refine for_inv (fun i ρ' G' => ∃ rs x2 x3 x4 x5, Keeps G G' ∧ ρ' = [some d, some (.lst (rs.map tupI)), x2, x3, x4, x5] ∧ BlockOf (os.take i) rs) (fun _ _ _ _ => trivial) (fun i od ρ' G' C hi hI hC => ?_) (fun ρ' G' hI => ?_) ⟨[[]], none, none, none, none, Keeps.refl G, rfl, ⟨by simp, fun k => by rw [List.take_zero, minHit_nil, List.mem_singleton]⟩⟩
  · obtain ⟨rs, x2, x3, x4, x5, kp, rfl, hR⟩ := hI
    rw [List.getElem?_map] at hi
    cases ho : os[i]? with
    | none => rw [ho] at hi; cases hi
    | some o =>
      rw [ho] at hi
      cases hi
      have hom := List.mem_of_getElem? ho
      obtain ⟨ao, so⟩ := osb o hom
      have otake : ∀ s ∈ os.take i, Sub s b := fun s hs => (osb s (List.mem_of_mem_take hs)).2
      have rsb : ∀ t ∈ rs, Asc t ∧ Sub t b := fun t ht => by
        have m := (hR.mem t).mp ht
        refine ⟨m.asc, fun n hn => ?_⟩
        obtain ⟨s, hs, hns⟩ := minHit_within m n hn
        exact otake s hs n hns
      have rs64 : rs.length ≤ 512 := by
        have := nodup_le rs (subL b) (hR.ord.imp fun h => h.2) fun t ht => mem_subL hB.asc (rsb t ht).1 (rsb t ht).2
        rw [subL_len] at this
        have l2 : 2 ^ b.length ≤ 2 ^ 9 := Nat.pow_le_pow_right (by decide) hB.small
        omega
      have o6 := small_of hB.small ao so
      -- grown = []
      refine ⟨by decide, fun p hp => ⟨_, rfl, _, rfl, ?_⟩⟩
      refine for_inv (fun j ρ2 G2 => ∃ gs x4 x5, G2 = updG G' p (.lst (gs.map tupI)) ∧ ρ2 = [some d, some (.lst (rs.map tupI)), some (tupI o), some (.ref p), x4, x5] ∧ gs.length ≤ 64 * j ∧ ∀ g, g ∈ gs ↔ ∃ t ∈ rs.take j, (Hits t o ∧ g = t) ∨ (¬ Hits t o ∧ ∃ m ∈ o, g = t ++ [m])) (fun _ _ _ _ => trivial) (fun j td ρ2 G2 C2 hj hI2 hC2 => ?_) (fun ρ2 G2 hI2 => ?_) ⟨[], x4, x5, rfl, rfl, by simp, fun g => by simp⟩
      · obtain ⟨gs, y4, y5, rfl, rfl, hgl, hgs⟩ := hI2
        rw [List.getElem?_map] at hj
        cases ht : rs[j]? with
        | none => rw [ht] at hj; cases hj
        | some t =>
          rw [ht] at hj
          cases hj
          have htm := List.mem_of_getElem? ht
          have t6 := small_of hB.small (rsb t htm).1 (rsb t htm).2
          have hjl : j < rs.length := by
            rw [List.getElem?_eq_some_iff] at ht
            exact ht.1
          have take1 : rs.take (j + 1) = rs.take j ++ [t] := by rw [List.take_add_one, ht]; rfl
          refine ⟨_, rfl, _, rfl, lc_mapC D.int (fun n => .bl (decide (n ∈ o))) trivial (fun n hn QT hQ => ⟨_, rfl, _, rfl, n, o, rfl, rfl, hQ⟩) ?_⟩
          refine ⟨_, t.map fun n => decide (n ∈ o), rfl, by rw [all_mapB]; rfl, _, rfl, ?_⟩
          have hv : (t.map fun n => decide (n ∈ o)).any id = true ↔ Hits t o := by
            rw [List.any_map, List.any_eq_true]
            exact ⟨fun ⟨n, a, c⟩ => ⟨n, of_decide_eq_true c, a⟩, fun ⟨n, a, c⟩ => ⟨n, c, decide_eq_true a⟩⟩
          refine iC (fun hb => ?_) (fun hb => ?_)
          · have hb := hv.mp hb
            refine ⟨.ref p, rfl, ⟨p, _, rfl, updG_same⟩, _, rfl, p, _, _, rfl, rfl, updG_same, ?_, hC2 _ _ ⟨gs ++ [t], _, _, ?_, rfl, ?_, fun g => ?_⟩⟩
            · rw [List.length_map, sizeLine_eq]; omega
            · rw [updG_upd, List.map_append]; rfl
            · rw [List.length_append, List.length_singleton]; omega
            · rw [take1, List.mem_append, List.mem_singleton, hgs g]
              constructor
              · rintro (⟨u, a, c⟩ | e)
                · exact ⟨u, List.mem_append_left _ a, c⟩
                · exact ⟨t, by simp, .inl ⟨hb, e⟩⟩
              · rintro ⟨u, a, c⟩
                rcases List.mem_append.mp a with a | a
                · exact .inl ⟨u, a, c⟩
                · rw [List.mem_singleton.mp a] at c
                  rcases c with ⟨_, e⟩ | ⟨n, _⟩
                  · exact .inr e
                  · exact absurd hb n
          · have hb : ¬ Hits t o := fun z => by rw [hv.mpr z] at hb; cases hb
            refine ⟨.ref p, rfl, ⟨p, _, rfl, updG_same⟩, _, rfl, _, rfl, lc_mapC D.int (fun n => tupI (t ++ [n])) trivial (fun n hn QT hQ => ?_) ?_⟩
            · refine ⟨_, rfl, _, rfl, (by show 1 ≤ sizeLine; decide), _, _, rfl, rfl, ?_, ?_⟩
              · rw [List.length_map, sizeLine_eq]
                show _ + 1 ≤ _
                omega
              · have e : t.map D.int ++ [D.int n] = (t ++ [n]).map D.int := by rw [List.map_append]; rfl
                rw [e]; exact hQ
            · refine ⟨p, _, _, _, rfl, rfl, updG_same, rfl, ?_, hC2 _ _ ⟨gs ++ o.map fun n => t ++ [n], _, _, ?_, rfl, ?_, fun g => ?_⟩⟩
              · rw [List.length_map, List.length_map, sizeLine_eq]; omega
              · rw [updG_upd, List.map_append, List.map_map]; rfl
              · rw [List.length_append, List.length_map]; omega
              · rw [take1, List.mem_append, hgs g, List.mem_map]
                constructor
                · rintro (⟨u, a, c⟩ | ⟨n, a, e⟩)
                  · exact ⟨u, List.mem_append_left _ a, c⟩
                  · exact ⟨t, by simp, .inr ⟨hb, n, a, e.symm⟩⟩
                · rintro ⟨u, a, c⟩
                  rcases List.mem_append.mp a with a | a
                  · exact .inl ⟨u, a, c⟩
                  · rw [List.mem_singleton.mp a] at c
                    rcases c with ⟨z, _⟩ | ⟨_, n, a, e⟩
                    · exact absurd z hb
                    · exact .inr ⟨n, a, e.symm⟩
      · obtain ⟨gs, y4, y5, rfl, rfl, hgl, hgs⟩ := hI2
        rw [List.length_map] at hgl
        have hG : Grown (os.take i) o gs := ⟨fun g => by
          rw [hgs g, List.length_map, List.take_length]
          exact ⟨fun ⟨t, a, c⟩ => ⟨t, (hR.mem t).mp a, c⟩, fun ⟨t, a, c⟩ => ⟨t, (hR.mem t).mpr a, c⟩⟩⟩
        have gl : ∀ g ∈ gs, g.length < 64 := fun g hg => by
          obtain ⟨t, a, c⟩ := (hG.mem g).mp hg
          have t6 := small_of hB.small (rsb t ((hR.mem t).mpr a)).1 (rsb t ((hR.mem t).mpr a)).2
          rcases c with ⟨_, e⟩ | ⟨_, m, _, e⟩
          · rw [e]; omega
          · rw [e, List.length_append, List.length_singleton]; omega
        refine ⟨.ref p, rfl, .ref p, gs.map fun g => (tupI g, g), (subL b).filter (hitsB o), rfl, sets_tups (seq_ref updG_same) gl, Nat.le_trans (List.length_filter_le _ _) (by rw [subL_len]; exact Nat.le_trans (Nat.pow_le_pow_right (by decide) hB.small) (by decide)), fun x hx => ?_, fun rs' hrs' => ?_⟩
        · obtain ⟨g, hg, rfl⟩ := List.mem_map.mp hx
          exact grown_room hB.asc otake so hG g hg
        · have e : (gs.map fun g => (tupI g, g)).map (·.2) = gs := by rw [List.map_map]; exact List.map_id' gs
          rw [e] at hrs'
          have gm := grown_least hG hrs'
          refine hC _ _ ⟨rs', _, _, _, _, kp.trans (Keeps.new hp), rfl, hrs'.ord, fun k => ?_⟩
          rw [gm k, List.take_add_one, ho]
          rfl
  · obtain ⟨rs, x2, x3, x4, x5, kp, rfl, hR⟩ := hI
    refine ⟨_, rfl, q rs G' ⟨hR.ord, fun k => ?_⟩ kp⟩
    rw [hR.mem k, List.length_map, List.take_length]
    exact minHit_congr (hits_least hos) k
end
end Bl

namespace Bl
open PySem PySem.Spec PyProof.Rows L2 PySem.W PySem.SeqAt PySem.Calls DL
/-- the lists of whole numbers rs stand in the store at as -/
inductive Held (G : GM) : List Addr → List (List Int) → Prop
  | nil : Held G [] []
  | cons {a : Addr} {r : List Int} {as : List Addr} {rs : List (List Int)} : G a = some (.lst (r.map .int)) → Held G as rs → Held G (a :: as) (r :: rs)
theorem Held.keep {G G' : GM} (k : ∀ a m, G a = some m → G' a = some m) : ∀ {as : List Addr} {rs : List (List Int)}, Held G as rs → Held G' as rs
  | _, _, .nil => .nil
  | _, _, .cons h t => .cons (k _ _ h) (Held.keep k t)
theorem Held.snoc {G : GM} {a : Addr} {r : List Int} (h : G a = some (.lst (r.map .int))) : ∀ {as : List Addr} {rs : List (List Int)}, Held G as rs → Held G (as ++ [a]) (rs ++ [r])
  | _, _, .nil => .cons h .nil
  | _, _, .cons h1 t => .cons h1 (Held.snoc h t)
theorem Held.len {G : GM} : ∀ {as : List Addr} {rs : List (List Int)}, Held G as rs → as.length = rs.length
  | _, _, .nil => rfl
  | _, _, .cons _ t => congrArg (· + 1) (Held.len t)
theorem Held.some {G : GM} : ∀ {as : List Addr} {rs : List (List Int)}, Held G as rs → ∀ a ∈ as, ∃ r : List Int, G a = some (.lst (r.map .int))
  | _, _, .nil, a, h => by simp at h
  | _, _, .cons h1 t, a, h => by
    rcases List.mem_cons.mp h with e | e
    · rw [e]; exact ⟨_, h1⟩
    · exact Held.some t a e
abbrev rowD (r : List Int) : D := .lst (r.map .int)
theorem vws_ints {G : GM} : ∀ r : List Int, Vws G (r.map .int) (r.map .int)
  | [] => .nil
  | n :: r => .cons (.int n) (vws_ints r)
theorem Held.vws {G : GM} : ∀ {as : List Addr} {rs : List (List Int)}, Held G as rs → Vws G (as.map .ref) (rs.map rowD)
  | _, _, .nil => .nil
  | _, _, .cons (r := r) h t => .cons (.ref h (vws_ints r)) (Held.vws t)
theorem vws_rows {G : GM} : ∀ rs : List (List Int), Vws G (rs.map rowD) (rs.map rowD)
  | [] => .nil
  | r :: rs => .cons (.lst (vws_ints r)) (vws_rows rs)
section
variable {P : Program} {w : World} {K : PySem.W.Frag} {mg : Str → Option Value} {base : Heap}
def mNeed : SpD := fun ds G Q => ∃ (d : D) (ps : List (D × List Int)), ds = [d] ∧ Sets G d ps ∧ (∀ p ∈ ps, ∀ n ∈ p.2, 0 ≤ n ∧ n ≤ 99) ∧ Q .non G
theorem c_need_sets (F : Dfn K mg "need_sets" s_need_sets) (C_is_members : Cal P w K mg base "is_members" 2 mIsMembers) (m_enumerate : mg "enumerate" = none) : Cal P w K mg base "need_sets" 3 mNeed := by
  refine calD F sc_need_sets (fun _ _ _ _ _ _ us hl => match us, hl with | [_], _ => rfl) (fun ds G Q h => by obtain ⟨d, ps, rfl, _⟩ := h; rfl) fun f cdv A outer s H E hr ds G Q h => ?_
  have nd := sc_need_sets.nd
  have hu := hr.units
  refine ⟨_, (dss_one (ds_for PassesOwn.never rfl (di_enumS rfl m_enumerate (da_cons (dv 0) da_nil)) (dg_tup rfl (dgs_cons (dg_name (i := 1) nd rfl (by first | exact Or.inl rfl | exact Or.inr rfl)) (dgs_cons (dg_name (i := 2) nd rfl (by first | exact Or.inl rfl | exact Or.inr rfl)) dgs_nil)))
    (dss_one (ds_if (dt_not (dt_val (d_callC C_is_members hr (by decide) rfl (da_cons (dv 2) da_nil)))) dss_never dss_nil)))), ?_⟩
  obtain ⟨d, ps, rfl, hS, hb, q⟩ := h
  refine ⟨d, rfl, d, _, rfl, hS.1, ?_⟩
  refine for_inv (fun i ρ' G' => ∃ x1 x2, G' = G ∧ ρ' = [some d, x1, x2]) (fun i ρ' G' h => by obtain ⟨_, _, rfl, _⟩ := h; exact stab_seq hS.1) (fun i od ρ' G' C hi hI hC => ?_) (fun ρ' G' hI => by obtain ⟨_, _, rfl, _⟩ := hI; exact q) ⟨none, none, rfl, rfl⟩
  obtain ⟨x1, x2, rfl, rfl⟩ := hI
  obtain ⟨e, he, rfl⟩ := enumD_get hi
  rw [List.getElem?_map] at he
  cases hp : ps[i]? with
  | none => rw [hp] at he; cases he
  | some p =>
    rw [hp] at he
    cases he
    have hpm := List.mem_of_getElem? hp
    refine ⟨_, rfl, rfl, _, _, rfl, _, _, rfl, rfl, p.1, rfl, p.1, p.2, rfl, (hS.2 p hpm).1, hb p hpm, true, rfl, ?_⟩
    exact iF (hC _ _ ⟨_, _, rfl, rfl⟩)
/-- blocker(sets): new lists -/
def mBlocker : SpD := fun ds G Q => ∃ (d : D) (ps : List (D × List Int)) (b : List Int), ds = [d] ∧ Sets G d ps ∧ (∀ p ∈ ps, ∀ n ∈ p.2, 0 ≤ n ∧ n ≤ 99) ∧ InBase b ps ∧
  ∀ rs as G', BlockOf (ps.map (·.2)) rs → Keeps G G' → Held G' as rs → as.Nodup → (∀ a ∈ as, G a = none) → Q (.lst (as.map .ref)) G'
theorem body_blocker (C_need_sets : Cal P w K mg base "need_sets" 3 mNeed) (C_blocker_tuples : Cal P w K mg base "blocker_tuples" 3 mBT) (m_list : mg "list" = none) : BodyOk P w K mg base "blocker" s_blocker ["sets", "one"] 3 mBlocker := by
  intro f cdv A outer s H E hr ds G Q h
  have nd := sc_blocker.nd
  have hu := hr.units
  refine ⟨_, (dss_cons (ds_expr (d_callC C_need_sets hr (by decide) rfl (da_cons (dv 0) da_nil)))
  (dss_one (ds_ret (d_lc (own := [("one", 1)]) rfl nd (di_seq (d_callC C_blocker_tuples hr (by decide) rfl (da_cons (dv 0) da_nil))) (blkOk_by (by rfl)) ⟨_, fun _ _ _ _ _ => (pg_name (i := 1) nd rfl (by first | exact Or.inl rfl | exact Or.inr rfl)), (snd_gName 1)⟩ (by decide) (fun _ _ _ _ _ => dts_nil) (fun _ _ _ _ _ => (d_listOfM rfl m_list (da_cons (dv 1) da_nil))))))), ?_⟩
  obtain ⟨d, ps, b, rfl, hS, hb, hB, q⟩ := h
  refine ⟨d, rfl, d, ps, rfl, hS, hb, ?_⟩
  refine ⟨d, rfl, d, ps, b, rfl, hS, hB, fun rs G1 hR kp => ⟨_, rfl, ?_⟩⟩
  refine lc_inv (fun i ys G' => ∃ as, ys = as.map .ref ∧ Keeps G1 G' ∧ Held G' as (rs.take i) ∧ as.Nodup ∧ ∀ a ∈ as, G a = none) (fun _ _ _ _ => trivial) (fun i od ys G' C hi hI hC => ?_) (fun ys G' hI => ?_) ⟨[], rfl, Keeps.refl _, .nil, List.nodup_nil, fun a h => by simp at h⟩
  · obtain ⟨as, rfl, k2, hH, hn, h0⟩ := hI
    rw [List.getElem?_map] at hi
    cases ho : rs[i]? with
    | none => rw [ho] at hi; cases hi
    | some r =>
      rw [ho] at hi
      cases hi
      refine ⟨_, rfl, _, _, rfl, rfl, fun p hp => hC _ _ ⟨as ++ [p], by rw [List.map_append]; rfl, k2.trans (Keeps.new hp), ?_, ?_, fun a ha => ?_⟩⟩
      · rw [List.take_add_one, ho]
        exact (hH.keep (Keeps.new hp)).snoc updG_same
      · rw [List.nodup_append]
        refine ⟨hn, by simp, fun x hx y hy e => ?_⟩
        rw [List.mem_singleton.mp hy] at e
        obtain ⟨r', hr'⟩ := hH.some x hx
        rw [e, hp] at hr'
        cases hr'
      · rcases List.mem_append.mp ha with z | z
        · exact h0 a z
        · rw [List.mem_singleton.mp z]
          cases e : G p with
          | none => rfl
          | some m => rw [k2 p m (kp p m e)] at hp; cases hp
  · obtain ⟨as, rfl, k2, hH, hn, h0⟩ := hI
    rw [List.length_map, List.take_length] at hH
    exact q rs as G' hR (kp.trans k2) hH hn h0
theorem c_blocker (F : Dfn K mg "blocker" s_blocker) (C_need_sets : Cal P w K mg base "need_sets" 3 mNeed) (C_blocker_tuples : Cal P w K mg base "blocker_tuples" 3 mBT) (m_list : mg "list" = none) : Cal P w K mg base "blocker" 4 mBlocker :=
  calD F sc_blocker (fun _ _ _ _ _ _ us hl => match us, hl with | [_], _ => rfl) (fun ds G Q h => by obtain ⟨d, ps, b, rfl, _⟩ := h; rfl) (body_blocker C_need_sets C_blocker_tuples m_list)
/-- least_of(sets): new lists -/
def mLeastOf : SpD := fun ds G Q => ∃ (d : D) (ps : List (D × List Int)) (b : List Int), ds = [d] ∧ Sets G d ps ∧ (∀ p ∈ ps, ∀ n ∈ p.2, 0 ≤ n ∧ n ≤ 99) ∧ InBase b ps ∧
  ∀ rs as G', Least (ps.map (·.2)) rs → Keeps G G' → Held G' as rs → as.Nodup → (∀ a ∈ as, G a = none) → Q (.lst (as.map .ref)) G'
theorem c_least_of (F : Dfn K mg "least_of" s_least_of) (C_need_sets : Cal P w K mg base "need_sets" 3 mNeed) (C_least_tuples : Cal P w K mg base "least_tuples" 2 mLeast) (m_list : mg "list" = none) : Cal P w K mg base "least_of" 4 mLeastOf := by
  refine calD F sc_least_of (fun _ _ _ _ _ _ us hl => match us, hl with | [_], _ => rfl) (fun ds G Q h => by obtain ⟨d, ps, b, rfl, _⟩ := h; rfl) fun f cdv A outer s H E hr ds G Q h => ?_
  have nd := sc_least_of.nd
  have hu := hr.units
  refine ⟨_, (dss_cons (ds_expr (d_callC C_need_sets hr (by decide) rfl (da_cons (dv 0) da_nil)))
  (dss_one (ds_ret (d_lc (own := [("one", 1)]) rfl nd (di_seq (d_callC C_least_tuples hr (by decide) rfl (da_cons (dv 0) da_nil))) (blkOk_by (by rfl)) ⟨_, fun _ _ _ _ _ => (pg_name (i := 1) nd rfl (by first | exact Or.inl rfl | exact Or.inr rfl)), (snd_gName 1)⟩ (by decide) (fun _ _ _ _ _ => dts_nil) (fun _ _ _ _ _ => (d_listOfM rfl m_list (da_cons (dv 1) da_nil))))))), ?_⟩
  obtain ⟨d, ps, b, rfl, hS, hb, hB, q⟩ := h
  refine ⟨d, rfl, d, ps, rfl, hS, hb, ?_⟩
  refine ⟨d, rfl, d, ps, subL b, rfl, hS, by rw [subL_len]; exact Nat.le_trans (Nat.pow_le_pow_right (by decide) hB.small) (by decide), fun p hp => mem_subL hB.asc (asc_canon _) fun n hn => hB.sub p hp n ((mem_canon n _).mp hn), fun rs hR => ⟨_, rfl, ?_⟩⟩
  refine lc_inv (fun i ys G' => ∃ as, ys = as.map .ref ∧ Keeps G G' ∧ Held G' as (rs.take i) ∧ as.Nodup ∧ ∀ a ∈ as, G a = none) (fun _ _ _ _ => trivial) (fun i od ys G' C hi hI hC => ?_) (fun ys G' hI => ?_) ⟨[], rfl, Keeps.refl _, .nil, List.nodup_nil, fun a h => by simp at h⟩
  · obtain ⟨as, rfl, k2, hH, hn, h0⟩ := hI
    rw [List.getElem?_map] at hi
    cases ho : rs[i]? with
    | none => rw [ho] at hi; cases hi
    | some r =>
      rw [ho] at hi
      cases hi
      refine ⟨_, rfl, _, _, rfl, rfl, fun p hp => hC _ _ ⟨as ++ [p], by rw [List.map_append]; rfl, k2.trans (Keeps.new hp), ?_, ?_, fun a ha => ?_⟩⟩
      · rw [List.take_add_one, ho]
        exact (hH.keep (Keeps.new hp)).snoc updG_same
      · rw [List.nodup_append]
        refine ⟨hn, by simp, fun x hx y hy e => ?_⟩
        rw [List.mem_singleton.mp hy] at e
        obtain ⟨r', hr'⟩ := hH.some x hx
        rw [e, hp] at hr'
        cases hr'
      · rcases List.mem_append.mp ha with z | z
        · exact h0 a z
        · rw [List.mem_singleton.mp z]
          cases e : G p with
          | none => rfl
          | some m => rw [k2 p m e] at hp; cases hp
  · obtain ⟨as, rfl, k2, hH, hn, h0⟩ := hI
    rw [List.length_map, List.take_length] at hH
    exact q rs as G' hR k2 hH hn h0
end
end Bl

namespace Bl
open PySem PySem.Spec PyProof.Rows L2 PySem.W PySem.SeqAt PySem.Calls DL
abbrev s__law_draw : Stmt := topS 16
theorem sc__law_draw : FnScope ["_law_bag", "_law_many", "_law_cell", "_law_digit", "_law_seed"] ["_law_bag", "_law_many"] (defScope s__law_draw) := ⟨rfl, rfl, rfl, by decide +kernel, rfl, by decide +kernel, by decide +kernel⟩
theorem rd {G : GM} {b : Addr} {L : List D} {j : Int} {x : D} {Q : QD} (h : G b = some (.lst L)) (hk : atI L j = some x) (q : Q x G) : fIx (.ref b) (.int j) G Q := ⟨L, j, x, seq_ref h, rfl, hk, q⟩
/-- the bag's list -/
abbrev bagL (ns : List Int) (i : Nat) (r s c : Int) : MO := .lst [.lst (ns.map .int), .int i, .int r, .int s, .int c]
/-- a bag of numbers stands at b -/
def Bag (G : GM) (b : Addr) : Prop := ∃ (ns : List Int) (i : Nat) (r s c : Int), G b = some (bagL ns i r s c) ∧ 0 ≤ s ∧ s < 2147483587
/-- only what stands at b has changed -/
def Only (b : Addr) (G G' : GM) : Prop := ∀ a, a ≠ b → G' a = G a
theorem Only.refl (b : Addr) (G : GM) : Only b G G := fun _ _ => rfl
theorem Only.trans {b : Addr} {G G' G'' : GM} (h : Only b G G') (k : Only b G' G'') : Only b G G'' := fun a n => (k a n).trans (h a n)
theorem Only.upd {b : Addr} {G G' : GM} {m : MO} (h : Only b G G') : Only b G (updG G' b m) := fun a n => by rw [updG_ne n]; exact h a n
section
variable {P : Program} {w : World} {K : PySem.W.Frag} {mg : Str → Option Value} {base : Heap}
def mDraw : SpD := fun ds G Q => ∃ (b : Addr) (n : Int), ds = [.ref b, .int n] ∧ Bag G b ∧ 0 < n ∧ n < 1073741824 ∧ ∀ j G', 0 ≤ j → j < n → Bag G' b → Only b G G' → Q (.int j) G'
theorem c__law_draw (F : Dfn K mg "_law_draw" s__law_draw) (m_len : mg "len" = none) (m_int : mg "int" = none) : Cal P w K mg base "_law_draw" 1 mDraw := by
  refine calD F sc__law_draw (fun _ _ _ _ _ _ us hl => match us, hl with | [_, _], _ => rfl) (fun ds G Q h => by obtain ⟨b, n, rfl, _⟩ := h; rfl) fun f cdv A outer s H E hr ds G Q h => ?_
  have nd := sc__law_draw.nd
  have hu := hr.units
  obtain ⟨b, n, rfl, ⟨ns, i, r, sd, c, hG, hs0, hs1⟩, hn0, hn1, q⟩ := h
  have md : ∀ x : Int, 0 ≤ x % 2147483587 ∧ x % 2147483587 < 2147483587 := fun x => ⟨Int.emod_nonneg _ (by decide), Int.emod_lt_of_pos _ (by decide)⟩
  obtain ⟨t2, D2, h2⟩ : ∃ t : TSD, DSs (cxOf CX0 P w K mg base ["_law_bag", "_law_many", "_law_cell", "_law_digit", "_law_seed"] "_law_draw" (defScope s__law_draw) f cdv A outer s H E).nox ((defBody s__law_draw).drop 1) t ∧
      ∀ x2 x3 x4 (G' : GM) (i : Nat) (r sd c : Int), G' b = some (bagL ns i r sd c) → 0 ≤ sd → sd < 2147483587 → Only b G G' → t { nx := fun _ G' => Q .non G', rt := Q } [some (.ref b), some (.int n), x2, x3, x4] G' := by
    refine ⟨_, (dss_cons (ds_if (dt_gt (d_ix (dv 0) d_int) d_int) (dss_cons (ds_set (i := 3) nd rfl (by first | exact Or.inl rfl | exact Or.inr rfl) (d_mod (d_intOf rfl m_int (da_cons (d_ix (dv 0) d_int) da_nil)) (dv 1)))
    (dss_cons (ds_store (d_fdiv (d_ix (dv 0) d_int) (dv 1)) (dv 0) d_int)
    (dss_one (ds_ret (dv 3))))) dss_nil)
  (dss_cons (ds_store (d_add (d_ix (dv 0) d_int) d_int) (dv 0) d_int)
  (dss_cons (ds_set (i := 4) nd rfl (by first | exact Or.inl rfl | exact Or.inr rfl) (d_ix (dv 0) d_int))
  (dss_cons (ds_store (d_mod (d_intOf rfl m_int (da_cons (d_add (d_add (d_add (d_mul (dv 4) (dv 4)) (d_mul d_int (dv 4))) (d_mul d_int (d_ix (dv 0) d_int))) d_int) da_nil)) d_int) (dv 0) d_int)
  (dss_one (ds_ret (d_mod (d_intOf rfl m_int (da_cons (d_add (d_add (d_fdiv (d_ix (dv 0) d_int) d_int) (d_mul (dv 4) d_int)) (d_ix (dv 0) d_int)) da_nil)) (dv 1)))))))), fun x2 x3 x4 G' i r sd c hG hs0 hs1 on => ?_⟩
    refine ⟨_, rfl, ⟨_, _, _, seq_ref hG, rfl, rfl, r, 0, rfl, rfl, trivial, _, rfl, iC (fun _ => ?_) (fun _ => ?_)⟩⟩
    · refine ⟨_, rfl, ⟨_, _, _, seq_ref hG, rfl, rfl, r, rfl, .int n, rfl, r, n, rfl, rfl, hn0, ?_⟩⟩
      refine ⟨_, rfl, ⟨_, _, _, seq_ref hG, rfl, rfl, _, rfl, r, n, rfl, rfl, ⟨hn0, hn1⟩, _, rfl, b, _, 2, 2, rfl, hG, rfl, rfl, ?_⟩⟩
      exact ⟨_, rfl, q _ _ (Int.emod_nonneg _ (by omega)) (Int.emod_lt_of_pos _ hn0) ⟨ns, i, _, sd, c, updG_same, hs0, hs1⟩ on.upd⟩
    · refine ⟨_, rfl, ⟨_, _, _, seq_ref hG, rfl, rfl, c, 1, rfl, rfl, trivial, _, rfl, b, _, 4, 4, rfl, hG, rfl, rfl, ?_⟩⟩
      have hG1 : updG G' b (bagL ns i r sd (c + 1)) b = some (bagL ns i r sd (c + 1)) := updG_same
      refine ⟨_, rfl, ⟨_, _, _, seq_ref hG1, rfl, rfl, ?_⟩⟩
      refine ⟨.int sd, rfl, .int sd, rfl, sd, sd, rfl, rfl, .inl (by omega), .int sd, rfl, 65063, sd, rfl, rfl, .inl (by omega), _, _, rfl, rfl, trivial, _, rfl, ⟨_, _, _, seq_ref hG1, rfl, rfl, 6679, c + 1, rfl, rfl, .inl (by omega), _, _, rfl, rfl, trivial, _, _, rfl, rfl, trivial, _, rfl, _, _, rfl, rfl, (by decide : (0:Int) < 2147483587), _, rfl, b, _, 3, 3, rfl, hG1, rfl, rfl, ?_⟩⟩
      have hG2 : ∀ z : Int, updG (updG G' b (bagL ns i r sd (c + 1))) b (bagL ns i r z (c + 1)) b = some (bagL ns i r z (c + 1)) := fun z => updG_same
      refine ⟨_, rfl, ⟨_, _, _, seq_ref (hG2 _), rfl, rfl, _, _, rfl, rfl, ⟨by decide, by decide⟩, .int sd, rfl, sd, _, rfl, rfl, .inl (by omega), _, _, rfl, rfl, trivial, _, rfl, ⟨_, _, _, seq_ref (hG2 _), rfl, rfl, _, _, rfl, rfl, trivial, _, rfl, .int n, rfl, _, n, rfl, rfl, hn0, ?_⟩⟩⟩
      exact q _ _ (Int.emod_nonneg _ (by omega)) (Int.emod_lt_of_pos _ hn0) ⟨ns, i, r, _, c + 1, updG_same, (md _).1, (md _).2⟩ on.upd.upd
  refine ⟨_, dss_cons (ds_if (dt_w (dw_and (dt_eqI hu (d_ix (dv 0) d_int) d_int) (dw_and1 (dt_lt (d_ix (dv 0) d_int) (d_len rfl m_len (da_cons (d_ix (dv 0) d_int) da_nil)))))) (dss_cons (ds_set (i := 2) nd rfl (by first | exact Or.inl rfl | exact Or.inr rfl) (d_ix (d_ix (dv 0) d_int) (d_ix (dv 0) d_int)))
    (dss_cons (ds_store (d_add (d_ix (dv 0) d_int) d_int) (dv 0) d_int)
    (dss_cons (ds_store (d_if (dt_ge (dv 2) (d_pow d_int d_int)) (dv 2) d_int) (dv 0) d_int)
    (dss_one (ds_store (d_mod (d_intOf rfl m_int (da_cons (d_add (d_add (d_mul (d_ix (dv 0) d_int) d_int) (d_mul (d_mod (d_intOf rfl m_int (da_cons (dv 2) da_nil)) d_int) d_int)) d_int) da_nil)) d_int) (dv 0) d_int))))) dss_nil) D2, ?_⟩
  refine ⟨_, rfl, ⟨_, _, _, seq_ref hG, rfl, rfl, r, 0, rfl, rfl, trivial, _, rfl, iC (fun _ => ?_) (fun _ => ?_)⟩⟩
  · refine ⟨_, rfl, ⟨_, _, _, seq_ref hG, rfl, rfl, _, rfl, ⟨_, _, _, seq_ref hG, rfl, rfl, _, _, rfl, rfl, i, _, rfl, rfl, trivial, _, rfl, iC (fun hlt => ?_) (fun _ => ?_)⟩⟩⟩
    · have hlt : (i : Int) < ((ns.map D.int).length : Int) := of_decide_eq_true hlt
      have hl : i < ns.length := by rw [List.length_map] at hlt; omega
      have hx : atI (ns.map D.int) (i : Int) = some (.int ns[i]) := atI_nat (by rw [List.getElem?_map, List.getElem?_eq_getElem hl]; rfl)
      refine ⟨_, rfl, ⟨_, _, _, seq_ref hG, rfl, rfl, _, rfl, ⟨_, _, _, seq_ref hG, rfl, rfl, _, (i : Int), _, rfl, rfl, hx, ?_⟩⟩⟩
      refine ⟨_, rfl, ⟨_, _, _, seq_ref hG, rfl, rfl, _, _, rfl, rfl, trivial, _, rfl, b, _, 1, 1, rfl, hG, rfl, rfl, ?_⟩⟩
      have hG1 : updG G b (.lst [.lst (ns.map .int), .int ((i : Int) + 1), .int r, .int sd, .int c]) b = some (bagL ns (i + 1) r sd c) := by rw [updG_same]; rfl
      have fin : ∀ r' : Int, dSeq (dStore (dBin fMod (dCB fInt (dCons (dBin fAdd (dBin fAdd (dBin fMul (dBin fIx (dVar 0) (dC (.int 3))) (dC (.int 40039))) (dBin fMul (dBin fMod (dCB fInt (dCons (dVar 2) dNil)) (dC (.int 2147483549))) (dC (.int 337)))) (dC (.int 2017))) dNil)) (dC (.int 2147483587))) (dVar 0) (dC (.int 3))) t2 { nx := fun _ G' => Q .non G', rt := Q } [some (.ref b), some (.int n), some (.int ns[i]), none, none] (updG (updG G b (.lst [.lst (ns.map .int), .int ((i : Int) + 1), .int r, .int sd, .int c])) b (.lst [.lst (ns.map .int), .int ((i : Int) + 1), .int r', .int sd, .int c])) := fun r' => by
        have hG2 : updG (updG G b (.lst [.lst (ns.map .int), .int ((i : Int) + 1), .int r, .int sd, .int c])) b (.lst [.lst (ns.map .int), .int ((i : Int) + 1), .int r', .int sd, .int c]) b = some (bagL ns (i + 1) r' sd c) := by rw [updG_same]; rfl
        refine ⟨_, rfl, ⟨_, _, _, seq_ref hG2, rfl, rfl, sd, _, rfl, rfl, .inl (by omega), .int ns[i], rfl, _, rfl, _, _, rfl, rfl, (by decide : (0:Int) < 2147483549), _, _, rfl, rfl, .inr (by decide), _, _, rfl, rfl, trivial, _, _, rfl, rfl, trivial, _, rfl, _, _, rfl, rfl, (by decide : (0:Int) < 2147483587), _, rfl, b, _, 3, 3, rfl, hG2, rfl, rfl, ?_⟩⟩
        exact h2 _ _ _ _ (i + 1) r' _ c updG_same (md _).1 (md _).2 (Only.refl b G).upd.upd.upd
      refine ⟨.int ns[i], rfl, _, _, rfl, rfl, ⟨by decide, by decide, by decide⟩, _, _, rfl, rfl, trivial, _, rfl, iC (fun _ => ?_) (fun _ => ?_)⟩
      · exact ⟨_, rfl, _, rfl, b, _, 2, 2, rfl, hG1, rfl, rfl, fin _⟩
      · exact ⟨_, rfl, b, _, 2, 2, rfl, hG1, rfl, rfl, fin _⟩
    · exact h2 _ _ _ _ i r sd c hG hs0 hs1 (Only.refl b G)
  · exact h2 _ _ _ _ i r sd c hG hs0 hs1 (Only.refl b G)
end
end Bl

namespace Bl
open PySem PySem.Spec PyProof.Rows L2 PySem.W PySem.SeqAt PySem.Calls DL
abbrev s__law_like : Stmt := topS 17
theorem sc__law_like : FnScope ["_law_found", "_law_due", "_law_one", "_law_other"] ["_law_found", "_law_due"] (defScope s__law_like) := ⟨rfl, rfl, rfl, by decide +kernel, rfl, by decide +kernel, by decide +kernel⟩
section
variable {P : Program} {w : World} {K : PySem.W.Frag} {mg : Str → Option Value} {base : Heap}
/-- a scalar (a text: of text's own letters) -/
def LS (d : D) : Prop := d.scal = true ∧ SeqAt.shaped d.py = true
/-- data of at most n levels -/
def LD : Nat → D → Prop
  | 0, d => LS d
  | n + 1, d => LS d ∨ ∃ es, (d = .lst es ∨ d = .tup es) ∧ ∀ e ∈ es, LD n e
def mLike (n : Nat) : SpD := fun ds G Q => ∃ d, ds = [d, d] ∧ LD n d ∧ Q (.bl true) G
theorem cal_never {x : Str} {st : Stmt} {ps : List Str} (F : Dfn K mg x st)
    (hb : ∀ (kV doc pm : Value) (an : Option Addr) (cdv ct : Value) (us : List Value), us.length = ps.length → bindArgs (PySem.W.fnOf x x (defArgs st) (defBody st) (defScope st) .none kV doc pm an cdv ct) ⟨us, []⟩ = pure (ps.zip us)) : Cal P w K mg base x 0 (fun _ _ _ => False) := by
  obtain ⟨f, fd, Fn, g⟩ := F.ex
  refine ⟨f, fd, ps, ⟨fun vs H Q E h => ?_, fun A outer s H args us vs Q E _ _ _ _ h => ?_⟩, g, Fn.kp, Fn.binds hb⟩
  · obtain ⟨_, _, _, _, _, _, h, _⟩ := h; exact h.elim
  · obtain ⟨_, _, _, _, _, _, h, _⟩ := h; exact h.elim
/-- what kinds a scalar is of -/
theorem scal_ty (G : GM) {d : D} (h : d.scal = true) : ∃ T bB bI bS, tyD G d = some T ∧ kitB T "list" = some false ∧ kitB T "tuple" = some false ∧ kitB T "bool" = some bB ∧ kitB T "int" = some bI ∧ kitB T "str" = some bS := by
  cases d with
  | non => exact ⟨_, _, _, _, rfl, by decide +kernel, by decide +kernel, (by decide +kernel : kitB "NoneType" "bool" = some false), (by decide +kernel : kitB "NoneType" "int" = some false), (by decide +kernel : kitB "NoneType" "str" = some false)⟩
  | bl b => exact ⟨_, _, _, _, rfl, by decide +kernel, by decide +kernel, (by decide +kernel : kitB "bool" "bool" = some true), (by decide +kernel : kitB "bool" "int" = some true), (by decide +kernel : kitB "bool" "str" = some false)⟩
  | int b => exact ⟨_, _, _, _, rfl, by decide +kernel, by decide +kernel, (by decide +kernel : kitB "int" "bool" = some false), (by decide +kernel : kitB "int" "int" = some true), (by decide +kernel : kitB "int" "str" = some false)⟩
  | str b => exact ⟨_, _, _, _, rfl, by decide +kernel, by decide +kernel, (by decide +kernel : kitB "str" "bool" = some false), (by decide +kernel : kitB "str" "int" = some false), (by decide +kernel : kitB "str" "str" = some true)⟩
  | _ => cases h
theorem scal_dat {d : D} (h : d.scal = true) : d.dat = true := by cases d <;> first | rfl | cases h
theorem scal_eqv {d : D} (h : d.scal = true) : PyData.eqv d.py d.py = true := by
  cases d with
  | non => rfl
  | bl b => show PyData.eqv (.bool b) (.bool b) = true; rw [PyData.eqv]; exact beq_self_eq_true b
  | int b => show PyData.eqv (.int b) (.int b) = true; rw [eqv_int]; exact decide_eq_true rfl
  | str b => show PyData.eqv (.str b) (.str b) = true; rw [PyData.eqv]; exact beq_self_eq_true b
  | _ => cases h
theorem not_self (b : Bool) : (!decide (b = b)) = false := by rw [decide_eq_true rfl]; rfl
theorem zip_self : ∀ es : List D, zipD es es = es.map fun e => .tup [e, e]
  | [] => rfl
  | e :: es => by rw [zipD, zip_self es]; rfl
theorem c__law_like (F : Dfn K mg "_law_like" s__law_like) (m_isinstance : mg "isinstance" = none) (m_list : mg "list" = none) (m_tuple : mg "tuple" = none) (m_bool : mg "bool" = none) (m_int : mg "int" = none) (m_str : mg "str" = none) (m_len : mg "len" = none) (m_all : mg "all" = none) (m_zip : mg "zip" = none) :
    ∀ n, Cal P w K mg base "_law_like" (n + 1) (mLike n) := by
  have bnd : ∀ (kV doc pm : Value) (an : Option Addr) (cdv ct : Value) (us : List Value), us.length = (["_law_found", "_law_due"] : List Str).length → bindArgs (PySem.W.fnOf "_law_like" "_law_like" (defArgs s__law_like) (defBody s__law_like) (defScope s__law_like) .none kV doc pm an cdv ct) ⟨us, []⟩ = pure ((["_law_found", "_law_due"] : List Str).zip us) :=
    fun _ _ _ _ _ _ us hl => match us, hl with | [_, _], _ => rfl
  have step : ∀ n (m : SpD), Cal P w K mg base "_law_like" n m → (∀ d, LD n d → LS d ∨ ∃ es, (d = .lst es ∨ d = .tup es) ∧ ∀ e ∈ es, ∀ G Q, Q (.bl true) G → m [e, e] G Q) → Cal P w K mg base "_law_like" (n + 1) (mLike n) := by
    intro n m C__law_like hm
    refine calD F sc__law_like bnd (fun ds G Q h => by obtain ⟨d, rfl, _⟩ := h; rfl) fun f cdv A outer s H E hr ds G Q h => ?_
    have nd := sc__law_like.nd
    have hu := hr.units
    refine ⟨_, (dss_cons (ds_if (dt_val (d_isi2 (C := "list") (C' := "tuple") rfl m_isinstance (dv 1) rfl m_list (by decide +kernel) rfl m_tuple (by decide +kernel))) (dss_cons (ds_if (dt_w (dw_or (dt_neB hu (d_isi rfl m_isinstance (da_cons (dv 0) (da_cons (d_ty (n := "list") rfl m_list (by decide +kernel)) da_nil))) (d_isi rfl m_isinstance (da_cons (dv 1) (da_cons (d_ty (n := "list") rfl m_list (by decide +kernel)) da_nil)))) (dw_or1 (dt_neB hu (d_isi rfl m_isinstance (da_cons (dv 0) (da_cons (d_ty (n := "tuple") rfl m_tuple (by decide +kernel)) da_nil))) (d_isi rfl m_isinstance (da_cons (dv 1) (da_cons (d_ty (n := "tuple") rfl m_tuple (by decide +kernel)) da_nil))))))) (dss_one (ds_ret d_bl)) dss_nil)
    (dss_one (ds_ret (d_and (d_eqI hu (d_len rfl m_len (da_cons (dv 0) da_nil)) (d_len rfl m_len (da_cons (dv 1) da_nil))) (d_one (d_all rfl rfl m_all (da_cons (d_lc (own := [("_law_one", 2), ("_law_other", 3)]) rfl nd (di_zip rfl m_zip (da_cons (dv 0) (da_cons (dv 1) da_nil))) (blkOk_by (by rfl)) ⟨_, fun _ _ _ _ _ => (pg_tup (n := 2) rfl (pgs_cons (pg_name (i := 2) nd rfl (by first | exact Or.inl rfl | exact Or.inr rfl)) (pgs_cons (pg_name (i := 3) nd rfl (by first | exact Or.inl rfl | exact Or.inr rfl)) pgs_nil))), (snd_tup (snd_cons (snd_gName 2) (snd_cons (snd_gName 3) snd_nil)))⟩ (by decide) (fun _ _ _ _ _ => dts_nil) (fun _ _ _ _ _ => (d_callC C__law_like hr (by first | decide | omega) rfl (da_cons (dv 2) (da_cons (dv 3) da_nil))))) da_nil))))))) dss_nil)
  (dss_cons (ds_if (dt_w (dw_or (dt_isN (dv 1) d_non) (dw_or1 (dt_isN (dv 0) d_non)))) (dss_one (ds_ret (d_and (d_isN (dv 1) d_non) (d_one (d_isN (dv 0) d_non))))) dss_nil)
  (dss_cons (ds_if (dt_w (dw_or (dt_neB hu (d_isi rfl m_isinstance (da_cons (dv 0) (da_cons (d_ty (n := "bool") rfl m_bool (by decide +kernel)) da_nil))) (d_isi rfl m_isinstance (da_cons (dv 1) (da_cons (d_ty (n := "bool") rfl m_bool (by decide +kernel)) da_nil)))) (dw_or1 (dt_neB hu (d_isi rfl m_isinstance (da_cons (dv 0) (da_cons (d_ty (n := "int") rfl m_int (by decide +kernel)) da_nil))) (d_isi rfl m_isinstance (da_cons (dv 1) (da_cons (d_ty (n := "int") rfl m_int (by decide +kernel)) da_nil))))))) (dss_one (ds_ret d_bl)) dss_nil)
  (dss_one (ds_ret (d_and (d_eqB hu (d_isi rfl m_isinstance (da_cons (dv 0) (da_cons (d_ty (n := "str") rfl m_str (by decide +kernel)) da_nil))) (d_isi rfl m_isinstance (da_cons (dv 1) (da_cons (d_ty (n := "str") rfl m_str (by decide +kernel)) da_nil)))) (d_one (d_eq hu (dv 0) (dv 1))))))))), ?_⟩
    obtain ⟨d, rfl, hd, q⟩ := h
    rcases hm d hd with ⟨hs, hsh⟩ | ⟨es, he, hes⟩
    · obtain ⟨T, bB, bI, bS, hT, hL, hTu, hB, hI, hS⟩ := scal_ty G hs
      refine ⟨d, rfl, T, false, false, hT, hL, hTu, _, rfl, iF ?_⟩
      refine ⟨d, rfl, rfl, isNonD d, rfl, iC (fun hn => ?_) (fun hn => ?_)⟩
      · refine iT ⟨d, rfl, rfl, isNonD d, rfl, iB hn ⟨d, rfl, rfl, ?_⟩⟩
        have e : (if false = true then !isNonD d else isNonD d) = true := hn
        rw [e]; exact q
      · refine ⟨d, rfl, rfl, isNonD d, rfl, iN hn ?_⟩
        refine ⟨d, rfl, d, T, _, bB, rfl, hT, hB, d, rfl, d, T, _, bB, rfl, hT, hB, bB, bB, rfl, rfl, _, rfl, iN (not_self bB) ?_⟩
        refine ⟨d, rfl, d, T, _, bI, rfl, hT, hI, d, rfl, d, T, _, bI, rfl, hT, hI, bI, bI, rfl, rfl, _, rfl, iN (not_self bI) ?_⟩
        refine ⟨d, rfl, d, T, _, bS, rfl, hT, hS, d, rfl, d, T, _, bS, rfl, hT, hS, bS, bS, rfl, rfl, _, rfl, iB (decide_eq_true rfl) ?_⟩
        refine ⟨d, rfl, d, rfl, d, d, Vw.self (scal_dat hs), Vw.self (scal_dat hs), hsh, hsh, ?_⟩
        rw [scal_eqv hs]; exact q
    · obtain ⟨T, bL, bT, hT, hL, hTu, hor⟩ : ∃ T bL bT, tyD G d = some T ∧ kitB T "list" = some bL ∧ kitB T "tuple" = some bT ∧ (bL || bT) = true := by
        rcases he with rfl | rfl
        · exact ⟨_, _, _, rfl, (by decide +kernel : kitB "list" "list" = some true), (by decide +kernel : kitB "list" "tuple" = some false), rfl⟩
        · exact ⟨_, _, _, rfl, (by decide +kernel : kitB "tuple" "list" = some false), (by decide +kernel : kitB "tuple" "tuple" = some true), rfl⟩
      have hseq : seqG G d = some es := by rcases he with rfl | rfl <;> rfl
      refine ⟨d, rfl, T, bL, bT, hT, hL, hTu, _, rfl, iB hor ?_⟩
      refine ⟨d, rfl, d, T, _, bL, rfl, hT, hL, d, rfl, d, T, _, bL, rfl, hT, hL, bL, bL, rfl, rfl, _, rfl, iN (not_self bL) ?_⟩
      refine ⟨d, rfl, d, T, _, bT, rfl, hT, hTu, d, rfl, d, T, _, bT, rfl, hT, hTu, bT, bT, rfl, rfl, _, rfl, iN (not_self bT) ?_⟩
      refine ⟨d, rfl, d, es, rfl, hseq, d, rfl, d, es, rfl, hseq, _, _, rfl, rfl, trivial, _, rfl, iB (decide_eq_true rfl) ?_⟩
      have walk : ∀ (stab : GM → Prop) (R : List D → GM → Prop), stab G → R (es.map fun _ => D.bl true) G → lcD stab (gT 2 (gsCons (gN 2) (gsCons (gN 3) gsNil))) dYes (dCall m (dCons (dVar 2) (dCons (dVar 3) dNil))) [some d, some d, none, none] (zipD es es) G R := fun stab R st hR => by
        rw [zip_self]
        exact lc_mapC (fun e => .tup [e, e]) (fun _ => .bl true) st (fun e he QT hQ => ⟨_, rfl, rfl, e, _, rfl, e, _, rfl, rfl, e, rfl, e, rfl, hes e he G QT hQ⟩) hR
      have fin : ∀ (Q' : QD), Q' (.bl true) G → fAny true [.lst (es.map fun _ => D.bl true)] G Q' := fun Q' hQ => by
        refine ⟨_, es.map fun _ => true, rfl, ?_, ?_⟩
        · rw [all_mapB]; rfl
        · have e : (es.map fun _ => true).all id = true := by simp
          show Q' (.bl ((es.map fun _ => true).all id)) G
          rw [e]; exact hQ
      refine ⟨d, rfl, d, rfl, d, d, es, es, rfl, ?_⟩
      rcases he with rfl | rfl
      · exact .inl ⟨rfl, rfl, walk _ _ ⟨trivial, trivial⟩ (fin _ q)⟩
      · exact .inr ⟨rfl, rfl, walk _ _ trivial (fin _ q)⟩
  intro n
  induction n with
  | zero => exact step 0 _ (cal_never F bnd) fun d hd => .inl hd
  | succ n ih =>
    refine step (n + 1) (mLike n) ih fun d hd => ?_
    rcases hd with h | ⟨es, he, h⟩
    · exact .inl h
    · exact .inr ⟨es, he, fun e hm G Q hq => ⟨e, rfl, h e hm, hq⟩⟩
end
end Bl

namespace Bl
open PySem PySem.Spec PyProof.Rows L2 PySem.W PySem.SeqAt PySem.Calls DL
abbrev s__law_least : Stmt := topS 18
theorem sc__law_least : FnScope ["_law_sets", "_law_found", "_law_one", "_law_member", "_law_other"] ["_law_sets"] (defScope s__law_least) := ⟨rfl, rfl, rfl, by decide +kernel, rfl, by decide +kernel, by decide +kernel⟩
/-! ### rows of whole numbers as data -/
theorem py_row (k : List Int) : (rowD k).py = .list (k.map .int) := by
  rw [D.py, pys_map, List.map_map]; rfl
theorem pys_rows (rs : List (List Int)) : D.pys (rs.map rowD) = rs.map fun k => PyData.list (k.map .int) := by
  rw [pys_map, List.map_map]
  refine List.map_congr_left fun k _ => ?_
  exact py_row k
theorem eqvAll_ints : ∀ xs ys : List Int, PyData.eqvAll (xs.map .int) (ys.map .int) = decide (xs = ys)
  | [], [] => by simp [PyData.eqvAll]
  | [], _ :: _ => by simp [PyData.eqvAll]
  | _ :: _, [] => by simp [PyData.eqvAll]
  | x :: xs, y :: ys => by
    have ih := eqvAll_ints xs ys
    rw [List.map_cons, List.map_cons, eqv_all_cons, eqv_int, ih]
    by_cases h : x = y <;> by_cases k : xs = ys <;> simp [h, k]
theorem eqv_rows (xs ys : List Int) : PyData.eqv (rowD xs).py (rowD ys).py = decide (xs = ys) := by
  rw [py_row, py_row, PyData.eqv, eqvAll_ints]
theorem canLay_ints : ∀ xs : List Int, PyData.canLayAll0 (xs.map .int) = true
  | [] => by simp [PyData.canLayAll0]
  | x :: xs => by
    rw [List.map_cons, PyData.canLayAll0, canLay_ints xs]
    simp [PyData.canLay0]
theorem shaped_row (k : List Int) : SeqAt.shaped (rowD k).py = true := by
  rw [py_row]
  unfold SeqAt.shaped
  rw [PyData.canLay0, canLay_ints, PyData.depth, depth_ints]
  rfl
theorem canLay_rows : ∀ rs : List (List Int), PyData.canLayAll0 (rs.map fun k => PyData.list (k.map .int)) = true ∧ PyData.depthAll (rs.map fun k => PyData.list (k.map .int)) ≤ 1
  | [] => by simp [PyData.canLayAll0, PyData.depthAll]
  | r :: rs => by
    obtain ⟨h1, h2⟩ := canLay_rows rs
    rw [List.map_cons, PyData.canLayAll0, PyData.depthAll, h1, PyData.canLay0, canLay_ints, PyData.depth, depth_ints]
    refine ⟨rfl, ?_⟩
    omega
theorem shaped_rows (rs : List (List Int)) : SeqAt.shaped (.list (D.pys (rs.map rowD))) = true := by
  rw [pys_rows]
  unfold SeqAt.shaped
  obtain ⟨h1, h2⟩ := canLay_rows rs
  rw [PyData.canLay0, h1, PyData.depth]
  have : PyData.depthAll (rs.map fun k => PyData.list (k.map .int)) + 1 ≤ 64 := by omega
  rw [decide_eq_true this]
  rfl
theorem dat_ints : ∀ k : List Int, D.dats (k.map .int) = true
  | [] => rfl
  | x :: k => by rw [List.map_cons, D.dats, dat_ints k]; rfl
theorem dat_row (k : List Int) : (rowD k).dat = true := by rw [D.dat]; exact dat_ints k
theorem dat_rows : ∀ rs : List (List Int), D.dats (rs.map rowD) = true
  | [] => rfl
  | r :: rs => by rw [List.map_cons, D.dats, dat_rows rs, dat_row]; rfl
theorem any_rows (rs : List (List Int)) (k : List Int) : ((D.pys (rs.map rowD)).any fun z => PyData.eqv z (rowD k).py) = decide (k ∈ rs) := by
  rw [pys_map, List.map_map, List.any_map]
  rw [Bool.eq_iff_iff, List.any_eq_true, decide_eq_true_iff]
  constructor
  · rintro ⟨r, hr, h⟩
    have h : PyData.eqv (rowD r).py (rowD k).py = true := h
    rw [eqv_rows] at h
    rw [← of_decide_eq_true h]; exact hr
  · intro hk
    refine ⟨k, hk, ?_⟩
    show PyData.eqv (rowD k).py (rowD k).py = true
    rw [eqv_rows]; exact decide_eq_true rfl
/-- in order -/
def sortR (ms : List (List Int)) : List (List Int) := ms.mergeSort fun x y => decide (x ≤ y)
theorem sort_rows (ms : List (List Int)) : (ms.map rowD).mergeSort (dataLe false D.py) = (sortR ms).map rowD := by
  unfold sortR
  rw [sort_maps (s := dataLe false D.py) rowD]
  intro x _ y _
  have e : dataLe false D.py (rowD x) (rowD y) = dataLe false (fun k : List Int => PyData.list (k.map .int)) x y := by
    show (!dataLt _ _) = (!dataLt _ _)
    rw [py_row, py_row]
  rw [e, dataLe_rows fun k => k]
theorem sortR_perm (ms : List (List Int)) : (sortR ms).Perm ms := List.mergeSort_perm _ _
theorem sortR_ord (ms : List (List Int)) : (sortR ms).Pairwise (· ≤ ·) := by
  have h := List.pairwise_mergeSort (le := fun x y : List Int => decide (x ≤ y)) (fun a b c h1 h2 => decide_eq_true (List.le_trans (of_decide_eq_true h1) (of_decide_eq_true h2))) (fun a b => by
    rcases List.le_total a b with h | h
    · simp [h]
    · simp [h]) ms
  exact h.imp fun h => of_decide_eq_true h
/-- the least of ms: those of which no other one of ms is a part, in order, each once -/
structure LeastP (ms rs : List (List Int)) : Prop where
  ord : rs.Pairwise ltL
  mem : ∀ k, k ∈ rs ↔ (k ∈ ms ∧ ∀ j ∈ ms, j ≠ k → ¬ Sub j k)
def leastQ (ms : List (List Int)) (k : List Int) : Bool := !(ms.any fun j => !decide (j = k) && j.all fun n => decide (n ∈ k))
theorem leastQ_iff {ms : List (List Int)} {k : List Int} : leastQ ms k = true ↔ ∀ j ∈ ms, j ≠ k → ¬ Sub j k := by
  unfold leastQ
  rw [Bool.not_eq_true', ← Bool.not_eq_true, List.any_eq_true]
  constructor
  · intro h j hj hl hs
    refine h ⟨j, hj, ?_⟩
    rw [Bool.and_eq_true, Bool.not_eq_true', decide_eq_false_iff_not]
    exact ⟨hl, List.all_eq_true.mpr fun n hn => decide_eq_true (hs n hn)⟩
  · rintro h ⟨j, hj, hb⟩
    rw [Bool.and_eq_true, Bool.not_eq_true', decide_eq_false_iff_not] at hb
    exact h j hj hb.1 fun n hn => of_decide_eq_true (List.all_eq_true.mp hb.2 n hn)
section
variable {P : Program} {w : World} {K : PySem.W.Frag} {mg : Str → Option Value} {base : Heap}
def mLawLeast : SpD := fun ds G Q => ∃ (ms : List (List Int)), ds = [.lst (ms.map rowD)] ∧ ms.length ≤ 1000 ∧ ∀ rs p, LeastP ms rs → G p = none → Q (.ref p) (updG G p (.lst (rs.map rowD)))
theorem c__law_least (F : Dfn K mg "_law_least" s__law_least) (m_sorted : mg "sorted" = none) (m_any : mg "any" = none) (m_all : mg "all" = none) : Cal P w K mg base "_law_least" 1 mLawLeast := by
  refine calD F sc__law_least (fun _ _ _ _ _ _ us hl => match us, hl with | [_], _ => rfl) (fun ds G Q h => by obtain ⟨ms, rfl, _⟩ := h; rfl) fun f cdv A outer s H E hr ds G Q h => ?_
  have nd := sc__law_least.nd
  have hu := hr.units
  have hu1 : (A.deeper (envOfC "_law_least" (defScope s__law_least) s.heap.objs.size f cdv)).units + 65 < cLine := by have := hr.un; omega
  refine ⟨_, (dss_cons (ds_set (i := 1) nd rfl (by first | exact Or.inl rfl | exact Or.inr rfl) (d_lstM da_nil))
  (dss_cons (ds_for PassesOwn.never rfl (di_seq (d_sortD hu rfl m_sorted (da_cons (dv 0) da_nil))) (dg_name (i := 2) nd rfl (by first | exact Or.inl rfl | exact Or.inr rfl))
    (dss_one (ds_if (dt_w (dw_and (dt_notInD hu1 (dv 2) (dv 1)) (dw_and1 (dt_not (dt_val (d_any rfl rfl m_any (da_cons (d_lc (own := [("_law_other", 4)]) rfl nd (di_seq (dv 0)) (blkOk_by (by rfl)) ⟨_, fun _ _ _ _ _ => (pg_name (i := 4) nd rfl (by first | exact Or.inl rfl | exact Or.inr rfl)), (snd_gName 4)⟩ (by decide) (fun _ _ _ _ _ => dts_nil) (fun _ _ _ _ _ => (d_and (d_ne hu (dv 4) (dv 2)) (d_one (d_all rfl rfl m_all (da_cons (d_lc (own := [("_law_member", 3)]) rfl nd (di_seq (dv 4)) (blkOk_by (by rfl)) ⟨_, fun _ _ _ _ _ => (pg_name (i := 3) nd rfl (by first | exact Or.inl rfl | exact Or.inr rfl)), (snd_gName 3)⟩ (by decide) (fun _ _ _ _ _ => dts_nil) (fun _ _ _ _ _ => (d_inI (dv 3) (dv 2)))) da_nil)))))) da_nil))))))) (dss_one (ds_expr (d_append (dv 1) (da_cons (dv 2) da_nil)))) dss_nil)))
  (dss_one (ds_ret (dv 1))))), ?_⟩
  obtain ⟨ms, rfl, hl, q⟩ := h
  refine ⟨by decide, fun p hp => ?_⟩
  have slen : (sortR ms).length = ms.length := (sortR_perm ms).length_eq
  refine ⟨_, rfl, _, _, rfl, rfl, dat_rows ms, ?_, fun e he => ?_, _, rfl, ?_⟩
  · have e : (ms.map rowD).map D.py = ms.map fun k => PyData.list (k.map .int) := by rw [← pys_map, pys_rows]
    rw [e]
    exact AllAlike.of fun b b' => by
      show alike (.list _) (.list _) = true
      rw [alike]
      exact alike_ints _ _
  · obtain ⟨k, _, rfl⟩ := List.mem_map.mp he
    rw [py_row]
    refine ⟨(fun z => by cases z), ?_⟩
    rw [PyData.depth, depth_ints]
    omega
  · rw [sort_rows]
    refine for_inv (fun i ρ' G' => ∃ rs x2 x3 x4, ρ' = [some (.lst (ms.map rowD)), some (.ref p), x2, x3, x4] ∧ G' = updG G p (.lst (rs.map rowD)) ∧ rs.length ≤ i ∧ rs.Pairwise ltL ∧ ∀ k, k ∈ rs ↔ (k ∈ (sortR ms).take i ∧ leastQ ms k = true)) (fun _ _ _ _ => trivial) (fun i od ρ' G' C hi hI hC => ?_) (fun ρ' G' hI => ?_) ⟨[], none, none, none, rfl, rfl, by simp, List.Pairwise.nil, fun k => by simp⟩
    · obtain ⟨rs, x2, x3, x4, rfl, rfl, hlen, ho, hk⟩ := hI
      rw [List.getElem?_map] at hi
      cases hsi : (sortR ms)[i]? with
      | none => rw [hsi] at hi; cases hi
      | some k =>
        rw [hsi] at hi
        cases hi
        have take1 : (sortR ms).take (i + 1) = (sortR ms).take i ++ [k] := by rw [List.take_add_one, hsi]; rfl
        have ilt : i < (sortR ms).length := (List.getElem?_eq_some_iff.mp hsi).1
        have skip : (k ∈ rs ∨ leastQ ms k = false) → ∀ j, j ∈ rs ↔ (j ∈ (sortR ms).take (i + 1) ∧ leastQ ms j = true) := fun hor j => by
          rw [take1, List.mem_append, List.mem_singleton, hk j]
          constructor
          · rintro ⟨a, b⟩; exact ⟨.inl a, b⟩
          · rintro ⟨a | a, b⟩
            · exact ⟨a, b⟩
            · subst a
              rcases hor with z | z
              · exact (hk j).mp z
              · rw [z] at b; cases b
        refine ⟨_, rfl, _, rfl, _, _, Vw.self (dat_row k), .ref updG_same (vws_rows rs), shaped_row k, shaped_rows rs, ?_⟩
        rw [any_rows]
        refine ⟨_, rfl, ?_⟩
        show if (!decide (k ∈ rs)) = true then _ else _
        refine iC (fun hn => ?_) (fun hn => ?_)
        · have hn : k ∉ rs := by simpa using hn
          refine ⟨_, rfl, _, rfl, lc_mapC rowD (fun j => .bl (!decide (j = k) && j.all fun n => decide (n ∈ k))) trivial (fun j hj QT hQ => ?_) ?_⟩
          · refine ⟨_, rfl, _, rfl, _, _, Vw.self (dat_row j), Vw.self (dat_row k), shaped_row j, shaped_row k, ?_⟩
            rw [eqv_rows]
            refine ⟨_, rfl, ?_⟩
            cases hb : (!decide (j = k)) with
            | true =>
              rw [hb] at hQ
              refine iT ⟨_, rfl, _, rfl, lc_mapC D.int (fun n => .bl (decide (n ∈ k))) trivial (fun n hn QT' hQ' => ⟨_, rfl, _, rfl, n, k, rfl, rfl, hQ'⟩) ?_⟩
              refine ⟨_, j.map fun n => decide (n ∈ k), rfl, by rw [all_mapB]; rfl, ?_⟩
              have e : (j.map fun n => decide (n ∈ k)).all id = j.all fun n => decide (n ∈ k) := by rw [List.all_map]; rfl
              show QT (.bl ((j.map fun n => decide (n ∈ k)).all id)) _
              rw [e]; exact hQ
            | false => rw [hb] at hQ; exact iF hQ
          · refine ⟨_, ms.map fun j => !decide (j = k) && j.all fun n => decide (n ∈ k), rfl, by rw [all_mapB]; rfl, _, rfl, ?_⟩
            have e : (!(ms.map fun j => !decide (j = k) && j.all fun n => decide (n ∈ k)).any id) = leastQ ms k := by
              unfold leastQ
              rw [List.any_map]; rfl
            show if (!(ms.map fun j => !decide (j = k) && j.all fun n => decide (n ∈ k)).any id) = true then _ else _
            rw [e]
            refine iC (fun hq => ?_) (fun hq => ?_)
            · refine ⟨_, rfl, ⟨p, _, rfl, updG_same⟩, _, rfl, p, _, _, rfl, rfl, updG_same, ?_, hC _ _ ⟨rs ++ [k], _, _, _, rfl, ?_, ?_, ?_, fun j => ?_⟩⟩
              · rw [List.length_map, sizeLine_eq]; omega
              · rw [updG_upd, List.map_append]; rfl
              · rw [List.length_append, List.length_singleton]; omega
              · rw [List.pairwise_append]
                refine ⟨ho, List.pairwise_singleton _ _, fun x hx y hy => ?_⟩
                rw [List.mem_singleton.mp hy]
                have hxi := ((hk x).mp hx).1
                obtain ⟨a, ha, ex⟩ := List.getElem_of_mem hxi
                rw [List.length_take] at ha
                have le : x ≤ k := by
                  have := List.pairwise_iff_getElem.mp (sortR_ord ms) a i (by omega) ilt (by omega)
                  rw [List.getElem_take] at ex
                  rw [ex] at this
                  rw [(List.getElem?_eq_some_iff.mp hsi).2] at this
                  exact this
                exact ⟨le, fun e => hn (e ▸ hx)⟩
              · rw [take1, List.mem_append, List.mem_append, List.mem_singleton, hk j]
                constructor
                · rintro (⟨a, b⟩ | a)
                  · exact ⟨.inl a, b⟩
                  · exact ⟨.inr a, a ▸ hq⟩
                · rintro ⟨a | a, b⟩
                  · exact .inl ⟨a, b⟩
                  · exact .inr a
            · exact hC _ _ ⟨rs, _, _, _, rfl, rfl, by omega, ho, skip (.inr hq)⟩
        · have hn : k ∈ rs := by simpa using hn
          exact hC _ _ ⟨rs, _, _, _, rfl, rfl, by omega, ho, skip (.inl hn)⟩
    · obtain ⟨rs, x2, x3, x4, rfl, rfl, hlen, ho, hk⟩ := hI
      refine ⟨_, rfl, q rs p ⟨ho, fun k => ?_⟩ hp⟩
      rw [hk k, List.length_map, List.take_length, (sortR_perm ms).mem_iff, leastQ_iff]
end
end Bl

namespace Bl
open DL PySem
/-! ### blockers of blockers -/
theorem over_one {S rs : List (List Int)} (hR : ∀ k, k ∈ rs ↔ MinHit S k) {j : List Int} (hh : HitsAll j rs) : ∃ o ∈ S, Bl.Sub o j := by
  refine Classical.byContradiction fun c => ?_
  have c : ∀ o ∈ S, ¬ Bl.Sub o j := fun o ho hs => c ⟨o, ho, hs⟩
  have aT : Asc ((canon S.flatten).filter fun n => decide (n ∉ j)) := (asc_canon _).filter _
  have hT : HitsAll ((canon S.flatten).filter fun n => decide (n ∉ j)) S := fun o ho => by
    have : ∃ n ∈ o, n ∉ j := Classical.byContradiction fun z => c o ho fun n hn => Classical.byContradiction fun y => z ⟨n, hn, y⟩
    obtain ⟨n, hn, nj⟩ := this
    refine ⟨n, hn, List.mem_filter.mpr ⟨(mem_canon _ _).mpr (List.mem_flatten.mpr ⟨o, ho, hn⟩), by simpa using nj⟩⟩
  obtain ⟨t, ht, hs⟩ := minHit_below S _ _ (Nat.le_refl _) aT hT
  obtain ⟨n, hn, nj⟩ := hh t ((hR t).mpr ht)
  have := (List.mem_filter.mp (hs n hn)).2
  simp only [decide_eq_true_eq] at this
  exact this nj
theorem dual {S rs ls : List (List Int)} (hR : ∀ k, k ∈ rs ↔ MinHit S k) (hL : Least S ls) (k : List Int) : MinHit rs k ↔ k ∈ ls := by
  have hits : ∀ l ∈ ls, HitsAll l rs := fun l hl t ht => by
    obtain ⟨o, ho, e⟩ := List.mem_map.mp ((hL.mem l).mp hl).1
    obtain ⟨n, a, b⟩ := ((hR t).mp ht).hits o ho
    exact ⟨n, b, by rw [← e]; exact (mem_canon _ _).mpr a⟩
  constructor
  · intro h
    obtain ⟨o, ho, hs⟩ := over_one hR h.hits
    obtain ⟨l, hl, hls⟩ := least_below hL _ (canon o) (Nat.le_refl _) (List.mem_map.mpr ⟨o, ho, rfl⟩)
    have := h.least l (hL.asc hl) (fun n hn => hs n ((mem_canon _ _).mp (hls n hn))) (hits l hl)
    rw [← this]; exact hl
  · intro hk
    refine ⟨hL.asc hk, hits k hk, fun j ja js jh => ?_⟩
    obtain ⟨o, ho, hs⟩ := over_one hR jh
    have so : Bl.Sub (canon o) k := fun n hn => js n (hs n ((mem_canon _ _).mp hn))
    have ge : ¬ (canon o).length < k.length := fun z => ((hL.mem k).mp hk).2 (canon o) (List.mem_map.mpr ⟨o, ho, rfl⟩) z so
    have e := asc_full (asc_canon o) (hL.asc hk) so (by omega)
    exact asc_full ja (hL.asc hk) js (by
      have := asc_len (asc_canon o) (fun n hn => hs n ((mem_canon _ _).mp hn) : Bl.Sub (canon o) j)
      omega)
theorem block_dual {S rs ls rs2 : List (List Int)} (hR : BlockOf S rs) (hL : Least S ls) (hB : BlockOf rs rs2) : rs2 = ls := ord_ext hB.ord hL.ord fun k => by rw [hB.mem k]; exact dual hR.mem hL k
theorem block_again {S rs ls rs3 : List (List Int)} (hR : BlockOf S rs) (hL : Least S ls) (hB : BlockOf ls rs3) : rs3 = rs := ord_ext hB.ord hR.ord fun k => by
  rw [hB.mem k, hR.mem k]
  exact minHit_congr (hits_least hL) k
theorem block_mem {S T rs rs' : List (List Int)} (h : ∀ s, s ∈ S ↔ s ∈ T) (a : BlockOf S rs) (b : BlockOf T rs') : rs' = rs := ord_ext b.ord a.ord fun k => by
  rw [b.mem k, a.mem k]
  exact minHit_congr (fun k => ⟨fun hh s hs => hh s ((h s).mp hs), fun hh s hs => hh s ((h s).mpr hs)⟩) k
theorem least_one {S ls ls' : List (List Int)} (a : Least S ls) (b : Least S ls') : ls' = ls := ord_ext b.ord a.ord fun k => by rw [b.mem k, a.mem k]
theorem least_plain {S ls lp : List (List Int)} (hL : Least S ls) (hP : LeastP (S.map canon) lp) : lp = ls := ord_ext hP.ord hL.ord fun k => by
  rw [hP.mem k, hL.mem k]
  refine and_congr_right fun hk => forall_congr' fun j => forall_congr' fun hj => ?_
  obtain ⟨x, _, rfl⟩ := List.mem_map.mp hk
  obtain ⟨y, _, rfl⟩ := List.mem_map.mp hj
  constructor
  · intro h hl hs
    exact h (fun e => by rw [e] at hl; omega) hs
  · intro h ne hs
    refine h ?_ hs
    rcases Nat.lt_or_ge (canon y).length (canon x).length with z | z
    · exact z
    · exact absurd (asc_full (asc_canon y) (asc_canon x) hs z) ne
def hitsAllB (S : List (List Int)) (k : List Int) : Bool := S.all fun o => o.any fun n => decide (n ∈ k)
theorem hitsAllB_iff {S : List (List Int)} {k : List Int} : hitsAllB S k = true ↔ HitsAll k S := by
  unfold hitsAllB
  rw [List.all_eq_true]
  refine forall_congr' fun o => forall_congr' fun _ => ?_
  rw [List.any_eq_true]
  exact ⟨fun ⟨n, a, c⟩ => ⟨n, a, of_decide_eq_true c⟩, fun ⟨n, a, c⟩ => ⟨n, a, decide_eq_true c⟩⟩
/-- each member is needed -/
theorem needed {S : List (List Int)} {k : List Int} (h : MinHit S k) {m : Int} (hm : m ∈ k) : hitsAllB S (k.filter fun x => !decide (x = m)) = false := by
  rw [← Bool.not_eq_true]
  intro z
  have e := h.least _ (h.asc.filter _) (fun n hn => (List.mem_filter.mp hn).1) (hitsAllB_iff.mp z)
  rw [← e] at hm
  have := (List.mem_filter.mp hm).2
  simp at this
theorem some_block {S rs : List (List Int)} (hR : BlockOf S rs) (hne : ∀ o ∈ S, o ≠ []) : rs ≠ [] := by
  have hT : HitsAll (canon S.flatten) S := fun o ho => by
    obtain ⟨n, hn⟩ := List.exists_mem_of_ne_nil o (hne o ho)
    exact ⟨n, hn, (mem_canon _ _).mpr (List.mem_flatten.mpr ⟨o, ho, hn⟩)⟩
  obtain ⟨t, ht, _⟩ := minHit_below S _ _ (Nat.le_refl _) (asc_canon _) hT
  intro e
  have := (hR.mem t).mpr ht
  rw [e] at this
  simp at this
end Bl

namespace Bl
open PySem PySem.Spec PyProof.Rows L2 PySem.W PySem.SeqAt PySem.Calls DL
abbrev s_law : Stmt := topS 19
abbrev N_law : List Str := ["_law_script", "_law_bag", "_law_turn", "_law_most", "_law_sets", "_law_told", "_law_one", "_law_member", "_law_rest", "_law_k", "_law_j", "_law_some", "_law_other"]
theorem sc_law : FnScope N_law ["_law_script"] (defScope s_law) := ⟨rfl, rfl, rfl, by decide +kernel, rfl, by decide +kernel, by decide +kernel⟩
def forBody : Stmt → List Stmt
  | .For _ _ b _ _ => b
  | _ => []
def turnB : List Stmt := forBody ((defBody s_law).getD 1 (.Pass ⟨0, 0, 0, 0⟩))
abbrev XL (P : Program) (w : World) (K : PySem.W.Frag) (mg : Str → Option Value) (base : Heap) (f : Addr) (cdv : Value) (A : Around) (outer : List Env) (s : Shared) (H : Hp) (E : XK) : Cx := (cxOf CX0 P w K mg base N_law "law" (defScope s_law) f cdv A outer s H E).nox
/-- between two turns -/
def Good (b : Addr) (ρ : Rh) (G : GM) : Prop := Bag G b ∧ ∃ x0 x2 x3 x4 x5 x6 x7 x8 x9 x10 x11 x12, ρ = [x0, some (.ref b), x2, x3, x4, x5, x6, x7, x8, x9, x10, x11, x12]
structure Num (bs : List Int) : Prop where
  asc : Asc bs
  small : bs.length ≤ 9
  num : ∀ x ∈ bs, 0 ≤ x ∧ x ≤ 99
structure InS (bs : List Int) (S : List (List Int)) : Prop where
  sub : ∀ s ∈ S, Bl.Sub s bs
  few : S.length ≤ 1100
abbrev rowsD (rs : List (List Int)) : D := .lst (rs.map rowD)
theorem Bag.keep {G G' : GM} {b : Addr} (k : Keeps G G') (h : Bag G b) : Bag G' b := let ⟨ns, i, r, s, c, e, h1, h2⟩ := h; ⟨ns, i, r, s, c, k _ _ e, h1, h2⟩
theorem spD_imp {K : PySem.W.Frag} {m m' : SpD} (h : ∀ ds G Q, m' ds G Q → m ds G Q) : ∀ vs H Q E, spD K m' vs H Q E → spD K m vs H Q E := fun vs H Q E ⟨F, G, ds, Qd, ok, r, q, k⟩ => ⟨F, G, ds, Qd, ok, r, h _ _ _ q, k⟩
theorem Cal.imp {P : Program} {w : World} {K : PySem.W.Frag} {mg : Str → Option Value} {base : Heap} {x : Str} {k : Nat} {m m' : SpD} (C : DL.Cal P w K mg base x k m) (h : ∀ ds G Q, m' ds G Q → m ds G Q) : DL.Cal P w K mg base x k m' :=
  let ⟨f, fd, ps, F, r⟩ := C.ex; ⟨f, fd, ps, F.imp (spD_imp h), r⟩
structure MBlk (ds : List D) (G : GM) (Q : QD) : Prop where
  h : mBlocker ds G Q
structure MLof (ds : List D) (G : GM) (Q : QD) : Prop where
  h : mLeastOf ds G Q
theorem sets_rows {G : GM} {d : D} {S : List (List Int)} (hd : seqG G d = some (S.map rowD)) (hl : ∀ s ∈ S, s.length < 64) : ∃ ps, Sets G d ps ∧ ps.map (·.2) = S :=
  ⟨S.map fun s => (rowD s, s), ⟨by rw [List.map_map]; exact hd, fun p hp => by
    obtain ⟨s, hs, rfl⟩ := List.mem_map.mp hp
    exact ⟨rfl, hl s hs⟩⟩, by rw [List.map_map]; exact List.map_id' S⟩
theorem held_ps {G : GM} : ∀ {as : List Addr} {rs : List (List Int)}, Held G as rs → (∀ r ∈ rs, r.length < 64) → ∃ ps : List (D × List Int), ps.map (·.1) = as.map .ref ∧ ps.map (·.2) = rs ∧ ∀ p ∈ ps, seqG G p.1 = Option.some (p.2.map D.int) ∧ p.2.length < 64
  | _, _, .nil, _ => ⟨[], rfl, rfl, fun p h => by simp at h⟩
  | _, _, .cons (a := a) (r := r) h t, hl => by
    obtain ⟨ps, e1, e2, e3⟩ := held_ps t fun r hr => hl r (List.mem_cons_of_mem _ hr)
    refine ⟨(.ref a, r) :: ps, by rw [List.map_cons, e1]; rfl, by rw [List.map_cons, e2], fun p hp => ?_⟩
    rcases List.mem_cons.mp hp with z | z
    · rw [z]; exact ⟨seq_ref h, hl r (List.mem_cons_self ..)⟩
    · exact e3 p z
theorem sets_refs {G : GM} {as : List Addr} {rs : List (List Int)} (h : Held G as rs) (hl : ∀ r ∈ rs, r.length < 64) : ∃ ps, Sets G (.lst (as.map .ref)) ps ∧ ps.map (·.2) = rs := by
  obtain ⟨ps, e1, e2, e3⟩ := held_ps h hl
  exact ⟨ps, ⟨by rw [e1]; rfl, e3⟩, e2⟩
theorem use_blk {G : GM} {Q : QD} {d : D} {bs : List Int} {S : List (List Int)} (hd : ∃ ps, Sets G d ps ∧ ps.map (·.2) = S) (hN : Num bs) (hI : InS bs S)
    (q : ∀ rs as G', BlockOf S rs → Keeps G G' → Held G' as rs → as.Nodup → (∀ a ∈ as, G a = none) → Q (.lst (as.map .ref)) G') : MBlk [d] G Q := by
  obtain ⟨ps, hS, rfl⟩ := hd
  exact ⟨d, ps, bs, rfl, hS, fun p hp n hn => hN.num n (hI.sub _ (List.mem_map.mpr ⟨p, hp, rfl⟩) n hn), ⟨hN.asc, hN.small, fun p hp => hI.sub _ (List.mem_map.mpr ⟨p, hp, rfl⟩), by have := hI.few; rwa [List.length_map] at this⟩, q⟩
theorem use_lof {G : GM} {Q : QD} {d : D} {bs : List Int} {S : List (List Int)} (hd : ∃ ps, Sets G d ps ∧ ps.map (·.2) = S) (hN : Num bs) (hI : InS bs S)
    (q : ∀ rs as G', Least S rs → Keeps G G' → Held G' as rs → as.Nodup → (∀ a ∈ as, G a = none) → Q (.lst (as.map .ref)) G') : MLof [d] G Q := by
  obtain ⟨ps, hS, rfl⟩ := hd
  exact ⟨d, ps, bs, rfl, hS, fun p hp n hn => hN.num n (hI.sub _ (List.mem_map.mpr ⟨p, hp, rfl⟩) n hn), ⟨hN.asc, hN.small, fun p hp => hI.sub _ (List.mem_map.mpr ⟨p, hp, rfl⟩), by have := hI.few; rwa [List.length_map] at this⟩, q⟩
theorem len9 {bs k : List Int} (hN : Num bs) (ha : Asc k) (s : Bl.Sub k bs) : k.length < 64 := by
  have := asc_len ha s
  have := hN.small
  omega
theorem few_of {bs : List Int} {rs : List (List Int)} (hN : Num bs) (ho : rs.Pairwise ltL) (h : ∀ k ∈ rs, Asc k ∧ Bl.Sub k bs) : rs.length ≤ 512 := by
  have := nodup_le rs (subL bs) (ho.imp fun h => h.2) fun t ht => mem_subL hN.asc (h t ht).1 (h t ht).2
  rw [subL_len] at this
  exact Nat.le_trans this (Nat.le_trans (Nat.pow_le_pow_right (by decide) hN.small) (by decide))
theorem block_in {bs : List Int} {S rs : List (List Int)} (hN : Num bs) (hI : InS bs S) (hR : BlockOf S rs) : (∀ k ∈ rs, Asc k ∧ Bl.Sub k bs) ∧ rs.length ≤ 512 := by
  have h : ∀ k ∈ rs, Asc k ∧ Bl.Sub k bs := fun k hk => by
    have m := (hR.mem k).mp hk
    exact ⟨m.asc, fun n hn => by obtain ⟨o, ho, z⟩ := minHit_within m n hn; exact hI.sub o ho n z⟩
  exact ⟨h, few_of hN hR.ord h⟩
theorem ls_int (n : Int) : LS (.int n) := ⟨rfl, rfl⟩
theorem ld_rows (rs : List (List Int)) : LD 2 (rowsD rs) := .inr ⟨_, .inl rfl, fun e he => by
  obtain ⟨k, _, rfl⟩ := List.mem_map.mp he
  exact .inr ⟨_, .inl rfl, fun x hx => by
    obtain ⟨n, _, rfl⟩ := List.mem_map.mp hx
    exact ls_int n⟩⟩
theorem held_mem {G : GM} : ∀ {as : List Addr} {rs : List (List Int)}, Held G as rs → ∀ a ∈ as, ∃ r ∈ rs, G a = some (.lst (r.map .int))
  | _, _, .nil, a, h => by simp at h
  | _, _, .cons h1 t, a, h => by
    rcases List.mem_cons.mp h with e | e
    · rw [e]; exact ⟨_, List.mem_cons_self .., h1⟩
    · obtain ⟨r, hr, z⟩ := held_mem t a e
      exact ⟨r, List.mem_cons_of_mem _ hr, z⟩
theorem held_app {G : GM} : ∀ {as as' : List Addr} {rs rs' : List (List Int)}, Held G as rs → Held G as' rs' → Held G (as ++ as') (rs ++ rs')
  | _, _, _, _, .nil, h => h
  | _, _, _, _, .cons h1 t, h => .cons h1 (held_app t h)
theorem held_take {G : GM} : ∀ {as : List Addr} {rs : List (List Int)}, Held G as rs → Held G (as.take 1) (rs.take 1)
  | _, _, .nil => .nil
  | _, _, .cons h1 _ => .cons h1 .nil
theorem eqv_empty (rs : List (List Int)) : PyData.eqv (rowsD rs).py (D.lst []).py = decide (rs = []) := by
  cases rs with
  | nil => rfl
  | cons r rs => 
    rw [D.py, D.py, PyData.eqv, List.map_cons, D.pys, D.pys, PyData.eqvAll]
    rfl
theorem shaped_rowsD (rs : List (List Int)) : SeqAt.shaped (rowsD rs).py = true := by
  rw [D.py]; exact shaped_rows rs
theorem dat_rowsD (rs : List (List Int)) : (rowsD rs).dat = true := by rw [D.dat]; exact dat_rows rs
theorem cut_one {α : Type} (as : List α) (f : α → D) : DL.cutD (as.map f) none (some 1) = (as.take 1).map f := by
  unfold DL.cutD
  rw [HT.sIx_none, show HT.sIx (as.map f).length (as.map f).length (some 1) = min 1 (as.map f).length from HT.sIx_nat _ _ 1, List.drop_zero, Nat.sub_zero, List.map_take]
  cases as with
  | nil => rfl
  | cons x as => rw [show min 1 ((x :: as).map f).length = 1 by simp]
theorem block_tail {rs r2 : List (List Int)} (h : BlockOf (rs ++ rs.take 1) r2) : BlockOf rs r2 := ⟨h.ord, fun k => by
  rw [h.mem k]
  exact minHit_congr (fun k => ⟨fun hh s hs => hh s (List.mem_append_left _ hs), fun hh s hs => hh s ((List.mem_append.mp hs).elim id List.mem_of_mem_take)⟩) k⟩
section
variable {P : Program} {w : World} {K : PySem.W.Frag} {mg : Str → Option Value} {base : Heap} {f : Addr} {cdv : Value} {A : Around} {outer : List Env} {s : Shared} {H : Hp} {E : XK}
theorem segH (hr : Room 4 (A.deeper (envOfC "law" (defScope s_law) s.heap.objs.size f cdv))) (C_blocker : DL.Cal P w K mg base "blocker" 4 MBlk) (C_least_of : DL.Cal P w K mg base "least_of" 4 MLof) (C__law_like : DL.Cal P w K mg base "_law_like" 3 (mLike 2)) (m_any : mg "any" = none) (m_all : mg "all" = none) :
    ∃ t : TSD, DSs (XL P w K mg base f cdv A outer s H E) (turnB.drop 5) t ∧ ∀ (E' : EndsD) x0 x2 x3 x6 x7 x8 x9 x10 x11 x12 (b : Addr) (bs : List Int) (sz rs : List (List Int)) (as : List Addr) (G : GM), (∀ ρ' G', Good b ρ' G' → E'.nx ρ' G') → Bag G b → Num bs → InS bs sz → (∀ o ∈ sz, o ≠ [] ∧ o.length < 64) → BlockOf sz rs → Held G as rs →
      t E' [x0, some (.ref b), x2, x3, some (rowsD sz), some (.lst (as.map .ref)), x6, x7, x8, x9, x10, x11, x12] G := by
  have nd := sc_law.nd
  have hu := hr.units
  refine ⟨_, (dss_cons (ds_for PassesOwn.never rfl (di_seq (dv 5)) (dg_name (i := 6) nd rfl (by first | exact Or.inl rfl | exact Or.inr rfl))
    (dss_cons (ds_if (dt_not (dt_val (d_all rfl rfl m_all (da_cons (d_lc (own := [("_law_some", 11)]) rfl nd (di_seq (dv 4)) (blkOk_by (by rfl)) ⟨_, fun _ _ _ _ _ => (pg_name (i := 11) nd rfl (by first | exact Or.inl rfl | exact Or.inr rfl)), (snd_gName 11)⟩ (by decide) (fun _ _ _ _ _ => dts_nil) (fun _ _ _ _ _ => (d_any rfl rfl m_any (da_cons (d_lc (own := [("_law_member", 7)]) rfl nd (di_seq (dv 11)) (blkOk_by (by rfl)) ⟨_, fun _ _ _ _ _ => (pg_name (i := 7) nd rfl (by first | exact Or.inl rfl | exact Or.inr rfl)), (snd_gName 7)⟩ (by decide) (fun _ _ _ _ _ => dts_nil) (fun _ _ _ _ _ => (d_inI (dv 7) (dv 6)))) da_nil)))) da_nil)))) (dss_one (ds_ret d_bl)) dss_nil)
      (dss_one (ds_for PassesOwn.never rfl (di_seq (dv 6)) (dg_name (i := 7) nd rfl (by first | exact Or.inl rfl | exact Or.inr rfl))
        (dss_cons (ds_set (i := 8) nd rfl (by first | exact Or.inl rfl | exact Or.inr rfl) (d_lc (own := [("_law_other", 12)]) rfl nd (di_seq (dv 6)) (blkOk_by (by rfl)) ⟨_, fun _ _ _ _ _ => (pg_name (i := 12) nd rfl (by first | exact Or.inl rfl | exact Or.inr rfl)), (snd_gName 12)⟩ (by decide) (fun _ _ _ _ _ => (dts_one (dt_neI hu (dv 12) (dv 7)))) (fun _ _ _ _ _ => (dv 12))))
          (dss_one (ds_if (dt_val (d_all rfl rfl m_all (da_cons (d_lc (own := [("_law_some", 11)]) rfl nd (di_seq (dv 4)) (blkOk_by (by rfl)) ⟨_, fun _ _ _ _ _ => (pg_name (i := 11) nd rfl (by first | exact Or.inl rfl | exact Or.inr rfl)), (snd_gName 11)⟩ (by decide) (fun _ _ _ _ _ => dts_nil) (fun _ _ _ _ _ => (d_any rfl rfl m_any (da_cons (d_lc (own := [("_law_other", 12)]) rfl nd (di_seq (dv 11)) (blkOk_by (by rfl)) ⟨_, fun _ _ _ _ _ => (pg_name (i := 12) nd rfl (by first | exact Or.inl rfl | exact Or.inr rfl)), (snd_gName 12)⟩ (by decide) (fun _ _ _ _ _ => dts_nil) (fun _ _ _ _ _ => (d_inI (dv 12) (dv 8)))) da_nil)))) da_nil))) (dss_one (ds_ret d_bl)) dss_nil)))))))
  (dss_one (ds_if (dt_w (dw_or (dt_w (dw_and (dt_ne hu (dv 4) (d_lst da_nil)) (dw_and1 (dt_eq hu (dv 5) (d_lst da_nil))))) (dw_or1 (dt_not (dt_val (d_callVC C__law_like hr (by first | decide | omega) rfl (da_cons (d_callC C_blocker hr (by first | decide | omega) rfl (da_cons (d_cat (dv 5) (d_slice (dv 5) do_none (do_some d_int))) da_nil)) (da_cons (d_callC C_least_of hr (by first | decide | omega) rfl (da_cons (dv 4) da_nil)) da_nil)))))))) (dss_one (ds_ret d_bl)) dss_nil))), fun E' x0 x2 x3 x6 x7 x8 x9 x10 x11 x12 b bs sz rs as G hE hB hN hI hne hR hH => ?_⟩
  refine ⟨_, rfl, _, rfl, ?_⟩
  refine for_inv (fun i ρ' G' => G' = G ∧ ∃ y6 y7 y8, ρ' = [x0, some (.ref b), x2, x3, some (rowsD sz), some (.lst (as.map .ref)), y6, y7, y8, x9, x10, x11, x12]) (fun _ _ _ _ => trivial) (fun i od ρ' G' C hi hIv hC => ?_) (fun ρ' G' hIv => ?_) ⟨rfl, _, _, _, rfl⟩
  · obtain ⟨rfl, y6, y7, y8, rfl⟩ := hIv
    rw [List.getElem?_map] at hi
    cases ha : as[i]? with
    | none => rw [ha] at hi; cases hi
    | some a =>
      rw [ha] at hi
      cases hi
      obtain ⟨r, hr', hga⟩ := held_mem hH a (List.mem_of_getElem? ha)
      have mr := (hR.mem r).mp hr'
      have all1 : hitsAllB sz r = true := hitsAllB_iff.mpr mr.hits
      refine ⟨_, rfl, _, rfl, lc_mapC rowD (fun o => .bl (o.any fun n => decide (n ∈ r))) trivial (fun o ho QT hQ => ?_) ?_⟩
      · refine ⟨_, rfl, _, rfl, lc_mapC D.int (fun n => .bl (decide (n ∈ r))) trivial (fun n hn QT' hQ' => ⟨_, rfl, _, rfl, n, r, rfl, seq_ref hga, hQ'⟩) ?_⟩
        refine ⟨_, o.map fun n => decide (n ∈ r), rfl, by rw [all_mapB]; rfl, ?_⟩
        have e : (o.map fun n => decide (n ∈ r)).any id = o.any fun n => decide (n ∈ r) := by rw [List.any_map]; rfl
        show QT (.bl ((o.map fun n => decide (n ∈ r)).any id)) _
        rw [e]; exact hQ
      · refine ⟨_, sz.map fun o => o.any fun n => decide (n ∈ r), rfl, by rw [all_mapB]; rfl, _, rfl, ?_⟩
        have e : (sz.map fun o => o.any fun n => decide (n ∈ r)).all id = true := by rw [List.all_map]; exact all1
        refine iN (by show (!(sz.map fun o => o.any fun n => decide (n ∈ r)).all id) = false; rw [e]; rfl) ?_
        refine ⟨_, rfl, _, seq_ref hga, ?_⟩
        refine for_inv (fun j ρ2 G2 => G2 = G' ∧ ∃ z7 z8, ρ2 = [x0, some (.ref b), x2, x3, some (rowsD sz), some (.lst (as.map .ref)), some (.ref a), z7, z8, x9, x10, x11, x12]) (fun j ρ2 G2 h => by obtain ⟨rfl, _⟩ := h; exact stab_seq (seq_ref hga)) (fun j md ρ2 G2 C2 hj hI2 hC2 => ?_) (fun ρ2 G2 hI2 => ?_) ⟨rfl, _, _, rfl⟩
        · obtain ⟨rfl, z7, z8, rfl⟩ := hI2
          rw [List.getElem?_map] at hj
          cases hm : r[j]? with
          | none => rw [hm] at hj; cases hj
          | some m =>
            rw [hm] at hj
            cases hj
            have mm := List.mem_of_getElem? hm
            have none1 := needed mr mm
            refine ⟨_, rfl, _, seq_ref hga, lc_pureC D.int D.int (fun x => !decide (x = m)) (stab_seq (seq_ref hga)) (fun x hx QT QF h1 h2 => ⟨_, rfl, _, rfl, x, m, rfl, rfl, trivial, _, rfl, iC (fun hb => ⟨_, rfl, h1 hb⟩) h2⟩) ?_⟩
            refine ⟨_, rfl, _, rfl, lc_mapC rowD (fun o => .bl (o.any fun n => decide (n ∈ r.filter fun x => !decide (x = m)))) trivial (fun o ho QT hQ => ?_) ?_⟩
            · refine ⟨_, rfl, _, rfl, lc_mapC D.int (fun n => .bl (decide (n ∈ r.filter fun x => !decide (x = m)))) trivial (fun n hn QT' hQ' => ⟨_, rfl, _, rfl, n, _, rfl, rfl, hQ'⟩) ?_⟩
              refine ⟨_, o.map fun n => decide (n ∈ r.filter fun x => !decide (x = m)), rfl, by rw [all_mapB]; rfl, ?_⟩
              have e : (o.map fun n => decide (n ∈ r.filter fun x => !decide (x = m))).any id = o.any fun n => decide (n ∈ r.filter fun x => !decide (x = m)) := by rw [List.any_map]; rfl
              show QT (.bl ((o.map fun n => decide (n ∈ r.filter fun x => !decide (x = m))).any id)) _
              rw [e]; exact hQ
            · refine ⟨_, sz.map fun o => o.any fun n => decide (n ∈ r.filter fun x => !decide (x = m)), rfl, by rw [all_mapB]; rfl, _, rfl, ?_⟩
              have e : (sz.map fun o => o.any fun n => decide (n ∈ r.filter fun x => !decide (x = m))).all id = false := by rw [List.all_map]; exact none1
              exact iN (by show (sz.map fun o => o.any fun n => decide (n ∈ r.filter fun x => !decide (x = m))).all id = false; exact e) (hC2 _ _ ⟨rfl, _, _, rfl⟩)
        · obtain ⟨rfl, z7, z8, rfl⟩ := hI2
          exact hC _ _ ⟨rfl, _, _, _, rfl⟩
  · obtain ⟨rfl, y6, y7, y8, rfl⟩ := hIv
    obtain ⟨rin, rfew⟩ := block_in hN hI hR
    have inS2 : InS bs (rs ++ rs.take 1) := ⟨fun k hk => (rin k ((List.mem_append.mp hk).elim id List.mem_of_mem_take)).2, by rw [List.length_append, List.length_take]; omega⟩
    have l64 : ∀ k ∈ rs ++ rs.take 1, k.length < 64 := fun k hk => by
      obtain ⟨a, c⟩ := rin k ((List.mem_append.mp hk).elim id List.mem_of_mem_take)
      exact len9 hN a c
    refine ⟨_, rfl, by decide, rowsD sz, .lst [], Vw.self (dat_rowsD sz), Vw.self rfl, shaped_rowsD sz, rfl, _, rfl, ?_⟩
    rw [eqv_empty]
    refine iC (fun hb => ?_) (fun hb => ?_)
    · have snz : sz ≠ [] := by simpa using hb
      refine ⟨_, rfl, by decide, rowsD rs, .lst [], .lst hH.vws, Vw.self rfl, shaped_rowsD rs, rfl, _, rfl, ?_⟩
      rw [eqv_empty]
      refine iN (decide_eq_false (some_block hR fun o ho => (hne o ho).1)) ?_
      refine ⟨_, rfl, _, rfl, 1, rfl, _, rfl, _, _, rfl, rfl, by rw [cut_one, List.length_map, List.length_map, List.length_take, sizeLine_eq]; have := hH.len; omega, use_blk (by rw [cut_one, ← List.map_append]; exact sets_refs (held_app hH (held_take hH)) l64) hN inS2 fun rs2 as2 G2 hR2 k2 hH2 _ _ => ?_⟩
      refine ⟨_, rfl, use_lof (sets_rows rfl fun o ho => (hne o ho).2) hN hI fun ls as3 G3 hL k3 hH3 _ _ => ?_⟩
      obtain rfl := block_dual hR hL (block_tail hR2)
      exact ⟨_, .cons (.lst (hH2.keep k3).vws) (.cons (.lst hH3.vws) .nil), _, rfl, ld_rows _, rfl, true, rfl, iF (hE _ _ ⟨hB.keep (k2.trans k3), _, _, _, _, _, _, _, _, _, _, _, _, rfl⟩)⟩
    · refine iF ?_
      refine ⟨_, rfl, _, rfl, 1, rfl, _, rfl, _, _, rfl, rfl, by rw [cut_one, List.length_map, List.length_map, List.length_take, sizeLine_eq]; have := hH.len; omega, use_blk (by rw [cut_one, ← List.map_append]; exact sets_refs (held_app hH (held_take hH)) l64) hN inS2 fun rs2 as2 G2 hR2 k2 hH2 _ _ => ?_⟩
      refine ⟨_, rfl, use_lof (sets_rows rfl fun o ho => (hne o ho).2) hN hI fun ls as3 G3 hL k3 hH3 _ _ => ?_⟩
      obtain rfl := block_dual hR hL (block_tail hR2)
      exact ⟨_, .cons (.lst (hH2.keep k3).vws) (.cons (.lst hH3.vws) .nil), _, rfl, ld_rows _, rfl, true, rfl, iF (hE _ _ ⟨hB.keep (k2.trans k3), _, _, _, _, _, _, _, _, _, _, _, _, rfl⟩)⟩
end
end Bl

namespace Bl
open PySem PySem.Spec PyProof.Rows L2 PySem.W PySem.SeqAt PySem.Calls DL
theorem Held.keepK {G G' : GM} {as : List Addr} {rs : List (List Int)} (h : Held G as rs) (k : Keeps G G') : Held G' as rs := h.keep k
section
variable {P : Program} {w : World} {K : PySem.W.Frag} {mg : Str → Option Value} {base : Heap} {f : Addr} {cdv : Value} {A : Around} {outer : List Env} {s : Shared} {H : Hp} {E : XK}
theorem segM (hr : Room 4 (A.deeper (envOfC "law" (defScope s_law) s.heap.objs.size f cdv))) (C_blocker : DL.Cal P w K mg base "blocker" 4 MBlk) (C_least_of : DL.Cal P w K mg base "least_of" 4 MLof) (C__law_like : DL.Cal P w K mg base "_law_like" 3 (mLike 2)) (m_any : mg "any" = none) (m_all : mg "all" = none)
    (C__law_least : DL.Cal P w K mg base "_law_least" 1 mLawLeast) (m_sorted : mg "sorted" = none) (m_set : mg "set" = none) :
    ∃ t : TSD, DSs (XL P w K mg base f cdv A outer s H E) (turnB.drop 2) t ∧ ∀ (E' : EndsD) x0 x2 x3 x5 x6 x7 x8 x9 x10 x11 x12 (b : Addr) (bs : List Int) (sz : List (List Int)) (G : GM), (∀ ρ' G', Good b ρ' G' → E'.nx ρ' G') → Bag G b → Num bs → InS bs sz → (∀ o ∈ sz, o ≠ [] ∧ o.length < 64) → sz.length ≤ 1000 →
      t E' [x0, some (.ref b), x2, x3, some (rowsD sz), x5, x6, x7, x8, x9, x10, x11, x12] G := by
  have nd := sc_law.nd
  have hu := hr.units
  obtain ⟨tH, DH, hSeg⟩ := segH (P := P) (w := w) (K := K) (mg := mg) (base := base) (outer := outer) (H := H) (E := E) hr C_blocker C_least_of C__law_like m_any m_all
  refine ⟨_, (dss_cons (ds_set (i := 5) nd rfl (by first | exact Or.inl rfl | exact Or.inr rfl) (d_callC C_blocker hr (by first | decide | omega) rfl (da_cons (dv 4) da_nil)))
  (dss_cons (ds_if (dt_w (dw_or (dt_not (dt_val (d_callVC C__law_like hr (by first | decide | omega) rfl (da_cons (d_callC C_blocker hr (by first | decide | omega) rfl (da_cons (dv 5) da_nil)) (da_cons (d_callC C_least_of hr (by first | decide | omega) rfl (da_cons (dv 4) da_nil)) da_nil))))) (dw_or1 (dt_not (dt_val (d_callVC C__law_like hr (by first | decide | omega) rfl (da_cons (d_callC C_blocker hr (by first | decide | omega) rfl (da_cons (d_callC C_blocker hr (by first | decide | omega) rfl (da_cons (dv 5) da_nil)) da_nil)) (da_cons (dv 5) da_nil)))))))) (dss_one (ds_ret d_bl)) dss_nil)
  (dss_cons (ds_if (dt_not (dt_val (d_callVC C__law_like hr (by first | decide | omega) rfl (da_cons (d_callC C_least_of hr (by first | decide | omega) rfl (da_cons (dv 4) da_nil)) (da_cons (d_callC C__law_least hr (by first | decide | omega) rfl (da_cons (d_lc (own := [("_law_one", 6)]) rfl nd (di_seq (dv 4)) (blkOk_by (by rfl)) ⟨_, fun _ _ _ _ _ => (pg_name (i := 6) nd rfl (by first | exact Or.inl rfl | exact Or.inr rfl)), (snd_gName 6)⟩ (by decide) (fun _ _ _ _ _ => dts_nil) (fun _ _ _ _ _ => (d_sortSet rfl rfl m_sorted rfl m_set (dv 6)))) da_nil)) da_nil))))) (dss_one (ds_ret d_bl)) dss_nil)
  DH))), fun E' x0 x2 x3 x5 x6 x7 x8 x9 x10 x11 x12 b bs sz G hE hB hN hI hne hsz => ?_⟩
  have z64 : ∀ o ∈ sz, o.length < 64 := fun o ho => (hne o ho).2
  refine ⟨_, rfl, use_blk (sets_rows rfl z64) hN hI fun rs as G1 hR k1 hH _ _ => ?_⟩
  obtain ⟨rin, rfew⟩ := block_in hN hI hR
  have inR : InS bs rs := ⟨fun k hk => (rin k hk).2, by omega⟩
  have r64 : ∀ k ∈ rs, k.length < 64 := fun k hk => len9 hN (rin k hk).1 (rin k hk).2
  refine ⟨_, rfl, use_blk (sets_refs hH r64) hN inR fun rs2 as2 G2 hR2 k2 hH2 _ _ => ?_⟩
  refine ⟨_, rfl, use_lof (sets_rows rfl z64) hN hI fun ls as3 G3 hL k3 hH3 _ _ => ?_⟩
  have lin : ∀ k ∈ ls, Asc k ∧ Bl.Sub k bs := fun k hk => ⟨hL.asc hk, fun n hn => by
    obtain ⟨o, ho, e⟩ := List.mem_map.mp ((hL.mem k).mp hk).1
    exact hI.sub o ho n ((mem_canon _ _).mp (by rw [e]; exact hn))⟩
  have inL : InS bs ls := ⟨fun k hk => (lin k hk).2, by have := few_of hN hL.ord lin; omega⟩
  have l64 : ∀ k ∈ ls, k.length < 64 := fun k hk => len9 hN (lin k hk).1 (lin k hk).2
  obtain rfl : rs2 = ls := block_dual hR hL hR2
  refine ⟨_, .cons (.lst (hH2.keep k3).vws) (.cons (.lst hH3.vws) .nil), _, rfl, ld_rows _, rfl, true, rfl, iF ?_⟩
  have hH := (hH.keepK k2).keepK k3
  have hB := ((hB.keep k1).keep k2).keep k3
  refine ⟨_, rfl, use_blk (sets_refs hH r64) hN inR fun rs4 as4 G4 hR4 k4 hH4 _ _ => ?_⟩
  obtain rfl : rs4 = rs2 := block_dual hR hL hR4
  refine use_blk (sets_refs hH4 l64) hN inL fun rs5 as5 G5 hR5 k5 hH5 _ _ => ?_
  obtain rfl : rs5 = rs := block_again hR hL hR5
  have hH := (hH.keepK k4).keepK k5
  have hB := (hB.keep k4).keep k5
  refine ⟨_, rfl, _, .cons (.lst hH5.vws) (.cons (.lst hH.vws) .nil), _, rfl, ld_rows _, rfl, true, rfl, iF ?_⟩
  refine ⟨_, rfl, use_lof (sets_rows rfl z64) hN hI fun ls6 as6 G6 hL6 k6 hH6 _ _ => ?_⟩
  refine ⟨_, rfl, _, rfl, lc_mapC rowD (fun o => rowD (canon o)) trivial (fun o ho QT hQ => ⟨_, rfl, o, rfl, z64 o ho, fun ms ha hk => by rw [canon_eq ha hk]; exact hQ⟩) ?_⟩
  refine ⟨sz.map canon, by rw [List.map_map]; rfl, by rw [List.length_map]; exact hsz, fun lp p hP hp => ?_⟩
  obtain rfl : lp = ls6 := least_plain hL6 hP
  have kn := Keeps.new (G := G6) (p := p) (m := .lst (lp.map rowD)) hp
  refine ⟨_, .cons (.lst (hH6.keep kn).vws) (.cons (.ref updG_same (vws_rows lp)) .nil), _, rfl, ld_rows _, rfl, true, rfl, iF ?_⟩
  exact hSeg _ _ _ _ _ _ _ _ _ _ _ b bs sz rs5 as _ hE ((hB.keep k6).keep kn) hN hI hne hR ((hH.keepK k6).keepK kn)
theorem segA (hr : Room 4 (A.deeper (envOfC "law" (defScope s_law) s.heap.objs.size f cdv))) (C_blocker : DL.Cal P w K mg base "blocker" 4 MBlk) (C_least_of : DL.Cal P w K mg base "least_of" 4 MLof) (C__law_like : DL.Cal P w K mg base "_law_like" 3 (mLike 2)) (m_any : mg "any" = none) (m_all : mg "all" = none)
    (C__law_least : DL.Cal P w K mg base "_law_least" 1 mLawLeast) (m_sorted : mg "sorted" = none) (m_set : mg "set" = none) (m_range : mg "range" = none) (C__law_draw : DL.Cal P w K mg base "_law_draw" 1 mDraw) :
    ∃ t : TSD, DSs (XL P w K mg base f cdv A outer s H E) (turnB.drop 0) t ∧ ∀ (E' : EndsD) x0 x2 x3 x4 x5 x6 x7 x8 x9 x10 x11 x12 (b : Addr) (G : GM), (∀ ρ' G', Good b ρ' G' → E'.nx ρ' G') → Bag G b →
      t E' [x0, some (.ref b), x2, x3, x4, x5, x6, x7, x8, x9, x10, x11, x12] G := by
  have nd := sc_law.nd
  have hu := hr.units
  obtain ⟨tM, DM, hM⟩ := segM (P := P) (w := w) (K := K) (mg := mg) (base := base) (outer := outer) (H := H) (E := E) hr C_blocker C_least_of C__law_like m_any m_all C__law_least m_sorted m_set
  refine ⟨_, (dss_cons (ds_set (i := 3) nd rfl (by first | exact Or.inl rfl | exact Or.inr rfl) (d_add d_int (d_callC C__law_draw hr (by first | decide | omega) rfl (da_cons (dv 1) (da_cons d_int da_nil)))))
  (dss_cons (ds_setLc (i := 4) (own := [("_law_j", 10)]) rfl nd rfl rfl (sw_true rfl rfl rfl (by decide +kernel)) (di_range1 rfl m_range (da_cons (d_callC C__law_draw hr (by first | decide | omega) rfl (da_cons (dv 1) (da_cons d_int da_nil))) da_nil)) (blkOk_by (by rfl)) ⟨_, fun _ _ _ _ _ => (pg_name (i := 10) nd rfl (by first | exact Or.inl rfl | exact Or.inr rfl)), (snd_gName 10)⟩ (by decide) (fun _ _ _ _ _ => dts_nil) (fun _ _ _ _ _ => (d_lc (own := [("_law_k", 9)]) rfl nd (di_range1 rfl m_range (da_cons (d_add d_int (d_callC C__law_draw hr (by first | decide | omega) rfl (da_cons (dv 1) (da_cons d_int da_nil)))) da_nil)) (blkOk_by (by rfl)) ⟨_, fun _ _ _ _ _ => (pg_name (i := 9) nd rfl (by first | exact Or.inl rfl | exact Or.inr rfl)), (snd_gName 9)⟩ (by decide) (fun _ _ _ _ _ => dts_nil) (fun _ _ _ _ _ => (d_mul (d_callC C__law_draw hr (by first | decide | omega) rfl (da_cons (dv 1) (da_cons (dv 3) da_nil))) d_int)))))
  DM)), fun E' x0 x2 x3 x4 x5 x6 x7 x8 x9 x10 x11 x12 b G hE hB => ?_⟩
  refine ⟨.ref b, rfl, b, 7, rfl, hB, by decide, by decide, fun j G1 j0 j7 hB1 _ => ⟨3, j, rfl, rfl, trivial, ?_⟩⟩
  obtain ⟨m, rfl, m3, m9⟩ : ∃ m : Nat, j = (m : Int) - 3 ∧ 3 ≤ m ∧ m ≤ 9 := ⟨(3 + j).toNat, by omega, by omega, by omega⟩
  have hN : Num ((List.range m).map fun i : Nat => (i : Int) * 11) := ⟨by
    rw [Asc, List.pairwise_map]
    exact List.pairwise_lt_range.imp fun h => by omega, by rw [List.length_map, List.length_range]; exact m9, fun x hx => by
    obtain ⟨i, hi, rfl⟩ := List.mem_map.mp hx
    have := List.mem_range.mp hi
    omega⟩
  refine ⟨.ref b, rfl, b, 8, rfl, hB1, by decide, by decide, fun n G2 n0 n8 hB2 _ => ⟨n, rfl, by omega, by omega, ?_⟩⟩
  refine lc_inv (fun i ys G' => Bag G' b ∧ ∃ sz : List (List Int), ys = sz.map rowD ∧ sz.length = i ∧ ∀ o ∈ sz, Bl.Sub o ((List.range m).map fun i : Nat => (i : Int) * 11) ∧ o ≠ [] ∧ o.length < 64) (fun _ _ _ _ => trivial) (fun i d ys G' C hd hP hC => ?_) (fun ys G' hP => ?_) ⟨hB2, [], rfl, rfl, fun o h => by simp at h⟩
  · obtain ⟨hB', sz, rfl, hl, hs⟩ := hP
    refine ⟨.ref b, rfl, b, 4, rfl, hB', by decide, by decide, fun k G3 k0 k4 hB3 _ => ⟨1, k, rfl, rfl, trivial, 1 + k, rfl, by omega, by omega, ?_⟩⟩
    refine lc_inv (fun i ys G' => Bag G' b ∧ ∃ cs : List Int, ys = cs.map .int ∧ cs.length = i ∧ ∀ x ∈ cs, x ∈ (List.range m).map fun i : Nat => (i : Int) * 11) (fun _ _ _ _ => trivial) (fun i d ys G' C' hd hP hC' => ?_) (fun ys G' hP => ?_) ⟨hB3, [], rfl, rfl, fun x h => by simp at h⟩
    · obtain ⟨hB', cs, rfl, hl, hc⟩ := hP
      refine ⟨.ref b, rfl, _, rfl, b, _, rfl, hB', by omega, by omega, fun v G4 v0 v1 hB4 _ => ⟨v, 11, rfl, rfl, .inr (by decide), hC' _ _ ⟨hB4, cs ++ [v * 11], by rw [List.map_append]; rfl, by rw [List.length_append, hl]; rfl, fun x hx => ?_⟩⟩⟩
      rcases List.mem_append.mp hx with z | z
      · exact hc x z
      · rw [List.mem_singleton.mp z]
        exact List.mem_map.mpr ⟨v.toNat, List.mem_range.mpr (by omega), by omega⟩
    · obtain ⟨hB', cs, rfl, hl, hc⟩ := hP
      rw [rngD_len] at hl
      exact hC _ _ ⟨hB', sz ++ [cs], by rw [List.map_append]; rfl, by rw [List.length_append, List.length_singleton]; omega, fun o ho => by
        rcases List.mem_append.mp ho with z | z
        · exact hs o z
        · rw [List.mem_singleton.mp z]
          refine ⟨hc, fun e => ?_, by omega⟩
          rw [e] at hl
          simp at hl
          omega⟩
  · obtain ⟨hB', sz, rfl, hl, hs⟩ := hP
    rw [rngD_len] at hl
    exact hM _ _ _ _ _ _ _ _ _ _ _ _ b _ sz _ hE hB' hN ⟨fun o ho => (hs o ho).1, by omega⟩ (fun o ho => (hs o ho).2) (by omega)
end
end Bl

namespace Bl
open PySem PySem.Spec PyProof.Rows L2 PySem.W PySem.SeqAt PySem.Calls DL
abbrev s__law_open : Stmt := topS 15
theorem sc__law_open : FnScope ["_law_script"] ["_law_script"] (defScope s__law_open) := ⟨rfl, rfl, rfl, by decide +kernel, rfl, by decide +kernel, by decide +kernel⟩
/-- what was there is there -/
def Stays (H H' : Hp) : Prop := ∀ a o, H a = some o → H' a = some o
theorem cutV_ints (ns : List Int) (lo hi : Option Int) : ∃ ms : List Int, cutV (ns.map V.int) lo hi = ms.map V.int ∧ ms.length ≤ ns.length := by
  refine ⟨(ns.drop (HT.sIx (ns.map V.int).length 0 lo)).take (HT.sIx (ns.map V.int).length (ns.map V.int).length hi - HT.sIx (ns.map V.int).length 0 lo), ?_, ?_⟩
  · unfold cutV
    rw [List.map_take, List.map_drop]
  · rw [List.length_take, List.length_drop]; omega
section
variable {P : Program} {w : World} {K : PySem.W.Frag} {mg : Str → Option Value} {base : Heap}
def spOpen (K : PySem.W.Frag) : Sp := fun vs H Q _ => ∃ (a : Addr) (ns : List Int), vs = [.ref a] ∧ SqL K H a (ns.map V.int) ∧ ns.length ≤ 63 ∧
  ∀ H' l p (ms : List Int), l ≠ p → ms.length ≤ 63 → H' l = some (.lst (ms.map V.int)) → H' p = some (.lst [.ref l, .int 0, .int 0, .int 120121, .int 0]) → Q (.ref p) H'
theorem ok_open {f : Addr} {fd : FuncData} (F : Fun K "_law_open" "_law_open" s__law_open f fd) (m_list : mg "list" = none) : FnOk P w K mg base CX0 1 f fd ["_law_script"] (spOpen K) := by
  refine F.ok sc__law_open (fun vs H Q E h => ?_) (fun cdv A outer s H vs Q E hr h => ?_)
  · obtain ⟨a, ns, rfl, _⟩ := h
    rfl
  · obtain ⟨a, ns, rfl, hS, hl, q⟩ := h
    refine ⟨_, pss_one (ps_ret (pe_lst (pa_cons (pe_callTy (T := "list") call_list_of (by rfl) m_list (by decide +kernel) (pa_cons (pe_slice sl_list (pv 0) po_none (po_some pe_int)) pa_nil)) (pa_cons pe_int (pa_cons pe_int (pa_cons pe_int (pa_cons pe_int pa_nil))))))), ?_⟩
    refine ⟨.ref a, rfl, 63, rfl, a, ns.map V.int, rfl, hS, fun c nc => ?_⟩
    obtain ⟨ms, em, lm⟩ := cutV_ints ns none (some 63)
    refine ⟨c, _, rfl, .inl (SqL.of upd_same), fun l nl => ⟨(by show 5 ≤ sizeLine; decide), fun p np => ?_⟩⟩
    have nlp : l ≠ p := by
      rintro rfl
      rw [upd_same] at np; cases np
    exact q _ l p ms nlp (by omega) (by rw [upd_ne nlp, upd_same, em]) upd_same
/-! ### the law -/
def spLaw (K : PySem.W.Frag) : Sp := fun vs H Q _ => ∃ (a : Addr) (ns : List Int), vs = [.ref a] ∧ SqL K H a (ns.map V.int) ∧ ns.length ≤ 63 ∧ ∀ H', Q (.bl true) H'
theorem ok_law {f fO : Addr} {fd fdO : FuncData} (F : Fun K "law" "law" s_law f fd) (FO : Fun K "_law_open" "_law_open" s__law_open fO fdO) (bO : Binds K fdO ["_law_script"] []) (gO : mg "_law_open" = some (.ref fO))
    (C_blocker : DL.Cal P w K mg base "blocker" 4 MBlk) (C_least_of : DL.Cal P w K mg base "least_of" 4 MLof) (C_like : ∀ n, DL.Cal P w K mg base "_law_like" (n + 1) (mLike n))
    (C__law_least : DL.Cal P w K mg base "_law_least" 1 mLawLeast) (m_any : mg "any" = none) (m_all : mg "all" = none) (m_list : mg "list" = none) (m_range : mg "range" = none) (m_sorted : mg "sorted" = none) (m_set : mg "set" = none) (C__law_draw : DL.Cal P w K mg base "_law_draw" 1 mDraw) :
    FnOk P w K mg base CX0 5 f fd ["_law_script"] (spLaw K) := by
  have GO : FnOk P w K mg base CX0 1 fO fdO ["_law_script"] (spOpen K) := ok_open FO m_list
  refine F.ok sc_law (fun vs H Q E h => ?_) (fun cdv A outer s H vs Q E hr h => ?_)
  · obtain ⟨a, ns, rfl, _⟩ := h
    rfl
  · obtain ⟨a, ns, rfl, hS, hl, q⟩ := h
    have nd := sc_law.nd
    have hu := hr.units
    obtain ⟨tA, DA, hA⟩ := segA (P := P) (w := w) (K := K) (mg := mg) (base := base) (outer := outer) (H := H) (E := E) hr C_blocker C_least_of (C_like 2) m_any m_all C__law_least m_sorted m_set m_range C__law_draw
    obtain ⟨tL, DL', hL⟩ : ∃ t : TSD, DSs (XL P w K mg base f cdv A outer s H E) ((defBody s_law).drop 1) t ∧ ∀ (E' : EndsD) (b : Addr) (G : GM), (∀ G', E'.rt (.bl true) G') → Bag G b →
        t E' [none, some (.ref b), none, none, none, none, none, none, none, none, none, none, none] G := by
      refine ⟨_, (dss_cons (ds_for PassesOwn.never rfl (di_range1 rfl m_range (da_cons d_int da_nil)) (dg_name (i := 2) nd rfl (by first | exact Or.inl rfl | exact Or.inr rfl)) DA) (dss_one (ds_ret d_bl))), fun E' b G hE hB => ?_⟩
      refine ⟨3, rfl, by decide, by decide, ?_⟩
      refine for_inv (fun i ρ' G' => Good b ρ' G') (fun _ _ _ _ => trivial) (fun i od ρ' G' C hi hG hC => ?_) (fun ρ' G' hG => ?_) ⟨hB, _, _, _, _, _, _, _, _, _, _, _, _, rfl⟩
      · obtain ⟨hB', x0, x2, x3, x4, x5, x6, x7, x8, x9, x10, x11, x12, rfl⟩ := hG
        exact hA _ _ _ _ _ _ _ _ _ _ _ _ _ b _ hC hB'
      · exact hE _
    refine ⟨_, pss_cons (ps_set (i := 1) sc_law.nd rfl (by first | exact Or.inl rfl | exact Or.inr rfl) (pe_call GO (hr.mono (by decide)) (by rfl) gO FO.kp bO .nil pass0 (pa_cons (pv 0) pa_nil))) DL', ?_⟩
    refine ⟨.ref a, rfl, a, ns, rfl, hS, hl, fun H' l p ms hne hms el ep => ?_⟩
    have zl : (ms.map V.int).length ≤ sizeLine := by rw [List.length_map, sizeLine_eq]; omega
    refine ⟨[none, some (.ref p), none, none, none, none, none, none, none, none, none, none, none], upd (fun _ => none) l (.lst (ms.map V.int)), updG G0 p (bagL ms 0 0 120121 0), { nx := fun _ _ => False, rt := fun d _ => d = .bl true }, ⟨fun b o hb => ?_, fun b m hb => ?_⟩, ⟨rfl, fun i d hd => ?_⟩, hL _ p _ (fun _ => rfl) ⟨ms, 0, 0, 120121, 0, updG_same, by decide, by decide⟩, ⟨fun _ _ _ _ _ _ _ z => z.elim, fun v d F' G' H'' _ r z => ?_, fun _ _ _ _ _ _ _ z => z.elim, fun _ _ _ _ _ _ _ z => z.elim⟩⟩
    · by_cases e : b = l
      · subst e; rw [upd_same] at hb; cases hb; exact el
      · rw [upd_ne e] at hb; cases hb
    · by_cases e : b = p
      · subst e
        rw [updG_same] at hb
        cases hb
        refine ⟨by rw [upd_ne hne.symm], _, ep, (by show 5 ≤ sizeLine; decide), .cons (.lst upd_same zl (Reps.of_ints ms)) (.cons (.int _) (.cons (.int _) (.cons (.int _) (.cons (.int _) .nil))))⟩
      · rw [updG_ne e] at hb; cases hb
    · match i, hd with
      | 1, hd =>
        cases hd
        exact ⟨_, rfl, .ref p⟩
      | 0, hd | 2, hd | 3, hd | 4, hd | 5, hd | 6, hd | 7, hd | 8, hd | 9, hd | 10, hd | 11, hd | 12, hd => cases hd
    · have z : d = .bl true := z
      subst z
      cases r
      exact q _
end
end Bl

namespace Bl
open PySem PySem.Spec PyProof.Rows L2 PySem.W PySem.SeqAt PySem.Calls DL
theorem all_mk {l : PySem.W.OpenLaw} {w : World} {K : PySem.W.Frag} {h : Heap} {mg : Str → Option Value} {fa f0 f1 f2 f3 f4 f5 f6 f7 f8 f9 f10 f11 f12 : Addr} (X : K.In h) (G : h.Ns mainGlobals mg) (hfa : mg "law" = some (.ref fa)) {tk : Tok}
    {od0 an0 od1 an1 od2 an2 od3 an3 od4 an4 od5 an5 od6 an6 od7 an7 od8 an8 od9 an9 od10 an10 od11 an11 od12 an12 : Option Addr} {sl0 sl1 sl2 sl3 sl4 sl5 sl6 sl7 sl8 sl9 sl10 sl11 sl12 : Array (Option Value)} {oc0 kV0 dc0 pm0 cd0 ct0 oc1 kV1 dc1 pm1 cd1 ct1 oc2 kV2 dc2 pm2 cd2 ct2 oc3 kV3 dc3 pm3 cd3 ct3 oc4 kV4 dc4 pm4 cd4 ct4 oc5 kV5 dc5 pm5 cd5 ct5 oc6 kV6 dc6 pm6 cd6 ct6 oc7 kV7 dc7 pm7 cd7 ct7 oc8 kV8 dc8 pm8 cd8 ct8 oc9 kV9 dc9 pm9 cd9 ct9 oc10 kV10 dc10 pm10 cd10 ct10 oc11 kV11 dc11 pm11 cd11 ct11 oc12 kV12 dc12 pm12 cd12 ct12 : Value}
    (a0 : PySem.W.nsIn K mainGlobals "is_number" = some (some (.ref f0))) (l0 : K.lookup f0 = some ⟨oc0, od0, .func (PySem.W.fnOf "is_number" "is_number" (defArgs s_is_number) (defBody s_is_number) (defScope s_is_number) .none kV0 dc0 pm0 an0 cd0 ct0), sl0⟩) (c0 : PySem.W.codeIn K cd0 "is_number" = true) (k0 : PySem.W.keepIn K (.ref f0) = true)
    (a1 : PySem.W.nsIn K mainGlobals "is_members" = some (some (.ref f1))) (l1 : K.lookup f1 = some ⟨oc1, od1, .func (PySem.W.fnOf "is_members" "is_members" (defArgs s_is_members) (defBody s_is_members) (defScope s_is_members) .none kV1 dc1 pm1 an1 cd1 ct1), sl1⟩) (c1 : PySem.W.codeIn K cd1 "is_members" = true) (k1 : PySem.W.keepIn K (.ref f1) = true)
    (a2 : PySem.W.nsIn K mainGlobals "is_part" = some (some (.ref f2))) (l2 : K.lookup f2 = some ⟨oc2, od2, .func (PySem.W.fnOf "is_part" "is_part" (defArgs s_is_part) (defBody s_is_part) (defScope s_is_part) .none kV2 dc2 pm2 an2 cd2 ct2), sl2⟩) (c2 : PySem.W.codeIn K cd2 "is_part" = true) (k2 : PySem.W.keepIn K (.ref f2) = true)
    (a3 : PySem.W.nsIn K mainGlobals "least_tuples" = some (some (.ref f3))) (l3 : K.lookup f3 = some ⟨oc3, od3, .func (PySem.W.fnOf "least_tuples" "least_tuples" (defArgs s_least_tuples) (defBody s_least_tuples) (defScope s_least_tuples) .none kV3 dc3 pm3 an3 cd3 ct3), sl3⟩) (c3 : PySem.W.codeIn K cd3 "least_tuples" = true) (k3 : PySem.W.keepIn K (.ref f3) = true)
    (a4 : PySem.W.nsIn K mainGlobals "blocker_tuples" = some (some (.ref f4))) (l4 : K.lookup f4 = some ⟨oc4, od4, .func (PySem.W.fnOf "blocker_tuples" "blocker_tuples" (defArgs s_blocker_tuples) (defBody s_blocker_tuples) (defScope s_blocker_tuples) .none kV4 dc4 pm4 an4 cd4 ct4), sl4⟩) (c4 : PySem.W.codeIn K cd4 "blocker_tuples" = true) (k4 : PySem.W.keepIn K (.ref f4) = true)
    (a5 : PySem.W.nsIn K mainGlobals "need_sets" = some (some (.ref f5))) (l5 : K.lookup f5 = some ⟨oc5, od5, .func (PySem.W.fnOf "need_sets" "need_sets" (defArgs s_need_sets) (defBody s_need_sets) (defScope s_need_sets) .none kV5 dc5 pm5 an5 cd5 ct5), sl5⟩) (c5 : PySem.W.codeIn K cd5 "need_sets" = true) (k5 : PySem.W.keepIn K (.ref f5) = true)
    (a6 : PySem.W.nsIn K mainGlobals "least_of" = some (some (.ref f6))) (l6 : K.lookup f6 = some ⟨oc6, od6, .func (PySem.W.fnOf "least_of" "least_of" (defArgs s_least_of) (defBody s_least_of) (defScope s_least_of) .none kV6 dc6 pm6 an6 cd6 ct6), sl6⟩) (c6 : PySem.W.codeIn K cd6 "least_of" = true) (k6 : PySem.W.keepIn K (.ref f6) = true)
    (a7 : PySem.W.nsIn K mainGlobals "blocker" = some (some (.ref f7))) (l7 : K.lookup f7 = some ⟨oc7, od7, .func (PySem.W.fnOf "blocker" "blocker" (defArgs s_blocker) (defBody s_blocker) (defScope s_blocker) .none kV7 dc7 pm7 an7 cd7 ct7), sl7⟩) (c7 : PySem.W.codeIn K cd7 "blocker" = true) (k7 : PySem.W.keepIn K (.ref f7) = true)
    (a8 : PySem.W.nsIn K mainGlobals "_law_open" = some (some (.ref f8))) (l8 : K.lookup f8 = some ⟨oc8, od8, .func (PySem.W.fnOf "_law_open" "_law_open" (defArgs s__law_open) (defBody s__law_open) (defScope s__law_open) .none kV8 dc8 pm8 an8 cd8 ct8), sl8⟩) (c8 : PySem.W.codeIn K cd8 "_law_open" = true) (k8 : PySem.W.keepIn K (.ref f8) = true)
    (a9 : PySem.W.nsIn K mainGlobals "_law_draw" = some (some (.ref f9))) (l9 : K.lookup f9 = some ⟨oc9, od9, .func (PySem.W.fnOf "_law_draw" "_law_draw" (defArgs s__law_draw) (defBody s__law_draw) (defScope s__law_draw) .none kV9 dc9 pm9 an9 cd9 ct9), sl9⟩) (c9 : PySem.W.codeIn K cd9 "_law_draw" = true) (k9 : PySem.W.keepIn K (.ref f9) = true)
    (a10 : PySem.W.nsIn K mainGlobals "_law_like" = some (some (.ref f10))) (l10 : K.lookup f10 = some ⟨oc10, od10, .func (PySem.W.fnOf "_law_like" "_law_like" (defArgs s__law_like) (defBody s__law_like) (defScope s__law_like) .none kV10 dc10 pm10 an10 cd10 ct10), sl10⟩) (c10 : PySem.W.codeIn K cd10 "_law_like" = true) (k10 : PySem.W.keepIn K (.ref f10) = true)
    (a11 : PySem.W.nsIn K mainGlobals "_law_least" = some (some (.ref f11))) (l11 : K.lookup f11 = some ⟨oc11, od11, .func (PySem.W.fnOf "_law_least" "_law_least" (defArgs s__law_least) (defBody s__law_least) (defScope s__law_least) .none kV11 dc11 pm11 an11 cd11 ct11), sl11⟩) (c11 : PySem.W.codeIn K cd11 "_law_least" = true) (k11 : PySem.W.keepIn K (.ref f11) = true)
    (a12 : PySem.W.nsIn K mainGlobals "law" = some (some (.ref f12))) (l12 : K.lookup f12 = some ⟨oc12, od12, .func (PySem.W.fnOf "law" "law" (defArgs s_law) (defBody s_law) (defScope s_law) .none kV12 dc12 pm12 an12 cd12 ct12), sl12⟩) (c12 : PySem.W.codeIn K cd12 "law" = true) (k12 : PySem.W.keepIn K (.ref f12) = true)
    (z_isinstance : PySem.W.nsIn K mainGlobals "isinstance" = some none)
    (z_int : PySem.W.nsIn K mainGlobals "int" = some none)
    (z_bool : PySem.W.nsIn K mainGlobals "bool" = some none)
    (z_list : PySem.W.nsIn K mainGlobals "list" = some none)
    (z_tuple : PySem.W.nsIn K mainGlobals "tuple" = some none)
    (z_all : PySem.W.nsIn K mainGlobals "all" = some none)
    (z_any : PySem.W.nsIn K mainGlobals "any" = some none)
    (z_len : PySem.W.nsIn K mainGlobals "len" = some none)
    (z_sorted : PySem.W.nsIn K mainGlobals "sorted" = some none)
    (z_set : PySem.W.nsIn K mainGlobals "set" = some none)
    (z_enumerate : PySem.W.nsIn K mainGlobals "enumerate" = some none)
    (z_zip : PySem.W.nsIn K mainGlobals "zip" = some none)
    (z_str : PySem.W.nsIn K mainGlobals "str" = some none)
    (z_range : PySem.W.nsIn K mainGlobals "range" = some none)
    (z_MOST : PySem.W.nsIn K mainGlobals "MOST_MEMBER" = some (some (.int 99 tk))) :
    ∃ fd : FuncData, (∀ (s : Shared) (v : Value), BindsTo s fd ⟨[v], []⟩ [("_law_script", v)]) ∧ ∀ base : Heap, K.In base → base.Ns mainGlobals mg → FnOk l.prog w K mg base CX0 5 fa fd ["_law_script"] (spLaw K) := by
  have e := hfa.symm.trans (PySem.W.mg_of X G a12)
  cases e
  have m_isinstance := PySem.W.mg_none_of X G z_isinstance
  have m_int := PySem.W.mg_none_of X G z_int
  have m_bool := PySem.W.mg_none_of X G z_bool
  have m_list := PySem.W.mg_none_of X G z_list
  have m_tuple := PySem.W.mg_none_of X G z_tuple
  have m_all := PySem.W.mg_none_of X G z_all
  have m_any := PySem.W.mg_none_of X G z_any
  have m_len := PySem.W.mg_none_of X G z_len
  have m_sorted := PySem.W.mg_none_of X G z_sorted
  have m_set := PySem.W.mg_none_of X G z_set
  have m_enumerate := PySem.W.mg_none_of X G z_enumerate
  have m_zip := PySem.W.mg_none_of X G z_zip
  have m_str := PySem.W.mg_none_of X G z_str
  have m_range := PySem.W.mg_none_of X G z_range
  have m_MOST := PySem.W.mg_of X G z_MOST
  have F0 := fun_mk (st := s_is_number) l0 c0 k0
  have d_is_number : Dfn K mg "is_number" s_is_number := ⟨_, _, F0, PySem.W.mg_of X G a0⟩
  have F1 := fun_mk (st := s_is_members) l1 c1 k1
  have d_is_members : Dfn K mg "is_members" s_is_members := ⟨_, _, F1, PySem.W.mg_of X G a1⟩
  have F2 := fun_mk (st := s_is_part) l2 c2 k2
  have d_is_part : Dfn K mg "is_part" s_is_part := ⟨_, _, F2, PySem.W.mg_of X G a2⟩
  have F3 := fun_mk (st := s_least_tuples) l3 c3 k3
  have d_least_tuples : Dfn K mg "least_tuples" s_least_tuples := ⟨_, _, F3, PySem.W.mg_of X G a3⟩
  have F4 := fun_mk (st := s_blocker_tuples) l4 c4 k4
  have d_blocker_tuples : Dfn K mg "blocker_tuples" s_blocker_tuples := ⟨_, _, F4, PySem.W.mg_of X G a4⟩
  have F5 := fun_mk (st := s_need_sets) l5 c5 k5
  have d_need_sets : Dfn K mg "need_sets" s_need_sets := ⟨_, _, F5, PySem.W.mg_of X G a5⟩
  have F6 := fun_mk (st := s_least_of) l6 c6 k6
  have d_least_of : Dfn K mg "least_of" s_least_of := ⟨_, _, F6, PySem.W.mg_of X G a6⟩
  have F7 := fun_mk (st := s_blocker) l7 c7 k7
  have d_blocker : Dfn K mg "blocker" s_blocker := ⟨_, _, F7, PySem.W.mg_of X G a7⟩
  have F8 := fun_mk (st := s__law_open) l8 c8 k8
  have F9 := fun_mk (st := s__law_draw) l9 c9 k9
  have d__law_draw : Dfn K mg "_law_draw" s__law_draw := ⟨_, _, F9, PySem.W.mg_of X G a9⟩
  have F10 := fun_mk (st := s__law_like) l10 c10 k10
  have d__law_like : Dfn K mg "_law_like" s__law_like := ⟨_, _, F10, PySem.W.mg_of X G a10⟩
  have F11 := fun_mk (st := s__law_least) l11 c11 k11
  have d__law_least : Dfn K mg "_law_least" s__law_least := ⟨_, _, F11, PySem.W.mg_of X G a11⟩
  have F12 := fun_mk (st := s_law) l12 c12 k12
  have bO := F8.binds (ps := ["_law_script"]) fun _ _ _ _ _ _ us hl => match us, hl with | [_], _ => rfl
  refine ⟨PySem.W.fnOf "law" "law" (defArgs s_law) (defBody s_law) (defScope s_law) .none kV12 dc12 pm12 an12 cd12 ct12, fun s v => .of_eq rfl, fun base _ _ => ?_⟩
  have c1 := c_is_number (P := l.prog) (w := w) (base := base) d_is_number m_isinstance m_int m_bool
  have c2 := c_is_members (P := l.prog) (w := w) (base := base) d_is_members c1 m_isinstance m_list m_tuple m_all m_MOST
  have c3 := c_is_part (P := l.prog) (w := w) (base := base) d_is_part m_all
  have c4 := c_least_tuples (P := l.prog) (w := w) (base := base) d_least_tuples c3 m_sorted m_set m_tuple m_any m_len
  have c5 := c_blocker_tuples (P := l.prog) (w := w) (base := base) d_blocker_tuples c4 m_any
  have c6 := c_need_sets (P := l.prog) (w := w) (base := base) d_need_sets c2 m_enumerate
  have c7 := c_blocker (P := l.prog) (w := w) (base := base) d_blocker c6 c5 m_list
  have c7b := c_least_of (P := l.prog) (w := w) (base := base) d_least_of c6 c4 m_list
  have c8 := c__law_draw (P := l.prog) (w := w) (base := base) d__law_draw m_len m_int
  have c10 := c__law_like (P := l.prog) (w := w) (base := base) d__law_like m_isinstance m_list m_tuple m_bool m_int m_str m_len m_all m_zip
  have c11 := c__law_least (P := l.prog) (w := w) (base := base) d__law_least m_sorted m_any m_all
  exact ok_law F12 F8 bO (PySem.W.mg_of X G a8) (Cal.imp c7 fun _ _ _ h => h.h) (Cal.imp c7b fun _ _ _ h => h.h) c10 c11 m_any m_all m_list m_range m_sorted m_set c8
end Bl
open PySem PySem.W PyProof.Rows
set_option maxHeartbeats 0 in
theorem PySem.Challenge.cw_eachentry_k36_whole_blockers_blocked_aga_holds : PySem.Challenge.rw_eachentry_k36_whole_blockers_blocked_aga.Holds := by
  w_on; o_law; k_head; (case hw => w_witness2)
  k_fill
  refine L2.walk_of (l := PySem.Challenge.rw_eachentry_k36_whole_blockers_blocked_aga) (n := 63) (k := 5) (x := "_law_script") (CX := fun _ => L2.CX0) (sp := fun w => Bl.spLaw _) rfl (by decide) rfl ⟨rfl, by decide, by decide⟩ (fun w h Y => PySem.W.kIn_of Y) ?F (fun _ _ a ns hl _ hS => ⟨a, ns, rfl, hS, hl, fun _ => rfl⟩) (fun _ _ _ _ _ h => h)
  case F =>
    intro w mg fa h KX G hmg
    refine' Bl.all_mk KX G hmg ?a0 ?l0 ?c0 ?k0 ?a1 ?l1 ?c1 ?k1 ?a2 ?l2 ?c2 ?k2 ?a3 ?l3 ?c3 ?k3 ?a4 ?l4 ?c4 ?k4 ?a5 ?l5 ?c5 ?k5 ?a6 ?l6 ?c6 ?k6 ?a7 ?l7 ?c7 ?k7 ?a8 ?l8 ?c8 ?k8 ?a9 ?l9 ?c9 ?k9 ?a10 ?l10 ?c10 ?k10 ?a11 ?l11 ?c11 ?k11 ?a12 ?l12 ?c12 ?k12 ?z_isinstance ?z_int ?z_bool ?z_list ?z_tuple ?z_all ?z_any ?z_len ?z_sorted ?z_set ?z_enumerate ?z_zip ?z_str ?z_range ?z_MOST
    (case a0 => k_is); (case l0 => k_is); (case c0 => k_is); (case k0 => k_is); (case a1 => k_is); (case l1 => k_is); (case c1 => k_is); (case k1 => k_is); (case a2 => k_is); (case l2 => k_is); (case c2 => k_is); (case k2 => k_is); (case a3 => k_is); (case l3 => k_is); (case c3 => k_is); (case k3 => k_is); (case a4 => k_is); (case l4 => k_is); (case c4 => k_is); (case k4 => k_is); (case a5 => k_is); (case l5 => k_is); (case c5 => k_is); (case k5 => k_is); (case a6 => k_is); (case l6 => k_is); (case c6 => k_is); (case k6 => k_is); (case a7 => k_is); (case l7 => k_is); (case c7 => k_is); (case k7 => k_is); (case a8 => k_is); (case l8 => k_is); (case c8 => k_is); (case k8 => k_is); (case a9 => k_is); (case l9 => k_is); (case c9 => k_is); (case k9 => k_is); (case a10 => k_is); (case l10 => k_is); (case c10 => k_is); (case k10 => k_is); (case a11 => k_is); (case l11 => k_is); (case c11 => k_is); (case k11 => k_is); (case a12 => k_is); (case l12 => k_is); (case c12 => k_is); (case k12 => k_is); (case z_isinstance => k_is); (case z_int => k_is); (case z_bool => k_is); (case z_list => k_is); (case z_tuple => k_is); (case z_all => k_is); (case z_any => k_is); (case z_len => k_is); (case z_sorted => k_is); (case z_set => k_is); (case z_enumerate => k_is); (case z_zip => k_is); (case z_str => k_is); (case z_range => k_is); (case z_MOST => k_is)

