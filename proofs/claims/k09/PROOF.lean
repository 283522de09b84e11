import PyProof.Rows.All
import Wide.All
import OpenK.AllK
import Wide.FinOn
import HandS.ForMost
import HandS.Exc
import HandS.Deep
import HandS.Conv
import HandS.IsInst
import HandS.CallLocal
import HandS.DictComp
import HandS.SetKeys
import HandS.WideBits
import KE.OsArith
import HandS.Strs
import HandS.TupAny
import HandS.Codes
import PyProof.DictMoreH
import HandS.SetTxt0
import PyProof.Rows.SortShellAny
import HandS.SetBool
import KE.KDictZip
import HandS.SetFor
import PyProof.FactsAll.set_1
import PyProof.FactsAll.set_2
import HandS.OwnEq
import PyProof.InstEq
import HandS.Zip0
import KE.GoesEnumKw
import HandS.ExcValue
import HandS.ExcInit
import HandS.ExcField
import HandS.ExcIs
import HandS.ClsMeth
import KE.KExcInit
import HandS.TryMany
import HandS.WordsExc
import PySem.Challenge.RW_kindweft_k09_whole_built_tables_as_seen
section
set_option Elab.async false
set_option linter.all false
set_option maxRecDepth 100000
/-! PD1: pure data over the hand layer: data, its relation to values, readings, the first rules. -/
namespace PD
open PySem PySem.Spec PyProof.Rows L2

/-! ### data -/
inductive D where
  | non
  | bl (b : Bool)
  | int (i : Int)
  | str (s : Str)
  | lst (xs : List D)
  | tup (xs : List D)
  | wtp (xs : List D)
  | dK (ks : List Str) (ds : List D)
  | dT (ks : List (List Str)) (ds : List D)
  | fn (n : Nat)
  | ins (ds : List D)

/-- what is fixed: the written part, the defs by number, the class of the instances -/
structure Tab where
  K : PySem.W.Frag
  fa : Nat → Option Addr
  C : Addr
  fs : List Str

/-- a tuple that is known to its object, or written -/
def Stp (T : Tab) (H : Hp) (a : Addr) (vs : List V) : Prop :=
  SqT T.K H a vs ∧ ((∃ o, H a = some (.frz o (.tup vs)) ∧ o.cls = .type "tuple" ∧ o.dict = none) ∨ ∃ o, T.K.lookup a = some o ∧ o.cls = .type "tuple" ∧ o.dict = none)
mutual
inductive Rep (T : Tab) (H : Hp) : D → V → Prop
  | non : Rep T H .non .non
  | bl (b : Bool) : Rep T H (.bl b) (.bl b)
  | int (i : Int) : Rep T H (.int i) (.int i)
  | str (x : Str) : Rep T H (.str x) (.str x)
  | lst {a : Addr} {vs : List V} {ds : List D} : SqL T.K H a vs → Reps T H ds vs → Rep T H (.lst ds) (.ref a)
  | tup {a : Addr} {vs : List V} {ds : List D} : H a = some (.tup vs) → Reps T H ds vs → Rep T H (.tup ds) (.ref a)
  | wtp {a : Addr} {vs : List V} {ds : List D} : Stp T H a vs → Reps T H ds vs → Rep T H (.wtp ds) (.ref a)
  | dK {a : Addr} {ks : List Str} {vs : List V} {ds : List D} : H a = some (.dK ((ks.map Sum.inr).zip vs)) → ks.length = ds.length → Reps T H ds vs → Rep T H (.dK ks ds) (.ref a)
  | dT {a : Addr} {ks : List (List Str)} {vs : List V} {ds : List D} : H a = some (.dT ((ks.map fun k => k.map Sum.inr).zip vs)) → ks.length = ds.length → Reps T H ds vs → Rep T H (.dT ks ds) (.ref a)
  | fn {n : Nat} {a : Addr} : T.fa n = some a → Rep T H (.fn n) (.ref a)
  | ins {a dx : Addr} {vs : List V} {ds : List D} : H a = some (.ins T.C dx (T.fs.zip vs)) → T.fs.length = ds.length → Reps T H ds vs → Rep T H (.ins ds) (.ref a)
inductive Reps (T : Tab) (H : Hp) : List D → List V → Prop
  | nil : Reps T H [] []
  | cons {d : D} {ds : List D} {v : V} {vs : List V} : Rep T H d v → Reps T H ds vs → Reps T H (d :: ds) (v :: vs)
end

theorem Same.tup {K : PySem.W.Frag} {H H' : Hp} {a : Addr} {xs : List V} (e : Same H H') (h : SqT K H a xs) : SqT K H' a xs := by
  rcases h with (h | ⟨o, h⟩) | h
  · exact .inl (.inl (e _ _ h))
  · exact .inl (.inr ⟨o, e _ _ h⟩)
  · exact .inr h

theorem Stp.mono {T : Tab} {H H' : Hp} {a : Addr} {vs : List V} (e : Same H H') (h : Stp T H a vs) : Stp T H' a vs :=
  ⟨Same.tup e h.1, h.2.elim (fun ⟨o, h1, h2⟩ => .inl ⟨o, e _ _ h1, h2⟩) .inr⟩
mutual
theorem Rep.mono {T : Tab} {H H' : Hp} (e : Same H H') : ∀ {d : D} {v : V}, Rep T H d v → Rep T H' d v
  | _, _, .non => .non
  | _, _, .bl b => .bl b
  | _, _, .int i => .int i
  | _, _, .str x => .str x
  | _, _, .lst h r => .lst (e.seq h) (Reps.mono e r)
  | _, _, .tup h r => .tup (e _ _ h) (Reps.mono e r)
  | _, _, .wtp h r => .wtp (h.mono e) (Reps.mono e r)
  | _, _, .dK h l r => .dK (e _ _ h) l (Reps.mono e r)
  | _, _, .dT h l r => .dT (e _ _ h) l (Reps.mono e r)
  | _, _, .fn h => .fn h
  | _, _, .ins h l r => .ins (e _ _ h) l (Reps.mono e r)
theorem Reps.mono {T : Tab} {H H' : Hp} (e : Same H H') : ∀ {ds : List D} {vs : List V}, Reps T H ds vs → Reps T H' ds vs
  | _, _, .nil => .nil
  | _, _, .cons h t => .cons (Rep.mono e h) (Reps.mono e t)
end
theorem Reps.length {T : Tab} {H : Hp} : ∀ {ds : List D} {vs : List V}, Reps T H ds vs → ds.length = vs.length
  | _, _, .nil => rfl
  | _, _, .cons _ t => by rw [List.length_cons, List.length_cons, Reps.length t]
theorem Reps.get {T : Tab} {H : Hp} : ∀ {ds : List D} {vs : List V} {i : Nat} {d : D}, Reps T H ds vs → ds[i]? = some d → ∃ v, vs[i]? = some v ∧ Rep T H d v
  | _, _, _, _, .nil, e => by simp at e
  | _, _, 0, _, .cons r _, e => by
    have e' := Option.some.inj e
    subst e'
    exact ⟨_, rfl, r⟩
  | _, _, i + 1, _, .cons _ t, e => Reps.get (i := i) t e
theorem Reps.append {T : Tab} {H : Hp} : ∀ {ds es : List D} {vs us : List V}, Reps T H ds vs → Reps T H es us → Reps T H (ds ++ es) (vs ++ us)
  | _, _, _, _, .nil, s => s
  | _, _, _, _, .cons r t, s => .cons r (Reps.append t s)
theorem Reps.take {T : Tab} {H : Hp} : ∀ {ds : List D} {vs : List V} (n : Nat), Reps T H ds vs → Reps T H (ds.take n) (vs.take n)
  | _, _, 0, _ => .nil
  | _, _, _ + 1, .nil => .nil
  | _, _, n + 1, .cons r t => .cons r (Reps.take n t)
theorem Reps.drop {T : Tab} {H : Hp} : ∀ {ds : List D} {vs : List V} (n : Nat), Reps T H ds vs → Reps T H (ds.drop n) (vs.drop n)
  | _, _, 0, r => r
  | _, _, _ + 1, .nil => .nil
  | _, _, n + 1, .cons _ t => Reps.drop n t
theorem Reps.ints {T : Tab} {H : Hp} : ∀ (ns : List Int), Reps T H (ns.map D.int) (ns.map V.int)
  | [] => .nil
  | n :: r => .cons (.int n) (Reps.ints r)

/-! ### growth -/
/-- from the frozen part F of H to the frozen part F' of H': all that stood stands; what is newly frozen is new -/
structure Gr (F H F' H' : Hp) : Prop where
  same : Same H H'
  frz : Same F F'
  sub : Same F' H'
  fresh : ∀ a o, F' a = some o → F a = some o ∨ H a = none
theorem Gr.refl {F H : Hp} (s : Same F H) : Gr F H F H := ⟨Same.refl _, Same.refl _, s, fun _ _ h => .inl h⟩
theorem Gr.trans {F H F1 H1 F2 H2 : Hp} (a : Gr F H F1 H1) (b : Gr F1 H1 F2 H2) : Gr F H F2 H2 := by
  refine ⟨a.same.trans b.same, a.frz.trans b.frz, b.sub, fun c o h => ?_⟩
  rcases b.fresh c o h with q | q
  · exact a.fresh c o q
  · exact .inr (a.same.free q)
/-- one def's entry, in two steps -/
theorem Gr.glue {F0 B F1 H1 F2 H2 : Hp} (a : Gr F0 B F1 H1) (b : Gr F1 B F2 H2) : Gr F0 B F2 H2 := by
  refine ⟨b.same, a.frz.trans b.frz, b.sub, fun c o h => ?_⟩
  rcases b.fresh c o h with q | q
  · exact a.fresh c o q
  · exact .inr q
theorem Gr.free {F H F' H' : Hp} (g : Gr F H F' H') {a : Addr} {o : HO} (h : H a = some o) (n : F a = none) : F' a = none := by
  cases q : F' a with
  | none => rfl
  | some u =>
    rcases g.fresh a u q with z | z
    · rw [n] at z; cases z
    · rw [h] at z; cases z
theorem same_new {H : Hp} {p : Addr} {o : HO} (h : H p = none) : Same H (upd H p o) := fun b x e => by
  rw [upd_ne (ne_of_none e h)]
  exact e
/-- a new object, frozen at once -/
theorem Gr.new {F H : Hp} (s : Same F H) {p : Addr} {o : HO} (h : H p = none) : Gr F H (upd F p o) (upd H p o) := by
  have hF : F p = none := s.free h
  refine ⟨same_new h, same_new hF, fun b x e => ?_, fun b x e => ?_⟩
  · by_cases hb : b = p
    · subst hb
      rw [upd_same] at e ⊢
      exact e
    · rw [upd_ne hb] at e ⊢
      exact s b x e
  · by_cases hb : b = p
    · subst hb
      exact .inr h
    · rw [upd_ne hb] at e
      exact .inl e
/-- a new object, not frozen -/
theorem Gr.grow {F H : Hp} (s : Same F H) {p : Addr} {o : HO} (h : H p = none) : Gr F H F (upd H p o) :=
  ⟨same_new h, Same.refl _, s.trans (same_new h), fun _ _ e => .inl e⟩

/-! ### what a def fills is its own -/
inductive OD where
  | lst (ds : List D)
  | gath (ks : List (List Str)) (dss : List (List D))
  | dK (ks : List Str) (ds : List D)
  | dT (ks : List (List Str)) (ds : List D)
  | ins (a0 : Addr) (fs : List Str) (ds : List D)
inductive Sl where
  | no
  | sh (d : D)
  | ow (o : OD)
abbrev Rho := List Sl

/-- lists of a dict of lists -/
inductive Lists (T : Tab) (F H : Hp) : List (List D) → List Addr → Prop
  | nil : Lists T F H [] []
  | cons {ds : List D} {dss : List (List D)} {a : Addr} {as : List Addr} {vs : List V} : H a = some (.lst vs) → Reps T F ds vs → Lists T F H dss as → Lists T F H (ds :: dss) (a :: as)
def OwnR (T : Tab) (F H : Hp) : OD → Addr → List Addr → Prop
  | .lst ds, a, fp => fp = [a] ∧ ∃ vs, H a = some (.lst vs) ∧ Reps T F ds vs
  | .dK ks ds, a, fp => fp = [a] ∧ ks.length = ds.length ∧ ∃ vs, H a = some (.dK ((ks.map Sum.inr).zip vs)) ∧ Reps T F ds vs
  | .dT ks ds, a, fp => fp = [a] ∧ ks.length = ds.length ∧ ∃ vs, H a = some (.dT ((ks.map fun k => k.map Sum.inr).zip vs)) ∧ Reps T F ds vs
  | .ins a0 fs ds, a, fp => a = a0 ∧ fp = [a] ∧ fs.length = ds.length ∧ ∃ dx vs, H a = some (.ins T.C dx (fs.zip vs)) ∧ Reps T F ds vs
  | .gath ks dss, a, fp => ∃ as, fp = a :: as ∧ fp.Nodup ∧ ks.length = dss.length ∧ H a = some (.dT ((ks.map fun k => k.map Sum.inr).zip (as.map V.ref))) ∧ Lists T F H dss as
def SlR (T : Tab) (F H : Hp) : Sl → List Addr → Option (Option V) → Prop
  | .no, fp, _ => fp = []
  | .sh d, fp, ov => fp = [] ∧ ∃ v, ov = some (some v) ∧ Rep T F d v
  | .ow o, fp, ov => ∃ a, ov = some (some (.ref a)) ∧ OwnR T F H o a fp
/-- the slots: B: the heap at the def's entry; F: what is frozen -/
structure EnvR (T : Tab) (B F H : Hp) (ρ : Rho) (σ : L2.St) : Prop where
  len : σ.length = ρ.length
  ex : ∃ fp : Nat → List Addr, (∀ i j a, a ∈ fp i → a ∈ fp j → i = j) ∧ (∀ i a, a ∈ fp i → F a = none ∧ B a = none ∧ ∃ o, H a = some o) ∧ (∀ i, ρ[i]? = none → fp i = []) ∧ ∀ i s, ρ[i]? = some s → SlR T F H s (fp i) σ[i]?

theorem Lists.mono {T : Tab} {F F' H H' : Hp} (e : Same F F') (e2 : Same H H') : ∀ {dss : List (List D)} {as : List Addr}, Lists T F H dss as → Lists T F' H' dss as
  | _, _, .nil => .nil
  | _, _, .cons h r t => .cons (e2 _ _ h) (r.mono e) (Lists.mono e e2 t)
theorem OwnR.mono {T : Tab} {F F' H H' : Hp} (e : Same F F') (e2 : Same H H') : ∀ {o : OD} {a : Addr} {fp : List Addr}, OwnR T F H o a fp → OwnR T F' H' o a fp
  | .lst _, _, _, ⟨h1, vs, h2, r⟩ => ⟨h1, vs, e2 _ _ h2, r.mono e⟩
  | .dK _ _, _, _, ⟨h1, l, vs, h2, r⟩ => ⟨h1, l, vs, e2 _ _ h2, r.mono e⟩
  | .dT _ _, _, _, ⟨h1, l, vs, h2, r⟩ => ⟨h1, l, vs, e2 _ _ h2, r.mono e⟩
  | .ins _ _ _, _, _, ⟨h0, h1, l, dx, vs, h2, r⟩ => ⟨h0, h1, l, dx, vs, e2 _ _ h2, r.mono e⟩
  | .gath _ _, _, _, ⟨as, h1, nd, l, h2, r⟩ => ⟨as, h1, nd, l, e2 _ _ h2, r.mono e e2⟩
theorem SlR.mono {T : Tab} {F F' H H' : Hp} (e : Same F F') (e2 : Same H H') : ∀ {s : Sl} {fp : List Addr} {ov : Option (Option V)}, SlR T F H s fp ov → SlR T F' H' s fp ov
  | .no, _, _, h => h
  | .sh _, _, _, ⟨h, v, e1, r⟩ => ⟨h, v, e1, r.mono e⟩
  | .ow _, _, _, ⟨a, e1, r⟩ => ⟨a, e1, r.mono e e2⟩
theorem EnvR.grow {T : Tab} {B F H F' H' : Hp} {ρ : Rho} {σ : L2.St} (r : EnvR T B F H ρ σ) (g : Gr F H F' H') : EnvR T B F' H' ρ σ := by
  obtain ⟨fp, h1, h2, h3, h4⟩ := r.ex
  refine ⟨r.len, fp, h1, fun i a ha => ?_, h3, fun i s e => (h4 i s e).mono g.frz g.same⟩
  obtain ⟨q1, q2, o, q3⟩ := h2 i a ha
  exact ⟨g.free q3 q1, q2, o, g.same _ _ q3⟩
theorem EnvR.sh {T : Tab} {B F H : Hp} {ρ : Rho} {σ : L2.St} (r : EnvR T B F H ρ σ) {i : Nat} {d : D} (e : ρ[i]? = some (.sh d)) : ∃ v, σ[i]? = some (some v) ∧ Rep T F d v := by
  obtain ⟨fp, _, _, _, h4⟩ := r.ex
  obtain ⟨_, v, e1, r1⟩ := h4 i _ e
  exact ⟨v, e1, r1⟩
/-- a slot is stored; what it held is forgotten -/
theorem EnvR.set {T : Tab} {B F H : Hp} {ρ : Rho} {σ : L2.St} (r : EnvR T B F H ρ σ) {i : Nat} {d : D} {v : V} (rv : Rep T F d v) : EnvR T B F H (ρ.set i (.sh d)) (σ.set i (some v)) := by
  obtain ⟨fp, h1, h2, h3, h4⟩ := r.ex
  refine ⟨by rw [List.length_set, List.length_set, r.len], fun j => if j = i then [] else fp j, fun j k a ha hk => ?_, fun j a ha => ?_, fun j e => ?_, fun j s e => ?_⟩
  · have ha' : a ∈ (if j = i then [] else fp j) := ha
    have hk' : a ∈ (if k = i then [] else fp k) := hk
    by_cases hj : j = i
    · rw [if_pos hj] at ha'; cases ha'
    · by_cases hki : k = i
      · rw [if_pos hki] at hk'; cases hk'
      · rw [if_neg hj] at ha'; rw [if_neg hki] at hk'
        exact h1 j k a ha' hk'
  · have ha' : a ∈ (if j = i then [] else fp j) := ha
    by_cases hj : j = i
    · rw [if_pos hj] at ha'; cases ha'
    · rw [if_neg hj] at ha'
      exact h2 j a ha'
  · show (if j = i then [] else fp j) = []
    by_cases hj : j = i
    · rw [if_pos hj]
    · rw [if_neg hj]
      rw [List.getElem?_set_ne (Ne.symm hj)] at e
      exact h3 j e
  · show SlR T F H s (if j = i then [] else fp j) _
    by_cases hj : j = i
    · subst hj
      rw [if_pos rfl]
      have hlt : j < ρ.length := by
        have := (List.getElem?_eq_some_iff.mp e).1
        simpa using this
      rw [List.getElem?_set_self hlt] at e
      have e' := Option.some.inj e
      subst e'
      exact ⟨rfl, v, by rw [List.getElem?_set_self (by rw [r.len]; exact hlt)], rv⟩
    · rw [if_neg hj]
      rw [List.getElem?_set_ne (Ne.symm hj)] at e ⊢
      exact h4 j s e
/-- slots forgotten -/
def wipeR (ρ : Rho) : List Nat → Rho
  | [] => ρ
  | v :: vs => (wipeR ρ vs).set v .no
theorem EnvR.no {T : Tab} {B F H : Hp} {ρ : Rho} {σ : L2.St} (r : EnvR T B F H ρ σ) (i : Nat) : EnvR T B F H (ρ.set i .no) (σ.set i none) := by
  obtain ⟨fp, h1, h2, h3, h4⟩ := r.ex
  refine ⟨by rw [List.length_set, List.length_set, r.len], fun j => if j = i then [] else fp j, fun j k a ha hk => ?_, fun j a ha => ?_, fun j e => ?_, fun j s e => ?_⟩
  · have ha' : a ∈ (if j = i then [] else fp j) := ha
    have hk' : a ∈ (if k = i then [] else fp k) := hk
    by_cases hj : j = i
    · rw [if_pos hj] at ha'; cases ha'
    · by_cases hki : k = i
      · rw [if_pos hki] at hk'; cases hk'
      · rw [if_neg hj] at ha'; rw [if_neg hki] at hk'
        exact h1 j k a ha' hk'
  · have ha' : a ∈ (if j = i then [] else fp j) := ha
    by_cases hj : j = i
    · rw [if_pos hj] at ha'; cases ha'
    · rw [if_neg hj] at ha'
      exact h2 j a ha'
  · show (if j = i then [] else fp j) = []
    by_cases hj : j = i
    · rw [if_pos hj]
    · rw [if_neg hj]
      rw [List.getElem?_set_ne (Ne.symm hj)] at e
      exact h3 j e
  · show SlR T F H s (if j = i then [] else fp j) _
    by_cases hj : j = i
    · subst hj
      rw [if_pos rfl]
      have hlt : j < ρ.length := by
        have := (List.getElem?_eq_some_iff.mp e).1
        simpa using this
      rw [List.getElem?_set_self hlt] at e
      have e' := Option.some.inj e
      subst e'
      rfl
    · rw [if_neg hj]
      rw [List.getElem?_set_ne (Ne.symm hj)] at e ⊢
      exact h4 j s e
theorem EnvR.wipe {T : Tab} {B F H : Hp} {ρ : Rho} {σ : L2.St} (r : EnvR T B F H ρ σ) : ∀ vs : List Nat, EnvR T B F H (wipeR ρ vs) (L2.wipe σ vs)
  | [] => r
  | v :: vs => (EnvR.wipe r vs).no v
theorem wipe_set {σ : L2.St} {i : Nat} {x : Option V} : ∀ {vs : List Nat}, i ∈ vs → L2.wipe (σ.set i x) vs = L2.wipe σ vs
  | [], h => by cases h
  | v :: vs, h => by
    show (L2.wipe (σ.set i x) vs).set v none = (L2.wipe σ vs).set v none
    by_cases hv : i ∈ vs
    · rw [wipe_set hv]
    · rcases List.mem_cons.mp h with e | e
      · subst e
        have key : ∀ us : List Nat, i ∉ us → L2.wipe (σ.set i x) us = (L2.wipe σ us).set i x := by
          intro us
          induction us with
          | nil => intro _; rfl
          | cons u us ih =>
            intro hn
            have h1 : i ≠ u := fun e => hn (e ▸ List.mem_cons_self)
            have h2 : i ∉ us := fun e => hn (List.mem_cons_of_mem _ e)
            show (L2.wipe (σ.set i x) us).set u none = ((L2.wipe σ us).set u none).set i x
            rw [ih h2, List.set_comm _ _ h1]
        rw [key vs hv, List.set_set]
      · exact absurd e hv
end PD
end
section
set_option Elab.async false
set_option linter.all false
set_option maxRecDepth 100000
/-! PD2: the judgements (ED, TD, AD, ID, GD, SD), names, constants, operators, displays, calls. -/
namespace PD
open PySem PySem.Spec PyProof.Rows L2

/-! ### denotations' parts -/
abbrev DE := Rho → Option D
abbrev DTt := Rho → Option Bool
abbrev DA := Rho → Option (List D)
inductive Out where
  | nx (ρ : Rho)
  | rt (d : D)
abbrev DS := Rho → Option Out
def atS : Rho → Nat → Sl
  | [], _ => .no
  | s :: _, 0 => s
  | _ :: r, n + 1 => atS r n
theorem atS_get : ∀ {ρ : Rho} {i : Nat} {s : Sl}, atS ρ i = s → s ≠ .no → ρ[i]? = some s
  | [], _, _, h, n => absurd h.symm n
  | s :: _, 0, _, h, _ => by rw [← h]; rfl
  | _ :: r, i + 1, s, h, n => atS_get (ρ := r) (i := i) h n
def dVar (i : Nat) : DE := fun ρ => match atS ρ i with
  | .sh d => some d
  | _ => none
def dC (d : D) : DE := fun _ => some d
def d1 (f : D → Option D) (a : DE) : DE := fun ρ => match a ρ with
  | some x => f x
  | none => none
def d2 (f : D → D → Option D) (a b : DE) : DE := fun ρ => match a ρ with
  | some x => (match b ρ with
    | some y => f x y
    | none => none)
  | none => none
def t1 (f : D → Option Bool) (a : DE) : DTt := fun ρ => match a ρ with
  | some x => f x
  | none => none
def t2 (f : D → D → Option Bool) (a b : DE) : DTt := fun ρ => match a ρ with
  | some x => (match b ρ with
    | some y => f x y
    | none => none)
  | none => none
def dB (t : DTt) : DE := fun ρ => match t ρ with
  | some b => some (.bl b)
  | none => none
def dIf (t : DTt) (a b : DE) : DE := fun ρ => match t ρ with
  | some true => a ρ
  | some false => b ρ
  | none => none
def tAndD (t u : DTt) : DTt := fun ρ => match t ρ with
  | some true => u ρ
  | some false => some false
  | none => none
def tOrD (t u : DTt) : DTt := fun ρ => match t ρ with
  | some true => some true
  | some false => u ρ
  | none => none
def tNotD (t : DTt) : DTt := fun ρ => match t ρ with
  | some b => some (!b)
  | none => none
def aNil : DA := fun _ => some []
def aCons (a : DE) (r : DA) : DA := fun ρ => match a ρ with
  | some x => (match r ρ with
    | some xs => some (x :: xs)
    | none => none)
  | none => none
def dCall (g : List D → Option D) (a : DA) : DE := fun ρ => match a ρ with
  | some xs => g xs
  | none => none
/-! statements -/
def sNext : DS := fun ρ => some (.nx ρ)
def sSeq (t u : DS) : DS := fun ρ => match t ρ with
  | some (.nx ρ') => u ρ'
  | r => r
def sRet (a : DE) : DS := fun ρ => match a ρ with
  | some d => some (.rt d)
  | none => none
def sIf (t : DTt) (a b : DS) : DS := fun ρ => match t ρ with
  | some true => a ρ
  | some false => b ρ
  | none => none
def sSet (i : Nat) (a : DE) : DS := fun ρ => match a ρ with
  | some d => some (.nx (ρ.set i (.sh d)))
  | none => none
def sDrop (a : DE) : DS := fun ρ => match a ρ with
  | some _ => some (.nx ρ)
  | none => none

/-! ### readings -/
section
variable (T : Tab)
def rdE (de : DE) : TE := fun σ H Q => ∃ B ρ d F, de ρ = some d ∧ Same F H ∧ EnvR T B F H ρ σ ∧ ∀ v H' F', Gr F H F' H' → Rep T F' d v → Q v H'
def rdT (dt : DTt) : TT := fun σ H Q => ∃ B ρ b F, dt ρ = some b ∧ Same F H ∧ EnvR T B F H ρ σ ∧ ∀ H' F', Gr F H F' H' → Q b H'
def rdA (da : DA) : TA := fun σ H Q => ∃ B ρ ds F, da ρ = some ds ∧ Same F H ∧ EnvR T B F H ρ σ ∧ ∀ vs H' F', Gr F H F' H' → Reps T F' ds vs → Q vs H'
def finS (B F0 : Hp) (D : Ends) : Out → Prop
  | .nx ρ => ∀ σ H F, Gr F0 B F H → EnvR T B F H ρ σ → D.nx σ H
  | .rt d => ∀ v H F, Gr F0 B F H → Rep T F d v → D.rt v H
def rdS (ds : DS) : TS := fun D σ H => ∃ B F0 ρ o F, ds ρ = some o ∧ Gr F0 B F H ∧ EnvR T B F H ρ σ ∧ finS T B F0 D o
end
/-- the expression's value is de of the slots -/
def ED (T : Tab) (X : Cx) (e : Expr) (de : DE) : Prop := T.K = X.K → PE X e (rdE T de)
def TD (T : Tab) (X : Cx) (e : Expr) (dt : DTt) : Prop := T.K = X.K → PT X e (rdT T dt)
def WD (T : Tab) (X : Cx) (e : Expr) (dt : DTt) : Prop := T.K = X.K → PW X e (rdT T dt)
structure AD (T : Tab) (X : Cx) (es : List Expr) (da : DA) : Prop where
  len : ∀ ρ ds, da ρ = some ds → ds.length = es.length
  run : T.K = X.K → PA X es (rdA T da)
def SD (T : Tab) (X : Cx) (st : Stmt) (ds : DS) : Prop := T.K = X.K → PS X st (rdS T ds)
def SDs (T : Tab) (X : Cx) (st : List Stmt) (ds : DS) : Prop := T.K = X.K → PSs X st (rdS T ds)

theorem peImp {X : Cx} {e : Expr} {t t' : TE} (h : PE X e t) (i : ∀ σ H Q, t' σ H Q → t σ H Q) : PE X e t' := ⟨fun pins s σ H Q I q => h.run pins s σ H Q I (i σ H Q q)⟩
theorem ptImp {X : Cx} {e : Expr} {t t' : TT} (h : PT X e t) (i : ∀ σ H Q, t' σ H Q → t σ H Q) : PT X e t' := ⟨fun pins s σ H Q I q => h.run pins s σ H Q I (i σ H Q q)⟩
theorem pwImp {X : Cx} {e : Expr} {t t' : TT} (h : PW X e t) (i : ∀ σ H Q, t' σ H Q → t σ H Q) : PW X e t' := ⟨fun wh pins s σ H Q I q => h.run wh pins s σ H Q I (i σ H Q q)⟩
theorem paImp {X : Cx} {es : List Expr} {t t' : TA} (h : PA X es t) (i : ∀ σ H Q, t' σ H Q → t σ H Q) : PA X es t' := ⟨fun pos pins s σ H Q I q => h.run pos pins s σ H Q I (i σ H Q q)⟩
theorem psImp {X : Cx} {st : Stmt} {t t' : TS} (h : PS X st t) (i : ∀ D σ H, t' D σ H → t D σ H) : PS X st t' := ⟨fun pins s σ H D I q => h.run pins s σ H D I (i D σ H q)⟩
theorem pssImp {X : Cx} {st : List Stmt} {t t' : TS} (h : PSs X st t) (i : ∀ D σ H, t' D σ H → t D σ H) : PSs X st t' := ⟨fun pins s σ H D I q => h.run pins s σ H D I (i D σ H q)⟩

section
variable {T : Tab} {X : Cx} {a b c e : Expr} {es : List Expr} {da db dc : DE} {dt du : DTt} {pos : Pos} {rest : List Expr}

/-! ### names, constants -/
theorem ed_pe {t : TE} {de : DE} (h : PE X e t) (i : ∀ σ H Q, T.K = X.K → rdE T de σ H Q → t σ H Q) : ED T X e de := fun hT => peImp h fun σ H Q q => i σ H Q hT q
theorem ed_var (i : Nat) {x : Str} (hN : X.N[i]? = some x := by rfl) (hv : Vis X.env.scope x := by first | exact Or.inl rfl | exact Or.inr (Or.inl rfl) | exact Or.inr (Or.inr rfl)) (hd : (x == ("__debug__" : Str)) = false := by decide)
    (hcd : (x == ("__classdict__" : Str)) = false := by decide) : ED T X (.Name x pos) (dVar i) :=
  ed_pe (pe_var hN hv hd hcd) fun σ H Q _ ⟨B, ρ, d, F, e, s, r, q⟩ => by
    unfold dVar at e
    split at e
    · rename_i d' h
      cases e
      obtain ⟨v, e1, r1⟩ := r.sh (atS_get h (fun z => nomatch z))
      exact ⟨v, e1, q v H F (Gr.refl s) r1⟩
    · cases e
theorem ed_const {v : V} {d : D} (h : PE X e (tC v)) (r : ∀ F, Rep T F d v) : ED T X e (dC d) :=
  ed_pe h fun σ H Q _ ⟨B, ρ, d', F, e, s, _, q⟩ => by
    cases e
    exact q v H F (Gr.refl s) (r F)
theorem ed_int {i j} : ED T X (.Constant (.int i) j pos) (dC (.int i)) := ed_const pe_int fun _ => .int i
theorem ed_bl {b j} : ED T X (.Constant (.bool b) j pos) (dC (.bl b)) := ed_const pe_bl fun _ => .bl b
theorem ed_non {j} : ED T X (.Constant .none j pos) (dC .non) := ed_const pe_non fun _ => .non
theorem ed_str {x j} : ED T X (.Constant (.str x) j pos) (dC (.str x)) := ed_const pe_str fun _ => .str x
/-- a module's constant -/
theorem ed_glob {x : Str} {v : V} {u : Value} {d : D} (hm : X.mg x = some u) (rv : RelV v u) (r : ∀ F, Rep T F d v) (hg : Gl X x := by exact rfl) (hd : (x == ("__debug__" : Str)) = false := by decide) : ED T X (.Name x pos) (dC d) :=
  ed_const (pe_glob hg hm rv hd) r

/-! ### operators -/
/-- what an operator does to data -/
def Op2 (T : Tab) (r : R2) (f : D → D → Option D) : Prop := ∀ F H a b d x y (Q : VK), f a b = some d → Same F H → Rep T F a x → Rep T F b y → (∀ v H' F', Gr F H F' H' → Rep T F' d v → Q v H') → r x y H Q
def Op2T (T : Tab) (r : R2) (f : D → D → Option Bool) : Prop := ∀ F H a b d x y (Q : VK), f a b = some d → Same F H → Rep T F a x → Rep T F b y → Q (.bl d) H → r x y H Q
theorem two {f : D → D → Option D} {σ : L2.St} {H : Hp} {Q : VK} {r : R2} (ho : Op2 T r f) (h : rdE T (d2 f da db) σ H Q) : tOp r (rdE T da) (rdE T db) σ H Q := by
  obtain ⟨B, ρ, d, F, e, s, er, q⟩ := h
  unfold d2 at e
  split at e
  · rename_i x hx
    split at e
    · rename_i y hy
      refine ⟨B, ρ, x, F, hx, s, er, fun v H1 F1 g1 r1 => ⟨B, ρ, y, F1, hy, g1.sub, er.grow g1, fun u H2 F2 g2 r2 => ?_⟩⟩
      exact ho F2 H2 x y d v u Q e g2.sub (r1.mono g2.frz) r2 fun v' H' F' g r' => q v' H' F' (g1.trans (g2.trans g)) r'
    · cases e
  · cases e
theorem twoT {f : D → D → Option Bool} {σ : L2.St} {H : Hp} {Q : Bool → Hp → Prop} {r : R2} (ho : Op2T T r f) (h : rdT T (t2 f da db) σ H Q) : tTest (tOp r (rdE T da) (rdE T db)) σ H Q := by
  obtain ⟨B, ρ, d, F, e, s, er, q⟩ := h
  unfold t2 at e
  split at e
  · rename_i x hx
    split at e
    · rename_i y hy
      refine ⟨B, ρ, x, F, hx, s, er, fun v H1 F1 g1 r1 => ⟨B, ρ, y, F1, hy, g1.sub, er.grow g1, fun u H2 F2 g2 r2 => ?_⟩⟩
      exact ho F2 H2 x y d v u _ e g2.sub (r1.mono g2.frz) r2 ⟨d, rfl, q H2 F2 (g1.trans g2)⟩
    · cases e
  · cases e
theorem ed_op {op : Operator} {r : R2} {f : D → D → Option D} (ho : OpR X (binaryOp op) r) (hf : T.K = X.K → Op2 T r f) (ha : ED T X a da) (hb : ED T X b db) : ED T X (.BinOp a op b pos) (d2 f da db) := fun hT =>
  peImp (pe_op ho (ha hT) (hb hT)) fun _ _ _ h => two (hf hT) h
theorem ed_ix {r : R2} {f : D → D → Option D} (ho : IxR X r) (hf : T.K = X.K → Op2 T r f) (ha : ED T X a da) (hb : ED T X b db) (hs : PlainIx b := by exact fun _ _ => rfl) : ED T X (.Subscript a b pos) (d2 f da db) := fun hT =>
  peImp (pe_ix ho (ha hT) (hb hT) hs) fun _ _ _ h => two (hf hT) h
/-- a comparison as a test -/
theorem td_cmp {op : CmpOp} {r : R2} {f : D → D → Option Bool} (ho : OpR X (compareOp op) r) (hf : T.K = X.K → Op2T T r f) (ha : ED T X a da) (hb : ED T X b db) (hm : behindInMarks op b = false) : TD T X (.Compare a [op] [b] pos) (t2 f da db) := fun hT =>
  ptImp (pt_cmpR ho (ha hT) (hb hT) hm) fun _ _ _ h => twoT (hf hT) h
/-- .. as a value -/
theorem ed_cmp {op : CmpOp} {r : R2} {f : D → D → Option Bool} (ho : OpR X (compareOp op) r) (hf : T.K = X.K → Op2T T r f) (ha : ED T X a da) (hb : ED T X b db) (hm : behindInMarks op b = false) : ED T X (.Compare a [op] [b] pos) (dB (t2 f da db)) := fun hT =>
  peImp (pe_cmpR ho (ha hT) (hb hT) hm) fun σ H Q h => by
    obtain ⟨B, ρ, d, F, e, s, er, q⟩ := h
    unfold dB t2 at e
    cases ea : da ρ with
    | none => rw [ea] at e; cases e
    | some x =>
      rw [ea] at e
      cases eb : db ρ with
      | none => rw [eb] at e; cases e
      | some y =>
        rw [eb] at e
        cases ef : f x y with
        | none => simp only [ef] at e; cases e
        | some k =>
          simp only [ef] at e
          cases e
          refine ⟨B, ρ, x, F, ea, s, er, fun v H1 F1 g1 r1 => ⟨B, ρ, y, F1, eb, g1.sub, er.grow g1, fun u H2 F2 g2 r2 => ?_⟩⟩
          exact hf hT F2 H2 x y k v u _ ef g2.sub (r1.mono g2.frz) r2 (q _ H2 F2 (g1.trans g2) (.bl k))
/-- 1 <= x <= 8 as a test -/
theorem td_chain {op op' : CmpOp} {r r' : R2} {f f' : D → D → Option Bool} (ho : OpR X (compareOp op) r) (ho' : OpR X (compareOp op') r') (hf : T.K = X.K → Op2T T r f) (hf' : T.K = X.K → Op2T T r' f') (ha : ED T X a da) (hb : ED T X b db) (hc : ED T X c dc)
    (hm : lastMarks [op, op'] [b, c] = false := by rfl) : TD T X (.Compare a [op, op'] [b, c] pos) (tAndD (t2 f da db) (t2 f' db dc)) := fun hT =>
  ptImp (pt_chain ho ho' (ha hT) (hb hT) (hc hT) hm) fun σ H Q h => by
    obtain ⟨B, ρ, d, F, e, s, er, q⟩ := h
    unfold tAndD t2 at e
    cases ea : da ρ with
    | none => simp only [ea] at e; cases e
    | some x =>
      simp only [ea] at e
      cases eb : db ρ with
      | none => simp only [eb] at e; cases e
      | some y =>
        simp only [eb] at e
        cases ef : f x y with
        | none => simp only [ef] at e; cases e
        | some k =>
          simp only [ef] at e
          refine ⟨B, ρ, x, F, ea, s, er, fun v H1 F1 g1 r1 => ⟨B, ρ, y, F1, eb, g1.sub, er.grow g1, fun u H2 F2 g2 r2 => ?_⟩⟩
          refine hf hT F2 H2 x y k v u _ ef g2.sub (r1.mono g2.frz) r2 ⟨k, rfl, ?_⟩
          cases k with
          | false =>
            cases e
            exact ⟨false, rfl, q H2 F2 (g1.trans g2)⟩
          | true =>
            simp only at e
            cases ec : dc ρ with
            | none => simp only [ec] at e; cases e
            | some z =>
              simp only [ec] at e
              rw [if_pos rfl]
              refine ⟨B, ρ, z, F2, ec, g2.sub, (er.grow g1).grow g2, fun w' H3 F3 g3 r3 => ?_⟩
              exact hf' hT F3 H3 y z d u w' _ e g3.sub (r2.mono g3.frz) r3 ⟨d, rfl, q H3 F3 (g1.trans (g2.trans g3))⟩

/-! ### tests -/
/-- an expression's truth -/
def truD : D → Option Bool
  | .non => some false
  | .bl b => some b
  | .int i => some (i != 0)
  | .lst xs => some (!xs.isEmpty)
  | .tup xs => some (!xs.isEmpty)
  | .wtp xs => some (!xs.isEmpty)
  | _ => none
theorem reps_empty {F : Hp} : ∀ {ds : List D} {vs : List V}, Reps T F ds vs → ds.isEmpty = vs.isEmpty
  | _, _, .nil => rfl
  | _, _, .cons _ _ => rfl
theorem td_tru (ha : ED T X a da) (he : ∀ whole, isTrue a X.env whole = (do let v ← whole; standAt a.pos; holding [v] (truthy v)) := by exact fun _ => rfl) : TD T X a (t1 truD da) := fun hT =>
  ptImp (pt_truth (ha hT) he) fun σ H Q h => by
    obtain ⟨B, ρ, d, F, e, s, er, q⟩ := h
    unfold t1 at e
    cases ea : da ρ with
    | none => simp only [ea] at e; cases e
    | some x =>
      simp only [ea] at e
      refine ⟨B, ρ, x, F, ea, s, er, fun v H1 F1 g1 r1 => ⟨d, ?_, q H1 F1 g1⟩⟩
      cases r1 with
      | non => cases e; rfl
      | bl b => cases e; rfl
      | int i => cases e; rfl
      | lst h r =>
        cases e
        rw [hT] at h
        exact .inl ⟨_, g1.sub.seq h, by rw [reps_empty r]⟩
      | tup h r =>
        cases e
        exact .inr (.inl ⟨_, SqT.of (g1.sub _ _ h), by rw [reps_empty r]⟩)
      | wtp h r =>
        cases e
        have h := h.1
        rw [hT] at h
        exact .inr (.inl ⟨_, Same.tup g1.sub h, by rw [reps_empty r]⟩)
      | str _ => cases e
      | dK _ _ _ => cases e
      | dT _ _ _ => cases e
      | fn _ => cases e
      | ins _ _ _ => cases e
theorem td_wd (h : WD T X e dt) : TD T X e dt := fun hT => (h hT).pt
theorem wd_and1 (ha : TD T X a dt) : WD T X (.BoolOp .And [a] pos) dt := fun hT => pw_and1 (ha hT)
theorem wd_or1 (ha : TD T X a dt) : WD T X (.BoolOp .Or [a] pos) dt := fun hT => pw_or1 (ha hT)
theorem wd_and (ha : TD T X a dt) (hb : WD T X (.BoolOp .And (b :: rest) pos) du) : WD T X (.BoolOp .And (a :: b :: rest) pos) (tAndD dt du) := fun hT =>
  pwImp (pw_and (ha hT) (hb hT)) fun σ H Q h => by
    obtain ⟨B, ρ, d, F, e, s, er, q⟩ := h
    unfold tAndD at e
    split at e
    · rename_i h1
      exact ⟨B, ρ, true, F, h1, s, er, fun H1 F1 g1 => ⟨B, ρ, d, F1, e, g1.sub, er.grow g1, fun H2 F2 g2 => q H2 F2 (g1.trans g2)⟩⟩
    · rename_i h1
      cases e
      exact ⟨B, ρ, false, F, h1, s, er, fun H1 F1 g1 => q H1 F1 g1⟩
    · cases e
theorem wd_or (ha : TD T X a dt) (hb : WD T X (.BoolOp .Or (b :: rest) pos) du) : WD T X (.BoolOp .Or (a :: b :: rest) pos) (tOrD dt du) := fun hT =>
  pwImp (pw_or (ha hT) (hb hT)) fun σ H Q h => by
    obtain ⟨B, ρ, d, F, e, s, er, q⟩ := h
    unfold tOrD at e
    split at e
    · rename_i h1
      cases e
      exact ⟨B, ρ, true, F, h1, s, er, fun H1 F1 g1 => q H1 F1 g1⟩
    · rename_i h1
      exact ⟨B, ρ, false, F, h1, s, er, fun H1 F1 g1 => ⟨B, ρ, d, F1, e, g1.sub, er.grow g1, fun H2 F2 g2 => q H2 F2 (g1.trans g2)⟩⟩
    · cases e
theorem td_not (ha : TD T X a dt) : TD T X (.UnaryOp .Not a pos) (tNotD dt) := fun hT =>
  ptImp (pt_not (ha hT)) fun σ H Q h => by
    obtain ⟨B, ρ, d, F, e, s, er, q⟩ := h
    unfold tNotD at e
    split at e
    · rename_i b h1
      cases e
      exact ⟨B, ρ, b, F, h1, s, er, fun H1 F1 g1 => q H1 F1 g1⟩
    · cases e
/-- bools joined, as values -/
theorem ed_one {op} (h : ED T X a da) : ED T X (.BoolOp op [a] pos) da := fun hT => pe_one (h hT)
theorem ed_and (ha : ED T X a (dB dt)) (hb : ED T X (.BoolOp .And (b :: rest) pos) (dB du)) : ED T X (.BoolOp .And (a :: b :: rest) pos) (dB (tAndD dt du)) := fun hT =>
  peImp (pe_and (ha hT) (hb hT)) fun σ H Q h => by
    obtain ⟨B, ρ, d, F, e, s, er, q⟩ := h
    unfold dB tAndD at e
    cases et : dt ρ with
    | none => simp only [et] at e; cases e
    | some k =>
      refine ⟨B, ρ, .bl k, F, by unfold dB; simp only [et], s, er, fun v H1 F1 g1 r1 => ?_⟩
      cases r1
      refine ⟨k, rfl, ?_⟩
      cases k with
      | true =>
        rw [if_pos rfl]
        simp only [et] at e
        exact ⟨B, ρ, d, F1, e, g1.sub, er.grow g1, fun v H2 F2 g2 r2 => q v H2 F2 (g1.trans g2) r2⟩
      | false =>
        simp only [et] at e
        cases e
        rw [if_neg Bool.false_ne_true]
        exact q _ H1 F1 g1 (.bl false)
theorem ed_or (ha : ED T X a (dB dt)) (hb : ED T X (.BoolOp .Or (b :: rest) pos) (dB du)) : ED T X (.BoolOp .Or (a :: b :: rest) pos) (dB (tOrD dt du)) := fun hT =>
  peImp (pe_or (ha hT) (hb hT)) fun σ H Q h => by
    obtain ⟨B, ρ, d, F, e, s, er, q⟩ := h
    unfold dB tOrD at e
    cases et : dt ρ with
    | none => simp only [et] at e; cases e
    | some k =>
      refine ⟨B, ρ, .bl k, F, by unfold dB; simp only [et], s, er, fun v H1 F1 g1 r1 => ?_⟩
      cases r1
      refine ⟨k, rfl, ?_⟩
      cases k with
      | true =>
        simp only [et] at e
        cases e
        rw [if_pos rfl]
        exact q _ H1 F1 g1 (.bl true)
      | false =>
        rw [if_neg Bool.false_ne_true]
        simp only [et] at e
        exact ⟨B, ρ, d, F1, e, g1.sub, er.grow g1, fun v H2 F2 g2 r2 => q v H2 F2 (g1.trans g2) r2⟩
theorem ed_ifExp (hc : TD T X c dt) (ha : ED T X a da) (hb : ED T X b db) : ED T X (.IfExp c a b pos) (dIf dt da db) := fun hT =>
  peImp (pe_ifExp (hc hT) (ha hT) (hb hT)) fun σ H Q h => by
    obtain ⟨B, ρ, d, F, e, s, er, q⟩ := h
    unfold dIf at e
    split at e
    · rename_i h1
      refine ⟨B, ρ, true, F, h1, s, er, fun H1 F1 g1 => iteT ?_⟩
      exact ⟨B, ρ, d, F1, e, g1.sub, er.grow g1, fun v H2 F2 g2 r2 => q v H2 F2 (g1.trans g2) r2⟩
    · rename_i h1
      refine ⟨B, ρ, false, F, h1, s, er, fun H1 F1 g1 => iteF ?_⟩
      exact ⟨B, ρ, d, F1, e, g1.sub, er.grow g1, fun v H2 F2 g2 r2 => q v H2 F2 (g1.trans g2) r2⟩
    · cases e

/-! ### arguments, displays, calls -/
theorem ad_nil : AD T X [] aNil := ⟨fun ρ ds h => (by cases h; rfl), fun _ => paImp pa_nil fun σ H Q h => by
  obtain ⟨B, ρ, d, F, e, s, er, q⟩ := h
  cases e
  exact q [] H F (Gr.refl s) .nil⟩
theorem ad_cons {r : DA} (ha : ED T X e da) (hr : AD T X es r) (hs : starEach (e :: es) X.env = (false, eval e X.env) :: starEach es X.env := by rfl) : AD T X (e :: es) (aCons da r) := ⟨fun ρ ds h => by
    unfold aCons at h
    split at h
    · split at h
      · rename_i xs h2
        cases h
        show xs.length + 1 = es.length + 1
        rw [hr.len ρ xs h2]
      · cases h
    · exact (nomatch h), fun hT =>
  paImp (pa_cons (ha hT) (hr.run hT) hs) fun σ H Q h => by
    obtain ⟨B, ρ, d, F, e, s, er, q⟩ := h
    unfold aCons at e
    split at e
    · rename_i x h1
      split at e
      · rename_i xs h2
        cases e
        exact ⟨B, ρ, x, F, h1, s, er, fun v H1 F1 g1 r1 => ⟨B, ρ, xs, F1, h2, g1.sub, er.grow g1, fun vs H2 F2 g2 r2 => q (v :: vs) H2 F2 (g1.trans g2) (.cons (r1.mono g2.frz) r2)⟩⟩
      · cases e
    · cases e⟩
def mkTup (xs : List D) : Option D := if xs.length ≤ 16777216 then some (.tup xs) else none
def mkLst (xs : List D) : Option D := if xs.length ≤ 16777216 then some (.lst xs) else none
theorem mkTup_some {xs : List D} {d : D} (h : mkTup xs = some d) : xs.length ≤ sizeLine ∧ d = .tup xs := by
  unfold mkTup at h
  split at h
  · rename_i q
    cases h
    exact ⟨by rw [sizeLine_eq]; exact q, rfl⟩
  · cases h
theorem mkLst_some {xs : List D} {d : D} (h : mkLst xs = some d) : xs.length ≤ sizeLine ∧ d = .lst xs := by
  unfold mkLst at h
  split at h
  · rename_i q
    cases h
    exact ⟨by rw [sizeLine_eq]; exact q, rfl⟩
  · cases h
theorem rep_newL {F H : Hp} {ds : List D} {vs : List V} {p : Addr} (s : Same F H) (r : Reps T F ds vs) (hp : H p = none) : Rep T (upd F p (.lst vs)) (.lst ds) (.ref p) :=
  .lst (SqL.of upd_same) (r.mono (same_new (s.free hp)))
theorem rep_newT {F H : Hp} {ds : List D} {vs : List V} {p : Addr} (s : Same F H) (r : Reps T F ds vs) (hp : H p = none) : Rep T (upd F p (.tup vs)) (.tup ds) (.ref p) :=
  .tup upd_same (r.mono (same_new (s.free hp)))
theorem ed_tup {x1} {r : DA} (h : AD T X es r) : ED T X (.Tuple es x1 pos) (dCall mkTup r) := fun hT =>
  peImp (pe_tup (h.run hT)) fun σ H Q h => by
    obtain ⟨B, ρ, d, F, e, s, er, q⟩ := h
    unfold dCall at e
    split at e
    · rename_i xs h1
      obtain ⟨hl, rfl⟩ := mkTup_some e
      refine ⟨B, ρ, xs, F, h1, s, er, fun vs H1 F1 g1 r1 => ⟨by rw [← r1.length]; exact hl, fun p hp => ?_⟩⟩
      exact q _ _ _ (g1.trans (Gr.new g1.sub hp)) (rep_newT g1.sub r1 hp)
    · cases e
theorem ed_lst {r : DA} (h : AD T X es r) : ED T X (.List es pos) (dCall mkLst r) := fun hT =>
  peImp (pe_lst (h.run hT)) fun σ H Q h => by
    obtain ⟨B, ρ, d, F, e, s, er, q⟩ := h
    unfold dCall at e
    split at e
    · rename_i xs h1
      obtain ⟨hl, rfl⟩ := mkLst_some e
      refine ⟨B, ρ, xs, F, h1, s, er, fun vs H1 F1 g1 r1 => ⟨by rw [← r1.length]; exact hl, fun p hp => ?_⟩⟩
      exact q _ _ _ (g1.trans (Gr.new g1.sub hp)) (rep_newL g1.sub r1 hp)
    · cases e
/-- what a built-in does to data -/
def CallD (T : Tab) (r : List V → Hp → VK → Prop) (g : List D → Option D) : Prop := ∀ F H ds d vs (Q : VK), g ds = some d → Same F H → Reps T F ds vs → (∀ v H' F', Gr F H F' H' → Rep T F' d v → Q v H') → r vs H Q
theorem callRd {r : List V → Hp → VK → Prop} {g : List D → Option D} {da : DA} {σ : L2.St} {H : Hp} {Q : VK} (hc : CallD T r g) (h : rdE T (dCall g da) σ H Q) : tCB r (rdA T da) σ H Q := by
  obtain ⟨B, ρ, d, F, e, s, er, q⟩ := h
  unfold dCall at e
  split at e
  · rename_i xs h1
    exact ⟨B, ρ, xs, F, h1, s, er, fun vs H1 F1 g1 r1 => hc F1 H1 xs d vs Q e g1.sub r1 fun v H2 F2 g2 r2 => q v H2 F2 (g1.trans g2) r2⟩
  · cases e
theorem ed_callB {x : Str} {p : Pos} {id : String} {r : List V → Hp → VK → Prop} {g : List D → Option D} {da : DA} (hc : CallR X (.builtin id) r) (hf : T.K = X.K → CallD T r g) (hm : X.mg x = none) (ha : AD T X (e :: es) da) (hv : bootBuiltins x = some (.builtin id) := by decide +kernel)
    (hg : Gl X x := by exact rfl) (hn : x ≠ "__name__" := by decide) (hdb : (x == ("__debug__" : Str)) = false := by decide)
    (he : starEach (e :: es) X.env = (false, eval e X.env) :: starEach es X.env := by rfl) (hpl : (backTo pos (starEach es X.env)).any (·.1) = false := by rfl) : ED T X (.Call (.Name x p) (e :: es) [] pos) (dCall g da) := fun hT =>
  peImp (pe_callB hc hg hm hv (ha.run hT) hn hdb he hpl) fun _ _ _ h => callRd (hf hT) h
theorem ed_callTy {x : Str} {p : Pos} {ty : String} {r : List V → Hp → VK → Prop} {g : List D → Option D} {da : DA} (hc : CallR X (.type ty) r) (hf : T.K = X.K → CallD T r g) (hm : X.mg x = none) (ha : AD T X (e :: es) da) (hv : bootBuiltins x = some (.type ty) := by decide +kernel)
    (hg : Gl X x := by exact rfl) (hn : x ≠ "__name__" := by decide) (hdb : (x == ("__debug__" : Str)) = false := by decide)
    (he : starEach (e :: es) X.env = (false, eval e X.env) :: starEach es X.env := by rfl) (hpl : (backTo pos (starEach es X.env)).any (·.1) = false := by rfl) : ED T X (.Call (.Name x p) (e :: es) [] pos) (dCall g da) := fun hT =>
  peImp (pe_callTy hc hg hm hv (ha.run hT) hn hdb he hpl) fun _ _ _ h => callRd (hf hT) h
end

/-! ### own defs -/
/-- the promise of a def that reckons g of data -/
def spD (T : Tab) (n : Nat) (g : List D → Option D) : Sp := fun vs H Q _ => ∃ F ds d, ds.length = n ∧ Same F H ∧ Reps T F ds vs ∧ g ds = some d ∧ ∀ v H' F', Gr F H F' H' → Rep T F' d v → Q v H'
/-- a def by its name: the promise, its name, that it binds n arguments -/
structure Def (T : Tab) (P : Program) (w : World) (mg : Str → Option Value) (base : Heap) (k : Nat) (x : Str) (n : Nat) (g : List D → Option D) : Prop where
  ex : ∃ (f : Addr) (fd : FuncData) (ps : List Str), FnOk P w T.K mg base CX0 k f fd ps (spD T n g) ∧ mg x = some (.ref f) ∧ PySem.W.keepIn T.K (.ref f) = true ∧ Binds T.K fd ps []
section
variable {T : Tab} {X : Cx} {e : Expr} {es : List Expr} {pos p : Pos} {x : Str} {n k : Nat} {g : List D → Option D} {da : DA}
theorem ed_call (F : Def T X.prog X.w X.mg X.base k x n g) (hr : Room k X.A) (ha : AD T X (e :: es) da) (hn : (e :: es).length = n := by rfl) (hg : Gl X x := by exact rfl) (hdb : (x == ("__debug__" : Str)) = false := by decide)
    (he : starEach (e :: es) X.env = (false, eval e X.env) :: starEach es X.env := by rfl) (hpl : (backTo pos (starEach es X.env)).any (·.1) = false := by rfl) : ED T X (.Call (.Name x p) (e :: es) [] pos) (dCall g da) := fun hT => by
  obtain ⟨f, fd, ps, G, hm, hk, hb⟩ := F.ex
  rw [hT] at G hk hb
  refine peImp (pe_call (E := E0) G hr hg hm hk hb .nil pass0 (ha.run hT) hdb he hpl) fun σ H Q h => ?_
  obtain ⟨B, ρ, d, F, e, s, er, q⟩ := h
  unfold dCall at e
  split at e
  · rename_i xs h1
    refine ⟨B, ρ, xs, F, h1, s, er, fun vs H1 F1 g1 r1 => ?_⟩
    show spD T n g (vs ++ []) H1 Q E0
    rw [List.append_nil]
    exact ⟨F1, xs, d, (ha.len ρ xs h1).trans hn, g1.sub, r1, e, fun v H2 F2 g2 r2 => q v H2 F2 (g1.trans g2) r2⟩
  · cases e
end
end PD
end
section
set_option Elab.async false
set_option linter.all false
set_option maxRecDepth 100000
/-! PD3: statements, what is walked, targets, for, a def's promise. -/
namespace PD
open PySem PySem.Spec PyProof.Rows L2

section
variable {T : Tab} {X : Cx} {e : Expr} {st : Stmt} {rest : List Stmt} {de : DE} {ds dt : DS} {tt : DTt} {pos : Pos}
theorem sds_nil : SDs T X [] sNext := fun _ => pssImp pss_nil fun Dn σ H h => by
  obtain ⟨B, F0, ρ, o, F, e, g, er, q⟩ := h
  cases e
  exact q σ H F g er
theorem sds_cons (h1 : SD T X st ds) (h2 : SDs T X rest dt) : SDs T X (st :: rest) (sSeq ds dt) := fun hT => pssImp (pss_cons (h1 hT) (h2 hT)) fun Dn σ H h => by
  obtain ⟨B, F0, ρ, o, F, e, g, er, q⟩ := h
  unfold sSeq at e
  split at e
  · rename_i ρ' h1
    exact ⟨B, F0, ρ, .nx ρ', F, h1, g, er, fun σ1 H1 F1 g1 er1 => ⟨B, F0, ρ', o, F1, e, g1, er1, q⟩⟩
  · rename_i hno
    cases o with
    | nx ρ' => exact absurd e (hno ρ')
    | rt d => exact ⟨B, F0, ρ, .rt d, F, e, g, er, q⟩
theorem sds_one (h1 : SD T X st ds) : SDs T X [st] ds := fun hT => pss_one (h1 hT)
theorem sd_ret (h : ED T X e de) : SD T X (.Return (some e) pos) (sRet de) := fun hT => psImp (ps_ret (h hT)) fun Dn σ H h => by
  obtain ⟨B, F0, ρ, o, F, e, g, er, q⟩ := h
  unfold sRet at e
  split at e
  · rename_i d h1
    cases e
    exact ⟨B, ρ, d, F, h1, g.sub, er, fun v H1 F1 g1 r1 => q v H1 F1 (g.trans g1) r1⟩
  · cases e
theorem sd_if {c : Expr} {a b : List Stmt} (hc : TD T X c tt) (ha : SDs T X a ds) (hb : SDs T X b dt) : SD T X (.If c a b pos) (sIf tt ds dt) := fun hT => psImp (ps_if (hc hT) (ha hT) (hb hT)) fun Dn σ H h => by
  obtain ⟨B, F0, ρ, o, F, e, g, er, q⟩ := h
  unfold sIf at e
  split at e
  · rename_i h1
    exact ⟨B, ρ, true, F, h1, g.sub, er, fun H1 F1 g1 => iteT ⟨B, F0, ρ, o, F1, e, g.trans g1, er.grow g1, q⟩⟩
  · rename_i h1
    exact ⟨B, ρ, false, F, h1, g.sub, er, fun H1 F1 g1 => iteF ⟨B, F0, ρ, o, F1, e, g.trans g1, er.grow g1, q⟩⟩
  · cases e
/-- a branch that is never taken -/
def sNev : DS := fun _ => none
theorem sds_never {sts : List Stmt} : SDs T X sts sNev := fun _ => pssImp pss_never fun Dn σ H h => by
  obtain ⟨B, F0, ρ, o, F, e, g, er, q⟩ := h
  cases e
theorem sd_expr (h : ED T X e de) (hs : swapsWith e none pos.line X.env = pure false := by rfl) : SD T X (.Expr e pos) (sDrop de) := fun hT => psImp (ps_expr (h hT) hs) fun Dn σ H h => by
  obtain ⟨B, F0, ρ, o, F, e, g, er, q⟩ := h
  unfold sDrop at e
  split at e
  · rename_i d h1
    cases e
    exact ⟨B, ρ, d, F, h1, g.sub, er, fun v H1 F1 g1 _ => q σ H1 F1 (g.trans g1) (er.grow g1)⟩
  · cases e
theorem sd_set (i : Nat) {x : Str} {pos' : Pos} (hN : X.N.Nodup) (h : ED T X e de) (hi : X.N[i]? = some x := by rfl) (hx : Loc X.env.scope x := by first | exact Or.inl rfl | exact Or.inr rfl)
    (hs : swapsWith e (some (.Name x pos')) pos.line X.env = pure false := by rfl) (hf : X.fn x = true ∨ X.env.scope.names.lookup x = some .local := by first | exact .inl rfl | exact .inr rfl) : SD T X (.Assign [.Name x pos'] e pos) (sSet i de) := fun hT =>
  psImp (ps_set (i := i) hN hi hx (h hT) hs hf) fun Dn σ H h => by
    obtain ⟨B, F0, ρ, o, F, e, g, er, q⟩ := h
    unfold sSet at e
    split at e
    · rename_i d h1
      cases e
      exact ⟨B, ρ, d, F, h1, g.sub, er, fun v H1 F1 g1 r1 => q _ H1 F1 (g.trans g1) ((er.grow g1).set r1)⟩
    · cases e
/-- a, b = x, y -/
def sPar (i j : Nat) (a b : DE) : DS := fun ρ => match a ρ with
  | some x => (match b ρ with
    | some y => some (.nx ((ρ.set i (.sh x)).set j (.sh y)))
    | none => none)
  | none => none
theorem sd_par (i j : Nat) {x y : Str} {a b : Expr} {da db : DE} {px py pt : Pos} {kt k2 pt2} (hc : X.calm = true) (hN : X.N.Nodup) (ha : ED T X a da) (hb : ED T X b db) (hi : X.N[i]? = some x := by rfl) (hj : X.N[j]? = some y := by rfl) (hij : i ≠ j := by decide)
    (hx : X.env.scope.names.lookup x = some .local := by rfl) (hy : X.env.scope.names.lookup y = some .local := by rfl) (hs : swapsWithSole [.Tuple [.Name x px, .Name y py] kt pt] (.Tuple [a, b] k2 pt2) pos.line X.env = pure false := by rfl)
    (hw : swappedStores [.Tuple [.Name x px, .Name y py] kt pt] (.Tuple [a, b] k2 pt2) X.env = pure (some [x, y]) := by rfl) (h1 : starEach [a, b] X.env = (false, eval a X.env) :: starEach [b] X.env := by rfl) (h2 : starEach [b] X.env = (false, eval b X.env) :: starEach [] X.env := by rfl) :
    SD T X (.Assign [.Tuple [.Name x px, .Name y py] kt pt] (.Tuple [a, b] k2 pt2) pos) (sPar i j da db) := fun hT =>
  psImp (ps_par (i := i) (j := j) hc hN hi hj hij hx hy (pa_cons (ha hT) (pa_cons (hb hT) pa_nil h2) h1) hw hs) fun Dn σ H h => by
    obtain ⟨B, F0, ρ, o, F, e, g, er, q⟩ := h
    unfold sPar at e
    split at e
    · rename_i d1 e1
      split at e
      · rename_i d2 e2
        cases e
        exact ⟨B, ρ, d1, F, e1, g.sub, er, fun v H1 F1 g1 r1 => ⟨B, ρ, d2, F1, e2, g1.sub, er.grow g1, fun u H2 F2 g2 r2 => ⟨v, u, rfl, q _ H2 F2 (g.trans (g1.trans g2)) ((((er.grow g1).grow g2).set (r1.mono g2.frz)).set r2)⟩⟩⟩
      · cases e
    · cases e
/-- x op= e, of data -/
def sAug (i : Nat) (f : D → D → Option D) (a : DE) : DS := fun ρ => match dVar i ρ with
  | some x => (match a ρ with
    | some y => (match f x y with
      | some z => some (.nx (ρ.set i (.sh z)))
      | none => none)
    | none => none)
  | none => none
theorem sd_aug (i : Nat) {x : Str} {pos' : Pos} {op : Operator} {r : R2} {f : D → D → Option D} (ho : OpR X (inplaceOp op) r) (hf0 : T.K = X.K → Op2 T r f) (hN : X.N.Nodup) (h : ED T X e de) (hi : X.N[i]? = some x := by rfl) (hx : Loc X.env.scope x := by first | exact Or.inl rfl | exact Or.inr rfl)
    (hf : X.fn x = true ∨ X.env.scope.names.lookup x = some .local := by first | exact .inl rfl | exact .inr rfl) : SD T X (.AugAssign (.Name x pos') op e pos) (sAug i f de) := fun hT =>
  psImp (ps_aug (i := i) (ti := r) hN hi hx (h hT) (fun pins s σ H x y v u Q I r1 r2 q => augR ho I r1 r2 q) hf) fun Dn σ H h => by
    obtain ⟨B, F0, ρ, o, F, e, g, er, q⟩ := h
    unfold sAug at e
    split at e
    · rename_i x1 e1
      split at e
      · rename_i y1 e2
        split at e
        · rename_i z1 e3
          cases e
          unfold dVar at e1
          split at e1
          · rename_i d' hd
            cases e1
            obtain ⟨v, ev, rv⟩ := er.sh (atS_get hd (fun z => nomatch z))
            refine ⟨v, ev, B, ρ, y1, F, e2, g.sub, er, fun u H1 F1 g1 r1 => ?_⟩
            exact hf0 hT F1 H1 x1 y1 z1 v u _ e3 g1.sub (rv.mono g1.frz) r1 fun v' H2 F2 g2 r2 => q _ H2 F2 (g.trans (g1.trans g2)) (((er.grow g1).grow g2).set r2)
          · cases e1
        · cases e
      · cases e
    · cases e
end

/-! ### what is walked -/
/-- the iterator J yields the data ds, wherever the frozen part F stands -/
def Walks (T : Tab) (F : Hp) (J : It) (ds : List D) : Prop :=
  (∀ (H : Hp) (i : Nat) (d : D), Same F H → ds[i]? = some d → J.go i H ∧ ∀ x H', J.yld i H x H' → H' = H ∧ Rep T F d x) ∧ ∀ (H : Hp), Same F H → J.stop ds.length H
theorem Walks.mono {T : Tab} {F F' : Hp} {J : It} {ds : List D} (w : Walks T F J ds) (s : Same F F') : Walks T F' J ds :=
  ⟨fun H i d h e => ⟨(w.1 H i d (s.trans h) e).1, fun x H' y => ⟨((w.1 H i d (s.trans h) e).2 x H' y).1, ((w.1 H i d (s.trans h) e).2 x H' y).2.mono s⟩⟩, fun H h => w.2 H (s.trans h)⟩
def rdI (T : Tab) (di : DA) : TI := fun σ H R => ∃ B ρ ds F, di ρ = some ds ∧ Same F H ∧ EnvR T B F H ρ σ ∧ ∀ J H' F', Gr F H F' H' → Walks T F' J ds → R J H'
def ID (T : Tab) (X : Cx) (tg iter : Expr) (di : DA) : Prop := T.K = X.K → PI X tg iter (rdI T di)
theorem piImp {X : Cx} {tg iter : Expr} {t t' : TI} (h : PI X tg iter t) (i : ∀ σ H R, t' σ H R → t σ H R) : PI X tg iter t' := ⟨fun pins s σ H R I q => h.run pins s σ H R I (i σ H R q)⟩
def listOf : D → Option (List D)
  | .lst xs => some xs
  | _ => none
def tupOf : D → Option (List D)
  | .tup xs => some xs
  | .wtp xs => some xs
  | _ => none
def iL (f : D → Option (List D)) (a : DE) : DA := fun ρ => match a ρ with
  | some x => f x
  | none => none
section
variable {T : Tab} {X : Cx} {tg e : Expr} {de : DE} {pos p : Pos}
theorem id_list (h : ED T X e de) : ID T X tg e (iL listOf de) := fun hT => piImp (pi_list (h hT)) fun σ H R h => by
  obtain ⟨B, ρ, ds, F, e, s, er, q⟩ := h
  unfold iL at e
  split at e
  · rename_i x h1
    refine ⟨B, ρ, x, F, h1, s, er, fun v H1 F1 g1 r1 => ?_⟩
    cases r1 with
    | @lst a vs ds' hq r =>
      cases e
      have hq' : SqL X.K F1 a vs := by rw [← hT]; exact hq
      refine ⟨a, rfl, ⟨vs, g1.sub.seq hq'⟩, q _ _ _ g1 ?_⟩
      refine ⟨fun H' i d s' e' => ?_, fun H' s' => ⟨vs, s'.seq hq', by rw [r.length]; exact Nat.le_refl _⟩⟩
      obtain ⟨v, ev, rv⟩ := r.get e'
      refine ⟨⟨vs, v, s'.seq hq', ev⟩, fun x H'' y => ?_⟩
      obtain ⟨e1, e2⟩ := y
      have e3 := Option.some.inj ((e2 vs (s'.seq hq')).symm.trans ev)
      subst e3
      exact ⟨e1, rv⟩
    | _ => cases e
  · cases e
theorem id_tup (h : ED T X e de) : ID T X tg e (iL tupOf de) := fun hT => piImp (pi_tup (h hT)) fun σ H R h => by
  obtain ⟨B, ρ, ds, F, e, s, er, q⟩ := h
  unfold iL at e
  split at e
  · rename_i x h1
    refine ⟨B, ρ, x, F, h1, s, er, fun v H1 F1 g1 r1 => ?_⟩
    cases r1 with
    | @tup a vs ds' hq r =>
      cases e
      have hq' : SqT X.K F1 a vs := SqT.of hq
      refine ⟨a, rfl, ⟨vs, Same.tup g1.sub hq'⟩, q _ _ _ g1 ?_⟩
      refine ⟨fun H' i d s' e' => ?_, fun H' s' => ⟨vs, Same.tup s' hq', by rw [r.length]; exact Nat.le_refl _⟩⟩
      obtain ⟨v, ev, rv⟩ := r.get e'
      refine ⟨⟨vs, v, Same.tup s' hq', ev⟩, fun x H'' y => ?_⟩
      obtain ⟨e1, e2⟩ := y
      have e3 := Option.some.inj ((e2 vs (Same.tup s' hq')).symm.trans ev)
      subst e3
      exact ⟨e1, rv⟩
    | @wtp a vs ds' hq r =>
      cases e
      have hq' : SqT X.K F1 a vs := by rw [← hT]; exact hq.1
      refine ⟨a, rfl, ⟨vs, Same.tup g1.sub hq'⟩, q _ _ _ g1 ?_⟩
      refine ⟨fun H' i d s' e' => ?_, fun H' s' => ⟨vs, Same.tup s' hq', by rw [r.length]; exact Nat.le_refl _⟩⟩
      obtain ⟨v, ev, rv⟩ := r.get e'
      refine ⟨⟨vs, v, Same.tup s' hq', ev⟩, fun x H'' y => ?_⟩
      obtain ⟨e1, e2⟩ := y
      have e3 := Option.some.inj ((e2 vs (Same.tup s' hq')).symm.trans ev)
      subst e3
      exact ⟨e1, rv⟩
    | _ => cases e
  · cases e
/-- a text's signs -/
def signsOf : D → Option (List D)
  | .str x => some (x.cps.toList.map fun c => .str ⟨#[c]⟩)
  | _ => none
theorem id_str (h : ED T X e de) : ID T X tg e (iL signsOf de) := fun hT => piImp (pi_str (h hT)) fun σ H R h => by
  obtain ⟨B, ρ, ds, F, e, s, er, q⟩ := h
  unfold iL at e
  split at e
  · rename_i x h1
    refine ⟨B, ρ, x, F, h1, s, er, fun v H1 F1 g1 r1 => ?_⟩
    cases r1 with
    | str x =>
      cases e
      refine ⟨x, rfl, q _ _ _ g1 ⟨fun H' i d s' e' => ?_, fun H' s' => by show x.cps.size ≤ _; rw [List.length_map]; exact Nat.le_of_eq (by simp)⟩⟩
      rw [List.getElem?_map] at e'
      cases hc : x.cps.toList[i]? with
      | none => rw [hc] at e'; cases e'
      | some c =>
        rw [hc] at e'
        have e' := Option.some.inj e'
        subst e'
        have hlt : i < x.cps.size := by
          have := (List.getElem?_eq_some_iff.mp hc).1
          simpa using this
        refine ⟨hlt, fun y H'' yl => ?_⟩
        obtain ⟨e1, c', e2, e3⟩ := yl
        have e4 : x.cps.toList[i]? = some c' := by simpa using e2
        rw [hc] at e4
        have e5 := Option.some.inj e4
        subst e5 e3
        exact ⟨e1, .str _⟩
    | _ => cases e
  · cases e
/-- lo, lo + 1, .. n numbers -/
def upD : Int → Nat → List D
  | _, 0 => []
  | lo, n + 1 => .int lo :: upD (lo + 1) n
theorem upD_length : ∀ (lo : Int) (n : Nat), (upD lo n).length = n
  | _, 0 => rfl
  | lo, n + 1 => by show (upD (lo + 1) n).length + 1 = n + 1; rw [upD_length]
theorem upD_get : ∀ (lo : Int) (n i : Nat) (d : D), (upD lo n)[i]? = some d → i < n ∧ d = .int (lo + i)
  | _, 0, i, d, h => by simp [upD] at h
  | lo, n + 1, 0, d, h => by
    have h' := Option.some.inj h
    subst h'
    exact ⟨Nat.zero_lt_succ _, by simp⟩
  | lo, n + 1, i + 1, d, h => by
    obtain ⟨h1, h2⟩ := upD_get (lo + 1) n i d h
    refine ⟨Nat.succ_lt_succ h1, ?_⟩
    rw [h2]
    congr 1
    omega
def rangeOf (lo hi : Int) : Option (List D) := if -(2 ^ 62) ≤ lo ∧ lo < 2 ^ 62 ∧ -(2 ^ 62) ≤ hi ∧ hi < 2 ^ 62 then some (upD lo (hi - lo).toNat) else none
def iR1 (a : DE) : DA := fun ρ => match a ρ with
  | some (.int j) => rangeOf 0 j
  | _ => none
def iR2 (a b : DE) : DA := fun ρ => match a ρ with
  | some (.int i) => (match b ρ with
    | some (.int j) => rangeOf i j
    | _ => none)
  | _ => none
theorem walks_range {T : Tab} {F : Hp} (lo : Int) (n : Nat) : Walks T F (Itr lo n) (upD lo n) := by
  refine ⟨fun H i d s e => ?_, fun H s => by show n ≤ _; rw [upD_length]; exact Nat.le_refl _⟩
  obtain ⟨h1, h2⟩ := upD_get lo n i d e
  refine ⟨h1, fun x H' y => ?_⟩
  obtain ⟨e1, e2⟩ := y
  subst e2 h2
  exact ⟨e1, .int _⟩
theorem id_range1 {a : Expr} {da : DE} (hm : X.mg "range" = none) (ha : ED T X a da) (hg : Gl X "range" := by exact rfl) (hs : starEach [a] X.env = [(false, eval a X.env)] := by rfl) : ID T X tg (.Call (.Name "range" p) [a] [] pos) (iR1 da) := fun hT =>
  piImp (pi_range1 hg hm (pa_cons (ha hT) pa_nil hs) hs) fun σ H R h => by
    obtain ⟨B, ρ, ds, F, e, s, er, q⟩ := h
    unfold iR1 at e
    split at e
    · rename_i j h1
      unfold rangeOf at e
      split at e
      · rename_i hb
        cases e
        refine ⟨B, ρ, .int j, F, h1, s, er, fun v H1 F1 g1 r1 => ?_⟩
        cases r1
        refine ⟨j, rfl, hb.2.2.1, hb.2.2.2, q _ _ _ g1 ?_⟩
        have e0 : (j - 0).toNat = j.toNat := by rw [Int.sub_zero]
        rw [e0]
        exact walks_range 0 j.toNat
      · cases e
    · cases e
theorem id_range2 {a b : Expr} {da db : DE} (hm : X.mg "range" = none) (ha : ED T X a da) (hb : ED T X b db) (hg : Gl X "range" := by exact rfl) (hs : starEach [a, b] X.env = [(false, eval a X.env), (false, eval b X.env)] := by rfl) (hs2 : starEach [b] X.env = [(false, eval b X.env)] := by rfl) :
    ID T X tg (.Call (.Name "range" p) [a, b] [] pos) (iR2 da db) := fun hT =>
  piImp (pi_range2 hg hm (pa_cons (ha hT) (pa_cons (hb hT) pa_nil hs2) (hs.trans (congrArg _ hs2.symm))) hs hs2) fun σ H R h => by
    obtain ⟨B, ρ, ds, F, e, s, er, q⟩ := h
    unfold iR2 at e
    split at e
    · rename_i i h1
      split at e
      · rename_i j h2
        unfold rangeOf at e
        split at e
        · rename_i hb'
          cases e
          refine ⟨B, ρ, .int i, F, h1, s, er, fun v H1 F1 g1 r1 => ⟨B, ρ, .int j, F1, h2, g1.sub, er.grow g1, fun u H2 F2 g2 r2 => ?_⟩⟩
          cases r1
          cases r2
          exact ⟨i, j, rfl, ⟨hb'.1, hb'.2.1, hb'.2.2.1, hb'.2.2.2⟩, q _ _ _ (g1.trans g2) (walks_range i (j - i).toNat)⟩
        · cases e
      · cases e
    · cases e
end

/-! ### targets -/
abbrev DG := D → Rho → Option Rho
abbrev DGs := List D → Rho → Option Rho
def gN (i : Nat) : DG := fun d ρ => some (ρ.set i (.sh d))
def gT (n : Nat) (t : DGs) : DG := fun d ρ => match d with
  | .tup xs => if xs.length = n then t xs ρ else none
  | .wtp xs => if xs.length = n then t xs ρ else none
  | _ => none
def gNilD : DGs := fun ds ρ => match ds with
  | [] => some ρ
  | _ => none
def gConsD (g : DG) (t : DGs) : DGs := fun ds ρ => match ds with
  | d :: r => (match g d ρ with
    | some ρ' => t r ρ'
    | none => none)
  | [] => none
def rdG (T : Tab) (dg : DG) (ws : List Nat) : TG := fun v σ H Q => ∃ B ρ d ρ' F H0, dg d ρ = some ρ' ∧ Same F H0 ∧ Same H0 H ∧ EnvR T B F H0 ρ σ ∧ Rep T F d v ∧ ∀ σ', EnvR T B F H0 ρ' σ' → (∀ vs, (∀ i ∈ ws, i ∈ vs) → L2.wipe σ' vs = L2.wipe σ vs) → Q σ' H
def rdGs (T : Tab) (dg : DGs) (ws : List Nat) : TGs := fun us σ H Q => ∃ B ρ ds ρ' F H0, dg ds ρ = some ρ' ∧ Same F H0 ∧ Same H0 H ∧ EnvR T B F H0 ρ σ ∧ Reps T F ds us ∧ ∀ σ', EnvR T B F H0 ρ' σ' → (∀ vs, (∀ i ∈ ws, i ∈ vs) → L2.wipe σ' vs = L2.wipe σ vs) → Q σ' H
def GD (T : Tab) (X : Cx) (tg : Expr) (dg : DG) (ws : List Nat) : Prop := T.K = X.K → PG X tg (rdG T dg ws)
def GDs (T : Tab) (X : Cx) (tgs : List Expr) (dg : DGs) (ws : List Nat) : Prop := T.K = X.K → PGs X tgs (rdGs T dg ws)
theorem pgImp {X : Cx} {tg : Expr} {t t' : TG} (h : PG X tg t) (i : ∀ v σ H R, t' v σ H R → t v σ H R) : PG X tg t' := ⟨fun pins s σ H v u Q I r q => h.run pins s σ H v u Q I r (i v σ H Q q)⟩
theorem pgsImp {X : Cx} {tg : List Expr} {t t' : TGs} (h : PGs X tg t) (i : ∀ v σ H R, t' v σ H R → t v σ H R) : PGs X tg t' := ⟨fun pins s σ H v u Q I r q => h.run pins s σ H v u Q I r (i v σ H Q q)⟩
section
variable {T : Tab} {X : Cx} {tg : Expr} {tgs : List Expr} {pos : Pos}
theorem gd_name (i : Nat) {x : Str} (hN : X.N.Nodup) (hi : X.N[i]? = some x := by rfl) (hx : Loc X.env.scope x := by first | exact Or.inl rfl | exact Or.inr rfl) (hf : X.fn x = true ∨ X.env.scope.names.lookup x = some .local := by first | exact .inl rfl | exact .inr rfl) :
    GD T X (.Name x pos) (gN i) [i] := fun hT => pgImp (pg_name (i := i) hN hi hx hf) fun v σ H Q h => by
  obtain ⟨B, ρ, d, ρ', F, H0, e, s, s0, er, r, q⟩ := h
  cases e
  exact q _ (er.set r) fun vs hv => wipe_set (hv i (by simp))
theorem gds_nil : GDs T X [] gNilD [] := fun hT => pgsImp pgs_nil fun v σ H Q h => by
  obtain ⟨B, ρ, ds, ρ', F, H0, e, s, s0, er, r, q⟩ := h
  cases r with
  | nil =>
    cases e
    exact ⟨rfl, q σ er fun _ _ => rfl⟩
  | cons _ _ => cases e
theorem gds_cons {g : DG} {t : DGs} {ws us : List Nat} (h1 : GD T X tg g ws) (h2 : GDs T X tgs t us) (ha : (assignEach (tg :: tgs) X.env).map (·.2) = assign tg X.env :: (assignEach tgs X.env).map (·.2) := by rfl) : GDs T X (tg :: tgs) (gConsD g t) (ws ++ us) := fun hT =>
  pgsImp (pgs_cons (h1 hT) (h2 hT) ha) fun v σ H Q h => by
    obtain ⟨B, ρ, ds, ρ', F, H0, e, s, s0, er, r, q⟩ := h
    cases r with
    | nil => cases e
    | @cons d ds v vs r1 r2 =>
      unfold gConsD at e
      simp only at e
      split at e
      · rename_i ρ1 h1
        refine ⟨v, vs, rfl, B, ρ, d, ρ1, F, H0, h1, s, s0, er, r1, fun σ1 er1 hw1 => ⟨B, ρ1, ds, ρ', F, H0, e, s, s0, er1, r2, fun σ2 er2 hw2 => q σ2 er2 fun vs hv => ?_⟩⟩
        rw [hw2 vs fun i hi => hv i (List.mem_append_right _ hi), hw1 vs fun i hi => hv i (List.mem_append_left _ hi)]
      · cases e
theorem gd_tup (n : Nat) {k : Nat} {t : DGs} {ws : List Nat} (hc : X.calm = true) (h : GDs T X tgs t ws) (hn : (assignEach tgs X.env).length = n := by rfl) (hst : (assignEach tgs X.env).findIdx? (·.1) = none := by rfl) : GD T X (.Tuple tgs k pos) (gT n t) ws := fun hT =>
  pgImp (pg_tup (n := n) hc (h hT) hn hst) fun v σ H Q h => by
    obtain ⟨B, ρ, d, ρ', F, H0, e, s, s0, er, r, q⟩ := h
    unfold gT at e
    split at e
    · rename_i xs
      split at e
      · rename_i hl
        cases r with
        | @tup a vs ds hq r =>
          exact ⟨a, vs, rfl, SqT.of (s0 _ _ (s _ _ hq)), by rw [← r.length]; exact hl, B, ρ, xs, ρ', F, H0, e, s, s0, er, r, q⟩
      · cases e
    · rename_i xs
      split at e
      · rename_i hl
        cases r with
        | @wtp a vs ds hq r =>
          have hq := (hq.mono (s.trans s0)).1
          rw [hT] at hq
          exact ⟨a, vs, rfl, hq, by rw [← r.length]; exact hl, B, ρ, xs, ρ', F, H0, e, s, s0, er, r, q⟩
      · cases e
    · cases e
end

/-! ### for -/
def forL (g : DG) (body : DS) : List D → Rho → Option Out
  | [], ρ => some (.nx ρ)
  | d :: r, ρ => match g d ρ with
    | some ρ1 => (match body ρ1 with
      | some (.nx ρ2) => forL g body r ρ2
      | o => o)
    | none => none
def sFor (di : DA) (g : DG) (body : DS) : DS := fun ρ => match di ρ with
  | some ds => forL g body ds ρ
  | none => none
section
variable {T : Tab} {X : Cx} {tg iter : Expr} {body : List Stmt} {pos : Pos} {di : DA} {g : DG} {ds : DS} {ws : List Nat}
theorem sd_for (hp : PassesOwn (model X.prog X.w) X.A X.env X.xe) (hc : X.calm = true) (hi : ID T X tg iter di) (hg : GD T X tg g ws) (hb : SDs T X body ds) (hs : ∀ x, foldedSetIterable iter X.env x = pure x := by exact fun _ => rfl) : SD T X (.For tg iter body [] pos) (sFor di g ds) := fun hT =>
  psImp (ps_for hp hc (hi hT) (hg hT) (hb hT) hs) fun Dn σ H h => by
    obtain ⟨B, F0, ρ, o, F, e, gr, er, q⟩ := h
    unfold sFor at e
    split at e
    · rename_i xs h1
      refine ⟨B, ρ, xs, F, h1, gr.sub, er, fun J H1 F1 g1 wk => ?_⟩
      -- i turns gone: the rest runs to o from the slots
      refine ⟨fun i m σ' H' => m = xs.length - i ∧ i ≤ xs.length ∧ ∃ ρ' F', Gr F0 B F' H' ∧ Same F1 F' ∧ EnvR T B F' H' ρ' σ' ∧ forL g ds (xs.drop i) ρ' = some o, ⟨xs.length, rfl, Nat.zero_le _, ρ, F1, gr.trans g1, Same.refl _, er.grow g1, e⟩, ?_⟩
      rintro i m σ' H' ⟨rfl, hi', ρ', F', gr', sf, er', e'⟩
      by_cases hlt : i < xs.length
      · have hd : xs.drop i = xs[i] :: xs.drop (i + 1) := List.drop_eq_getElem_cons hlt
        rw [hd] at e'
        have wk' := wk.mono sf
        obtain ⟨go, yl⟩ := wk'.1 H' i xs[i] gr'.sub (List.getElem?_eq_getElem hlt)
        refine .inr ⟨go, fun σ2 H2 => ∃ ρ2 F2, Gr F0 B F2 H2 ∧ Same F1 F2 ∧ EnvR T B F2 H2 ρ2 σ2 ∧ forL g ds (xs.drop (i + 1)) ρ2 = some o, fun σ2 H2 hN => ⟨xs.length - (i + 1), by omega, rfl, hlt, hN⟩, fun x H2 y => ?_⟩
        obtain ⟨rfl, rx⟩ := yl x H2 y
        have gs : Gr F' B F' H2 := ⟨gr'.same, Same.refl _, gr'.sub, fun _ _ z => .inl z⟩
        unfold forL at e'
        split at e'
        · rename_i ρ1 hg1
          refine ⟨B, ρ', xs[i], ρ1, F', H2, hg1, gr'.sub, Same.refl _, er', rx, fun σ1 er1 _ => ?_⟩
          split at e'
          · rename_i ρ2 hb2
            exact ⟨B, F', ρ1, .nx ρ2, F', hb2, gs, er1, fun σ3 H3 F3 g3 er3 => ⟨ρ2, F3, gr'.glue g3, sf.trans g3.frz, er3, e'⟩⟩
          · rename_i ho
            cases o with
            | nx ρ3 => exact absurd e' (ho ρ3)
            | rt d => exact ⟨B, F', ρ1, .rt d, F', e', gs, er1, fun v H3 F3 g3 r3 => q v H3 F3 (gr'.glue g3) r3⟩
        · cases e'
      · have ei : i = xs.length := by omega
        subst ei
        rw [List.drop_length] at e'
        cases e'
        exact .inl ⟨(wk.mono sf).2 H' gr'.sub, q σ' H' F' gr' er'⟩
    · cases e
end
end PD
end
section
set_option Elab.async false
set_option linter.all false
set_option maxRecDepth 100000
/-! PD4: list comprehensions of one, two, three clauses. -/
namespace PD
open PySem PySem.Spec PyProof.Rows L2

section
variable {prog : Program} {w : World} {A : Around} {R : Result → Shared → Prop} {s : Shared} {ce : Expr} {k : Nat} {tg iter : Expr} {ifs : List Expr} {it acc : Value} {env : Env} {step : Sem Fin → Sem Fin}
/-- the turn of a clause whose inside is step -/
abbrev TurnEq (e : Expr) (k : Nat) (tg iter : Expr) (ifs : List Expr) (it acc : Value) (env : Env) (step : Sem Fin → Sem Fin) : Prop :=
  compTurn e k it acc env = (do
      standAt iter.pos
      match ← pyNext it with
      | none => pure (.done .next)
      | some v =>
        letOwnedTupleGo tg it v
        assign tg env v
        let mut ok := true
        for c in ifs do
          if ok then ok ← isTrue c env (eval c env)
        if ok then
          step (again (.compLoop e k it acc env))
        else again (.compLoop e k it acc env))
/-- a comprehension's two codes -/
structure CompE (prog : Program) (w : World) (ce : Expr) : Prop where
  lp : ∀ (k : Nat) (it acc : Value) (env : Env), (model prog w).den (.compLoop ce k it acc env) = (compTurn ce k it acc env).onRaise (fun x => do noteFrame x env; theTreesLotGoes x)
  st : ∀ (k : Nat) (it acc : Value) (env : Env), (model prog w).den (.compStart ce k it acc env) = (compStart ce k it acc env).onRaise (fun x => do noteFrame x env; standAt theWindowsPlace)
  ul : ∀ (A : Around) (k : Nat) (it acc : Value) (env : Env), A.under (.compLoop ce k it acc env) = A
  us : ∀ (A : Around) (k : Nat) (it acc : Value) (env : Env), A.under (.compStart ce k it acc env) = A
theorem loopG (hd : CompE prog w ce) (ht : TurnEq ce k tg iter ifs it acc env step) (I : Nat → Shared → Prop)
    (turn : ∀ n s, I n s → wpAny (model prog w) A (pyNext it) (fun r s₁ => match r with
      | none => R (.ok .next) s₁
      | some v => wpAny (model prog w) A (letOwnedTupleGo tg it v) (fun _ s₁' => wpAny (model prog w) A (assign tg env v) (fun _ s₂ =>
          wpAny (model prog w) A (forIn ifs true fun c r => if r = true then do let ok ← isTrue c env (eval c env); pure (ForInStep.yield ok) else pure (ForInStep.yield r)) (fun ok s₃ =>
            if ok = true then ∀ (c : Sem Fin) (Qc : Fin → Shared → Prop), (∀ s₄, (∃ m, m < n ∧ I m s₄) → wpAny (model prog w) A c Qc (notedBy (model prog w) A env fun e s' => R (.error e) s') s₄) → wpAny (model prog w) A (step c) Qc (notedBy (model prog w) A env fun e s' => R (.error e) s') s₃
            else ∃ m, m < n ∧ I m s₃) (notedBy (model prog w) A env fun e s' => R (.error e) s') s₂) (notedBy (model prog w) A env fun e s' => R (.error e) s') s₁') (notedBy (model prog w) A env fun e s' => R (.error e) s') s₁) (notedBy (model prog w) A env fun e s' => R (.error e) s') s)
    (n : Nat) (h : I n s) :
    codeAny (model prog w) A (.compLoop ce k it acc env) R s := by
  refine codeAny_loop rfl I (fun n s hI => ?_) n h
  rw [hd.lp, hd.ul]
  show wpAny _ A ((compTurn ce k it acc env).onRaise (fun x => do noteFrame x env; theTreesLotGoes x)) _ _ s
  refine wpAny_noted ?_
  rw [ht]
  refine wpAny_bind (wpAny_standAt (wpAny_bind (wpAny_mono (turn n s hI) (fun r s₁ h₁ => ?_) fun _ _ h' => h')))
  cases r with
  | none => exact wpAny_pure h₁
  | some v =>
    refine wpAny_bind (wpAny_mono h₁ (fun _ s₁' h₁' => ?_) fun _ _ h' => h')
    refine wpAny_bind (wpAny_mono h₁' (fun _ s₂ h₂ => wpAny_bind (wpAny_mono h₂ (fun ok s₃ h₃ => ?_) fun _ _ h' => h')) fun _ _ h' => h')
    cases ok with
    | false => exact wpAny_pure ⟨rfl, h₃⟩
    | true => exact h₃ _ _ fun s₄ h₄ => wpAny_pure ⟨rfl, h₄⟩
/-- a later clause's start -/
theorem startG {g : Comprehension} (hd : CompE prog w ce) (hk : (clausesOf ce)[k]? = some g) (ha : (g.is_async != 0) = false)
    (h0 : codeAny (model prog w) A (.compLoop ce k it acc env) R s)
    (h : wpAny (model prog w) A (pyIter it) (fun it' s' => codeAny (model prog w) A (.compLoop ce k it' acc env) R s') (notedBy (model prog w) A env fun x s' => R (.error x) s') s) :
    codeAny (model prog w) A (.compStart ce k it acc env) R s := by
  refine codeAny_of_tree ?_
  rw [hd.st, hd.us]
  show wpAny _ _ ((compStart ce k it acc env).onRaise (fun x => do noteFrame x env; standAt theWindowsPlace)) _ _ s
  refine wpAny_notedAt ?_
  unfold compStart
  rw [hk]
  simp only [Option.elim, ha]
  show wpAny _ _ (ask >>= _) _ _ s
  refine wpAny_bind (wpAny_askSetting (wpAny_ite ?_))
  split
  · first
      | exact wpAny_bind (wpAny_pure (wpAny_pure (And.intro rfl h0)))
      | exact wpAny_pure (And.intro rfl h0)
  · first
      | exact wpAny_bind (wpAny_rule (wpAny_bind (wpAny_standAt (wpAny_bind (wpAny_mono h (fun it' s' h' => wpAny_pure (And.intro rfl h')) fun _ _ x => x)))))
      | (refine wpAny_bind (wpAny_rule ?_); show wpAny _ _ (standAt g.iter.pos >>= _) _ _ s; exact wpAny_bind (wpAny_standAt (wpAny_bind (wpAny_mono h (fun it' s' h' => wpAny_pure (And.intro rfl h')) fun _ _ x => x))))
end

/-! ### readings of a clause's inside -/
abbrev TK := L2.St → Hp → (Hp → Prop) → Prop
def kElt (p : Addr) (te : TE) : TK := fun σ H Nx => te σ H fun y H' => ∃ acc, H' p = some (.lst acc) ∧ acc.length < sizeLine ∧ Nx (upd H' p (.lst (acc ++ [y])))
def kLoopJ (J : It) (g : TG) (tt : TT) (vs : List Nat) (K : TK) : TK := fun σ H1 Nx => ∃ W : Nat → Nat → Hp → Prop, (∃ m, W 0 m H1) ∧ ∀ i m H, W i m H →
  (J.stop i H ∧ Nx H) ∨ (J.go i H ∧ ∃ Nx1 : Hp → Prop, (∀ H', Nx1 H' → ∃ m', m' < m ∧ W (i + 1) m' H') ∧ ∀ x H', J.yld i H x H' → g x (L2.wipe σ vs) H' fun σ2 H2 => L2.wipe σ2 vs = L2.wipe σ vs ∧ tt σ2 H2 fun b H3 =>
    if b = true then K σ2 H3 Nx1 else Nx1 H3)
def kLoop (wi : TI) (g : TG) (tt : TT) (vs : List Nat) (K : TK) : TK := fun σ H Nx => wi σ H fun J H1 => kLoopJ J g tt vs K σ H1 Nx
/-- the inside is so read; the slots us may be forgotten by it -/
def BodyOk (X : Cx) (step : Sem Fin → Sem Fin) (us : List Nat) (K : TK) : Prop := ∀ (pins : List (Addr × Obj)) (s : Shared) (σ : L2.St) (H : Hp) (Nx : Hp → Prop) (c : Sem Fin) (Qc : Fin → Shared → Prop) (E : Value → Shared → Prop), Inv X pins σ H s → K σ H Nx →
  (∀ s' σ' H', Inv X pins σ' H' s' → (∀ (j : Nat) v, (L2.wipe σ us)[j]? = some (some v) → σ'[j]? = some (some v)) → Nx H' → wpAny (model X.prog X.w) X.A c Qc E s') → wpAny (model X.prog X.w) X.A (step c) Qc E s
theorem body_elt {X : Cx} {elt : Expr} {te : TE} {p : Addr} (hx : X.xe = fun _ _ => False) (he : PE X elt te) : BodyOk X (fun c => (do let _ ← call (.builtin "list.append") [.ref p, ← eval elt X.env]) >>= fun _ => c) [] (kElt p te) := by
  intro pins s σ H Nx c Qc E I h k
  have q := he.run pins s σ H _ I h
  rw [hx] at q
  refine wpAny_bind (wpAny_bind (thnF q fun z s1 h1 => ?_))
  obtain ⟨y, H1, I1, r1, acc, hD, hz, nx⟩ := h1
  exact wpAny_bind (app_ok I1 hD hz r1 fun s2 I2 => wpAny_pure (k s2 σ _ I2 (fun j v e => e) nx))
/-- slots known ahead of a loop are known in it -/
theorem wipe_wipe {σ : L2.St} : ∀ {us vs : List Nat}, (∀ i ∈ us, i ∈ vs) → L2.wipe (L2.wipe σ us) vs = L2.wipe σ vs
  | [], vs, _ => rfl
  | u :: us, vs, h => by
    show L2.wipe ((L2.wipe σ us).set u none) vs = L2.wipe σ vs
    rw [wipe_set (h u List.mem_cons_self)]
    exact wipe_wipe fun i hi => h i (List.mem_cons_of_mem _ hi)
/-- the loop of a clause within the block -/
theorem loop_ok {X : Cx} {ce tg iter : Expr} {k : Nat} {ifs : List Expr} {p it : Addr} {fp : List Addr} {tn : Nat → Heap → Prop} {J : It} {g : TG} {tt : TT} {K : TK} {step : Sem Fin → Sem Fin} {vs us : List Nat} {R : Result → Shared → Prop} {pins : List (Addr × Obj)} {s : Shared} {σ : L2.St} {H : Hp} {Nx : Hp → Prop}
    (hx : X.xe = fun _ _ => False) (hc : X.calm = true) (hd : CompE X.prog X.w ce) (ht : TurnEq ce k tg iter ifs (.ref it) (.ref p) X.env step)
    (T : Turn X.prog X.w X.K tg J fp it tn) (pg : PG X tg g) (pt : PTs X ifs tt) (hb : BodyOk X step us K) (hus : ∀ i ∈ us, i ∈ vs)
    (stat : ∀ {σ' : L2.St} {H' : Hp} {s' : Shared}, Inv X pins σ' H' s' → (∀ b ∈ fp, H' b = none) → ∀ b ∈ fp, FpOk X pins H' b)
    (I : Inv X pins σ H s) (st : tn 0 s.heap) (nf : ∀ b ∈ fp, H b = none) (h : kLoopJ J g tt vs K σ H Nx)
    (hR : ∀ s' H', Inv X pins (L2.wipe σ vs) H' s' → (∀ b ∈ fp, H' b = none) → Nx H' → R (.ok .next) s') :
    codeAny (model X.prog X.w) X.A (.compLoop ce k (.ref it) (.ref p) X.env) R s := by
  obtain ⟨W, ⟨m0, w0⟩, turn⟩ := h
  refine loopG hd ht (fun n s' => ∃ i H', Inv X pins (L2.wipe σ vs) H' s' ∧ tn i s'.heap ∧ (∀ b ∈ fp, H' b = none) ∧ W i n H') ?_ m0 ⟨0, H, I.weak (wipe_length _ _) (fun j v e => (wipe_some e).1), st, nf, w0⟩
  rintro n s5 ⟨i, H5, I5, st5, n5, w5⟩
  rcases turn i n H5 w5 with ⟨stop, qq⟩ | ⟨go, Nx1, hNx, stp⟩
  · refine thnF (T.done X rfl rfl rfl hc i pins s5 _ H5 (fun _ _ => False) I5 (stat I5 n5) st5 stop) fun r s6 ⟨hr, I6⟩ => ?_
    subst hr
    exact hR s6 H5 I6 n5 qq
  · refine thnF (T.item X rfl rfl rfl hc i pins s5 _ H5 (fun _ _ => False) I5 (stat I5 n5) st5 go) fun r s6 ⟨u, hr, h6⟩ => ?_
    subst hr
    refine thnF h6 fun _ s7 ⟨x, H7, I7, r7, y7, st7, n7⟩ => ?_
    have I7' := I7.pinned (stat I7 n7) (T.obj _ _ st7)
    have q8 := pg.run _ s7 _ H7 x u _ I7' r7 (stp x H7 y7)
    rw [hx] at q8
    refine thnF q8 fun _ s8 ⟨σ8, H8, I8, hw8, q8⟩ => ?_
    have q9 := pt.run _ s8 σ8 H8 _ I8 q8
    rw [hx] at q9
    refine thnF q9 fun b s9 ⟨H9, I9, q9⟩ => ?_
    have hl8 : (L2.wipe σ vs).length = σ8.length := by rw [← hw8, wipe_length]
    have hk8 : ∀ (j : Nat) v, (L2.wipe σ vs)[j]? = some (some v) → σ8[j]? = some (some v) ∧ j ∉ vs := fun j v e => by
      rw [← hw8] at e
      exact wipe_some e
    have fin : ∀ {σ9 : L2.St} {s' : Shared} {H' : Hp}, Inv X (pins ++ pinsAt fp s7.heap) σ9 H' s' → (∀ (j : Nat) v, (L2.wipe σ vs)[j]? = some (some v) → σ9[j]? = some (some v)) → Nx1 H' →
        ∃ m, m < n ∧ ∃ i H', Inv X pins (L2.wipe σ vs) H' s' ∧ tn i s'.heap ∧ (∀ b ∈ fp, H' b = none) ∧ W i m H' := fun {σ9 s' H'} I' hk nx => by
      obtain ⟨m', hm, w'⟩ := hNx H' nx
      have pin' : ∀ b ∈ fp, ∀ o, s7.heap.get? b = some o → s'.heap.get? b = some o ∧ H' b = none := fun b hb o e =>
        let z := I'.pin (b, o) (List.mem_append_right _ (List.mem_append_right _ (mem_pinsAt hb e)))
        ⟨z.1, z.2.1⟩
      refine ⟨m', hm, i + 1, H', (I'.unpinned).weak ?_ hk, T.keep _ _ _ st7 fun b hb o e => (pin' b hb o e).1, fun b hb => ?_, w'⟩
      · rw [I'.len, ← I5.len]
      · obtain ⟨o, e, _⟩ := T.obj _ _ st7 b hb
        exact (pin' b hb o e).2
    cases b with
    | false =>
      simp only [Bool.false_eq_true, if_false] at q9 ⊢
      exact fin I9 (fun j v e => (hk8 j v e).1) q9
    | true =>
      simp only [if_true] at q9 ⊢
      refine fun c Qc hcQ => hb _ s9 σ8 H9 Nx1 c Qc _ I9 q9 fun s10 σ10 H10 I10 hk10 nx => hcQ s10 (fin I10 (fun j v e => hk10 j v ?_) nx)
      obtain ⟨e1, e2⟩ := hk8 j v e
      rw [wipe_out fun z => e2 (hus j z)]
      exact e1
/-- a further clause within -/
theorem body_loop {X : Cx} {ce tg iter : Expr} {k : Nat} {ifs : List Expr} {p : Addr} {wi : TI} {g : TG} {tt : TT} {K : TK} {step : Sem Fin → Sem Fin} {vs us : List Nat}
    (hx : X.xe = fun _ _ => False) (hc : X.calm = true) (hd : CompE X.prog X.w ce) (hk : (clausesOf ce)[k]? = some ⟨tg, iter, ifs, 0⟩)
    (ht : ∀ it, TurnEq ce k tg iter ifs it (.ref p) X.env step)
    (pi : PI X tg iter wi) (pg : PG X tg g) (pt : PTs X ifs tt) (hb : BodyOk X step us K) (hus : ∀ i ∈ us, i ∈ vs) (hs : ∀ x, foldedSetIterable iter X.env x = pure x) :
    BodyOk X (fun c => do
      let x ← eval iter X.env
      standAt iter.pos
      let x ← foldedSetIterable iter X.env x
      let _ ← runOwn (.compStart ce k (← holding [x] (pyIter x)) (.ref p) X.env) X.env
      c) vs (kLoop wi g tt vs K) := by
  intro pins s σ H Nx c Qc E I h kc
  have q := pi.run pins s σ H _ I h
  rw [hx] at q
  refine wpAny_bind (thnF q fun x s1 h1 => ?_)
  refine wpAny_bind (wpAny_standAt (wpAny_bind (wpAny_of_eq (hs x) (wpAny_bind (wpAny_holding (thnF h1 fun itv s2 h2 => ?_))))))
  obtain ⟨it, fp, tn, J, H2, e1, I2, T, st2, f2, q2⟩ := h2
  subst e1
  have key : ∀ s3, s3 = s2 → codeAny (model X.prog X.w) X.A (.compLoop ce k (.ref it) (.ref p) X.env) (fun r s' => match r with
      | .ok _ => ∃ σ' H', Inv X pins σ' H' s' ∧ (∀ (j : Nat) v, (L2.wipe σ vs)[j]? = some (some v) → σ'[j]? = some (some v)) ∧ Nx H'
      | .error _ => False) s3 := fun s3 e3 => by
    subst e3
    exact loop_ok hx hc hd (ht (.ref it)) T pg pt hb hus (fun I' hn b hb => ⟨hn b hb, (f2 b hb).2⟩) I2 st2 (fun b hb => (f2 b hb).1) q2 fun s' H' I' _ nx => ⟨_, H', I', fun j v e => e, nx⟩
  refine wpAny_bind (wpAny_runOwn ?_)
  rw [Around.mark_none]
  refine codeAny_mono (startG hd hk rfl (key s2 rfl) (T.self X.A 0 _ _ _ st2 (key s2 rfl))) fun r s' hr => ?_
  cases r with
  | ok f =>
    obtain ⟨σ', H', I', hk', nx⟩ := hr
    exact kc s' σ' H' I' hk' nx
  | error e => exact hr.elim
end PD
end
section
set_option Elab.async false
set_option linter.all false
set_option maxRecDepth 100000
/-! PD5: the block of a list comprehension; its rules over data. -/
namespace PD
open PySem PySem.Spec PyProof.Rows L2

section
variable {X : Cx}
def tLcO (o0 : Addr → HO) (wi : TI) (g : TG) (tt : TT) (vs : List Nat) (K : Addr → TK) : TE := fun σ H Q => wi σ H fun J H1 => ∀ p, H1 p = none → kLoopJ J g tt vs (K p) σ (upd H1 p (o0 p)) (fun H' => Q (.ref p) H')
abbrev tLcG (wi : TI) (g : TG) (tt : TT) (vs : List Nat) (K : Addr → TK) : TE := tLcO (fun _ => .lst []) wi g tt vs K
/-- what a comprehension begins with: mk makes the object ob, read as o0 -/
structure Beg (X : Cx) (mk : Sem Value) (ob : Obj) (o0 : Addr → HO) : Prop where
  new : ∀ (s : Shared) (Q : Value → Shared → Prop), Q (.ref s.heap.objs.size) { s with heap := s.heap.push ob } → wpAny (model X.prog X.w) X.A mk Q X.xe s
  at_ : ∀ {pins : List (Addr × Obj)} {σ : L2.St} {H : Hp} {s : Shared}, Inv X pins σ H s → Inv X pins σ (upd H s.heap.objs.size (o0 s.heap.objs.size)) { s with heap := s.heap.push ob }
theorem codeE_list {prog : Program} {w : World} {elt : Expr} {gs : List Comprehension} {scope : Scope} {pos : Pos} : CompE prog w (.ListComp elt gs scope pos) := ⟨fun _ _ _ _ => rfl, fun _ _ _ _ => rfl, fun _ _ _ _ _ => rfl, fun _ _ _ _ _ => rfl⟩
theorem beg_list : Beg X (newList []) { cls := .type "list", data := .seq ([] : List Value).toArray } (fun _ => .lst []) :=
  ⟨fun s Q h => wpAny_newObj_type h (by show 0 ≤ sizeLine; decide), fun {pins σ H s} I => I.laid (t' := s.toks) (fun b o e => Heap.get?_push_of_some _ e) (Nat.le_refl _) ⟨Nat.zero_le _, [], 0, .nil, Heap.get?_push_size _ rfl⟩⟩
theorem lcG_core {pins : List (Addr × Obj)} {s : Shared} {σ : L2.St} {H : Hp} {Q : VK} {cx tg iter : Expr} {ifs : List Expr} {mk : Sem Value} {ob : Obj} {o0 : Addr → HO} {rest : List Comprehension} {scope : Scope} {own : List (Str × Nat)} {us : List Nat} {pos' : Pos} {wi : TI} {g : TG} {tt : TT} {K : Addr → TK} {step : Env → Addr → Sem Fin → Sem Fin} {use : Option (Value → Sem Unit)} {Qf : Value → Shared → Prop}
    (hb0 : Beg X mk ob o0) (hcx : CompE X.prog X.w cx) (hcl : clausesOf cx = ⟨tg, iter, ifs, 0⟩ :: rest) (hc : X.calm = true) (hN : X.N.Nodup) (I : Inv X pins σ H s) (hi : PI X tg iter wi) (ok : BlkOk X.N X.env.scope scope own)
    (hg : ∀ (s : Shared) (H : Hp) (C : Addr) (cl : List (Str × Addr)) (fp : List Addr), PG (X.blk s H scope (compEnvC scope cl C X.env) fp) tg g) (ht : ∀ (s : Shared) (H : Hp) (C : Addr) (cl : List (Str × Addr)) (fp : List Addr), PTs (X.blk s H scope (compEnvC scope cl C X.env) fp) ifs tt)
    (hb : ∀ (s : Shared) (H : Hp) (C : Addr) (cl : List (Str × Addr)) (fp : List Addr) (p : Addr), BodyOk (X.blk s H scope (compEnvC scope cl C X.env) fp) (step (compEnvC scope cl C X.env) p) us (K p)) (hus : ∀ i ∈ us, i ∈ own.map (·.2))
    (hte : ∀ it p env, TurnEq cx 0 tg iter ifs it (.ref p) env (step env p)) (hs : ∀ x, foldedSetIterable iter X.env x = pure x)
    (h : tLcO o0 wi g tt (own.map (·.2)) K σ H Q)
    (hRR : ∀ D C s' m H', Inv X pins σ H' s' → Q (.ref D) H' → s'.heap.Ns C m → FpOk X pins H' C → compPost (model X.prog X.w) X.A X.xe use Qf (.ref D) C (.ok .next) s') :
    wpAny (model X.prog X.w) X.A (comprehension cx scope X.env pos' mk false (eval iter X.env) use) Qf X.xe s := by
  have hfree : ∀ y ∈ scope.names, y.2 = .free → ∃ c, X.env.cells.lookup y.1 = some c := fun y hy e => by
    rcases ok.free y hy e with k | k
    · exact I.ok.has _ (.inl k)
    · exact I.ok.has _ (.inr k)
  refine wpAny_comprehension_free (use := use) hcl hs (closure_ok hfree) ok.kind (fun y hy e => by rw [ok.uniq y hy, e])
    (thn (hi.run pins s σ H _ I h) fun xv s1 hx => thn hx fun itv s2 h2 => ?_)
  obtain ⟨it, fp, tn, J, H2, e, I2, T, st2, f2, q⟩ := h2
  subst e
  refine hb0.new _ _ (newEnv_comp ?_)
  generalize hD : s2.heap.objs.size = D
  have hDn : H2 D = none := I2.hok.fresh (Nat.le_of_eq hD)
  have lp := q D hDn
  -- the new list
  generalize hs3 : ({ s2 with heap := s2.heap.push ob } : Shared) = s3
  have I3 : Inv X pins σ (upd H2 D (o0 D)) s3 := by
    rw [← hs3, ← hD]
    exact hb0.at_ I2
  have h3 : s3.heap = s2.heap.push ob := by rw [← hs3]
  have sz : ∀ b ∈ fp, b < s2.heap.objs.size := fun b hb => by
    obtain ⟨o, e, _⟩ := T.obj _ _ st2 b hb
    exact Heap.lt_size e
  have f3 : ∀ b ∈ fp, FpOk X pins (upd H2 D (o0 D)) b ∧ b < s3.heap.objs.size := fun b hb => by
    have hlt := sz b hb
    refine ⟨⟨?_, (f2 b hb).2⟩, by rw [h3, Heap.size_push]; exact Nat.lt_succ_of_lt hlt⟩
    rw [upd_ne (by rw [← hD]; exact Nat.ne_of_lt hlt)]
    exact (f2 b hb).1
  have st3 : tn 0 s3.heap := T.keep _ _ _ st2 fun b _ o e => by rw [h3]; exact Heap.get?_push_of_some _ e
  have I4 := block_start I3 ok hN f3
  have pg := hg s3 (upd H2 D (o0 D)) s3.heap.objs.size (cellsFrom (s3.heap.objs.size + 1) scope.names (cloFrom X.env.cells scope.names [])) fp
  have pt := ht s3 (upd H2 D (o0 D)) s3.heap.objs.size (cellsFrom (s3.heap.objs.size + 1) scope.names (cloFrom X.env.cells scope.names [])) fp
  have pb := hb s3 (upd H2 D (o0 D)) s3.heap.objs.size (cellsFrom (s3.heap.objs.size + 1) scope.names (cloFrom X.env.cells scope.names [])) fp D
  show codeAny _ _ (.compStart cx 0 (.ref it) (.ref D) (compEnvC scope (cellsFrom (s3.heap.objs.size + 1) scope.names (cloFrom X.env.cells scope.names [])) s3.heap.objs.size X.env)) (compPost (model X.prog X.w) X.A X.xe use Qf (.ref D) s3.heap.objs.size) { s3 with heap := pushCells (s3.heap.push { cls := .type "dict", data := .dict #[] }) scope.names }
  have nfp : ∀ b ∈ fp, (upd H2 D (o0 D)) b = none := fun b hb => (f3 b hb).1.1
  generalize hce : compEnvC scope (cellsFrom (s3.heap.objs.size + 1) scope.names (cloFrom X.env.cells scope.names [])) s3.heap.objs.size X.env = ce at I4 pg pt pb ⊢
  have cL : ce.locals = s3.heap.objs.size := by subst hce; rfl
  generalize hH3 : upd H2 D (o0 D) = H3 at I3 I4 pg pt pb lp nfp f3
  generalize hs4 : ({ s3 with heap := pushCells (s3.heap.push { cls := .type "dict", data := .dict #[] }) scope.names } : Shared) = s4 at I4 ⊢
  have st4 : tn 0 s4.heap := T.keep _ _ _ st3 fun b _ o e => by rw [← hs4]; exact pushCells_keeps _ _ _ _ (Heap.get?_push_of_some _ e)
  have ww : L2.wipe (L2.wipe σ (own.map (·.2))) (own.map (·.2)) = L2.wipe σ (own.map (·.2)) := wipe_wipe fun _ z => z
  have loop : codeAny (model X.prog X.w) X.A (.compLoop cx 0 (.ref it) (.ref D) ce) (compPost (model X.prog X.w) X.A X.xe use Qf (.ref D) s3.heap.objs.size) s4 := by
    refine loop_ok (X := X.blk s3 H3 scope ce fp) (σ := L2.wipe σ (own.map (·.2))) (vs := own.map (·.2)) (Nx := fun H' => Q (.ref D) H') rfl hc hcx (hte _ _ _) T pg pt pb hus ?_ I4 st4 nfp ?_ ?_
    · intro σ' H' s' I' hn b hb
      exact ⟨hn b hb, (I'.ok.exf b hb).1, I'.ok.exfs b hb, .inl hb, fun x c e => (I'.ok.exf b hb).2 x c e, fun p hp => absurd (show p ∈ ([] : List (Addr × Obj)) ++ [] from hp) (by simp)⟩
    · unfold kLoopJ at lp ⊢
      rw [ww]
      exact lp
    · intro s6 H5 I6 _ qq
      rw [ww] at I6
      have I7 : Inv X pins σ H5 s6 := I3.call' (ch := fp) I6.os I6.base I6.hok I6.bare fun b hb => ⟨(f3 b hb).1.2.2.2.1, (f3 b hb).1.2.1, (f3 b hb).1.2.2.2.2.1, (f3 b hb).1.2.2.2.2.2⟩
      have nC : H5 s3.heap.objs.size = none := by
        have z : H5 ce.locals = none := I6.free
        rw [cL] at z
        exact z
      obtain ⟨m, hn, _⟩ := I6.loc
      have hn : s6.heap.Ns ce.locals m := hn
      rw [cL] at hn
      exact hRR D s3.heap.objs.size s6 m H5 I7 qq hn (I3.fpOk (Nat.le_refl _) nC)
  exact startG hcx (by rw [hcl]; rfl) rfl loop (T.self X.A 0 _ _ _ st4 loop)
end

/-! ### over data -/
/-- the heap without the object at p -/
def dl (H : Hp) (p : Addr) : Hp := fun b => if b = p then none else H b
theorem dl_ne {H : Hp} {p b : Addr} (h : b ≠ p) : dl H p b = H b := if_neg h
theorem dl_self {H : Hp} {p : Addr} : dl H p p = none := if_pos rfl
theorem dl_some {H : Hp} {p b : Addr} {o : HO} (h : dl H p b = some o) : b ≠ p ∧ H b = some o := by
  by_cases e : b = p
  · rw [e, dl_self] at h; cases h
  · rw [dl_ne e] at h
    exact ⟨e, h⟩
theorem dl_same {H : Hp} {p : Addr} : Same (dl H p) H := fun _ _ h => (dl_some h).2
theorem dl_mono {H H' : Hp} {p : Addr} (s : Same H H') : Same (dl H p) (dl H' p) := fun b o h => by
  obtain ⟨h1, h2⟩ := dl_some h
  rw [dl_ne h1]
  exact s b o h2
theorem dl_upd {H : Hp} {p : Addr} {o : HO} : dl (upd H p o) p = dl H p := by
  funext b
  unfold dl upd
  split <;> rfl
theorem dl_new {H : Hp} {p : Addr} (h : H p = none) : dl H p = H := by
  funext b
  unfold dl
  split
  · rename_i e; rw [e, h]
  · rfl
theorem sub_dl {F H : Hp} {p : Addr} (s : Same F H) (n : F p = none) : Same F (dl H p) := fun b o h => by
  have hb : b ≠ p := ne_of_none h n
  rw [dl_ne hb]
  exact s b o h
/-- growth beside the object at p -/
theorem Gr.bes {F H F' H' : Hp} (g : Gr F H F' H') {p : Addr} {o : HO} (n : F p = none) (h : H p = some o) : Gr F (dl H p) F' (dl H' p) := by
  have n' : F' p = none := g.free h n
  refine ⟨dl_mono g.same, g.frz, sub_dl g.sub n', fun a u e => ?_⟩
  rcases g.fresh a u e with q | q
  · exact .inl q
  · refine .inr ?_
    have ha : a ≠ p := fun z => by rw [z, h] at q; cases q
    rw [dl_ne ha]
    exact q
theorem Gr.unb {F H : Hp} {p : Addr} (s : Same F (dl H p)) : Gr F (dl H p) F H := ⟨dl_same, Same.refl _, s.trans dl_same, fun _ _ z => .inl z⟩
theorem Gr.noF {F H : Hp} {p : Addr} (s : Same F (dl H p)) : F p = none := by
  cases q : F p with
  | none => rfl
  | some o =>
    have z := s p o q
    rw [dl_self] at z
    cases z
/-- the object at p is frozen at last -/
theorem Gr.froze {F H F' H' : Hp} {p : Addr} {o : HO} (g : Gr F H F' (dl H' p)) (h : H' p = some o) (n : H p = none) : Gr F H (upd F' p o) H' := by
  have n' : F' p = none := Gr.noF g.sub
  refine ⟨g.same.trans dl_same, g.frz.trans (same_new n'), fun b u e => ?_, fun b u e => ?_⟩
  · by_cases hb : b = p
    · subst hb
      rw [upd_same] at e
      rw [h]; exact e
    · rw [upd_ne hb] at e
      exact dl_same _ _ (g.sub b u e)
  · by_cases hb : b = p
    · subst hb
      exact .inr n
    · rw [upd_ne hb] at e
      exact g.fresh b u e

section
variable (T : Tab) (p : Addr)
/-- what an inside appends -/
def KR (K : TK) (k : Rho → Option (List D)) : Prop := ∀ B ρ ys F H σ acc (Nx : Hp → Prop), k ρ = some ys → Same F (dl H p) → EnvR T B F (dl H p) ρ σ → H p = some (.lst acc) → acc.length + ys.length ≤ sizeLine →
  (∀ H' F' acc', Gr F (dl H p) F' (dl H' p) → H' p = some (.lst (acc ++ acc')) → Reps T F' ys acc' → Nx H') → K σ H Nx
end
def kOne (de : DE) : DA := fun ρ => match de ρ with
  | some y => some [y]
  | none => none
def lcM (g : DG) (tt : DTt) (k : DA) (ρ0 : Rho) : List D → Option (List D)
  | [] => some []
  | d :: r => match g d ρ0 with
    | some ρ1 => (match tt ρ1 with
      | some true => (match k ρ1 with
        | some ys => (match lcM g tt k ρ0 r with
          | some zs => some (ys ++ zs)
          | none => none)
        | none => none)
      | some false => lcM g tt k ρ0 r
      | none => none)
    | none => none
def kIn (di : DA) (vs : List Nat) (g : DG) (tt : DTt) (k : DA) : DA := fun ρ => match di ρ with
  | some ds => lcM g tt k (wipeR ρ vs) ds
  | none => none
def dLc (k : DA) : DE := fun ρ => match k ρ with
  | some ys => mkLst ys
  | none => none
section
variable {T : Tab} {p : Addr}
theorem kr_elt {de : DE} : KR T p (kElt p (rdE T de)) (kOne de) := by
  intro B ρ ys F H σ acc Nx e s er hp hl h
  unfold kOne at e
  split at e
  · rename_i y h1
    cases e
    have nF : F p = none := Gr.noF s
    refine ⟨B, ρ, y, F, h1, s.trans dl_same, er.grow (Gr.unb s), fun v H1 F1 g1 r1 => ?_⟩
    have hp1 : H1 p = some (.lst acc) := g1.same _ _ hp
    have n1 : F1 p = none := g1.free hp nF
    refine ⟨acc, hp1, by have : acc.length + 1 ≤ sizeLine := hl; omega, h _ F1 [v] ?_ upd_same (.cons r1 .nil)⟩
    rw [dl_upd]
    exact g1.bes nF hp
  · cases e
theorem kr_loopJ {J : It} {g : DG} {ws : List Nat} {tt : DTt} {K : TK} {k : DA} {vs : List Nat} (hk : KR T p K k) (hw : ∀ i ∈ ws, i ∈ vs) {B : Hp} {ρ : Rho} {ds ys : List D} {F H : Hp} {σ : L2.St} {acc : List V} {Nx : Hp → Prop}
    (wk : Walks T F J ds) (e : lcM g tt k (wipeR ρ vs) ds = some ys) (s : Same F (dl H p)) (er : EnvR T B F (dl H p) ρ σ) (hp : H p = some (.lst acc)) (hl : acc.length + ys.length ≤ sizeLine)
    (h : ∀ H' F' acc', Gr F (dl H p) F' (dl H' p) → H' p = some (.lst (acc ++ acc')) → Reps T F' ys acc' → Nx H') : kLoopJ J (rdG T g ws) (rdT T tt) vs K σ H Nx := by
  refine ⟨fun i m H' => m = ds.length - i ∧ i ≤ ds.length ∧ ∃ F' done rest acc', Gr F (dl H p) F' (dl H' p) ∧ H' p = some (.lst (acc ++ acc')) ∧ Reps T F' done acc' ∧ lcM g tt k (wipeR ρ vs) (ds.drop i) = some rest ∧ done ++ rest = ys,
    ⟨ds.length, rfl, Nat.zero_le _, F, [], ys, [], ⟨Same.refl _, Same.refl _, s, fun _ _ z => .inl z⟩, by rw [List.append_nil]; exact hp, .nil, e, rfl⟩, ?_⟩
  rintro i m H' ⟨rfl, hi, F', done, rest, acc', gr, hp', rd, e', ey⟩
  have nF' : F' p = none := Gr.noF gr.sub
  have sub' : Same F' H' := gr.sub.trans dl_same
  by_cases hlt : i < ds.length
  · have hd : ds.drop i = ds[i] :: ds.drop (i + 1) := List.drop_eq_getElem_cons hlt
    rw [hd] at e'
    obtain ⟨go, yl⟩ := (wk.mono gr.frz).1 H' i ds[i] sub' (List.getElem?_eq_getElem hlt)
    refine .inr ⟨go, fun H2 => ∃ F2 done rest acc', Gr F (dl H p) F2 (dl H2 p) ∧ H2 p = some (.lst (acc ++ acc')) ∧ Reps T F2 done acc' ∧ lcM g tt k (wipeR ρ vs) (ds.drop (i + 1)) = some rest ∧ done ++ rest = ys, fun H2 hN => ⟨ds.length - (i + 1), by omega, rfl, hlt, hN⟩, fun x H2 y => ?_⟩
    obtain ⟨rfl, rx⟩ := yl x H2 y
    have er' : EnvR T B F' (dl H2 p) (wipeR ρ vs) (L2.wipe σ vs) := (er.grow gr).wipe vs
    unfold lcM at e'
    split at e'
    · rename_i ρ1 hg1
      refine ⟨B, wipeR ρ vs, ds[i], ρ1, F', dl H2 p, hg1, gr.sub, dl_same, er', rx, fun σ1 er1 hw1 => ⟨by rw [hw1 vs hw]; exact wipe_wipe fun _ z => z, ?_⟩⟩
      split at e'
      · rename_i ht1
        refine ⟨B, ρ1, true, F', ht1, sub', er1.grow (Gr.unb gr.sub), fun H3 F3 g3 => ?_⟩
        have hp3 : H3 p = some (.lst (acc ++ acc')) := g3.same _ _ hp'
        have g3d := g3.bes nF' hp'
        split at e'
        · rename_i zs hk1
          split at e'
          · rename_i us hr1
            cases e'
            have ly : ys.length = done.length + (zs.length + us.length) := by rw [← ey, List.length_append, List.length_append]
            have la := rd.length
            refine iteT (hk B ρ1 zs F3 H3 σ1 (acc ++ acc') _ hk1 g3d.sub (er1.grow g3d) hp3 (by rw [List.length_append]; omega) fun H4 F4 acc4 g4 hp4 r4 => ?_)
            refine ⟨F4, done ++ zs, us, acc' ++ acc4, (gr.trans g3d).trans g4, by rw [hp4, List.append_assoc], ((rd.mono g3.frz).mono g4.frz).append r4, hr1, by rw [List.append_assoc]; exact ey⟩
          · cases e'
        · cases e'
      · rename_i ht1
        refine ⟨B, ρ1, false, F', ht1, sub', er1.grow (Gr.unb gr.sub), fun H3 F3 g3 => iteF ?_⟩
        exact ⟨F3, done, rest, acc', gr.trans (g3.bes nF' hp'), g3.same _ _ hp', rd.mono g3.frz, e', ey⟩
      · cases e'
    · cases e'
  · have ei : i = ds.length := by omega
    subst ei
    rw [List.drop_length] at e'
    cases e'
    rw [List.append_nil] at ey
    subst ey
    exact .inl ⟨(wk.mono gr.frz).2 H' sub', h H' F' acc' gr hp' rd⟩
end
end PD
end
section
set_option Elab.async false
set_option linter.all false
set_option maxRecDepth 100000
/-! PD6: list comprehensions as rules over data; a def's promise from its body. -/
namespace PD
open PySem PySem.Spec PyProof.Rows L2

section
variable {T : Tab} {p : Addr}
theorem kr_loop {di : DA} {g : DG} {ws : List Nat} {tt : DTt} {K : TK} {k : DA} {vs : List Nat} (hk : KR T p K k) (hw : ∀ i ∈ ws, i ∈ vs) : KR T p (kLoop (rdI T di) (rdG T g ws) (rdT T tt) vs K) (kIn di vs g tt k) := by
  intro B ρ ys F H σ acc Nx e s er hp hl h
  unfold kIn at e
  split at e
  · rename_i ds h1
    have nF : F p = none := Gr.noF s
    refine ⟨B, ρ, ds, F, h1, s.trans dl_same, er.grow (Gr.unb s), fun J H1 F1 g1 wk => ?_⟩
    have hp1 : H1 p = some (.lst acc) := g1.same _ _ hp
    have gd := g1.bes nF hp
    exact kr_loopJ hk hw wk e gd.sub (er.grow gd) hp1 hl fun H' F' acc' g' hp' r' => h H' F' acc' (gd.trans g') hp' r'
  · cases e
/-- a comprehension's tests -/
def TsD (T : Tab) (X : Cx) (ifs : List Expr) (dt : DTt) : Prop := T.K = X.K → PTs X ifs (rdT T dt)
def tYesD : DTt := fun _ => some true
theorem tsd_nil {X : Cx} : TsD T X [] tYesD := fun _ => ⟨fun pins s σ H Q I h => pts_nil.run pins s σ H Q I (by
  obtain ⟨B, ρ, b, F, e, s, er, q⟩ := h
  cases e
  exact q H F (Gr.refl s))⟩
theorem tsd_one {X : Cx} {c : Expr} {dt : DTt} (h : TD T X c dt) : TsD T X [c] dt := fun hT => pts_one (h hT)
theorem lc_read {X : Cx} {di : DA} {g : DG} {ws : List Nat} {tt : DTt} {K : Addr → TK} {k : DA} {vs : List Nat} {σ : L2.St} {H : Hp} {Q : VK} (hk : ∀ p, KR T p (K p) k) (hw : ∀ i ∈ ws, i ∈ vs) (h : rdE T (dLc (kIn di vs g tt k)) σ H Q) :
    tLcG (rdI T di) (rdG T g ws) (rdT T tt) vs K σ H Q := by
  obtain ⟨B, ρ, d, F, e, s, er, q⟩ := h
  unfold dLc kIn at e
  cases hd : di ρ with
  | none => rw [hd] at e; cases e
  | some ds =>
    rw [hd] at e
    simp only at e
    cases hl : lcM g tt k (wipeR ρ vs) ds with
    | none => rw [hl] at e; cases e
    | some ys =>
      rw [hl] at e
      simp only at e
      obtain ⟨hz, rfl⟩ := mkLst_some e
      refine ⟨B, ρ, ds, F, hd, s, er, fun J H1 F1 g1 wk p hp => ?_⟩
      have e1 : dl (upd H1 p (.lst [])) p = H1 := by rw [dl_upd, dl_new hp]
      have nF : F1 p = none := g1.sub.free hp
      refine kr_loopJ (hk p) hw wk hl (by rw [e1]; exact g1.sub) (by rw [e1]; exact er.grow g1) upd_same (by simpa using hz) fun H' F' acc' g' hp' r' => ?_
      rw [e1] at g'
      have gf := g'.froze hp' hp
      refine q _ _ _ (g1.trans gf) (.lst (SqL.of upd_same) ?_)
      exact r'.mono (same_new (Gr.noF g'.sub))
end
section
variable {T : Tab} {X : Cx} {elt tg iter tg1 iter1 tg2 iter2 : Expr} {ifs ifs1 ifs2 : List Expr} {scope : Scope} {own : List (Str × Nat)} {pos : Pos} {di di1 di2 : DA} {g g1 g2 : DG} {ws ws1 ws2 : List Nat} {tt tt1 tt2 : DTt} {de : DE} {vs1 vs2 : List Nat}
theorem pe_lcG {rest : List Comprehension} {us : List Nat} {wi : TI} {gt : TG} {t : TT} {K : Addr → TK} {step : Env → Addr → Sem Fin → Sem Fin}
    (hc : X.calm = true) (hN : X.N.Nodup) (hi : PI X tg iter wi) (ok : BlkOk X.N X.env.scope scope own)
    (hg : ∀ (s : Shared) (H : Hp) (C : Addr) (cl : List (Str × Addr)) (fp : List Addr), PG (X.blk s H scope (compEnvC scope cl C X.env) fp) tg gt) (ht : ∀ (s : Shared) (H : Hp) (C : Addr) (cl : List (Str × Addr)) (fp : List Addr), PTs (X.blk s H scope (compEnvC scope cl C X.env) fp) ifs t)
    (hb : ∀ (s : Shared) (H : Hp) (C : Addr) (cl : List (Str × Addr)) (fp : List Addr) (p : Addr), BodyOk (X.blk s H scope (compEnvC scope cl C X.env) fp) (step (compEnvC scope cl C X.env) p) us (K p)) (hus : ∀ i ∈ us, i ∈ own.map (·.2))
    (hte : ∀ it p env, TurnEq (.ListComp elt (⟨tg, iter, ifs, 0⟩ :: rest) scope pos) 0 tg iter ifs it (.ref p) env (step env p)) (hs : ∀ x, foldedSetIterable iter X.env x = pure x) :
    PE X (.ListComp elt (⟨tg, iter, ifs, 0⟩ :: rest) scope pos) (tLcG wi gt t (own.map (·.2)) K) := by
  refine ⟨fun pins s σ H Q I h => ?_⟩
  rw [eval_ListComp]
  refine lcG_core beg_list codeE_list rfl hc hN I hi ok hg ht hb hus hte hs h fun D C s' m H' I' q hn f => ⟨m, hn, fun h'' sb => ?_⟩
  obtain ⟨f0, f1, f2, f3, f4, f5⟩ := f
  exact ⟨.ref D, H', I'.turned (t' := s'.toks) (fun b o hb e => (sb.2 b hb).trans e) f0 f1 f3 f4 f5, rfl, q⟩
theorem ps_setLcG {i : Nat} {y : Str} {py : Pos} {spos : Pos} {rest : List Comprehension} {us : List Nat} {wi : TI} {gt : TG} {t : TT} {K : Addr → TK} {step : Env → Addr → Sem Fin → Sem Fin}
    (hc : X.calm = true) (hN : X.N.Nodup) (hy : X.N[i]? = some y) (hyl : X.env.scope.names.lookup y = some .local)
    (hsw : swapsWith (.ListComp elt (⟨tg, iter, ifs, 0⟩ :: rest) scope pos) (some (.Name y py)) spos.line X.env = pure true) (hi : PI X tg iter wi) (ok : BlkOk X.N X.env.scope scope own)
    (hg : ∀ (s : Shared) (H : Hp) (C : Addr) (cl : List (Str × Addr)) (fp : List Addr), PG (X.blk s H scope (compEnvC scope cl C X.env) fp) tg gt) (ht : ∀ (s : Shared) (H : Hp) (C : Addr) (cl : List (Str × Addr)) (fp : List Addr), PTs (X.blk s H scope (compEnvC scope cl C X.env) fp) ifs t)
    (hb : ∀ (s : Shared) (H : Hp) (C : Addr) (cl : List (Str × Addr)) (fp : List Addr) (p : Addr), BodyOk (X.blk s H scope (compEnvC scope cl C X.env) fp) (step (compEnvC scope cl C X.env) p) us (K p)) (hus : ∀ i ∈ us, i ∈ own.map (·.2))
    (hte : ∀ it p env, TurnEq (.ListComp elt (⟨tg, iter, ifs, 0⟩ :: rest) scope pos) 0 tg iter ifs it (.ref p) env (step env p)) (hs : ∀ x, foldedSetIterable iter X.env x = pure x) :
    PS X (.Assign [.Name y py] (.ListComp elt (⟨tg, iter, ifs, 0⟩ :: rest) scope pos) spos) (tAsg (tLcG wi gt t (own.map (·.2)) K) (gName i)) := by
  refine ⟨fun pins s σ H D I h => ?_⟩
  rw [exec_Assign_Name_used _ _ _ _ hsw]
  refine wpAny_bind (wpAny_standAt (wpAny_bind ?_))
  show wpAny _ X.A (do let _ ← comprehension (.ListComp elt (⟨tg, iter, ifs, 0⟩ :: rest) scope pos) scope X.env (firstIterPos (⟨tg, iter, ifs, 0⟩ :: rest) pos) (newList []) false (eval iter X.env) (some (assign (.Name y py) X.env))) _ _ s
  have h : tLcG wi gt t (own.map (·.2)) K σ H (fun x H1 => gName i x σ H1 D.nx) := h
  refine wpAny_bind (thn (lcG_core (Qf := fun _ s' => SP X pins D .next s') beg_list codeE_list rfl hc hN I hi ok hg ht hb hus hte hs h fun L C s' m H' I' q hn f => ?_) fun _ s' hq => wpAny_pure (wpAny_pure hq))
  show wpAny _ _ (assign (.Name y py) X.env (.ref L)) _ _ _
  refine wpAny_assign_Name (store_ok2 (v := V.ref L) I' hN hy (.inl hyl) rfl (fun s2 I2 ⟨a, sb, ha⟩ => ?_) (.inr hyl))
  obtain ⟨f0, f1, f2, f3, f4, f5⟩ := f
  have haC : C ≠ a := by
    rcases ha with z | z
    · rw [z]; exact f1
    · exact fun e => f4 y a z e.symm
  refine ⟨m, hn.sameBut sb haC, fun h3 sb3 => ?_⟩
  exact ⟨_, H', I2.turned (t' := s2.toks) (fun b o hb e => (sb3.2 b hb).trans e) f0 f1 f3 f4 f5, q⟩
abbrev step1 (elt : Expr) : Env → Addr → Sem Fin → Sem Fin := fun env p c => (do let _ ← call (.builtin "list.append") [.ref p, ← eval elt env]) >>= fun _ => c
abbrev stepIn (e iter : Expr) (k : Nat) : Env → Addr → Sem Fin → Sem Fin := fun env p c => do
  let x ← eval iter env
  standAt iter.pos
  let x ← foldedSetIterable iter env x
  let _ ← runOwn (.compStart e k (← holding [x] (pyIter x)) (.ref p) env) env
  c
/-- the block's context -/
abbrev Blk (X : Cx) (scope : Scope) (P : Cx → Prop) : Prop := ∀ (s : Shared) (H : Hp) (C : Addr) (cl : List (Str × Addr)) (fp : List Addr), P (X.blk s H scope (compEnvC scope cl C X.env) fp)
theorem ed_lc (hc : X.calm = true) (hN : X.N.Nodup) (hi : ID T X tg iter di) (ok : BlkOk X.N X.env.scope scope own) (hg : Blk X scope fun Y => GD T Y tg g ws) (ht : Blk X scope fun Y => TsD T Y ifs tt) (he : Blk X scope fun Y => ED T Y elt de)
    (hw : ∀ i ∈ ws, i ∈ own.map (·.2) := by decide) (hs : ∀ x, foldedSetIterable iter X.env x = pure x := by exact fun _ => rfl) :
    ED T X (.ListComp elt [⟨tg, iter, ifs, 0⟩] scope pos) (dLc (kIn di (own.map (·.2)) g tt (kOne de))) := fun hT =>
  peImp (pe_lcG (step := step1 elt) (us := []) (K := fun p => kElt p (rdE T de)) hc hN (hi hT) ok (fun s H C cl fp => hg s H C cl fp hT) (fun s H C cl fp => ht s H C cl fp hT) (fun s H C cl fp p => body_elt rfl (he s H C cl fp hT)) (fun i z => nomatch z) (fun it p env => rfl) hs)
    fun σ H Q h => lc_read (X := X) (fun p => kr_elt) hw h
theorem sd_setLc (i : Nat) {y : Str} {py spos : Pos} (hc : X.calm = true) (hN : X.N.Nodup) (hi : ID T X tg iter di) (ok : BlkOk X.N X.env.scope scope own) (hg : Blk X scope fun Y => GD T Y tg g ws) (ht : Blk X scope fun Y => TsD T Y ifs tt) (he : Blk X scope fun Y => ED T Y elt de)
    (hsw : swapsWith (.ListComp elt [⟨tg, iter, ifs, 0⟩] scope pos) (some (.Name y py)) spos.line X.env = pure true) (hy : X.N[i]? = some y := by rfl) (hyl : X.env.scope.names.lookup y = some .local := by rfl)
    (hw : ∀ i ∈ ws, i ∈ own.map (·.2) := by decide) (hs : ∀ x, foldedSetIterable iter X.env x = pure x := by exact fun _ => rfl) :
    SD T X (.Assign [.Name y py] (.ListComp elt [⟨tg, iter, ifs, 0⟩] scope pos) spos) (sSet i (dLc (kIn di (own.map (·.2)) g tt (kOne de)))) := fun hT =>
  psImp (ps_setLcG (i := i) (step := step1 elt) (us := []) (K := fun p => kElt p (rdE T de)) hc hN hy hyl hsw (hi hT) ok (fun s H C cl fp => hg s H C cl fp hT) (fun s H C cl fp => ht s H C cl fp hT) (fun s H C cl fp p => body_elt rfl (he s H C cl fp hT)) (fun i z => nomatch z) (fun it p env => rfl) hs)
    fun Dn σ H h => by
      obtain ⟨B, F0, ρ, o, F, e, gr, er, q⟩ := h
      unfold sSet at e
      split at e
      · rename_i d h1
        cases e
        exact lc_read (X := X) (fun p => kr_elt) hw ⟨B, ρ, d, F, h1, gr.sub, er, fun v H1 F1 g1 r1 => q _ H1 F1 (gr.trans g1) ((er.grow g1).set r1)⟩
      · cases e
theorem ed_lc2 (hc : X.calm = true) (hN : X.N.Nodup) (hi : ID T X tg iter di) (ok : BlkOk X.N X.env.scope scope own) (hg : Blk X scope fun Y => GD T Y tg g ws) (ht : Blk X scope fun Y => TsD T Y ifs tt)
    (hi1 : Blk X scope fun Y => ID T Y tg1 iter1 di1) (hg1 : Blk X scope fun Y => GD T Y tg1 g1 ws1) (ht1 : Blk X scope fun Y => TsD T Y ifs1 tt1) (he : Blk X scope fun Y => ED T Y elt de) (vs1 : List Nat)
    (hw : ∀ i ∈ ws, i ∈ own.map (·.2) := by decide) (hw1 : ∀ i ∈ ws1, i ∈ vs1 := by decide) (hv1 : ∀ i ∈ vs1, i ∈ own.map (·.2) := by decide) (hs : ∀ x, foldedSetIterable iter X.env x = pure x := by exact fun _ => rfl) (hs1 : ∀ env x, foldedSetIterable iter1 env x = pure x := by exact fun _ _ => rfl) :
    ED T X (.ListComp elt [⟨tg, iter, ifs, 0⟩, ⟨tg1, iter1, ifs1, 0⟩] scope pos) (dLc (kIn di (own.map (·.2)) g tt (kIn di1 vs1 g1 tt1 (kOne de)))) := fun hT =>
  peImp (pe_lcG (step := stepIn (.ListComp elt [⟨tg, iter, ifs, 0⟩, ⟨tg1, iter1, ifs1, 0⟩] scope pos) iter1 1) (us := vs1) (K := fun p => kLoop (rdI T di1) (rdG T g1 ws1) (rdT T tt1) vs1 (kElt p (rdE T de))) hc hN (hi hT) ok (fun s H C cl fp => hg s H C cl fp hT) (fun s H C cl fp => ht s H C cl fp hT)
      (fun s H C cl fp p => body_loop rfl hc codeE_list rfl (fun it => rfl) (hi1 s H C cl fp hT) (hg1 s H C cl fp hT) (ht1 s H C cl fp hT) (body_elt (elt := elt) rfl (he s H C cl fp hT)) (fun i z => nomatch z) (hs1 _)) hv1 (fun it p env => rfl) hs)
    fun σ H Q h => lc_read (X := X) (fun p => kr_loop kr_elt hw1) hw h
theorem sd_setLc2 (i : Nat) {y : Str} {py spos : Pos} (hc : X.calm = true) (hN : X.N.Nodup) (hi : ID T X tg iter di) (ok : BlkOk X.N X.env.scope scope own) (hg : Blk X scope fun Y => GD T Y tg g ws) (ht : Blk X scope fun Y => TsD T Y ifs tt)
    (hi1 : Blk X scope fun Y => ID T Y tg1 iter1 di1) (hg1 : Blk X scope fun Y => GD T Y tg1 g1 ws1) (ht1 : Blk X scope fun Y => TsD T Y ifs1 tt1) (he : Blk X scope fun Y => ED T Y elt de) (vs1 : List Nat)
    (hsw : swapsWith (.ListComp elt [⟨tg, iter, ifs, 0⟩, ⟨tg1, iter1, ifs1, 0⟩] scope pos) (some (.Name y py)) spos.line X.env = pure true) (hy : X.N[i]? = some y := by rfl) (hyl : X.env.scope.names.lookup y = some .local := by rfl)
    (hw : ∀ i ∈ ws, i ∈ own.map (·.2) := by decide) (hw1 : ∀ i ∈ ws1, i ∈ vs1 := by decide) (hv1 : ∀ i ∈ vs1, i ∈ own.map (·.2) := by decide) (hs : ∀ x, foldedSetIterable iter X.env x = pure x := by exact fun _ => rfl) (hs1 : ∀ env x, foldedSetIterable iter1 env x = pure x := by exact fun _ _ => rfl) :
    SD T X (.Assign [.Name y py] (.ListComp elt [⟨tg, iter, ifs, 0⟩, ⟨tg1, iter1, ifs1, 0⟩] scope pos) spos) (sSet i (dLc (kIn di (own.map (·.2)) g tt (kIn di1 vs1 g1 tt1 (kOne de))))) := fun hT =>
  psImp (ps_setLcG (i := i) (step := stepIn (.ListComp elt [⟨tg, iter, ifs, 0⟩, ⟨tg1, iter1, ifs1, 0⟩] scope pos) iter1 1) (us := vs1) (K := fun p => kLoop (rdI T di1) (rdG T g1 ws1) (rdT T tt1) vs1 (kElt p (rdE T de))) hc hN hy hyl hsw (hi hT) ok (fun s H C cl fp => hg s H C cl fp hT) (fun s H C cl fp => ht s H C cl fp hT)
      (fun s H C cl fp p => body_loop rfl hc codeE_list rfl (fun it => rfl) (hi1 s H C cl fp hT) (hg1 s H C cl fp hT) (ht1 s H C cl fp hT) (body_elt (elt := elt) rfl (he s H C cl fp hT)) (fun i z => nomatch z) (hs1 _)) hv1 (fun it p env => rfl) hs)
    fun Dn σ H h => by
      obtain ⟨B, F0, ρ, o, F, e, gr, er, q⟩ := h
      unfold sSet at e
      split at e
      · rename_i d h1
        cases e
        exact lc_read (X := X) (fun p => kr_loop kr_elt hw1) hw ⟨B, ρ, d, F, h1, gr.sub, er, fun v H1 F1 g1 r1 => q _ H1 F1 (gr.trans g1) ((er.grow g1).set r1)⟩
      · cases e
theorem ed_lc3 (hc : X.calm = true) (hN : X.N.Nodup) (hi : ID T X tg iter di) (ok : BlkOk X.N X.env.scope scope own) (hg : Blk X scope fun Y => GD T Y tg g ws) (ht : Blk X scope fun Y => TsD T Y ifs tt)
    (hi1 : Blk X scope fun Y => ID T Y tg1 iter1 di1) (hg1 : Blk X scope fun Y => GD T Y tg1 g1 ws1) (ht1 : Blk X scope fun Y => TsD T Y ifs1 tt1)
    (hi2 : Blk X scope fun Y => ID T Y tg2 iter2 di2) (hg2 : Blk X scope fun Y => GD T Y tg2 g2 ws2) (ht2 : Blk X scope fun Y => TsD T Y ifs2 tt2) (he : Blk X scope fun Y => ED T Y elt de) (vs1 vs2 : List Nat)
    (hw : ∀ i ∈ ws, i ∈ own.map (·.2) := by decide) (hw1 : ∀ i ∈ ws1, i ∈ vs1 := by decide) (hw2 : ∀ i ∈ ws2, i ∈ vs2 := by decide) (hv1 : ∀ i ∈ vs1, i ∈ own.map (·.2) := by decide) (hv2 : ∀ i ∈ vs2, i ∈ vs1 := by decide)
    (hs : ∀ x, foldedSetIterable iter X.env x = pure x := by exact fun _ => rfl) (hs1 : ∀ env x, foldedSetIterable iter1 env x = pure x := by exact fun _ _ => rfl) (hs2 : ∀ env x, foldedSetIterable iter2 env x = pure x := by exact fun _ _ => rfl) :
    ED T X (.ListComp elt [⟨tg, iter, ifs, 0⟩, ⟨tg1, iter1, ifs1, 0⟩, ⟨tg2, iter2, ifs2, 0⟩] scope pos) (dLc (kIn di (own.map (·.2)) g tt (kIn di1 vs1 g1 tt1 (kIn di2 vs2 g2 tt2 (kOne de))))) := fun hT =>
  peImp (pe_lcG (step := stepIn (.ListComp elt [⟨tg, iter, ifs, 0⟩, ⟨tg1, iter1, ifs1, 0⟩, ⟨tg2, iter2, ifs2, 0⟩] scope pos) iter1 1) (us := vs1) (K := fun p => kLoop (rdI T di1) (rdG T g1 ws1) (rdT T tt1) vs1 (kLoop (rdI T di2) (rdG T g2 ws2) (rdT T tt2) vs2 (kElt p (rdE T de)))) hc hN (hi hT) ok
      (fun s H C cl fp => hg s H C cl fp hT) (fun s H C cl fp => ht s H C cl fp hT)
      (fun s H C cl fp p => body_loop (step := stepIn (.ListComp elt [⟨tg, iter, ifs, 0⟩, ⟨tg1, iter1, ifs1, 0⟩, ⟨tg2, iter2, ifs2, 0⟩] scope pos) iter2 2 (compEnvC scope cl C X.env) p) rfl hc codeE_list rfl (fun it => rfl) (hi1 s H C cl fp hT) (hg1 s H C cl fp hT) (ht1 s H C cl fp hT)
        (body_loop rfl hc codeE_list rfl (fun it => rfl) (hi2 s H C cl fp hT) (hg2 s H C cl fp hT) (ht2 s H C cl fp hT) (body_elt (elt := elt) rfl (he s H C cl fp hT)) (fun i z => nomatch z) (hs2 _)) hv2 (hs1 _)) hv1 (fun it p env => rfl) hs)
    fun σ H Q h => lc_read (X := X) (fun p => kr_loop (kr_loop kr_elt hw2) hw1) hw h
end

/-! ### a def -/
def startR (n : Nat) (ds : List D) : Rho := ds.map Sl.sh ++ List.replicate (n - ds.length) Sl.no
/-- what a def hands back: n names, its body -/
def runD (n : Nat) (body : DS) : List D → Option D := fun ds => match body (startR n ds) with
  | some (.rt d) => some d
  | some (.nx _) => some .non
  | none => none
theorem env_start {T : Tab} {F H : Hp} {ds : List D} {vs : List V} (N : List Str) (r : Reps T F ds vs) : EnvR T H F H (startR N.length ds) (L2.start N vs) := by
  refine ⟨?_, fun _ => [], fun _ _ _ z => (nomatch z), fun _ _ z => (nomatch z), fun _ _ => rfl, fun i s e => ?_⟩
  · unfold L2.start startR
    rw [List.length_append, List.length_append, List.length_map, List.length_map, List.length_replicate, List.length_replicate, r.length]
  · unfold startR at e
    unfold L2.start
    by_cases hi : i < ds.length
    · rw [List.getElem?_append_left (by rw [List.length_map]; exact hi), List.getElem?_map] at e
      cases hd : ds[i]? with
      | none => rw [hd] at e; cases e
      | some d =>
        rw [hd] at e
        have e' := Option.some.inj e
        subst e'
        obtain ⟨v, ev, rv⟩ := r.get hd
        refine ⟨rfl, v, ?_, rv⟩
        rw [List.getElem?_append_left (by rw [List.length_map, ← r.length]; exact hi), List.getElem?_map, ev]
        rfl
    · have hge : ds.length ≤ i := Nat.le_of_not_lt hi
      rw [List.getElem?_append_right (by rw [List.length_map]; exact hge), List.getElem?_replicate] at e
      split at e
      · have e' := Option.some.inj e
        subst e'
        rfl
      · cases e
section
variable {P : Program} {w : World} {T : Tab} {mg : Str → Option Value} {base : Heap}
theorem def_ok {x qual : Str} {st : Stmt} {f : Addr} {fd : FuncData} {N ps : List Str} {k n : Nat} {ds : DS} (F : Fun T.K x qual st f fd) (S : FnScope N ps (defScope st)) (hn : ps.length = n)
    (hbody : ∀ (cdv : Value) (A : Around) (outer : List Env) (s : Shared) (H : Hp) (E : XK), Room k (A.deeper (envOfC qual (defScope st) s.heap.objs.size f cdv)) →
      SDs T (cxOf CX0 P w T.K mg base N qual (defScope st) f cdv A outer s H E).nox (defBody st) ds) : FnOk P w T.K mg base CX0 (k + 1) f fd ps (spD T n (runD N.length ds)) := by
  refine F.ok S (fun vs H Q E h => ?_) (fun cdv A outer s H vs Q E hr h => ⟨_, hbody cdv A outer s H E hr rfl, ?_⟩)
  · obtain ⟨F, ds, d, hl, _, r, _⟩ := h
    rw [← r.length, hl, hn]
  · obtain ⟨F, dd, d, hl, s1, r, e, q⟩ := h
    unfold runD at e
    split at e
    · rename_i d' h1
      cases e
      exact ⟨H, F, _, _, F, h1, Gr.refl s1, env_start N r, fun v H' F' g' r' => q v H' F' g' r'⟩
    · rename_i ρ' h1
      cases e
      exact ⟨H, F, _, _, F, h1, Gr.refl s1, env_start N r, fun σ' H' F' g' er' => q .non H' F' g' .non⟩
    · cases e
end
end PD
end
section
set_option Elab.async false
set_option linter.all false
set_option maxRecDepth 100000
/-! PD7: operators, comparisons, subscripts, slices, built-ins over data. -/
namespace PD
open PySem PySem.Spec PyProof.Rows L2

section
variable {T : Tab} {X : Cx}
/-! ### int and text operators -/
def fAdd : D → D → Option D
  | .int i, .int j => some (.int (i + j))
  | .str x, .str y => if x.length + y.length ≤ 16777216 then some (.str (x ++ y)) else none
  | .lst xs, .lst ys => mkLst (xs ++ ys)
  | _, _ => none
def rCatQ (K : PySem.W.Frag) : R2 := fun x y H Q => ∃ l b xs zs, x = .ref l ∧ y = .ref b ∧ SqL K H l xs ∧ SqL K H b zs ∧ xs.length + zs.length ≤ sizeLine ∧ ∀ p, H p = none → Q (.ref p) (upd H p (.lst (xs ++ zs)))
theorem op_catQ : OpR X (binaryOp .Add) (rCatQ X.K) := by
  intro pins s σ H x y v u Q I rx ry h
  obtain ⟨l, b, xs, zs, rfl, rfl, hH, hB, hz, q⟩ := h
  cases rx
  cases ry
  obtain ⟨its, r, ⟨⟨oc, od, odt, osl⟩, n, e, hc, hdn, hdt⟩, z⟩ := I.list hH
  obtain ⟨its2, r2, ⟨⟨oc2, od2, odt2, osl2⟩, n2, e2, hc2, hdn2, hdt2⟩, z2⟩ := I.list hB
  simp only at hc hdn hdt hc2 hdn2 hdt2
  subst hc hdn hdt hc2 hdn2 hdt2
  have hl := r.length
  have hl2 := r2.length
  have ea : its.toArray ++ its2.toArray = (its ++ its2).toArray := by simp
  refine concat_meets ⟨_, e, rfl⟩ ⟨_, e2, rfl⟩ noFill_list_add seq_list_add PySem.F.slot_list_add PySem.F.entry_list_add (PySem.F.args_list_add_2 _ _) (list_addW l b its.toArray its2.toArray n n2 none none osl osl2 (by rw [List.size_toArray, List.size_toArray, ← hl, ← hl2]; exact hz)) ⟨e, e2, ?_⟩
  rw [ea]
  exact ⟨.ref _, _, I.lnew (t' := s.toks) (r.append r2) (by rw [List.length_append]; omega), rfl, q _ I.fresh⟩
abbrev rAddA (K : PySem.W.Frag) : R2 := fun x y H Q => rI0 (fun i j => .int (i + j)) x y H Q ∨ (fun x y H Q => (∃ i j, x = .str i ∧ y = .str j ∧ i.length + j.length ≤ sizeLine ∧ Q (.str (i ++ j)) H) ∨ rCatQ K x y H Q) x y H Q
theorem op_addA : OpR X (binaryOp .Add) (rAddA X.K) := op_add.or (op_add_str.or op_catQ)
theorem o_add (hT : T.K = X.K) : Op2 T (rAddA X.K) fAdd := by
  intro F H a b d x y Q e s rx ry q
  cases rx with
  | int i =>
    cases ry with
    | int j => cases e; exact .inl ⟨i, j, rfl, rfl, q _ H F (Gr.refl s) (.int _)⟩
    | _ => cases e
  | str i =>
    cases ry with
    | str j =>
      unfold fAdd at e
      simp only at e
      split at e
      · rename_i hl
        cases e
        exact .inr (.inl ⟨i, j, rfl, rfl, by rw [sizeLine_eq]; exact hl, q _ H F (Gr.refl s) (.str _)⟩)
      · cases e
    | _ => cases e
  | @lst l vs ds h r =>
    cases ry with
    | @lst l2 us es h2 r2 =>
      obtain ⟨hz, rfl⟩ := mkLst_some (show mkLst (ds ++ es) = some d from e)
      rw [hT] at h h2
      refine .inr (.inr ⟨l, l2, vs, us, rfl, rfl, s.seq h, s.seq h2, by rw [← r.length, ← r2.length, ← List.length_append]; exact hz, fun p hp => ?_⟩)
      exact q _ _ _ (Gr.new s hp) (rep_newL s (r.append r2) hp)
    | _ => cases e
  | _ => cases e
theorem ed_add {a b : Expr} {da db : DE} {pos : Pos} (ha : ED T X a da) (hb : ED T X b db) : ED T X (.BinOp a .Add b pos) (d2 fAdd da db) := ed_op op_addA o_add ha hb
def fSub : D → D → Option D
  | .int i, .int j => some (.int (i - j))
  | _, _ => none
theorem o_sub : Op2 T (rI0 fun i j => .int (i - j)) fSub := by
  intro F H a b d x y Q e s rx ry q
  cases rx with
  | int i =>
    cases ry with
    | int j => cases e; exact ⟨i, j, rfl, rfl, q _ H F (Gr.refl s) (.int _)⟩
    | _ => cases e
  | _ => cases e
theorem ed_sub {a b : Expr} {da db : DE} {pos : Pos} (ha : ED T X a da) (hb : ED T X b db) : ED T X (.BinOp a .Sub b pos) (d2 fSub da db) := ed_op op_sub (fun _ => o_sub) ha hb
def natOf : D → Option Nat
  | .int (.ofNat n) => some n
  | _ => none
theorem natOf_rep {F : Hp} {d : D} {n : Nat} {v : V} (e : natOf d = some n) (r : Rep T F d v) : v = .int (Int.ofNat n) := by
  cases r with
  | int i =>
    cases i with
    | ofNat m => cases e; rfl
    | negSucc m => cases e
  | _ => cases e
/-- of two numbers from nought on -/
def fN (g : Nat → Nat → Option Nat) : D → D → Option D := fun a b => match natOf a with
  | some i => (match natOf b with
    | some j => (match g i j with
      | some k => some (.int (.ofNat k))
      | none => none)
    | none => none)
  | none => none
theorem fN_inv {g : Nat → Nat → Option Nat} {F : Hp} {a b d : D} {x y : V} (e : fN g a b = some d) (rx : Rep T F a x) (ry : Rep T F b y) : ∃ i j k, x = .int (Int.ofNat i) ∧ y = .int (Int.ofNat j) ∧ g i j = some k ∧ d = .int (Int.ofNat k) := by
  unfold fN at e
  split at e
  · rename_i i h1
    split at e
    · rename_i j h2
      split at e
      · rename_i k h3
        cases e
        exact ⟨i, j, k, natOf_rep h1 rx, natOf_rep h2 ry, h3, rfl⟩
      · cases e
    · cases e
  · cases e
def nMul (i j : Nat) : Option Nat := if i < 2 ^ 64 then some (i * j) else none
theorem lt_cast {i n : Nat} (h : i < n) : Int.ofNat i < (n : Int) := Int.ofNat_lt.mpr h
theorem o_mul : Op2 T (rI CMul fun i j => .int (i * j)) (fN nMul) := by
  intro F H a b d x y Q e s rx ry q
  obtain ⟨i, j, k, rfl, rfl, hg, rfl⟩ := fN_inv e rx ry
  unfold nMul at hg
  split at hg
  · rename_i hb
    cases hg
    refine ⟨_, _, rfl, rfl, .inl ⟨by have : (0 : Int) ≤ Int.ofNat i := Int.natCast_nonneg i; omega, ?_⟩, q _ H F (Gr.refl s) (.int _)⟩
    have := lt_cast hb
    simpa using this
  · cases hg
theorem ed_mul {a b : Expr} {da db : DE} {pos : Pos} (ha : ED T X a da) (hb : ED T X b db) : ED T X (.BinOp a .Mult b pos) (d2 (fN nMul) da db) := ed_op op_mul (fun _ => o_mul) ha hb
def nDiv (i j : Nat) : Option Nat := if 0 < j ∧ j < 1073741824 then some (i / j) else none
theorem o_div : Op2 T (rI CDiv fun i j => .int (i / j)) (fN nDiv) := by
  intro F H a b d x y Q e s rx ry q
  obtain ⟨i, j, k, rfl, rfl, hg, rfl⟩ := fN_inv e rx ry
  unfold nDiv at hg
  split at hg
  · rename_i hb
    cases hg
    exact ⟨_, _, rfl, rfl, ⟨lt_cast hb.1, lt_cast hb.2⟩, q _ H F (Gr.refl s) (.int _)⟩
  · cases hg
theorem ed_div {a b : Expr} {da db : DE} {pos : Pos} (ha : ED T X a da) (hb : ED T X b db) : ED T X (.BinOp a .FloorDiv b pos) (d2 (fN nDiv) da db) := ed_op op_fdiv (fun _ => o_div) ha hb
def nMod (i j : Nat) : Option Nat := if 0 < j then some (i % j) else none
theorem o_mod : Op2 T (rI (fun _ j => 0 < j) fun i j => .int (i % j)) (fN nMod) := by
  intro F H a b d x y Q e s rx ry q
  obtain ⟨i, j, k, rfl, rfl, hg, rfl⟩ := fN_inv e rx ry
  unfold nMod at hg
  split at hg
  · rename_i hb
    cases hg
    exact ⟨_, _, rfl, rfl, lt_cast hb, q _ H F (Gr.refl s) (.int _)⟩
  · cases hg
theorem ed_mod {a b : Expr} {da db : DE} {pos : Pos} (ha : ED T X a da) (hb : ED T X b db) : ED T X (.BinOp a .Mod b pos) (d2 (fN nMod) da db) := ed_op op_mod (fun _ => o_mod) ha hb
def nShl (i j : Nat) : Option Nat := if i < 2 ^ 64 ∧ j ≤ 1000000 then some (i <<< j) else none
theorem shl_eq (i j : Nat) : (Int.ofNat i) * 2 ^ (Int.ofNat j).toNat = Int.ofNat (i <<< j) := by
  rw [Nat.shiftLeft_eq]
  show (i : Int) * 2 ^ j = ((i * 2 ^ j : Nat) : Int)
  rw [Int.natCast_mul, Int.natCast_pow]
  rfl
theorem o_shl : Op2 T (rI CPow fun i j => .int (i * 2 ^ j.toNat)) (fN nShl) := by
  intro F H a b d x y Q e s rx ry q
  obtain ⟨i, j, k, rfl, rfl, hg, rfl⟩ := fN_inv e rx ry
  unfold nShl at hg
  split at hg
  · rename_i hb
    cases hg
    refine ⟨_, _, rfl, rfl, ⟨Int.natCast_nonneg j, Int.ofNat_le.mpr hb.2, hb.1⟩, ?_⟩
    dsimp only
    rw [shl_eq]
    exact q _ H F (Gr.refl s) (.int _)
  · cases hg
theorem ed_shl {a b : Expr} {da db : DE} {pos : Pos} (ha : ED T X a da) (hb : ED T X b db) : ED T X (.BinOp a .LShift b pos) (d2 (fN nShl) da db) := ed_op op_shl (fun _ => o_shl) ha hb
def nShr (i j : Nat) : Option Nat := some (i >>> j)
theorem shr_eq (i j : Nat) : (Int.ofNat i) / 2 ^ (Int.ofNat j).toNat = Int.ofNat (i >>> j) := by
  rw [Nat.shiftRight_eq_div_pow]
  show (i : Int) / 2 ^ j = ((i / 2 ^ j : Nat) : Int)
  rw [Int.natCast_ediv, Int.natCast_pow]
  rfl
theorem o_shr : Op2 T (rI (fun _ j => 0 ≤ j) fun i j => .int (i / 2 ^ j.toNat)) (fN nShr) := by
  intro F H a b d x y Q e s rx ry q
  obtain ⟨i, j, k, rfl, rfl, hg, rfl⟩ := fN_inv e rx ry
  cases hg
  refine ⟨_, _, rfl, rfl, Int.natCast_nonneg j, ?_⟩
  dsimp only
  rw [shr_eq]
  exact q _ H F (Gr.refl s) (.int _)
theorem ed_shr {a b : Expr} {da db : DE} {pos : Pos} (ha : ED T X a da) (hb : ED T X b db) : ED T X (.BinOp a .RShift b pos) (d2 (fN nShr) da db) := ed_op op_shr (fun _ => o_shr) ha hb
def nAnd (i j : Nat) : Option Nat := some (i &&& j)
theorem o_and : Op2 T (rI0 fun i j => .int (Builtin.bitAnd i j)) (fN nAnd) := by
  intro F H a b d x y Q e s rx ry q
  obtain ⟨i, j, k, rfl, rfl, hg, rfl⟩ := fN_inv e rx ry
  cases hg
  refine ⟨_, _, rfl, rfl, ?_⟩
  dsimp only
  rw [show Builtin.bitAnd (Int.ofNat i) (Int.ofNat j) = Int.ofNat (i &&& j) from PySem.W.os_band i j]
  exact q _ H F (Gr.refl s) (.int _)
theorem ed_band {a b : Expr} {da db : DE} {pos : Pos} (ha : ED T X a da) (hb : ED T X b db) : ED T X (.BinOp a .BitAnd b pos) (d2 (fN nAnd) da db) := ed_op op_and (fun _ => o_and) ha hb
def nOr (i j : Nat) : Option Nat := some (i ||| j)
theorem bor_nat (a b : Nat) : Builtin.bitOr (Int.ofNat a) (Int.ofNat b) = Int.ofNat (a ||| b) := by
  have n1 : ∀ x : Nat, Builtin.bitNot (Int.ofNat x) = Int.negSucc x := fun x => by
    unfold Builtin.bitNot
    rw [Int.negSucc_eq]
    show -(x : Int) - 1 = -((x : Int) + 1)
    omega
  have n2 : ∀ x : Nat, Builtin.bitNot (Int.negSucc x) = Int.ofNat x := fun x => by
    unfold Builtin.bitNot
    rw [Int.negSucc_eq]
    show -(-((x : Int) + 1)) - 1 = (x : Int)
    omega
  unfold Builtin.bitOr
  rw [n1, n1, PyProof.Rows.bitAnd_nn (by rw [Int.negSucc_eq]; omega) (by rw [Int.negSucc_eq]; omega), n2, n2]
  show Builtin.bitNot (Builtin.bitNot (Int.ofNat (a ||| b))) = _
  rw [n1, n2]
theorem o_ior : Op2 T (rI0 fun i j => .int (Builtin.bitOr i j)) (fN nOr) := by
  intro F H a b d x y Q e s rx ry q
  obtain ⟨i, j, k, rfl, rfl, hg, rfl⟩ := fN_inv e rx ry
  cases hg
  refine ⟨_, _, rfl, rfl, ?_⟩
  dsimp only
  rw [bor_nat]
  exact q _ H F (Gr.refl s) (.int _)
theorem sd_ior (i : Nat) {x : Str} {e : Expr} {de : DE} {pos pos' : Pos} (hN : X.N.Nodup) (h : ED T X e de) (hi : X.N[i]? = some x := by rfl) (hx : Loc X.env.scope x := by first | exact Or.inl rfl | exact Or.inr rfl)
    (hf : X.fn x = true ∨ X.env.scope.names.lookup x = some .local := by first | exact .inl rfl | exact .inr rfl) : SD T X (.AugAssign (.Name x pos') .BitOr e pos) (sAug i (fN nOr) de) := sd_aug i iop_or (fun _ => o_ior) hN h hi hx hf

/-! ### comparisons -/
def fInt (p : Int → Int → Bool) : D → D → Option Bool
  | .int i, .int j => some (p i j)
  | _, _ => none
theorem o_cmpI (p : Int → Int → Bool) : Op2T T (rI0 fun i j => .bl (p i j)) (fInt p) := by
  intro F H a b d x y Q e s rx ry q
  cases rx with
  | int i =>
    cases ry with
    | int j => cases e; exact ⟨i, j, rfl, rfl, q⟩
    | _ => cases e
  | _ => cases e
abbrev fLt := fInt fun i j => decide (i < j)
abbrev fLe := fInt fun i j => decide (i ≤ j)
abbrev fGt := fInt fun i j => decide (j < i)
abbrev fGe := fInt fun i j => decide (j ≤ i)
section
variable {a b c : Expr} {da db dc : DE} {pos : Pos}
theorem td_lt (ha : ED T X a da) (hb : ED T X b db) : TD T X (.Compare a [.Lt] [b] pos) (t2 fLt da db) := td_cmp op_lt (fun _ => o_cmpI _) ha hb (nomark _)
theorem td_gt (ha : ED T X a da) (hb : ED T X b db) : TD T X (.Compare a [.Gt] [b] pos) (t2 fGt da db) := td_cmp op_gt (fun _ => o_cmpI _) ha hb (nomark _)
theorem td_chainLe (ha : ED T X a da) (hb : ED T X b db) (hc : ED T X c dc) (hm : lastMarks [.LtE, .LtE] [b, c] = false := by with_unfolding_all rfl) : TD T X (.Compare a [.LtE, .LtE] [b, c] pos) (tAndD (t2 fLe da db) (t2 fLe db dc)) := td_chain op_le op_le (fun _ => o_cmpI _) (fun _ => o_cmpI _) ha hb hc hm
end

/-! ### equality: scalars, lists, tuples -/
mutual
/-- as the library's data -/
def toPy : D → Option PyData
  | .non => some .none
  | .bl b => some (.bool b)
  | .int i => some (.int i)
  | .str x => some (.str x)
  | .lst xs => (toPys xs).map PyData.list
  | .tup xs => (toPys xs).map PyData.tuple
  | .wtp xs => (toPys xs).map PyData.tuple
  | _ => none
def toPys : List D → Option (List PyData)
  | [] => some []
  | d :: r => match toPy d with
    | some x => (toPys r).map (x :: ·)
    | none => none
end
mutual
theorem dp_of (hT : T.K = X.K) {F H : Hp} (s : Same F H) : ∀ {d : D} {v : V} {p : PyData}, Rep T F d v → toPy d = some p → Dp X.K H v p
  | _, _, p, .non, e => by
    unfold toPy at e; cases e; exact .non
  | _, _, p, .bl b, e => by
    unfold toPy at e; cases e; exact .bl b
  | _, _, p, .int i, e => by
    unfold toPy at e; cases e; exact .int i
  | _, _, p, .str x, e => by
    unfold toPy at e; cases e; exact .str x
  | _, _, p, .lst h r, e => by
    unfold toPy at e
    obtain ⟨ps, e1, e2⟩ := Option.map_eq_some_iff.mp e
    subst e2
    rw [hT] at h
    exact .lst (s.seq h) (dps_of hT s r e1)
  | _, _, p, .tup h r, e => by
    unfold toPy at e
    obtain ⟨ps, e1, e2⟩ := Option.map_eq_some_iff.mp e
    subst e2
    exact .tup (SqT.of (s _ _ h)) (dps_of hT s r e1)
  | _, _, p, .wtp h r, e => by
    unfold toPy at e
    obtain ⟨ps, e1, e2⟩ := Option.map_eq_some_iff.mp e
    subst e2
    have h := h.1
    rw [hT] at h
    exact .tup (Same.tup s h) (dps_of hT s r e1)
  | _, _, p, .dK _ _ _, e => by unfold toPy at e; cases e
  | _, _, p, .dT _ _ _, e => by unfold toPy at e; cases e
  | _, _, p, .fn _, e => by unfold toPy at e; cases e
  | _, _, p, .ins _ _ _, e => by unfold toPy at e; cases e
theorem dps_of (hT : T.K = X.K) {F H : Hp} (s : Same F H) : ∀ {ds : List D} {vs : List V} {ps : List PyData}, Reps T F ds vs → toPys ds = some ps → DpAll X.K H vs ps
  | _, _, _, .nil, e => by
    unfold toPys at e; cases e; exact .nil
  | d :: ds, _, _, .cons h t, e => by
    unfold toPys at e
    cases e1 : toPy d with
    | none => rw [e1] at e; cases e
    | some x =>
      rw [e1] at e
      obtain ⟨ps, e2, e3⟩ := Option.map_eq_some_iff.mp e
      subst e3
      exact .cons (dp_of hT s h e1) (dps_of hT s t e2)
end
/-- == of data -/
def fEq : D → D → Option Bool
  | .int i, .int j => some (decide (i = j))
  | .str x, .str y => some (decide (x.cps.toList = y.cps.toList))
  | .bl x, .bl y => some (decide (x = y))
  | a, b => match toPy a with
    | some p => (match toPy b with
      | some q => if SeqAt.shaped p && SeqAt.shaped q then some (PyData.eqv p q) else none
      | none => none)
    | none => none
def fNe (a b : D) : Option Bool := match fEq a b with
  | some k => some (!k)
  | none => none
theorem str_eq_iff {x y : Str} : x = y ↔ x.cps.toList = y.cps.toList := by
  constructor
  · intro h; rw [h]
  · intro h
    cases x; cases y
    simp only [Str.mk.injEq]
    exact Array.ext' h
abbrev rEqA (K : PySem.W.Frag) : R2 := fun x y H Q => rEq x y H Q ∨ rEqD K x y H Q
abbrev rNeA (K : PySem.W.Frag) : R2 := fun x y H Q => rNe x y H Q ∨ rNeD K x y H Q
theorem o_eqGen (hT : T.K = X.K) {F H : Hp} {a b : D} {d : Bool} {x y : V} (e : fEq a b = some d) (s : Same F H) (rx : Rep T F a x) (ry : Rep T F b y) :
    (scal x y = true ∧ decide (x = y) = d) ∨ ∃ p q, Dp X.K H x p ∧ Dp X.K H y q ∧ SeqAt.shaped p = true ∧ SeqAt.shaped q = true ∧ PyData.eqv p q = d := by
  unfold fEq at e
  split at e
  · cases e; cases rx; cases ry
    exact .inl ⟨rfl, by simp⟩
  · cases e; cases rx; cases ry
    refine .inl ⟨rfl, ?_⟩
    rename_i x y
    by_cases h : x = y
    · rw [decide_eq_true (show V.str x = V.str y by rw [h]), decide_eq_true (str_eq_iff.mp h)]
    · rw [decide_eq_false (fun z => h (V.str.inj z)), decide_eq_false (fun z => h (str_eq_iff.mpr z))]
  · cases e; cases rx; cases ry
    exact .inl ⟨rfl, by simp⟩
  · split at e
    · rename_i p hp
      split at e
      · rename_i q hq
        split at e
        · rename_i hs
          cases e
          rw [Bool.and_eq_true] at hs
          exact .inr ⟨p, q, dp_of hT s rx hp, dp_of hT s ry hq, hs.1, hs.2, rfl⟩
        · cases e
      · cases e
    · cases e
theorem o_eq (hT : T.K = X.K) : Op2T T (rEqA X.K) fEq := by
  intro F H a b d x y Q e s rx ry q
  rcases o_eqGen hT e s rx ry with ⟨h1, h2⟩ | ⟨p, r, h1, h2, h3, h4, h5⟩
  · exact .inl ⟨h1, by rw [h2]; exact q⟩
  · exact .inr ⟨p, r, h1, h2, h3, h4, by rw [h5]; exact q⟩
theorem o_ne (hT : T.K = X.K) : Op2T T (rNeA X.K) fNe := by
  intro F H a b d x y Q e s rx ry q
  unfold fNe at e
  split at e
  · rename_i k hk
    cases e
    rcases o_eqGen hT hk s rx ry with ⟨h1, h2⟩ | ⟨p, r, h1, h2, h3, h4, h5⟩
    · exact .inl ⟨h1, by rw [h2]; exact q⟩
    · exact .inr ⟨p, r, h1, h2, h3, h4, by rw [h5]; exact q⟩
  · cases e
section
variable {a b : Expr} {da db : DE} {pos : Pos} {k : Nat}
theorem td_eq (hr : Room k X.A) (ha : ED T X a da) (hb : ED T X b db) : TD T X (.Compare a [.Eq] [b] pos) (t2 fEq da db) := td_cmp (op_eq.or (op_eqD hr.units)) o_eq ha hb (nomark _)
theorem td_ne (hr : Room k X.A) (ha : ED T X a da) (hb : ED T X b db) : TD T X (.Compare a [.NotEq] [b] pos) (t2 fNe da db) := td_cmp (op_ne.or (op_neD hr.units)) o_ne ha hb (nomark _)
theorem ed_eq (hr : Room k X.A) (ha : ED T X a da) (hb : ED T X b db) : ED T X (.Compare a [.Eq] [b] pos) (dB (t2 fEq da db)) := ed_cmp (op_eq.or (op_eqD hr.units)) o_eq ha hb (nomark _)
theorem ed_ne (hr : Room k X.A) (ha : ED T X a da) (hb : ED T X b db) : ED T X (.Compare a [.NotEq] [b] pos) (dB (t2 fNe da db)) := ed_cmp (op_ne.or (op_neD hr.units)) o_ne ha hb (nomark _)
end

/-! ### is None -/
def fIsN : D → Option Bool
  | .non => some true
  | .bl _ => some false
  | .int _ => some false
  | .str _ => some false
  | .lst _ => some false
  | .tup _ => some false
  | .dK _ _ => some false
  | .dT _ _ => some false
  | .wtp _ => some false
  | .fn _ => some false
  | .ins _ => some false
theorem isN_rep {F : Hp} {d : D} {v : V} (r : Rep T F d v) : fIsN d = some (decide (v = .non)) := by
  cases r <;> rfl
section
variable {a : Expr} {da : DE} {pos pos' : Pos} {j : Nat}
theorem td_isN (ha : ED T X a da) : TD T X (.Compare a [.Is] [.Constant .none j pos'] pos) (t1 fIsN da) := fun hT => ptImp (pt_cmp (pc_isN (ha hT))) fun σ H Q h => by
  obtain ⟨B, ρ, d, F, e, s, er, q⟩ := h
  unfold t1 at e
  split at e
  · rename_i x h1
    refine ⟨B, ρ, x, F, h1, s, er, fun v H1 F1 g1 r1 => ⟨_, rfl, ?_⟩⟩
    rw [isN_rep r1] at e
    cases e
    exact q H1 F1 g1
  · cases e
theorem td_notN (ha : ED T X a da) : TD T X (.Compare a [.IsNot] [.Constant .none j pos'] pos) (tNotD (t1 fIsN da)) := fun hT => ptImp (pt_cmp (pc_notN (ha hT))) fun σ H Q h => by
  obtain ⟨B, ρ, d, F, e, s, er, q⟩ := h
  unfold tNotD t1 at e
  cases ea : da ρ with
  | none => rw [ea] at e; cases e
  | some x =>
    refine ⟨B, ρ, x, F, ea, s, er, fun v H1 F1 g1 r1 => ⟨_, rfl, ?_⟩⟩
    rw [ea] at e
    simp only [isN_rep r1] at e
    cases e
    exact q H1 F1 g1
end
end
end PD
end
section
set_option Elab.async false
set_option linter.all false
set_option maxRecDepth 100000
/-! PD8: in, subscripts, slices, len, list, tuple, all, index, isinstance over data. -/
namespace PD
open PySem PySem.Spec PyProof.Rows L2
section
variable {T : Tab} {X : Cx} {a b c e : Expr} {es : List Expr} {da db : DE} {pos : Pos} {k : Nat}

/-! ### in, not in: ints in ints, texts in texts -/
def intsOf : List D → Option (List Int)
  | [] => some []
  | .int i :: r => match intsOf r with
    | some l => some (i :: l)
    | none => none
  | _ => none
def strsOf : List D → Option (List Str)
  | [] => some []
  | .str i :: r => match strsOf r with
    | some l => some (i :: l)
    | none => none
  | _ => none
theorem intsOf_rep {F : Hp} : ∀ {ds : List D} {ns : List Int} {vs : List V}, intsOf ds = some ns → Reps T F ds vs → vs = ns.map V.int
  | [], _, _, e, .nil => by cases e; rfl
  | d :: ds, ns, _, e, .cons h t => by
    cases h with
    | int i =>
      unfold intsOf at e
      split at e
      · rename_i l hl
        cases e
        rw [intsOf_rep hl t]
        rfl
      · cases e
    | _ => unfold intsOf at e; cases e
theorem strsOf_rep {F : Hp} : ∀ {ds : List D} {ns : List Str} {vs : List V}, strsOf ds = some ns → Reps T F ds vs → vs = ns.map V.str
  | [], _, _, e, .nil => by cases e; rfl
  | d :: ds, ns, _, e, .cons h t => by
    cases h with
    | str i =>
      unfold strsOf at e
      split at e
      · rename_i l hl
        cases e
        rw [strsOf_rep hl t]
        rfl
      · cases e
    | _ => unfold strsOf at e; cases e
/-- the items of a list or tuple -/
def seqOf : D → Option (List D)
  | .lst xs => some xs
  | .tup xs => some xs
  | .wtp xs => some xs
  | _ => none
def seqS (x y : Str) : Bool := decide (x.cps.toList = y.cps.toList)
def inS (x : Str) : List Str → Bool
  | [] => false
  | y :: r => match seqS y x with
    | true => true
    | false => inS x r
def inI (x : Int) : List Int → Bool
  | [] => false
  | y :: r => match decide (y = x) with
    | true => true
    | false => inI x r
def fIn (x y : D) : Option Bool := match seqOf y with
  | some ys => (match x with
    | .int i => (match intsOf ys with
      | some ns => some (inI i ns)
      | none => none)
    | .str z => (match strsOf ys with
      | some ns => some (inS z ns)
      | none => none)
    | _ => none)
  | none => none
def fNotIn (x y : D) : Option Bool := match fIn x y with
  | some k => some (!k)
  | none => none
theorem flat_ints (ns : List Int) : (ns.map V.int).all flatV = true := by
  induction ns with
  | nil => rfl
  | cons n r ih => rw [List.map_cons, List.all_cons, ih]; rfl
theorem flat_strsD (ns : List Str) : (ns.map V.str).all flatV = true := by
  induction ns with
  | nil => rfl
  | cons n r ih => rw [List.map_cons, List.all_cons, ih]; rfl
theorem inI_eq (i : Int) : ∀ ns : List Int, inV (.int i) (ns.map V.int) = inI i ns
  | [] => rfl
  | n :: r => by
    have ih := inI_eq i r
    unfold inV at ih ⊢
    rw [List.map_cons, List.any_cons, ih]
    rw [inI]
    have e : eqV (.int n) (.int i) = decide (n = i) := by
      show (n == i) = decide (n = i)
      by_cases h : n = i
      · rw [h]; simp
      · rw [decide_eq_false h]; exact beq_eq_false_iff_ne.mpr h
    rw [e]
    cases decide (n = i) <;> rfl
theorem seqS_eq (x y : Str) : (x == y) = seqS x y := by
  unfold seqS
  by_cases h : x = y
  · rw [h]; simp
  · rw [decide_eq_false (fun z => h (str_eq_iff.mpr z))]
    exact beq_eq_false_iff_ne.mpr h
theorem inS_eq (i : Str) : ∀ ns : List Str, inV (.str i) (ns.map V.str) = inS i ns
  | [] => rfl
  | n :: r => by
    have ih := inS_eq i r
    unfold inV at ih ⊢
    rw [List.map_cons, List.any_cons, ih]
    rw [inS]
    have e : eqV (.str n) (.str i) = seqS n i := seqS_eq n i
    rw [e]
    cases seqS n i <;> rfl
theorem seq_rep (hT : T.K = X.K) {F H : Hp} (s : Same F H) {y : D} {ys : List D} {v : V} (e : seqOf y = some ys) (r : Rep T F y v) : ∃ p vs, v = .ref p ∧ (SqL X.K H p vs ∨ SqT X.K H p vs) ∧ Reps T F ys vs := by
  cases r with
  | @lst a vs ds h r =>
    cases e
    rw [hT] at h
    exact ⟨a, vs, rfl, .inl (s.seq h), r⟩
  | @tup a vs ds h r =>
    cases e
    exact ⟨a, vs, rfl, .inr (SqT.of (s _ _ h)), r⟩
  | @wtp a vs ds h r =>
    cases e
    have h := h.1
    rw [hT] at h
    exact ⟨a, vs, rfl, .inr (Same.tup s h), r⟩
  | _ => cases e
theorem o_inGen (hT : T.K = X.K) {F H : Hp} {x y : D} {d : Bool} {u v : V} (e : fIn x y = some d) (s : Same F H) (rx : Rep T F x u) (ry : Rep T F y v) :
    ∃ p xs, v = .ref p ∧ (SqL X.K H p xs ∨ SqT X.K H p xs) ∧ flatV u = true ∧ xs.all flatV = true ∧ inV u xs = d := by
  unfold fIn at e
  split at e
  · rename_i ys hy
    obtain ⟨p, vs, rfl, hq, r⟩ := seq_rep hT s hy ry
    split at e
    · rename_i i
      split at e
      · rename_i ns hn
        cases e
        have ev := intsOf_rep hn r
        subst ev
        cases rx
        exact ⟨p, _, rfl, hq, rfl, flat_ints ns, inI_eq i ns⟩
      · cases e
    · rename_i i
      split at e
      · rename_i ns hn
        cases e
        have ev := strsOf_rep hn r
        subst ev
        cases rx
        exact ⟨p, _, rfl, hq, rfl, flat_strsD ns, inS_eq i ns⟩
      · cases e
    · cases e
  · cases e
theorem o_in (hT : T.K = X.K) : Op2T T (rIn X.K false) fIn := by
  intro F H x y d u v Q e s rx ry q
  obtain ⟨p, xs, e1, e2, e3, e4, e5⟩ := o_inGen hT e s rx ry
  exact ⟨p, xs, e1, e2, e3, e4, by rw [if_neg Bool.false_ne_true, e5]; exact q⟩
theorem o_notIn (hT : T.K = X.K) : Op2T T (rIn X.K true) fNotIn := by
  intro F H x y d u v Q e s rx ry q
  unfold fNotIn at e
  split at e
  · rename_i k hk
    cases e
    obtain ⟨p, xs, e1, e2, e3, e4, e5⟩ := o_inGen hT hk s rx ry
    exact ⟨p, xs, e1, e2, e3, e4, by rw [if_pos rfl, e5]; exact q⟩
  · cases e
theorem td_in (ha : ED T X a da) (hb : ED T X b db) (hm : behindInMarks .In b = false := by rfl) : TD T X (.Compare a [.In] [b] pos) (t2 fIn da db) := td_cmp op_in_seq o_in ha hb hm
theorem td_notIn (ha : ED T X a da) (hb : ED T X b db) (hm : behindInMarks .NotIn b = false := by rfl) : TD T X (.Compare a [.NotIn] [b] pos) (t2 fNotIn da db) := td_cmp op_notIn_seq o_notIn ha hb hm
theorem ed_in (ha : ED T X a da) (hb : ED T X b db) (hm : behindInMarks .In b = false := by rfl) : ED T X (.Compare a [.In] [b] pos) (dB (t2 fIn da db)) := ed_cmp op_in_seq o_in ha hb hm
/-- a list in a list of lists -/
def fNotInL (x y : D) : Option Bool := match toPy x with
  | some p => (match toPy y with
    | some (.list qs) => if SeqAt.shaped p && SeqAt.shaped (.list qs) then some (!qs.any fun z => PyData.eqv z p) else none
    | _ => none)
  | none => none
theorem o_notInL (hT : T.K = X.K) : Op2T T (rNotInD X.K) fNotInL := by
  intro F H x y d u v Q e s rx ry q
  unfold fNotInL at e
  split at e
  · rename_i p hp
    split at e
    · rename_i qs hq
      split at e
      · rename_i hs
        cases e
        rw [Bool.and_eq_true] at hs
        exact ⟨p, qs, dp_of hT s rx hp, dp_of hT s ry hq, hs.1, hs.2, q⟩
      · cases e
    · cases e
  · cases e
theorem td_notInL (hr : Room k X.A) (ha : ED T X a da) (hb : ED T X b db) (hm : behindInMarks .NotIn b = false := by rfl) : TD T X (.Compare a [.NotIn] [b] pos) (t2 fNotInL da db) :=
  td_cmp (op_notInD (by have := hr.un; omega)) o_notInL ha hb hm
/-- one sign in a text -/
def fInT : D → D → Option Bool
  | .str x, .str y => match x.cps.toList with
    | [c] => some (y.cps.toList.contains c)
    | _ => none
  | _, _ => none
theorem o_inT : Op2T T (fun x y H Q => ∃ (c : Nat) (z : Str), x = .str ⟨#[c]⟩ ∧ y = .str z ∧ Q (.bl (decide (c ∈ z.cps.toList))) H) fInT := by
  intro F H x y d u v Q e s rx ry q
  cases rx with
  | str x =>
    cases ry with
    | str y =>
      unfold fInT at e
      simp only at e
      split at e
      · rename_i c hc
        cases e
        refine ⟨c, y, ?_, rfl, ?_⟩
        · congr 1
          exact str_eq_iff.mpr hc
        · rw [show decide (c ∈ y.cps.toList) = y.cps.toList.contains c from by rw [List.contains_eq_mem]]
          exact q
      · cases e
    | _ => cases e
  | _ => cases e
theorem ed_inT (ha : ED T X a da) (hb : ED T X b db) (hm : behindInMarks .In b = false := by rfl) : ED T X (.Compare a [.In] [b] pos) (dB (t2 fInT da db)) := ed_cmp op_in_sign (fun _ => o_inT) ha hb hm

/-! ### subscripts -/
def nthD : List D → Nat → Option D
  | [], _ => none
  | d :: _, 0 => some d
  | _ :: r, n + 1 => nthD r n
theorem nthD_get : ∀ {ds : List D} {i : Nat} {d : D}, nthD ds i = some d → ds[i]? = some d
  | [], _, _, h => by cases h
  | d :: _, 0, _, h => h
  | _ :: r, i + 1, _, h => nthD_get (ds := r) (i := i) h
def fIx (x y : D) : Option D := match seqOf x with
  | some ds => (match natOf y with
    | some i => nthD ds i
    | none => none)
  | none => none
theorem o_ix (hT : T.K = X.K) : Op2 T (rIx X.K) fIx := by
  intro F H x y d u v Q e s rx ry q
  unfold fIx at e
  split at e
  · rename_i ds hd
    split at e
    · rename_i i hi
      obtain ⟨p, vs, rfl, hq, r⟩ := seq_rep hT s hd rx
      have ev := natOf_rep hi ry
      subst ev
      obtain ⟨w, hw, rw'⟩ := r.get (nthD_get e)
      rcases hq with hq | hq
      · exact .inl ⟨p, vs, _, w, rfl, rfl, hq, atI_nat hw, q w H F (Gr.refl s) rw'⟩
      · exact .inr (.inl ⟨p, vs, _, w, rfl, rfl, hq, atI_nat hw, q w H F (Gr.refl s) rw'⟩)
    · cases e
  · cases e
theorem ed_at (ha : ED T X a da) (hb : ED T X b db) (hs : PlainIx b := by exact fun _ _ => rfl) : ED T X (.Subscript a b pos) (d2 fIx da db) := ed_ix ix_seq o_ix ha hb hs
/-- x[:n] of a list -/
def fTakeL (x y : D) : Option D := match x with
  | .lst xs => (match natOf y with
    | some n => some (.lst (xs.take n))
    | none => none)
  | _ => none
/-- x[:n] of a tuple -/
def fTakeT (x y : D) : Option D := match x with
  | .tup xs => (match natOf y with
    | some n => some (.tup (xs.take n))
    | none => none)
  | _ => none
theorem cut_take (vs : List V) (n : Nat) : cutV vs none (some (n : Int)) = vs.take n := by
  unfold cutV
  rw [HT.sIx_nat, HT.sIx_none, List.drop_zero, Nat.sub_zero]
  by_cases h : n ≤ vs.length
  · rw [Nat.min_eq_left h]
  · have h' : vs.length ≤ n := Nat.le_of_not_le h
    rw [Nat.min_eq_right h', List.take_length, List.take_of_length_le h']
theorem ed_takeL {p2 : Pos} (ha : ED T X a da) (hb : ED T X b db) : ED T X (.Subscript a (.Slice none (some b) none p2) pos) (d2 fTakeL da db) := fun hT =>
  peImp (pe_slice sl_list (ha hT) po_none (po_some (hb hT))) fun σ H Q h => by
    obtain ⟨B, ρ, d, F, e, s, er, q⟩ := h
    unfold d2 at e
    split at e
    · rename_i x hx
      split at e
      · rename_i y hy
        refine ⟨B, ρ, x, F, hx, s, er, fun v H1 F1 g1 r1 => ⟨B, ρ, y, F1, hy, g1.sub, er.grow g1, fun u H2 F2 g2 r2 => ?_⟩⟩
        unfold fTakeL at e
        split at e
        · rename_i xs
          split at e
          · rename_i n hn
            cases e
            have eu := natOf_rep hn r2
            subst eu
            cases r1 with
            | @lst p vs ds h r =>
              rw [hT] at h
              refine ⟨_, rfl, p, vs, rfl, g2.sub.seq (g2.frz.seq h), fun q' hq' => ?_⟩
              rw [show cutV vs none (some (Int.ofNat n)) = vs.take n from cut_take vs n]
              exact q _ _ _ ((g1.trans g2).trans (Gr.new g2.sub hq')) (rep_newL g2.sub ((r.mono g2.frz).take n) hq')
          · cases e
        · cases e
      · cases e
    · cases e
theorem ed_takeT {p2 : Pos} (ha : ED T X a da) (hb : ED T X b db) : ED T X (.Subscript a (.Slice none (some b) none p2) pos) (d2 fTakeT da db) := fun hT =>
  peImp (pe_slice sl_tupA (ha hT) po_none (po_some (hb hT))) fun σ H Q h => by
    obtain ⟨B, ρ, d, F, e, s, er, q⟩ := h
    unfold d2 at e
    split at e
    · rename_i x hx
      split at e
      · rename_i y hy
        refine ⟨B, ρ, x, F, hx, s, er, fun v H1 F1 g1 r1 => ⟨B, ρ, y, F1, hy, g1.sub, er.grow g1, fun u H2 F2 g2 r2 => ?_⟩⟩
        unfold fTakeT at e
        split at e
        · rename_i xs
          split at e
          · rename_i n hn
            cases e
            have eu := natOf_rep hn r2
            subst eu
            cases r1 with
            | @tup p vs ds h r =>
              have h2 : SqT X.K H2 p vs := SqT.of (g2.sub _ _ (g2.frz _ _ h))
              have rt := (r.mono g2.frz).take n
              have ec : cutV vs none (some (Int.ofNat n)) = vs.take n := cut_take vs n
              refine ⟨_, rfl, p, vs, rfl, h2, fun hw => ?_, fun hw q' hq' => ?_⟩
              · have hle : vs.length ≤ n := by
                  have h3 := hw.2
                  rw [show HT.sIx vs.length vs.length (some (Int.ofNat n)) = min n vs.length from HT.sIx_nat _ _ n] at h3
                  omega
                rw [List.take_of_length_le hle] at rt
                exact q _ _ _ (g1.trans g2) (.tup (g2.frz _ _ h) rt)
              · rw [ec]
                exact q _ _ _ ((g1.trans g2).trans (Gr.new g2.sub hq')) (rep_newT g2.sub rt hq')
          · cases e
        · cases e
      · cases e
    · cases e

/-! ### built-ins -/
def one (f : D → Option D) : List D → Option D
  | [x] => f x
  | _ => none
def fLen (x : D) : Option D := match x with
  | .str z => if z.length ≤ 16777216 then some (.int (.ofNat z.length)) else none
  | x => match seqOf x with
    | some ds => some (.int (.ofNat ds.length))
    | none => none
abbrev rLenA (K : PySem.W.Frag) : List V → Hp → VK → Prop := fun xs H Q => (∃ p ys, xs = [.ref p] ∧ (SqL K H p ys ∨ SqT K H p ys) ∧ Q (.int ys.length) H) ∨ (∃ z, xs = [.str z] ∧ z.length ≤ sizeLine ∧ Q (.int z.length) H)
theorem c_len (hT : T.K = X.K) : CallD T (rLenA X.K) (one fLen) := by
  intro F H ds d vs Q e s r q
  unfold one at e
  split at e
  · rename_i x
    cases r with
    | cons rx rn =>
      cases rn
      unfold fLen at e
      split at e
      · rename_i z
        cases rx
        split at e
        · rename_i hl
          cases e
          exact .inr ⟨z, rfl, by rw [sizeLine_eq]; exact hl, q _ H F (Gr.refl s) (.int _)⟩
        · cases e
      · split at e
        · rename_i ds' hd
          cases e
          obtain ⟨p, us, rfl, hq, r'⟩ := seq_rep hT s hd rx
          refine .inl ⟨p, us, rfl, hq, ?_⟩
          rw [← r'.length]
          exact q _ H F (Gr.refl s) (.int _)
        · cases e
  · cases e
theorem ed_len {p : Pos} (hm : X.mg "len" = none) (ha : ED T X a da) (hg : Gl X "len" := by exact rfl) (he : starEach [a] X.env = (false, eval a X.env) :: starEach [] X.env := by rfl) : ED T X (.Call (.Name "len" p) [a] [] pos) (dCall (one fLen) (aCons da aNil)) :=
  ed_callB (call_len_seq.or call_len_str) c_len hm (ad_cons ha ad_nil he) (by decide +kernel) hg (by decide) (by decide) he
def fList (x : D) : Option D := match seqOf x with
  | some ds => some (.lst ds)
  | none => none
theorem c_list (hT : T.K = X.K) : CallD T (fun xs H Q => ∃ p ys, xs = [.ref p] ∧ (SqL X.K H p ys ∨ SqT X.K H p ys) ∧ ∀ l, H l = none → Q (.ref l) (upd H l (.lst ys))) (one fList) := by
  intro F H ds d vs Q e s r q
  unfold one at e
  split at e
  · rename_i x
    cases r with
    | cons rx rn =>
      cases rn
      unfold fList at e
      split at e
      · rename_i ds' hd
        cases e
        obtain ⟨p, us, rfl, hq, r'⟩ := seq_rep hT s hd rx
        exact ⟨p, us, rfl, hq, fun l hl => q _ _ _ (Gr.new s hl) (rep_newL s r' hl)⟩
      · cases e
  · cases e
theorem ed_list {p : Pos} (hm : X.mg "list" = none) (ha : ED T X a da) (hg : Gl X "list" := by exact rfl) (he : starEach [a] X.env = (false, eval a X.env) :: starEach [] X.env := by rfl) : ED T X (.Call (.Name "list" p) [a] [] pos) (dCall (one fList) (aCons da aNil)) :=
  ed_callTy call_list_of c_list hm (ad_cons ha ad_nil he) (by decide +kernel) hg (by decide) (by decide) he
/-- tuple(a list): a new tuple, known to its object -/
def fTuple (x : D) : Option D := match x with
  | .lst ds => some (.wtp ds)
  | _ => none
abbrev rTupF (K : PySem.W.Frag) : List V → Hp → VK → Prop := fun xs H Q => ∃ p ys, xs = [.ref p] ∧ SqL K H p ys ∧ ∀ l o, H l = none → o.cls = .type "tuple" → o.dict = none → Q (.ref l) (upd H l (.frz o (.tup ys)))
theorem call_tupleF : CallR X (.type "tuple") (rTupF X.K) := by
  intro pins s σ H xs us Q I r h
  obtain ⟨p, ys, rfl, hq, q⟩ := h
  obtain ⟨u, rfl, rx⟩ := vals1 r
  cases rx
  obtain ⟨its, r', pl, hz⟩ := I.list hq
  have hlen := r'.length
  refine call_tuple_list pl.isList (fun h' kp => ?_) (by simp only [List.size_toArray] <;> omega)
  have I1 : Inv X pins σ H { s with heap := h' } := I.kept (t' := s.toks) kp
  have e1 : (h'.push { cls := .type "tuple", data := .seq its.toArray }).get? h'.objs.size = some { cls := .type "tuple", data := .seq its.toArray } := Heap.get?_push_size _ rfl
  have I2 : Inv X pins σ (upd H h'.objs.size (.frz { cls := .type "tuple", data := .seq its.toArray } (.tup ys))) { s with heap := h'.push { cls := .type "tuple", data := .seq its.toArray } } :=
    I1.laid (t' := s.toks) (fun b o e => Heap.get?_push_of_some _ e) (Nat.le_refl _) (show ObjOk X.prog X.w _ _ _ (.frz _ (.tup ys)) from ⟨e1, hz, its, r', IsTup.new _ _⟩)
  exact ⟨.ref h'.objs.size, _, I2, rfl, q _ _ (I1.hok.fresh (Nat.le_refl _)) rfl rfl⟩
theorem rep_newF {F H : Hp} {ds : List D} {vs : List V} {p : Addr} {o : Obj} (s : Same F H) (r : Reps T F ds vs) (hp : H p = none) (hc : o.cls = .type "tuple") (hd : o.dict = none) : Rep T (upd F p (.frz o (.tup vs))) (.wtp ds) (.ref p) :=
  .wtp ⟨.inl (.inr ⟨o, upd_same⟩), .inl ⟨o, upd_same, hc, hd⟩⟩ (r.mono (same_new (s.free hp)))
theorem c_tuple (hT : T.K = X.K) : CallD T (rTupF X.K) (one fTuple) := by
  intro F H ds d vs Q e s r q
  unfold one at e
  split at e
  · rename_i x
    cases r with
    | cons rx rn =>
      cases rn
      unfold fTuple at e
      split at e
      · cases e
        cases rx with
        | @lst p us ds h r' =>
          rw [hT] at h
          exact ⟨p, us, rfl, s.seq h, fun l o hl hc hd => q _ _ _ (Gr.new s hl) (rep_newF s r' hl hc hd)⟩
      · cases e
  · cases e
theorem ed_tuple {p : Pos} (hm : X.mg "tuple" = none) (ha : ED T X a da) (hg : Gl X "tuple" := by exact rfl) (he : starEach [a] X.env = (false, eval a X.env) :: starEach [] X.env := by rfl) : ED T X (.Call (.Name "tuple" p) [a] [] pos) (dCall (one fTuple) (aCons da aNil)) :=
  ed_callTy call_tupleF c_tuple hm (ad_cons ha ad_nil he) (by decide +kernel) hg (by decide) (by decide) he
/-- all(list of bools) -/
def allB : List D → Option Bool
  | [] => some true
  | .bl b :: r => match allB r with
    | some c => some (b && c)
    | none => none
  | _ => none
def fAll (x : D) : Option D := match x with
  | .lst xs => (match allB xs with
    | some k => some (.bl k)
    | none => none)
  | _ => none
theorem allB_rep {F : Hp} : ∀ {ds : List D} {k : Bool} {vs : List V}, allB ds = some k → Reps T F ds vs → ∃ bs : List Bool, vs = bs.map V.bl ∧ bs.all id = k
  | [], _, _, e, .nil => by cases e; exact ⟨[], rfl, rfl⟩
  | d :: ds, _, _, e, .cons h t => by
    cases h with
    | bl b =>
      unfold allB at e
      split at e
      · rename_i c hc
        cases e
        obtain ⟨bs, rfl, e2⟩ := allB_rep hc t
        exact ⟨b :: bs, rfl, by rw [List.all_cons, e2]; rfl⟩
      · cases e
    | _ => unfold allB at e; cases e
theorem c_all (hT : T.K = X.K) : CallD T (rAll X.K) (one fAll) := by
  intro F H ds d vs Q e s r q
  unfold one at e
  split at e
  · rename_i x
    cases r with
    | cons rx rn =>
      cases rn
      unfold fAll at e
      split at e
      · rename_i xs
        split at e
        · rename_i k hk
          cases e
          cases rx with
          | @lst p us ds h r' =>
            rw [hT] at h
            obtain ⟨bs, rfl, rfl⟩ := allB_rep hk r'
            exact ⟨p, bs, rfl, s.seq h, q _ H F (Gr.refl s) (.bl _)⟩
        · cases e
      · cases e
  · cases e
theorem ed_all {p : Pos} (hc : X.calm = true) (hm : X.mg "all" = none) (ha : ED T X a da) (hg : Gl X "all" := by exact rfl) (he : starEach [a] X.env = (false, eval a X.env) :: starEach [] X.env := by rfl) : ED T X (.Call (.Name "all" p) [a] [] pos) (dCall (one fAll) (aCons da aNil)) :=
  ed_callB (cr_all hc) c_all hm (ad_cons ha ad_nil he) (by decide +kernel) hg (by decide) (by decide) he
/-- list(range(n)) -/
def fRange (x : D) : Option D := match natOf x with
  | some n => if n ≤ 16777216 then some (.lst (upD 0 n)) else none
  | none => none
theorem reps_up {F : Hp} : ∀ (lo : Int) (n : Nat), Reps T F (upD lo n) ((List.range n).map fun i => V.int (lo + (i : Nat)))
  | _, 0 => .nil
  | lo, n + 1 => by
    have ih := reps_up (F := F) (lo + 1) n
    rw [List.range_succ_eq_map, List.map_cons, List.map_map]
    show Reps T F (.int lo :: upD (lo + 1) n) _
    refine .cons ?_ ?_
    · have : lo + ((0 : Nat) : Int) = lo := by omega
      rw [this]
      exact .int lo
    · have e : ((fun i => V.int (lo + (i : Nat))) ∘ Nat.succ) = fun i : Nat => V.int (lo + 1 + (i : Nat)) := by
        funext i
        show V.int (lo + ((i + 1 : Nat) : Int)) = V.int (lo + 1 + (i : Nat))
        congr 1
        omega
      rw [e]
      exact ih
theorem ed_listRange {p p2 pos2 : Pos} (hc : X.calm = true) (hm : X.mg "list" = none) (hm2 : X.mg "range" = none) (ha : ED T X a da) (hg : Gl X "list" := by exact rfl) (hg2 : Gl X "range" := by exact rfl)
    (na : starEach [a] X.env = (false, eval a X.env) :: starEach [] X.env := by rfl) (na2 : starEach [Expr.Call (.Name "range" p2) [a] [] pos2] X.env = (false, eval (.Call (.Name "range" p2) [a] [] pos2) X.env) :: starEach [] X.env := by rfl) :
    ED T X (.Call (.Name "list" p) [.Call (.Name "range" p2) [a] [] pos2] [] pos) (d1 fRange da) := fun hT =>
  peImp (pe_listRg hc hg hm (prg_1 hg2 hm2 (ha hT) na) na2) fun σ H Q h => by
    obtain ⟨B, ρ, d, F, e, s, er, q⟩ := h
    unfold d1 at e
    split at e
    · rename_i x hx
      refine ⟨B, ρ, x, F, hx, s, er, fun v H1 F1 g1 r1 => ?_⟩
      unfold fRange at e
      split at e
      · rename_i n hn
        split at e
        · rename_i hb
          cases e
          have ev := natOf_rep hn r1
          subst ev
          refine ⟨_, rfl, RgOk.of_le (Int.le_refl 0) (Int.ofNat_le.mpr hb) (by decide) (Int.natCast_nonneg n), fun p hp => ?_⟩
          have e0 : rgV 0 (Int.ofNat n) = (List.range n).map fun i => V.int ((0 : Int) + (i : Nat)) := by
            unfold rgV
            rw [Int.sub_zero]
            rfl
          rw [e0]
          exact q _ _ _ (g1.trans (Gr.new g1.sub hp)) (rep_newL g1.sub (reps_up 0 n) hp)
        · cases e
      · cases e
    · cases e
/-- x.bit_length() of a number from nought -/
def fBits (x : D) : Option D := match natOf x with
  | some n => some (.int (.ofNat (if n = 0 then 0 else n.log2 + 1)))
  | none => none
theorem bits_nat (n : Nat) : Builtin.Int.intBits (Int.ofNat n) = if n = 0 then 0 else n.log2 + 1 := by
  unfold Builtin.Int.intBits
  by_cases h : n = 0
  · subst h
    rfl
  · rw [if_neg h]
    have h2 : ¬ ((Int.ofNat n == 0) = true) := by
      intro z
      have z' := eq_of_beq z
      exact h (Int.ofNat.inj z')
    rw [if_neg h2]
    rfl
theorem ed_bits {apos : Pos} (ha : ED T X a da) (hbase : attributeBase a "bit_length" X.env (eval a X.env) = eval a X.env := by rfl) (hline : (apos.endLine == pos.line) = true := by rfl) : ED T X (.Call (.Attribute a "bit_length" apos) [] [] pos) (d1 fBits da) := fun hT =>
  peImp (pe_bits (ha hT) hbase hline) fun σ H Q h => by
    obtain ⟨B, ρ, d, F, e, s, er, q⟩ := h
    unfold d1 at e
    split at e
    · rename_i x hx
      refine ⟨B, ρ, x, F, hx, s, er, fun v H1 F1 g1 r1 => ?_⟩
      unfold fBits at e
      split at e
      · rename_i n hn
        cases e
        have ev := natOf_rep hn r1
        subst ev
        refine ⟨_, rfl, ?_⟩
        rw [bits_nat]
        exact q _ _ _ g1 (.int _)
      · cases e
    · cases e
/-- names.index(x): texts -/
def idxS (x : Str) : List Str → Option Nat
  | [] => none
  | y :: r => match seqS y x with
    | true => some 0
    | false => (match idxS x r with
      | some n => some (n + 1)
      | none => none)
theorem idxS_spec {x : Str} : ∀ {ys : List Str} {j : Nat}, idxS x ys = some j → ys[j]? = some x ∧ ∀ m, m < j → ys[m]? ≠ some x
  | [], _, h => by cases h
  | y :: r, j, h => by
    unfold idxS at h
    split at h
    · rename_i hy
      cases h
      have e : y = x := str_eq_iff.mpr (of_decide_eq_true hy)
      subst e
      exact ⟨rfl, fun m hm => absurd hm (Nat.not_lt_zero m)⟩
    · rename_i hy
      split at h
      · rename_i n hn
        cases h
        obtain ⟨h1, h2⟩ := idxS_spec hn
        refine ⟨h1, fun m hm => ?_⟩
        cases m with
        | zero =>
          intro z
          have e : y = x := Option.some.inj z
          rw [e] at hy
          unfold seqS at hy
          rw [decide_eq_true rfl] at hy
          cases hy
        | succ m => exact h2 m (by omega)
      · cases h
def fIndex (x y : D) : Option D := match seqOf x with
  | some xs => (match strsOf xs with
    | some ys => (match y with
      | .str z => (match idxS z ys with
        | some j => some (.int (.ofNat j))
        | none => none)
      | _ => none)
    | none => none)
  | none => none
end
end PD
end
section
set_option Elab.async false
set_option linter.all false
set_option maxRecDepth 100000
/-! PD9: index, isinstance, dicts read, fields, methods, defs held by names. -/
namespace PD
open PySem PySem.Spec PyProof.Rows L2
section
variable {T : Tab} {X : Cx} {a b c e : Expr} {es : List Expr} {da db : DE} {dar : DA} {pos : Pos} {k : Nat}

/-! ### index -/
theorem vals_str_get {ys : List Str} {j : Nat} {z : Str} (h : ys[j]? = some z) : (ys.map V.str)[j]? = some (V.str z) := by
  rw [List.getElem?_map, h]
  rfl
/-- a text's first place in a list of texts -/
theorem ed_indexL {apos : Pos} (ha : ED T X a da) (hb : ED T X b db) (hbase : attributeBase a "index" X.env (eval a X.env) = eval a X.env := by rfl)
    (hfew : ((backTo pos (starEach [b] X.env)).all (fun x => !x.1) && (backToKw pos (keywordEach [] X.env)).all (fun x => x.1.isSome)
      && decide (([b] : List Expr).length + ([] : List Keyword).length + (if ([] : List Keyword).isEmpty then 0 else 1) < 30)) = true := by rfl)
    (hline : (apos.endLine == pos.line) = true := by rfl) (hs : starEach [b] X.env = (false, eval b X.env) :: starEach [] X.env := by rfl)
    (hd : ∀ ρ xs y, da ρ = some xs → db ρ = some y → fIndex xs y ≠ none → ∃ l, xs = .lst l) : ED T X (.Call (.Attribute a "index" apos) [b] [] pos) (d2 fIndex da db) := fun hT =>
  peImp (pe_bm (cpos := pos) PySem.F.plainAttrs_list PySem.F.slot_list_index PySem.F.type_list_index mt_index (ha hT) (pa_cons (hb hT) pa_nil hs) hbase hfew hline hs rfl) fun σ H Q h => by
    obtain ⟨B, ρ, d, F, e, s, er, q⟩ := h
    unfold d2 at e
    split at e
    · rename_i x hx
      split at e
      · rename_i y hy
        obtain ⟨l, rfl⟩ := hd ρ x y hx hy (by rw [e]; exact fun z => nomatch z)
        refine ⟨B, ρ, .lst l, F, hx, s, er, fun v H1 F1 g1 r1 => ?_⟩
        cases r1 with
        | @lst p vs ds h r =>
          rw [hT] at h
          refine ⟨.inl ⟨rfl, _, g1.sub.seq h⟩, B, ρ, y, F1, hy, g1.sub, er.grow g1, fun u H2 F2 g2 r2 => ?_⟩
          unfold fIndex at e
          split at e
          · rename_i ds' hds
            cases hds
            split at e
            · rename_i ys hys
              split at e
              · rename_i z
                split at e
                · rename_i j hj
                  cases e
                  have ev := strsOf_rep hys r
                  subst ev
                  cases r2
                  obtain ⟨h1, h2⟩ := idxS_spec hj
                  refine ⟨p, _, .str z, j, .str z, rfl, rfl, g2.sub.seq (g2.frz.seq h), rfl, flat_strsD ys, vals_str_get h1, ?_, fun m z' hm hz => ?_, q _ _ _ (g1.trans g2) (.int _)⟩
                  · show (z == z) = true
                    simp
                  · rw [List.getElem?_map] at hz
                    cases hm2 : ys[m]? with
                    | none => rw [hm2] at hz; cases hz
                    | some z2 =>
                      rw [hm2] at hz
                      have e3 := Option.some.inj hz
                      subst e3
                      show (z2 == z) = false
                      exact beq_eq_false_iff_ne.mpr fun z3 => h2 m hm (by rw [hm2, z3])
                · cases e
              · cases e
            · cases e
          · cases e
      · cases e
    · cases e
/-- .. of a known tuple -/
def tyW (K : PySem.W.Frag) (x : V) (H : Hp) : Prop := ∃ p, x = .ref p ∧ ((∃ o vs, H p = some (.frz o (.tup vs)) ∧ o.cls = .type "tuple" ∧ o.dict = none) ∨ ∃ o, K.lookup p = some o ∧ o.cls = .type "tuple" ∧ o.dict = none)
theorem tyW_is {pins : List (Addr × Obj)} {σ : L2.St} {H : Hp} {s : Shared} {x : V} {v : Value} (I : Inv X pins σ H s) (r : RelV x v) (ty : tyW X.K x H) :
    s.TypeIs v "tuple" ∧ ∀ a, v = .ref a → ∃ ob, s.heap.get? a = some ob ∧ ob.dict = none := by
  obtain ⟨p, rfl, h⟩ := ty
  cases r
  have key : ∃ o, s.heap.get? p = some o ∧ o.cls = .type "tuple" ∧ o.dict = none := by
    rcases h with ⟨o, vs, h1, h2, h3⟩ | ⟨o, h1, h2, h3⟩
    · obtain ⟨h4, _⟩ := I.hok p _ h1
      exact ⟨o, h4, h2, h3⟩
    · exact ⟨o, I.kIn p o h1, h2, h3⟩
  obtain ⟨o, h4, h2, h3⟩ := key
  refine ⟨⟨o, h4, h2⟩, fun a e => ?_⟩
  cases e
  exact ⟨o, h4, h3⟩
def tBMW (K : PySem.W.Frag) (r : V → List V → Hp → VK → Prop) (to : TE) (t : TA) : TE := fun σ H Q => to σ H fun x H1 => tyW K x H1 ∧ t σ H1 fun xs H2 => r x xs H2 Q
theorem pe_bmW {o e : Expr} {es : List Expr} {to : TE} {t : TA} {name : Str} {apos cpos : Pos} {id : String} {r : V → List V → Hp → VK → Prop} (pa : PlainAttrs "tuple") (slot : Slot "tuple" name id) (hty : typeOf (.builtin id) = pure (.type "method_descriptor")) (hm : MtR X id r) (ho : PE X o to) (ha : PA X (e :: es) t)
    (hbase : attributeBase o name X.env (eval o X.env) = eval o X.env)
    (hfew : ((backTo cpos (starEach (e :: es) X.env)).all (fun x => !x.1) && (backToKw cpos (keywordEach [] X.env)).all (fun x => x.1.isSome)
      && decide ((e :: es).length + ([] : List Keyword).length + (if ([] : List Keyword).isEmpty then 0 else 1) < 30)) = true)
    (hline : (apos.endLine == cpos.line) = true) (hs : starEach (e :: es) X.env = (false, eval e X.env) :: starEach es X.env) (hplain : (backTo cpos (starEach es X.env)).any (·.1) = false) :
    PE X (.Call (.Attribute o name apos) (e :: es) [] cpos) (tBMW X.K r to t) := by
  refine ⟨fun pins s σ H Q I h => ?_⟩
  refine wpAny_Call_method_late hbase hfew hline rfl (thn (ho.run pins s σ H _ I h) fun v s1 ⟨x, H1, I1, r1, ty, q1⟩ => ?_)
  obtain ⟨h1, h2⟩ := tyW_is I1 r1 ty
  refine ⟨"tuple", id, pa, slot, hty, h1, h2, ?_⟩
  have hA := ha.run cpos pins s1 σ H1 _ I1 q1
  rw [hs] at hA ⊢
  refine Calls.callWith_builtin (by show (false || (backTo cpos (starEach es X.env)).any (·.1)) = false; rw [hplain] <;> rfl) (Calls.evalArgs_plain ?_)
  exact thn hA fun us s2 ⟨vs, H2, I2, r2, q2⟩ => hm pins s2 σ H2 x vs v us Q I2 r1 r2 q2
def fIndexW (x y : D) : Option D := match x with
  | .wtp xs => fIndex (.wtp xs) y
  | _ => none
theorem ed_indexW {apos : Pos} (ha : ED T X a da) (hb : ED T X b db) (hbase : attributeBase a "index" X.env (eval a X.env) = eval a X.env := by rfl)
    (hfew : ((backTo pos (starEach [b] X.env)).all (fun x => !x.1) && (backToKw pos (keywordEach [] X.env)).all (fun x => x.1.isSome)
      && decide (([b] : List Expr).length + ([] : List Keyword).length + (if ([] : List Keyword).isEmpty then 0 else 1) < 30)) = true := by rfl)
    (hline : (apos.endLine == pos.line) = true := by rfl) (hs : starEach [b] X.env = (false, eval b X.env) :: starEach [] X.env := by rfl) : ED T X (.Call (.Attribute a "index" apos) [b] [] pos) (d2 fIndexW da db) := fun hT =>
  peImp (pe_bmW (cpos := pos) PySem.F.plainAttrs_tuple PySem.F.slot_tuple_index PySem.F.type_tuple_index mt_tup_index (ha hT) (pa_cons (hb hT) pa_nil hs) hbase hfew hline hs rfl) fun σ H Q h => by
    obtain ⟨B, ρ, d, F, e, s, er, q⟩ := h
    unfold d2 at e
    split at e
    · rename_i x hx
      split at e
      · rename_i y hy
        unfold fIndexW at e
        split at e
        · rename_i l
          refine ⟨B, ρ, .wtp l, F, hx, s, er, fun v H1 F1 g1 r1 => ?_⟩
          cases r1 with
          | @wtp p vs ds h r =>
            have h1 := h.mono g1.sub
            have hw := h1.2
            rw [hT] at hw
            refine ⟨⟨p, rfl, hw.elim (fun ⟨o, z1, z2⟩ => .inl ⟨o, vs, z1, z2⟩) .inr⟩, B, ρ, y, F1, hy, g1.sub, er.grow g1, fun u H2 F2 g2 r2 => ?_⟩
            unfold fIndex at e
            split at e
            · rename_i ds' hds
              cases hds
              split at e
              · rename_i ys hys
                split at e
                · rename_i z
                  split at e
                  · rename_i j hj
                    cases e
                    have ev := strsOf_rep hys r
                    subst ev
                    cases r2
                    obtain ⟨h3, h4⟩ := idxS_spec hj
                    have h5 := (h.mono (g2.frz.trans g2.sub)).1
                    rw [hT] at h5
                    exact ⟨p, ys, z, j, rfl, rfl, h5, h3, h4, q _ _ _ (g1.trans g2) (.int _)⟩
                  · cases e
                · cases e
              · cases e
            · cases e
        · cases e
      · cases e
    · cases e

/-! ### isinstance -/
inductive Ty where
  | non | bool | int | str | list | tuple
def Ty.nm : Ty → String
  | .non => "NoneType"
  | .bool => "bool"
  | .int => "int"
  | .str => "str"
  | .list => "list"
  | .tuple => "tuple"
def tyD : D → Option Ty
  | .non => some .non
  | .bl _ => some .bool
  | .int _ => some .int
  | .str _ => some .str
  | .lst _ => some .list
  | .tup _ => some .tuple
  | .wtp _ => some .tuple
  | _ => none
def isTy : Ty → Ty → Bool
  | .non, .non => true
  | .bool, .bool => true
  | .bool, .int => true
  | .int, .int => true
  | .str, .str => true
  | .list, .list => true
  | .tuple, .tuple => true
  | _, _ => false
theorem isTy_kit (a b : Ty) : kitB a.nm b.nm = some (isTy a b) := by
  cases a <;> cases b <;> decide +kernel
theorem tyX_of (hT : T.K = X.K) {F H : Hp} (s : Same F H) {d : D} {v : V} {t : Ty} (e : tyD d = some t) (r : Rep T F d v) : TyX X.K H v (.type t.nm) := by
  cases r with
  | non => cases e; exact .base .non
  | bl b => cases e; exact .base (.bl b)
  | int i => cases e; exact .base (.int i)
  | str x => cases e; exact .base (.str x)
  | lst h r =>
    cases e
    rw [hT] at h
    rcases s.seq h with (h | ⟨o, h⟩) | ⟨o, _, _, h1, h2, _⟩
    · exact .base (.lst h)
    · exact .base (.frz h)
    · exact .kList h1 h2
  | tup h r => cases e; exact .base (.tup (s _ _ h))
  | wtp h r =>
    cases e
    have h := (h.mono s).1
    rw [hT] at h
    rcases h with (h | ⟨o, h⟩) | ⟨o, _, _, h1, h2, _⟩
    · exact .base (.tup h)
    · exact .fTuple h
    · exact .kTuple h1 h2
  | _ => cases e
def fIs (t : Ty) (d : D) : Option Bool := match tyD d with
  | some u => some (isTy u t)
  | none => none
theorem ed_isi (t : Ty) {x : Str} {p p2 : Pos} (hm : X.mg "isinstance" = none) (hm2 : X.mg x = none) (hv : bootBuiltins x = some (.type t.nm)) (ha : ED T X a da) (hg : Gl X "isinstance" := by exact rfl) (hg2 : Gl X x := by exact rfl) (hn : x ≠ "__name__" := by decide) (hdb : (x == ("__debug__" : Str)) = false := by decide)
    (he : starEach [a, .Name x p2] X.env = (false, eval a X.env) :: starEach [.Name x p2] X.env := by rfl) (he2 : starEach [.Name x p2] X.env = (false, eval (.Name x p2) X.env) :: starEach [] X.env := by rfl) (hpl : (backTo pos (starEach [.Name x p2] X.env)).any (·.1) = false := by rfl) :
    ED T X (.Call (.Name "isinstance" p) [a, .Name x p2] [] pos) (dB (t1 (fIs t) da)) := fun hT =>
  peImp (pe_callB call_isi hg hm (by decide +kernel) (pa_cons (ha hT) (pa_cons (pe_bltn (v := .ty t.nm) hg2 hm2 hv rfl hn hdb) pa_nil he2) he) (by decide) (by decide) he hpl) fun σ H Q h => by
    obtain ⟨B, ρ, d, F, e, s, er, q⟩ := h
    unfold dB t1 at e
    cases ea : da ρ with
    | none => rw [ea] at e; cases e
    | some y =>
      rw [ea] at e
      refine ⟨B, ρ, y, F, ea, s, er, fun v H1 F1 g1 r1 => ?_⟩
      unfold fIs at e
      cases et : tyD y with
      | none => simp only [et] at e; cases e
      | some u =>
        simp only [et] at e
        cases e
        exact ⟨v, .ty t.nm, .type u.nm, .type t.nm, isTy u t, rfl, .ty _, tyX_of hT g1.sub et r1, kit_ty (isTy_kit u t), q _ _ _ g1 (.bl _)⟩

/-! ### dicts read -/
def lookK (k : Str) : List Str → List D → Option D
  | x :: xs, d :: ds => match seqS x k with
    | true => some d
    | false => lookK k xs ds
  | _, _ => none
def seqSs : List Str → List Str → Bool
  | [], [] => true
  | x :: xs, y :: ys => match seqS x y with
    | true => seqSs xs ys
    | false => false
  | _, _ => false
def lookT (k : List Str) : List (List Str) → List D → Option D
  | x :: xs, d :: ds => match seqSs x k with
    | true => some d
    | false => lookT k xs ds
  | _, _ => none
theorem seqS_iff {x y : Str} : seqS x y = true ↔ x = y := by
  unfold seqS
  rw [decide_eq_true_iff]
  exact str_eq_iff.symm
theorem seqSs_iff : ∀ {x y : List Str}, seqSs x y = true ↔ x = y
  | [], [] => ⟨fun _ => rfl, fun _ => rfl⟩
  | [], _ :: _ => ⟨fun h => (nomatch h), fun h => (nomatch h)⟩
  | _ :: _, [] => ⟨fun h => (nomatch h), fun h => (nomatch h)⟩
  | x :: xs, y :: ys => by
    unfold seqSs
    cases h : seqS x y with
    | true =>
      rw [seqS_iff.mp h]
      constructor
      · intro q
        rw [seqSs_iff.mp q]
      · intro q
        exact seqSs_iff.mpr (List.cons.inj q).2
    | false =>
      constructor
      · intro q; cases q
      · intro q
        rw [seqS_iff.mpr (List.cons.inj q).1] at h
        cases h
theorem lookK_rep {F : Hp} {k : Str} {d : D} : ∀ {ks : List Str} {ds : List D} {vs : List V}, lookK k ks ds = some d → Reps T F ds vs → ∃ v, valV ((ks.map Sum.inr : List Key).zip vs) (Sum.inr k) = some v ∧ Rep T F d v
  | [], _, _, e, _ => by unfold lookK at e; cases e
  | x :: xs, [], _, e, _ => by unfold lookK at e; cases e
  | x :: xs, d0 :: ds, _, e, .cons h t => by
    unfold lookK at e
    cases hx : seqS x k with
    | true =>
      rw [hx] at e
      cases e
      rw [seqS_iff.mp hx]
      exact ⟨_, valV_pos rfl, h⟩
    | false =>
      rw [hx] at e
      obtain ⟨v, h1, h2⟩ := lookK_rep e t
      refine ⟨v, ?_, h2⟩
      have hn : ¬ (Sum.inr x : Key) = Sum.inr k := fun z => by
        rw [seqS_iff.mpr (Sum.inr.inj z)] at hx
        cases hx
      exact (valV_neg (p := ((Sum.inr x : Key), _)) hn).trans h1
theorem map_inr_inj : ∀ {x y : List Str}, x.map (Sum.inr : Str → Key) = y.map Sum.inr → x = y
  | [], [], _ => rfl
  | [], _ :: _, h => by cases h
  | _ :: _, [], h => by cases h
  | x :: xs, y :: ys, h => by
    rw [List.map_cons, List.map_cons] at h
    obtain ⟨h1, h2⟩ := List.cons.inj h
    rw [Sum.inr.inj h1, map_inr_inj h2]
theorem lookT_rep {F : Hp} {k : List Str} {d : D} : ∀ {ks : List (List Str)} {ds : List D} {vs : List V}, lookT k ks ds = some d → Reps T F ds vs → ∃ v, valV ((ks.map fun k => k.map Sum.inr : List (List Key)).zip vs) (k.map Sum.inr) = some v ∧ Rep T F d v
  | [], _, _, e, _ => by unfold lookT at e; cases e
  | x :: xs, [], _, e, _ => by unfold lookT at e; cases e
  | x :: xs, d0 :: ds, _, e, .cons h t => by
    unfold lookT at e
    cases hx : seqSs x k with
    | true =>
      rw [hx] at e
      cases e
      rw [seqSs_iff.mp hx]
      exact ⟨_, valV_pos rfl, h⟩
    | false =>
      rw [hx] at e
      obtain ⟨v, h1, h2⟩ := lookT_rep e t
      refine ⟨v, ?_, h2⟩
      have hn : ¬ x.map (Sum.inr : Str → Key) = k.map Sum.inr := fun z => by
        rw [seqSs_iff.mpr (map_inr_inj z)] at hx
        cases hx
      exact (valV_neg (p := (x.map (Sum.inr : Str → Key), _)) hn).trans h1
def fGet (x y : D) : Option D := match x with
  | .dK ks ds => (match y with
    | .str k => lookK k ks ds
    | _ => none)
  | .dT ks ds => (match y with
    | .tup xs => (match strsOf xs with
      | some k => lookT k ks ds
      | none => none)
    | _ => none)
  | _ => none
theorem strs_kV (ys : List Str) : ys.map V.str = (ys.map (Sum.inr : Str → Key)).map kV := by
  rw [List.map_map]
  rfl
theorem ed_get (hr : Room k X.A) (ha : ED T X a da) (hb : ED T X b db) (hs : NoSl b := by exact fun _ _ => rfl) : ED T X (.Subscript a b pos) (d2 fGet da db) := fun hT =>
  peImp (pe_dget (hu_of hr) (ha hT) (hb hT) hs) fun σ H Q h => by
    obtain ⟨B, ρ, d, F, e, s, er, q⟩ := h
    unfold d2 at e
    split at e
    · rename_i x hx
      split at e
      · rename_i y hy
        refine ⟨B, ρ, x, F, hx, s, er, fun v H1 F1 g1 r1 => ⟨B, ρ, y, F1, hy, g1.sub, er.grow g1, fun u H2 F2 g2 r2 => ?_⟩⟩
        unfold fGet at e
        split at e
        · split at e
          · cases r1 with
            | dK h l r =>
              cases r2
              obtain ⟨w, h1, h2⟩ := lookK_rep e r
              exact ⟨_, w, rfl, .inl ⟨_, Sum.inr _, .inl (g2.sub _ _ (g2.frz _ _ h)), rfl, h1.symm⟩, q _ _ _ (g1.trans g2) (h2.mono g2.frz)⟩
          · cases e
        · split at e
          · split at e
            · rename_i kk hk
              cases r1 with
              | dT h l r =>
                cases r2 with
                | tup h2 r2 =>
                  have ev := strsOf_rep hk r2
                  subst ev
                  obtain ⟨w, h3, h4⟩ := lookT_rep e r
                  refine ⟨_, w, rfl, .inr ⟨_, kk.map Sum.inr, _, .inl (g2.sub _ _ (g2.frz _ _ h)), rfl, ?_, h3.symm⟩, q _ _ _ (g1.trans g2) (h4.mono g2.frz)⟩
                  rw [← strs_kV]
                  exact g2.sub _ _ h2
            · cases e
          · cases e
        · cases e
      · cases e
    · cases e

/-! ### a written dict with text keys: N[x], N a module's name -/
/-- what a written dict gives -/
def KGives (T : Tab) (w : World) (d : Addr) (g : Str → Option D) : Prop := ∃ es n, KDict T.K w d es n ∧ ∀ z x, g z = some x → ∃ u v, PySem.W.nsIn T.K d z = some (some u) ∧ RelV v u ∧ ∀ F, Rep T F x v
def dKd (g : Str → Option D) (b : DE) : DE := fun ρ => match b ρ with
  | some (.str z) => g z
  | _ => none
/-- N[x] of a written dict -/
theorem ed_kd {x : Str} {d : Addr} {g : Str → Option D} {p : Pos} (hk : T.K = X.K → KGives T X.w d g) (hm : X.mg x = some (.ref d)) (hb : ED T X b db) (hg : Gl X x := by exact rfl) (hd : (x == ("__debug__" : Str)) = false := by decide) (hs : NoSl b := by exact fun _ _ => rfl) : ED T X (.Subscript (.Name x p) b pos) (dKd g db) := fun hT => by
  refine ⟨fun pins s σ H Q I h => ?_⟩
  obtain ⟨B, ρ, dd, F, e, s1, er, q⟩ := h
  obtain ⟨es, n, D0, hgv⟩ := hk hT
  rw [hT] at D0 hgv
  unfold dKd at e
  split at e
  · rename_i z hz
    obtain ⟨u, v, h1, h2, h3⟩ := hgv z dd e
    refine subD_of (id := "dict.__getitem__") (T := "dict") PySem.F.slot_dict_getitem.lookup hs (ld_glob I hg hm ?_ hd)
    refine thn ((hb hT).run pins s σ H (fun y H1 => ∃ F1, y = .str z ∧ Gr F H F1 H1) I ⟨B, ρ, .str z, F, hz, s1, er, fun v H1 F1 g1 r1 => ⟨F1, by cases r1; rfl, g1⟩⟩) fun u1 s2 ⟨y, H1, I1, r1, F1, ey, g1⟩ => ?_
    subst ey
    exact ⟨kd_type D0 I1, op_item_kd D0 pins s2 σ H1 (.ref d) _ _ _ Q I1 rfl r1 ⟨z, u, v, rfl, rfl, h1, h2, q v H1 F1 g1 (h3 F1)⟩⟩
  · cases e

/-! ### fields, methods of instances -/
/-- what is asked of the class of the instances -/
structure InsF (T : Tab) : Prop where
  cl : Cls T.K T.C
  nd : T.fs.Nodup
  no : ∀ f ∈ T.fs, NoAttr T.K T.C f
theorem look_zip {f : Str} {v : V} : ∀ {fs : List Str} {vs : List V} {i : Nat}, fs.Nodup → fs[i]? = some f → vs[i]? = some v → (fs.zip vs).lookup f = some v
  | [], _, i, _, h, _ => by simp at h
  | x :: xs, [], i, _, _, h => by simp at h
  | x :: xs, y :: ys, 0, _, h1, h2 => by
    have e1 := Option.some.inj h1
    have e2 := Option.some.inj h2
    subst e1 e2
    show List.lookup x ((x, y) :: xs.zip ys) = some y
    simp [List.lookup]
  | x :: xs, y :: ys, i + 1, nd, h1, h2 => by
    obtain ⟨n1, n2⟩ := List.nodup_cons.mp nd
    have h1' : xs[i]? = some f := h1
    have hne : f ≠ x := fun z => n1 (by rw [← z]; exact List.mem_of_getElem? h1')
    have ih := look_zip n2 h1' (show ys[i]? = some v from h2)
    show List.lookup f ((x, y) :: xs.zip ys) = some v
    have hb : (f == x) = false := beq_eq_false_iff_ne.mpr hne
    simp only [List.lookup, hb]
    exact ih
theorem look_none {f : Str} : ∀ {fs : List Str} {vs : List V}, f ∉ fs → (fs.zip vs).lookup f = none
  | [], _, _ => rfl
  | x :: xs, [], _ => rfl
  | x :: xs, y :: ys, h => by
    have hne : f ≠ x := fun z => h (z ▸ List.mem_cons_self)
    have hb : (f == x) = false := beq_eq_false_iff_ne.mpr hne
    show List.lookup f ((x, y) :: xs.zip ys) = none
    simp only [List.lookup, hb]
    exact look_none fun z => h (List.mem_cons_of_mem _ z)
def fFld (i : Nat) (x : D) : Option D := match x with
  | .ins ds => nthD ds i
  | _ => none
theorem ed_fld (i : Nat) {f : Str} (hI : T.K = X.K → InsF T) (hf : T.fs[i]? = some f) (ha : ED T X a da) (hb : attributeBase a f X.env (eval a X.env) = eval a X.env := by rfl) : ED T X (.Attribute a f pos) (d1 (fFld i) da) := fun hT =>
  peImp (pe_fld (ha hT) hb) fun σ H Q h => by
    obtain ⟨B, ρ, d, F, e, s, er, q⟩ := h
    have c := hI hT
    unfold d1 at e
    split at e
    · rename_i x hx
      refine ⟨B, ρ, x, F, hx, s, er, fun v H1 F1 g1 r1 => ?_⟩
      unfold fFld at e
      split at e
      · cases r1 with
        | @ins p dx vs ds h l r =>
          obtain ⟨w, hw, rw'⟩ := r.get (nthD_get e)
          have h1 := c.cl
          have h2 := c.no f (List.mem_of_getElem? hf)
          rw [hT] at h1 h2
          exact ⟨p, T.C, dx, _, w, rfl, g1.sub _ _ h, h1, h2, look_zip c.nd hf hw, q w _ _ g1 rw'⟩
      · cases e
    · cases e
/-- a method of the class by its name -/
structure Mdef (T : Tab) (P : Program) (w : World) (mg : Str → Option Value) (base : Heap) (k : Nat) (m : Str) (n : Nat) (g : List D → Option D) : Prop where
  no : m ∉ T.fs
  ex : ∃ (f : Addr) (fd : FuncData) (ps : List Str), FnOk P w T.K mg base CX0 k f fd ps (spD T n g) ∧ Meth T.K T.C m f ∧ Binds T.K fd ps []
def isIns : D → Bool
  | .ins _ => true
  | _ => false
def dMeth (g : List D → Option D) (o : DE) (a : DA) : DE := fun ρ => match o ρ with
  | some x => (match isIns x with
    | true => (match a ρ with
      | some xs => g (x :: xs)
      | none => none)
    | false => none)
  | none => none
theorem ed_meth {o : Expr} {dob : DE} {m : Str} {n : Nat} {g : List D → Option D} {apos : Pos} {pl : Sem Bool} (hI : T.K = X.K → InsF T) (M : Mdef T X.prog X.w X.mg X.base k m n g) (hr : Room k X.A) (ho : ED T X o dob) (ha : AD T X (e :: es) dar) (hn : (e :: es).length + 1 = n := by rfl)
    (hst : starEach (e :: es) X.env = (false, eval e X.env) :: starEach es X.env := by rfl) (hpl : (backTo pos (starEach es X.env)).any (·.1) = false := by rfl)
    (ht : eval (.Call (.Attribute o m apos) (e :: es) [] pos) X.env = (do
      let ov ← eval o X.env
      standAt apos.atName
      let (f, first) ← holding [ov] (getMethod ov m pl)
      callWith pos f first (backTo pos (starEach (e :: es) X.env)) (backToKw pos (keywordEach [] X.env))) := by rfl) :
    ED T X (.Call (.Attribute o m apos) (e :: es) [] pos) (dMeth g dob dar) := fun hT => by
  obtain ⟨f, fd, ps, G, hm, hb⟩ := M.ex
  have c := (hI hT).cl
  rw [hT] at G hm hb c
  refine peImp (pe_meth (pl := pl) (E := E0) (ho hT) c hm G hr hb .nil pass0 (ha.run hT) hst hpl ht) fun σ H Q h => ?_
  obtain ⟨B, ρ, d, F, e, s, er, q⟩ := h
  unfold dMeth at e
  split at e
  · rename_i x hx
    split at e
    · rename_i hi
      split at e
      · rename_i xs h1
        refine ⟨B, ρ, x, F, hx, s, er, fun v H1 F1 g1 r1 => ?_⟩
        cases id r1 with
        | @ins p dx vs ds h l r =>
          refine ⟨p, dx, _, rfl, g1.sub _ _ h, look_none M.no, B, ρ, xs, F1, h1, g1.sub, er.grow g1, fun us H2 F2 g2 r2 => ?_⟩
          show spD T n g (V.ref p :: (us ++ [])) H2 Q E0
          rw [List.append_nil]
          exact ⟨F2, .ins ds :: xs, d, by rw [List.length_cons, ha.len ρ xs h1]; exact hn, g2.sub, .cons (r1.mono g2.frz) r2, e, fun v H3 F3 g3 r3 => q v H3 F3 (g1.trans (g2.trans g3)) r3⟩
        | _ => cases hi
      · cases e
    · cases e
  · cases e
theorem ed_meth0 {o : Expr} {dob : DE} {m : Str} {g : List D → Option D} {apos : Pos} {pl : Sem Bool} (hI : T.K = X.K → InsF T) (M : Mdef T X.prog X.w X.mg X.base k m 1 g) (hr : Room k X.A) (ho : ED T X o dob)
    (ht : eval (.Call (.Attribute o m apos) [] [] pos) X.env = (do
      let ov ← eval o X.env
      standAt apos.atName
      let (f, first) ← holding [ov] (getMethod ov m pl)
      callWith pos f first (backTo pos (starEach [] X.env)) (backToKw pos (keywordEach [] X.env))) := by rfl) :
    ED T X (.Call (.Attribute o m apos) [] [] pos) (dMeth g dob aNil) := fun hT => by
  obtain ⟨f, fd, ps, G, hm, hb⟩ := M.ex
  have c := (hI hT).cl
  rw [hT] at G hm hb c
  refine peImp (pe_meth0 (pl := pl) (E := E0) (ho hT) c hm G hr hb .nil pass0 ht) fun σ H Q h => ?_
  obtain ⟨B, ρ, d, F, e, s, er, q⟩ := h
  unfold dMeth aNil at e
  split at e
  · rename_i x hx
    split at e
    · rename_i hi
      refine ⟨B, ρ, x, F, hx, s, er, fun v H1 F1 g1 r1 => ?_⟩
      cases id r1 with
      | @ins p dx vs ds h l r =>
        exact ⟨p, dx, _, rfl, g1.sub _ _ h, look_none M.no, F1, [.ins ds], d, rfl, g1.sub, .cons r1 .nil, e, fun v H3 F3 g3 r3 => q v H3 F3 (g1.trans g3) r3⟩
      | _ => cases hi
    · cases e
  · cases e

/-! ### a def held by a local name -/
/-- the def of a number -/
structure Ldef (T : Tab) (P : Program) (w : World) (mg : Str → Option Value) (base : Heap) (k : Nat) (i n : Nat) (g : List D → Option D) : Prop where
  ex : ∃ (f : Addr) (fd : FuncData) (ps : List Str), FnOk P w T.K mg base CX0 k f fd ps (spD T n g) ∧ T.fa i = some f ∧ PySem.W.keepIn T.K (.ref f) = true ∧ Binds T.K fd ps []
def dCallL (tab : Nat → Option (List D → Option D)) (i : Nat) (a : DA) : DE := fun ρ => match dVar i ρ with
  | some (.fn n) => (match tab n with
    | some g => (match a ρ with
      | some xs => g xs
      | none => none)
    | none => none)
  | _ => none
theorem ed_callL (i : Nat) {n : Nat} {tab : Nat → Option (List D → Option D)} {x : Str} {p : Pos} (L : ∀ j g, tab j = some g → Ldef T X.prog X.w X.mg X.base k j n g) (hr : Room k X.A) (ha : AD T X (e :: es) dar) (hn : (e :: es).length = n := by rfl) (hN : X.N[i]? = some x := by rfl)
    (hv : Vis X.env.scope x := by first | exact Or.inl rfl | exact Or.inr (Or.inl rfl) | exact Or.inr (Or.inr rfl)) (hdb : (x == ("__debug__" : Str)) = false := by decide) (hcd : (x == ("__classdict__" : Str)) = false := by decide)
    (he : starEach (e :: es) X.env = (false, eval e X.env) :: starEach es X.env := by rfl) (hpl : (backTo pos (starEach es X.env)).any (·.1) = false := by rfl) : ED T X (.Call (.Name x p) (e :: es) [] pos) (dCallL tab i dar) := fun hT => by
  refine ⟨fun pins s σ H Q I h => ?_⟩
  obtain ⟨B, ρ, d, F, e, s1, er, q⟩ := h
  unfold dCallL at e
  split at e
  · rename_i j hj
    split at e
    · rename_i g hg
      split at e
      · rename_i xs h1
        obtain ⟨f, fd, ps, G, hfa, hk, hb⟩ := (L j g hg).ex
        rw [hT] at G hk hb
        refine (pe_callL (i := i) (E := E0) G hr hN hv hk hb .nil pass0 (ha.run hT) hdb hcd he hpl).run pins s σ H Q I ⟨?_, B, ρ, xs, F, h1, s1, er, fun vs H1 F1 g1 r1 => ?_⟩
        · unfold dVar at hj
          split at hj
          · rename_i d' hd
            cases hj
            obtain ⟨v, ev, rv⟩ := er.sh (atS_get hd (fun z => nomatch z))
            cases rv with
            | fn hfa' =>
              rw [hfa] at hfa'
              cases hfa'
              exact ev
          · cases hj
        · show spD T n g (vs ++ []) H1 Q E0
          rw [List.append_nil]
          exact ⟨F1, xs, d, (ha.len ρ xs h1).trans hn, g1.sub, r1, e, fun v H2 F2 g2 r2 => q v H2 F2 (g1.trans g2) r2⟩
      · cases e
    · cases e
  · cases e
theorem ed_callL0 (i : Nat) {tab : Nat → Option (List D → Option D)} {x : Str} {p : Pos} (L : ∀ j g, tab j = some g → Ldef T X.prog X.w X.mg X.base k j 0 g) (hr : Room k X.A) (hN : X.N[i]? = some x := by rfl)
    (hv : Vis X.env.scope x := by first | exact Or.inl rfl | exact Or.inr (Or.inl rfl) | exact Or.inr (Or.inr rfl)) (hdb : (x == ("__debug__" : Str)) = false := by decide) (hcd : (x == ("__classdict__" : Str)) = false := by decide) :
    ED T X (.Call (.Name x p) [] [] pos) (dCallL tab i aNil) := fun hT => by
  refine ⟨fun pins s σ H Q I h => ?_⟩
  obtain ⟨B, ρ, d, F, e, s1, er, q⟩ := h
  unfold dCallL aNil at e
  split at e
  · rename_i j hj
    split at e
    · rename_i g hg
      obtain ⟨f, fd, ps, G, hfa, hk, hb⟩ := (L j g hg).ex
      rw [hT] at G hk hb
      have hs : σ[i]? = some (some (.ref f)) := by
        unfold dVar at hj
        split at hj
        · rename_i d' hd
          cases hj
          obtain ⟨v, ev, rv⟩ := er.sh (atS_get hd (fun z => nomatch z))
          cases rv with
          | fn hfa' =>
            rw [hfa] at hfa'
            cases hfa'
            exact ev
        · cases hj
      refine wpAny_Call_Name_kw (thn ((pe_var (pos := p) hN hv hdb hcd).run pins s σ H (fun v H1 => v = .ref f ∧ H1 = H) I ⟨.ref f, hs, rfl, rfl⟩) fun u s2 ⟨v, H1, I1, r1, q1⟩ => ?_)
      obtain ⟨rfl, rfl⟩ := q1
      cases r1
      exact PySem.W.callWith_K0 I1.kIn hk (run_fn (us := []) (vs := []) (E := E0) G hr hb .nil pass0 I1 .nil ⟨F, [], d, rfl, s1, .nil, e, q⟩)
    · cases e
  · cases e
/-- f() of the module -/
theorem ed_call0 {x : Str} {p : Pos} {g : List D → Option D} (Fn : Def T X.prog X.w X.mg X.base k x 0 g) (hr : Room k X.A) (hg : Gl X x := by exact rfl) (hdb : (x == ("__debug__" : Str)) = false := by decide) : ED T X (.Call (.Name x p) [] [] pos) (dCall g aNil) := fun hT => by
  obtain ⟨f, fd, ps, G, hm, hk, hb⟩ := Fn.ex
  rw [hT] at G hk hb
  refine peImp (pe_call0 (E := E0) G hr hg hm hk hb .nil pass0 hdb) fun σ H Q h => ?_
  obtain ⟨B, ρ, d, F, e, s, er, q⟩ := h
  exact ⟨F, [], d, rfl, s, .nil, e, q⟩
end
end PD
end
section
set_option Elab.async false
set_option linter.all false
set_option maxRecDepth 100000
/-! PD10: what a def fills: new lists and dicts, append, d[k] = v, d.setdefault(k, []).append(v), frozen at last. -/
namespace PD
open PySem PySem.Spec PyProof.Rows L2

/-! ### the heap beside some objects -/
def dls (H : Hp) (fp : List Addr) : Hp := fun b => if b ∈ fp then none else H b
theorem dls_out {H : Hp} {fp : List Addr} {b : Addr} (h : b ∉ fp) : dls H fp b = H b := if_neg h
theorem dls_in {H : Hp} {fp : List Addr} {b : Addr} (h : b ∈ fp) : dls H fp b = none := if_pos h
theorem dls_some {H : Hp} {fp : List Addr} {b : Addr} {o : HO} (h : dls H fp b = some o) : b ∉ fp ∧ H b = some o := by
  by_cases e : b ∈ fp
  · rw [dls_in e] at h; cases h
  · rw [dls_out e] at h
    exact ⟨e, h⟩
theorem dls_same {H : Hp} {fp : List Addr} : Same (dls H fp) H := fun _ _ h => (dls_some h).2
/-- objects of a def's own -/
structure Mine (B F H : Hp) (fp : List Addr) : Prop where
  nF : ∀ b ∈ fp, F b = none
  nB : ∀ b ∈ fp, B b = none
  at_ : ∀ b ∈ fp, ∃ o, H b = some o
theorem Mine.grow {B F H F' H' : Hp} {fp : List Addr} (m : Mine B F H fp) (g : Gr F H F' H') : Mine B F' H' fp :=
  ⟨fun b hb => let ⟨o, h⟩ := m.at_ b hb; g.free h (m.nF b hb), m.nB, fun b hb => let ⟨o, h⟩ := m.at_ b hb; ⟨o, g.same _ _ h⟩⟩
theorem Gr.besL {B F H F' H' : Hp} {fp : List Addr} (g : Gr F H F' H') (m : Mine B F H fp) : Gr F (dls H fp) F' (dls H' fp) := by
  have m' := m.grow g
  refine ⟨fun b o h => ?_, g.frz, fun b o h => ?_, fun b o h => ?_⟩
  · obtain ⟨h1, h2⟩ := dls_some h
    rw [dls_out h1]
    exact g.same b o h2
  · have hb : b ∉ fp := fun z => by rw [m'.nF b z] at h; cases h
    rw [dls_out hb]
    exact g.sub b o h
  · rcases g.fresh b o h with q | q
    · exact .inl q
    · refine .inr ?_
      have hb : b ∉ fp := fun z => by
        obtain ⟨u, e⟩ := m.at_ b z
        rw [e] at q; cases q
      rw [dls_out hb]
      exact q
theorem Gr.unbL {F H : Hp} {fp : List Addr} (s : Same F (dls H fp)) : Gr F (dls H fp) F H := ⟨dls_same, Same.refl _, s.trans dls_same, fun _ _ z => .inl z⟩
theorem sub_dls {B F H : Hp} {fp : List Addr} (s : Same F H) (m : Mine B F H fp) : Same F (dls H fp) := fun b o h => by
  have hb : b ∉ fp := fun z => by rw [m.nF b z] at h; cases h
  rw [dls_out hb]
  exact s b o h
/-- the own objects are changed -/
theorem Gr.mut {F0 B F H H' : Hp} {fp : List Addr} (g : Gr F0 B F H) (m : Mine B F H fp) (k : ∀ b o, b ∉ fp → H b = some o → H' b = some o) : Gr F0 B F H' := by
  refine ⟨fun b o h => ?_, g.frz, fun b o h => ?_, g.fresh⟩
  · have hb : b ∉ fp := fun z => by rw [m.nB b z] at h; cases h
    exact k b o hb (g.same b o h)
  · have hb : b ∉ fp := fun z => by rw [m.nF b z] at h; cases h
    exact k b o hb (g.sub b o h)

section
variable {T : Tab} {B F H : Hp} {ρ : Rho} {σ : L2.St} {i : Nat}
theorem EnvR.setNo (r : EnvR T B F H ρ σ) (i : Nat) (x : Option V) : EnvR T B F H (ρ.set i .no) (σ.set i x) := by
  have q := r.no i
  obtain ⟨fp, h1, h2, h3, h4⟩ := q.ex
  refine ⟨by rw [List.length_set, List.length_set, r.len], fp, h1, h2, h3, fun j s e => ?_⟩
  by_cases hj : j = i
  · subst hj
    have hlt : j < ρ.length := by
      have := (List.getElem?_eq_some_iff.mp e).1
      simpa using this
    have z := h4 j s e
    rw [List.getElem?_set_self hlt] at e
    have e' := Option.some.inj e
    subst e'
    exact z
  · have z := h4 j s e
    rw [List.getElem?_set_ne (Ne.symm hj)] at z ⊢
    exact z
/-- an own object is taken out -/
theorem EnvR.take {o : OD} (r : EnvR T B F H ρ σ) (e : ρ[i]? = some (.ow o)) : ∃ a fp, σ[i]? = some (some (.ref a)) ∧ OwnR T F H o a fp ∧ Mine B F H fp ∧ EnvR T B F (dls H fp) (ρ.set i .no) σ := by
  obtain ⟨fp, h1, h2, h3, h4⟩ := r.ex
  obtain ⟨a, e1, ow⟩ := h4 i _ e
  refine ⟨a, fp i, e1, ow, ⟨fun b hb => (h2 i b hb).1, fun b hb => (h2 i b hb).2.1, fun b hb => (h2 i b hb).2.2⟩, ?_⟩
  have out : ∀ j b, j ≠ i → b ∈ fp j → b ∉ fp i := fun j b hj hb z => hj (h1 j i b hb z)
  refine ⟨by rw [List.length_set]; exact r.len, fun j => if j = i then [] else fp j, fun j k b hb hk => ?_, fun j b hb => ?_, fun j ej => ?_, fun j s ej => ?_⟩
  · have hb' : b ∈ (if j = i then [] else fp j) := hb
    have hk' : b ∈ (if k = i then [] else fp k) := hk
    by_cases hj : j = i
    · rw [if_pos hj] at hb'; cases hb'
    · by_cases hki : k = i
      · rw [if_pos hki] at hk'; cases hk'
      · rw [if_neg hj] at hb'; rw [if_neg hki] at hk'
        exact h1 j k b hb' hk'
  · have hb' : b ∈ (if j = i then [] else fp j) := hb
    by_cases hj : j = i
    · rw [if_pos hj] at hb'; cases hb'
    · rw [if_neg hj] at hb'
      obtain ⟨q1, q2, q3⟩ := h2 j b hb'
      exact ⟨q1, q2, by rw [dls_out (out j b hj hb')]; exact q3⟩
  · show (if j = i then [] else fp j) = []
    by_cases hj : j = i
    · rw [if_pos hj]
    · rw [if_neg hj]
      rw [List.getElem?_set_ne (Ne.symm hj)] at ej
      exact h3 j ej
  · show SlR T F (dls H (fp i)) s (if j = i then [] else fp j) _
    by_cases hj : j = i
    · subst hj
      rw [if_pos rfl]
      have hlt : j < ρ.length := (List.getElem?_eq_some_iff.mp e).1
      rw [List.getElem?_set_self hlt] at ej
      have e' := Option.some.inj ej
      subst e'
      rfl
    · rw [if_neg hj]
      rw [List.getElem?_set_ne (Ne.symm hj)] at ej
      have z := h4 j s ej
      cases s with
      | no => exact z
      | sh d => exact z
      | ow o' =>
        obtain ⟨a', e2, ow'⟩ := z
        refine ⟨a', e2, ?_⟩
        have kp : ∀ b u, b ∈ fp j → H b = some u → dls H (fp i) b = some u := fun b u hb hu => by rw [dls_out (out j b hj hb)]; exact hu
        cases o' with
        | lst ds =>
          obtain ⟨q1, vs, q2, q3⟩ := ow'
          exact ⟨q1, vs, kp _ _ (by rw [q1]; exact List.mem_cons_self) q2, q3⟩
        | dK ks ds =>
          obtain ⟨q1, q4, vs, q2, q3⟩ := ow'
          exact ⟨q1, q4, vs, kp _ _ (by rw [q1]; exact List.mem_cons_self) q2, q3⟩
        | dT ks ds =>
          obtain ⟨q1, q4, vs, q2, q3⟩ := ow'
          exact ⟨q1, q4, vs, kp _ _ (by rw [q1]; exact List.mem_cons_self) q2, q3⟩
        | ins a0 fs ds =>
          obtain ⟨q0, q1, q4, dx, vs, q2, q3⟩ := ow'
          exact ⟨q0, q1, q4, dx, vs, kp _ _ (by rw [q1]; exact List.mem_cons_self) q2, q3⟩
        | gath ks dss =>
          obtain ⟨as, q1, q4, q5, q2, q3⟩ := ow'
          refine ⟨as, q1, q4, q5, kp _ _ (by rw [q1]; exact List.mem_cons_self) q2, ?_⟩
          have all : ∀ {dss : List (List D)} {as : List Addr}, Lists T F H dss as → (∀ b ∈ as, b ∈ fp j) → Lists T F (dls H (fp i)) dss as := by
            intro dss as q
            induction q with
            | nil => intro _; exact .nil
            | cons h r t ih => intro hm; exact .cons (kp _ _ (hm _ List.mem_cons_self) h) r (ih fun b hb => hm b (List.mem_cons_of_mem _ hb))
          exact all q3 fun b hb => by rw [q1]; exact List.mem_cons_of_mem _ hb
/-- .. and given back -/
theorem EnvR.give {o : OD} {a : Addr} {fp : List Addr} (r : EnvR T B F (dls H fp) ρ σ) (hn : ρ[i]? = some .no) (hs : σ[i]? = some (some (.ref a))) (ow : OwnR T F H o a fp) (m : Mine B F H fp) : EnvR T B F H (ρ.set i (.ow o)) σ := by
  obtain ⟨gp, h1, h2, h3, h4⟩ := r.ex
  have hi0 : gp i = [] := h4 i _ hn
  have out : ∀ j b, b ∈ gp j → b ∉ fp := fun j b hb z => by
    obtain ⟨_, _, u, e⟩ := h2 j b hb
    rw [dls_in z] at e; cases e
  have hlt : i < ρ.length := (List.getElem?_eq_some_iff.mp hn).1
  refine ⟨by rw [List.length_set]; exact r.len, fun j => if j = i then fp else gp j, fun j k b hb hk => ?_, fun j b hb => ?_, fun j ej => ?_, fun j s ej => ?_⟩
  · have hb' : b ∈ (if j = i then fp else gp j) := hb
    have hk' : b ∈ (if k = i then fp else gp k) := hk
    by_cases hj : j = i
    · by_cases hki : k = i
      · rw [hj, hki]
      · rw [if_pos hj] at hb'; rw [if_neg hki] at hk'
        exact absurd hb' (out k b hk')
    · by_cases hki : k = i
      · rw [if_neg hj] at hb'; rw [if_pos hki] at hk'
        exact absurd hk' (out j b hb')
      · rw [if_neg hj] at hb'; rw [if_neg hki] at hk'
        exact h1 j k b hb' hk'
  · have hb' : b ∈ (if j = i then fp else gp j) := hb
    by_cases hj : j = i
    · rw [if_pos hj] at hb'
      exact ⟨m.nF b hb', m.nB b hb', m.at_ b hb'⟩
    · rw [if_neg hj] at hb'
      obtain ⟨q1, q2, u, q3⟩ := h2 j b hb'
      exact ⟨q1, q2, u, (dls_some q3).2⟩
  · show (if j = i then fp else gp j) = []
    by_cases hj : j = i
    · subst hj
      rw [List.getElem?_set_self hlt] at ej
      cases ej
    · rw [if_neg hj]
      rw [List.getElem?_set_ne (Ne.symm hj)] at ej
      exact h3 j ej
  · show SlR T F H s (if j = i then fp else gp j) _
    by_cases hj : j = i
    · subst hj
      rw [if_pos rfl]
      rw [List.getElem?_set_self hlt] at ej
      have e' := Option.some.inj ej
      subst e'
      exact ⟨a, hs, ow⟩
    · rw [if_neg hj]
      rw [List.getElem?_set_ne (Ne.symm hj)] at ej
      exact (h4 j s ej).mono (Same.refl _) dls_same
end
end PD
end
section
set_option Elab.async false
set_option linter.all false
set_option maxRecDepth 100000
/-! PD11: the statements that fill own lists, dicts, instances. -/
namespace PD
open PySem PySem.Spec PyProof.Rows L2

theorem dls_new {H : Hp} {p : Addr} {o : HO} (h : H p = none) : dls (upd H p o) [p] = H := by
  funext b
  by_cases e : b = p
  · subst e
    rw [dls_in (by simp), h]
  · rw [dls_out (by simpa using e), upd_ne e]
theorem Mine.new {F0 B F H : Hp} (g : Gr F0 B F H) {p : Addr} {o : HO} (h : H p = none) : Mine B F (upd H p o) [p] := by
  refine ⟨fun b hb => ?_, fun b hb => ?_, fun b hb => ?_⟩
  · have e : b = p := by simpa using hb
    rw [e]; exact g.sub.free h
  · have e : b = p := by simpa using hb
    rw [e]; exact g.same.free h
  · have e : b = p := by simpa using hb
    rw [e]; exact ⟨o, upd_same⟩
theorem upd_out {H : Hp} {p : Addr} {o : HO} {fp : List Addr} (hp : p ∈ fp) : ∀ b u, b ∉ fp → H b = some u → upd H p o b = some u := fun b u hb hu => by
  rw [upd_ne (fun z => hb (by rw [z]; exact hp))]
  exact hu
theorem dls_upd {H : Hp} {p : Addr} {o : HO} {fp : List Addr} (hp : p ∈ fp) : dls (upd H p o) fp = dls H fp := by
  funext b
  by_cases hb : b ∈ fp
  · rw [dls_in hb, dls_in hb]
  · rw [dls_out hb, dls_out hb, upd_ne (fun z => hb (by rw [z]; exact hp))]
theorem Mine.upd {B F H : Hp} {fp : List Addr} {p : Addr} {o : HO} (m : Mine B F H fp) (hp : p ∈ fp) : Mine B F (upd H p o) fp :=
  ⟨m.nF, m.nB, fun b hb => by
    by_cases e : b = p
    · rw [e]; exact ⟨o, upd_same⟩
    · rw [upd_ne e]; exact m.at_ b hb⟩

section
variable {T : Tab} {X : Cx} {e : Expr} {de dk dv : DE} {pos : Pos} {k : Nat}
/-- x = [], x = {} -/
def sNew (i : Nat) (o : OD) : DS := fun ρ => some (.nx (ρ.set i (.ow o)))
theorem new_read {B F0 F H : Hp} {ρ : Rho} {σ : L2.St} {i : Nat} {p : Addr} {o : HO} {od : OD} {Dn : Ends} (g : Gr F0 B F H) (er : EnvR T B F H ρ σ) (hp : H p = none) (ow : OwnR T F (upd H p o) od p [p])
    (hi : i < ρ.length) (q : ∀ σ H F, Gr F0 B F H → EnvR T B F H (ρ.set i (.ow od)) σ → Dn.nx σ H) : Dn.nx (σ.set i (some (.ref p))) (upd H p o) := by
  have m := Mine.new (o := o) g hp
  have e1 : EnvR T B F (dls (upd H p o) [p]) (ρ.set i .no) (σ.set i (some (.ref p))) := by
    rw [dls_new hp]
    exact er.setNo i _
  have e2 := e1.give (i := i) (a := p) (o := od) (by rw [List.getElem?_set_self hi]) (by rw [List.getElem?_set_self (by rw [er.len]; exact hi)]) ow m
  rw [List.set_set] at e2
  exact q _ _ _ (g.trans (Gr.grow g.sub hp)) e2
theorem slot_lt {X : Cx} {ρ : Rho} {σ : L2.St} {B F H : Hp} {i : Nat} (er : EnvR T B F H ρ σ) (h : i < σ.length) : i < ρ.length := by rw [← er.len]; exact h
def sNewG (n i : Nat) (o : OD) : DS := fun ρ => if i < ρ.length then some (.nx (ρ.set i (.ow o))) else none
theorem sd_newL (i : Nat) {x : Str} {pos' p2 : Pos} (hN : X.N.Nodup) (hi : X.N[i]? = some x := by rfl) (hx : Loc X.env.scope x := by first | exact Or.inl rfl | exact Or.inr rfl)
    (hs : swapsWith (.List [] p2) (some (.Name x pos')) pos.line X.env = pure false := by rfl) (hf : X.fn x = true ∨ X.env.scope.names.lookup x = some .local := by first | exact .inl rfl | exact .inr rfl) : SD T X (.Assign [.Name x pos'] (.List [] p2) pos) (sNewG 0 i (.lst [])) := fun hT =>
  psImp (ps_set (i := i) hN hi hx (pe_lst pa_nil) hs hf) fun Dn σ H h => by
    obtain ⟨B, F0, ρ, o, F, e, g, er, q⟩ := h
    unfold sNewG at e
    split at e
    · rename_i hl
      cases e
      exact ⟨Nat.zero_le _, fun p hp => new_read (od := .lst []) g er hp ⟨rfl, [], upd_same, .nil⟩ hl q⟩
    · cases e
theorem sd_newK (i : Nat) {x : Str} {pos' p2 : Pos} (hN : X.N.Nodup) (hi : X.N[i]? = some x := by rfl) (hx : Loc X.env.scope x := by first | exact Or.inl rfl | exact Or.inr rfl)
    (hs : swapsWith (.Dict [] [] p2) (some (.Name x pos')) pos.line X.env = pure false := by rfl) (hf : X.fn x = true ∨ X.env.scope.names.lookup x = some .local := by first | exact .inl rfl | exact .inr rfl) : SD T X (.Assign [.Name x pos'] (.Dict [] [] p2) pos) (sNewG 1 i (.dK [] [])) := fun hT =>
  psImp (ps_set (i := i) hN hi hx pe_dnewK hs hf) fun Dn σ H h => by
    obtain ⟨B, F0, ρ, o, F, e, g, er, q⟩ := h
    unfold sNewG at e
    split at e
    · rename_i hl
      cases e
      exact fun p hp => new_read (od := .dK [] []) g er hp ⟨rfl, rfl, [], upd_same, .nil⟩ hl q
    · cases e
theorem sd_newT (i : Nat) {x : Str} {pos' p2 : Pos} (hN : X.N.Nodup) (hi : X.N[i]? = some x := by rfl) (hx : Loc X.env.scope x := by first | exact Or.inl rfl | exact Or.inr rfl)
    (hs : swapsWith (.Dict [] [] p2) (some (.Name x pos')) pos.line X.env = pure false := by rfl) (hf : X.fn x = true ∨ X.env.scope.names.lookup x = some .local := by first | exact .inl rfl | exact .inr rfl) : SD T X (.Assign [.Name x pos'] (.Dict [] [] p2) pos) (sNewG 2 i (.dT [] [])) := fun hT =>
  psImp (ps_set (i := i) hN hi hx pe_dnewT hs hf) fun Dn σ H h => by
    obtain ⟨B, F0, ρ, o, F, e, g, er, q⟩ := h
    unfold sNewG at e
    split at e
    · rename_i hl
      cases e
      exact fun p hp => new_read (od := .dT [] []) g er hp ⟨rfl, rfl, [], upd_same, .nil⟩ hl q
    · cases e
theorem sd_newD (i : Nat) {x : Str} {pos' p2 : Pos} (hN : X.N.Nodup) (hi : X.N[i]? = some x := by rfl) (hx : Loc X.env.scope x := by first | exact Or.inl rfl | exact Or.inr rfl)
    (hs : swapsWith (.Dict [] [] p2) (some (.Name x pos')) pos.line X.env = pure false := by rfl) (hf : X.fn x = true ∨ X.env.scope.names.lookup x = some .local := by first | exact .inl rfl | exact .inr rfl) : SD T X (.Assign [.Name x pos'] (.Dict [] [] p2) pos) (sNewG 3 i (.gath [] [])) := fun hT =>
  psImp (ps_set (i := i) hN hi hx pe_dnewT hs hf) fun Dn σ H h => by
    obtain ⟨B, F0, ρ, o, F, e, g, er, q⟩ := h
    unfold sNewG at e
    split at e
    · rename_i hl
      cases e
      exact fun p hp => new_read (od := .gath [] []) g er hp ⟨[], rfl, by simp, rfl, upd_same, .nil⟩ hl q
    · cases e

/-! ### append -/
def sApp (i : Nat) (a : DE) : DS := fun ρ => match atS ρ i with
  | .ow (.lst ds) => (match a (ρ.set i .no) with
    | some d => if ds.length < 16777216 then some (.nx (ρ.set i (.ow (.lst (ds ++ [d]))))) else none
    | none => none)
  | _ => none
theorem sd_app (i : Nat) {x : Str} {p1 apos cpos : Pos} (h : ED T X e de) (hN : X.N[i]? = some x := by rfl) (hv : Vis X.env.scope x := by first | exact Or.inl rfl | exact Or.inr (Or.inl rfl) | exact Or.inr (Or.inr rfl))
    (hd : (x == ("__debug__" : Str)) = false := by decide) (hcd : (x == ("__classdict__" : Str)) = false := by decide)
    (hbase : attributeBase (.Name x p1) "append" X.env (eval (.Name x p1) X.env) = eval (.Name x p1) X.env := by rfl)
    (hfew : ((backTo cpos (starEach [e] X.env)).all (fun x => !x.1) && (backToKw cpos (keywordEach [] X.env)).all (fun x => x.1.isSome)
      && decide (([e] : List Expr).length + ([] : List Keyword).length + (if ([] : List Keyword).isEmpty then 0 else 1) < 30)) = true := by rfl)
    (hline : (apos.endLine == cpos.line) = true := by rfl) (hs : starEach [e] X.env = (false, eval e X.env) :: starEach [] X.env := by rfl) (hsw : swapsWith (.Call (.Attribute (.Name x p1) "append" apos) [e] [] cpos) none pos.line X.env = pure false := by rfl) :
    SD T X (.Expr (.Call (.Attribute (.Name x p1) "append" apos) [e] [] cpos) pos) (sApp i de) := fun hT =>
  psImp (ps_expr (pe_bm (cpos := cpos) PySem.F.plainAttrs_list PySem.F.slot_list_append PySem.F.type_list_append mt_append (pe_var (i := i) hN hv hd hcd) (pa_cons (h hT) pa_nil hs) hbase hfew hline hs rfl) hsw) fun Dn σ H h => by
    obtain ⟨B, F0, ρ, o, F, e, g, er, q⟩ := h
    unfold sApp at e
    split at e
    · rename_i ds hds
      split at e
      · rename_i d hd'
        split at e
        · rename_i hl
          cases e
          have ei := atS_get hds (fun z => nomatch z)
          have hlt : i < ρ.length := (List.getElem?_eq_some_iff.mp ei).1
          obtain ⟨a, fp, es, ow, m, er'⟩ := er.take ei
          obtain ⟨rfl, vs, hv', rv⟩ := ow
          have sd := sub_dls g.sub m
          refine ⟨.ref a, es, .inl ⟨rfl, vs, SqL.of hv'⟩, B, ρ.set i .no, d, F, hd', g.sub, er'.grow (Gr.unbL sd), fun v H1 F1 g1 r1 => ?_⟩
          have m1 := m.grow g1
          have h1 : H1 a = some (.lst vs) := g1.same _ _ hv'
          refine ⟨a, vs, v, rfl, rfl, h1, ?_, ?_⟩
          · rw [← rv.length, sizeLine_eq]; exact hl
          · have ma : a ∈ [a] := by simp
            have g2 : Gr F0 B F1 (upd H1 a (.lst (vs ++ [v]))) := (g.trans g1).mut m1 (upd_out ma)
            have e2 : EnvR T B F1 (dls (upd H1 a (.lst (vs ++ [v]))) [a]) (ρ.set i .no) σ := by
              rw [dls_upd ma]
              exact er'.grow (g1.besL m)
            have e3 := e2.give (i := i) (o := .lst (ds ++ [d])) (by rw [List.getElem?_set_self hlt]) es ⟨rfl, _, upd_same, (rv.mono g1.frz).append (.cons r1 .nil)⟩ (m1.upd ma)
            rw [List.set_set] at e3
            exact q _ _ _ g2 e3
        · cases e
      · cases e
    · cases e

/-! ### d[k] = v -/
def hasK (k : Str) : List Str → Bool
  | [] => false
  | x :: r => match seqS x k with
    | true => true
    | false => hasK k r
def replK (k : Str) (v : D) : List Str → List D → List D
  | x :: xs, d :: ds => (match seqS x k with
    | true => v
    | false => d) :: replK k v xs ds
  | _, ds => ds
def hasT (k : List Str) : List (List Str) → Bool
  | [] => false
  | x :: r => match seqSs x k with
    | true => true
    | false => hasT k r
def replT (k : List Str) (v : D) : List (List Str) → List D → List D
  | x :: xs, d :: ds => (match seqSs x k with
    | true => v
    | false => d) :: replT k v xs ds
  | _, ds => ds
theorem anyK {k : Str} : ∀ {ks : List Str} {vs : List V}, ks.length = vs.length → (((ks.map Sum.inr : List Key).zip vs).any fun kv => decide (kv.1 = Sum.inr k)) = hasK k ks
  | [], _, _ => rfl
  | x :: xs, [], h => by cases h
  | x :: xs, v :: vs, h => by
    have ih := anyK (k := k) (ks := xs) (vs := vs) (Nat.succ.inj h)
    rw [List.map_cons, List.zip_cons_cons, List.any_cons, ih, hasK]
    by_cases e : x = k
    · rw [show decide ((Sum.inr x : Key) = Sum.inr k) = true from decide_eq_true (by rw [e]), seqS_iff.mpr e]
      rfl
    · rw [show decide ((Sum.inr x : Key) = Sum.inr k) = false from decide_eq_false fun z => e (Sum.inr.inj z)]
      have : seqS x k = false := by
        cases h2 : seqS x k with
        | false => rfl
        | true => exact absurd (seqS_iff.mp h2) e
      rw [this]
      rfl
theorem anyT {k : List Str} : ∀ {ks : List (List Str)} {vs : List V}, ks.length = vs.length → (((ks.map fun k => k.map Sum.inr : List (List Key)).zip vs).any fun kv => decide (kv.1 = k.map Sum.inr)) = hasT k ks
  | [], _, _ => rfl
  | x :: xs, [], h => by cases h
  | x :: xs, v :: vs, h => by
    have ih := anyT (k := k) (ks := xs) (vs := vs) (Nat.succ.inj h)
    rw [List.map_cons, List.zip_cons_cons, List.any_cons, ih, hasT]
    by_cases e : x = k
    · rw [show decide (x.map (Sum.inr : Str → Key) = k.map Sum.inr) = true from decide_eq_true (by rw [e]), seqSs_iff.mpr e]
      rfl
    · rw [show decide (x.map (Sum.inr : Str → Key) = k.map Sum.inr) = false from decide_eq_false fun z => e (map_inr_inj z)]
      have : seqSs x k = false := by
        cases h2 : seqSs x k with
        | false => rfl
        | true => exact absurd (seqSs_iff.mp h2) e
      rw [this]
      rfl
theorem replK_zip {F : Hp} {k : Str} {v : D} {w : V} (rw' : Rep T F v w) : ∀ {ks : List Str} {ds : List D} {vs : List V}, ks.length = ds.length → Reps T F ds vs →
    ∃ us, (((ks.map Sum.inr : List Key).zip vs).map fun kv => if kv.1 = Sum.inr k then (kv.1, w) else kv) = (ks.map Sum.inr).zip us ∧ Reps T F (replK k v ks ds) us ∧ us.length = vs.length
  | [], [], _, _, .nil => ⟨[], rfl, .nil, rfl⟩
  | [], d :: ds, _, h, _ => by cases h
  | x :: xs, [], _, h, _ => by cases h
  | x :: xs, d :: ds, v' :: vs, h, .cons r t => by
    obtain ⟨us, e1, e2, e3⟩ := replK_zip rw' (ks := xs) (Nat.succ.inj h) t
    rw [replK]
    by_cases e : x = k
    · refine ⟨w :: us, ?_, ?_, by rw [List.length_cons, List.length_cons, e3]⟩
      · rw [List.map_cons, List.zip_cons_cons, List.map_cons, e1, if_pos (by rw [e]), List.zip_cons_cons]
      · rw [seqS_iff.mpr e]
        exact .cons rw' e2
    · have hf : seqS x k = false := by
        cases h2 : seqS x k with
        | false => rfl
        | true => exact absurd (seqS_iff.mp h2) e
      refine ⟨v' :: us, ?_, ?_, by rw [List.length_cons, List.length_cons, e3]⟩
      · rw [List.map_cons, List.zip_cons_cons, List.map_cons, e1, if_neg (fun z => e (Sum.inr.inj z)), List.zip_cons_cons]
      · rw [hf]
        exact .cons r e2
theorem replT_zip {F : Hp} {k : List Str} {v : D} {w : V} (rw' : Rep T F v w) : ∀ {ks : List (List Str)} {ds : List D} {vs : List V}, ks.length = ds.length → Reps T F ds vs →
    ∃ us, (((ks.map fun k => k.map Sum.inr : List (List Key)).zip vs).map fun kv => if kv.1 = k.map Sum.inr then (kv.1, w) else kv) = (ks.map fun k => k.map Sum.inr).zip us ∧ Reps T F (replT k v ks ds) us ∧ us.length = vs.length
  | [], [], _, _, .nil => ⟨[], rfl, .nil, rfl⟩
  | [], d :: ds, _, h, _ => by cases h
  | x :: xs, [], _, h, _ => by cases h
  | x :: xs, d :: ds, v' :: vs, h, .cons r t => by
    obtain ⟨us, e1, e2, e3⟩ := replT_zip rw' (k := k) (ks := xs) (Nat.succ.inj h) t
    rw [replT]
    by_cases e : x = k
    · refine ⟨w :: us, ?_, ?_, by rw [List.length_cons, List.length_cons, e3]⟩
      · rw [List.map_cons, List.zip_cons_cons, List.map_cons, e1, if_pos (by rw [e]), List.zip_cons_cons]
      · rw [seqSs_iff.mpr e]
        exact .cons rw' e2
    · have hf : seqSs x k = false := by
        cases h2 : seqSs x k with
        | false => rfl
        | true => exact absurd (seqSs_iff.mp h2) e
      refine ⟨v' :: us, ?_, ?_, by rw [List.length_cons, List.length_cons, e3]⟩
      · rw [List.map_cons, List.zip_cons_cons, List.map_cons, e1, if_neg (fun z => e (map_inr_inj z)), List.zip_cons_cons]
      · rw [hf]
        exact .cons r e2
theorem zip_snoc {α β : Type} : ∀ {xs : List α} {ys : List β} (x : α) (y : β), xs.length = ys.length → xs.zip ys ++ [(x, y)] = (xs ++ [x]).zip (ys ++ [y])
  | [], [], _, _, _ => rfl
  | [], _ :: _, _, _, h => by cases h
  | _ :: _, [], _, _, h => by cases h
  | a :: as, b :: bs, x, y, h => by
    show (a, b) :: (as.zip bs ++ [(x, y)]) = (a, b) :: ((as ++ [x]).zip (bs ++ [y]))
    rw [zip_snoc x y (Nat.succ.inj h)]
theorem putK_zip {F : Hp} {k : Str} {v : D} {w : V} (rw' : Rep T F v w) {ks : List Str} {ds : List D} {vs : List V} (hl : ks.length = ds.length) (r : Reps T F ds vs) :
    ∃ us, putK ((ks.map Sum.inr : List Key).zip vs) (Sum.inr k) w = ((if hasK k ks = true then ks else ks ++ [k]).map Sum.inr).zip us ∧ Reps T F (if hasK k ks = true then replK k v ks ds else ds ++ [v]) us := by
  have hv : ks.length = vs.length := hl.trans r.length
  unfold putK
  rw [anyK hv]
  by_cases h : hasK k ks = true
  · rw [if_pos h, if_pos h, if_pos h]
    obtain ⟨us, e1, e2, _⟩ := replK_zip (k := k) rw' hl r
    exact ⟨us, e1, e2⟩
  · rw [if_neg h, if_neg h, if_neg h]
    refine ⟨vs ++ [w], ?_, r.append (.cons rw' .nil)⟩
    rw [zip_snoc _ _ (by rw [List.length_map]; exact hv), List.map_append]
    rfl
theorem putT_zip {F : Hp} {k : List Str} {v : D} {w : V} (rw' : Rep T F v w) {ks : List (List Str)} {ds : List D} {vs : List V} (hl : ks.length = ds.length) (r : Reps T F ds vs) :
    ∃ us, putK ((ks.map fun k => k.map Sum.inr : List (List Key)).zip vs) (k.map Sum.inr) w = ((if hasT k ks = true then ks else ks ++ [k]).map fun k => k.map Sum.inr).zip us ∧ Reps T F (if hasT k ks = true then replT k v ks ds else ds ++ [v]) us := by
  have hv : ks.length = vs.length := hl.trans r.length
  unfold putK
  rw [anyT hv]
  by_cases h : hasT k ks = true
  · rw [if_pos h, if_pos h, if_pos h]
    obtain ⟨us, e1, e2, _⟩ := replT_zip (k := k) rw' hl r
    exact ⟨us, e1, e2⟩
  · rw [if_neg h, if_neg h, if_neg h]
    refine ⟨vs ++ [w], ?_, r.append (.cons rw' .nil)⟩
    rw [zip_snoc _ _ (by rw [List.length_map]; exact hv), List.map_append]
    rfl
theorem replK_len {k : Str} {v : D} : ∀ {ks : List Str} {ds : List D}, (replK k v ks ds).length = ds.length
  | [], _ => by unfold replK; rfl
  | _ :: _, [] => by unfold replK; rfl
  | x :: xs, d :: ds => by rw [replK, List.length_cons, List.length_cons, replK_len]
theorem replT_len {k : List Str} {v : D} : ∀ {ks : List (List Str)} {ds : List D}, (replT k v ks ds).length = ds.length
  | [], _ => by unfold replT; rfl
  | _ :: _, [] => by unfold replT; rfl
  | x :: xs, d :: ds => by rw [replT, List.length_cons, List.length_cons, replT_len]
def sPut (i : Nat) (kd vd : DE) : DS := fun ρ => match atS ρ i with
  | .ow (.dK ks ds) => (match vd (ρ.set i .no) with
    | some v => (match kd (ρ.set i .no) with
      | some (.str k) => if ks.length < 16777216 then some (.nx (ρ.set i (.ow (.dK (if hasK k ks = true then ks else ks ++ [k]) (if hasK k ks = true then replK k v ks ds else ds ++ [v]))))) else none
      | _ => none)
    | none => none)
  | .ow (.dT ks ds) => (match vd (ρ.set i .no) with
    | some v => (match kd (ρ.set i .no) with
      | some (.tup xs) => (match strsOf xs with
        | some k => if ks.length < 16777216 then some (.nx (ρ.set i (.ow (.dT (if hasT k ks = true then ks else ks ++ [k]) (if hasT k ks = true then replT k v ks ds else ds ++ [v]))))) else none
        | none => none)
      | _ => none)
    | none => none)
  | _ => none
theorem zip_len {α β : Type} {xs : List α} {ys : List β} : (xs.zip ys).length ≤ xs.length := by
  rw [List.length_zip]
  exact Nat.min_le_left _ _
theorem sd_put (i : Nat) {x : Str} {ke ve : Expr} {p1 pos' : Pos} (hr : Room k X.A) (hk : ED T X ke dk) (hv : ED T X ve dv) (hN : X.N[i]? = some x := by rfl) (hvi : Vis X.env.scope x := by first | exact Or.inl rfl | exact Or.inr (Or.inl rfl) | exact Or.inr (Or.inr rfl))
    (hd : (x == ("__debug__" : Str)) = false := by decide) (hcd : (x == ("__classdict__" : Str)) = false := by decide) (hs : swapsWith ve (some (.Subscript (.Name x p1) ke pos')) pos.line X.env = pure false := by rfl) :
    SD T X (.Assign [.Subscript (.Name x p1) ke pos'] ve pos) (sPut i dk dv) := fun hT =>
  psImp (ps_dput (hu_of hr) (pe_var (i := i) hN hvi hd hcd) (hk hT) (hv hT) hs) fun Dn σ H h => by
    obtain ⟨B, F0, ρ, o, F, e, g, er, q⟩ := h
    unfold sPut at e
    split at e
    · rename_i ks ds hds
      have ei := atS_get hds (fun z => nomatch z)
      have hlt : i < ρ.length := (List.getElem?_eq_some_iff.mp ei).1
      obtain ⟨a, fp, es, ow, m, er'⟩ := er.take ei
      obtain ⟨rfl, hl, vs, ha, rv⟩ := ow
      have ma : a ∈ [a] := by simp
      split at e
      · rename_i v hv'
        split at e
        · rename_i kk hk'
          split at e
          · rename_i hz
            cases e
            refine ⟨B, ρ.set i .no, v, F, hv', g.sub, er'.grow (Gr.unbL (sub_dls g.sub m)), fun w H1 F1 g1 r1 => ?_⟩
            have er1 := er'.grow (g1.besL m)
            have m1 := m.grow g1
            refine ⟨.ref a, es, B, ρ.set i .no, .str kk, F1, hk', g1.sub, er1.grow (Gr.unbL (sub_dls g1.sub m1)), fun y H2 F2 g2 r2 => ?_⟩
            cases r2
            have m2 := m1.grow g2
            have er2 := er1.grow (g2.besL m1)
            have h2 := g2.same _ _ (g1.same _ _ ha)
            obtain ⟨us, eu, ru⟩ := putK_zip (k := kk) (r1.mono g2.frz) hl ((rv.mono g1.frz).mono g2.frz)
            refine ⟨a, _, rfl, DPut.k (k := Sum.inr kk) h2 (Nat.lt_of_le_of_lt zip_len (by rw [List.length_map, sizeLine_eq]; exact hz)), ?_⟩
            rw [eu]
            have e3 : EnvR T B F2 (dls (upd H2 a (.dK (((if hasK kk ks = true then ks else ks ++ [kk]).map Sum.inr).zip us))) [a]) (ρ.set i .no) σ := by
              rw [dls_upd ma]
              exact er2
            have e4 := e3.give (i := i) (o := .dK (if hasK kk ks = true then ks else ks ++ [kk]) (if hasK kk ks = true then replK kk v ks ds else ds ++ [v])) (by rw [List.getElem?_set_self hlt]) es ⟨rfl, ?_, us, upd_same, ru⟩ (m2.upd ma)
            · rw [List.set_set] at e4
              exact q _ _ _ (((g.trans g1).trans g2).mut m2 (upd_out ma)) e4
            · by_cases h : hasK kk ks = true
              · rw [if_pos h, if_pos h, replK_len]; exact hl
              · rw [if_neg h, if_neg h, List.length_append, List.length_append, hl]; rfl
          · cases e
        · cases e
      · cases e
    · rename_i ks ds hds
      have ei := atS_get hds (fun z => nomatch z)
      have hlt : i < ρ.length := (List.getElem?_eq_some_iff.mp ei).1
      obtain ⟨a, fp, es, ow, m, er'⟩ := er.take ei
      obtain ⟨rfl, hl, vs, ha, rv⟩ := ow
      have ma : a ∈ [a] := by simp
      split at e
      · rename_i v hv'
        split at e
        · rename_i xs hk'
          split at e
          · rename_i kk hks
            split at e
            · rename_i hz
              cases e
              refine ⟨B, ρ.set i .no, v, F, hv', g.sub, er'.grow (Gr.unbL (sub_dls g.sub m)), fun w H1 F1 g1 r1 => ?_⟩
              have er1 := er'.grow (g1.besL m)
              have m1 := m.grow g1
              refine ⟨.ref a, es, B, ρ.set i .no, .tup xs, F1, hk', g1.sub, er1.grow (Gr.unbL (sub_dls g1.sub m1)), fun y H2 F2 g2 r2 => ?_⟩
              cases r2 with
              | @tup b ws ds' hb rb =>
                have ev := strsOf_rep hks rb
                subst ev
                have m2 := m1.grow g2
                have er2 := er1.grow (g2.besL m1)
                have h2 := g2.same _ _ (g1.same _ _ ha)
                obtain ⟨us, eu, ru⟩ := putT_zip (k := kk) (r1.mono g2.frz) hl ((rv.mono g1.frz).mono g2.frz)
                refine ⟨a, _, rfl, DPut.t (k := kk.map Sum.inr) h2 (by rw [← strs_kV]; exact g2.sub _ _ hb) (Nat.lt_of_le_of_lt zip_len (by rw [List.length_map, sizeLine_eq]; exact hz)), ?_⟩
                rw [eu]
                have e3 : EnvR T B F2 (dls (upd H2 a (.dT (((if hasT kk ks = true then ks else ks ++ [kk]).map fun k => k.map Sum.inr).zip us))) [a]) (ρ.set i .no) σ := by
                  rw [dls_upd ma]
                  exact er2
                have e4 := e3.give (i := i) (o := .dT (if hasT kk ks = true then ks else ks ++ [kk]) (if hasT kk ks = true then replT kk v ks ds else ds ++ [v])) (by rw [List.getElem?_set_self hlt]) es ⟨rfl, ?_, us, upd_same, ru⟩ (m2.upd ma)
                · rw [List.set_set] at e4
                  exact q _ _ _ (((g.trans g1).trans g2).mut m2 (upd_out ma)) e4
                · by_cases h : hasT kk ks = true
                  · rw [if_pos h, if_pos h, replT_len]; exact hl
                  · rw [if_neg h, if_neg h, List.length_append, List.length_append, hl]; rfl
            · cases e
          · cases e
        · cases e
      · cases e
    · cases e
end
end PD
end
section
set_option Elab.async false
set_option linter.all false
set_option maxRecDepth 100000
/-! PD12: d.setdefault(k, []).append(v); freezing; fields of a new instance. -/
namespace PD
open PySem PySem.Spec PyProof.Rows L2

/-! ### setdefault with a tuple as key -/
section
variable {X : Cx} {pins : List (Addr × Obj)} {σ : L2.St} {H : Hp} {s : Shared} {a b : Addr} {r : Value} {d : V} {k : List Key} {A : Around} {E : Value → Shared → Prop}
theorem d_setdT {kvs : List (List Key × V)} {Q : Value → Shared → Prop} (hu : A.units + 1 < cLine) (I : Inv X pins σ H s) (e : H a = some (.dT kvs)) (eb : H b = some (.tup (k.map kV))) (rd : RelV d r) (hl : kvs.length < sizeLine)
    (h1 : ∀ v, valV kvs k = some v → ∀ (w' : Value) (s' : Shared), Inv X pins σ H s' → RelV v w' → Q w' s') (h2 : valV kvs k = none → ∀ (w' : Value) (s' : Shared), Inv X pins σ (upd H a (.dT (putK kvs k d))) s' → RelV d w' → Q w' s') :
    wpAny (model X.prog X.w) A (call (.builtin "dict.setdefault") [.ref a, .ref b, r]) Q E s := by
  obtain ⟨z, hd, xs, rel, dd⟩ := dt_of I.hok e
  have hz : xs.length ≤ sizeLine := by rw [← Paired.length rel]; exact z
  refine call_setdefault_heap (hsz := hz) (tupleKind_room_in1 hu) (key_of I.hok eb) hd dd (fun p hp => ?_) fun hn h' dd' hs => ?_
  · have q := rel.val k
    rw [hp] at q
    cases q0 : valV kvs k with
    | none => rw [q0] at q; exact (show False from q).elim
    | some v0 => rw [q0] at q; exact h1 v0 q0 _ _ (I.tok _) q
  · have q := rel.val k
    rw [hn] at q
    cases q0 : valV kvs k with
    | some v0 => rw [q0] at q; exact (show False from q).elim
    | none =>
      have hl2 : (putK kvs k d).length ≤ sizeLine := by have := length_putK kvs k d; omega
      obtain ⟨q1, es, ep, hq, h3, h4, h5, _, h6⟩ := dd'
      refine h2 q0 _ _ (d_write (t' := _) I (by rw [e]; exact True.intro) hs ⟨q1, hq⟩ ⟨hl2, hd, _, (rel.put k eb rd).keeps fun c ys ec => ?_, q1, es, ep, hq, h3, h4, h5, h6⟩) rd
      rw [upd_ne (ne_of ec e (fun z => nomatch z))]
      exact ec
end
def tDSetT (td ty tx : TE) : TE := fun σ H Q => td σ H fun x H1 => ∃ a, x = .ref a ∧ IsD H1 a ∧ ty σ H1 fun y H2 => tx σ H2 fun z H3 => ∃ (kvs : List (List Key × V)) (k : List Key) (b : Addr), H3 a = some (.dT kvs) ∧ y = .ref b ∧ H3 b = some (.tup (k.map kV)) ∧ kvs.length < sizeLine ∧
  (∀ v, valV kvs k = some v → Q v H3) ∧ (valV kvs k = none → Q z (upd H3 a (.dT (putK kvs k z))))
section
variable {X : Cx} {o e f : Expr} {td ty tx : TE} {apos cpos : Pos}
theorem pe_dsetT (hu : X.A.units + 1 < cLine) (ho : PE X o td) (he : PE X e ty) (hf : PE X f tx) (m : M2 X o "setdefault" apos e f cpos) : PE X (.Call (.Attribute o "setdefault" apos) [e, f] [] cpos) (tDSetT td ty tx) := by
  refine ⟨fun pins s σ H Q I h => ?_⟩
  refine wpAny_Call_method m.base m.few m.line PySem.F.plainAttrs_dict PySem.F.slot_dict_setdefault PySem.F.type_dict_setdefault (thn (ho.run pins s σ H _ I h) fun u s1 ⟨x, H1, I1, rx, a, ex, d, q1⟩ => ?_)
  subst ex
  obtain rfl : u = Value.ref a := rx
  obtain ⟨t1, t2, _⟩ := isD_at I1 d
  refine ⟨t1, t2, ?_⟩
  rw [m.trees]
  refine Calls.callWith_builtin rfl (Calls.evalArgs_plain (Calls.spliced_cons (thn (he.run pins s1 σ H1 _ I1 q1) fun iv s2 ⟨y, H2, I2, ry, q2⟩ =>
    Calls.spliced_cons (thn (hf.run pins s2 σ H2 _ I2 q2) fun fv s3 ⟨z, H3, I3, rz, kvs, k, b, ea, ey, eb, hl, q3, q4⟩ => Calls.spliced_nil ?_))))
  subst ey
  cases ry
  exact d_setdT hu I3 ea eb rz hl (fun v hv w' s4 I4 rw' => ⟨v, _, I4, rw', q3 v hv⟩) fun hn w' s4 I4 rw' => ⟨z, _, I4, rw', q4 hn⟩
end

/-! ### gathering -/
/-- v goes to the list of k -/
def gApp (k : List Str) (v : D) : List (List Str) → List (List D) → List (List D)
  | x :: xs, ds :: dss => match seqSs x k with
    | true => (ds ++ [v]) :: dss
    | false => ds :: gApp k v xs dss
  | _, dss => dss
def gPutK (k : List Str) (ks : List (List Str)) : List (List Str) := if hasT k ks = true then ks else ks ++ [k]
def gPutD (k : List Str) (v : D) (ks : List (List Str)) (dss : List (List D)) : List (List D) := if hasT k ks = true then gApp k v ks dss else dss ++ [[v]]
section
variable {T : Tab}
/-- a key that stands: its list -/
theorem gath_old {F H : Hp} {k : List Str} : ∀ {ks : List (List Str)} {dss : List (List D)} {as : List Addr}, ks.length = dss.length → hasT k ks = true → Lists T F H dss as → as.Nodup →
    ∃ la vs, valV ((ks.map fun k => k.map Sum.inr : List (List Key)).zip (as.map V.ref)) (k.map Sum.inr) = some (.ref la) ∧ la ∈ as ∧ H la = some (.lst vs) ∧
      ∀ (F' H' : Hp) (d : D) (v : V), Same F F' → (∀ b ∈ as, b ≠ la → ∀ o, H b = some o → H' b = some o) → H' la = some (.lst (vs ++ [v])) → Rep T F' d v → Lists T F' H' (gApp k d ks dss) as
  | [], [], _, _, h, .nil, _ => by cases h
  | [], _ :: _, _, h, _, _, _ => by cases h
  | x :: xs, [], _, h, _, _, _ => by cases h
  | x :: xs, ds :: dss, a :: as, hl, hh, .cons ha r t, nd => by
    obtain ⟨n1, n2⟩ := List.nodup_cons.mp nd
    cases hx : seqSs x k with
    | true =>
      refine ⟨a, _, ?_, List.mem_cons_self, ha, fun F' H' d v sF kp hv rv => ?_⟩
      · have ex := seqSs_iff.mp hx
        subst ex
        exact valV_pos rfl
      · rw [gApp, hx]
        refine .cons hv ((r.mono sF).append (.cons rv .nil)) ?_
        have all : ∀ {dss : List (List D)} {as' : List Addr}, Lists T F H dss as' → (∀ b ∈ as', b ∈ as) → Lists T F' H' dss as' := by
          intro dss as' q
          induction q with
          | nil => intro _; exact .nil
          | cons h r t ih =>
            intro hm
            have hb := hm _ List.mem_cons_self
            exact .cons (kp _ (List.mem_cons_of_mem _ hb) (fun z => n1 (by rw [← z]; exact hb)) _ h) (r.mono sF) (ih fun b hb => hm b (List.mem_cons_of_mem _ hb))
        exact all t fun b hb => hb
    | false =>
      have hh' : hasT k xs = true := by
        rw [hasT, hx] at hh
        exact hh
      obtain ⟨la, vs, e1, e2, e3, e4⟩ := gath_old (Nat.succ.inj hl) hh' t n2
      refine ⟨la, vs, ?_, List.mem_cons_of_mem _ e2, e3, fun F' H' d v sF kp hv rv => ?_⟩
      · have hn : ¬ x.map (Sum.inr : Str → Key) = k.map Sum.inr := fun z => by
          rw [seqSs_iff.mpr (map_inr_inj z)] at hx
          cases hx
        exact (valV_neg (p := (x.map (Sum.inr : Str → Key), _)) hn).trans e1
      · rw [gApp, hx]
        have hne : a ≠ la := fun z => n1 (by rw [z]; exact e2)
        exact .cons (kp a List.mem_cons_self hne _ ha) (r.mono sF) (e4 F' H' d v sF (fun b hb => kp b (List.mem_cons_of_mem _ hb)) hv rv)
theorem Lists.len {F H : Hp} : ∀ {dss : List (List D)} {as : List Addr}, Lists T F H dss as → dss.length = as.length
  | _, _, .nil => rfl
  | _, _, .cons _ _ t => by rw [List.length_cons, List.length_cons, Lists.len t]
theorem Lists.at_ {F H : Hp} : ∀ {dss : List (List D)} {as : List Addr}, Lists T F H dss as → ∀ b ∈ as, ∃ vs, H b = some (.lst vs)
  | _, _, .nil, b, hb => by cases hb
  | _, _, .cons h _ t, b, hb => by
    rcases List.mem_cons.mp hb with e | hb
    · rw [e]; exact ⟨_, h⟩
    · exact Lists.at_ t b hb
theorem Lists.keep {F H F' H' : Hp} (sF : Same F F') : ∀ {dss : List (List D)} {as : List Addr}, Lists T F H dss as → (∀ b ∈ as, ∀ o, H b = some o → H' b = some o) → Lists T F' H' dss as
  | _, _, .nil, _ => .nil
  | _, _, .cons h r t, k => .cons (k _ List.mem_cons_self _ h) (r.mono sF) (Lists.keep sF t fun b hb => k b (List.mem_cons_of_mem _ hb))
theorem Lists.snoc {F H : Hp} {ds : List D} {la : Addr} {vs : List V} (h : H la = some (.lst vs)) (r : Reps T F ds vs) : ∀ {dss : List (List D)} {as : List Addr}, Lists T F H dss as → Lists T F H (dss ++ [ds]) (as ++ [la])
  | _, _, .nil => .cons h r .nil
  | _, _, .cons h' r' t => .cons h' r' (Lists.snoc h r t)
end
theorem valT_none {k : List Str} : ∀ {ks : List (List Str)} {vs : List V}, hasT k ks = false → valV ((ks.map fun k => k.map Sum.inr : List (List Key)).zip vs) (k.map Sum.inr) = none
  | [], _, _ => rfl
  | _ :: _, [], _ => rfl
  | x :: xs, v :: vs, h => by
    rw [hasT] at h
    cases hx : seqSs x k with
    | true => rw [hx] at h; cases h
    | false =>
      rw [hx] at h
      have hn : ¬ x.map (Sum.inr : Str → Key) = k.map Sum.inr := fun z => by
        rw [seqSs_iff.mpr (map_inr_inj z)] at hx
        cases hx
      exact (valV_neg (p := (x.map (Sum.inr : Str → Key), v)) hn).trans (valT_none h)
def sGath (i : Nat) (kd vd : DE) : DS := fun ρ => match atS ρ i with
  | .ow (.gath ks dss) => (match kd (ρ.set i .no) with
    | some (.tup xs) => (match strsOf xs with
      | some k => (match vd (ρ.set i .no) with
        | some v => if ks.length < 16777216 ∧ (gPutD k v ks dss).all (fun l => decide (l.length ≤ 16777216)) = true then some (.nx (ρ.set i (.ow (.gath (gPutK k ks) (gPutD k v ks dss))))) else none
        | none => none)
      | none => none)
    | _ => none)
  | _ => none
section
variable {T : Tab} {X : Cx} {de dk dv : DE} {pos : Pos} {k : Nat}
theorem mem_gApp {k : List Str} {v : D} : ∀ {ks : List (List Str)} {dss : List (List D)}, ks.length = dss.length → hasT k ks = true → ∃ ds, (ds ++ [v]) ∈ gApp k v ks dss
  | [], _, _, h => by cases h
  | x :: xs, [], h, _ => by cases h
  | x :: xs, ds :: dss, hl, h => by
    rw [hasT] at h
    rw [gApp]
    cases hx : seqSs x k with
    | true => exact ⟨ds, List.mem_cons_self⟩
    | false =>
      rw [hx] at h
      obtain ⟨d', hd⟩ := mem_gApp (k := k) (v := v) (Nat.succ.inj hl) h
      exact ⟨d', List.mem_cons_of_mem _ hd⟩
theorem gApp_len {k : List Str} {v : D} : ∀ {ks : List (List Str)} {dss : List (List D)}, (gApp k v ks dss).length = dss.length
  | [], _ => by unfold gApp; rfl
  | _ :: _, [] => by unfold gApp; rfl
  | x :: xs, ds :: dss => by
    rw [gApp]
    cases hx : seqSs x k with
    | true => rfl
    | false => show (gApp k v xs dss).length + 1 = dss.length + 1; rw [gApp_len]
/-- the length of the list of a key that stands -/
theorem gath_small {F H : Hp} {k : List Str} {v : D} : ∀ {ks : List (List Str)} {dss : List (List D)} {as : List Addr} {la : Addr} {vs : List V}, ks.length = dss.length → Lists T F H dss as → hasT k ks = true →
    valV ((ks.map fun k => k.map Sum.inr : List (List Key)).zip (as.map V.ref)) (k.map Sum.inr) = some (.ref la) → H la = some (.lst vs) → (gApp k v ks dss).all (fun l => decide (l.length ≤ 16777216)) = true → vs.length < 16777216
  | [], _, _, _, _, _, _, h, _, _, _ => by cases h
  | x :: xs, [], _, _, _, h, _, _, _, _, _ => by cases h
  | x :: xs, ds :: dss, a :: as, la, vs, hl, .cons ha r t, hh, hv, hla, hz => by
    rw [hasT] at hh
    rw [gApp] at hz
    cases hx : seqSs x k with
    | true =>
      rw [hx] at hz
      have ex := seqSs_iff.mp hx
      subst ex
      have e0 : valV (((x :: xs).map fun k => k.map Sum.inr : List (List Key)).zip ((a :: as).map V.ref)) (x.map Sum.inr) = some (V.ref a) := valV_pos rfl
      rw [e0] at hv
      cases hv
      rw [ha] at hla
      cases hla
      rw [List.all_cons, Bool.and_eq_true] at hz
      have := of_decide_eq_true hz.1
      rw [List.length_append, r.length] at this
      simp only [List.length_cons, List.length_nil] at this
      omega
    | false =>
      rw [hx] at hh hz
      have hn : ¬ x.map (Sum.inr : Str → Key) = k.map Sum.inr := fun z => by
        rw [seqSs_iff.mpr (map_inr_inj z)] at hx
        cases hx
      have e0 : valV (((x :: xs).map fun k => k.map Sum.inr : List (List Key)).zip ((a :: as).map V.ref)) (k.map Sum.inr) = valV ((xs.map fun k => k.map Sum.inr : List (List Key)).zip (as.map V.ref)) (k.map Sum.inr) := valV_neg hn
      have hv' := e0.symm.trans hv
      rw [List.all_cons, Bool.and_eq_true] at hz
      exact gath_small (Nat.succ.inj hl) t hh hv' hla hz.2
theorem sd_gath (i : Nat) {x : Str} {ke ve : Expr} {p1 apos1 cpos1 p2 apos cpos : Pos} (hr : Room k X.A) (hk : ED T X ke dk) (hv : ED T X ve dv) (hN : X.N[i]? = some x := by rfl) (hvi : Vis X.env.scope x := by first | exact Or.inl rfl | exact Or.inr (Or.inl rfl) | exact Or.inr (Or.inr rfl))
    (hd : (x == ("__debug__" : Str)) = false := by decide) (hcd : (x == ("__classdict__" : Str)) = false := by decide) (m2 : M2 X (.Name x p1) "setdefault" apos1 ke (.List [] p2) cpos1 := by exact ⟨rfl, rfl, rfl, rfl⟩)
    (hbase : attributeBase (.Call (.Attribute (.Name x p1) "setdefault" apos1) [ke, .List [] p2] [] cpos1) "append" X.env (eval (.Call (.Attribute (.Name x p1) "setdefault" apos1) [ke, .List [] p2] [] cpos1) X.env) = eval (.Call (.Attribute (.Name x p1) "setdefault" apos1) [ke, .List [] p2] [] cpos1) X.env := by rfl)
    (hfew : ((backTo cpos (starEach [ve] X.env)).all (fun x => !x.1) && (backToKw cpos (keywordEach [] X.env)).all (fun x => x.1.isSome)
      && decide (([ve] : List Expr).length + ([] : List Keyword).length + (if ([] : List Keyword).isEmpty then 0 else 1) < 30)) = true := by rfl)
    (hline : (apos.endLine == cpos.line) = true := by rfl) (hs : starEach [ve] X.env = (false, eval ve X.env) :: starEach [] X.env := by rfl)
    (hsw : swapsWith (.Call (.Attribute (.Call (.Attribute (.Name x p1) "setdefault" apos1) [ke, .List [] p2] [] cpos1) "append" apos) [ve] [] cpos) none pos.line X.env = pure false := by rfl) :
    SD T X (.Expr (.Call (.Attribute (.Call (.Attribute (.Name x p1) "setdefault" apos1) [ke, .List [] p2] [] cpos1) "append" apos) [ve] [] cpos) pos) (sGath i dk dv) := fun hT =>
  psImp (ps_expr (pe_bm (cpos := cpos) PySem.F.plainAttrs_list PySem.F.slot_list_append PySem.F.type_list_append mt_append (pe_dsetT (hu_of hr) (pe_var (i := i) hN hvi hd hcd) (hk hT) (pe_lst pa_nil) m2) (pa_cons (hv hT) pa_nil hs) hbase hfew hline hs rfl) hsw) fun Dn σ H h => by
    obtain ⟨B, F0, ρ, o, F, e, g, er, q⟩ := h
    unfold sGath at e
    split at e
    · rename_i ks dss hds
      have ei := atS_get hds (fun z => nomatch z)
      have hlt : i < ρ.length := (List.getElem?_eq_some_iff.mp ei).1
      obtain ⟨a, fp, es, ow, m, er'⟩ := er.take ei
      obtain ⟨as, rfl, nd, hl, ha, ls⟩ := ow
      split at e
      · rename_i xs hk'
        split at e
        · rename_i kk hks
          split at e
          · rename_i v hv'
            split at e
            · rename_i hz
              cases e
              refine ⟨.ref a, es, a, rfl, .inr ⟨_, .inl ha⟩, B, ρ.set i .no, .tup xs, F, hk', g.sub, er'.grow (Gr.unbL (sub_dls g.sub m)), fun y H1 F1 g1 r1 => ?_⟩
              have er1 := er'.grow (g1.besL m)
              have m1 := m.grow g1
              have ha1 := g1.same _ _ ha
              have ls1 := ls.mono g1.frz g1.same
              refine ⟨Nat.zero_le _, fun p hp => ?_⟩
              cases r1 with
              | @tup b ws ds' hb rb =>
                have ev := strsOf_rep hks rb
                subst ev
                -- the new empty list at p
                have s2 : Same H1 (upd H1 p (.lst [])) := same_new hp
                have hpa : a ≠ p := ne_of_none ha1 hp
                have hz1 : (((ks.map fun k => k.map Sum.inr : List (List Key)).zip (as.map V.ref))).length < sizeLine := Nat.lt_of_le_of_lt zip_len (by rw [List.length_map, sizeLine_eq]; exact hz.1)
                refine ⟨_, kk.map Sum.inr, b, s2 _ _ ha1, rfl, by rw [← strs_kV]; exact s2 _ _ (g1.sub _ _ hb), hz1, fun w hw => ?_, fun hn => ?_⟩
                · -- the key stands
                  have hh : hasT kk ks = true := by
                    cases h : hasT kk ks with
                    | true => rfl
                    | false => rw [valT_none h] at hw; cases hw
                  have nda : as.Nodup := (List.nodup_cons.mp nd).2
                  have naa : a ∉ as := (List.nodup_cons.mp nd).1
                  have g2 : Gr F1 H1 F1 (upd H1 p (.lst [])) := Gr.grow g1.sub hp
                  have er2 := er1.grow (g2.besL m1)
                  have m2' := m1.grow g2
                  obtain ⟨la, vs, e1, e2, e3, e4⟩ := gath_old (T := T) (F := F1) (H := upd H1 p (.lst [])) (k := kk) hl hh (ls1.mono (Same.refl _) s2) nda
                  rw [e1] at hw
                  cases hw
                  refine ⟨.inl ⟨rfl, vs, SqL.of e3⟩, B, ρ.set i .no, v, F1, hv', g2.sub, er2.grow (Gr.unbL (sub_dls g2.sub m2')), fun u H3 F3 g3 r3 => ?_⟩
                  have er3 := er2.grow (g3.besL m2')
                  have m3 := m2'.grow g3
                  have h3 : H3 la = some (.lst vs) := g3.same _ _ e3
                  have hlm : la ∈ a :: as := List.mem_cons_of_mem _ e2
                  have hg : gPutD kk v ks dss = gApp kk v ks dss := if_pos hh
                  have hgk : gPutK kk ks = ks := if_pos hh
                  refine ⟨la, vs, u, rfl, rfl, h3, ?_, ?_⟩
                  · have hz2 := hz.2
                    rw [hg] at hz2
                    rw [sizeLine_eq]
                    exact gath_small hl (ls1.mono (Same.refl _) s2) hh e1 e3 hz2
                  · have e5 : EnvR T B F3 (dls (upd H3 la (.lst (vs ++ [u]))) (a :: as)) (ρ.set i .no) σ := by
                      rw [dls_upd hlm]
                      exact er3
                    have hla : a ≠ la := fun z => naa (by rw [z]; exact e2)
                    have ow' : OwnR T F3 (upd H3 la (.lst (vs ++ [u]))) (.gath (gPutK kk ks) (gPutD kk v ks dss)) a (a :: as) := by
                      rw [hg, hgk]
                      refine ⟨as, rfl, nd, by rw [gApp_len]; exact hl, ?_, ?_⟩
                      · rw [upd_ne hla]
                        exact g3.same _ _ (s2 _ _ ha1)
                      · exact e4 F3 _ v u g3.frz (fun b' hb' hne o' ho' => by rw [upd_ne hne]; exact g3.same _ _ ho') upd_same r3
                    have e6 := e5.give (i := i) (by rw [List.getElem?_set_self hlt]) es ow' (m3.upd hlm)
                    rw [List.set_set] at e6
                    exact q _ _ _ ((((g.trans g1).trans g2).trans g3).mut m3 (upd_out hlm)) e6
                · -- a new key
                  have hh : hasT kk ks = false := by
                    cases h : hasT kk ks with
                    | false => rfl
                    | true =>
                      obtain ⟨la, vs, e1, _⟩ := gath_old (T := T) hl h ls1 (List.nodup_cons.mp nd).2
                      rw [e1] at hn
                      cases hn
                  have ep : putK ((ks.map fun k => k.map Sum.inr : List (List Key)).zip (as.map V.ref)) (kk.map Sum.inr) (.ref p) = ((ks ++ [kk]).map fun k => k.map Sum.inr).zip ((as ++ [p]).map V.ref) := by
                    rw [putK_new _ hn, zip_snoc _ _ (by rw [List.length_map, List.length_map, hl, ls.len]), List.map_append, List.map_append]
                    rfl
                  rw [ep]
                  generalize hH2 : upd (upd H1 p (.lst [])) a (.dT (((ks ++ [kk]).map fun k => k.map Sum.inr).zip ((as ++ [p]).map V.ref))) = H2
                  have hpn : p ∉ as := fun z => by
                    obtain ⟨ws', hw'⟩ := ls1.at_ p z
                    rw [hp] at hw'; cases hw'
                  have nF1 : F1 p = none := g1.sub.free hp
                  have nB : B p = none := (g.trans g1).same.free hp
                  have hp2 : H2 p = some (.lst []) := by rw [← hH2, upd_ne (Ne.symm hpa), upd_same]
                  have ha2 : H2 a = some (.dT (((ks ++ [kk]).map fun k => k.map Sum.inr).zip ((as ++ [p]).map V.ref))) := by rw [← hH2, upd_same]
                  have kp2 : ∀ b o, b ∉ a :: (as ++ [p]) → H1 b = some o → H2 b = some o := fun b' o' hb' ho' => by
                    rw [← hH2, upd_ne (fun z => hb' (by rw [z]; exact List.mem_cons_self)), upd_ne (fun z => hb' (by rw [z]; simp))]
                    exact ho'
                  have kpas : ∀ b ∈ as, ∀ o, H1 b = some o → H2 b = some o := fun b' hb' o' ho' => by
                    have h1 : b' ≠ a := fun z => (List.nodup_cons.mp nd).1 (by rw [← z]; exact hb')
                    have h2 : b' ≠ p := fun z => hpn (by rw [← z]; exact hb')
                    rw [← hH2, upd_ne h1, upd_ne h2]
                    exact ho'
                  have m2' : Mine B F1 H2 (a :: (as ++ [p])) := by
                    refine ⟨fun b' hb' => ?_, fun b' hb' => ?_, fun b' hb' => ?_⟩
                    · rcases List.mem_cons.mp hb' with e | hb'
                      · rw [e]; exact m1.nF a List.mem_cons_self
                      · rcases List.mem_append.mp hb' with hb' | hb'
                        · exact m1.nF b' (List.mem_cons_of_mem _ hb')
                        · rw [List.mem_singleton.mp hb']; exact nF1
                    · rcases List.mem_cons.mp hb' with e | hb'
                      · rw [e]; exact m1.nB a List.mem_cons_self
                      · rcases List.mem_append.mp hb' with hb' | hb'
                        · exact m1.nB b' (List.mem_cons_of_mem _ hb')
                        · rw [List.mem_singleton.mp hb']; exact nB
                    · rcases List.mem_cons.mp hb' with e | hb'
                      · rw [e]; exact ⟨_, ha2⟩
                      · rcases List.mem_append.mp hb' with hb' | hb'
                        · obtain ⟨o', ho'⟩ := m1.at_ b' (List.mem_cons_of_mem _ hb')
                          exact ⟨o', kpas b' hb' o' ho'⟩
                        · rw [List.mem_singleton.mp hb']; exact ⟨_, hp2⟩
                  have gd : Gr F0 B F1 H2 := by
                    have g1' := g.trans g1
                    refine ⟨fun b' o' h' => ?_, g1'.frz, fun b' o' h' => ?_, g1'.fresh⟩
                    · exact kp2 b' o' (fun z => by rw [m2'.nB b' z] at h'; cases h') (g1'.same _ _ h')
                    · exact kp2 b' o' (fun z => by rw [m2'.nF b' z] at h'; cases h') (g1'.sub _ _ h')
                  have ed : dls H2 (a :: (as ++ [p])) = dls H1 (a :: as) := by
                    funext b'
                    by_cases hb' : b' ∈ a :: as
                    · rw [dls_in hb', dls_in]
                      rcases List.mem_cons.mp hb' with e | hb'
                      · rw [e]; exact List.mem_cons_self
                      · exact List.mem_cons_of_mem _ (List.mem_append_left _ hb')
                    · by_cases hb2 : b' = p
                      · rw [dls_out hb', hb2, dls_in (by simp), hp]
                      · have hb3 : b' ∉ a :: (as ++ [p]) := fun z => by
                          rcases List.mem_cons.mp z with e | z
                          · exact hb' (by rw [e]; exact List.mem_cons_self)
                          · rcases List.mem_append.mp z with z | z
                            · exact hb' (List.mem_cons_of_mem _ z)
                            · exact hb2 (List.mem_singleton.mp z)
                        rw [dls_out hb', dls_out hb3, ← hH2, upd_ne (fun z => hb' (by rw [z]; exact List.mem_cons_self)), upd_ne hb2]
                  have er2 : EnvR T B F1 (dls H2 (a :: (as ++ [p]))) (ρ.set i .no) σ := by
                    rw [ed]
                    exact er1
                  refine ⟨.inl ⟨rfl, [], SqL.of hp2⟩, B, ρ.set i .no, v, F1, hv', gd.sub, er2.grow (Gr.unbL (sub_dls gd.sub m2')), fun u H3 F3 g3 r3 => ?_⟩
                  have er3 := er2.grow (g3.besL m2')
                  have m3 := m2'.grow g3
                  have hpm : p ∈ a :: (as ++ [p]) := by simp
                  refine ⟨p, [], u, rfl, rfl, g3.same _ _ hp2, by rw [sizeLine_eq]; decide, ?_⟩
                  have e5 : EnvR T B F3 (dls (upd H3 p (.lst ([] ++ [u]))) (a :: (as ++ [p]))) (ρ.set i .no) σ := by
                    rw [dls_upd hpm]
                    exact er3
                  have hg : gPutD kk v ks dss = dss ++ [[v]] := if_neg (by rw [hh]; exact Bool.false_ne_true)
                  have hgk : gPutK kk ks = ks ++ [kk] := if_neg (by rw [hh]; exact Bool.false_ne_true)
                  have ow' : OwnR T F3 (upd H3 p (.lst ([] ++ [u]))) (.gath (gPutK kk ks) (gPutD kk v ks dss)) a (a :: (as ++ [p])) := by
                    rw [hg, hgk]
                    refine ⟨as ++ [p], rfl, ?_, by rw [List.length_append, List.length_append, hl]; rfl, ?_, ?_⟩
                    · obtain ⟨n1, n2⟩ := List.nodup_cons.mp nd
                      refine List.nodup_cons.mpr ⟨fun z => ?_, ?_⟩
                      · rcases List.mem_append.mp z with z | z
                        · exact n1 z
                        · exact hpa (List.mem_singleton.mp z)
                      · refine List.nodup_append.mpr ⟨n2, by simp, fun x hx y hy => ?_⟩
                        rw [List.mem_singleton.mp hy]
                        exact fun z => hpn (by rw [← z]; exact hx)
                    · rw [upd_ne hpa]
                      exact g3.same _ _ ha2
                    · refine Lists.snoc upd_same (.cons r3 .nil) (ls1.keep g3.frz fun b' hb' o' ho' => ?_)
                      rw [upd_ne (fun z => hpn (by rw [← z]; exact hb'))]
                      exact g3.same _ _ (kpas b' hb' o' ho')
                  have e6 := e5.give (i := i) (by rw [List.getElem?_set_self hlt]) es ow' (m3.upd hpm)
                  rw [List.set_set] at e6
                  exact q _ _ _ ((gd.trans g3).mut m3 (upd_out hpm)) e6
            · cases e
          · cases e
        · cases e
      · cases e
    · cases e
end
end PD
end
section
set_option Elab.async false
set_option linter.all false
set_option maxRecDepth 100000
/-! PD13: freezing, values of tests, targets in general, a def from its body. -/
namespace PD
open PySem PySem.Spec PyProof.Rows L2

/-! ### what was filled is frozen -/
def frzO : OD → D
  | .lst ds => .lst ds
  | .dK ks ds => .dK ks ds
  | .dT ks ds => .dT ks ds
  | .gath ks dss => .dT ks (dss.map D.lst)
  | .ins _ fs ds => .non
def frzR (i : Nat) (ρ : Rho) : Option Rho := match atS ρ i with
  | .ow (.ins _ _ _) => none
  | .ow o => some (ρ.set i (.sh (frzO o)))
  | _ => none
def sFrz (i : Nat) (t : DS) : DS := fun ρ => match frzR i ρ with
  | some ρ' => t ρ'
  | none => none
section
variable {T : Tab}
def onto (F H : Hp) (fp : List Addr) : Hp := fun b => if b ∈ fp then H b else F b
theorem onto_in {F H : Hp} {fp : List Addr} {b : Addr} (h : b ∈ fp) : onto F H fp b = H b := if_pos h
theorem onto_out {F H : Hp} {fp : List Addr} {b : Addr} (h : b ∉ fp) : onto F H fp b = F b := if_neg h
theorem onto_same {B F H : Hp} {fp : List Addr} (m : Mine B F H fp) : Same F (onto F H fp) := fun b o h => by
  have hb : b ∉ fp := fun z => by rw [m.nF b z] at h; cases h
  rw [onto_out hb]
  exact h
theorem onto_sub {F H : Hp} {fp : List Addr} (s : Same F H) : Same (onto F H fp) H := fun b o h => by
  by_cases hb : b ∈ fp
  · rw [onto_in hb] at h; exact h
  · rw [onto_out hb] at h; exact s b o h
theorem lists_frz {F H G : Hp} (sF : Same F G) : ∀ {dss : List (List D)} {as : List Addr}, Lists T F H dss as → (∀ b ∈ as, ∀ o, H b = some o → G b = some o) → Reps T G (dss.map D.lst) (as.map V.ref)
  | _, _, .nil, _ => .nil
  | _, _, .cons h r t, k => .cons (.lst (SqL.of (k _ List.mem_cons_self _ h)) (r.mono sF)) (lists_frz sF t fun b hb => k b (List.mem_cons_of_mem _ hb))
theorem own_frz {B F H : Hp} {o : OD} {a : Addr} {fp : List Addr} (m : Mine B F H fp) (ow : OwnR T F H o a fp) (hn : ∀ a0 fs ds, o ≠ .ins a0 fs ds) : Rep T (onto F H fp) (frzO o) (.ref a) := by
  have sF := onto_same m
  cases o with
  | lst ds =>
    obtain ⟨q1, vs, q2, q3⟩ := ow
    exact .lst (SqL.of (by rw [onto_in (by rw [q1]; exact List.mem_cons_self)]; exact q2)) (q3.mono sF)
  | dK ks ds =>
    obtain ⟨q1, q4, vs, q2, q3⟩ := ow
    exact .dK (by rw [onto_in (by rw [q1]; exact List.mem_cons_self)]; exact q2) q4 (q3.mono sF)
  | dT ks ds =>
    obtain ⟨q1, q4, vs, q2, q3⟩ := ow
    exact .dT (by rw [onto_in (by rw [q1]; exact List.mem_cons_self)]; exact q2) q4 (q3.mono sF)
  | ins a0 fs ds => exact absurd rfl (hn a0 fs ds)
  | gath ks dss =>
    obtain ⟨as, q1, q4, q5, q2, q3⟩ := ow
    refine .dT (by rw [onto_in (by rw [q1]; exact List.mem_cons_self)]; exact q2) (by rw [List.length_map]; exact q5) (lists_frz sF q3 fun b hb o ho => ?_)
    rw [onto_in (by rw [q1]; exact List.mem_cons_of_mem _ hb)]
    exact ho
theorem env_frz {F0 B F H : Hp} {ρ ρ' : Rho} {σ : L2.St} {i : Nat} (e : frzR i ρ = some ρ') (g : Gr F0 B F H) (er : EnvR T B F H ρ σ) : ∃ F', Gr F0 B F' H ∧ Same F F' ∧ EnvR T B F' H ρ' σ := by
  have main : ∀ o, ρ[i]? = some (.ow o) → (∀ a0 fs ds, o ≠ .ins a0 fs ds) → ∃ F', Gr F0 B F' H ∧ Same F F' ∧ EnvR T B F' H (ρ.set i (.sh (frzO o))) σ := fun o ei hn => by
    obtain ⟨a, fp, es, ow, m, er'⟩ := er.take ei
    have sF := onto_same m
    have sH : Same (onto F H fp) H := onto_sub g.sub
    refine ⟨onto F H fp, ⟨g.same, g.frz.trans sF, sH, fun b o' h => ?_⟩, sF, ?_⟩
    · by_cases hb : b ∈ fp
      · exact .inr (m.nB b hb)
      · rw [onto_out hb] at h
        exact g.fresh b o' h
    · have g2 : Gr F (dls H fp) (onto F H fp) H := ⟨dls_same, sF, sH, fun b o' h => by
        by_cases hb : b ∈ fp
        · exact .inr (dls_in hb)
        · rw [onto_out hb] at h
          exact .inl h⟩
      have q := (er'.grow g2).set (i := i) (own_frz m ow hn)
      rw [List.set_set] at q
      have hs : σ.set i (some (.ref a)) = σ := by
        apply List.ext_getElem?
        intro j
        by_cases hj : i = j
        · subst hj
          rw [List.getElem?_set_self (List.getElem?_eq_some_iff.mp es).1, es]
        · rw [List.getElem?_set_ne hj]
      rw [hs] at q
      exact q
  unfold frzR at e
  split at e
  · cases e
  · rename_i o hno hds
    cases e
    exact main o (atS_get hds (fun z => nomatch z)) (fun a0 fs ds z => hno a0 fs ds z)
  · cases e
section
variable {X : Cx} {st : Stmt} {sts : List Stmt} {ds : DS}
theorem frz_read {i : Nat} {Dn : Ends} {σ : L2.St} {H : Hp} (h : rdS T (sFrz i ds) Dn σ H) : rdS T ds Dn σ H := by
  obtain ⟨B, F0, ρ, o, F, e, g, er, q⟩ := h
  unfold sFrz at e
  split at e
  · rename_i ρ' h1
    obtain ⟨F', g', s', er'⟩ := env_frz h1 g er
    exact ⟨B, F0, ρ', o, F', e, g', er', q⟩
  · cases e
theorem sd_frz (i : Nat) (h : SD T X st ds) : SD T X st (sFrz i ds) := fun hT => psImp (h hT) fun Dn σ H h => frz_read h
theorem sds_frz (i : Nat) (h : SDs T X sts ds) : SDs T X sts (sFrz i ds) := fun hT => pssImp (h hT) fun Dn σ H h => frz_read h
end
end

/-! ### truths as values -/
section
variable {T : Tab} {X : Cx} {a e : Expr} {da de : DE} {pos pos' : Pos} {j : Option String}
def blD : D → Option Bool
  | .bl b => some b
  | _ => none
theorem ed_toB (h : ED T X e de) : ED T X e (dB (t1 blD de)) := fun hT => peImp (h hT) fun σ H Q h => by
  obtain ⟨B, ρ, d, F, e, s, er, q⟩ := h
  refine ⟨B, ρ, d, F, ?_, s, er, q⟩
  unfold dB t1 at e
  cases hd : de ρ with
  | none => rw [hd] at e; cases e
  | some x =>
    rw [hd] at e
    cases x <;> first | (cases e; rfl) | cases e
/-- the value of a target's right side, into any target -/
def sAsg (g : DG) (a : DE) : DS := fun ρ => match a ρ with
  | some d => (match g d ρ with
    | some ρ' => some (.nx ρ')
    | none => none)
  | none => none
theorem sd_asg {tg : Expr} {g : DG} {ws : List Nat} (he : ED T X e de) (hg : GD T X tg g ws) (hs : swapsWithSole [tg] e pos.line X.env = pure false := by rfl) (hw : swappedStores [tg] e X.env = pure none := by rfl)
    (h1 : (assignEach [tg] X.env).map (·.2) = [assign tg X.env] := by rfl) : SD T X (.Assign [tg] e pos) (sAsg g de) := fun hT => psImp (ps_asg (he hT) (hg hT) hs hw h1) fun Dn σ H h => by
  obtain ⟨B, F0, ρ, o, F, e, gr, er, q⟩ := h
  unfold sAsg at e
  split at e
  · rename_i d h1
    split at e
    · rename_i ρ' h2
      cases e
      refine ⟨B, ρ, d, F, h1, gr.sub, er, fun v H1 F1 g1 r1 => ?_⟩
      exact ⟨B, ρ, d, ρ', F1, H1, h2, g1.sub, Same.refl _, er.grow g1, r1, fun σ' er' _ => q σ' H1 F1 (gr.trans g1) er'⟩
    · cases e
  · cases e
theorem ed_isN {k} (ha : ED T X a da) : ED T X (.Compare a [.Is] [.Constant .none k pos'] pos) (dB (t1 fIsN da)) := fun hT => peImp (pe_cmp (pc_isN (ha hT))) fun σ H Q h => by
  obtain ⟨B, ρ, d, F, e, s, er, q⟩ := h
  unfold dB t1 at e
  cases hd : da ρ with
  | none => rw [hd] at e; cases e
  | some x =>
    rw [hd] at e
    refine ⟨B, ρ, x, F, hd, s, er, fun v H1 F1 g1 r1 => ?_⟩
    simp only [isN_rep r1] at e
    cases e
    exact q _ H1 F1 g1 (.bl _)
end

/-! ### a def by its body -/
section
variable {T : Tab} {P : Program} {w : World} {mg : Str → Option Value} {base : Heap}
/-- what the top has written of a def -/
def Wr (T : Tab) (mg : Str → Option Value) (x : Str) (ps : List Str) (st : Stmt) : Prop := ∃ f fd, Fun T.K x x st f fd ∧ mg x = some (.ref f) ∧ Binds T.K fd ps []
/-- a method's -/
def WrM (T : Tab) (qual x : Str) (ps : List Str) (st : Stmt) : Prop := ∃ f fd, Fun T.K x qual st f fd ∧ Meth T.K T.C x f ∧ Binds T.K fd ps []
abbrev Bod (T : Tab) (P : Program) (w : World) (mg : Str → Option Value) (base : Heap) (k : Nat) (N : List Str) (qual : Str) (st : Stmt) (ds : DS) : Prop :=
  ∀ (f : Addr) (cdv : Value) (A : Around) (outer : List Env) (s : Shared) (H : Hp) (E : XK), Room k (A.deeper (envOfC qual (defScope st) s.heap.objs.size f cdv)) →
    SDs T (cxOf CX0 P w T.K mg base N qual (defScope st) f cdv A outer s H E).nox (defBody st) ds
theorem mkDef {x : Str} {ps N : List Str} {st : Stmt} {k : Nat} {ds : DS} (W : Wr T mg x ps st) (S : FnScope N ps (defScope st)) (h : Bod T P w mg base k N x st ds) : Def T P w mg base (k + 1) x ps.length (runD N.length ds) := by
  obtain ⟨f, fd, F, hm, hb⟩ := W
  exact ⟨f, fd, ps, def_ok F S rfl (h f), hm, F.kp, hb⟩
theorem mkMdef {x qual : Str} {ps N : List Str} {st : Stmt} {k : Nat} {ds : DS} (W : WrM T qual x ps st) (hx : x ∉ T.fs) (S : FnScope N ps (defScope st)) (h : Bod T P w mg base k N qual st ds) : Mdef T P w mg base (k + 1) x ps.length (runD N.length ds) := by
  obtain ⟨f, fd, F, hm, hb⟩ := W
  exact ⟨hx, f, fd, ps, def_ok F S rfl (h f), hm, hb⟩
theorem Def.up {k j : Nat} {x : Str} {n : Nat} {g : List D → Option D} (F : Def T P w mg base k x n g) (h : k ≤ j := by decide) {A : Around} (r : Room j A) : Room k A := r.mono h
end
end PD
end
section
set_option Elab.async false
set_option linter.all false
set_option maxRecDepth 100000
/-! PD14: constants of the module, written dicts by what is known of them. -/
namespace PD
open PySem PySem.Spec PyProof.Rows L2
section
variable {T : Tab} {X : Cx} {b : Expr} {db : DE} {pos : Pos}
theorem ed_cst {x : Str} {d : D} {p : Pos} (h : ∃ u v, X.mg x = some u ∧ RelV v u ∧ ∀ F, Rep T F d v) (hg : Gl X x := by exact rfl) (hd : (x == ("__debug__" : Str)) = false := by decide) : ED T X (.Name x p) (dC d) := by
  obtain ⟨u, v, h1, h2, h3⟩ := h
  exact ed_glob h1 h2 h3 hg hd
theorem ed_kdx {x : Str} {g : Str → Option D} {p : Pos} (h : ∃ d, X.mg x = some (.ref d) ∧ KGives T X.w d g) (hb : ED T X b db) (hg : Gl X x := by exact rfl) (hd : (x == ("__debug__" : Str)) = false := by decide) (hs : NoSl b := by exact fun _ _ => rfl) : ED T X (.Subscript (.Name x p) b pos) (dKd g db) := by
  obtain ⟨d, h1, h2⟩ := h
  exact ed_kd (fun _ => h2) h1 hb hg hd hs
end
end PD
namespace PD
open PySem PySem.Spec PyProof.Rows L2
section
variable {T : Tab} {X : Cx} {a b e : Expr} {da db de de' : DE} {pos : Pos}
theorem ed_weak (h : ED T X e de) (i : ∀ ρ d, de' ρ = some d → de ρ = some d) : ED T X e de' := fun hT => peImp (h hT) fun σ H Q h => by
  obtain ⟨B, ρ, d, F, e, r⟩ := h
  exact ⟨B, ρ, d, F, i ρ d e, r⟩
def lstO (a : DE) : DE := fun ρ => match a ρ with
  | some (.lst l) => some (.lst l)
  | _ => none
def fIndexL (x y : D) : Option D := match x with
  | .lst xs => fIndex (.lst xs) y
  | _ => none
theorem ed_indexLL {apos : Pos} (ha : ED T X a da) (hb : ED T X b db) (hbase : attributeBase a "index" X.env (eval a X.env) = eval a X.env := by rfl)
    (hfew : ((backTo pos (starEach [b] X.env)).all (fun x => !x.1) && (backToKw pos (keywordEach [] X.env)).all (fun x => x.1.isSome)
      && decide (([b] : List Expr).length + ([] : List Keyword).length + (if ([] : List Keyword).isEmpty then 0 else 1) < 30)) = true := by rfl)
    (hline : (apos.endLine == pos.line) = true := by rfl) (hs : starEach [b] X.env = (false, eval b X.env) :: starEach [] X.env := by rfl) : ED T X (.Call (.Attribute a "index" apos) [b] [] pos) (d2 fIndexL da db) := by
  have h1 : ED T X a (lstO da) := ed_weak ha fun ρ d h => by
    unfold lstO at h
    split at h
    · rename_i l h2
      cases h
      exact h2
    · cases h
  refine ed_weak (ed_indexL h1 hb hbase hfew hline hs fun ρ xs y hx _ _ => ?_) fun ρ d h => ?_
  · unfold lstO at hx
    split at hx
    · cases hx
      exact ⟨_, rfl⟩
    · cases hx
  · unfold d2 at h ⊢
    cases ha' : da ρ with
    | none => rw [ha'] at h; cases h
    | some x =>
      rw [ha'] at h
      cases hb' : db ρ with
      | none => rw [hb'] at h; cases h
      | some y =>
        rw [hb'] at h
        cases x with
        | lst l =>
          have e1 : lstO da ρ = some (.lst l) := by unfold lstO; rw [ha']
          rw [e1]
          exact h
        | _ => cases h
end
end PD
end
section
set_option Elab.async false
set_option linter.all false
set_option maxRecDepth 100000
/-! PD15: comprehensions that fill any new object; sets of texts. -/
namespace PD
open PySem PySem.Spec PyProof.Rows L2

/-! ### the object that a comprehension fills -/
/-- R F H a: the object at p has the content a -/
structure Obf (p : Addr) (α : Type) (R : Hp → Hp → α → Prop) : Prop where
  mono : ∀ {F H F' H' : Hp} {a : α}, R F H a → Same F F' → Same H H' → R F' H' a
  at_ : ∀ {F H : Hp} {a : α}, R F H a → ∃ o, H p = some o
def KRG (T : Tab) (p : Addr) {α : Type} (R : Hp → Hp → α → Prop) (K : TK) (k : Rho → α → Option α) : Prop := ∀ B ρ x y F H σ (Nx : Hp → Prop), k ρ x = some y → Same F (dl H p) → EnvR T B F (dl H p) ρ σ → R F H x →
  (∀ H' F', Gr F (dl H p) F' (dl H' p) → R F' H' y → Nx H') → K σ H Nx
def lcG {α : Type} (g : DG) (tt : DTt) (k : Rho → α → Option α) (ρ0 : Rho) : List D → α → Option α
  | [], x => some x
  | d :: r, x => match g d ρ0 with
    | some ρ1 => (match tt ρ1 with
      | some true => (match k ρ1 x with
        | some y => lcG g tt k ρ0 r y
        | none => none)
      | some false => lcG g tt k ρ0 r x
      | none => none)
    | none => none
section
variable {T : Tab} {p : Addr} {α : Type} {R : Hp → Hp → α → Prop}
theorem kg_loopJ (O : Obf p α R) {J : It} {g : DG} {ws : List Nat} {tt : DTt} {K : TK} {k : Rho → α → Option α} {vs : List Nat} (hk : KRG T p R K k) (hw : ∀ i ∈ ws, i ∈ vs) {B : Hp} {ρ : Rho} {ds : List D} {x y : α} {F H : Hp} {σ : L2.St} {Nx : Hp → Prop}
    (wk : Walks T F J ds) (e : lcG g tt k (wipeR ρ vs) ds x = some y) (s : Same F (dl H p)) (er : EnvR T B F (dl H p) ρ σ) (hp : R F H x)
    (h : ∀ H' F', Gr F (dl H p) F' (dl H' p) → R F' H' y → Nx H') : kLoopJ J (rdG T g ws) (rdT T tt) vs K σ H Nx := by
  refine ⟨fun i m H' => m = ds.length - i ∧ i ≤ ds.length ∧ ∃ F' z, Gr F (dl H p) F' (dl H' p) ∧ R F' H' z ∧ lcG g tt k (wipeR ρ vs) (ds.drop i) z = some y,
    ⟨ds.length, rfl, Nat.zero_le _, F, x, ⟨Same.refl _, Same.refl _, s, fun _ _ z => .inl z⟩, hp, e⟩, ?_⟩
  rintro i m H' ⟨rfl, hi, F', z, gr, hz, e'⟩
  have nF' : F' p = none := Gr.noF gr.sub
  have sub' : Same F' H' := gr.sub.trans dl_same
  obtain ⟨op, hp'⟩ := O.at_ hz
  by_cases hlt : i < ds.length
  · have hd : ds.drop i = ds[i] :: ds.drop (i + 1) := List.drop_eq_getElem_cons hlt
    rw [hd] at e'
    obtain ⟨go, yl⟩ := (wk.mono gr.frz).1 H' i ds[i] sub' (List.getElem?_eq_getElem hlt)
    refine .inr ⟨go, fun H2 => ∃ F2 z2, Gr F (dl H p) F2 (dl H2 p) ∧ R F2 H2 z2 ∧ lcG g tt k (wipeR ρ vs) (ds.drop (i + 1)) z2 = some y, fun H2 hN => ⟨ds.length - (i + 1), by omega, rfl, hlt, hN⟩, fun u H2 yy => ?_⟩
    obtain ⟨rfl, rx⟩ := yl u H2 yy
    have er' : EnvR T B F' (dl H2 p) (wipeR ρ vs) (L2.wipe σ vs) := (er.grow gr).wipe vs
    unfold lcG at e'
    split at e'
    · rename_i ρ1 hg1
      refine ⟨B, wipeR ρ vs, ds[i], ρ1, F', dl H2 p, hg1, gr.sub, dl_same, er', rx, fun σ1 er1 hw1 => ⟨by rw [hw1 vs hw]; exact wipe_wipe fun _ z => z, ?_⟩⟩
      split at e'
      · rename_i ht1
        refine ⟨B, ρ1, true, F', ht1, sub', er1.grow (Gr.unb gr.sub), fun H3 F3 g3 => ?_⟩
        have g3d := g3.bes nF' hp'
        split at e'
        · rename_i z1 hk1
          refine iteT (hk B ρ1 z z1 F3 H3 σ1 _ hk1 g3d.sub (er1.grow g3d) (O.mono hz g3.frz g3.same) fun H4 F4 g4 hz4 => ?_)
          exact ⟨F4, z1, (gr.trans g3d).trans g4, hz4, e'⟩
        · cases e'
      · rename_i ht1
        refine ⟨B, ρ1, false, F', ht1, sub', er1.grow (Gr.unb gr.sub), fun H3 F3 g3 => iteF ?_⟩
        exact ⟨F3, z, gr.trans (g3.bes nF' hp'), O.mono hz g3.frz g3.same, e'⟩
      · cases e'
    · cases e'
  · have ei : i = ds.length := by omega
    subst ei
    rw [List.drop_length] at e'
    cases e'
    exact .inl ⟨(wk.mono gr.frz).2 H' sub', h H' F' gr hz⟩
end

/-! ### sets of texts -/
def SetTR (P : Program) (w : World) (a : Addr) (l : List Str) (h : Heap) : Prop := ∃ Dd : PySem.Froz.SD, h.get? a = some (PySem.Froz.sObj "set" Dd) ∧ PySem.Froz.TxOk P w Dd l ∧ l.Nodup ∧ Ris Dd.2.2.place.toList ∧ (w.params.followText "set-order" = true ∨ Dd.2.2.led = true)
def SetT (P : Program) (w : World) (a : Addr) (l : List Str) : HO := .ext fun h => SetTR P w a l h
section
variable {P : Program} {w : World} {A : Around} {E : Value → Shared → Prop} {s : Shared}
theorem setT_new {H : Hp} {h : Heap} {a : Addr} {l : List Str} (R : SetTR P w a l h) : ObjOk P w H h a (SetT P w a l) := by
  have ⟨d, hd, _⟩ := R
  exact ⟨R, ⟨_, hd⟩, fun h1 h2 ⟨d, hd, r⟩ k => ⟨d, k _ hd, r⟩⟩
theorem tail_ris {ep : Nat} {es : Array (Int × Value)} {t : SetTable} {d : Bool} (r : Ris t.place.toList) : Ris (PySem.Froz.tailTx ep es t d).2.2.place.toList := by
  unfold PySem.Froz.tailTx
  split
  · exact relayAll_ris _ _ _
  · exact r
theorem tail_led {ep : Nat} {es : Array (Int × Value)} {t : SetTable} {d : Bool} (r : t.led = true) : (PySem.Froz.tailTx ep es t d).2.2.led = true := by
  unfold PySem.Froz.tailTx
  split
  · exact (relayAll_led _ _ _).trans r
  · exact r
theorem add_ris {es : Array (Int × Value)} {ep : Nat} {t : SetTable} {h : Int} {v : Value} (r : Ris t.place.toList) : Ris (PySem.Froz.addTx h v (es, ep, t)).2.2.place.toList := by
  unfold PySem.Froz.addTx
  refine tail_ris ?_
  split
  · exact layNew_ris t es h v r
  · exact layNew_ris t es h v r
theorem add_led {es : Array (Int × Value)} {ep : Nat} {t : SetTable} {h : Int} {v : Value} (r : t.led = true) : (PySem.Froz.addTx h v (es, ep, t)).2.2.led = true := by
  have h1 : (layNew t es h v).2.1.led = true := (layNew_led t es h v).trans r
  unfold PySem.Froz.addTx
  refine tail_led ?_
  split
  · exact h1
  · exact h1
/-- the text is there -/
theorem old_x {a : Addr} {T : String} {Dd : PySem.Froz.SD} {l : List Str} {k : Str} {u : Tok} {Q : Bool → Shared → Prop} (ho : s.heap.get? a = some (PySem.Froz.sObj T Dd)) (F : PySem.Froz.TxOk P w Dd l) (hk : k ∈ l) (hb : l.length < scanBound)
    (h : Q false s) : wpAny (model P w) A (setAddHashed a (.str k u) (hashStr w k)) Q E s := by
  obtain ⟨es, ep, t⟩ := Dd
  have hd : (PySem.Froz.sObj T (es, ep, t)).data = .set es ep t := rfl
  have hsz : es.size = l.length := F.sz
  obtain ⟨e0, he0, q0⟩ := (F.mem k).mp hk
  unfold setAddHashed setAddHashedIn
  refine wpAny_holding (wpAny_bind (wpAny_setState_of ho hd F.fit ?_))
  dsimp only
  rw [byScan_of rfl (by rw [hsz]; exact hb) F.el]
  simp only [↓reduceIte]
  unfold setAddByScan
  refine wpAny_bind (wpAny_bind (wpAny_rule (wpAny_bind (wpAny_setScan_of (knd := strKind P w) (k := k) (PySem.Froz.is_str k u) ho hd F.fit F.el ?_))))
  cases hr : List.findIdx? (fun e => (PySem.strKind P w).is k e.2) es.toList with
  | none =>
    have c := List.findIdx?_eq_none_iff.mp hr e0 he0
    rw [q0] at c
    cases c
  | some j =>
    dsimp only
    exact wpAny_pure (wpAny_pure h)
/-- members, the latest first -/
def addS (k : Str) (l : List Str) : List Str := match inS k l with
  | true => l
  | false => k :: l
theorem inS_iff {k : Str} : ∀ {l : List Str}, inS k l = true ↔ k ∈ l
  | [] => ⟨fun h => (nomatch h), fun h => (nomatch h)⟩
  | y :: r => by
    rw [inS]
    cases h : seqS y k with
    | true =>
      refine ⟨fun _ => ?_, fun _ => rfl⟩
      rw [seqS_iff.mp h]
      exact List.mem_cons_self
    | false =>
      refine ⟨fun q => List.mem_cons_of_mem _ (inS_iff.mp q), fun q => ?_⟩
      rcases List.mem_cons.mp q with e | q
      · rw [e, seqS_iff.mpr rfl] at h
        cases h
      · exact inS_iff.mpr q
theorem call_addT {a : Addr} {l : List Str} {k : Str} {u : Tok} {Q : Value → Shared → Prop} (R : SetTR P w a l s.heap) (hb : l.length + 1 < scanBound)
    (h : ∀ h', Heap.SameBut a s.heap h' → SetTR P w a (addS k l) h' → Q .none { s with heap := h', toks := s.toks + 1 }) : wpAny (model P w) A (call (.builtin "set.add") [.ref a, .str k u]) Q E s := by
  have R0 := R
  obtain ⟨Dd, hd, F, nd, rs, ld⟩ := R
  refine wpAny_call_entry PySem.F.slot_set_add ⟨_, hd, rfl⟩ PySem.F.entry_set_add ?_ (PySem.F.args_set_add_2 _ _)
  unfold Builtin.«set.add» Builtin.Frozenset.oneOther
  simp only [List.isEmpty_nil, bind_assoc]
  unfold Builtin.Frozenset.addrOf setAdd
  refine wpAny_bind (wpAny_pure ?_)
  try dsimp only
  refine wpAny_bind (wpAny_pure ?_)
  try dsimp only
  refine wpAny_bind (wpAny_holding (wpAny_bind ((PySem.strKind P w).pyHash (PySem.Froz.is_str k u) ?_)))
  have fin : ∀ (b : Bool) h', Heap.SameBut a s.heap h' → SetTR P w a (addS k l) h' → wpAny (model P w) A.in1 (ret Value.none) (fun fin s' => ∃ v, fin = .done (.ret v) ∧ Q v s') E { s with heap := h', toks := s.toks + 1 } := fun b h' sb r => wpAny_pure ⟨_, rfl, h h' sb r⟩
  by_cases hk : k ∈ l
  · refine old_x (s := { s with toks := s.toks + 1 }) hd F hk (by omega) ?_
    refine fin false s.heap (Heap.SameBut.refl a s.heap) ?_
    unfold addS
    rw [inS_iff.mpr hk]
    exact R0
  · refine PySem.Froz.add_x (s := { s with toks := s.toks + 1 }) hd F hk hb ?_
    refine fin true _ (Heap.SameBut.update s.heap a _) ?_
    have hf : inS k l = false := by
      cases q : inS k l with
      | false => rfl
      | true => exact absurd (inS_iff.mp q) hk
    unfold addS
    rw [hf]
    obtain ⟨es, ep, t⟩ := Dd
    exact ⟨_, PySem.Froz.get_upd _ hd rfl, PySem.Froz.add_ok u F, List.nodup_cons.mpr ⟨hk, nd⟩, add_ris rs, ld.imp id add_led⟩
end
end PD
end
section
set_option Elab.async false
set_option linter.all false
set_option maxRecDepth 100000
/-! PD16: sets of texts: len of them, sorted lists of them. -/
namespace PD
open PySem PySem.Spec PyProof.Rows L2

/-! ### plain lists -/
def insT (k : Str) : List Str → List Str
  | [] => [k]
  | y :: r => match ltCps k.cps.toList y.cps.toList with
    | true => k :: y :: r
    | false => y :: insT k r
def sortS : List Str → List Str
  | [] => []
  | k :: r => insT k (sortS r)
abbrev leT (a b : Str) : Prop := ltCps b.cps.toList a.cps.toList = false
theorem leT_iff {a b : Str} : leT a b ↔ ¬ b.cps.toList < a.cps.toList := by
  show ltCps _ _ = false ↔ _
  rw [ltCps_eq]
  exact decide_eq_false_iff_not
theorem leT_trans {a b c : Str} (h1 : leT a b) (h2 : leT b c) : leT a c := by
  rw [leT_iff] at *
  exact fun h => (List.lt_irrefl _) (List.lt_of_le_of_lt (List.not_lt.mp h1) (List.lt_of_le_of_lt (List.not_lt.mp h2) h))
theorem leT_anti {a b : Str} (h1 : leT a b) (h2 : leT b a) : a = b := by
  rw [leT_iff] at *
  exact str_eq_iff.mpr (List.le_antisymm (List.not_lt.mp h1) (List.not_lt.mp h2))
theorem insT_perm (k : Str) : ∀ l : List Str, (insT k l).Perm (k :: l)
  | [] => .refl _
  | y :: r => by
    rw [insT]
    split
    · exact .refl _
    · exact ((insT_perm k r).cons y).trans (.swap _ _ _)
theorem sortS_perm : ∀ l : List Str, (sortS l).Perm l
  | [] => .refl _
  | k :: r => (insT_perm k (sortS r)).trans ((sortS_perm r).cons k)
theorem insT_sorted (k : Str) : ∀ {l : List Str}, l.Pairwise leT → (insT k l).Pairwise leT
  | [], _ => List.pairwise_singleton _ _
  | y :: r, h => by
    obtain ⟨h1, h2⟩ := List.pairwise_cons.mp h
    rw [insT]
    split
    · rename_i hk
      have hky : leT k y := leT_iff.mpr fun z => List.lt_irrefl _ (List.lt_trans z (of_decide_eq_true (by rw [← ltCps_eq]; exact hk)))
      refine List.pairwise_cons.mpr ⟨fun x hx => ?_, h⟩
      rcases List.mem_cons.mp hx with e | hx
      · rw [e]; exact hky
      · exact leT_trans hky (h1 x hx)
    · rename_i hk
      refine List.pairwise_cons.mpr ⟨fun x hx => ?_, insT_sorted k h2⟩
      rcases List.mem_cons.mp ((insT_perm k r).mem_iff.mp hx) with e | hx
      · rw [e]; exact hk
      · exact h1 x hx
theorem sortS_sorted : ∀ l : List Str, (sortS l).Pairwise leT
  | [] => .nil
  | k :: r => insT_sorted k (sortS_sorted r)
theorem pair_of_rising : ∀ {p : Str} {l : List Str}, risingS p l = true → (p :: l).Pairwise leT
  | p, [], _ => List.pairwise_singleton _ _
  | p, x :: r, h => by
    rw [risingS, Bool.and_eq_true, Bool.not_eq_true'] at h
    have ih := pair_of_rising h.2
    obtain ⟨i1, i2⟩ := List.pairwise_cons.mp ih
    refine List.pairwise_cons.mpr ⟨fun y hy => ?_, ih⟩
    rcases List.mem_cons.mp hy with e | hy
    · rw [e]; exact h.1
    · exact leT_trans h.1 (i1 y hy)
theorem pair_of_sorted : ∀ {l : List Str}, sortedS l = true → l.Pairwise leT
  | [], _ => .nil
  | _ :: _, h => pair_of_rising h
theorem sortS_only {l ss : List Str} (p : ss.Perm l) (h : sortedS ss = true) : ss = sortS l :=
  List.Perm.eq_of_pairwise (fun a b _ _ => leT_anti) (pair_of_sorted h) (sortS_sorted l) (p.trans (sortS_perm l).symm)
theorem nodup_of : ∀ {K l : List Str}, l.Nodup → (∀ x ∈ l, x ∈ K) → K.length = l.length → K.Nodup
  | [], _, _, _, _ => List.nodup_nil
  | y :: K, l, nd, hs, hl => by
    have hy : ∀ hn : y ∈ K ∨ y ∉ l, False := fun hn => by
      have : l ⊆ K := fun x hx => by
        rcases List.mem_cons.mp (hs x hx) with e | h
        · rcases hn with z | z
          · rw [e]; exact z
          · exact absurd (e ▸ hx) z
        · exact h
      have := List.Nodup.length_le_of_subset nd this
      rw [List.length_cons] at hl
      omega
    have h1 : y ∉ K := fun z => hy (.inl z)
    have h2 : y ∈ l := Classical.byContradiction fun z => hy (.inr z)
    refine List.nodup_cons.mpr ⟨h1, nodup_of (l := l.erase y) (nd.erase y) (fun x hx => ?_) ?_⟩
    · rcases List.mem_cons.mp (hs x (List.mem_of_mem_erase hx)) with e | h
      · rw [e] at hx
        exact absurd hx (List.Nodup.not_mem_erase nd)
      · exact h
    · rw [List.length_erase_of_mem h2]
      rw [List.length_cons] at hl
      omega

/-! ### the built-ins over a set of texts -/
section
variable {P : Program} {w : World} {A : Around} {E : Value → Shared → Prop} {s : Shared}
theorem call_lenT {a : Addr} {l : List Str} {Q : Value → Shared → Prop} (R : SetTR P w a l s.heap) (hl : l.length < 100000) (h : ∀ t k, Q (.int l.length t) { s with toks := k }) : wpAny (model P w) A (call (.builtin "len") [.ref a]) Q E s := by
  obtain ⟨Dd, hd, F, nd, rs, ld⟩ := R
  have hsz : Dd.1.size = l.length := F.sz
  refine PySem.call_len_set (es := Dd.1) (ep := Dd.2.1) (t := Dd.2.2) hd ⟨rfl, rfl, rfl⟩ rfl F.fit (by rw [hsz]; omega) ?_
  rw [hsz]
  exact h _ _
theorem sortedT {a : Addr} {l : List Str} {Q : Value → Shared → Prop} (R : SetTR P w a l s.heap) (hh : A.handled = none) (hl : l.length < scanBound)
    (hQ : ∀ s' p (out : Array Value) (c : Nat), (∀ b o, s.heap.get? b = some o → s'.heap.get? b = some o) → s'.gens = s.gens → s'.os = s.os → s.heap.objs.size ≤ p →
      s'.heap.get? p = some (seqObj "list" out c) → StrsAre out.toList (sortS l) → Q (.ref p) s') : wpAny (model P w) A (call (.builtin "sorted") [.ref a]) Q E s := by
  obtain ⟨Dd, hd, F, nd, rs, ld⟩ := R
  have hsz : Dd.1.size = l.length := F.sz
  have hb4 : l.length ≤ 4096 := by
    have : scanBound = 4096 := rfl
    omega
  refine Calls.call_function_entry kind_sorted plain_sorted entry_sorted (args_sorted1 _) ?_
  unfold Builtin.«sorted»
  refine wpAny_bind (m := checkCount "sorted" 1 1 _) (wpAny_pure ?_)
  refine wpAny_bind (collect_set (es := Dd.1) (ep := Dd.2.1) (t := Dd.2.2) (A := A.in1) hh ⟨_, hd, rfl, rfl⟩ F.fit (by rw [hsz]; exact hl) rs ld fun s1 vs k1 hz g1 o1 pm => ?_)
  have hvl : vs.length = l.length := by rw [pm.length_eq, List.length_map, Array.length_toList]; exact hsz
  have shape : ∀ v ∈ vs, ∃ x t, v = Value.str x t := fun v hv => by
    obtain ⟨e, he, q⟩ := List.mem_map.mp (pm.mem_iff.mp hv)
    obtain ⟨⟨k, hk, _⟩, _⟩ := F.el e he
    obtain ⟨t, ht⟩ := Value.isStrOf_shape hk
    exact ⟨k, t, by rw [← q, ht]⟩
  have hS := strsAre_map vs shape
  have mem : ∀ k, k ∈ vs.map strOf ↔ k ∈ l := fun k => by
    rw [F.mem k, List.mem_map]
    constructor
    · rintro ⟨v, hv, rfl⟩
      obtain ⟨e, he, q⟩ := List.mem_map.mp (pm.mem_iff.mp hv)
      obtain ⟨x, t, hx⟩ := shape v hv
      refine ⟨e, he, ?_⟩
      rw [q, hx]
      exact PySem.Froz.is_str x t
    · rintro ⟨e, he, q⟩
      obtain ⟨t, ht⟩ := Value.isStrOf_shape q
      exact ⟨e.2, pm.mem_iff.mpr (List.mem_map.mpr ⟨e, he, rfl⟩), by rw [ht]; rfl⟩
  have hp : (vs.map strOf).Perm l := (List.perm_ext_iff_of_nodup (nodup_of nd (fun x hx => (mem x).mpr hx) (by rw [List.length_map]; exact hvl)) nd).mpr mem
  refine wpAny_bind (wpAny_newList ?_ (by rw [hvl, sizeLine_eq]; omega))
  have hoL : (s1.heap.push (seqObj "list" vs.toArray 0)).get? s1.heap.objs.size = some (seqObj "list" vs.toArray 0) := Heap.get?_push_size _ rfl
  refine wpAny_bind (wpAny_holding (wpAny_call_entry slot_list_sort ⟨_, hoL, rfl⟩ entry_list_sort (list_sort_treeKAny strKind_oneLt hoL hS.keysOf (fun v₁ v₂ rest e => keyKind_strs (by rw [← e]; exact hS)) (by rw [hvl, sizeLine_eq]; omega) fun st' q1 q2 => ⟨_, rfl, ?_⟩) (args_list_sort _)))
  obtain ⟨ss', h1, h2, h3⟩ := sorted_out_str hS q1 q2
  obtain ⟨c, hc⟩ := sortedHeap_at (vs := vs) (out := (arrOf st').map (·.2)) hoL
  have e1 : ss' = sortS l := sortS_only (h2.trans hp) h3
  rw [e1] at h1
  refine wpAny_pure ⟨_, rfl, hQ _ s1.heap.objs.size _ c (fun b u e => ?_) g1 o1 hz hc h1⟩
  have q := k1 b u e
  have hlt := Heap.lt_size q
  show (sortedHeap (s1.heap.push (seqObj "list" vs.toArray 0)) s1.heap.objs.size vs _).get? b = some u
  rw [sortedHeap_old (Nat.ne_of_lt hlt) (by rw [size_push']; exact Nat.lt_succ_of_lt hlt)]
  exact Heap.get?_push_of_some _ q
end
section
variable {X : Cx}
theorem setT_get {pins : List (Addr × Obj)} {σ : L2.St} {H : Hp} {s : Shared} {a : Addr} {l : List Str} (I : Inv X pins σ H s) (ha : H a = some (SetT X.prog X.w a l)) : SetTR X.prog X.w a l s.heap := (I.hok a _ ha).1
def rLenT (P : Program) (w : World) : List V → Hp → VK → Prop := fun vs H Q => ∃ (a : Addr) (l : List Str), vs = [.ref a] ∧ H a = some (SetT P w a l) ∧ l.length < 100000 ∧ Q (.int l.length) H
theorem cr_lenT : CallR X (.builtin "len") (rLenT X.prog X.w) := by
  intro pins s σ H vs us Q I r h
  obtain ⟨a, l, rfl, ha, hl, q⟩ := h
  rw [Vals.ref1 r]
  exact call_lenT (setT_get I ha) hl fun t k => ⟨.int l.length, H, I.tok _, ⟨t, rfl⟩, q⟩
def rSortT (P : Program) (w : World) : List V → Hp → VK → Prop := fun vs H Q => ∃ (a : Addr) (l : List Str), vs = [.ref a] ∧ H a = some (SetT P w a l) ∧ l.length < scanBound ∧ ∀ p, H p = none → Q (.ref p) (upd H p (.lst ((sortS l).map V.str)))
theorem cr_sortT (hc : X.calm = true) : CallR X (.builtin "sorted") (rSortT X.prog X.w) := by
  intro pins s σ H vs us Q I r h
  obtain ⟨a, l, rfl, ha, hl, q⟩ := h
  rw [Vals.ref1 r]
  refine sortedT (setT_get I ha) (I.ok.hd hc) hl fun s' p out c k g o hp hg hi => ?_
  have hlen : ((sortS l).map V.str).length ≤ sizeLine := by
    rw [List.length_map, (sortS_perm l).length_eq, sizeLine_eq]
    have : scanBound = 4096 := rfl
    omega
  have hn : H p = none := I.hok.fresh hp
  have J : Inv X pins σ (upd H p (.lst ((sortS l).map V.str))) { s with heap := s'.heap, gens := s'.gens, drawn := s'.drawn, toks := s'.toks } :=
    I.call (ch := []) (Un.laid k hp hn) (I.hok.laid k hp ⟨hlen, out.toList, c, vals_of_strs hi, hg⟩) (by rw [g]; exact I.bare) (fun _ z => nomatch z)
  have e : s' = { s with heap := s'.heap, gens := s'.gens, drawn := s'.drawn, toks := s'.toks } := by
    cases s'
    cases s
    cases o
    rfl
  rw [e]
  exact ⟨.ref p, _, J, rfl, q p hn⟩
/-! ### the comprehension -/
theorem codeE_set {prog : Program} {w : World} {elt : Expr} {gs : List Comprehension} {scope : Scope} {pos : Pos} : CompE prog w (.SetComp elt gs scope pos) := ⟨fun _ _ _ _ => rfl, fun _ _ _ _ => rfl, fun _ _ _ _ _ => rfl, fun _ _ _ _ _ => rfl⟩
theorem beg_set : Beg X (newSet (.type "set")) { cls := .type "set", dict := none, data := .set #[] 0 (.fresh 0 0 (!X.w.params.followText "set-order")) } (fun p => SetT X.prog X.w p []) :=
  ⟨fun s Q h => PpSet.newSet_ok h, fun {pins σ H s} I => I.laid (t' := s.toks) (fun b o e => Heap.get?_push_of_some _ e) (Nat.le_refl _) (setT_new ⟨(#[], 0, .fresh 0 0 (!X.w.params.followText "set-order")), Heap.get?_push_size _ rfl, .nil rfl, List.nodup_nil, List.Pairwise.nil, by
    show _ ∨ (!X.w.params.followText "set-order") = true
    cases X.w.params.followText "set-order"
    · exact .inr rfl
    · exact .inl rfl⟩)⟩
def kAddT (P : Program) (w : World) (p : Addr) (te : TE) : TK := fun σ H Nx => te σ H fun y H' => ∃ k l, y = .str k ∧ H' p = some (SetT P w p l) ∧ l.length + 1 < scanBound ∧ Nx (upd H' p (SetT P w p (addS k l)))
abbrev stepS (elt : Expr) : Env → Addr → Sem PySem.Fin → Sem PySem.Fin := fun env p c => (do let v ← eval elt env; standAt elt.pos; let _ ← call (.builtin "set.add") [.ref p, v]) >>= fun _ => c
theorem body_addT {elt : Expr} {te : TE} {p : Addr} (hx : X.xe = fun _ _ => False) (he : PE X elt te) : BodyOk X (stepS elt X.env p) [] (kAddT X.prog X.w p te) := by
  intro pins s σ H Nx c Qc E I h k
  have q := he.run pins s σ H _ I h
  rw [hx] at q
  refine wpAny_bind (wpAny_bind (thnF q fun z s1 h1 => ?_))
  obtain ⟨y, H1, I1, r1, kk, l, ey, hD, hz, nx⟩ := h1
  subst ey
  obtain ⟨t, rfl⟩ := r1
  refine wpAny_bind (wpAny_standAt (wpAny_bind (call_addT (setT_get I1 hD) hz fun h' sb R => wpAny_pure ?_)))
  refine k _ σ _ (I1.write (e := p) (t' := s1.toks + 1) (by rw [hD]; trivial) (.inl rfl) (fun b u hb hu => (sb.2 b hb).trans hu) ?_ (setT_new R)) (fun j v e => e) nx
  have ⟨d, hd, _⟩ := R
  exact ⟨_, hd⟩
end
end PD
end
section
set_option Elab.async false
set_option linter.all false
set_option maxRecDepth 100000
/-! PD17: len and sorted of a set comprehension of texts, a dict comprehension with texts as keys. -/
namespace PD
open PySem PySem.Spec PyProof.Rows L2

section
variable {X : Cx} {cx tg iter : Expr} {ifs : List Expr} {scope : Scope} {own : List (Str × Nat)} {mk : Sem Value} {ob : Obj} {o0 : Addr → HO} {rest : List Comprehension} {us : List Nat} {wi : TI} {gt : TG} {t : TT} {K : Addr → TK} {step : Env → Addr → Sem PySem.Fin → Sem PySem.Fin} {pos' : Pos}
theorem pe_cxG (hev : eval cx X.env = comprehension cx scope X.env pos' mk false (eval iter X.env)) (hb0 : Beg X mk ob o0) (hcx : CompE X.prog X.w cx) (hcl : clausesOf cx = ⟨tg, iter, ifs, 0⟩ :: rest)
    (hc : X.calm = true) (hN : X.N.Nodup) (hi : PI X tg iter wi) (ok : BlkOk X.N X.env.scope scope own)
    (hg : Blk X scope fun Y => PG Y tg gt) (ht : Blk X scope fun Y => PTs Y ifs t)
    (hb : ∀ (s : Shared) (H : Hp) (C : Addr) (cl : List (Str × Addr)) (fp : List Addr) (p : Addr), BodyOk (X.blk s H scope (compEnvC scope cl C X.env) fp) (step (compEnvC scope cl C X.env) p) us (K p)) (hus : ∀ i ∈ us, i ∈ own.map (·.2))
    (hte : ∀ it p env, TurnEq cx 0 tg iter ifs it (.ref p) env (step env p)) (hs : ∀ x, foldedSetIterable iter X.env x = pure x) : PE X cx (tLcO o0 wi gt t (own.map (·.2)) K) := by
  constructor
  intro pins s σ H Q I h
  rw [hev]
  refine lcG_core hb0 hcx hcl hc hN I hi ok hg ht hb hus hte hs h fun L C s' m H' I' q hn f => ⟨m, hn, fun h'' sb => ?_⟩
  obtain ⟨f0, f1, f2, f3, f4, f5⟩ := f
  exact ⟨.ref L, H', I'.turned (t' := s'.toks) (fun b o hb e => (sb.2 b hb).trans e) f0 f1 f3 f4 f5, rfl, q⟩
end

/-! ### sets of texts -/
def kS (de : DE) : Rho → List Str → Option (List Str) := fun ρ l => match de ρ with
  | some (.str k) => if l.length < 4000 then some (addS k l) else none
  | _ => none
def kInS (di : DA) (vs : List Nat) (g : DG) (tt : DTt) (de : DE) : Rho → Option (List Str) := fun ρ => match di ρ with
  | some ds => lcG g tt (kS de) (wipeR ρ vs) ds []
  | none => none
def dLenS (k : Rho → Option (List Str)) : DE := fun ρ => match k ρ with
  | some l => some (.int (.ofNat l.length))
  | none => none
def dSortS (k : Rho → Option (List Str)) : DE := fun ρ => match k ρ with
  | some l => some (.lst ((sortS l).map D.str))
  | none => none
theorem addS_len {k : Str} {l : List Str} : (addS k l).length ≤ l.length + 1 := by
  unfold addS
  split
  · omega
  · exact Nat.le_refl _
theorem kS_len {g : DG} {tt : DTt} {de : DE} {ρ0 : Rho} : ∀ {ds : List D} {l l' : List Str}, lcG g tt (kS de) ρ0 ds l = some l' → l.length ≤ 4000 → l'.length ≤ 4000
  | [], l, l', h, hl => by cases h; exact hl
  | d :: r, l, l', h, hl => by
    unfold lcG at h
    split at h
    · split at h
      · split at h
        · rename_i y hk
          refine kS_len h ?_
          unfold kS at hk
          split at hk
          · split at hk
            · rename_i hz
              cases hk
              exact Nat.le_trans addS_len hz
            · cases hk
          · cases hk
        · cases h
      · exact kS_len h hl
      · cases h
    · cases h
section
variable {T : Tab} {P : Program} {w : World} {p : Addr}
def SetR' (P : Program) (w : World) (p : Addr) : Hp → Hp → List Str → Prop := fun F H l => H p = some (SetT P w p l)
theorem obf_set : Obf p (List Str) (SetR' P w p) := ⟨fun h _ s => s _ _ h, fun h => ⟨_, h⟩⟩
theorem kg_set {de : DE} : KRG T p (SetR' P w p) (kAddT P w p (rdE T de)) (kS de) := by
  intro B ρ x y F H σ Nx e s er hp h
  unfold kS at e
  split at e
  · rename_i k h1
    split at e
    · rename_i hl
      cases e
      have nF : F p = none := Gr.noF s
      refine ⟨B, ρ, .str k, F, h1, s.trans dl_same, er.grow (Gr.unb s), fun v H1 F1 g1 r1 => ?_⟩
      have hp1 : H1 p = some (SetT P w p x) := g1.same _ _ hp
      cases r1
      refine ⟨k, x, rfl, hp1, by have : scanBound = 4096 := rfl; omega, h _ F1 ?_ upd_same⟩
      rw [dl_upd]
      exact g1.bes nF hp
    · cases e
  · cases e
/-- the comprehension's own reading, from data -/
theorem sc_read {X : Cx} {di : DA} {g : DG} {ws : List Nat} {tt : DTt} {de : DE} {vs : List Nat} {σ : L2.St} {H : Hp} {Q : VK} (hw : ∀ i ∈ ws, i ∈ vs)
    (h : ∃ B ρ l F, kInS di vs g tt de ρ = some l ∧ Same F H ∧ EnvR T B F H ρ σ ∧ ∀ p H1 F1, Gr F H F1 H1 → H1 p = some (SetT P w p l) → F1 p = none → l.length ≤ 4000 → Q (.ref p) H1) :
    tLcO (fun p => SetT P w p []) (rdI T di) (rdG T g ws) (rdT T tt) vs (fun p => kAddT P w p (rdE T de)) σ H Q := by
  obtain ⟨B, ρ, l, F, e, s, er, q⟩ := h
  unfold kInS at e
  split at e
  · rename_i ds hd
    refine ⟨B, ρ, ds, F, hd, s, er, fun J H1 F1 g1 wk p hp => ?_⟩
    have e1 : dl (upd H1 p (SetT P w p [])) p = H1 := by rw [dl_upd, dl_new hp]
    refine kg_loopJ (x := []) obf_set kg_set hw wk e (by rw [e1]; exact g1.sub) (by rw [e1]; exact er.grow g1) upd_same fun H' F' g' hp' => ?_
    rw [e1] at g'
    refine q p H' F' (g1.trans ⟨g'.same.trans dl_same, g'.frz, g'.sub.trans dl_same, g'.fresh⟩) hp' (Gr.noF g'.sub) (kS_len e (by simp))
  · cases e
end
section
variable {T : Tab} {X : Cx} {elt tg iter : Expr} {ifs : List Expr} {scope : Scope} {own : List (Str × Nat)} {pos pos2 p : Pos} {di : DA} {g : DG} {ws : List Nat} {tt : DTt} {de : DE}
theorem pe_scT (hT : T.K = X.K) (hc : X.calm = true) (hN : X.N.Nodup) (hi : ID T X tg iter di) (ok : BlkOk X.N X.env.scope scope own) (hg : Blk X scope fun Y => GD T Y tg g ws) (ht : Blk X scope fun Y => TsD T Y ifs tt) (he : Blk X scope fun Y => ED T Y elt de)
    (hs : ∀ x, foldedSetIterable iter X.env x = pure x := by exact fun _ => rfl) :
    PE X (.SetComp elt [⟨tg, iter, ifs, 0⟩] scope pos) (tLcO (fun p => SetT X.prog X.w p []) (rdI T di) (rdG T g ws) (rdT T tt) (own.map (·.2)) (fun p => kAddT X.prog X.w p (rdE T de))) :=
  pe_cxG (step := stepS elt) (us := []) rfl beg_set codeE_set rfl hc hN (hi hT) ok (fun s H C cl fp => hg s H C cl fp hT) (fun s H C cl fp => ht s H C cl fp hT) (fun s H C cl fp p => body_addT rfl (he s H C cl fp hT)) (fun i z => nomatch z) (fun it p env => rfl) hs
theorem reps_strs {F : Hp} : ∀ l : List Str, Reps T F (l.map D.str) (l.map V.str)
  | [] => .nil
  | k :: r => .cons (.str k) (reps_strs r)
theorem ed_lenSc (hm : X.mg "len" = none) (hc : X.calm = true) (hN : X.N.Nodup) (hi : ID T X tg iter di) (ok : BlkOk X.N X.env.scope scope own) (hg : Blk X scope fun Y => GD T Y tg g ws) (ht : Blk X scope fun Y => TsD T Y ifs tt) (he : Blk X scope fun Y => ED T Y elt de)
    (hw : ∀ i ∈ ws, i ∈ own.map (·.2) := by decide) (hs : ∀ x, foldedSetIterable iter X.env x = pure x := by exact fun _ => rfl) (hgl : Gl X "len" := by exact rfl)
    (hs1 : starEach [Expr.SetComp elt [⟨tg, iter, ifs, 0⟩] scope pos2] X.env = (false, eval (.SetComp elt [⟨tg, iter, ifs, 0⟩] scope pos2) X.env) :: starEach [] X.env := by rfl) :
    ED T X (.Call (.Name "len" p) [.SetComp elt [⟨tg, iter, ifs, 0⟩] scope pos2] [] pos) (dLenS (kInS di (own.map (·.2)) g tt de)) := fun hT =>
  peImp (pe_callB cr_lenT hgl hm (by decide +kernel) (pa_cons (pe_scT hT hc hN hi ok hg ht he hs) pa_nil hs1) (by decide) (by decide) hs1) fun σ H Q h => by
    obtain ⟨B, ρ, d, F, e, s, er, q⟩ := h
    unfold dLenS at e
    split at e
    · rename_i l hl
      cases e
      refine sc_read (X := X) (P := X.prog) (w := X.w) (Q := fun x H1 => rLenT X.prog X.w [x] H1 Q) hw ⟨B, ρ, l, F, hl, s, er, fun p H1 F1 g1 hp _ hz => ?_⟩
      exact ⟨p, l, rfl, hp, by omega, q _ H1 F1 g1 (.int _)⟩
    · cases e
theorem ed_sortSc (hm : X.mg "sorted" = none) (hc : X.calm = true) (hN : X.N.Nodup) (hi : ID T X tg iter di) (ok : BlkOk X.N X.env.scope scope own) (hg : Blk X scope fun Y => GD T Y tg g ws) (ht : Blk X scope fun Y => TsD T Y ifs tt) (he : Blk X scope fun Y => ED T Y elt de)
    (hw : ∀ i ∈ ws, i ∈ own.map (·.2) := by decide) (hs : ∀ x, foldedSetIterable iter X.env x = pure x := by exact fun _ => rfl) (hgl : Gl X "sorted" := by exact rfl)
    (hs1 : starEach [Expr.SetComp elt [⟨tg, iter, ifs, 0⟩] scope pos2] X.env = (false, eval (.SetComp elt [⟨tg, iter, ifs, 0⟩] scope pos2) X.env) :: starEach [] X.env := by rfl) :
    ED T X (.Call (.Name "sorted" p) [.SetComp elt [⟨tg, iter, ifs, 0⟩] scope pos2] [] pos) (dSortS (kInS di (own.map (·.2)) g tt de)) := fun hT =>
  peImp (pe_callB (cr_sortT hc) hgl hm (by decide +kernel) (pa_cons (pe_scT hT hc hN hi ok hg ht he hs) pa_nil hs1) (by decide) (by decide) hs1) fun σ H Q h => by
    obtain ⟨B, ρ, d, F, e, s, er, q⟩ := h
    unfold dSortS at e
    split at e
    · rename_i l hl
      cases e
      refine sc_read (X := X) (P := X.prog) (w := X.w) (Q := fun x H1 => rSortT X.prog X.w [x] H1 Q) hw ⟨B, ρ, l, F, hl, s, er, fun p H1 F1 g1 hp _ hz => ?_⟩
      refine ⟨p, l, rfl, hp, by have : scanBound = 4096 := rfl; omega, fun o ho => ?_⟩
      exact q _ _ _ (g1.trans (Gr.new g1.sub ho)) (rep_newL g1.sub (reps_strs _) ho)
    · cases e
end
end PD
end
section
set_option Elab.async false
set_option linter.all false
set_option maxRecDepth 100000
/-! PD18: dict comprehensions with texts as keys; displays of four texts. -/
namespace PD
open PySem PySem.Spec PyProof.Rows L2

def kP (kd vd : DE) : Rho → List Str × List D → Option (List Str × List D) := fun ρ x => match kd ρ with
  | some (.str k) => (match vd ρ with
    | some v => if x.1.length < 16777216 then some (if hasK k x.1 = true then x.1 else x.1 ++ [k], if hasK k x.1 = true then replK k v x.1 x.2 else x.2 ++ [v]) else none
    | none => none)
  | _ => none
def dDc (di : DA) (vs : List Nat) (g : DG) (tt : DTt) (k : Rho → List Str × List D → Option (List Str × List D)) : DE := fun ρ => match di ρ with
  | some ds => (match lcG g tt k (wipeR ρ vs) ds ([], []) with
    | some x => some (.dK x.1 x.2)
    | none => none)
  | none => none
def kPutK (tk tv : TE) (p : Addr) : TK := fun σ H Nx => tk σ H fun y H4 => tv σ H4 fun z H5 => ∃ kvs k, y = kV k ∧ H5 p = some (.dK kvs) ∧ kvs.length < sizeLine ∧ Nx (upd H5 p (.dK (putK kvs k z)))
section
variable {T : Tab} {p : Addr}
def DicR (T : Tab) (p : Addr) : Hp → Hp → List Str × List D → Prop := fun F H x => x.1.length = x.2.length ∧ ∃ vs, H p = some (.dK ((x.1.map Sum.inr).zip vs)) ∧ Reps T F x.2 vs
theorem obf_dic : Obf p (List Str × List D) (DicR T p) := ⟨fun ⟨h1, vs, h2, h3⟩ f s => ⟨h1, vs, s _ _ h2, h3.mono f⟩, fun ⟨_, vs, h2, _⟩ => ⟨_, h2⟩⟩
theorem kg_dic {kd vd : DE} : KRG T p (DicR T p) (kPutK (rdE T kd) (rdE T vd) p) (kP kd vd) := by
  intro B ρ x y F H σ Nx e s er hp h
  unfold kP at e
  split at e
  · rename_i k h1
    split at e
    · rename_i v h2
      split at e
      · rename_i hl
        cases e
        have nF : F p = none := Gr.noF s
        obtain ⟨hl2, vs, hd, rd⟩ := hp
        refine ⟨B, ρ, .str k, F, h1, s.trans dl_same, er.grow (Gr.unb s), fun u H1 F1 g1 r1 => ?_⟩
        have hp1 := g1.same _ _ hd
        have g1d := g1.bes nF hd
        have n1 : F1 p = none := Gr.noF g1d.sub
        cases r1
        refine ⟨B, ρ, v, F1, h2, g1.sub, (er.grow g1d).grow (Gr.unb g1d.sub), fun u2 H2 F2 g2 r2 => ?_⟩
        have hp2 := g2.same _ _ hp1
        have g2d := g2.bes n1 hp1
        obtain ⟨us, e1, e2⟩ := putK_zip (k := k) r2 hl2 ((rd.mono g1.frz).mono g2.frz)
        refine ⟨_, Sum.inr k, rfl, hp2, Nat.lt_of_le_of_lt zip_len (by rw [List.length_map, sizeLine_eq]; exact hl), h _ F2 ?_ ⟨?_, us, ?_, e2⟩⟩
        · rw [dl_upd]
          exact g1d.trans g2d
        · show (if hasK k x.1 = true then x.1 else x.1 ++ [k]).length = (if hasK k x.1 = true then replK k v x.1 x.2 else x.2 ++ [v]).length
          split
          · rw [replK_len]; exact hl2
          · rw [List.length_append, List.length_append, hl2]; rfl
        · rw [upd_same, e1]
      · cases e
    · cases e
  · cases e
end
section
variable {T : Tab} {X : Cx} {kx vx tg iter : Expr} {ifs : List Expr} {scope : Scope} {own : List (Str × Nat)} {pos : Pos} {di : DA} {g : DG} {ws : List Nat} {tt : DTt} {dk dv : DE}
theorem ed_dc (hc : X.calm = true) (hN : X.N.Nodup) (hi : ID T X tg iter di) (ok : BlkOk X.N X.env.scope scope own) (hg : Blk X scope fun Y => GD T Y tg g ws) (ht : Blk X scope fun Y => TsD T Y ifs tt) (hk : Blk X scope fun Y => ED T Y kx dk) (hv : Blk X scope fun Y => ED T Y vx dv)
    (hw : ∀ i ∈ ws, i ∈ own.map (·.2) := by decide) (hs : ∀ x, foldedSetIterable iter X.env x = pure x := by exact fun _ => rfl) :
    ED T X (.DictComp kx vx [⟨tg, iter, ifs, 0⟩] scope pos) (dDc di (own.map (·.2)) g tt (kP dk dv)) := fun hT =>
  peImp (pe_dc hc hN (hi hT) ok (fun s H C cl fp => hg s H C cl fp hT) (fun s H C cl fp => ht s H C cl fp hT) (fun s H C cl fp => hk s H C cl fp hT) (fun s H C cl fp => hv s H C cl fp hT) hs) fun σ H Q h => by
    obtain ⟨B, ρ, d, F, e, s, er, q⟩ := h
    unfold dDc at e
    split at e
    · rename_i ds hd
      split at e
      · rename_i x hx
        cases e
        refine ⟨B, ρ, ds, F, hd, s, er, fun J H1 F1 g1 wk p hp => ?_⟩
        have e1 : dl (upd H1 p (.dK [])) p = H1 := by rw [dl_upd, dl_new hp]
        refine kg_loopJ (p := p) (K := kPutK (rdE T dk) (rdE T dv) p) (Nx := fun H' => Q (.ref p) H') (x := ([], [])) obf_dic kg_dic hw wk hx (by rw [e1]; exact g1.sub) (by rw [e1]; exact er.grow g1) ⟨rfl, [], upd_same, .nil⟩ fun H' F' g' hp' => ?_
        rw [e1] at g'
        obtain ⟨h1, vs, h2, h3⟩ := hp'
        refine q _ _ _ (g1.trans (g'.froze h2 hp)) (.dK upd_same h1 ?_)
        exact h3.mono (same_new (Gr.noF g'.sub))
      · cases e
    · cases e
end

/-! ### {'a': .., 'b': .., 'c': .., 'd': ..} -/
def dDisp4 (ks : List Str) (a : DA) : DE := fun ρ => match a ρ with
  | some ds => if ds.length = ks.length then some (.dK ks ds) else none
  | none => none
section
variable {T : Tab} {X : Cx} {k1 k2 k3 k4 : Str} {j1 j2 j3 j4 : Nat} {q1 q2 q3 q4 pos : Pos} {a b c e : Expr} {da db dc de : DE}
theorem ed_disp4 (ha : ED T X a da) (hb : ED T X b db) (hc : ED T X c dc) (he : ED T X e de)
    (hm : ∀ v1 v2 v3 v4 : V, mergeK [] [(Sum.inr k1, v1), (Sum.inr k2, v2), (Sum.inr k3, v3), (Sum.inr k4, v4)] = ([k1, k2, k3, k4].map Sum.inr).zip [v1, v2, v3, v4] := by intro _ _ _ _; rfl) :
    ED T X (.Dict [some (.Constant (.str k1) j1 q1), some (.Constant (.str k2) j2 q2), some (.Constant (.str k3) j3 q3), some (.Constant (.str k4) j4 q4)] [a, b, c, e] pos) (dDisp4 [k1, k2, k3, k4] (aCons da (aCons db (aCons dc (aCons de aNil))))) := fun hT =>
  peImp (pe_disp (pps_cons pe_str (ha hT) (pps_cons pe_str (hb hT) (pps_cons pe_str (hc hT) (pps_cons pe_str (he hT) pps_nil)))) rfl rfl (by simp) (by simp)) fun σ H Q h => by
    obtain ⟨B, ρ, d, F, e, s, er, q⟩ := h
    unfold dDisp4 aCons aNil at e
    cases h1 : da ρ with
    | none => simp only [h1] at e; cases e
    | some x1 =>
      cases h2 : db ρ with
      | none => simp only [h1, h2] at e; cases e
      | some x2 =>
        cases h3 : dc ρ with
        | none => simp only [h1, h2, h3] at e; cases e
        | some x3 =>
          cases h4 : de ρ with
          | none => simp only [h1, h2, h3, h4] at e; cases e
          | some x4 =>
            simp only [h1, h2, h3, h4] at e
            cases e
            intro p hp
            have g0 : Gr F H F (upd H p (.dK [])) := Gr.grow s hp
            have er0 := er.grow g0
            refine ⟨B, ρ, x1, F, h1, g0.sub, er0, fun v1 H1 F1 g1 r1 => ?_⟩
            have er1 := er0.grow g1
            refine ⟨B, ρ, x2, F1, h2, g1.sub, er1, fun v2 H2 F2 g2 r2 => ?_⟩
            have er2 := er1.grow g2
            refine ⟨B, ρ, x3, F2, h3, g2.sub, er2, fun v3 H3 F3 g3 r3 => ?_⟩
            have er3 := er2.grow g3
            refine ⟨B, ρ, x4, F3, h4, g3.sub, er3, fun v4 H4 F4 g4 r4 => ?_⟩
            have nF : F p = none := s.free hp
            have g := (((g1.trans g2).trans g3).trans g4)
            have hp4 : H4 p = some (.dK []) := g.same _ _ upd_same
            have gb := g.bes nF upd_same
            rw [dl_upd, dl_new hp] at gb
            refine ⟨hp4, [(Sum.inr k1, v1), (Sum.inr k2, v2), (Sum.inr k3, v3), (Sum.inr k4, v4)], rfl, by simp, ?_⟩
            rw [hm]
            have gf := Gr.froze (F' := F4) (H' := upd H4 p (.dK (([k1, k2, k3, k4].map Sum.inr).zip [v1, v2, v3, v4]))) (by rw [dl_upd]; exact gb) upd_same hp
            refine q _ _ _ gf (.dK upd_same rfl ?_)
            have n4 : F4 p = none := Gr.noF gb.sub
            exact (Reps.cons (((r1.mono g2.frz).mono g3.frz).mono g4.frz) (.cons ((r2.mono g3.frz).mono g4.frz) (.cons (r3.mono g4.frz) (.cons r4 .nil)))).mono (same_new n4)
end
end PD
end
section
set_option Elab.async false
set_option linter.all false
set_option maxRecDepth 100000
/-! PD19: dict(zip(keys, values)), keys texts or tuples of texts. -/
namespace PD
open PySem PySem.Spec PyProof.Rows L2

/-! ### what is put, key by key -/
def putP (k : Str) (v : D) (x : List Str × List D) : List Str × List D := (if hasK k x.1 = true then x.1 else x.1 ++ [k], if hasK k x.1 = true then replK k v x.1 x.2 else x.2 ++ [v])
def foldP : List Str → List D → List Str × List D → List Str × List D
  | k :: r, v :: t, x => foldP r t (putP k v x)
  | _, _, x => x
def putQ (k : List Str) (v : D) (x : List (List Str) × List D) : List (List Str) × List D := (if hasT k x.1 = true then x.1 else x.1 ++ [k], if hasT k x.1 = true then replT k v x.1 x.2 else x.2 ++ [v])
def foldQ : List (List Str) → List D → List (List Str) × List D → List (List Str) × List D
  | k :: r, v :: t, x => foldQ r t (putQ k v x)
  | _, _, x => x
def mergeT (kvs more : List (List Key × V)) : List (List Key × V) := more.foldl (fun acc kv => putK acc kv.1 kv.2) kvs
section
variable {T : Tab}
theorem putP_len {k : Str} {v : D} {x : List Str × List D} (h : x.1.length = x.2.length) : (putP k v x).1.length = (putP k v x).2.length := by
  show (if hasK k x.1 = true then x.1 else x.1 ++ [k]).length = (if hasK k x.1 = true then replK k v x.1 x.2 else x.2 ++ [v]).length
  split
  · rw [replK_len]; exact h
  · rw [List.length_append, List.length_append, h]; rfl
theorem putQ_len {k : List Str} {v : D} {x : List (List Str) × List D} (h : x.1.length = x.2.length) : (putQ k v x).1.length = (putQ k v x).2.length := by
  show (if hasT k x.1 = true then x.1 else x.1 ++ [k]).length = (if hasT k x.1 = true then replT k v x.1 x.2 else x.2 ++ [v]).length
  split
  · rw [replT_len]; exact h
  · rw [List.length_append, List.length_append, h]; rfl
theorem foldP_rep {F : Hp} : ∀ {ks : List Str} {ds : List D} {us : List V} {x : List Str × List D} {vs : List V}, x.1.length = x.2.length → Reps T F x.2 vs → Reps T F ds us →
    (foldP ks ds x).1.length = (foldP ks ds x).2.length ∧ ∃ ws, mergeK ((x.1.map Sum.inr).zip vs) ((ks.map Sum.inr).zip us) = ((foldP ks ds x).1.map Sum.inr).zip ws ∧ Reps T F (foldP ks ds x).2 ws
  | [], ds, us, x, vs, h, r, _ => by
    rw [foldP]
    · exact ⟨h, vs, rfl, r⟩
    · intro _ _ _ _ z; cases z
  | k :: ks, [], _, x, vs, h, r, .nil => by
    rw [foldP]
    · exact ⟨h, vs, rfl, r⟩
    · intro _ _ _ _ _ z; cases z
  | k :: ks, d :: ds, _, x, vs, h, r, .cons rd t => by
    rw [foldP]
    obtain ⟨us, e1, e2⟩ := putK_zip (k := k) rd h r
    obtain ⟨l, ws, e3, e4⟩ := foldP_rep (x := putP k d x) (ks := ks) (putP_len h) e2 t
    refine ⟨l, ws, ?_, e4⟩
    rw [← e3]
    show mergeK (putK _ (Sum.inr k) _) _ = _
    rw [e1]
    rfl
theorem foldQ_rep {F : Hp} : ∀ {ks : List (List Str)} {ds : List D} {us : List V} {x : List (List Str) × List D} {vs : List V}, x.1.length = x.2.length → Reps T F x.2 vs → Reps T F ds us →
    (foldQ ks ds x).1.length = (foldQ ks ds x).2.length ∧ ∃ ws, mergeT ((x.1.map fun k => k.map Sum.inr).zip vs) ((ks.map fun k => k.map Sum.inr).zip us) = ((foldQ ks ds x).1.map fun k => k.map Sum.inr).zip ws ∧ Reps T F (foldQ ks ds x).2 ws
  | [], ds, us, x, vs, h, r, _ => by
    rw [foldQ]
    · exact ⟨h, vs, rfl, r⟩
    · intro _ _ _ _ z; cases z
  | k :: ks, [], _, x, vs, h, r, .nil => by
    rw [foldQ]
    · exact ⟨h, vs, rfl, r⟩
    · intro _ _ _ _ _ z; cases z
  | k :: ks, d :: ds, _, x, vs, h, r, .cons rd t => by
    rw [foldQ]
    obtain ⟨us, e1, e2⟩ := putT_zip (k := k) rd h r
    obtain ⟨l, ws, e3, e4⟩ := foldQ_rep (x := putQ k d x) (ks := ks) (putQ_len h) e2 t
    refine ⟨l, ws, ?_, e4⟩
    rw [← e3]
    show mergeT (putK _ (k.map Sum.inr) _) _ = _
    rw [e1]
    rfl
end
theorem length_mergeT : ∀ (more kvs : List (List Key × V)), (mergeT kvs more).length ≤ kvs.length + more.length
  | [], kvs => by show kvs.length ≤ kvs.length + 0; omega
  | p :: r, kvs => by
    have h1 := length_mergeT r (putK kvs p.1 p.2)
    have h2 := length_putK kvs p.1 p.2
    show (mergeT (putK kvs p.1 p.2) r).length ≤ _
    rw [List.length_cons]; omega
theorem kv_zip : ∀ {ks : List Str} {ys : List V} {us : List Value}, ks.length = ys.length → Vals ys us → KV ((ks.map Sum.inr : List Key).zip ys) ((ks.map Sum.inr : List Key).zip us)
  | [], _, _, _, _ => .nil
  | k :: ks, _, _, h, .nil => by cases h
  | k :: ks, _, _, h, .cons r t => .cons ⟨rfl, r⟩ (kv_zip (Nat.succ.inj h) t)
theorem kt_merge {H : Hp} : ∀ {more : List (List Key × V)} {ps : List (List Key × Addr × Value)} {kvs : List (List Key × V)} {xs : List (List Key × Addr × Value)}, KT H more ps → KT H kvs xs → KT H (mergeT kvs more) (storedAllH xs ps) := by
  intro more ps kvs xs r
  unfold KT at r
  induction r generalizing kvs xs with
  | nil => intro q; exact q
  | @cons p q ps qs h t ih =>
    intro r0
    obtain ⟨h1, h2, h3⟩ := h
    have e : KT H (putK kvs p.1 p.2) (storedH xs q.1 q.2.1 q.2.2) := by
      have := r0.put p.1 (b := q.2.1) h2 h3
      rw [← h1]; exact this
    exact ih e
theorem strs_get : ∀ {us : List Value} {xs : List Str}, StrsAre us xs → ∀ {i : Nat} {v : Value}, us[i]? = some v → ∃ x t, xs[i]? = some x ∧ v = .str x t
  | _, _, .nil, i, v, h => by simp at h
  | _, _, .cons k t r, 0, v, h => by cases h; exact ⟨k, t, rfl, rfl⟩
  | _, _, .cons k t r, i + 1, v, h => strs_get r (i := i) h
/-! ### the call -/
section
variable {X : Cx} {e e2 : Expr} {ta : TA} {p p2 q pos : Pos}
/-- dict(zip(xs, ys)): lists of one length, the keys texts, or tuples of texts -/
def tDictZ (K : PySem.W.Frag) (ta : TA) : TE := fun σ H Q => ta σ H fun vs H1 => ∃ (a b : Addr) (xs ys : List V), vs = [.ref a, .ref b] ∧ SqL K H1 a xs ∧ SqL K H1 b ys ∧ xs.length = ys.length ∧ xs.length ≤ 1000 ∧
  ((∃ ks : List Str, xs = ks.map V.str ∧ ∀ p, H1 p = none → Q (.ref p) (upd H1 p (.dK (mergeK [] ((ks.map Sum.inr).zip ys))))) ∨
   (∃ (ks : List (List Key)) (bs : List Addr), xs = bs.map V.ref ∧ Paired (fun k b => H1 b = some (.tup (k.map kV))) ks bs ∧ ∀ p, H1 p = none → Q (.ref p) (upd H1 p (.dT (mergeT [] (ks.zip ys))))))
theorem refs_vals : ∀ {bs : List Addr} {us : List Value}, Vals (bs.map V.ref) us → us = bs.map Value.ref
  | [], _, .nil => rfl
  | b :: bs, _, .cons r t => by
    cases r
    rw [refs_vals t]
    rfl
theorem kt_zip {H : Hp} : ∀ {ks : List (List Key)} {bs : List Addr} {ys : List V} {us : List Value}, Paired (fun k b => H b = some (.tup (k.map kV))) ks bs → bs.length = ys.length → Vals ys us → KT H (ks.zip ys) (ks.zip (bs.zip us))
  | _, _, _, _, .nil, _, _ => .nil
  | _, _, _, _, .cons h t, hl, .nil => by cases hl
  | _, _, _, _, .cons h t, hl, .cons r rt => .cons ⟨rfl, h, r⟩ (kt_zip t (Nat.succ.inj hl) rt)
theorem pe_dictZ (hc : X.calm = true) (hu : X.A.units + 64 < cLine) (hg : Gl X "dict") (hm : X.mg "dict" = none) (hg2 : Gl X "zip") (hm2 : X.mg "zip" = none) (ha : PA X [e, e2] ta)
    (hs : starEach [e, e2] X.env = (false, eval e X.env) :: starEach [e2] X.env := by rfl) (hpl : (backTo q (starEach [e2] X.env)).any (·.1) = false := by rfl)
    (hs2 : starEach [Expr.Call (.Name "zip" p2) [e, e2] [] q] X.env = (false, eval (.Call (.Name "zip" p2) [e, e2] [] q) X.env) :: starEach [] X.env := by rfl) :
    PE X (.Call (.Name "dict" p) [.Call (.Name "zip" p2) [e, e2] [] q] [] pos) (tDictZ X.K ta) := by
  constructor
  intro pins s σ H Q I h
  refine Call_ (ld_blt I hg hm (u := .type "dict") (by decide +kernel) ?_)
  refine PyProof.Rows.callWith_type1 (PyProof.Rows.args_cons ?_ hs2) hs2 rfl
  refine Call_ (ld_blt I hg2 hm2 (u := .type "zip") (by decide +kernel) (PyProof.Rows.callWith_type1 (thn (ha.run q pins s σ H _ I h) fun us s1 ⟨vs, H1, I1, r1, q1⟩ => ?_) hs hpl))
  obtain ⟨a, b, xs, ys, ex, hqx, hqy, hl, h1000, qq⟩ := q1
  subst ex
  obtain ⟨u1, u2, rfl, ru1, ru2⟩ := (show ∃ u1 u2, us = [u1, u2] ∧ RelV (.ref a) u1 ∧ RelV (.ref b) u2 from by
    cases r1 with
    | cons r rr => cases rr with
      | cons r' rr => cases rr; exact ⟨_, _, rfl, r, r'⟩)
  cases ru1
  cases ru2
  obtain ⟨its, rv, p1, _⟩ := I1.list hqx
  obtain ⟨its2, rv2, p2', _⟩ := I1.list hqy
  have la : a < s1.heap.objs.size := p1.lt
  have lb : b < s1.heap.objs.size := p2'.lt
  have s1n : its.toArray.size = xs.length := by rw [List.size_toArray, ← rv.length]
  have s2n : its2.toArray.size = xs.length := by rw [List.size_toArray, ← rv2.length, hl]
  refine call_zip_2 p1.isList p2'.isList fun h' hz hTI hTO h1 h2 hsz hk => PyProof.Rows.args_nil ?_
  have ap := PySem.W.ktu_apart s1.heap.objs.size a b la lb
  have P := PairArg.zip (prog := X.prog) (w := X.w) (s1.heap.objs.size + 4) (s1.heap.objs.size + 2) (s1.heap.objs.size + 3) s1.heap.objs.size (s1.heap.objs.size + 1) a b ap its.toArray its2.toArray
  have ok : IsZip h' (s1.heap.objs.size + 4) (s1.heap.objs.size + 2) (s1.heap.objs.size + 3) .none ∧ IsPair h' (s1.heap.objs.size + 2) (.ref s1.heap.objs.size) (.ref (s1.heap.objs.size + 1)) ∧ (∃ a b, IsPair h' (s1.heap.objs.size + 3) a b) ∧ h'.IsListIter s1.heap.objs.size a 0 ∧ h'.IsListIter (s1.heap.objs.size + 1) b 0 ∧ h'.IsList a its.toArray ∧ h'.IsList b its2.toArray :=
    ⟨hz, hTI, ⟨_, _, hTO⟩, h1, h2, p1.isList.at fun o e => hk _ o e, p2'.isList.at fun o e => hk _ o e⟩
  have hmin : min its.toArray.size its2.toArray.size = xs.length := by rw [s1n, s2n, Nat.min_self]
  have old : ∀ c, c < s1.heap.objs.size → c ∉ [s1.heap.objs.size + 4, s1.heap.objs.size + 3, s1.heap.objs.size, s1.heap.objs.size + 1] := fun c hc hm => by
    simp only [List.mem_cons, List.not_mem_nil, or_false] at hm
    omega
  rcases qq with ⟨ks, rfl, q1⟩ | ⟨ks, bs, rfl, hp, q1⟩
  · rw [List.length_map] at hl hmin h1000
    have hst := rv.strs
    refine call_dict_pairs (knd := mixKind X.prog X.w) (s := { s1 with heap := h' }) (kvs := (ks.map Sum.inr : List Key).zip its2) P (I1.ok.hd hc) ok ⟨?_, fun i key v hr => ?_⟩ (by rw [hmin, sizeLine_eq]; omega) fun h'' tk dd kp => ?_
    · rw [List.length_zip, List.length_map, hmin]
      have := rv2.length
      omega
    · obtain ⟨r1, r2⟩ := hr
      have r1' : its[i]? = some key := by simpa using r1
      have r2' : its2[i]? = some v := by simpa using r2
      obtain ⟨x, t, hx, ht⟩ := strs_get hst r1'
      refine ⟨Sum.inr x, ?_, ?_⟩
      · rw [List.getElem?_zip_eq_some]
        exact ⟨by rw [List.getElem?_map, hx]; rfl, r2'⟩
      · rw [ht]
        exact kV_is (k := Sum.inr x) ⟨t, rfl⟩
    · have keep : ∀ c o, s1.heap.get? c = some o → h''.get? c = some o := fun c o e => kp c o (old c (Heap.lt_size e)) (hk c o e)
      have hs5 : h'.objs.size = s1.heap.objs.size + 5 := hsz
      have rel : KV (mergeK [] ((ks.map Sum.inr).zip ys)) (merged [] ((ks.map Sum.inr : List Key).zip its2)) := (kv_zip hl rv2).merge .nil
      have hz : (mergeK [] ((ks.map Sum.inr : List Key).zip ys)).length ≤ sizeLine := by
        have h1 := length_mergeK ((ks.map Sum.inr : List Key).zip ys) []
        have h2 : ((ks.map Sum.inr : List Key).zip ys).length ≤ (ks.map (Sum.inr : Str → Key)).length := zip_len
        rw [List.length_map] at h2
        rw [List.length_nil] at h1
        rw [sizeLine_eq]; omega
      have hbig : s1.heap.objs.size ≤ h'.objs.size := by omega
      have hd : (h'.objs.size == sysModules) = false := beq_eq_false_iff_ne.mpr (Ne.symm (Nat.ne_of_lt (Nat.lt_of_lt_of_le I1.big hbig)))
      exact ⟨.ref h'.objs.size, _, I1.laid (t' := tk) keep hbig (dk_new hz hd rel dd), rfl, q1 _ (I1.hok.fresh hbig)⟩
  · rw [List.length_map] at hl hmin h1000
    have hr := refs_vals rv
    have hkb : ks.length = bs.length := Paired.length hp
    have lu : its2.length = bs.length := by rw [← rv2.length, hl]
    have keys : ∀ (h2 : Heap), (∀ b o, b < s1.heap.objs.size → s1.heap.get? b = some o → h2.get? b = some o) → ∀ x ∈ ks.zip (bs.zip its2), (tupleKind (mixKind X.prog X.w)).is h2 x.1 x.2.1 := fun h2 kp x hx => by
      obtain ⟨i, hi⟩ := List.mem_iff_getElem?.mp hx
      obtain ⟨e1, e2⟩ := List.getElem?_zip_eq_some.mp hi
      obtain ⟨e3, e4⟩ := List.getElem?_zip_eq_some.mp e2
      have hb : H1 x.2.1 = some (.tup (x.1.map kV)) := by
        have go : ∀ {ks : List (List Key)} {bs : List Addr}, Paired (fun k b => H1 b = some (.tup (k.map kV))) ks bs → ∀ (i : Nat) k b, ks[i]? = some k → bs[i]? = some b → H1 b = some (.tup (k.map kV)) := by
          intro ks bs hp
          induction hp with
          | nil => intro i k b h; simp at h
          | cons h t ih =>
            intro i k b h1 h2
            cases i with
            | zero => cases h1; cases h2; exact h
            | succ i => exact ih i k b h1 h2
        exact go hp i _ _ e1 e3
      obtain ⟨o, items, n, ho, r⟩ := key_of I1.hok hb
      exact ⟨o, items, n, kp _ o (Heap.lt_size ho) ho, r⟩
    refine call_dict_pairsH (knd := tupleKind (mixKind X.prog X.w)) (s := { s1 with heap := h' }) (ps := ks.zip (bs.zip its2)) P (I1.ok.hd hc) (show X.A.units + 1 + 1 < cLine by omega) ok ⟨?_, fun i key v hr2 => ?_⟩ (fun h2 kp x hx => keys h2 (fun c o hlt e => kp c o (fun z => ?_) (old c hlt) (hk c o e)) x hx) (by rw [hmin, sizeLine_eq]; omega) fun h'' tk dd kp => ?_
    · rw [List.length_zip, List.length_zip, hmin]
      omega
    · obtain ⟨r1, r2⟩ := hr2
      have r1' : its[i]? = some key := by simpa using r1
      have r2' : its2[i]? = some v := by simpa using r2
      rw [hr, List.getElem?_map] at r1'
      have hlt : i < bs.length := by
        have := (List.getElem?_eq_some_iff.mp r2').1
        omega
      rw [List.getElem?_eq_getElem hlt] at r1'
      have ek : key = .ref bs[i] := (Option.some.inj r1').symm
      refine ⟨ks[i]'(by omega), bs[i], ?_, ek⟩
      rw [List.getElem?_zip_eq_some]
      refine ⟨List.getElem?_eq_getElem (by omega), ?_⟩
      rw [List.getElem?_zip_eq_some]
      exact ⟨List.getElem?_eq_getElem hlt, r2'⟩
    · have hs5 : h'.objs.size = s1.heap.objs.size + 5 := hsz
      have z' : c = h'.objs.size := z
      omega
    · have keep : ∀ c o, s1.heap.get? c = some o → h''.get? c = some o := fun c o e => kp c o (old c (Heap.lt_size e)) (hk c o e)
      have hs5 : h'.objs.size = s1.heap.objs.size + 5 := hsz
      have hbig : s1.heap.objs.size ≤ h'.objs.size := by omega
      have hnew : H1 h'.objs.size = none := I1.hok.fresh hbig
      have rel : KT H1 (mergeT [] (ks.zip ys)) (storedAllH [] (ks.zip (bs.zip its2))) := kt_merge (kt_zip hp hl rv2) .nil
      have hz : (mergeT [] (ks.zip ys)).length ≤ sizeLine := by
        have h1 := length_mergeT (ks.zip ys) []
        have h2 : (ks.zip ys).length ≤ ks.length := zip_len
        rw [List.length_nil] at h1
        rw [sizeLine_eq]; omega
      have hd : (h'.objs.size == sysModules) = false := beq_eq_false_iff_ne.mpr (Ne.symm (Nat.ne_of_lt (Nat.lt_of_lt_of_le I1.big hbig)))
      obtain ⟨o, es, ep, e1, e2, e3, e4, _, e6⟩ := dd
      refine ⟨.ref h'.objs.size, upd H1 h'.objs.size (.dT (mergeT [] (ks.zip ys))), I1.laid (t' := tk) keep hbig ⟨hz, hd, _, rel.keeps fun c yc ec => ?_, o, es, ep, e1, e2, e3, e4, e6⟩, rfl, q1 _ hnew⟩
      rw [upd_ne (ne_of_none ec hnew)]
      exact ec
end
end PD
end
section
set_option Elab.async false
set_option linter.all false
set_option maxRecDepth 100000
/-! PD20: dict(zip()) over data. -/
namespace PD
open PySem PySem.Spec PyProof.Rows L2

def tupsOf : List D → Option (List (List Str))
  | [] => some []
  | .tup xs :: r => match strsOf xs with
    | some k => (match tupsOf r with
      | some l => some (k :: l)
      | none => none)
    | none => none
  | _ => none
def fDictZipK (x y : D) : Option D := match x with
  | .lst xs => (match y with
    | .lst ys => if xs.length = ys.length ∧ xs.length ≤ 1000 then (match strsOf xs with
      | some ks => some (.dK (foldP ks ys ([], [])).1 (foldP ks ys ([], [])).2)
      | none => none) else none
    | _ => none)
  | _ => none
def fDictZipT (x y : D) : Option D := match x with
  | .lst xs => (match y with
    | .lst ys => if xs.length = ys.length ∧ xs.length ≤ 1000 then (match tupsOf xs with
      | some ks => some (.dT (foldQ ks ys ([], [])).1 (foldQ ks ys ([], [])).2)
      | none => none) else none
    | _ => none)
  | _ => none
section
variable {T : Tab} {X : Cx} {a b : Expr} {da db : DE} {p p2 q pos : Pos} {k : Nat}
theorem tupsOf_rep {F : Hp} : ∀ {ds : List D} {ks : List (List Str)} {vs : List V}, tupsOf ds = some ks → Reps T F ds vs → ∃ bs, vs = bs.map V.ref ∧ Paired (fun k b => F b = some (.tup (k.map kV))) (ks.map fun k => k.map Sum.inr) bs
  | [], ks, _, h, .nil => by cases h; exact ⟨[], rfl, .nil⟩
  | d :: r, ks, _, h, .cons rd t => by
    cases d with
    | tup xs =>
      unfold tupsOf at h
      split at h
      · rename_i k hk
        split at h
        · rename_i l hl
          cases h
          cases rd with
          | @tup b ws ds' hb rb =>
            have ev := strsOf_rep hk rb
            subst ev
            obtain ⟨bs, e, pr⟩ := tupsOf_rep hl t
            refine ⟨b :: bs, by rw [e]; rfl, .cons ?_ pr⟩
            rw [← strs_kV]
            exact hb
        · cases h
      · cases h
    | _ => cases h
theorem paired_mono {F H : Hp} (s : Same F H) : ∀ {ks : List (List Key)} {bs : List Addr}, Paired (fun k b => F b = some (.tup (k.map kV))) ks bs → Paired (fun k b => H b = some (.tup (k.map kV))) ks bs
  | _, _, .nil => .nil
  | _, _, .cons h t => .cons (s _ _ h) (paired_mono s t)
theorem ed_dictZipK (hr : Room k X.A) (hm : X.mg "dict" = none) (hm2 : X.mg "zip" = none) (ha : ED T X a da) (hb : ED T X b db) (hc : X.calm = true := by rfl) (hg : Gl X "dict" := by exact rfl) (hg2 : Gl X "zip" := by exact rfl)
    (hs : starEach [a, b] X.env = (false, eval a X.env) :: starEach [b] X.env := by rfl) (hs1 : starEach [b] X.env = (false, eval b X.env) :: starEach [] X.env := by rfl) (hpl : (backTo q (starEach [b] X.env)).any (·.1) = false := by rfl)
    (hs2 : starEach [Expr.Call (.Name "zip" p2) [a, b] [] q] X.env = (false, eval (.Call (.Name "zip" p2) [a, b] [] q) X.env) :: starEach [] X.env := by rfl) :
    ED T X (.Call (.Name "dict" p) [.Call (.Name "zip" p2) [a, b] [] q] [] pos) (d2 fDictZipK da db) := fun hT =>
  peImp (pe_dictZ hc hr.units hg hm hg2 hm2 (pa_cons (ha hT) (pa_cons (hb hT) pa_nil hs1) hs) hs hpl hs2) fun σ H Q h => by
    obtain ⟨B, ρ, d, F, e, s, er, qq⟩ := h
    unfold d2 at e
    cases hx : da ρ with
    | none => rw [hx] at e; cases e
    | some x =>
      rw [hx] at e
      cases hy : db ρ with
      | none => rw [hy] at e; cases e
      | some y =>
        rw [hy] at e
        have e : fDictZipK x y = some d := e
        unfold fDictZipK at e
        split at e
        · rename_i xs
          split at e
          · rename_i ys
            split at e
            · rename_i hl
              split at e
              · rename_i ks hk
                cases e
                refine ⟨B, ρ, _, F, hx, s, er, fun v H1 F1 g1 r1 => ⟨B, ρ, _, F1, hy, g1.sub, er.grow g1, fun u H2 F2 g2 r2 => ?_⟩⟩
                cases r1 with
                | @lst a1 vs1 _ h1 rr1 =>
                  cases r2 with
                  | @lst a2 vs2 _ h2 rr2 =>
                    have ev := strsOf_rep hk rr1
                    rw [hT] at h1 h2
                    obtain ⟨ll, ws, e3, e4⟩ := foldP_rep (F := F2) (ks := ks) (x := ([], [])) (vs := []) rfl .nil rr2
                    refine ⟨a1, a2, vs1, vs2, rfl, (g2.sub.trans (Same.refl _)).seq (g2.frz.seq h1), g2.sub.seq h2, by rw [← rr1.length, ← rr2.length]; exact hl.1, by rw [← rr1.length]; exact hl.2, .inl ⟨ks, ev, fun p hp => ?_⟩⟩
                    have e3' : mergeK [] ((ks.map Sum.inr).zip vs2) = _ := e3
                    rw [e3']
                    refine qq _ _ _ ((g1.trans g2).trans (Gr.new g2.sub hp)) (.dK upd_same ll ?_)
                    exact e4.mono (same_new (g2.sub.free hp))
              · cases e
            · cases e
          · cases e
        · cases e
theorem ed_dictZipT (hr : Room k X.A) (hm : X.mg "dict" = none) (hm2 : X.mg "zip" = none) (ha : ED T X a da) (hb : ED T X b db) (hc : X.calm = true := by rfl) (hg : Gl X "dict" := by exact rfl) (hg2 : Gl X "zip" := by exact rfl)
    (hs : starEach [a, b] X.env = (false, eval a X.env) :: starEach [b] X.env := by rfl) (hs1 : starEach [b] X.env = (false, eval b X.env) :: starEach [] X.env := by rfl) (hpl : (backTo q (starEach [b] X.env)).any (·.1) = false := by rfl)
    (hs2 : starEach [Expr.Call (.Name "zip" p2) [a, b] [] q] X.env = (false, eval (.Call (.Name "zip" p2) [a, b] [] q) X.env) :: starEach [] X.env := by rfl) :
    ED T X (.Call (.Name "dict" p) [.Call (.Name "zip" p2) [a, b] [] q] [] pos) (d2 fDictZipT da db) := fun hT =>
  peImp (pe_dictZ hc hr.units hg hm hg2 hm2 (pa_cons (ha hT) (pa_cons (hb hT) pa_nil hs1) hs) hs hpl hs2) fun σ H Q h => by
    obtain ⟨B, ρ, d, F, e, s, er, qq⟩ := h
    unfold d2 at e
    cases hx : da ρ with
    | none => rw [hx] at e; cases e
    | some x =>
      rw [hx] at e
      cases hy : db ρ with
      | none => rw [hy] at e; cases e
      | some y =>
        rw [hy] at e
        have e : fDictZipT x y = some d := e
        unfold fDictZipT at e
        split at e
        · rename_i xs
          split at e
          · rename_i ys
            split at e
            · rename_i hl
              split at e
              · rename_i ks hk
                cases e
                refine ⟨B, ρ, _, F, hx, s, er, fun v H1 F1 g1 r1 => ⟨B, ρ, _, F1, hy, g1.sub, er.grow g1, fun u H2 F2 g2 r2 => ?_⟩⟩
                cases r1 with
                | @lst a1 vs1 _ h1 rr1 =>
                  cases r2 with
                  | @lst a2 vs2 _ h2 rr2 =>
                    obtain ⟨bs, ev, pr⟩ := tupsOf_rep hk (rr1.mono g2.frz)
                    rw [hT] at h1 h2
                    obtain ⟨ll, ws, e3, e4⟩ := foldQ_rep (F := F2) (ks := ks) (x := ([], [])) (vs := []) rfl .nil rr2
                    refine ⟨a1, a2, vs1, vs2, rfl, (g2.sub.trans (Same.refl _)).seq (g2.frz.seq h1), g2.sub.seq h2, by rw [← rr1.length, ← rr2.length]; exact hl.1, by rw [← rr1.length]; exact hl.2, .inr ⟨_, bs, ev, paired_mono g2.sub pr, fun p hp => ?_⟩⟩
                    have e3' : mergeT [] ((ks.map fun k => k.map Sum.inr).zip vs2) = _ := e3
                    rw [e3']
                    refine qq _ _ _ ((g1.trans g2).trans (Gr.new g2.sub hp)) (.dT upd_same ll ?_)
                    exact e4.mono (same_new (g2.sub.free hp))
              · cases e
            · cases e
          · cases e
        · cases e
end
end PD
namespace PD
open PySem PySem.Spec PyProof.Rows L2
theorem mkLdef {T : Tab} {P : Program} {w : World} {mg : Str → Option Value} {base : Heap} {k j i n : Nat} {x : Str} {g : List D → Option D} (F : Def T P w mg base k x n g) (h : ∃ f, mg x = some (.ref f) ∧ T.fa i = some f) (hk : k ≤ j) : Ldef T P w mg base j i n g := by
  obtain ⟨f, fd, ps, G, hm, hkp, hb⟩ := F.ex
  obtain ⟨f', hm', hf⟩ := h
  rw [hm] at hm'
  cases hm'
  exact ⟨f, fd, ps, G.mono hk, hf, hkp, hb⟩
end PD
end
section
set_option Elab.async false
set_option linter.all false
set_option maxRecDepth 100000
/-! PD21: a new set of a list of ints. -/
namespace PD
open PySem PySem.Spec PyProof.Rows L2
section
variable {P : Program} {w : World} {A : Around} {E : Value → Shared → Prop} {s : Shared}
/-- the way of a code that ends with a value -/
abbrev Way (P : Program) (w : World) (A : Around) (R : Result → Shared → Prop) : PySem.Fin → Shared → Prop := fun fin s' => match fin with
  | .done f => R (.ok f) s'
  | .again c' => c'.quiet = true ∧ codeAny (model P w) A c' R s'
/-- T(args): made by T's own maker, then begun; the beginning's arguments are looked at where the object stands -/
theorem call_two {T newId initId : String} {Bi : Builtin} {args : List Value} {Q Q1 : Value → Shared → Prop} (ft : TypeCalled T newId initId) (hct : checkTypeCall T ⟨args, []⟩ = pure ()) (hb : entryFor table initId = some Bi)
    (hnew : codeAny (model P w) A.in1 (.call (.builtin newId) ⟨.type T :: args, []⟩) (wants Q1 E) s)
    (hnext : ∀ obj s1, Q1 obj s1 → s1.TypeIs obj T ∧ wpAny (model P w) A.in1.in1 (checkBuiltinCall initId ⟨obj :: args, []⟩) (fun _ s2 => wpAny (model P w) A.in1.in1 (Bi ⟨obj :: args, []⟩) (Way P w A.in1 (wants (fun r s3 => r = .none ∧ Q obj s3) E)) (fun e s' => wants (fun r s3 => r = .none ∧ Q obj s3) E (.error e) s') s2)
      (fun e s' => wants (fun r s3 => r = .none ∧ Q obj s3) E (.error e) s') s1) : wpAny (model P w) A (call (.type T) args) Q E s := by
  have g1 := ft.notType
  have g2 := ft.canCreate
  have g3 := ft.made
  have g4 := ft.sub
  obtain ⟨c, tl, g5⟩ := ft.mro
  apply wpAny_call
  apply codeAny_of_tree
  show wpAny _ _ (callAny (.type T) _) _ _ _
  refine wpAny_pure (And.intro (Code.quiet_builtin _ (by decide +kernel)) (codeAny_builtin F.entry_type_call ?_))
  rw [Around.under_plain (weight_type_call_type T args []) rfl]
  repeat (any_goals (first | assumption | wp_step))
  refine codeAny_mono hnew fun r s1 hr => ?_
  rcases r with e | f
  · exact hr
  · cases f with
    | ret obj =>
      obtain ⟨hT, hi⟩ := hnext _ _ hr
      have g6 := ft.init.lookup
      have g7 := ft.init.bind obj
      repeat (any_goals (first | assumption | wp_step))
      refine codeAny_mono (codeAny_call_builtin ft.init.plain hb hi) fun r2 s2 h2 => ?_
      rcases r2 with e | f2
      · exact h2
      · cases f2 with
        | ret v =>
          obtain ⟨e1, e2⟩ := h2
          subst e1
          repeat (any_goals (first | assumption | wp_step))
        | _ => exact h2.elim
    | _ => exact hr.elim
/-- the new set's object -/
abbrev set0 (w : World) : Obj := { cls := .type "set", dict := none, data := .set #[] 0 (.fresh 0 0 (!w.params.followText "set-order")) }
theorem set_of_list {l : Addr} {its : List Value} {ns : List Int} {Q : Value → Shared → Prop} (hh : A.handled = none) (hl : s.heap.IsList l its.toArray) (hi : IntsAre its ns) (hb : ns.length + 1 < scanBound)
    (h : ∀ h' tk c, SetR w h' s.heap.objs.size (fun j => decide (j ∈ ns)) c → (∀ b o, s.heap.get? b = some o → h'.get? b = some o) → Q (.ref s.heap.objs.size) { s with heap := h', toks := tk }) :
    wpAny (model P w) A (call (.type "set") [.ref l]) Q E s := by
  have hz : its.length = ns.length := IntsAre.length hi
  have lt : l < s.heap.objs.size := by obtain ⟨o, ho, _⟩ := hl; exact Heap.lt_size ho
  refine call_two (Q1 := fun v s1 => v = .ref s.heap.objs.size ∧ s1 = { s with heap := s.heap.push (set0 w) }) F.called_set (F.typeCall_set_1 _) F.entry_set_init (code_set_led1 (.ref l) ⟨rfl, rfl⟩) fun obj s1 hs => ?_
  obtain ⟨rfl, rfl⟩ := hs
  have hS : (s.heap.push (set0 w)).get? s.heap.objs.size = some (set0 w) := Heap.get?_push_size _ rfl
  have hT : Shared.TypeIs { s with heap := s.heap.push (set0 w) } (.ref s.heap.objs.size) "set" := ⟨_, hS, rfl⟩
  refine ⟨hT, check_set_init_1 hT ?_⟩
  have h1 : (s.heap.push (set0 w)).IsList l its.toArray := hl.push _
  have tl : Shared.TypeIs { s with heap := s.heap.push (set0 w) } (.ref l) "list" := h1.typeIs
  have q1 := F.sub_list_set
  have q2 := F.sub_list_frozenset
  have q3 : (Value.type "list" == Value.type "dict") = false := by decide
  unfold Builtin.«set.__init__» noKeywords Builtin.Frozenset.updateFrom
  generalize hPI : pyIter = PI
  wp_walk
  subst hPI
  refine wpAny_pyIter_list h1 (wpAny_bind (wpAny_runValue ?_))
  have z1 : (s.heap.push (set0 w)).objs.size = s.heap.objs.size + 1 := Heap.size_push ..
  have W := (Walks.list (prog := P) (w := w) (A := A.in1.in1.in1) (by simp [hh]) (s.heap.push (set0 w)).objs.size l (by rw [z1]; exact Nat.ne_of_lt (Nat.lt_succ_of_lt lt)) its.toArray).toS
  refine set_update_ints W s.heap.objs.size (by rw [z1]; simp only [List.mem_cons, List.not_mem_nil, or_false, not_or]; exact ⟨Nat.ne_of_lt (Nat.lt_succ_self _), Nat.ne_of_gt lt⟩) ns (by simpa using hz) hb (fun i v hv => ?_) _ 0 _ rfl (Nat.zero_le _) ⟨⟨_, Heap.get?_push_size _ rfl, rfl, rfl⟩, h1.push _⟩ ⟨0, Nat.le_refl 0, setR_new_at (Heap.get?_push_of_some _ hS)⟩ fun s' c hm _ R => ?_
  · have hv' : its[i]? = some v := by simpa using hv
    have lt2 : i < ns.length := by rw [← hz]; exact (List.getElem?_eq_some_iff.mp hv').1
    obtain ⟨t, e⟩ := PyProof.Rows.IntsAre.int_at hi i v hv'
    refine ⟨ns[i], t, List.getElem?_eq_getElem lt2, ?_⟩
    rw [e, List.getD_eq_getElem?_getD, List.getElem?_eq_getElem lt2]
    rfl
  · obtain ⟨h', g2, d2, tk, os2⟩ := s'
    obtain rfl : g2 = s.gens := hm.gens
    obtain rfl : d2 = s.drawn := hm.drawn
    obtain rfl : os2 = s.os := hm.os
    refine wpAny_pure (wpAny_pure ⟨rfl, h h' tk c R fun b o e => ?_⟩)
    have hb0 : b < s.heap.objs.size := Heap.lt_size e
    refine hm.heap b o ?_ (Heap.get?_push_of_some _ (Heap.get?_push_of_some _ e))
    rw [z1]
    simp only [List.mem_cons, List.not_mem_nil, or_false, not_or]
    exact ⟨Nat.ne_of_lt hb0, Nat.ne_of_lt (Nat.lt_succ_of_lt hb0)⟩
end
end PD
end
section
set_option Elab.async false
set_option linter.all false
set_option maxRecDepth 100000
/-! PD22: == of sets of ints, len of their difference and of what they share. -/
namespace PD
open PySem PySem.Spec PyProof.Rows L2
theorem entry_seteq : entryFor table "set.__eq__" = some Builtin.«frozenset.__eq__» := entryFor_alias (id' := "frozenset.__eq__") (by kernel_rfl) rfl (by decide +kernel) (by kernel_rfl)
theorem entry_setsub : entryFor table "set.__sub__" = some Builtin.«frozenset.__sub__» := entryFor_alias (id' := "frozenset.__sub__") (by kernel_rfl) rfl (by decide +kernel) (by kernel_rfl)
theorem entry_setand : entryFor table "set.__and__" = some Builtin.«frozenset.__and__» := entryFor_alias (id' := "frozenset.__and__") (by kernel_rfl) rfl (by decide +kernel) (by kernel_rfl)
theorem sub_set_set : isSubtype (.type "set") (.type "set") = pure true := by rw [isSubtype_type]; kernel_rfl
theorem sub_set_fro : isSubtype (.type "set") (.type "frozenset") = pure false := by rw [isSubtype_type]; kernel_rfl
section
variable {P : Program} {w : World} {A : Around} {E : Value → Shared → Prop} {s : Shared} {a b : Addr} {S : Int → Bool} {n : Nat}
theorem anyset_at {Q : Bool → Shared → Prop} (hT : s.TypeIs (.ref a) "set") (h : Q true s) : wpAny (model P w) A (Builtin.Frozenset.isAnySet (.ref a)) Q E s := by
  unfold Builtin.Frozenset.isAnySet
  refine wpAny_bind (wpAny_isInstance (T := "set") hT sub_set_set ?_)
  exact wpAny_pure h
theorem state_at {Q : (Array (Int × Value) × Nat × SetTable) → Shared → Prop} {es : Array (Int × Value)} {ep : Nat} {t : SetTable} (ha : SetAt s.heap a es ep t) (hf : t.fits es.size = true) (h : Q (es, ep, t) s) : wpAny (model P w) A (setState a) Q E s := by
  obtain ⟨o, ho, _, hd⟩ := ha
  exact wpAny_setState_of ho hd hf h
theorem size_at {Q : Nat → Shared → Prop} (R : SetR w s.heap a S n) (h : Q n s) : wpAny (model P w) A (Builtin.Frozenset.sizeOf a) Q E s := by
  obtain ⟨o, es, ep, t, ho, hex, hd, _, _, _, _, hf, hn, _⟩ := R
  unfold Builtin.Frozenset.sizeOf setEntries
  refine wpAny_bind (wpAny_bind (wpAny_setState_of ho hd hf (wpAny_pure (wpAny_pure ?_))))
  rw [hn]
  exact h
theorem SetR.ty (R : SetR w s.heap a S n) : s.TypeIs (.ref a) "set" := by
  obtain ⟨o, es, ep, t, ho, hex, _⟩ := R
  exact ⟨o, ho, hex.1⟩
theorem epoch_at {Q : Nat → Shared → Prop} {es : Array (Int × Value)} {ep : Nat} {t : SetTable} (ha : SetAt s.heap a es ep t) (hf : t.fits es.size = true) (h : Q ep s) : wpAny (model P w) A (setEpoch a) Q E s := by
  unfold setEpoch
  exact wpAny_bind (state_at ha hf (wpAny_pure h))
theorem entries_at {Q : Array (Int × Value) → Shared → Prop} {es : Array (Int × Value)} {ep : Nat} {t : SetTable} (ha : SetAt s.heap a es ep t) (hf : t.fits es.size = true) (h : Q es s) : wpAny (model P w) A (setEntries a) Q E s := by
  unfold setEntries
  exact wpAny_bind (state_at ha hf (wpAny_pure h))
theorem unch_at {id : String} {Q : Unit → Shared → Prop} {es : Array (Int × Value)} {ep : Nat} {t : SetTable} (ha : SetAt s.heap a es ep t) (hf : t.fits es.size = true) (h : Q () s) : wpAny (model P w) A (Builtin.Frozenset.unchanged id a ep) Q E s := by
  unfold Builtin.Frozenset.unchanged
  refine wpAny_bind (epoch_at ha hf ?_)
  rw [if_neg (by simp)]
  exact wpAny_pure h
theorem quiet_int {x : Value} {k : Int} {tk : Tok} {Q : Bool → Shared → Prop} (e : x = .int k tk) (h : Q true s) : wpAny (model P w) A (Builtin.Frozenset.quietEq x) Q E s := by
  subst e
  exact wpAny_pure h
/-- a set's payload -/
structure Pay (w : World) (h : Heap) (a : Addr) (S : Int → Bool) (n : Nat) (es : Array (Int × Value)) (ep : Nat) (t : SetTable) : Prop where
  at_ : SetAt h a es ep t
  fit : t.fits es.size = true
  good : ∀ e ∈ es.toList, GoodE e
  mem : ∀ k, S k = true ↔ k ∈ es.toList.map keyOf
  nd : (es.toList.map keyOf).Nodup
  sz : es.size = n
  lt : es.size < scanBound
  led : w.params.followText "set-order" = true ∨ t.led = true
theorem pay_of (R : SetR w s.heap a S n) : ∃ es ep t, Pay w s.heap a S n es ep t := by
  obtain ⟨o, es, ep, t, ho, hex, hd, g, nd, hm, hb, hf, hn, hr, hl⟩ := R
  exact ⟨es, ep, t, ⟨o, ho, hex.1, hd⟩, hf, g, hm, nd, hn, hb, hl⟩
theorem go_quiet : ∀ {l : List (Int × Value)}, (∀ e ∈ l, GoodE e) → wpAny (model P w) A (forIn l ((none, ()) : Option (List (Int × Value)) × PUnit) fun x _ => match x with
    | (_, y) => do
      let q ← Builtin.Frozenset.quietEq y
      if (!q) = true then do
          let v ← Builtin.Frozenset.walk a
          pure (ForInStep.done (some v, ()))
        else pure (ForInStep.yield (none, ()))) (fun r s1 => r = (none, ()) ∧ s1 = s) E s
  | [], _ => wpAny_pure ⟨rfl, rfl⟩
  | x :: r, hg => by
    obtain ⟨k, tk, e1, _⟩ := hg x List.mem_cons_self
    rw [List.forIn_cons]
    refine wpAny_bind ?_
    obtain ⟨x1, x2⟩ := x
    refine wpAny_bind (quiet_int e1 ?_)
    exact wpAny_pure (go_quiet fun e he => hg e (List.mem_cons_of_mem _ he))
theorem seen_at {Q : List (Int × Value) → Shared → Prop} {b : Addr} {S' : Int → Bool} {m : Nat} {es fs : Array (Int × Value)} {ep fp : Nat} {t u : SetTable} (p : Pay w s.heap a S n es ep t) (q : Pay w s.heap b S' m fs fp u)
    (h : Q es.toList s) : wpAny (model P w) A (Builtin.Frozenset.walkUnseen a b) Q E s := by
  unfold Builtin.Frozenset.walkUnseen
  refine wpAny_bind (entries_at p.at_ p.fit (wpAny_bind (entries_at q.at_ q.fit ?_)))
  have good : ∀ e ∈ es.toList ++ fs.toList, GoodE e := fun e he => (List.mem_append.mp he).elim (p.good e) (q.good e)
  generalize es.toList ++ fs.toList = l at good
  refine wpAny_bind ?_
  refine wpAny_mono (go_quiet (a := a) good) (fun r s1 hr => ?_) fun _ _ h' => h'
  obtain ⟨rfl, rfl⟩ := hr
  exact wpAny_pure h
end
end PD
end
section
set_option Elab.async false
set_option linter.all false
set_option maxRecDepth 100000
/-! PD23: == of sets of ints. -/
namespace PD
open PySem PySem.Spec PyProof.Rows L2
section
variable {P : Program} {w : World} {A : Around} {E : Value → Shared → Prop} {s : Shared} {a b : Addr} {S S' : Int → Bool} {n m : Nat}
theorem find_at {k : Int} {tk : Tok} {Q : Option Nat → Shared → Prop} (R : SetR w s.heap b S' m) (h : ∀ r : Option Nat, r.isSome = S' k → Q r s) : wpAny (model P w) A (setFind b (.int k tk) (hashInt k)) Q E s :=
  wpAny_setFind_of (knd := intKind P w) (k := k) (intKind_is _ _ _ _) rfl R.setOf h
theorem go_sub {id : String} {es : Array (Int × Value)} {ep : Nat} {t : SetTable} (ha : SetAt s.heap a es ep t) (hf : t.fits es.size = true) (R : SetR w s.heap b S' m) : ∀ {l : List (Int × Value)}, (∀ e ∈ l, GoodE e) → wpAny (model P w) A (forIn l ((none, ()) : Option Bool × PUnit) fun x _ => match x with
    | (h, y) => do
      let q ← holding [y] (setFind b y h)
      if q.isNone = true then pure (ForInStep.done (some false, ()))
        else do
          Builtin.Frozenset.unchanged id a ep
          pure (ForInStep.yield (none, ()))) (fun r s1 => r = (if l.all (fun e => S' (keyOf e)) = true then none else some false, ()) ∧ s1 = s) E s
  | [], _ => wpAny_pure ⟨rfl, rfl⟩
  | x :: r, hg => by
    obtain ⟨k, tk, e1, e2⟩ := hg x List.mem_cons_self
    obtain ⟨x1, x2⟩ := x
    have e1 : x2 = .int k tk := e1
    have e2 : x1 = hashInt k := e2
    subst e1 e2
    rw [List.forIn_cons]
    refine wpAny_bind (wpAny_bind (wpAny_holding (find_at R fun q hq => ?_)))
    have hk : S' (keyOf (hashInt k, Value.int k tk)) = S' k := rfl
    rw [List.all_cons, hk]
    cases hs : S' k with
    | true =>
      rw [hs] at hq
      obtain ⟨j, rfl⟩ := Option.isSome_iff_exists.mp hq
      rw [if_neg (by simp)]
      refine wpAny_bind (unch_at ha hf (wpAny_pure ?_))
      rw [Bool.true_and]
      exact go_sub ha hf R fun e he => hg e (List.mem_cons_of_mem _ he)
    | false =>
      rw [hs] at hq
      rw [if_pos (by cases q with | none => rfl | some j => cases hq)]
      refine wpAny_pure (wpAny_pure ?_)
      rw [Bool.false_and, if_neg Bool.false_ne_true]
      exact ⟨rfl, rfl⟩
theorem subset_at {id : String} {Q : Bool → Shared → Prop} (Ra : SetR w s.heap a S n) (Rb : SetR w s.heap b S' m) (hnm : n ≤ m) (h : ∀ (es : Array (Int × Value)) (ep : Nat) (t : SetTable), Pay w s.heap a S n es ep t → Q (es.toList.all fun e => S' (keyOf e)) s) :
    wpAny (model P w) A (Builtin.Frozenset.subsetOf id a b) Q E s := by
  obtain ⟨es, ep, t, p⟩ := pay_of Ra
  obtain ⟨fs, fp, u, q⟩ := pay_of Rb
  unfold Builtin.Frozenset.subsetOf
  refine wpAny_bind (size_at Ra (wpAny_bind (size_at Rb ?_)))
  rw [if_neg (by omega)]
  refine wpAny_bind (epoch_at p.at_ p.fit (wpAny_bind (seen_at p q (wpAny_bind ?_))))
  refine wpAny_mono (go_sub (id := id) p.at_ p.fit Rb p.good) (fun r s1 hr => ?_) fun _ _ h' => h'
  obtain ⟨rfl, rfl⟩ := hr
  have q1 := h es ep t p
  cases hc : es.toList.all fun e => S' (keyOf e) with
  | true =>
    rw [hc] at q1
    rw [if_pos rfl]
    exact wpAny_pure q1
  | false =>
    rw [hc] at q1
    rw [if_neg Bool.false_ne_true]
    exact wpAny_pure q1
theorem same_of {K L : List Int} (n1 : K.Nodup) (n2 : L.Nodup) (hs : ∀ x ∈ K, x ∈ L) (hl : K.length = L.length) : ∀ x ∈ L, x ∈ K := fun y hy => Classical.byContradiction fun hn => by
  have hss : (y :: K) ⊆ L := fun x hx => by
    rcases List.mem_cons.mp hx with e | h
    · rw [e]; exact hy
    · exact hs x h
  have := List.Nodup.length_le_of_subset (List.nodup_cons.mpr ⟨hn, n1⟩) hss
  rw [List.length_cons] at this
  omega
theorem eq_sets {Q : Value → Shared → Prop} (Ra : SetR w s.heap a S n) (Rb : SetR w s.heap b S' m) (hu : A.units < cLine) (h : ∀ r : Bool, (r = true ↔ ∀ k, S k = S' k) → Q (.bool r) s) : wpAny (model P w) A (compareOp .Eq (.ref a) (.ref b)) Q E s := by
  have tA := SetR.ty Ra
  have tB := SetR.ty Rb
  obtain ⟨es, ep, t, p⟩ := pay_of Ra
  obtain ⟨fs, fp, u, q⟩ := pay_of Rb
  have l1 : (es.toList.map keyOf).length = n := by rw [List.length_map, Array.length_toList]; exact p.sz
  have l2 : (fs.toList.map keyOf).length = m := by rw [List.length_map, Array.length_toList]; exact q.sz
  refine wpAny_richCompare_same_room (op := .Eq) tA tB F.slot_set_eq (wpAny_call_entry F.slot_set_eq tA entry_seteq ?_ (F.args_set_eq_2 _ _)) hu
  show wpAny _ _ (Builtin.Frozenset.slot1 "__eq__" ⟨[.ref a, .ref b], []⟩ >>= _) _ _ s
  refine wpAny_bind ?_
  show wpAny _ _ (pure (Value.ref a, Value.ref b)) _ _ s
  refine wpAny_pure (wpAny_bind (anyset_at tB ?_))
  simp only [Bool.not_true, Bool.false_eq_true, if_false]
  refine wpAny_bind (wpAny_pure (wpAny_bind (wpAny_pure (wpAny_bind (size_at Ra (wpAny_bind (size_at Rb (wpAny_bind ?_))))))))
  by_cases hnm : n = m
  · rw [if_neg (by simp [hnm])]
    refine wpAny_bind (wpAny_bind (wpAny_isInstance (T := "set") tA sub_set_fro ?_))
    refine wpAny_pure ?_
    rw [if_neg Bool.false_ne_true]
    refine subset_at Ra Rb (Nat.le_of_eq hnm) fun es' ep' t' p' => ?_
    refine wpAny_pure ⟨_, rfl, fun z => (nomatch z), h _ ?_⟩
    have l1' : (es'.toList.map keyOf).length = n := by rw [List.length_map, Array.length_toList]; exact p'.sz
    rw [List.all_eq_true]
    constructor
    · intro hall k
      have hs : ∀ x ∈ es'.toList.map keyOf, x ∈ fs.toList.map keyOf := fun x hx => by
        obtain ⟨e, he, rfl⟩ := List.mem_map.mp hx
        exact (q.mem _).mp (hall e he)
      have back := same_of p'.nd q.nd hs (by rw [l1', l2, hnm])
      have : S k = true ↔ S' k = true := ⟨fun z => (q.mem k).mpr (hs k ((p'.mem k).mp z)), fun z => (p'.mem k).mpr (back k ((q.mem k).mp z))⟩
      exact Bool.eq_iff_iff.mpr this
    · intro hall e he
      rw [← hall]
      exact (p'.mem _).mpr (List.mem_map.mpr ⟨e, he, rfl⟩)
  · rw [if_pos (by simpa using hnm)]
    refine wpAny_pure (wpAny_pure ⟨_, rfl, fun z => (nomatch z), h false ⟨fun z => (nomatch z), fun z => ?_⟩⟩)
    exfalso
    apply hnm
    have h1 : es.toList.map keyOf ⊆ fs.toList.map keyOf := fun x hx => (q.mem x).mp (by rw [← z]; exact (p.mem x).mpr hx)
    have h2 : fs.toList.map keyOf ⊆ es.toList.map keyOf := fun x hx => (p.mem x).mp (by rw [z]; exact (q.mem x).mpr hx)
    have h3 := List.Nodup.length_le_of_subset p.nd h1
    have h4 := List.Nodup.length_le_of_subset q.nd h2
    omega
end
end PD
end
section
set_option Elab.async false
set_option linter.all false
set_option maxRecDepth 100000
/-! PD24: difference and intersection of sets of ints. -/
namespace PD
open PySem PySem.Spec PyProof.Rows L2
section
variable {P : Program} {w : World} {A : Around} {E : Value → Shared → Prop} {s : Shared} {a b : Addr} {S S' : Int → Bool} {n m : Nat}
theorem walk_at {Q : Array (Int × Value) → Shared → Prop} {es : Array (Int × Value)} {ep : Nat} {t : SetTable} (p : Pay w s.heap a S n es ep t) (h : ∀ out d, out.toList.Perm es.toList → Q out { s with drawn := d }) : wpAny (model P w) A (setWalk a) Q E s := by
  unfold setWalk
  refine wpAny_bind (state_at p.at_ p.fit ?_)
  dsimp only
  refine wpAny_bind (wpAny_byText ?_)
  by_cases hb : w.params.followText "set-order" = true
  · refine wp_if_pos hb ?_
    exact wpAny_bind (wpAny_askSetting (wpAny_pure (h _ s.drawn (pick_perm _ _))))
  · refine wp_if_neg hb ?_
    have hl : t.led = true := p.led.resolve_left hb
    by_cases hd : (!t.plain && decide (es.size > 1)) = true
    · refine wp_if_pos hd ?_
      refine wpAny_bind (drawOrder_at _ _ _ _ (by rw [Array.length_toList]; exact Nat.le_refl _) fun ys d hp => ?_)
      exact wpAny_pure (h _ d (by simpa using hp))
    · refine wp_if_neg hd ?_
      refine wpAny_bind (wpAny_of_eq (a := ()) ?_ ?_)
      · show (if (!t.led && decide (es.size > 1)) = true then unsupported "set:maker-not-led" else pure ()) = pure ()
        rw [hl]
        rfl
      · exact wpAny_pure (h es s.drawn (.refl _))
/-- a loop that hands on one value -/
theorem loop_one {α β : Type} {M : Model} {f : α → β → Sem (ForInStep β)} {b0 : β} {Q : β → Shared → Prop} : ∀ (l : List α) (I : List α → Shared → Prop) (dn : List α) (s : Shared), (∀ dn x s, x ∈ l → I dn s → wpAny M A (f x b0) (fun r s' => r = .yield b0 ∧ I (dn ++ [x]) s') E s) →
    I dn s → (∀ s', I (dn ++ l) s' → Q b0 s') → wpAny M A (forIn l b0 f) Q E s
  | [], I, dn, s, _, h0, h => wpAny_pure (h s (by rw [List.append_nil]; exact h0))
  | x :: r, I, dn, s, hf, h0, h => by
    rw [List.forIn_cons]
    refine wpAny_bind (wpAny_mono (hf dn x s List.mem_cons_self h0) (fun v s' hv => ?_) fun _ _ h' => h')
    obtain ⟨rfl, h1⟩ := hv
    exact loop_one r I (dn ++ [x]) s' (fun dn y s hy => hf dn y s (List.mem_cons_of_mem _ hy)) h1 fun s2 h2 => h s2 (by rw [List.append_assoc] at h2; exact h2)
/-- sets of ints are quiet -/
theorem qset_at {l : List Addr} {Q : Bool → Shared → Prop} (hl : ∀ a ∈ l, ∃ S n, SetR w s.heap a S n) (h : Q true s) : wpAny (model P w) A (setsQuiet l) Q E s := by
  unfold setsQuiet
  refine wpAny_bind (loop_one l (fun _ s' => s' = s) [] s (fun _ a s1 ha e1 => ?_) rfl fun s' e1 => ?_)
  · subst e1
    obtain ⟨S, n, R⟩ := hl a ha
    obtain ⟨es, ep, t, p⟩ := pay_of R
    refine wpAny_bind (entries_at p.at_ p.fit (wpAny_bind ?_))
    rw [← Array.forIn_toList]
    refine loop_one es.toList (fun _ s' => s' = s1) [] s1 (fun _ x s2 hx e2 => ?_) rfl fun s' e2 => ?_
    · subst e2
      obtain ⟨k, tk, e, _⟩ := p.good x hx
      obtain ⟨x1, x2⟩ := x
      have e : x2 = .int k tk := e
      subst e
      exact wpAny_pure ⟨rfl, rfl⟩
    · subst e2
      exact wpAny_pure ⟨rfl, rfl⟩
  · subst e1
    exact wpAny_pure h
/-- the result r, still empty, is marked or left -/
theorem unseen_at {Q : Array (Int × Value) → Shared → Prop} {r : Addr} {es : Array (Int × Value)} {ep : Nat} {t : SetTable} {S2 : Int → Bool} {n2 : Nat} (p : Pay w s.heap a S n es ep t) (Ra : SetR w s.heap a S n) (Rb : SetR w s.heap b S' m) (Rr : SetR w s.heap r S2 n2)
    (h : ∀ out d h', out.toList.Perm es.toList → Heap.SameBut r s.heap h' → SetR w h' r S2 n2 → Q out { s with heap := h', drawn := d }) : wpAny (model P w) A (setWalkUnseen a [b, r] (some r)) Q E s := by
  have plain : wpAny (model P w) A (setWalk a) Q E s := walk_at p fun out d hp => h out d s.heap hp (Heap.SameBut.refl r s.heap) Rr
  unfold setWalkUnseen
  refine wpAny_bind (state_at p.at_ p.fit ?_)
  dsimp only
  refine wpAny_bind (wpAny_byText ?_)
  by_cases hc : (w.params.followText "set-order" || (t.led && t.plain) || decide (es.size ≤ 1)) = true
  · refine wp_if_pos hc ?_
    exact plain
  · refine wp_if_neg hc ?_
    refine wpAny_bind (qset_at (l := [a, b, r]) (fun c hc => ?_) ?_)
    · simp only [List.mem_cons, List.not_mem_nil, or_false] at hc
      rcases hc with rfl | rfl | rfl
      · exact ⟨_, _, Ra⟩
      · exact ⟨_, _, Rb⟩
      · exact ⟨_, _, Rr⟩
    · rw [if_neg (by simp)]
      simp only [Bool.or_eq_true, not_or] at hc
      have hl : t.led = true := p.led.resolve_left hc.1.1
      obtain ⟨o, fs, fp, u, ho, hex, hd, g, nd, hm, hb, hf, hn, hr, hlr⟩ := Rr
      refine wpAny_bind (wpAny_rule (wpAny_bind (wpAny_setState_of ho hd hf ?_)))
      dsimp only
      have Rr' : SetR w s.heap r S2 n2 := ⟨o, fs, fp, u, ho, hex, hd, g, nd, hm, hb, hf, hn, hr, hlr⟩
      split
      · refine wpAny_bind (wpAny_storeSet_of ho hd ?_ (fits_of_scanBound hb))
        refine wpAny_pure (h es s.drawn _ (.refl _) (Heap.SameBut.update s.heap r _) ⟨_, fs, _, _, store_at ho hd, hex, rfl, g, nd, hm, hb, hf, hn, hr, ?_⟩)
        refine hlr.imp id fun z => ?_
        show (u.led && t.led) = true
        rw [z, hl]
        rfl
      · exact wpAny_pure (h es s.drawn s.heap (.refl _) (Heap.SameBut.refl r s.heap) Rr')
end
end PD
end
section
set_option Elab.async false
set_option linter.all false
set_option maxRecDepth 100000
/-! PD25: set - set, set & set, of ints. -/
namespace PD
open PySem PySem.Spec PyProof.Rows L2
section
variable {P : Program} {w : World} {A : Around} {E : Value → Shared → Prop} {s : Shared} {a b : Addr} {S S' : Int → Bool} {n m : Nat}
theorem Pay.keep {h h' : Heap} {es : Array (Int × Value)} {ep : Nat} {t : SetTable} (p : Pay w h a S n es ep t) (k : ∀ o, h.get? a = some o → h'.get? a = some o) : Pay w h' a S n es ep t :=
  ⟨p.at_.at k, p.fit, p.good, p.mem, p.nd, p.sz, p.lt, p.led⟩
theorem base_at {Q : Value → Shared → Prop} (hT : s.TypeIs (.ref a) "set") (h : Q (.type "set") s) : wpAny (model P w) A (Builtin.Frozenset.baseOf a) Q E s := by
  unfold Builtin.Frozenset.baseOf
  refine wpAny_bind (wpAny_isInstance (T := "set") hT sub_set_set ?_)
  exact wpAny_pure h
theorem loop_pre {α β : Type} {M : Model} {f : α → β → Sem (ForInStep β)} {b0 : β} {Q : β → Shared → Prop} (L : List α) (I : List α → Shared → Prop) (hf : ∀ dn x r s, dn ++ x :: r = L → I dn s → wpAny M A (f x b0) (fun v s' => v = .yield b0 ∧ I (dn ++ [x]) s') E s) (h : ∀ s', I L s' → Q b0 s') : ∀ (l dn : List α) (s : Shared), dn ++ l = L →
    I dn s → wpAny M A (forIn l b0 f) Q E s
  | [], dn, s, e, h0 => wpAny_pure (h s (by rw [← e, List.append_nil]; exact h0))
  | x :: r, dn, s, e, h0 => by
    rw [List.forIn_cons]
    refine wpAny_bind (wpAny_mono (hf dn x r s e h0) (fun v s' hv => ?_) fun _ _ h' => h')
    obtain ⟨rfl, h1⟩ := hv
    exact loop_pre L I hf h r (dn ++ [x]) s' (by rw [List.append_assoc]; exact e) h1
theorem step_at {r : Addr} {F : Int → Bool} {c : Nat} {k : Int} {tk : Tok} (g : Bool) {Q : Unit → Shared → Prop} (R : SetR w s.heap r F c) (hc : c + 1 < scanBound)
    (h : ∀ h2 c2, c2 ≤ c + 1 → Heap.SameBut r s.heap h2 → SetR w h2 r (fun j => F j || (decide (j = k) && g)) c2 → Q () { s with heap := h2 }) :
    wpAny (model P w) A (if g = true then (do let _ ← setAddHashed r (.int k tk) (hashInt k); pure ()) else pure ()) Q E s := by
  cases g with
  | true =>
    rw [if_pos rfl]
    refine wpAny_bind (setR_add_hashed R hc fun h' sb R' => wpAny_pure (h h' _ ?_ sb (R'.congr fun j => by rw [Bool.and_true])))
    split <;> omega
  | false =>
    rw [if_neg Bool.false_ne_true]
    exact wpAny_pure (h s.heap c (Nat.le_succ c) (Heap.SameBut.refl r s.heap) (R.congr fun j => by rw [Bool.and_false, Bool.or_false]))
/-- what holds in the loop that fills r -/
structure Fil (w : World) (s : Shared) (a b r : Addr) (S S' G : Int → Bool) (n m : Nat) (es : Array (Int × Value)) (ep : Nat) (t : SetTable) (dn : List (Int × Value)) (s1 : Shared) : Prop where
  same : ∃ h1 d1, s1 = { s with heap := h1, drawn := d1 }
  pa : Pay w s1.heap a S n es ep t
  rb : SetR w s1.heap b S' m
  res : ∃ c, c ≤ dn.length ∧ SetR w s1.heap r (fun k => decide (k ∈ dn.map keyOf) && G k) c
  old : ∀ x o, s.heap.get? x = some o → s1.heap.get? x = some o
theorem Fil.step {s s1 : Shared} {r : Addr} {G : Int → Bool} {es : Array (Int × Value)} {ep : Nat} {t : SetTable} {dn : List (Int × Value)} {x : Int × Value} {h2 : Heap} {k : Int} {c2 : Nat} (f : Fil w s a b r S S' G n m es ep t dn s1) (hr : s.heap.objs.size ≤ r) (ha : a < s.heap.objs.size) (hb : b < s.heap.objs.size) (hx : keyOf x = k)
    (sb : Heap.SameBut r s1.heap h2) (hc : c2 ≤ dn.length + 1) (R : SetR w h2 r (fun j => (decide (j ∈ dn.map keyOf) && G j) || (decide (j = k) && G k)) c2) : Fil w s a b r S S' G n m es ep t (dn ++ [x]) { s1 with heap := h2 } := by
  obtain ⟨h1, d1, e⟩ := f.same
  refine ⟨⟨h2, d1, by rw [e]⟩, f.pa.keep fun o z => (sb.2 a (Nat.ne_of_lt (Nat.lt_of_lt_of_le ha hr))).trans z, f.rb.at fun o z => (sb.2 b (Nat.ne_of_lt (Nat.lt_of_lt_of_le hb hr))).trans z, ⟨c2, by rw [List.length_append]; exact hc, R.congr fun j => ?_⟩, fun y o z => ?_⟩
  · have e1 : decide (j ∈ (dn ++ [x]).map keyOf) = (decide (j ∈ dn.map keyOf) || decide (j = k)) := by
      rw [List.map_append, ← Bool.decide_or]
      exact decide_eq_decide.mpr ⟨fun z => (List.mem_append.mp z).imp id fun q => (List.mem_singleton.mp q).trans hx, fun z => List.mem_append.mpr (z.imp id fun q => List.mem_singleton.mpr (q.trans hx.symm))⟩
    rw [e1]
    by_cases hj : j = k
    · rw [hj]
      generalize decide (k = k) = z
      cases z <;> cases decide (k ∈ dn.map keyOf) <;> cases G k <;> rfl
    · rw [decide_eq_false hj]
      cases decide (j ∈ dn.map keyOf) <;> cases G j <;> rfl
  · have := f.old y o z
    exact (sb.2 y (Nat.ne_of_lt (Nat.lt_of_lt_of_le (Heap.lt_size z) hr))).trans this
theorem diff_at {id : String} {Q : Value → Shared → Prop} (Ra : SetR w s.heap a S n) (Rb : SetR w s.heap b S' m) (hnm : n / 4 ≤ m)
    (h : ∀ h' d c, SetR w h' s.heap.objs.size (fun k => S k && !S' k) c → (∀ x o, s.heap.get? x = some o → h'.get? x = some o) → Q (.ref s.heap.objs.size) { s with heap := h', drawn := d }) : wpAny (model P w) A (Builtin.Frozenset.difference id a (.ref b)) Q E s := by
  have tA := SetR.ty Ra
  have tB := SetR.ty Rb
  have la := Ra.lt
  have lb := Rb.lt
  obtain ⟨es, ep, t, p⟩ := pay_of Ra
  unfold Builtin.Frozenset.difference
  refine wpAny_bind (anyset_at tB ?_)
  simp only [Bool.not_true, Bool.false_eq_true, if_false, Bool.false_and, if_true]
  refine wpAny_bind (wpAny_pure (wpAny_bind (size_at Rb (wpAny_bind (size_at Ra ?_)))))
  rw [if_neg (by omega)]
  refine wpAny_bind (base_at tA (wpAny_bind (PpSet.newSet_ok ?_)))
  have kp : ∀ x o, s.heap.get? x = some o → (s.heap.push (set0 w)).get? x = some o := fun x o e => Heap.get?_push_of_some _ e
  have p1 := p.keep (h' := s.heap.push (set0 w)) fun o e => kp a o e
  have Ra1 := Ra.at (h' := s.heap.push (set0 w)) fun o e => kp a o e
  have Rb1 := Rb.at (h' := s.heap.push (set0 w)) fun o e => kp b o e
  have R0 : SetR w (s.heap.push (set0 w)) s.heap.objs.size (fun _ => false) 0 := setR_fresh w
  refine wpAny_bind (wpAny_pure (wpAny_bind (epoch_at p1.at_ p1.fit (wpAny_bind (wpAny_holding (wpAny_bind (unseen_at p1 Ra1 Rb1 R0 fun out d h1 hp sb R1 => wpAny_bind ?_)))))))
  rw [← Array.forIn_toList]
  have go : ∀ x, x ∈ out.toList → GoodE x := fun x hx => p.good x (hp.mem_iff.mp hx)
  have ne : ∀ c, c < s.heap.objs.size → c ≠ s.heap.objs.size := fun c hc => Nat.ne_of_lt hc
  have len : out.toList.length = n := by rw [hp.length_eq, Array.length_toList]; exact p.sz
  have lim : n < 4096 := by have := p.lt; have e := p.sz; have : scanBound = 4096 := rfl; omega
  refine loop_pre out.toList (fun dn s1 => Fil w s a b s.heap.objs.size S S' (fun k => !S' k) n m es ep t dn s1) (fun dn x rest s1 hx f => ?_) (fun s' f => ?_) out.toList [] _ rfl ?_
  · obtain ⟨k, tk, e1, e2⟩ := go x (by rw [← hx]; simp)
    obtain ⟨x1, x2⟩ := x
    have e1 : x2 = .int k tk := e1
    have e2 : x1 = hashInt k := e2
    subst e1 e2
    obtain ⟨c, hc, Rc⟩ := f.res
    have hl : dn.length + 1 ≤ n := by
      rw [← len, ← hx, List.length_append, List.length_cons]
      omega
    refine wpAny_bind (wpAny_holding (wpAny_bind (find_at f.rb fun q hq => wpAny_bind (wpAny_pure ?_))))
    rw [hq]
    refine step_at (!S' k) Rc (by have : scanBound = 4096 := rfl; omega) fun h2 c2 hc2 sb2 R2 => ?_
    have f2 := f.step (x := (hashInt k, Value.int k tk)) (k := k) (Nat.le_refl _) la lb rfl sb2 (by omega) R2
    exact wpAny_bind (unch_at f2.pa.at_ f2.pa.fit (wpAny_pure ⟨rfl, f2⟩))
  · obtain ⟨h1', d1, rfl⟩ := f.same
    obtain ⟨c, hc, Rc⟩ := f.res
    refine wpAny_pure (wpAny_pure (h h1' d1 c (Rc.congr fun k => ?_) f.old))
    have e1 : S k = decide (k ∈ out.toList.map keyOf) := by
      rw [Bool.eq_iff_iff, decide_eq_true_eq, p.mem k]
      exact (hp.map keyOf).mem_iff.symm
    rw [e1]
  · refine ⟨⟨h1, d, rfl⟩, p1.keep fun o e => (sb.2 a (ne a la)).trans e, Rb1.at fun o e => (sb.2 b (ne b lb)).trans e, ⟨0, Nat.le_refl _, R1.congr fun k => rfl⟩, fun x o e => (sb.2 x (ne x (Heap.lt_size e))).trans (kp x o e)⟩
end
end PD
end
section
set_option Elab.async false
set_option linter.all false
set_option maxRecDepth 100000
/-! PD26: set & set; the operators. -/
namespace PD
open PySem PySem.Spec PyProof.Rows L2
section
variable {P : Program} {w : World} {A : Around} {E : Value → Shared → Prop} {s : Shared} {a b : Addr} {S S' : Int → Bool} {n m : Nat}
theorem inter_core {id : String} {Q : Unit → Shared → Prop} (Ra : SetR w s.heap a S n) (Rb : SetR w s.heap b S' m)
    (h : ∀ h' d c, SetR w h' s.heap.objs.size (fun k => S k && S' k) c → (∀ x o, s.heap.get? x = some o → h'.get? x = some o) → Q () { s with heap := h', drawn := d }) :
    wpAny (model P w) A (do
      let was ← setEpoch a
      let l ← setWalkUnseen a [b, s.heap.objs.size] (some s.heap.objs.size)
      forIn l PUnit.unit fun x _ => match x with
          | (h, x) => do
            holding [x] do
                let q ← setFind b x h
                if q.isSome = true then do
                    let _ ← setAddHashed s.heap.objs.size x h
                    pure ()
                  else pure ()
            Builtin.Frozenset.unchanged id a was
            pure (ForInStep.yield PUnit.unit)
      pure ()) Q E { s with heap := s.heap.push (set0 w) } := by
  have la := Ra.lt
  have lb := Rb.lt
  obtain ⟨es, ep, t, p⟩ := pay_of Ra
  have kp : ∀ x o, s.heap.get? x = some o → (s.heap.push (set0 w)).get? x = some o := fun x o e => Heap.get?_push_of_some _ e
  have p1 := p.keep (h' := s.heap.push (set0 w)) fun o e => kp a o e
  have Ra1 := Ra.at (h' := s.heap.push (set0 w)) fun o e => kp a o e
  have Rb1 := Rb.at (h' := s.heap.push (set0 w)) fun o e => kp b o e
  have R0 : SetR w (s.heap.push (set0 w)) s.heap.objs.size (fun _ => false) 0 := setR_fresh w
  refine wpAny_bind (epoch_at p1.at_ p1.fit (wpAny_bind (unseen_at p1 Ra1 Rb1 R0 fun out d h1 hp sb R1 => wpAny_bind ?_)))
  rw [← Array.forIn_toList]
  have go : ∀ x, x ∈ out.toList → GoodE x := fun x hx => p.good x (hp.mem_iff.mp hx)
  have ne : ∀ c, c < s.heap.objs.size → c ≠ s.heap.objs.size := fun c hc => Nat.ne_of_lt hc
  have len : out.toList.length = n := by rw [hp.length_eq, Array.length_toList]; exact p.sz
  have lim : n < 4096 := by have := p.lt; have e := p.sz; have : scanBound = 4096 := rfl; omega
  refine loop_pre out.toList (fun dn s1 => Fil w s a b s.heap.objs.size S S' (fun k => S' k) n m es ep t dn s1) (fun dn x rest s1 hx f => ?_) (fun s' f => ?_) out.toList [] _ rfl ?_
  · obtain ⟨k, tk, e1, e2⟩ := go x (by rw [← hx]; simp)
    obtain ⟨x1, x2⟩ := x
    have e1 : x2 = .int k tk := e1
    have e2 : x1 = hashInt k := e2
    subst e1 e2
    obtain ⟨c, hc, Rc⟩ := f.res
    have hl : dn.length + 1 ≤ n := by
      rw [← len, ← hx, List.length_append, List.length_cons]
      omega
    refine wpAny_bind (wpAny_holding (wpAny_bind (find_at f.rb fun q hq => ?_)))
    rw [hq]
    refine step_at (S' k) Rc (by have : scanBound = 4096 := rfl; omega) fun h2 c2 hc2 sb2 R2 => ?_
    have f2 := f.step (x := (hashInt k, Value.int k tk)) (k := k) (Nat.le_refl _) la lb rfl sb2 (by omega) R2
    exact wpAny_bind (unch_at f2.pa.at_ f2.pa.fit (wpAny_pure ⟨rfl, f2⟩))
  · obtain ⟨h1', d1, rfl⟩ := f.same
    obtain ⟨c, hc, Rc⟩ := f.res
    refine wpAny_pure (h h1' d1 c (Rc.congr fun k => ?_) f.old)
    have e1 : S k = decide (k ∈ out.toList.map keyOf) := by
      rw [Bool.eq_iff_iff, decide_eq_true_eq, p.mem k]
      exact (hp.map keyOf).mem_iff.symm
    rw [e1]
  · exact ⟨⟨h1, d, rfl⟩, p1.keep fun o e => (sb.2 a (ne a la)).trans e, Rb1.at fun o e => (sb.2 b (ne b lb)).trans e, ⟨0, Nat.le_refl _, R1.congr fun k => rfl⟩, fun x o e => (sb.2 x (ne x (Heap.lt_size e))).trans (kp x o e)⟩
theorem inter_at {id : String} {Q : Value → Shared → Prop} (Ra : SetR w s.heap a S n) (Rb : SetR w s.heap b S' m) (hab : b ≠ a)
    (h : ∀ h' d c, SetR w h' s.heap.objs.size (fun k => S k && S' k) c → (∀ x o, s.heap.get? x = some o → h'.get? x = some o) → Q (.ref s.heap.objs.size) { s with heap := h', drawn := d }) : wpAny (model P w) A (Builtin.Frozenset.intersection id a (.ref b)) Q E s := by
  have tA := SetR.ty Ra
  have tB := SetR.ty Rb
  unfold Builtin.Frozenset.intersection
  rw [if_neg (by intro z; exact hab (Value.ref.inj (eq_of_beq z)))]
  refine wpAny_bind (base_at tA (wpAny_bind (PpSet.newSet_ok ?_)))
  have kp : ∀ x o, s.heap.get? x = some o → (s.heap.push (set0 w)).get? x = some o := fun x o e => Heap.get?_push_of_some _ e
  have Ra1 := Ra.at (h' := s.heap.push (set0 w)) fun o e => kp a o e
  have Rb1 := Rb.at (h' := s.heap.push (set0 w)) fun o e => kp b o e
  have tB1 : Shared.TypeIs { s with heap := s.heap.push (set0 w) } (.ref b) "set" := SetR.ty (s := { s with heap := s.heap.push (set0 w) }) Rb1
  refine wpAny_bind (wpAny_pure (wpAny_bind (wpAny_holding (wpAny_bind (anyset_at tB1 ?_)))))
  rw [if_pos rfl]
  refine wpAny_bind (wpAny_pure (wpAny_bind (size_at (s := { s with heap := s.heap.push (set0 w) }) Rb1 (wpAny_bind (size_at (s := { s with heap := s.heap.push (set0 w) }) Ra1 ?_)))))
  by_cases hmn : m > n
  · rw [if_pos hmn]
    exact inter_core Ra Rb fun h' d c R o => wpAny_pure (h h' d c R o)
  · rw [if_neg hmn]
    exact inter_core Rb Ra fun h' d c R o => wpAny_pure (h h' d c (R.congr fun k => Bool.and_comm _ _) o)
theorem sub_sets {Q : Value → Shared → Prop} (Ra : SetR w s.heap a S n) (Rb : SetR w s.heap b S' m) (hnm : n / 4 ≤ m)
    (h : ∀ h' d c, SetR w h' s.heap.objs.size (fun k => S k && !S' k) c → (∀ x o, s.heap.get? x = some o → h'.get? x = some o) → Q (.ref s.heap.objs.size) { s with heap := h', drawn := d }) : wpAny (model P w) A (binaryOp .Sub (.ref a) (.ref b)) Q E s := by
  have tA := SetR.ty Ra
  have tB := SetR.ty Rb
  refine wpAny_binaryOp_same (op := .Sub) tA tB F.fills_set_sub F.slot_set_sub (wpAny_call_entry F.slot_set_sub tA entry_setsub ?_ (F.args_set_sub_2 _ _))
  show wpAny _ _ (Builtin.Frozenset.slot1 "__sub__" ⟨[.ref a, .ref b], []⟩ >>= _) _ _ s
  refine wpAny_bind ?_
  show wpAny _ _ (pure (Value.ref a, Value.ref b)) _ _ s
  refine wpAny_pure (wpAny_bind (wpAny_bind (anyset_at tA (anyset_at tB ?_))))
  refine wpAny_bind (wpAny_pure (wpAny_bind (diff_at Ra Rb hnm fun h' d c R o => ?_)))
  exact wpAny_pure ⟨_, rfl, fun z => (nomatch z), h h' d c R o⟩
theorem and_sets {Q : Value → Shared → Prop} (Ra : SetR w s.heap a S n) (Rb : SetR w s.heap b S' m) (hab : b ≠ a)
    (h : ∀ h' d c, SetR w h' s.heap.objs.size (fun k => S k && S' k) c → (∀ x o, s.heap.get? x = some o → h'.get? x = some o) → Q (.ref s.heap.objs.size) { s with heap := h', drawn := d }) : wpAny (model P w) A (binaryOp .BitAnd (.ref a) (.ref b)) Q E s := by
  have tA := SetR.ty Ra
  have tB := SetR.ty Rb
  refine wpAny_binaryOp_same (op := .BitAnd) tA tB F.fills_set_and F.slot_set_and (wpAny_call_entry F.slot_set_and tA entry_setand ?_ (F.args_set_and_2 _ _))
  show wpAny _ _ (Builtin.Frozenset.slot1 "__and__" ⟨[.ref a, .ref b], []⟩ >>= _) _ _ s
  refine wpAny_bind ?_
  show wpAny _ _ (pure (Value.ref a, Value.ref b)) _ _ s
  refine wpAny_pure (wpAny_bind (wpAny_bind (anyset_at tA (anyset_at tB ?_))))
  refine wpAny_bind (wpAny_pure (wpAny_bind (inter_at Ra Rb hab fun h' d c R o => ?_)))
  exact wpAny_pure ⟨_, rfl, fun z => (nomatch z), h h' d c R o⟩
end
end PD
end
section
set_option Elab.async false
set_option linter.all false
set_option maxRecDepth 100000
/-! PD27: sets of ints over data. -/
namespace PD
open PySem PySem.Spec PyProof.Rows L2

def dedI : List Int → List Int
  | [] => []
  | n :: r => match inI n (dedI r) with
    | true => dedI r
    | false => n :: dedI r
theorem inI_iff {k : Int} : ∀ {l : List Int}, inI k l = true ↔ k ∈ l
  | [] => ⟨fun h => (nomatch h), fun h => (nomatch h)⟩
  | y :: r => by
    rw [inI]
    by_cases h : y = k
    · rw [decide_eq_true h, h]
      exact ⟨fun _ => List.mem_cons_self, fun _ => rfl⟩
    · rw [decide_eq_false h]
      refine ⟨fun q => List.mem_cons_of_mem _ (inI_iff.mp q), fun q => ?_⟩
      rcases List.mem_cons.mp q with e | q
      · exact absurd e.symm h
      · exact inI_iff.mpr q
theorem dedI_mem {k : Int} : ∀ {l : List Int}, k ∈ dedI l ↔ k ∈ l
  | [] => Iff.rfl
  | y :: r => by
    rw [dedI]
    cases h : inI y (dedI r) with
    | true =>
      refine ⟨fun q => List.mem_cons_of_mem _ (dedI_mem.mp q), fun q => ?_⟩
      rcases List.mem_cons.mp q with e | q
      · rw [e]; exact inI_iff.mp h
      · exact dedI_mem.mpr q
    | false =>
      show k ∈ y :: dedI r ↔ _
      rw [List.mem_cons, List.mem_cons, dedI_mem]
theorem dedI_nd : ∀ {l : List Int}, (dedI l).Nodup
  | [] => List.nodup_nil
  | y :: r => by
    rw [dedI]
    cases h : inI y (dedI r) with
    | true => exact dedI_nd
    | false =>
      refine List.nodup_cons.mpr ⟨fun q => ?_, dedI_nd⟩
      rw [inI_iff.mpr q] at h
      cases h
section
variable {w : World} {h : Heap} {a : Addr} {S : Int → Bool} {n : Nat}
theorem setR_count {K : List Int} (R : SetR w h a S n) (nd : K.Nodup) (hm : ∀ k, S k = true ↔ k ∈ K) : n = K.length := by
  obtain ⟨o, es, ep, t, ho, hex, hd, g, nd1, hm1, hb, hf, hn, hr, hl⟩ := R
  have h1 : es.toList.map keyOf ⊆ K := fun x hx => (hm x).mp ((hm1 x).mpr hx)
  have h2 : K ⊆ es.toList.map keyOf := fun x hx => (hm1 x).mp ((hm x).mpr hx)
  have l1 := List.Nodup.length_le_of_subset nd1 h1
  have l2 := List.Nodup.length_le_of_subset nd h2
  have l3 : (es.toList.map keyOf).length = n := by rw [List.length_map, Array.length_toList]; exact hn
  rw [l3] at l1 l2
  exact Nat.le_antisymm l1 l2
end
section
variable {X : Cx}
/-- set(list of ints) -/
def rSetL (K : PySem.W.Frag) (w : World) : List V → Hp → VK → Prop := fun xs H Q => ∃ (l : Addr) (ns : List Int), xs = [.ref l] ∧ SqL K H l (ns.map V.int) ∧ ns.length ≤ 1000 ∧ ∀ p, H p = none → Q (.ref p) (upd H p (SetO w p (fun j => decide (j ∈ ns)) (dedI ns).length))
theorem cr_setL (hc : X.calm = true) : CallR X (.type "set") (rSetL X.K X.w) := by
  intro pins s σ H xs us Q I r h
  obtain ⟨l, ns, rfl, hq, hl, q⟩ := h
  rw [Vals.ref1 r]
  obtain ⟨its, rv, p1, _⟩ := I.list hq
  refine set_of_list (I.ok.hd hc) p1.isList rv.ints (by have : scanBound = 4096 := rfl; omega) fun h' tk c R kp => ?_
  have hc' : c = (dedI ns).length := setR_count R dedI_nd fun k => by rw [decide_eq_true_eq, dedI_mem]
  subst hc'
  exact ⟨.ref _, _, I.laid (t' := tk) kp (Nat.le_refl _) (setO_new R), rfl, q _ (I.hok.fresh (Nat.le_refl _))⟩
/-- a == b, of sets of ints -/
def rSetEq (w : World) : R2 := fun x y H Q => ∃ (a b : Addr) (S S' : Int → Bool) (n m : Nat), x = .ref a ∧ y = .ref b ∧ H a = some (SetO w a S n) ∧ H b = some (SetO w b S' m) ∧ ∀ r : Bool, (r = true ↔ ∀ k, S k = S' k) → Q (.bl r) H
theorem op_setEq (hu : X.A.units + 64 < cLine) : OpR X (compareOp .Eq) (rSetEq X.w) := by
  intro pins s σ H x y v u Q I rx ry h
  obtain ⟨a, b, S, S', n, m, rfl, rfl, ha, hb, q⟩ := h
  cases rx
  cases ry
  exact eq_sets (setO_get I ha) (setO_get I hb) (by omega) fun r hr => ⟨.bl r, H, I, rfl, q r hr⟩
theorem drawn_laid {pins : List (Addr × Obj)} {σ : L2.St} {H : Hp} {s : Shared} {h' : Heap} {d : Drawn} {o : HO} (I : Inv X pins σ H s) (k : ∀ b u, s.heap.get? b = some u → h'.get? b = some u) (new : ObjOk X.prog X.w (upd H s.heap.objs.size o) h' s.heap.objs.size o) :
    Inv X pins σ (upd H s.heap.objs.size o) { s with heap := h', drawn := d } :=
  I.call (ch := []) (Un.laid k (Nat.le_refl _) (I.hok.fresh (Nat.le_refl _))) (I.hok.laid k (Nat.le_refl _) new) I.bare (fun _ z => nomatch z)
def rSetSub (w : World) : R2 := fun x y H Q => ∃ (a b : Addr) (S S' : Int → Bool) (n m : Nat), x = .ref a ∧ y = .ref b ∧ H a = some (SetO w a S n) ∧ H b = some (SetO w b S' m) ∧ n / 4 ≤ m ∧ ∀ p c, H p = none → Q (.ref p) (upd H p (SetO w p (fun k => S k && !S' k) c))
theorem op_setSub : OpR X (binaryOp .Sub) (rSetSub X.w) := by
  intro pins s σ H x y v u Q I rx ry h
  obtain ⟨a, b, S, S', n, m, rfl, rfl, ha, hb, hnm, q⟩ := h
  cases rx
  cases ry
  exact sub_sets (setO_get I ha) (setO_get I hb) hnm fun h' d c R kp => ⟨.ref _, _, drawn_laid I kp (setO_new R), rfl, q _ c (I.hok.fresh (Nat.le_refl _))⟩
def rSetAnd (w : World) : R2 := fun x y H Q => ∃ (a b : Addr) (S S' : Int → Bool) (n m : Nat), x = .ref a ∧ y = .ref b ∧ H a = some (SetO w a S n) ∧ H b = some (SetO w b S' m) ∧ b ≠ a ∧ ∀ p c, H p = none → Q (.ref p) (upd H p (SetO w p (fun k => S k && S' k) c))
theorem op_setAnd : OpR X (binaryOp .BitAnd) (rSetAnd X.w) := by
  intro pins s σ H x y v u Q I rx ry h
  obtain ⟨a, b, S, S', n, m, rfl, rfl, ha, hb, hnm, q⟩ := h
  cases rx
  cases ry
  exact and_sets (setO_get I ha) (setO_get I hb) hnm fun h' d c R kp => ⟨.ref _, _, drawn_laid I kp (setO_new R), rfl, q _ c (I.hok.fresh (Nat.le_refl _))⟩
def rLenI (w : World) : List V → Hp → VK → Prop := fun vs H Q => ∃ (a : Addr) (S : Int → Bool) (n : Nat) (K : List Int), vs = [.ref a] ∧ H a = some (SetO w a S n) ∧ K.Nodup ∧ (∀ k, S k = true ↔ k ∈ K) ∧ Q (.int K.length) H
theorem cr_lenI : CallR X (.builtin "len") (rLenI X.w) := by
  intro pins s σ H vs us Q I r h
  obtain ⟨a, S, n, K, rfl, ha, nd, hm, q⟩ := h
  rw [Vals.ref1 r]
  have R := setO_get I ha
  have hn := setR_count R nd hm
  obtain ⟨o, es, ep, t, ho, hex, hd, g, nd1, hm1, hb, hf, hn2, hr, hl⟩ := R
  refine PySem.call_len_set ho hex hd hf (by have : scanBound = 4096 := rfl; omega) ⟨.int K.length, H, I.tok _, ⟨s.toks + 1, ?_⟩, q⟩
  rw [hn2, hn]
end

/-! ### over data -/
def subI (ns ms : List Int) : Bool := ns.all fun k => inI k ms
def ints2 {α : Type} (f : List Int → List Int → Option α) (x y : D) : Option α := match x with
  | .lst xs => (match y with
    | .lst ys => (match intsOf xs with
      | some ns => (match intsOf ys with
        | some ms => if ns.length ≤ 1000 ∧ ms.length ≤ 1000 then f ns ms else none
        | none => none)
      | none => none)
    | _ => none)
  | _ => none
def fSetEq : D → D → Option Bool := ints2 fun ns ms => some (subI ns ms && subI ms ns)
def fLenDiff : D → D → Option D := ints2 fun ns ms => if (dedI ns).length / 4 ≤ (dedI ms).length then some (.int (.ofNat ((dedI ns).filter fun k => !inI k ms).length)) else none
def fLenAnd : D → D → Option D := ints2 fun ns ms => some (.int (.ofNat ((dedI ns).filter fun k => inI k ms).length))
theorem ints2_some {α : Type} {f : List Int → List Int → Option α} {x y : D} {r : α} (h : ints2 f x y = some r) : ∃ xs ys ns ms, x = .lst xs ∧ y = .lst ys ∧ intsOf xs = some ns ∧ intsOf ys = some ms ∧ ns.length ≤ 1000 ∧ ms.length ≤ 1000 ∧ f ns ms = some r := by
  unfold ints2 at h
  split at h
  · split at h
    · split at h
      · split at h
        · split at h
          · rename_i h1 _ _ _ h2 h3
            exact ⟨_, _, _, _, rfl, rfl, by assumption, by assumption, h3.1, h3.2, h⟩
          · cases h
        · cases h
      · cases h
    · cases h
  · cases h
section
variable {T : Tab} {X : Cx} {a b : Expr} {da db : DE} {p1 p2 q1 q2 pos pos2 p : Pos} {k : Nat}
/-- set(a), set(b): the two sets, new -/
theorem two_sets {α : Type} {f : List Int → List Int → Option α} {r : α} {R : V → V → Hp → Prop} {σ : L2.St} {H : Hp} {B : Hp} {ρ : Rho} {F : Hp} {x y : D} (hT : T.K = X.K) (hx : da ρ = some x) (hy : db ρ = some y) (e : ints2 f x y = some r) (s : Same F H) (er : EnvR T B F H ρ σ)
    (h : ∀ ns ms P1 P2 H2 F2, f ns ms = some r → Gr F H F2 H2 → P2 ≠ P1 → H2 P1 = some (SetO X.w P1 (fun j => decide (j ∈ ns)) (dedI ns).length) → H2 P2 = some (SetO X.w P2 (fun j => decide (j ∈ ms)) (dedI ms).length) → R (.ref P1) (.ref P2) H2) :
    tCB (rSetL X.K X.w) (tCons (rdE T da) tNil) σ H fun u H1 => tCB (rSetL X.K X.w) (tCons (rdE T db) tNil) σ H1 fun v H2 => R u v H2 := by
  obtain ⟨xs, ys, ns, ms, rfl, rfl, e1, e2, l1, l2, e3⟩ := ints2_some e
  refine ⟨B, ρ, _, F, hx, s, er, fun v1 H1 F1 g1 r1 => ?_⟩
  cases r1 with
  | @lst a1 vs1 _ h1 rr1 =>
    have ev := intsOf_rep e1 rr1
    subst ev
    rw [hT] at h1
    refine ⟨a1, ns, rfl, g1.sub.seq h1, l1, fun P1 hP1 => ?_⟩
    have g2 : Gr F1 H1 F1 (upd H1 P1 (SetO X.w P1 (fun j => decide (j ∈ ns)) (dedI ns).length)) := Gr.grow g1.sub hP1
    refine ⟨B, ρ, _, F1, hy, g2.sub, (er.grow g1).grow g2, fun v2 H2 F2 g3 r2 => ?_⟩
    cases r2 with
    | @lst a2 vs2 _ h2 rr2 =>
      have ev := intsOf_rep e2 rr2
      subst ev
      rw [hT] at h2
      refine ⟨a2, ms, rfl, g3.sub.seq h2, l2, fun P2 hP2 => ?_⟩
      have hp1 := g3.same _ _ upd_same
      have hne : P1 ≠ P2 := ne_of_none hp1 hP2
      exact h ns ms P1 P2 _ F2 e3 (((g1.trans g2).trans g3).trans (Gr.grow g3.sub hP2)) (Ne.symm hne) (by rw [upd_ne hne]; exact hp1) upd_same
theorem pe_set1 (hT : T.K = X.K) (hc : X.calm = true) (hg : Gl X "set") (hm : X.mg "set" = none) (ha : ED T X a da) (na : starEach [a] X.env = (false, eval a X.env) :: starEach [] X.env) : PE X (.Call (.Name "set" p) [a] [] pos) (tCB (rSetL X.K X.w) (tCons (rdE T da) tNil)) :=
  pe_callTy (cr_setL hc) hg hm (by decide +kernel) (pa_cons (ha hT) pa_nil na) (by decide) (by decide) na
theorem td_setEq (hr : Room k X.A) (hm : X.mg "set" = none) (ha : ED T X a da) (hb : ED T X b db) (hc : X.calm = true := by rfl) (hg : Gl X "set" := by exact rfl) (na : starEach [a] X.env = (false, eval a X.env) :: starEach [] X.env := by rfl) (nb : starEach [b] X.env = (false, eval b X.env) :: starEach [] X.env := by rfl) :
    TD T X (.Compare (.Call (.Name "set" p1) [a] [] q1) [.Eq] [.Call (.Name "set" p2) [b] [] q2] pos) (t2 fSetEq da db) := fun hT =>
  ptImp (pt_cmpR (op_setEq hr.units) (pe_set1 hT hc hg hm ha na) (pe_set1 hT hc hg hm hb nb) (nomark _)) fun σ H Q h => by
    obtain ⟨B, ρ, d, F, e, s, er, q⟩ := h
    unfold t2 at e
    cases hx : da ρ with
    | none => rw [hx] at e; cases e
    | some x =>
      rw [hx] at e
      cases hy : db ρ with
      | none => rw [hy] at e; cases e
      | some y =>
        rw [hy] at e
        refine two_sets (R := fun u v H2 => rSetEq X.w u v H2 fun v H' => ∃ c, v = .bl c ∧ Q c H') hT hx hy (show ints2 _ x y = some d from e) s er fun ns ms P1 P2 H2 F2 hf g hne h1 h2 => ?_
        refine ⟨P1, P2, _, _, _, _, rfl, rfl, h1, h2, fun r hr => ⟨r, rfl, ?_⟩⟩
        cases hf
        have : r = (subI ns ms && subI ms ns) := by
          rw [Bool.eq_iff_iff, hr, Bool.and_eq_true]
          unfold subI
          rw [List.all_eq_true, List.all_eq_true]
          constructor
          · intro hall
            exact ⟨fun z hz => inI_iff.mpr (of_decide_eq_true ((hall z).symm.trans (decide_eq_true hz))), fun z hz => inI_iff.mpr (of_decide_eq_true ((hall z).trans (decide_eq_true hz)))⟩
          · rintro ⟨q1, q2⟩ z
            exact decide_eq_decide.mpr ⟨fun hz => inI_iff.mp (q1 z hz), fun hz => inI_iff.mp (q2 z hz)⟩
        rw [this]
        exact q H2 F2 g
theorem ed_lenDiff (hm : X.mg "set" = none) (hm2 : X.mg "len" = none) (ha : ED T X a da) (hb : ED T X b db) (hc : X.calm = true := by rfl) (hg : Gl X "set" := by exact rfl) (hg2 : Gl X "len" := by exact rfl) (na : starEach [a] X.env = (false, eval a X.env) :: starEach [] X.env := by rfl) (nb : starEach [b] X.env = (false, eval b X.env) :: starEach [] X.env := by rfl)
    (nc : starEach [Expr.BinOp (.Call (.Name "set" p1) [a] [] q1) .Sub (.Call (.Name "set" p2) [b] [] q2) pos2] X.env = (false, eval (.BinOp (.Call (.Name "set" p1) [a] [] q1) .Sub (.Call (.Name "set" p2) [b] [] q2) pos2) X.env) :: starEach [] X.env := by rfl) :
    ED T X (.Call (.Name "len" p) [.BinOp (.Call (.Name "set" p1) [a] [] q1) .Sub (.Call (.Name "set" p2) [b] [] q2) pos2] [] pos) (d2 fLenDiff da db) := fun hT =>
  peImp (pe_callB cr_lenI hg2 hm2 (by decide +kernel) (pa_cons (pe_op op_setSub (pe_set1 hT hc hg hm ha na) (pe_set1 hT hc hg hm hb nb)) pa_nil nc) (by decide) (by decide) nc) fun σ H Q h => by
    obtain ⟨B, ρ, d, F, e, s, er, q⟩ := h
    unfold d2 at e
    cases hx : da ρ with
    | none => rw [hx] at e; cases e
    | some x =>
      rw [hx] at e
      cases hy : db ρ with
      | none => rw [hy] at e; cases e
      | some y =>
        rw [hy] at e
        refine two_sets (R := fun u v H2 => rSetSub X.w u v H2 fun v H' => rLenI X.w [v] H' Q) hT hx hy (show ints2 _ x y = some d from e) s er fun ns ms P1 P2 H2 F2 hf g hne h1 h2 => ?_
        split at hf
        · rename_i hl
          cases hf
          refine ⟨P1, P2, _, _, _, _, rfl, rfl, h1, h2, hl, fun p c hp => ⟨p, _, _, (dedI ns).filter fun k => !inI k ms, rfl, upd_same, dedI_nd.filter _, fun k => ?_, ?_⟩⟩
          · rw [List.mem_filter, dedI_mem, Bool.and_eq_true, decide_eq_true_eq, Bool.not_eq_true', Bool.not_eq_true', decide_eq_false_iff_not]
            refine and_congr_right fun _ => ⟨fun z => ?_, fun z w => ?_⟩
            · cases hi : inI k ms with
              | false => rfl
              | true => exact absurd (inI_iff.mp hi) z
            · rw [inI_iff.mpr w] at z; cases z
          · exact q _ _ _ (g.trans (Gr.grow g.sub hp)) (.int _)
        · cases hf
theorem ed_lenAnd (hm : X.mg "set" = none) (hm2 : X.mg "len" = none) (ha : ED T X a da) (hb : ED T X b db) (hc : X.calm = true := by rfl) (hg : Gl X "set" := by exact rfl) (hg2 : Gl X "len" := by exact rfl) (na : starEach [a] X.env = (false, eval a X.env) :: starEach [] X.env := by rfl) (nb : starEach [b] X.env = (false, eval b X.env) :: starEach [] X.env := by rfl)
    (nc : starEach [Expr.BinOp (.Call (.Name "set" p1) [a] [] q1) .BitAnd (.Call (.Name "set" p2) [b] [] q2) pos2] X.env = (false, eval (.BinOp (.Call (.Name "set" p1) [a] [] q1) .BitAnd (.Call (.Name "set" p2) [b] [] q2) pos2) X.env) :: starEach [] X.env := by rfl) :
    ED T X (.Call (.Name "len" p) [.BinOp (.Call (.Name "set" p1) [a] [] q1) .BitAnd (.Call (.Name "set" p2) [b] [] q2) pos2] [] pos) (d2 fLenAnd da db) := fun hT =>
  peImp (pe_callB cr_lenI hg2 hm2 (by decide +kernel) (pa_cons (pe_op op_setAnd (pe_set1 hT hc hg hm ha na) (pe_set1 hT hc hg hm hb nb)) pa_nil nc) (by decide) (by decide) nc) fun σ H Q h => by
    obtain ⟨B, ρ, d, F, e, s, er, q⟩ := h
    unfold d2 at e
    cases hx : da ρ with
    | none => rw [hx] at e; cases e
    | some x =>
      rw [hx] at e
      cases hy : db ρ with
      | none => rw [hy] at e; cases e
      | some y =>
        rw [hy] at e
        refine two_sets (R := fun u v H2 => rSetAnd X.w u v H2 fun v H' => rLenI X.w [v] H' Q) hT hx hy (show ints2 _ x y = some d from e) s er fun ns ms P1 P2 H2 F2 hf g hne h1 h2 => ?_
        cases hf
        refine ⟨P1, P2, _, _, _, _, rfl, rfl, h1, h2, hne, fun p c hp => ⟨p, _, _, (dedI ns).filter fun k => inI k ms, rfl, upd_same, dedI_nd.filter _, fun k => ?_, ?_⟩⟩
        · rw [List.mem_filter, dedI_mem, Bool.and_eq_true, decide_eq_true_eq, decide_eq_true_eq, inI_iff]
        · exact q _ _ _ (g.trans (Gr.grow g.sub hp)) (.int _)
end
end PD
end
section
set_option Elab.async false
set_option linter.all false
set_option maxRecDepth 100000
/-! PD28: an instance while its fields are set; its making. -/
namespace PD
open PySem PySem.Spec PyProof.Rows L2

def lookF (f : Str) : List Str → List D → Option D
  | x :: xs, d :: ds => match seqS x f with
    | true => some d
    | false => lookF f xs ds
  | _, _ => none
def dFldO (i : Nat) (f : Str) : DE := fun ρ => match atS ρ i with
  | .ow (.ins _ fs ds) => lookF f fs ds
  | _ => none
def sSetF (i : Nat) (f : Str) (a : DE) : DS := fun ρ => match a ρ with
  | some d => (match atS ρ i with
    | .ow (.ins a0 fs ds) => if inS f fs = false ∧ fs.length < 1000 then some (.nx (ρ.set i (.ow (.ins a0 (fs ++ [f]) (ds ++ [d]))))) else none
    | _ => none)
  | none => none
def sSetF3 (i : Nat) (f g h : Str) (a : DE) : DS := fun ρ => match a ρ with
  | some (.tup [x, y, z]) => (match atS ρ i with
    | .ow (.ins a0 fs ds) => if inS f fs = false ∧ inS g (fs ++ [f]) = false ∧ inS h (fs ++ [f] ++ [g]) = false ∧ fs.length < 990 then some (.nx (ρ.set i (.ow (.ins a0 (fs ++ [f] ++ [g] ++ [h]) (ds ++ [x] ++ [y] ++ [z]))))) else none
    | _ => none)
  | _ => none
theorem lookF_rep {T : Tab} {F : Hp} {f : Str} {d : D} : ∀ {fs : List Str} {ds : List D} {vs : List V}, lookF f fs ds = some d → Reps T F ds vs → ∃ v, (fs.zip vs).lookup f = some v ∧ Rep T F d v
  | [], _, _, h, _ => by cases h
  | x :: xs, [], _, h, _ => by cases h
  | x :: xs, d0 :: ds, _, h, .cons r t => by
    rw [lookF] at h
    cases hx : seqS x f with
    | true =>
      rw [hx] at h
      cases h
      have e := seqS_iff.mp hx
      subst e
      exact ⟨_, by show List.lookup x ((x, _) :: xs.zip _) = _; simp [List.lookup], r⟩
    | false =>
      rw [hx] at h
      obtain ⟨v, e1, e2⟩ := lookF_rep h t
      refine ⟨v, ?_, e2⟩
      have hne : (f == x) = false := by
        rw [beq_eq_false_iff_ne]
        intro z
        rw [z, seqS_iff.mpr rfl] at hx
        cases hx
      show List.lookup f ((x, _) :: xs.zip _) = _
      simp only [List.lookup, hne]
      exact e1
theorem putF_new {f : Str} {v : V} : ∀ {fs : List Str} {vs : List V}, fs.length = vs.length → inS f fs = false → putF f v (fs.zip vs) = (fs ++ [f]).zip (vs ++ [v])
  | [], [], _, _ => rfl
  | [], _ :: _, h, _ => by cases h
  | _ :: _, [], h, _ => by cases h
  | x :: xs, y :: ys, h, hn => by
    rw [inS] at hn
    cases hx : seqS x f with
    | true => rw [hx] at hn; cases hn
    | false =>
      rw [hx] at hn
      have hne : ¬ x = f := fun z => by rw [z, seqS_iff.mpr rfl] at hx; cases hx
      show (if x = f then (x, v) :: xs.zip ys else (x, y) :: putF f v (xs.zip ys)) = (x, y) :: (xs ++ [f]).zip (ys ++ [v])
      rw [if_neg hne, putF_new (Nat.succ.inj h) hn]
section
variable {T : Tab} {X : Cx} {e : Expr} {de : DE} {pos p p2 pos' : Pos}
/-- what is asked of the class: f may be set -/
def FldOk (T : Tab) (f : Str) : Prop := Cls T.K T.C ∧ NoAttr T.K T.C f
theorem ed_fldO (i : Nat) {f x : Str} (hf : T.K = X.K → FldOk T f) (hN : X.N[i]? = some x := by rfl) (hv : Vis X.env.scope x := by first | exact Or.inl rfl | exact Or.inr (Or.inl rfl) | exact Or.inr (Or.inr rfl))
    (hd : (x == ("__debug__" : Str)) = false := by decide) (hcd : (x == ("__classdict__" : Str)) = false := by decide) (hb : attributeBase (.Name x p) f X.env (eval (.Name x p) X.env) = eval (.Name x p) X.env := by rfl) : ED T X (.Attribute (.Name x p) f pos) (dFldO i f) := fun hT =>
  peImp (pe_fld (pe_var (i := i) hN hv hd hcd) hb) fun σ H Q h => by
    obtain ⟨B, ρ, d, F, e, s, er, q⟩ := h
    obtain ⟨h1, h2⟩ := hf hT
    rw [hT] at h1 h2
    unfold dFldO at e
    split at e
    · rename_i a0 fs ds hds
      obtain ⟨a, fp, es, ow, m, _⟩ := er.take (atS_get hds (fun z => nomatch z))
      obtain ⟨_, _, hl, dx, vs, ha, rv⟩ := ow
      obtain ⟨v, ev, rr⟩ := lookF_rep e rv
      exact ⟨.ref a, es, a, T.C, dx, _, v, rfl, ha, h1, h2, ev, q v H F (Gr.refl s) rr⟩
    · cases e
/-- the instance's field is set: from the slots to the slots -/
theorem set_fld {B F0 F H : Hp} {ρ : Rho} {σ : L2.St} {i : Nat} {a0 : Addr} {fs : List Str} {ds : List D} {f : Str} {d : D} {v : V} (g : Gr F0 B F H) (er : EnvR T B F H ρ σ) (hds : atS ρ i = .ow (.ins a0 fs ds)) (hn : inS f fs = false) (rv : Rep T F d v) :
    ∃ a dx vs, σ[i]? = some (some (.ref a)) ∧ H a = some (.ins T.C dx (fs.zip vs)) ∧ fs.length = vs.length ∧ Gr F0 B F (upd H a (.ins T.C dx (putF f v (fs.zip vs)))) ∧ EnvR T B F (upd H a (.ins T.C dx (putF f v (fs.zip vs)))) (ρ.set i (.ow (.ins a0 (fs ++ [f]) (ds ++ [d])))) σ := by
  have ei := atS_get hds (fun z => nomatch z)
  have hlt : i < ρ.length := (List.getElem?_eq_some_iff.mp ei).1
  obtain ⟨a, fp, es, ow, m, er'⟩ := er.take ei
  obtain ⟨e0, rfl, hl, dx, vs, ha, rr⟩ := ow
  have hv : fs.length = vs.length := hl.trans rr.length
  have ma : a ∈ [a] := by simp
  refine ⟨a, dx, vs, es, ha, hv, g.mut m (upd_out ma), ?_⟩
  have e2 : EnvR T B F (dls (upd H a (.ins T.C dx (putF f v (fs.zip vs)))) [a]) (ρ.set i .no) σ := by
    rw [dls_upd ma]
    exact er'
  have e3 := e2.give (i := i) (o := .ins a0 (fs ++ [f]) (ds ++ [d])) (by rw [List.getElem?_set_self hlt]) es ⟨e0, rfl, by rw [List.length_append, List.length_append, hl]; rfl, dx, vs ++ [v], by rw [upd_same, putF_new hv hn], rr.append (.cons rv .nil)⟩ (m.upd ma)
  rw [List.set_set] at e3
  exact e3
theorem sd_setF (i : Nat) {f x : Str} (hf : T.K = X.K → FldOk T f) (he : ED T X e de) (hN : X.N[i]? = some x := by rfl) (hv : Vis X.env.scope x := by first | exact Or.inl rfl | exact Or.inr (Or.inl rfl) | exact Or.inr (Or.inr rfl))
    (hd : (x == ("__debug__" : Str)) = false := by decide) (hcd : (x == ("__classdict__" : Str)) = false := by decide) (hs : swapsWith e (some (.Attribute (.Name x p) f pos')) pos.line X.env = pure false := by rfl) : SD T X (.Assign [.Attribute (.Name x p) f pos'] e pos) (sSetF i f de) := fun hT =>
  psImp (ps_fld (pe_var (i := i) hN hv hd hcd) (he hT) hs) fun Dn σ H h => by
    obtain ⟨B, F0, ρ, o, F, e, g, er, q⟩ := h
    obtain ⟨h1, h2⟩ := hf hT
    rw [hT] at h1 h2
    unfold sSetF at e
    split at e
    · rename_i d hd'
      split at e
      · rename_i a0 fs ds hds
        split at e
        · rename_i hl
          cases e
          refine ⟨B, ρ, d, F, hd', g.sub, er, fun v H1 F1 g1 r1 => ?_⟩
          obtain ⟨a, dx, vs, es, ha, hlv, g2, e2⟩ := set_fld (g.trans g1) (er.grow g1) hds hl.1 r1
          exact ⟨.ref a, es, a, T.C, dx, _, rfl, ha, h1, h2, Nat.lt_of_le_of_lt zip_len hl.2, q _ _ _ g2 e2⟩
        · cases e
      · cases e
    · cases e
/-- an attribute of an instance as a target -/
def gFldA (K : PySem.W.Frag) (to : TE) (f : Str) : TG := fun v σ H Q => to σ H fun x H1 => ∃ a C dx fs, x = .ref a ∧ H1 a = some (.ins C dx fs) ∧ Cls K C ∧ NoAttr K C f ∧ fs.length < 1000 ∧ Q σ (upd H1 a (.ins C dx (putF f v fs)))
theorem pg_fldA {o : Expr} {to : TE} {f : Str} (ho : PE X o to) : PG X (.Attribute o f pos) (gFldA X.K to f) := by
  constructor
  intro pins s σ H v u Q I r h
  rw [arm_assign_Attribute]
  refine wpAny_bind (wpAny_holding (thn (ho.run pins s σ H _ I h) fun ov s1 ⟨x, H1, I1, r1, a, C, dx, fs, ex, ea, c, n, l, q1⟩ => ?_))
  subst ex
  obtain rfl : ov = Value.ref a := r1
  refine wpAny_bind (wpAny_standAt (wpAny_bind (wpAny_holding (setattr_ok I1 ea c n l r fun s2 I2 => ?_))))
  exact wpAny_release ⟨σ, _, I2, q1⟩
theorem sd_setF3 (i : Nat) {f g h x : Str} {kt : Nat} {p3 q1 q2 q3 pt : Pos} (hc : X.calm = true) (hf : T.K = X.K → FldOk T f ∧ FldOk T g ∧ FldOk T h) (he : ED T X e de) (hN : X.N[i]? = some x := by rfl) (hv : Vis X.env.scope x := by first | exact Or.inl rfl | exact Or.inr (Or.inl rfl) | exact Or.inr (Or.inr rfl))
    (hd : (x == ("__debug__" : Str)) = false := by decide) (hcd : (x == ("__classdict__" : Str)) = false := by decide)
    (hs : swapsWithSole [.Tuple [.Attribute (.Name x p) f q1, .Attribute (.Name x p2) g q2, .Attribute (.Name x p3) h q3] kt pt] e pos.line X.env = pure false := by rfl) (hw : swappedStores [.Tuple [.Attribute (.Name x p) f q1, .Attribute (.Name x p2) g q2, .Attribute (.Name x p3) h q3] kt pt] e X.env = pure none := by rfl)
    (h1 : (assignEach [.Tuple [.Attribute (.Name x p) f q1, .Attribute (.Name x p2) g q2, .Attribute (.Name x p3) h q3] kt pt] X.env).map (·.2) = [assign (.Tuple [.Attribute (.Name x p) f q1, .Attribute (.Name x p2) g q2, .Attribute (.Name x p3) h q3] kt pt) X.env] := by rfl) :
    SD T X (.Assign [.Tuple [.Attribute (.Name x p) f q1, .Attribute (.Name x p2) g q2, .Attribute (.Name x p3) h q3] kt pt] e pos) (sSetF3 i f g h de) := fun hT =>
  psImp (ps_asg (he hT) (pg_tup (n := 3) hc (pgs_cons (pg_fldA (pe_var (i := i) hN hv hd hcd)) (pgs_cons (pg_fldA (pe_var (i := i) hN hv hd hcd)) (pgs_cons (pg_fldA (pe_var (i := i) hN hv hd hcd)) pgs_nil)))) hs hw h1) fun Dn σ H hh => by
    obtain ⟨B, F0, ρ, o, F, e, gr, er, q⟩ := hh
    obtain ⟨⟨c1, c2⟩, ⟨_, c3⟩, ⟨_, c4⟩⟩ := hf hT
    rw [hT] at c1 c2 c3 c4
    unfold sSetF3 at e
    split at e
    · rename_i d1 d2 d3 hd'
      split at e
      · rename_i a0 fs ds hds
        split at e
        · rename_i hl
          cases e
          refine ⟨B, ρ, _, F, hd', gr.sub, er, fun v H1 F1 g1 r1 => ?_⟩
          cases r1 with
          | @tup b vs _ hb rr =>
            cases rr with
            | @cons _ _ v1 _ r1 rr => cases rr with
              | @cons _ _ v2 _ r2 rr => cases rr with
                | @cons _ _ v3 _ r3 rr =>
                  cases rr
                  refine ⟨b, _, rfl, SqT.of (g1.sub _ _ hb), rfl, v1, _, rfl, ?_⟩
                  have hlt : i < ρ.length := (List.getElem?_eq_some_iff.mp (atS_get hds (fun z => nomatch z))).1
                  have look : ∀ {ρ' : Rho} {s' : Sl}, i < ρ'.length → atS (ρ'.set i s') i = s' := by
                    intro ρ' s'
                    have : ∀ (ρ' : Rho) (i : Nat) (s' : Sl), i < ρ'.length → atS (ρ'.set i s') i = s' := by
                      intro ρ'
                      induction ρ' with
                      | nil => intro i s' h; cases h
                      | cons y r ih =>
                        intro i s' h
                        cases i with
                        | zero => rfl
                        | succ i => exact ih i s' (Nat.lt_of_succ_lt_succ h)
                    exact this ρ' i s'
                  obtain ⟨a, dx, us, es, ha, hlv, g2, e2⟩ := set_fld (gr.trans g1) (er.grow g1) hds hl.1 r1
                  refine ⟨.ref a, es, a, T.C, dx, _, rfl, ha, c1, c2, Nat.lt_of_le_of_lt zip_len (by omega), v2, _, rfl, ?_⟩
                  obtain ⟨a2, dx2, us2, es2, ha2, hlv2, g3, e3⟩ := set_fld g2 e2 (look hlt) hl.2.1 r2
                  refine ⟨.ref a2, es2, a2, T.C, dx2, _, rfl, ha2, c1, c3, Nat.lt_of_le_of_lt zip_len (by rw [List.length_append]; simp only [List.length_cons, List.length_nil]; omega), v3, _, rfl, ?_⟩
                  obtain ⟨a3, dx3, us3, es3, ha3, hlv3, g4, e4⟩ := set_fld g3 e3 (look (by rw [List.length_set]; exact hlt)) hl.2.2.1 r3
                  refine ⟨.ref a3, es3, a3, T.C, dx3, _, rfl, ha3, c1, c4, Nat.lt_of_le_of_lt zip_len (by rw [List.length_append, List.length_append]; simp only [List.length_cons, List.length_nil]; omega), rfl, ?_⟩
                  rw [List.set_set, List.set_set] at e4
                  exact q _ _ _ g4 e4
        · cases e
      · cases e
    · cases e
end

/-! ### __init__, and the making -/
/-- the promise of __init__: a new instance at p without fields; at last its fields are d -/
def spIni (T : Tab) (n : Nat) (g : Addr → List D → Option (List D)) : Sp := fun vs H Q _ => ∃ (F : Hp) (p dx : Addr) (ds : List D) (us : List V) (d : List D), vs = .ref p :: us ∧ ds.length = n ∧ H p = some (.ins T.C dx []) ∧ Same F (dls H [p]) ∧ Reps T F ds us ∧ g p ds = some d ∧
  ∀ H' F' ws dx', Gr F (dls H [p]) F' H' → F' p = none → H' p = some (.ins T.C dx' (T.fs.zip ws)) → T.fs.length = d.length → Reps T F' d ws → Q .non H'
/-- slots at the start of __init__ -/
def startI (n : Nat) (p : Addr) (ds : List D) : Rho := .ow (.ins p [] []) :: (ds.map Sl.sh ++ List.replicate (n - ds.length) Sl.no)
def eqSs : List Str → List Str → Bool
  | [], [] => true
  | x :: xs, y :: ys => seqS x y && eqSs xs ys
  | _, _ => false
theorem eqSs_iff : ∀ {xs ys : List Str}, eqSs xs ys = true → xs = ys
  | [], [], _ => rfl
  | [], _ :: _, h => by cases h
  | _ :: _, [], h => by cases h
  | x :: xs, y :: ys, h => by
    rw [eqSs, Bool.and_eq_true] at h
    rw [seqS_iff.mp h.1, eqSs_iff h.2]
def runI (n : Nat) (fs : List Str) (body : DS) : Addr → List D → Option (List D) := fun p ds => match body (startI n p ds) with
  | some (.nx ρ) => (match atS ρ 0 with
    | .ow (.ins a0 gs d) => if a0 = p ∧ eqSs gs fs = true then some d else none
    | _ => none)
  | _ => none
section
variable {P : Program} {w : World} {T : Tab} {mg : Str → Option Value} {base : Heap}
theorem init_ok {x qual : Str} {st : Stmt} {f : Addr} {fd : FuncData} {N ps : List Str} {k n m : Nat} {ds : DS} (F : Fun T.K x qual st f fd) (S : FnScope N ps (defScope st)) (hn : ps.length = n + 1) (hN : N.length = m + 1)
    (hbody : Bod T P w mg base k N qual st ds) : FnOk P w T.K mg base CX0 (k + 1) f fd ps (spIni T n (runI m T.fs ds)) := by
  refine F.ok S (fun vs H Q E h => ?_) (fun cdv A outer s H vs Q E hr h => ⟨_, hbody f cdv A outer s H E hr rfl, ?_⟩)
  · obtain ⟨F, p, dx, ds, us, d, rfl, hl, _, _, r, _⟩ := h
    rw [List.length_cons, ← r.length, hl, hn]
  · obtain ⟨F, p, dx, dd, us, d, rfl, hl, hp, s1, r, e, q⟩ := h
    unfold runI at e
    split at e
    · rename_i ρ' h1
      split at e
      · rename_i a0 gs d' hds
        split at e
        · rename_i hfs
          cases e
          obtain ⟨ea, hfs⟩ := hfs
          have efs := eqSs_iff hfs
          have ea' := ea.symm
          subst ea'
          subst efs
          have nF : F p = none := by
            cases q : F p with
            | none => rfl
            | some o => have z := s1 p o q; rw [dls_in (by simp)] at z; cases z
          have m0 : Mine (dls H [p]) F H [p] := ⟨fun b hb => by rw [List.mem_singleton.mp hb]; exact nF, fun b hb => dls_in hb, fun b hb => by rw [List.mem_singleton.mp hb]; exact ⟨_, hp⟩⟩
          -- the slots, the instance taken out
          have er0 : EnvR T (dls H [p]) F (dls H [p]) (.no :: (dd.map Sl.sh ++ List.replicate (m - dd.length) Sl.no)) (L2.start N (.ref p :: us)) := by
            have z := (env_start (T := T) (F := F) (H := dls H [p]) (ds := .non :: dd) (vs := .non :: us) N (.cons .non r)).setNo 0 (some (V.ref p))
            have e1 : (startR N.length (D.non :: dd)).set 0 .no = .no :: (dd.map Sl.sh ++ List.replicate (m - dd.length) Sl.no) := by
              unfold startR
              rw [hN, List.length_cons, Nat.add_sub_add_right]
              rfl
            have e2 : (L2.start N (V.non :: us)).set 0 (some (V.ref p)) = L2.start N (V.ref p :: us) := by
              unfold L2.start
              rw [List.map_cons, List.map_cons]
              rfl
            rw [e1, e2] at z
            exact z
          have es : (L2.start N (V.ref p :: us))[0]? = some (some (.ref p)) := by
            unfold L2.start
            rw [List.map_cons]
            rfl
          have er1 := er0.give (i := 0) (o := .ins p [] []) rfl es ⟨rfl, rfl, rfl, dx, [], hp, .nil⟩ m0
          refine ⟨dls H [p], F, _, _, F, h1, ⟨dls_same, Same.refl _, s1.trans dls_same, fun _ _ z => .inl z⟩, er1, fun σ' H' F' g' er' => ?_⟩
          obtain ⟨a, fp, es', ow, m', _⟩ := er'.take (atS_get hds (fun z => nomatch z))
          obtain ⟨rfl, rfl, hl', dx', ws, ha, rw'⟩ := ow
          exact q H' F' ws dx' g' (m'.nF _ (by simp)) ha hl' rw'
        · cases e
      · cases e
    · cases e
/-- what is asked of the class that is made -/
structure InitOk (T : Tab) (P : Program) (w : World) (mg : Str → Option Value) (base : Heap) (k n : Nat) (x : Str) (g : Addr → List D → Option (List D)) : Prop where
  ex : ∃ (f : Addr) (fd : FuncData) (ps : List Str), FnOk P w T.K mg base CX0 k f fd ps (spIni T n g) ∧ Mk T.K T.C f ∧ mg x = some (.ref T.C) ∧ Binds T.K fd ps []
theorem mkInit {x qual cn : Str} {ps N : List Str} {st : Stmt} {k n m : Nat} {ds : DS} (W : ∃ f fd, Fun T.K x qual st f fd ∧ Mk T.K T.C f ∧ Binds T.K fd ps []) (hm : mg cn = some (.ref T.C)) (hn : ps.length = n + 1) (hN : N.length = m + 1) (S : FnScope N ps (defScope st)) (h : Bod T P w mg base k N qual st ds) :
    InitOk T P w mg base (k + 1) n cn (runI m T.fs ds) := by
  obtain ⟨f, fd, F, hk, hb⟩ := W
  exact ⟨f, fd, ps, init_ok F S hn hN h, hk, hm, hb⟩
end
def dMakeG (g : Addr → List D → Option (List D)) (h : List D → Option (List D)) (a : DA) : DE := fun ρ => match a ρ with
  | some ds => (match h ds with
    | some d => some (.ins d)
    | none => none)
  | none => none
section
variable {T : Tab} {X : Cx} {e : Expr} {es : List Expr} {pos p : Pos} {x : Str} {n k : Nat} {g : Addr → List D → Option (List D)} {h : List D → Option (List D)} {da : DA}
/-- C(args): h says what __init__ gives wherever the instance stands -/
theorem ed_makeG (F : InitOk T X.prog X.w X.mg X.base k n x g) (hr : Room (k + 1) X.A) (ha : AD T X (e :: es) da) (hg : ∀ p ds d, h ds = some d → g p ds = some d) (hn : (e :: es).length = n := by rfl) (hgl : Gl X x := by exact rfl) (hdb : (x == ("__debug__" : Str)) = false := by decide)
    (he : starEach (e :: es) X.env = (false, eval e X.env) :: starEach es X.env := by rfl) (hpl : (backTo pos (starEach es X.env)).any (·.1) = false := by rfl) : ED T X (.Call (.Name x p) (e :: es) [] pos) (dMakeG g h da) := fun hT => by
  obtain ⟨f, fd, ps, G, hk, hm, hb⟩ := F.ex
  rw [hT] at G hk hb
  refine peImp (pe_make (E := E0) hk G hr hgl hm hb .nil pass0 (ha.run hT) hdb he hpl) fun σ H Q hq => ?_
  obtain ⟨B, ρ, d, F, e, s, er, q⟩ := hq
  unfold dMakeG at e
  split at e
  · rename_i ds h1
    split at e
    · rename_i dd h2
      cases e
      refine ⟨B, ρ, ds, F, h1, s, er, fun vs H1 F1 g1 r1 a dx na ndx hne => ?_⟩
      rw [List.append_nil]
      have nF : F1 a = none := g1.sub.free na
      have nFd : F1 dx = none := g1.sub.free ndx
      -- the heap beside the instance
      have eH : dls (upd (upd H1 dx (.own a)) a (.ins T.C dx [])) [a] = upd H1 dx (.own a) := by
        funext b
        by_cases hb : b = a
        · rw [hb, dls_in (by simp), upd_ne (Ne.symm hne), na]
        · rw [dls_out (by simp [hb]), upd_ne hb]
      have g2 : Gr F1 H1 F1 (upd H1 dx (.own a)) := Gr.grow g1.sub ndx
      refine ⟨F1, a, dx, ds, vs, dd, rfl, (ha.len ρ ds h1).trans hn, upd_same, by rw [eH]; exact g2.sub, r1, hg a ds dd h2, fun H' F' ws dx' g3 nF' ha' hl rr => ⟨rfl, ?_⟩⟩
      rw [eH] at g3
      have g4 := (g1.trans g2).trans g3
      have g5 : Gr F H (upd F' a (.ins T.C dx' (T.fs.zip ws))) H' := by
        refine ⟨g4.same, g4.frz.trans (same_new nF'), fun b o z => ?_, fun b o z => ?_⟩
        · by_cases hb : b = a
          · subst hb; rw [upd_same] at z; rw [ha']; exact z
          · rw [upd_ne hb] at z; exact g4.sub b o z
        · by_cases hb : b = a
          · subst hb
            cases hq : H b with
            | none => exact .inr rfl
            | some o' => rw [g1.same _ _ hq] at na; cases na
          · rw [upd_ne hb] at z; exact g4.fresh b o z
      exact q _ H' _ g5 (.ins upd_same hl (rr.mono (same_new nF')))
    · cases e
  · cases e
end
end PD
end
section
set_option Elab.async false
set_option linter.all false
set_option maxRecDepth 100000
/-! PD29: != of instances whose class has an == of its own; isinstance(x, C). -/
namespace PD
open PySem PySem.Spec PyProof.Rows L2
theorem ne_bind (self : Value) : bindSpecial (.builtin "object.__ne__") self = pure (.builtin "object.__ne__", [self]) :=
  (Slot.of (T := "object") (name := "__ne__") (owner := "object") (n := "__ne__") (by rw [typeLookup_type, builtinLookup_eq_fast]; kernel_rfl) (by decide +kernel) (by decide +kernel) (by decide +kernel)
    (.inl (by decide +kernel)) (by rw [isSubtype_type]; kernel_rfl)).bind self
section
variable {P : Program} {w : World} {A : Around} {E : Value → Shared → Prop} {s : Shared} {K : PySem.W.Frag} {x y C f : Addr} {ox oy : Obj} {od od' : Option Obj}
theorem ne_body (X : K.In s.heap) (J : PySem.W.InstAt s.heap x ox C od) (hu : A.units < cLine) (heq : PySem.W.findIn K (.ref C) "__eq__" = some (some (.ref f))) (hf : PySem.W.isFn K (.ref f) = true) {Q : PySem.Fin → Shared → Prop}
    (h : wpAny (model P w) A (call (.ref f) [.ref x, .ref y]) (fun v s' => ∃ b, v = .bool b ∧ Q (.done (.ret (.bool (!b)))) s') E s) : wpAny (model P w) A (Builtin.«object.__ne__» ⟨[.ref x, .ref y], []⟩) Q E s := by
  show wpAny _ _ (slotArgs "__ne__" 1 ⟨[.ref x, .ref y], []⟩ >>= _) _ _ s
  refine wpAny_bind ?_
  show wpAny _ _ (pure (Value.ref x, [Value.ref y])) _ _ s
  refine wpAny_pure (wpAny_bind (wpAny_cRoomFor hu (wpAny_bind (PySem.W.ifBound_K X J heq hf (wpAny_mono h (fun v s' hv => ?_) fun _ _ e => e)))))
  obtain ⟨b, rfl, hq⟩ := hv
  exact wpAny_bind (wpAny_truthy_bool (wpAny_pure hq))
theorem call_ne (X : K.In s.heap) (J : PySem.W.InstAt s.heap x ox C od) (hu : A.units + 1 < cLine) (heq : PySem.W.findIn K (.ref C) "__eq__" = some (some (.ref f))) (hf : PySem.W.isFn K (.ref f) = true) (hsub : PySem.W.subIn K (.ref C) (.type "object") = some true) {Q : Value → Shared → Prop}
    (h : wpAny (model P w) A.in1 (call (.ref f) [.ref x, .ref y]) (fun v s' => ∃ b, v = .bool b ∧ Q (.bool (!b)) s') E s) : wpAny (model P w) A (call (.builtin "object.__ne__") [.ref x, .ref y]) Q E s := by
  refine wpAny_call (codeAny_call_builtin (b := Builtin.«object.__ne__») (by decide +kernel) PySem.F.cmpEntry_ne ?_)
  simp only [checkBuiltinCall, PySem.F.cmpKind_ne, PySem.F.cmpSplit_ne]
  refine wpAny_bind ?_
  simp only [isInstance]
  refine wpAny_bind (J.type.here ((PySem.W.looks_subIn X hsub).here ?_))
  simp only [Bool.not_true, Bool.false_eq_true, if_false]
  have ha := PySem.F.cmpArgs_ne (.ref x) (.ref y)
  have body := ne_body (P := P) (w := w) (A := A.in1) (y := y) X J hu heq hf (Q := fun fin s' => match fin with
      | .done f => (match (Except.ok f : Result) with | .ok (.ret v) => Q v s' | .ok _ => False | .error e => E e s')
      | .again c' => c'.quiet = true ∧ codeAny (model P w) A c' (fun r s' => match r with | .ok (.ret v) => Q v s' | .ok _ => False | .error e => E e s') s') h
  unfold argsOk at ha
  cases hsig : Manifest.signature? "object.__ne__" with
  | none => exact wpAny_pure body
  | some sig =>
    rw [hsig] at ha
    exact wpAny_of_eq ha body
theorem ne_ins (X : K.In s.heap) (J : PySem.W.InstAt s.heap x ox C od) (J' : PySem.W.InstAt s.heap y oy C od') (hu : A.units + 1 < cLine) (hne : PySem.W.findIn K (.ref C) "__ne__" = some (some (.builtin "object.__ne__"))) (heq : PySem.W.findIn K (.ref C) "__eq__" = some (some (.ref f)))
    (hf : PySem.W.isFn K (.ref f) = true) (hsub : PySem.W.subIn K (.ref C) (.type "object") = some true) {Q : Value → Shared → Prop}
    (h : wpAny (model P w) A.in1 (call (.ref f) [.ref x, .ref y]) (fun v s' => ∃ b, v = .bool b ∧ Q (.bool (!b)) s') E s) : wpAny (model P w) A (compareOp .NotEq (.ref x) (.ref y)) Q E s := by
  show wpAny (model P w) A (richCompare .NotEq (.ref x) (.ref y)) Q E s
  unfold richCompare
  simp only [oneThing_ref]
  refine wpAny_holding (wpAny_bind (wpAny_cRoomFor (Nat.lt_of_succ_lt hu) ?_))
  refine wpAny_bind (J.type.here (wpAny_bind (J'.type.here ?_)))
  have e0 : (Value.ref C != Value.ref C) = false := by simp
  rw [e0]
  simp only [Bool.false_eq_true, if_false]
  refine wpAny_bind (wpAny_pure ?_)
  simp only [Bool.false_eq_true, if_false]
  refine wpAny_bind ?_
  unfold tryCompare
  refine wpAny_bind ?_
  show wpAny _ _ (callSpecialIfBound? (.ref x) (Str.ofString "__ne__") [.ref y]) _ _ s
  simp only [callSpecialIfBound?, bindSpecialIfBound?]
  refine wpAny_holding (wpAny_bind (wpAny_bind (wpAny_bind (J.type.here ((PySem.W.looks_findIn X hne).here ?_)))))
  refine wpAny_bind (wpAny_askSetting (wpAny_ite ?_))
  have one : wpAny (model P w) A (call (.builtin "object.__ne__") ([.ref x] ++ [.ref y])) (fun v s' => ∃ b, v = .bool b ∧ Q (.bool b) s') E s := call_ne X J hu heq hf hsub (wpAny_mono h (fun v s' hv => by
    obtain ⟨b, rfl, hq⟩ := hv
    exact ⟨b, rfl, _, rfl, hq⟩) fun _ _ e => e)
  have b1 := ne_bind (.ref x)
  split
  · refine wpAny_bind (wpAny_of_eq b1 (wpAny_pure ?_))
    refine wpAny_bind (wpAny_mono one (fun v s' hv => ?_) fun _ _ e => e)
    obtain ⟨b, rfl, hq⟩ := hv
    exact wpAny_pure (wpAny_pure (wpAny_pure hq))
  · refine wpAny_tryCatch (wpAny_bind (wpAny_of_eq b1 (wpAny_pure ?_)))
    refine wpAny_bind (wpAny_mono one (fun v s' hv => ?_) fun _ _ e => e)
    obtain ⟨b, rfl, hq⟩ := hv
    exact wpAny_pure (wpAny_pure (wpAny_pure hq))
end
end PD
end
section
set_option Elab.async false
set_option linter.all false
set_option maxRecDepth 100000
/-! PD30: != of instances over data. -/
namespace PD
open PySem PySem.Spec PyProof.Rows L2
structure NeOk (T : Tab) (P : Program) (w : World) (mg : Str → Option Value) (base : Heap) (k : Nat) (g : List D → Option D) : Prop where
  ex : ∃ (f : Addr) (fd : FuncData) (ps : List Str), FnOk P w T.K mg base CX0 k f fd ps (spD T 2 g) ∧ PySem.W.findIn T.K (.ref T.C) "__ne__" = some (some (.builtin "object.__ne__")) ∧ PySem.W.findIn T.K (.ref T.C) "__eq__" = some (some (.ref f)) ∧ PySem.W.isFn T.K (.ref f) = true ∧
    PySem.W.subIn T.K (.ref T.C) (.type "object") = some true ∧ Binds T.K fd ps []
def rNeI (T : Tab) (g : List D → Option D) : R2 := fun x y H Q => ∃ a b dx dy fs gs, x = .ref a ∧ y = .ref b ∧ H a = some (.ins T.C dx fs) ∧ H b = some (.ins T.C dy gs) ∧ spD T 2 g [.ref a, .ref b] H (fun v H' => ∃ k, v = .bl k ∧ Q (.bl (!k)) H') E0
section
variable {T : Tab} {X : Cx} {k : Nat} {g : List D → Option D}
theorem op_neI (hT : T.K = X.K) (N : NeOk T X.prog X.w X.mg X.base k g) (hr : Room (k + 1) X.A) : OpR X (compareOp .NotEq) (rNeI T g) := by
  intro pins s σ H x y v u Q I rx ry h
  obtain ⟨a, b, dx, dy, fs, gs, rfl, rfl, ha, hb, hsp⟩ := h
  obtain ⟨f, fd, ps, F, n1, n2, n3, n4, hbd⟩ := N.ex
  rw [hT] at F n1 n2 n3 n4 hbd
  cases rx
  cases ry
  obtain ⟨mA, J, _⟩ := ins_get I.hok ha
  obtain ⟨mB, J', _⟩ := ins_get I.hok hb
  obtain ⟨od, J, _⟩ := J.look
  obtain ⟨od', J', _⟩ := J'.look
  refine ne_ins I.kIn J J' (by have := hr.un; omega) n1 n2 n3 n4 ?_
  have e0 : Env0 X.prog X.w X.K X.mg X.base X.A.in1 X.stack s H := by
    have e := I.env0
    exact ⟨e.frames, e.mod, e.bs, e.bsz, e.funs, e.frf, e.hok, e.bare⟩
  have hl := F.len _ _ _ _ hsp
  have r2 : Vals [V.ref a, V.ref b] [Value.ref a, Value.ref b] := .cons rfl (.cons rfl .nil)
  refine wpAny_call (codeAny_mono (F.run X.A.in1 X.stack s H ⟨[.ref a, .ref b], []⟩ [.ref a, .ref b] [.ref a, .ref b] _ E0 hr.in1 e0 (by
    have := hbd s [.ref a, .ref b] I.kIn (by simpa using hl)
    simpa using this) r2 hsp) fun r s' hq => ?_)
  cases r with
  | error e => exact pass0 pins σ H s e s' I hq
  | ok fl =>
    cases fl with
    | ret w =>
      obtain ⟨z, H', I', rz, kk, ez, q⟩ := I.after hq
      subst ez
      cases rz
      exact ⟨kk, rfl, .bl (!kk), H', I', rfl, q⟩
    | next => exact False.elim hq
    | brk => exact False.elim hq
    | cont => exact False.elim hq
def fNeI (g : List D → Option D) (x y : D) : Option Bool := match isIns x with
  | true => (match isIns y with
    | true => (match g [x, y] with
      | some (.bl b) => some (!b)
      | _ => none)
    | false => none)
  | false => none
theorem td_neI {a b : Expr} {da db : DE} {pos : Pos} (N : NeOk T X.prog X.w X.mg X.base k g) (hr : Room (k + 1) X.A) (ha : ED T X a da) (hb : ED T X b db) : TD T X (.Compare a [.NotEq] [b] pos) (t2 (fNeI g) da db) := fun hT =>
  ptImp (pt_cmpR (op_neI hT N hr) (ha hT) (hb hT) (nomark _)) fun σ H Q h => by
    obtain ⟨B, ρ, d, F, e, s, er, q⟩ := h
    unfold t2 at e
    cases hx : da ρ with
    | none => rw [hx] at e; cases e
    | some x =>
      rw [hx] at e
      cases hy : db ρ with
      | none => rw [hy] at e; cases e
      | some y =>
        rw [hy] at e
        have e : fNeI g x y = some d := e
        refine ⟨B, ρ, x, F, hx, s, er, fun v H1 F1 g1 r1 => ⟨B, ρ, y, F1, hy, g1.sub, er.grow g1, fun u H2 F2 g2 r2 => ?_⟩⟩
        unfold fNeI at e
        cases r1 with
        | @ins a1 dx vs ds h1 l1 rr1 =>
          cases r2 with
          | @ins a2 dy us es h2 l2 rr2 =>
            simp only [isIns] at e
            split at e
            · rename_i k' hk
              cases e
              refine ⟨a1, a2, dx, dy, _, _, rfl, rfl, g2.sub _ _ (g2.frz _ _ h1), g2.sub _ _ h2, F2, [.ins ds, .ins es], .bl k', rfl, g2.sub, .cons (.ins (g2.frz _ _ h1) l1 (rr1.mono g2.frz)) (.cons (.ins h2 l2 rr2) .nil), hk, fun v H' F' g' r' => ?_⟩
              cases r'
              exact ⟨k', rfl, ⟨!k', rfl, q H' F' (g1.trans (g2.trans g'))⟩⟩
            · cases e
          | _ => simp only [isIns] at e; cases e
        | _ => simp only [isIns] at e; cases e
end
end PD
namespace PD
open PySem PySem.Spec PyProof.Rows L2
def fIsIns : D → Option Bool
  | .ins _ => some true
  | _ => none
section
variable {T : Tab} {X : Cx} {a : Expr} {da : DE} {pos p p2 : Pos} {x : Str}
theorem ed_isIns (hI : C8.InsC T.K T.C) (hm : X.mg "isinstance" = none) (hm2 : X.mg x = some (.ref T.C)) (ha : ED T X a da) (hg : Gl X "isinstance" := by exact rfl) (hg2 : Gl X x := by exact rfl) (hdb : (x == ("__debug__" : Str)) = false := by decide)
    (he : starEach [a, .Name x p2] X.env = (false, eval a X.env) :: starEach [.Name x p2] X.env := by rfl) (he2 : starEach [.Name x p2] X.env = (false, eval (.Name x p2) X.env) :: starEach [] X.env := by rfl) (hpl : (backTo pos (starEach [.Name x p2] X.env)).any (·.1) = false := by rfl) :
    ED T X (.Call (.Name "isinstance" p) [a, .Name x p2] [] pos) (dB (t1 fIsIns da)) := fun hT => by
  rw [hT] at hI
  refine peImp (pe_callB (C8.call_isC hI) hg hm (by decide +kernel) (pa_cons (ha hT) (pa_cons (pe_glob (v := .ref T.C) hg2 hm2 rfl hdb) pa_nil he2) he) (by decide) (by decide) he hpl) fun σ H Q h => ?_
  obtain ⟨B, ρ, d, F, e, s, er, q⟩ := h
  unfold dB t1 at e
  cases hx : da ρ with
  | none => rw [hx] at e; cases e
  | some y =>
    rw [hx] at e
    refine ⟨B, ρ, y, F, hx, s, er, fun v H1 F1 g1 r1 => ?_⟩
    cases r1 with
    | @ins a1 dx vs ds h1 l1 rr1 =>
      cases e
      exact ⟨a1, dx, _, rfl, g1.sub _ _ h1, q _ H1 F1 g1 (.bl true)⟩
    | _ => cases e
end
end PD
end
section
set_option Elab.async false
set_option linter.all false
set_option maxRecDepth 100000
/-! PD32: zip(a, b, strict=True) of two tuples: its turns. -/
namespace PD
open PySem PySem.Spec PyProof.Rows L2
/-- a strict zip: f0 the tuple that it has handed out, f: that this is known to be held -/
abbrev IsZipS (h : Heap) (z TI TO : Addr) (f0 : Value) (f : Bool) : Prop :=
  h.get? z = some { cls := .type "zip", dict := none, data := .fields #[f0, .bool f, .bool true, .ref TI, .ref TO], slots := #[] }
section
variable {P : Program} {w : World} {A : Around} {E : Value → Shared → Prop} {s : Shared}
theorem noe_item {it l : Addr} {i : Nat} {items : Array Value} {x : Value} {Q : Option Value → Shared → Prop} (hit : s.heap.IsTupleIter it l i) (hl : s.heap.IsTuple l items) (hx : items[i]? = some x)
    (h : ∀ h', h'.IsTupleIter it l (i + 1) → Heap.SameBut it s.heap h' → Q (some x) { s with heap := h' }) : wpAny (model P w) A (Builtin.SmallTypes.nextOrEnd (.ref it)) Q E s := by
  unfold Builtin.SmallTypes.nextOrEnd
  exact wpAny_bind (wpAny_attempt (RZ.nextOf_tuple_item hit hl hx fun h' a b => wpAny_pure (h h' a b)))
theorem noe_end {it l : Addr} {i : Nat} {items : Array Value} {Q : Option Value → Shared → Prop} (hh : A.handled = none) (hit : s.heap.IsTupleIter it l i) (hl : s.heap.IsTuple l items) (hx : items[i]? = none)
    (h : ∀ h', Heap.ExtBut it s.heap h' → Q none { s with heap := h' }) : wpAny (model P w) A (Builtin.SmallTypes.nextOrEnd (.ref it)) Q E s := by
  unfold Builtin.SmallTypes.nextOrEnd
  refine wpAny_bind (wpAny_attempt (RZ.nextOf_tuple_end hh hit hl hx fun h' e a b => ?_))
  obtain ⟨o, ho, hc⟩ := b
  refine wpAny_bind (wpAny_isInstance (T := "StopIteration") (b := true) ⟨o, ho, hc⟩ isSubtype_stop ?_)
  exact wpAny_pure (h h' a)
/-- the turn of a zip whose tuple is free -/
theorem zs_free {z TI TO i1 i2 l1 l2 : Addr} {k : Nat} {f : Bool} {xs ys : Array Value} {x y a b : Value} {Q : Value → Shared → Prop} (D : ZipApart z TI TO i1 i2 l1 l2)
    (hz : IsZipS s.heap z TI TO .none f) (hTI : IsPair s.heap TI (.ref i1) (.ref i2)) (hTO : IsPair s.heap TO a b)
    (h1 : s.heap.IsTupleIter i1 l1 k) (h2 : s.heap.IsTupleIter i2 l2 k) (hl1 : s.heap.IsTuple l1 xs) (hl2 : s.heap.IsTuple l2 ys) (hx : xs[k]? = some x) (hy : ys[k]? = some y)
    (hQ : ∀ h', IsZipS h' z TI TO (rawInt s.heap.objs.size) false → h'.IsTupleIter i1 l1 (k + 1) → h'.IsTupleIter i2 l2 (k + 1) → IsPair h' s.heap.objs.size x y → h'.objs.size = s.heap.objs.size + 1 →
      (∀ c o, c ≠ z → c ≠ TO → c ≠ i1 → c ≠ i2 → s.heap.get? c = some o → h'.get? c = some o) → Q (.ref s.heap.objs.size) { s with heap := h' }) :
    wpAny (model P w) A (Builtin.«zip.__next__» ⟨[.ref z], []⟩) (fun fin s' => ∃ v, fin = .done (.ret v) ∧ Q v s') E s := by
  show wpAny _ _ (field (.ref z) 2 >>= _) _ _ _
  refine wpAny_bind (wpAny_field hz rfl (x := .bool true) rfl ?_)
  show wpAny _ _ (field (.ref z) 3 >>= _) _ _ _
  refine wpAny_bind (wpAny_field hz rfl (x := .ref TI) rfl (wpAny_bind (wpAny_seqItems hTI rfl ?_)))
  show wpAny _ _ (Builtin.SmallTypes.ownedTupleIsFree (.ref z) >>= _) _ _ _
  refine wpAny_bind ?_
  unfold Builtin.SmallTypes.ownedTupleIsFree
  refine wpAny_bind (wpAny_field hz rfl (x := .none) rfl (wpAny_pure ?_))
  simp only [if_true]
  refine wpAny_bind (wpAny_rule (wpAny_bind (wpAny_field hz rfl (x := .ref TO) rfl ?_)))
  refine wpAny_bind (wpAny_setField_rec hz (by simp) fun g1 z1 s1 => ?_)
  have z1 : IsZipS g1 z TI TO .ellipsis f := z1
  refine wpAny_bind ?_
  simp only [List.zipIdx_cons, List.zipIdx_nil, List.forIn_cons, List.forIn_nil]
  refine wpAny_bind (wpAny_bind (wpAny_onRaise ?_))
  have k1 : ∀ c o, c ≠ z → s.heap.get? c = some o → g1.get? c = some o := fun c o c1 e => (s1.2 c c1).trans e
  show wpAny _ _ (Builtin.SmallTypes.nextOrEnd (.ref i1)) _ _ _
  refine noe_item (s := { s with heap := g1 }) (h1.at fun o e => k1 _ o D.i1z e) (hl1.at fun o e => k1 _ o D.l1z e) hx fun g2 a2 s2 => ?_
  have k2 : ∀ c o, c ≠ z → c ≠ i1 → s.heap.get? c = some o → g2.get? c = some o := fun c o c1 c2 e => (s2.2 c c2).trans (k1 c o c1 e)
  have t2 : IsPair g2 TO a b := k2 _ _ D.TOz D.TOi1 hTO
  refine wpAny_bind (wpAny_seqItems t2 rfl (wpAny_bind (wpAny_updateSeq_pair (s := { s with heap := g2 }) t2 fun g3 t3 s3 => ?_)))
  have t3 : IsPair g3 TO x b := t3
  have k3 : ∀ c o, c ≠ z → c ≠ i1 → c ≠ TO → s.heap.get? c = some o → g3.get? c = some o := fun c o c1 c2 c3 e => (s3.2 c c3).trans (k2 c o c1 c2 e)
  refine wpAny_bind (wpAny_letGo (wpAny_pure ?_))
  refine wpAny_bind (wpAny_bind (wpAny_onRaise ?_))
  show wpAny _ _ (Builtin.SmallTypes.nextOrEnd (.ref i2)) _ _ _
  refine noe_item (s := { s with heap := g3 }) (h2.at fun o e => k3 _ o D.i2z D.i12.symm D.TOi2.symm e) (hl2.at fun o e => k3 _ o D.l2z D.l2i1 D.l2TO e) hy fun g4 a4 s4 => ?_
  have t4 : IsPair g4 TO x b := (s4.2 _ D.TOi2).trans t3
  refine wpAny_bind (wpAny_seqItems t4 rfl (wpAny_bind (wpAny_updateSeq_pair (s := { s with heap := g4 }) t4 fun g5 t5 s5 => ?_)))
  have t5 : IsPair g5 TO x y := t5
  have k5 : ∀ c o, c ≠ z → c ≠ TO → c ≠ i1 → c ≠ i2 → s.heap.get? c = some o → g5.get? c = some o := fun c o c1 c2 c3 c4 e => (s5.2 c c2).trans ((s4.2 c c4).trans (k3 c o c1 c3 c2 e))
  refine wpAny_bind (wpAny_letGo (wpAny_pure (wpAny_pure ?_)))
  refine wpAny_bind (wpAny_seqItems t5 rfl (wpAny_bind (wpAny_newTuple ?_)))
  have sz : g5.objs.size = s.heap.objs.size := by rw [s5.1, s4.1, s3.1, s2.1, s1.1]
  have z5 : IsZipS g5 z TI TO .ellipsis f := (s5.2 _ D.TOz.symm).trans ((s4.2 _ D.i2z.symm).trans ((s3.2 _ D.TOz.symm).trans ((s2.2 _ D.i1z.symm).trans z1)))
  have b1 : g5.IsTupleIter i1 l1 (k + 1) := a2.at fun o e => (s5.2 _ D.TOi1.symm).trans ((s4.2 _ D.i12).trans ((s3.2 _ D.TOi1.symm).trans e))
  have b2 : g5.IsTupleIter i2 l2 (k + 1) := a4.at fun o e => (s5.2 _ D.TOi2.symm).trans e
  have zl : z < g5.objs.size := Heap.lt_size z5
  show wpAny _ _ (Builtin.SmallTypes.ownedTupleHandOut (.ref z) (.ref g5.objs.size) >>= _) _ _ _
  refine wpAny_bind ?_
  unfold Builtin.SmallTypes.ownedTupleHandOut
  have z6 : IsZipS (g5.push { cls := .type "tuple", data := .seq #[x, y] }) z TI TO .ellipsis f := Heap.get?_push_of_some _ z5
  refine wpAny_bind (wpAny_setField_rec z6 (by simp) fun g7 z7 s7 => ?_)
  have z7 : IsZipS g7 z TI TO (rawInt g5.objs.size) f := z7
  refine wpAny_setField_rec z7 (by simp) fun g8 z8 s8 => ?_
  have z8 : IsZipS g8 z TI TO (rawInt g5.objs.size) false := z8
  have up : ∀ c o, c ≠ z → g5.get? c = some o → g8.get? c = some o := fun c o c1 e => (s8.2 c c1).trans ((s7.2 c c1).trans (Heap.get?_push_of_some _ e))
  have t8 : IsPair g8 g5.objs.size x y := (s8.2 _ (Nat.ne_of_gt zl)).trans ((s7.2 _ (Nat.ne_of_gt zl)).trans (Heap.get?_push_size _ rfl))
  have n8 : g8.objs.size = g5.objs.size + 1 := by rw [s8.1, s7.1, Heap.size_push]
  rw [sz] at z8 t8 n8
  refine wpAny_pure ⟨_, rfl, ?_⟩
  show Q (.ref g5.objs.size) _
  rw [sz]
  exact hQ g8 z8 (b1.at fun o e => up _ o D.i1z e) (b2.at fun o e => up _ o D.i2z e) t8 n8 fun c o c1 c2 c3 c4 e => up c o c1 (k5 c o c1 c2 c3 c4 e)
/-- the zip's tuple is known to be held -/
theorem zs_isheld {z TI TO T : Addr} {f : Bool} {oT : Obj} {Q : Bool → Shared → Prop} (hz : IsZipS s.heap z TI TO (rawInt T) f) (hT : s.heap.get? T = some oT)
    (h : ∀ h', IsZipS h' z TI TO (rawInt T) true → Heap.SameBut z s.heap h' → Q false { s with heap := h' }) : wpAny (model P w) A (Builtin.SmallTypes.ownedTupleIsFree (.ref z)) Q E s := by
  unfold Builtin.SmallTypes.ownedTupleIsFree
  refine wpAny_bind (wpAny_field hz rfl (x := rawInt T) rfl ?_)
  show wpAny _ _ (loadIfAlive ((T : Int).toNat) >>= _) _ _ _
  rw [Int.toNat_natCast]
  refine wpAny_bind (PySem.W.kdx_alive hT ?_)
  simp only [Option.isNone_some, Bool.false_eq_true, if_false]
  refine wpAny_bind (wpAny_field hz rfl (x := .bool f) rfl ?_)
  cases f with
  | true =>
    rw [if_neg (by decide)]
    exact wpAny_pure (h s.heap hz (Heap.SameBut.refl _ _))
  | false =>
    rw [if_pos (by decide)]
    exact wpAny_bind (wpAny_setField_rec hz (by simp) fun g1 z1 s1 => wpAny_pure (h g1 z1 s1))
/-- the turn of a zip whose tuple is out -/
theorem zs_held {z TI TO T i1 i2 l1 l2 : Addr} {k : Nat} {f : Bool} {oT : Obj} {xs ys : Array Value} {x y : Value} {Q : Value → Shared → Prop} (D : ZipApart z TI TO i1 i2 l1 l2)
    (hz : IsZipS s.heap z TI TO (rawInt T) f) (hT : s.heap.get? T = some oT) (hTI : IsPair s.heap TI (.ref i1) (.ref i2))
    (h1 : s.heap.IsTupleIter i1 l1 k) (h2 : s.heap.IsTupleIter i2 l2 k) (hl1 : s.heap.IsTuple l1 xs) (hl2 : s.heap.IsTuple l2 ys) (hx : xs[k]? = some x) (hy : ys[k]? = some y)
    (hQ : ∀ h', IsZipS h' z TI TO (rawInt T) true → h'.IsTupleIter i1 l1 (k + 1) → h'.IsTupleIter i2 l2 (k + 1) → IsPair h' s.heap.objs.size x y → h'.objs.size = s.heap.objs.size + 1 →
      (∀ c o, c ≠ z → c ≠ i1 → c ≠ i2 → s.heap.get? c = some o → h'.get? c = some o) → Q (.ref s.heap.objs.size) { s with heap := h' }) :
    wpAny (model P w) A (Builtin.«zip.__next__» ⟨[.ref z], []⟩) (fun fin s' => ∃ v, fin = .done (.ret v) ∧ Q v s') E s := by
  show wpAny _ _ (field (.ref z) 2 >>= _) _ _ _
  refine wpAny_bind (wpAny_field hz rfl (x := .bool true) rfl ?_)
  show wpAny _ _ (field (.ref z) 3 >>= _) _ _ _
  refine wpAny_bind (wpAny_field hz rfl (x := .ref TI) rfl (wpAny_bind (wpAny_seqItems hTI rfl ?_)))
  show wpAny _ _ (Builtin.SmallTypes.ownedTupleIsFree (.ref z) >>= _) _ _ _
  refine wpAny_bind (zs_isheld hz hT fun g1 z1 s1 => ?_)
  have k1 : ∀ c o, c ≠ z → s.heap.get? c = some o → g1.get? c = some o := fun c o c1 e => (s1.2 c c1).trans e
  simp only [Bool.false_eq_true, if_false]
  refine wpAny_bind ?_
  rw [← Array.forIn_toList]
  simp only [List.forIn_cons, List.forIn_nil]
  refine wpAny_bind (wpAny_bind (wpAny_holding ?_))
  show wpAny _ _ (Builtin.SmallTypes.nextOrEnd (.ref i1)) _ _ _
  refine noe_item (s := { s with heap := g1 }) (h1.at fun o e => k1 _ o D.i1z e) (hl1.at fun o e => k1 _ o D.l1z e) hx fun g2 a2 s2 => wpAny_pure ?_
  have k2 : ∀ c o, c ≠ z → c ≠ i1 → s.heap.get? c = some o → g2.get? c = some o := fun c o c1 c2 e => (s2.2 c c2).trans (k1 c o c1 e)
  refine wpAny_bind (wpAny_bind (wpAny_holding ?_))
  show wpAny _ _ (Builtin.SmallTypes.nextOrEnd (.ref i2)) _ _ _
  refine noe_item (s := { s with heap := g2 }) (h2.at fun o e => k2 _ o D.i2z D.i12.symm e) (hl2.at fun o e => k2 _ o D.l2z D.l2i1 e) hy fun g3 a3 s3 => wpAny_pure (wpAny_pure ?_)
  have k3 : ∀ c o, c ≠ z → c ≠ i1 → c ≠ i2 → s.heap.get? c = some o → g3.get? c = some o := fun c o c1 c2 c3 e => (s3.2 c c3).trans (k2 c o c1 c2 e)
  show wpAny _ _ (newTuple [x, y] >>= _) _ _ _
  refine wpAny_bind (wpAny_newTuple ?_)
  have sz : g3.objs.size = s.heap.objs.size := by rw [s3.1, s2.1, s1.1]
  have z3 : IsZipS g3 z TI TO (rawInt T) true := (s3.2 _ D.i2z.symm).trans ((s2.2 _ D.i1z.symm).trans z1)
  have b1 : g3.IsTupleIter i1 l1 (k + 1) := a2.at fun o e => (s3.2 _ D.i12).trans e
  refine wpAny_pure ⟨_, rfl, ?_⟩
  show Q (.ref g3.objs.size) _
  have hp : IsPair (g3.push { cls := .type "tuple", data := .seq #[x, y] }) g3.objs.size x y := Heap.get?_push_size _ rfl
  have n4 : (g3.push { cls := .type "tuple", data := .seq #[x, y] }).objs.size = g3.objs.size + 1 := Heap.size_push ..
  rw [sz] at hp n4 ⊢
  exact hQ _ (Heap.get?_push_of_some _ z3) (b1.at fun o e => Heap.get?_push_of_some _ e) (a3.at fun o e => Heap.get?_push_of_some _ e) hp n4 fun c o c1 c2 c3 e => Heap.get?_push_of_some _ (k3 c o c1 c2 c3 e)
/-- both are at their ends -/
theorem zs_end {z TI TO T i1 i2 l1 l2 : Addr} {k : Nat} {f : Bool} {oT : Obj} {xs ys : Array Value} {Q : PySem.Fin → Shared → Prop} (hh : A.handled = none) (D : ZipApart z TI TO i1 i2 l1 l2)
    (hz : IsZipS s.heap z TI TO (rawInt T) f) (hT : s.heap.get? T = some oT) (hTI : IsPair s.heap TI (.ref i1) (.ref i2))
    (h1 : s.heap.IsTupleIter i1 l1 k) (h2 : s.heap.IsTupleIter i2 l2 k) (hl1 : s.heap.IsTuple l1 xs) (hl2 : s.heap.IsTuple l2 ys) (hx : xs[k]? = none) (hy : ys[k]? = none)
    (hE : ∀ h' e, (∀ c o, c ≠ z → c ≠ i1 → c ≠ i2 → s.heap.get? c = some o → h'.get? c = some o) → (∃ o, h'.get? e = some o ∧ o.cls = .type "StopIteration") → E (.ref e) { s with heap := h' }) :
    wpAny (model P w) A (Builtin.«zip.__next__» ⟨[.ref z], []⟩) Q E s := by
  show wpAny _ _ (field (.ref z) 2 >>= _) _ _ _
  refine wpAny_bind (wpAny_field hz rfl (x := .bool true) rfl ?_)
  show wpAny _ _ (field (.ref z) 3 >>= _) _ _ _
  refine wpAny_bind (wpAny_field hz rfl (x := .ref TI) rfl (wpAny_bind (wpAny_seqItems hTI rfl ?_)))
  show wpAny _ _ (Builtin.SmallTypes.ownedTupleIsFree (.ref z) >>= _) _ _ _
  refine wpAny_bind (zs_isheld hz hT fun g1 z1 s1 => ?_)
  have k1 : ∀ c o, c ≠ z → s.heap.get? c = some o → g1.get? c = some o := fun c o c1 e => (s1.2 c c1).trans e
  simp only [Bool.false_eq_true, if_false]
  refine wpAny_bind ?_
  rw [← Array.forIn_toList]
  simp only [List.forIn_cons, List.forIn_nil]
  refine wpAny_bind (wpAny_bind (wpAny_holding ?_))
  show wpAny _ _ (Builtin.SmallTypes.nextOrEnd (.ref i1)) _ _ _
  refine noe_end (s := { s with heap := g1 }) hh (h1.at fun o e => k1 _ o D.i1z e) (hl1.at fun o e => k1 _ o D.l1z e) hx fun g2 e2 => ?_
  have k2 : ∀ c o, c ≠ z → c ≠ i1 → s.heap.get? c = some o → g2.get? c = some o := fun c o c1 c2 e => e2 c o c2 (k1 c o c1 e)
  refine wpAny_bind ?_
  show wpAny _ _ ((forIn [(Value.ref i2, 1)] PUnit.unit (fun (p : Value × Nat) (_ : PUnit) => _)) >>= _) _ _ _
  simp only [List.forIn_cons, List.forIn_nil]
  refine wpAny_bind (wpAny_bind (wpAny_bind (noe_end (s := { s with heap := g2 }) hh (h2.at fun o e => k2 _ o D.i2z D.i12.symm e) (hl2.at fun o e => k2 _ o D.l2z D.l2i1 e) hy fun g3 e3 => ?_)))
  have k3 : ∀ c o, c ≠ z → c ≠ i1 → c ≠ i2 → s.heap.get? c = some o → g3.get? c = some o := fun c o c1 c2 c3 e => e3 c o c3 (k2 c o c1 c2 e)
  refine wpAny_pure (wpAny_pure (wpAny_bind (wpAny_rule ?_)))
  show wpAny _ _ (newExc (.type "StopIteration") [] >>= _) _ _ _
  refine wpAny_bind ?_
  simp only [newExc, newTuple]
  refine wpAny_bind (wpAny_newObj_type ?_ (by size_fits))
  refine wpAny_bind (m := firstArgMember _ _) (wpAny_of_eq (a := Value.none) (by first | rfl | (simp only [firstArgMember]; rfl)) ?_)
  refine wpAny_newObj_type ?_ (by size_fits)
  simp only [raiseNew]
  refine wpAny_bind (wpAny_handled ?_)
  first | rw [show A.in1.handled = none from hh] | rw [hh]
  refine wpAny_bind (wpAny_pure (wpAny_throw ?_))
  exact hE _ _ (fun c o c1 c2 c3 e => Heap.get?_push_of_some _ (Heap.get?_push_of_some _ (k3 c o c1 c2 c3 e))) ⟨_, Heap.get?_push_size _ rfl, rfl⟩
/-! ### next of it -/
theorem nx_free {z TI TO i1 i2 l1 l2 : Addr} {k : Nat} {f : Bool} {xs ys : Array Value} {x y a b : Value} {Q : Option Value → Shared → Prop} (D : ZipApart z TI TO i1 i2 l1 l2)
    (hz : IsZipS s.heap z TI TO .none f) (hTI : IsPair s.heap TI (.ref i1) (.ref i2)) (hTO : IsPair s.heap TO a b)
    (h1 : s.heap.IsTupleIter i1 l1 k) (h2 : s.heap.IsTupleIter i2 l2 k) (hl1 : s.heap.IsTuple l1 xs) (hl2 : s.heap.IsTuple l2 ys) (hx : xs[k]? = some x) (hy : ys[k]? = some y)
    (hQ : ∀ h', IsZipS h' z TI TO (rawInt s.heap.objs.size) false → h'.IsTupleIter i1 l1 (k + 1) → h'.IsTupleIter i2 l2 (k + 1) → IsPair h' s.heap.objs.size x y → h'.objs.size = s.heap.objs.size + 1 →
      (∀ c o, c ≠ z → c ≠ TO → c ≠ i1 → c ≠ i2 → s.heap.get? c = some o → h'.get? c = some o) → Q (some (.ref s.heap.objs.size)) { s with heap := h' }) :
    wpAny (model P w) A (pyNext (.ref z)) Q E s := by
  have hT : s.TypeIs (.ref z) "zip" := ⟨_, hz, rfl⟩
  unfold pyNext
  exact wpAny_bind (wpAny_attempt (wpAny_callSpecial?_slot (name := Str.ofString "__next__") hT F.slot_zip_next
    (wpAny_call_entry F.slot_zip_next hT F.entry_zip_next
      (zs_free D hz hTI hTO h1 h2 hl1 hl2 hx hy fun h' a1 a2 a3 a4 a5 a6 => wpAny_pure (hQ h' a1 a2 a3 a4 a5 a6)) (F.args_zip_next_1 _))))
theorem nx_held {z TI TO T i1 i2 l1 l2 : Addr} {k : Nat} {f : Bool} {oT : Obj} {xs ys : Array Value} {x y : Value} {Q : Option Value → Shared → Prop} (D : ZipApart z TI TO i1 i2 l1 l2)
    (hz : IsZipS s.heap z TI TO (rawInt T) f) (hT : s.heap.get? T = some oT) (hTI : IsPair s.heap TI (.ref i1) (.ref i2))
    (h1 : s.heap.IsTupleIter i1 l1 k) (h2 : s.heap.IsTupleIter i2 l2 k) (hl1 : s.heap.IsTuple l1 xs) (hl2 : s.heap.IsTuple l2 ys) (hx : xs[k]? = some x) (hy : ys[k]? = some y)
    (hQ : ∀ h', IsZipS h' z TI TO (rawInt T) true → h'.IsTupleIter i1 l1 (k + 1) → h'.IsTupleIter i2 l2 (k + 1) → IsPair h' s.heap.objs.size x y → h'.objs.size = s.heap.objs.size + 1 →
      (∀ c o, c ≠ z → c ≠ i1 → c ≠ i2 → s.heap.get? c = some o → h'.get? c = some o) → Q (some (.ref s.heap.objs.size)) { s with heap := h' }) :
    wpAny (model P w) A (pyNext (.ref z)) Q E s := by
  have hTy : s.TypeIs (.ref z) "zip" := ⟨_, hz, rfl⟩
  unfold pyNext
  exact wpAny_bind (wpAny_attempt (wpAny_callSpecial?_slot (name := Str.ofString "__next__") hTy F.slot_zip_next
    (wpAny_call_entry F.slot_zip_next hTy F.entry_zip_next
      (zs_held D hz hT hTI h1 h2 hl1 hl2 hx hy fun h' a1 a2 a3 a4 a5 a6 => wpAny_pure (hQ h' a1 a2 a3 a4 a5 a6)) (F.args_zip_next_1 _))))
theorem nx_end {z TI TO T i1 i2 l1 l2 : Addr} {k : Nat} {f : Bool} {oT : Obj} {xs ys : Array Value} {Q : Option Value → Shared → Prop} (hh : A.handled = none) (D : ZipApart z TI TO i1 i2 l1 l2)
    (hz : IsZipS s.heap z TI TO (rawInt T) f) (hT : s.heap.get? T = some oT) (hTI : IsPair s.heap TI (.ref i1) (.ref i2))
    (h1 : s.heap.IsTupleIter i1 l1 k) (h2 : s.heap.IsTupleIter i2 l2 k) (hl1 : s.heap.IsTuple l1 xs) (hl2 : s.heap.IsTuple l2 ys) (hx : xs[k]? = none) (hy : ys[k]? = none)
    (hQ : ∀ h', (∀ c o, c ≠ z → c ≠ i1 → c ≠ i2 → s.heap.get? c = some o → h'.get? c = some o) → Q none { s with heap := h' }) :
    wpAny (model P w) A (pyNext (.ref z)) Q E s := by
  have hTy : s.TypeIs (.ref z) "zip" := ⟨_, hz, rfl⟩
  unfold pyNext
  refine wpAny_bind (wpAny_attempt (wpAny_callSpecial?_slot (name := Str.ofString "__next__") hTy F.slot_zip_next
    (wpAny_call_entry F.slot_zip_next hTy F.entry_zip_next (zs_end hh D hz hT hTI h1 h2 hl1 hl2 hx hy fun h' e hk he => ?_) (F.args_zip_next_1 _))))
  obtain ⟨o, ho, hc⟩ := he
  refine wpAny_bind (wpAny_isInstance (T := "StopIteration") (b := true) ⟨o, ho, hc⟩ isSubtype_stop ?_)
  exact wpAny_pure (hQ _ hk)
end
end PD
end
section
set_option Elab.async false
set_option linter.all false
set_option maxRecDepth 100000
set_option maxHeartbeats 1000000
/-! PD33: tuple(zip(a, b, strict=True)) of two tuples: its making and its whole walk. -/
namespace PD
open PySem PySem.Spec PyProof.Rows L2
theorem typeCall_zip_strict (a b c : Value) : checkTypeCall "zip" ⟨[a, b], [(Str.ofString "strict", c)]⟩ = pure () := by kernel_rfl
theorem newCall_zip_strict (a b c : Value) : checkBuiltinCall "zip.__new__" ⟨[.type "zip", a, b], [(Str.ofString "strict", c)]⟩ = pure () := by kernel_rfl
theorem args_object_init_strict (obj a b c : Value) : argsOk "object.__init__" ⟨[obj, a, b], [(Str.ofString "strict", c)]⟩ := by unfold argsOk; kernel_rfl
abbrev zsH5 (h : Heap) (l1 l2 : Addr) : Heap := (RZ.zipTH4 h l1 l2).push { cls := .type "zip", data := .fields #[.none, .bool false, .bool true, .ref (RZ.zipTH2 h l1 l2).objs.size, .ref (RZ.zipTH3 h l1 l2).objs.size] }
theorem meets_zipS_new (l1 l2 : Addr) (xs ys : Array Value) :
    Meets (Builtin.«zip.__new__» ⟨[.type "zip", .ref l1, .ref l2], [(Str.ofString "strict", .bool true)]⟩) (fun _ R s => s.heap.IsTuple l1 xs ∧ s.heap.IsTuple l2 ys ∧
      R (.ok (.ret (.ref (RZ.zipTH4 s.heap l1 l2).objs.size))) { s with heap := zsH5 s.heap l1 l2 }) :=
  .of_wp fun prog w A R s h => by
    obtain ⟨hp, g, d, tk, os⟩ := s; obtain ⟨hl1, hl2, h⟩ := h
    have hsub := sub_zip
    have hL1 : Heap.IsTuple (Shared.heap ⟨hp, g, d, tk, os⟩) l1 xs := hl1
    have hL2 : Heap.IsTuple (Shared.heap ⟨hp.push { cls := .type "tuple_iterator", data := .fields #[.ref l1, .int 0 0] }, g, d, tk, os⟩) l2 ys := Heap.IsTuple.push hl2 _
    have e2 : (Str.ofString "strict" != ("strict" : Str)) = false := by decide +kernel
    wp_walk using wpAny_pyIter_tuple hL1, wpAny_pyIter_tuple hL2
    exact ⟨_, rfl, h⟩
section
variable {P : Program} {w : World} {A : Around} {E : Value → Shared → Prop} {s : Shared}
theorem call_zipS {l1 l2 : Addr} {xs ys : Array Value} {Q : Value → Shared → Prop} (hl1 : s.heap.IsTuple l1 xs) (hl2 : s.heap.IsTuple l2 ys)
    (h : ∀ h', IsZipS h' (s.heap.objs.size + 4) (s.heap.objs.size + 2) (s.heap.objs.size + 3) .none false → IsPair h' (s.heap.objs.size + 2) (.ref s.heap.objs.size) (.ref (s.heap.objs.size + 1)) →
      IsPair h' (s.heap.objs.size + 3) .none .none → h'.IsTupleIter s.heap.objs.size l1 0 → h'.IsTupleIter (s.heap.objs.size + 1) l2 0 → h'.objs.size = s.heap.objs.size + 5 →
      (∀ c o, s.heap.get? c = some o → h'.get? c = some o) → Q (.ref (s.heap.objs.size + 4)) { s with heap := h' }) :
    wpAny (model P w) A (call (.type "zip") [.ref l1, .ref l2] [(Str.ofString "strict", .bool true)]) Q E s := by
  refine callType_newKw F.called_zip (by decide) (typeCall_zip_strict _ _ _) (newCall_zip_strict _ _ _) (fun obj => args_object_init_strict obj _ _ _) F.entry_zip_new
    (meets_zipS_new l1 l2 xs ys) ⟨hl1, hl2, ?_⟩
  have z1 : (RZ.zipTH1 s.heap l1).objs.size = s.heap.objs.size + 1 := Heap.size_push ..
  have z2 : (RZ.zipTH2 s.heap l1 l2).objs.size = s.heap.objs.size + 2 := by rw [Heap.size_push, z1]
  have z3 : (RZ.zipTH3 s.heap l1 l2).objs.size = s.heap.objs.size + 3 := by rw [Heap.size_push, z2]
  have z4 : (RZ.zipTH4 s.heap l1 l2).objs.size = s.heap.objs.size + 4 := by rw [Heap.size_push, z3]
  have z5 : (zsH5 s.heap l1 l2).objs.size = s.heap.objs.size + 5 := by rw [Heap.size_push, z4]
  have g5 : (zsH5 s.heap l1 l2).get? (RZ.zipTH4 s.heap l1 l2).objs.size = some _ := Heap.get?_push_size _ rfl
  have g4 : (zsH5 s.heap l1 l2).get? (RZ.zipTH3 s.heap l1 l2).objs.size = some _ := Heap.get?_push_of_some _ (Heap.get?_push_size _ rfl)
  have g3 : (zsH5 s.heap l1 l2).get? (RZ.zipTH2 s.heap l1 l2).objs.size = some _ := Heap.get?_push_of_some _ (Heap.get?_push_of_some _ (Heap.get?_push_size _ rfl))
  have g2 : (zsH5 s.heap l1 l2).get? (RZ.zipTH1 s.heap l1).objs.size = some _ := Heap.get?_push_of_some _ (Heap.get?_push_of_some _ (Heap.get?_push_of_some _ (Heap.get?_push_size _ rfl)))
  have g1 : (zsH5 s.heap l1 l2).get? s.heap.objs.size = some _ := Heap.get?_push_of_some _ (Heap.get?_push_of_some _ (Heap.get?_push_of_some _ (Heap.get?_push_of_some _ (Heap.get?_push_size _ rfl))))
  show _ ∧ _
  rw [z2, z3, z4] at g5
  rw [z1, z2] at g3
  rw [z3] at g4
  rw [z1] at g2
  rw [z4]
  exact ⟨⟨_, g5, rfl⟩, h _ g5 g3 g4 ⟨_, g1, rfl, rfl⟩ ⟨_, g2, rfl, rfl⟩ z5 fun c o x =>
    Heap.get?_push_of_some _ (Heap.get?_push_of_some _ (Heap.get?_push_of_some _ (Heap.get?_push_of_some _ (Heap.get?_push_of_some _ x))))⟩
/-! ### the walk -/
/-- the pairs that are laid so far, in new places that rise -/
structure Laid (n : Nat) (h : Heap) (acc : Array Value) (xs ys : Array Value) (i : Nat) (ps : List Addr) : Prop where
  acc : acc = (ps.map Value.ref).toArray
  len : ps.length = i
  low : ∀ p ∈ ps, n ≤ p
  at' : ∀ (j : Nat) (p : Addr), ps[j]? = some p → ∃ x y, xs[j]? = some x ∧ ys[j]? = some y ∧ IsPair h p x y
  nod : ps.Nodup
/-- the zip in its walk: i turns are done -/
structure ZW (n : Nat) (h : Heap) (z TI TO i1 i2 l1 l2 : Addr) (xs ys : Array Value) (i : Nat) (ps : List Addr) : Prop where
  it1 : h.IsTupleIter i1 l1 i
  it2 : h.IsTupleIter i2 l2 i
  ti : IsPair h TI (.ref i1) (.ref i2)
  free : ps = [] → (∃ f, IsZipS h z TI TO .none f) ∧ ∃ a b, IsPair h TO a b
  held : ps ≠ [] → ∃ (T : Addr) (f : Bool) (o : Obj), IsZipS h z TI TO (rawInt T) f ∧ h.get? T = some o ∧ T ∈ ps
theorem ne_up {a b n : Nat} (h : a < n) (k : n ≤ b) : b ≠ a := Nat.ne_of_gt (Nat.lt_of_lt_of_le h k)
/-- one turn, whichever it is -/
theorem nx_turn {n : Nat} {z TI TO i1 i2 l1 l2 : Addr} {i : Nat} {ps : List Addr} {xs ys : Array Value} {x y : Value} {acc : Array Value} {Q : Option Value → Shared → Prop} (D : ZipApart z TI TO i1 i2 l1 l2)
    (hb : z < n ∧ TO < n ∧ i1 < n ∧ i2 < n) (W : ZW n s.heap z TI TO i1 i2 l1 l2 xs ys i ps) (L : Laid n s.heap acc xs ys i ps)
    (hl1 : s.heap.IsTuple l1 xs) (hl2 : s.heap.IsTuple l2 ys) (hx : xs[i]? = some x) (hy : ys[i]? = some y) (hn : n ≤ s.heap.objs.size)
    (hQ : ∀ h', ZW n h' z TI TO i1 i2 l1 l2 xs ys (i + 1) (ps ++ [s.heap.objs.size]) → Laid n h' (acc.push (.ref s.heap.objs.size)) xs ys (i + 1) (ps ++ [s.heap.objs.size]) → h'.objs.size = s.heap.objs.size + 1 →
      (∀ c o, c ≠ z → c ≠ TO → c ≠ i1 → c ≠ i2 → s.heap.get? c = some o → h'.get? c = some o) → Q (some (.ref s.heap.objs.size)) { s with heap := h' }) :
    wpAny (model P w) A (pyNext (.ref z)) Q E s := by
  obtain ⟨b1, b2, b3, b4⟩ := hb
  have grown : ∀ h', h'.IsTupleIter i1 l1 (i + 1) → IsPair h' s.heap.objs.size x y → (∀ c o, c ≠ z → c ≠ TO → c ≠ i1 → c ≠ i2 → s.heap.get? c = some o → h'.get? c = some o) → Laid n h' (acc.push (.ref s.heap.objs.size)) xs ys (i + 1) (ps ++ [s.heap.objs.size]) := fun h' _ p k => {
    acc := by rw [L.acc]; simp
    len := by simp [L.len]
    low := fun q hq => by
      rcases List.mem_append.mp hq with hq | hq
      · exact L.low q hq
      · rw [List.mem_singleton.mp hq]; exact hn
    at' := fun j q hj => by
      by_cases hlt : j < ps.length
      · rw [List.getElem?_append_left hlt] at hj
        obtain ⟨x', y', e1, e2, e3⟩ := L.at' j q hj
        have hq := L.low q (List.mem_of_getElem? hj)
        exact ⟨x', y', e1, e2, k _ _ (ne_up b1 hq) (ne_up b2 hq) (ne_up b3 hq) (ne_up b4 hq) e3⟩
      · rw [List.getElem?_append_right (Nat.le_of_not_lt hlt)] at hj
        have hj0 : j - ps.length = 0 := by
          have := (List.getElem?_eq_some_iff.mp hj).1
          simp at this
          omega
        rw [hj0] at hj
        cases hj
        have : j = i := by have := L.len; omega
        subst this
        exact ⟨x, y, hx, hy, p⟩
    nod := List.nodup_append.mpr ⟨L.nod, List.nodup_cons.mpr ⟨List.not_mem_nil, List.nodup_nil⟩, fun a ha b hb e => by
      rw [List.mem_singleton.mp hb] at e
      subst e
      obtain ⟨j, hj⟩ := List.getElem?_of_mem ha
      obtain ⟨_, _, _, _, e3⟩ := L.at' j _ hj
      exact absurd (Heap.lt_size e3) (Nat.lt_irrefl _)⟩ }
  by_cases hps : ps = []
  · obtain ⟨⟨f, hz⟩, a, b, hTO⟩ := W.free hps
    refine nx_free D hz W.ti hTO W.it1 W.it2 hl1 hl2 hx hy fun h' a1 a2 a3 a4 a5 a6 => hQ h' ?_ (grown h' a2 a4 a6) a5 a6
    exact ⟨a2, a3, a6 _ _ D.TIz D.TITO D.TIi1 D.TIi2 W.ti, fun e => absurd e (by simp), fun _ => ⟨_, _, _, a1, a4, by simp⟩⟩
  · obtain ⟨T, f, o, hz, hT, hm⟩ := W.held hps
    refine nx_held D hz hT W.ti W.it1 W.it2 hl1 hl2 hx hy fun h' a1 a2 a3 a4 a5 a6 => hQ h' ?_ (grown h' a2 a4 fun c o c1 _ c3 c4 e => a6 c o c1 c3 c4 e) a5 fun c o c1 _ c3 c4 e => a6 c o c1 c3 c4 e
    have hTn := L.low T hm
    exact ⟨a2, a3, a6 _ _ D.TIz D.TIi1 D.TIi2 W.ti, fun e => absurd e (by simp), fun _ => ⟨T, _, o, a1, a6 _ _ (ne_up b1 hTn) (ne_up b3 hTn) (ne_up b4 hTn) hT, List.mem_append_left _ hm⟩⟩
theorem ZW.list {n : Nat} {h h' : Heap} {z TI TO i1 i2 l1 l2 S : Addr} {xs ys : Array Value} {i : Nat} {ps : List Addr} (W : ZW n h z TI TO i1 i2 l1 l2 xs ys i ps) (L : ∀ p ∈ ps, n ≤ p) (hS : S < n)
    (d : S ≠ z ∧ S ≠ TI ∧ S ≠ TO ∧ S ≠ i1 ∧ S ≠ i2) (k : ∀ c o, c ≠ S → h.get? c = some o → h'.get? c = some o) : ZW n h' z TI TO i1 i2 l1 l2 xs ys i ps :=
  ⟨W.it1.at fun o e => k _ o d.2.2.2.1.symm e, W.it2.at fun o e => k _ o d.2.2.2.2.symm e, k _ _ d.2.1.symm W.ti,
   fun e => let ⟨⟨f, a⟩, x, y, b⟩ := W.free e; ⟨⟨f, k _ _ d.1.symm a⟩, x, y, k _ _ d.2.2.1.symm b⟩,
   fun e => let ⟨T, f, o, a, b, m⟩ := W.held e; ⟨T, f, o, k _ _ d.1.symm a, k _ _ (ne_up hS (L _ m)) b, m⟩⟩
theorem Laid.list {n : Nat} {h h' : Heap} {S : Addr} {acc xs ys : Array Value} {i : Nat} {ps : List Addr} (L : Laid n h acc xs ys i ps) (hS : S < n) (k : ∀ c o, c ≠ S → h.get? c = some o → h'.get? c = some o) : Laid n h' acc xs ys i ps :=
  ⟨L.acc, L.len, L.low, fun j p hj => let ⟨x, y, e1, e2, e3⟩ := L.at' j p hj; ⟨x, y, e1, e2, k _ _ (ne_up hS (L.low _ (List.mem_of_getElem? hj))) e3⟩, L.nod⟩
theorem zs_loop {n : Nat} {z TI TO i1 i2 l1 l2 S : Addr} {xs ys : Array Value} {res : Value} {R : Result → Shared → Prop} (hh : A.handled = none) (D : ZipApart z TI TO i1 i2 l1 l2)
    (hb : z < n ∧ TO < n ∧ i1 < n ∧ i2 < n) (hS : S < n) (d : S ≠ z ∧ S ≠ TI ∧ S ≠ TO ∧ S ≠ i1 ∧ S ≠ i2) (dl : S ≠ l1 ∧ S ≠ l2) (he : ys.size = xs.size) (hsz : xs.size ≤ sizeLine) :
    ∀ (k i : Nat) (s : Shared) (acc : Array Value) (ps : List Addr) (c : Nat), xs.size - i = k → i ≤ xs.size → (i = xs.size → ps ≠ []) → ZW n s.heap z TI TO i1 i2 l1 l2 xs ys i ps → Laid n s.heap acc xs ys i ps → s.heap.IsTuple l1 xs → s.heap.IsTuple l2 ys →
      n ≤ s.heap.objs.size → s.heap.get? S = some { cls := .type "list", dict := none, data := .seq acc c, slots := #[] } →
    (∀ h' acc' ps' c', Laid n h' acc' xs ys xs.size ps' → h'.get? S = some { cls := .type "list", dict := none, data := .seq acc' c', slots := #[] } → n ≤ h'.objs.size →
      (∀ c o, c ≠ S → c ≠ z → c ≠ TO → c ≠ i1 → c ≠ i2 → s.heap.get? c = some o → h'.get? c = some o) → R (.ok (.ret res)) { s with heap := h' }) →
    codeAny (model P w) A (.builtin "list.extend.loop" ⟨[.ref S, .ref z, res], []⟩) R s := by
  intro k
  induction k with
  | zero =>
    intro i s acc ps c hk hi hne W L hl1 hl2 hn hSo hR
    have hin : i = xs.size := by omega
    subst hin
    obtain ⟨T, f, o, hz, hT, hm⟩ := W.held (hne rfl)
    refine codeAny_builtin F.entry_extend_loop ?_
    rw [Around.under_plainId F.plain_extend_loop _]
    show wpAny _ A.in1 (pyNext (.ref z) >>= _) _ _ s
    refine wpAny_bind (nx_end (A := A.in1) hh D hz hT W.ti W.it1 W.it2 hl1 hl2 (by simp) (by simp [he]) fun h' hk' => ?_)
    obtain ⟨b1, b2, b3, b4⟩ := hb
    have up : ∀ c o, n ≤ c → s.heap.get? c = some o → h'.get? c = some o := fun c o hc e => hk' c o (ne_up b1 hc) (ne_up b3 hc) (ne_up b4 hc) e
    refine wpAny_pure (hR h' acc ps c ⟨L.acc, L.len, L.low, fun j p hj => let ⟨x, y, e1, e2, e3⟩ := L.at' j p hj; ⟨x, y, e1, e2, up _ _ (L.low _ (List.mem_of_getElem? hj)) e3⟩, L.nod⟩ (hk' _ _ d.1 d.2.2.2.1 d.2.2.2.2 hSo) ?_ fun c o c1 c2 c3 c4 c5 e => hk' c o c2 c4 c5 e)
    exact Nat.le_of_lt (Nat.lt_of_le_of_lt (L.low T hm) (Heap.lt_size (up _ _ (L.low T hm) hT)))
  | succ k ih =>
    intro i s acc ps c hk hi hne W L hl1 hl2 hn hSo hR
    have hlt : i < xs.size := by omega
    have hx : xs[i]? = some xs[i] := Array.getElem?_eq_getElem hlt
    have hlt2 : i < ys.size := by omega
    have hy : ys[i]? = some ys[i] := Array.getElem?_eq_getElem hlt2
    refine codeAny_builtin F.entry_extend_loop ?_
    rw [Around.under_plainId F.plain_extend_loop _]
    show wpAny _ A.in1 (pyNext (.ref z) >>= _) _ _ s
    refine wpAny_bind (nx_turn (A := A.in1) D hb W L hl1 hl2 hx hy hn fun h' W' L' z' k' => ?_)
    have hS' : h'.get? S = some { cls := .type "list", dict := none, data := .seq acc c, slots := #[] } := k' _ _ d.1 d.2.2.1 d.2.2.2.1 d.2.2.2.2 hSo
    have hal : acc.size = i := by rw [L.acc]; simp [L.len]
    show wpAny _ A.in1 (updateSeq S (·.push _) >>= _) _ _ _
    refine wpAny_bind ?_
    have k2 : ∀ c' o, c' ≠ S → h'.get? c' = some o → (h'.update S (Obj.mapSeq (·.push (Value.ref s.heap.objs.size)))).get? c' = some o := fun c' o hc e => (Heap.get?_update_other _ _ (Ne.symm hc)).trans e
    have k3 : ∀ c' o, c' ≠ S → c' ≠ z → c' ≠ TO → c' ≠ i1 → c' ≠ i2 → s.heap.get? c' = some o → (h'.update S (Obj.mapSeq (·.push (Value.ref s.heap.objs.size)))).get? c' = some o := fun c' o c1 c2 c3 c4 c5 e => k2 c' o c1 (k' c' o c2 c3 c4 c5 e)
    have un : (h'.update S (Obj.mapSeq (·.push (Value.ref s.heap.objs.size)))).objs.size = h'.objs.size := by simp [Heap.update]
    refine wpAny_updateSeq (s := { s with heap := h' }) hS' rfl (wpAny_pure ⟨plainId_quiet F.plain_extend_loop _, ih (i + 1) _ (acc.push (.ref s.heap.objs.size)) (ps ++ [s.heap.objs.size]) _ (by omega) hlt (fun _ => by simp) (W'.list L'.low hS d k2) (L'.list hS k2)
      (hl1.at fun o e => k3 _ o dl.1.symm D.l1z D.l1TO D.l1i1 D.l1i2 e) (hl2.at fun o e => k3 _ o dl.2.symm D.l2z D.l2TO D.l2i1 D.l2i2 e) ?_ (Heap.get?_update_self _ hS' rfl) fun h2 acc' ps' c' a1 a2 a3 a4 => hR h2 acc' ps' c' a1 a2 a3 fun c o c1 c2 c3 c4 c5 e => a4 c o c1 c2 c3 c4 c5 (k3 c o c1 c2 c3 c4 c5 e)⟩)
      (by rw [hal]; omega) (by show (acc.push _).size ≤ sizeLine + 1; rw [Array.size_push, hal]; omega)
    show n ≤ (h'.update S _).objs.size
    rw [un, z']
    omega
end
end PD
end
section
set_option Elab.async false
set_option linter.all false
set_option maxRecDepth 100000
set_option maxHeartbeats 1000000
namespace PD
open PySem PySem.Spec PyProof.Rows L2
theorem zip_no_len : typeLookup (.type "zip") "__len__" = pure none := am_miss_of_fast (by decide +kernel)
theorem zip_no_hint : typeLookup (.type "zip") "__length_hint__" = pure none := am_miss_of_fast (by decide +kernel)
section
variable {P : Program} {w : World} {A : Around} {E : Value → Shared → Prop} {s : Shared}
theorem iter_zipS {z TI TO : Addr} {f0 : Value} {f : Bool} {Q : Value → Shared → Prop} (hz : IsZipS s.heap z TI TO f0 f) (h : Q (.ref z) s) : wpAny (model P w) A (pyIter (.ref z)) Q E s := by
  have hT : s.TypeIs (.ref z) "zip" := ⟨_, hz, rfl⟩
  refine wpAny_pyIter_slot hT F.slot_zip_iter (wpAny_call_entry F.slot_zip_iter hT F.entry_zip_iter ?_ (F.args_zip_iter_1 _))
  show wpAny _ _ (ret (.ref z)) _ _ s
  exact wpAny_pure ⟨_, rfl, "zip", _, hT, F.slot_zip_next.lookup, h⟩
/-- the walk into a new list -/
theorem collect_zipS {z TI TO i1 i2 l1 l2 : Addr} {xs ys : Array Value} {Q : List Value → Shared → Prop} (hh : A.handled = none) (D : ZipApart z TI TO i1 i2 l1 l2)
    (hz : IsZipS s.heap z TI TO .none false) (hTI : IsPair s.heap TI (.ref i1) (.ref i2)) (hTO : IsPair s.heap TO .none .none) (h1 : s.heap.IsTupleIter i1 l1 0) (h2 : s.heap.IsTupleIter i2 l2 0)
    (hl1 : s.heap.IsTuple l1 xs) (hl2 : s.heap.IsTuple l2 ys) (he : ys.size = xs.size) (hne : xs.size ≠ 0) (hsz : xs.size ≤ sizeLine)
    (h : ∀ h' ps, Laid (s.heap.objs.size + 1) h' (ps.map Value.ref).toArray xs ys xs.size ps → (∀ c o, c ≠ z → c ≠ TO → c ≠ i1 → c ≠ i2 → s.heap.get? c = some o → h'.get? c = some o) → Q (ps.map Value.ref) { s with heap := h' }) :
    wpAny (model P w) A (collect (.ref z)) Q E s := by
  have zl := Heap.lt_size hz
  have TIl := Heap.lt_size hTI
  have TOl := Heap.lt_size hTO
  have i1l : i1 < s.heap.objs.size := by obtain ⟨_, e, _⟩ := h1; exact Heap.lt_size e
  have i2l : i2 < s.heap.objs.size := by obtain ⟨_, e, _⟩ := h2; exact Heap.lt_size e
  have l1l : l1 < s.heap.objs.size := by obtain ⟨_, e, _⟩ := hl1; exact Heap.lt_size e
  have l2l : l2 < s.heap.objs.size := by obtain ⟨_, e, _⟩ := hl2; exact Heap.lt_size e
  have hT : ∀ h' : Heap, h'.get? z = s.heap.get? z → Shared.TypeIs { s with heap := h' } (.ref z) "zip" := fun h' e => ⟨_, e.trans hz, rfl⟩
  unfold collect
  refine wpAny_bind (wpAny_runValue (codeAny_builtin F.entry_proto_collect ?_))
  rw [Around.under_plainId F.plain_proto_collect _]
  show wpAny _ A.in1 (newList [] >>= fun l => again (.builtin "list.__iadd__" ⟨[l, .ref z], []⟩)) _ _ s
  refine wpAny_bind (wpAny_newObj_type ?_)
  refine wpAny_pure ⟨plainId_quiet F.plain_list_iadd _, codeAny_builtin F.entry_list_iadd ?_⟩
  rw [Around.under_plainId F.plain_list_iadd _]
  have hz1 : IsZipS (s.heap.push { cls := .type "list", data := .seq ([] : List Value).toArray }) z TI TO .none false := Heap.get?_push_of_some _ hz
  have hT1 : Shared.TypeIs { s with heap := s.heap.push { cls := .type "list", data := .seq ([] : List Value).toArray } } (.ref z) "zip" := ⟨_, hz1, rfl⟩
  show wpAny _ A.in1 (Builtin.List.listExtendWith (.ref s.heap.objs.size) (.ref z) (.ref s.heap.objs.size)) _ _ _
  unfold Builtin.List.listExtendWith
  refine wpAny_bind (wpAny_typeOf hT1 ?_)
  have e1 : Builtin.List.listSameRef (.ref s.heap.objs.size) (.ref z) = false := by simp [Builtin.List.listSameRef, Nat.ne_of_gt zl]
  have e2 : (Value.type "zip" == Value.type "list") = false := by decide
  have e3 : (Value.type "zip" == Value.type "tuple") = false := by decide
  simp only [e1, e2, e3, Bool.or_false, Bool.false_eq_true, if_false]
  refine wpAny_bind (iter_zipS hz1 ?_)
  refine wpAny_bind (wpAny_holding ?_)
  unfold Builtin.List.listLengthHint
  refine wpAny_bind (wpAny_specialOf hT1 zip_no_len ?_)
  show wpAny _ A.in1 (specialOf (Value.ref z) (Str.ofString "__length_hint__") >>= _) _ _ _
  refine wpAny_bind (wpAny_specialOf hT1 zip_no_hint ?_)
  refine wpAny_pure ?_
  show wpAny _ A.in1 (rule "list.extend.makes-room" >>= fun _ => Builtin.List.listTouch (.ref s.heap.objs.size) >>= fun _ =>
    again (.builtin "list.extend.loop" ⟨[.ref s.heap.objs.size, .ref z, .ref s.heap.objs.size], []⟩)) _ _ _
  refine wpAny_bind (wpAny_rule ?_)
  have hS1 : (s.heap.push { cls := .type "list", data := .seq ([] : List Value).toArray }).get? s.heap.objs.size = some { cls := .type "list", data := .seq ([] : List Value).toArray } := Heap.get?_push_size _ rfl
  refine wpAny_bind ?_
  show wpAny _ A.in1 (updateSeq s.heap.objs.size (·.push .none) >>= fun _ => updateSeq s.heap.objs.size (·.pop)) _ _ _
  refine wpAny_bind (wpAny_updateSeq hS1 rfl ?_)
  have hS2 := Heap.get?_update_self (Obj.mapSeq (·.push Value.none)) hS1 rfl
  refine wpAny_updateSeq hS2 rfl ?_
  have hS3 := Heap.get?_update_self (Obj.mapSeq (·.pop)) hS2 rfl
  have oth : ∀ b o, s.heap.get? b = some o → (((s.heap.push { cls := .type "list", data := .seq ([] : List Value).toArray }).update s.heap.objs.size (Obj.mapSeq (·.push Value.none))).update s.heap.objs.size (Obj.mapSeq (·.pop))).get? b = some o :=
    fun b o e => (Heap.get?_update_other _ _ (Nat.ne_of_gt (Heap.lt_size e))).trans ((Heap.get?_update_other _ _ (Nat.ne_of_gt (Heap.lt_size e))).trans (Heap.get?_push_of_some _ e))
  have sz : (((s.heap.push { cls := .type "list", data := .seq ([] : List Value).toArray }).update s.heap.objs.size (Obj.mapSeq (·.push Value.none))).update s.heap.objs.size (Obj.mapSeq (·.pop))).objs.size = s.heap.objs.size + 1 := by simp [Heap.update, Heap.size_push]
  generalize (((s.heap.push { cls := .type "list", data := .seq ([] : List Value).toArray }).update s.heap.objs.size (Obj.mapSeq (·.push Value.none))).update s.heap.objs.size (Obj.mapSeq (·.pop))) = hp3 at hS3 oth sz ⊢
  have hS4 : ∃ c, hp3.get? s.heap.objs.size = some { cls := .type "list", dict := none, data := .seq #[] c, slots := #[] } := ⟨_, hS3⟩
  obtain ⟨c, hS4⟩ := hS4
  clear hS3 hS2 hS1
  have W0 : ZW (s.heap.objs.size + 1) hp3 z TI TO i1 i2 l1 l2 xs ys 0 [] :=
    ⟨h1.at fun o e => oth _ o e, h2.at fun o e => oth _ o e, oth _ _ hTI, fun _ => ⟨⟨_, oth _ _ hz⟩, _, _, oth _ _ hTO⟩, fun e => absurd rfl e⟩
  have L0 : Laid (s.heap.objs.size + 1) hp3 #[] xs ys 0 [] := ⟨rfl, rfl, fun _ q => (nomatch q), fun j p q => by simp at q, List.nodup_nil⟩
  have up : ∀ {a : Nat}, a < s.heap.objs.size → a < s.heap.objs.size + 1 := fun h => Nat.lt_succ_of_lt h
  refine wpAny_pure ⟨plainId_quiet F.plain_extend_loop _, zs_loop (n := s.heap.objs.size + 1) (xs := xs) (ys := ys) (A := A) hh D ⟨up zl, up TOl, up i1l, up i2l⟩ (Nat.lt_succ_self _)
    ⟨Nat.ne_of_gt zl, Nat.ne_of_gt TIl, Nat.ne_of_gt TOl, Nat.ne_of_gt i1l, Nat.ne_of_gt i2l⟩ ⟨Nat.ne_of_gt l1l, Nat.ne_of_gt l2l⟩ he hsz xs.size 0 _ #[] [] c rfl (Nat.zero_le _) (fun e => absurd e.symm hne)
    W0 L0 (hl1.at fun o e => oth _ o e) (hl2.at fun o e => oth _ o e) (Nat.le_of_eq sz.symm) hS4 fun h' acc' ps' c' L hS' hn' k' => ?_⟩
  show wpAny _ A (load s.heap.objs.size >>= _) _ _ _
  refine wpAny_bind (wpAny_load hS' ?_)
  have ea := L.acc
  subst ea
  refine wpAny_pure ?_
  show Q (ps'.map Value.ref).toArray.toList _
  exact h h' ps' L fun c o c1 c2 c3 c4 e => k' c o (Nat.ne_of_lt (Heap.lt_size e)) c1 c2 c3 c4 (oth c o e)
theorem code_tuple_zipS {z TI TO i1 i2 l1 l2 : Addr} {xs ys : Array Value} {Q1 : Value → Shared → Prop} (hh : A.handled = none) (D : ZipApart z TI TO i1 i2 l1 l2)
    (hz : IsZipS s.heap z TI TO .none false) (hTI : IsPair s.heap TI (.ref i1) (.ref i2)) (hTO : IsPair s.heap TO .none .none) (h1 : s.heap.IsTupleIter i1 l1 0) (h2 : s.heap.IsTupleIter i2 l2 0)
    (hl1 : s.heap.IsTuple l1 xs) (hl2 : s.heap.IsTuple l2 ys) (he : ys.size = xs.size) (hne : xs.size ≠ 0) (hsz : xs.size ≤ sizeLine)
    (h : ∀ h' ps, Laid (s.heap.objs.size + 1) h' (ps.map Value.ref).toArray xs ys xs.size ps → (∀ c o, c ≠ z → c ≠ TO → c ≠ i1 → c ≠ i2 → s.heap.get? c = some o → h'.get? c = some o) →
      Q1 (.ref h'.objs.size) { s with heap := h'.push { cls := .type "tuple", data := .seq (ps.map Value.ref).toArray } }) :
    codeAny (model P w) A (.call (.builtin "tuple.__new__") ⟨[.type "tuple", .ref z], []⟩) (wants Q1 E) s := by
  refine codeAny_of_tree ?_
  show wpAny _ A.in1 (do checkBuiltinCall "tuple.__new__" ⟨[.type "tuple", .ref z], []⟩; again (.builtin "tuple.__new__" ⟨[.type "tuple", .ref z], []⟩)) _ _ s
  refine wpAny_bind (wpAny_of_eq (F.newCall_tuple_1 _) (wpAny_pure ⟨plainId_quiet F.plain_tuple_new _, codeAny_builtin F.entry_tuple_new ?_⟩))
  rw [Around.under_plainId F.plain_tuple_new _]
  have hsub := sub_tuple_self
  have hinit := init_tuple_lookup
  have hmh := madeHere_tuple
  have hT : s.TypeIs (.ref z) "zip" := ⟨_, hz, rfl⟩
  have hh1 : A.in1.handled = none := hh
  wp_walk using wpAny_typeOf hT, collect_zipS (A := A.in1) hh1 D hz hTI hTO h1 h2 hl1 hl2 he hne hsz
  intro h' ps L k
  show wpAny _ _ (Builtin.Tuple.tupleExact (ps.map Value.ref).toArray >>= fun v => ret v) _ _ _
  unfold Builtin.Tuple.tupleExact
  refine wpAny_bind (wpAny_newObj_type ?_ (by show (ps.map Value.ref).toArray.size ≤ sizeLine; simp [L.len, hsz]))
  exact wpAny_pure (h h' ps L k)
theorem call_tuple_zipS {z TI TO i1 i2 l1 l2 : Addr} {xs ys : Array Value} {Q : Value → Shared → Prop} (hh : A.handled = none) (D : ZipApart z TI TO i1 i2 l1 l2)
    (hz : IsZipS s.heap z TI TO .none false) (hTI : IsPair s.heap TI (.ref i1) (.ref i2)) (hTO : IsPair s.heap TO .none .none) (h1 : s.heap.IsTupleIter i1 l1 0) (h2 : s.heap.IsTupleIter i2 l2 0)
    (hl1 : s.heap.IsTuple l1 xs) (hl2 : s.heap.IsTuple l2 ys) (he : ys.size = xs.size) (hne : xs.size ≠ 0) (hsz : xs.size ≤ sizeLine)
    (hQ : ∀ h' ps, Laid (s.heap.objs.size + 1) h' (ps.map Value.ref).toArray xs ys xs.size ps → (∀ c o, c ≠ z → c ≠ TO → c ≠ i1 → c ≠ i2 → s.heap.get? c = some o → h'.get? c = some o) →
      Q (.ref h'.objs.size) { s with heap := h'.push { cls := .type "tuple", data := .seq (ps.map Value.ref).toArray } }) :
    wpAny (model P w) A (call (.type "tuple") [.ref z]) Q E s := by
  refine callType_codes (Q₁ := fun obj s₁ => s₁.TypeIs obj "tuple" ∧ Q obj s₁) F.called_tuple (F.typeCall_tuple_1 _) F.entry_object_init
    (code_tuple_zipS (A := A.in1) hh D hz hTI hTO h1 h2 hl1 hl2 he hne hsz fun h' ps L k => ⟨⟨_, Heap.get?_push_size _ rfl, rfl⟩, hQ h' ps L k⟩) fun obj s₁ h₁ => ?_
  exact ⟨h₁.1, F.args_object_init_2 obj _, object_init_meets F.called_tuple.init.lookup F.called_tuple.made (by decide) P w A.in1 _ s₁ ⟨h₁.1, rfl, h₁.2⟩⟩
end
end PD
end
section
set_option Elab.async false
set_option linter.all false
set_option maxRecDepth 100000
set_option maxHeartbeats 1000000
namespace PD
open PySem PySem.Spec PyProof.Rows L2
theorem ne_add {c n : Nat} (h : c < n) (k : Nat) : c ≠ n + k := Nat.ne_of_lt (Nat.lt_of_lt_of_le h (Nat.le_add_right _ _))
/-- tuples laid one by one -/
def layP : Hp → List (Addr × List V) → Hp
  | H, [] => H
  | H, p :: l => layP (upd H p.1 (.tup p.2)) l
structure LayOk (P : Program) (w : World) (n : Nat) (h' : Heap) (l : List (Addr × List V)) : Prop where
  low : ∀ p ∈ l, n ≤ p.1
  nod : (l.map (·.1)).Nodup
  ok : ∀ p ∈ l, p.2.length ≤ sizeLine ∧ ∃ its : List Value, Vals p.2 its ∧ IsTup h' p.1 its.toArray
theorem lay_un {P : Program} {w : World} {fs ex : List Addr} {H : Hp} {h h' : Heap} : ∀ {l : List (Addr × List V)} {H1 : Hp}, LayOk P w h.objs.size h' l → Un fs ex H H1 h h' → HOk P w H1 h' → (∀ p ∈ l, H1 p.1 = none) →
    Un fs ex H (layP H1 l) h h' ∧ HOk P w (layP H1 l) h'
  | [], _, _, u, k, _ => ⟨u, k⟩
  | p :: l, H1, L, u, k, n => by
    have hp := n p List.mem_cons_self
    have hl := L.low p List.mem_cons_self
    have nd := L.nod
    rw [List.map_cons, List.nodup_cons] at nd
    refine lay_un (H1 := upd H1 p.1 (.tup p.2)) ⟨fun q hq => L.low q (List.mem_cons_of_mem _ hq), nd.2, fun q hq => L.ok q (List.mem_cons_of_mem _ hq)⟩ ?_ ?_ fun q hq => ?_
    · exact ⟨u.keep, u.slot, fun b o e e2 e3 => by rw [upd_ne (Nat.ne_of_lt (Nat.lt_of_lt_of_le (Heap.lt_size e) hl))]; exact u.free b o e e2 e3, u.there,
        fun b xs e => by rw [upd_ne (ne_of_none (u.tups b xs e) hp)]; exact u.tups b xs e, fun b o v e => by rw [upd_ne (ne_of_none (u.frzs b o v e) hp)]; exact u.frzs b o v e,
        fun b ps e => let ⟨m, e2⟩ := u.tbls b ps e; ⟨m, by rw [upd_ne (ne_of_none e2 hp)]; exact e2⟩⟩
    · exact HOk.laidN k (fun _ _ e => e) hp (show ObjOk P w _ _ _ (.tup _) from L.ok p List.mem_cons_self)
    · rw [upd_ne (fun e => nd.1 (by rw [← e]; exact List.mem_map_of_mem hq))]
      exact n q (List.mem_cons_of_mem _ hq)
theorem lay_same : ∀ {l : List (Addr × List V)} {H : Hp}, (l.map (·.1)).Nodup → (∀ p ∈ l, H p.1 = none) → Same H (layP H l) ∧ ∀ p ∈ l, layP H l p.1 = some (.tup p.2)
  | [], H, _, _ => ⟨Same.refl _, fun _ z => (nomatch z)⟩
  | p :: l, H, nd, n => by
    rw [List.map_cons, List.nodup_cons] at nd
    have hp := n p List.mem_cons_self
    obtain ⟨a, b⟩ := lay_same (l := l) (H := upd H p.1 (.tup p.2)) nd.2 fun q hq => by
      rw [upd_ne (fun e => nd.1 (by rw [← e]; exact List.mem_map_of_mem hq))]
      exact n q (List.mem_cons_of_mem _ hq)
    refine ⟨(same_new hp).trans a, fun q hq => ?_⟩
    rcases List.mem_cons.mp hq with e | hq
    · subst e
      exact a _ _ upd_same
    · exact b q hq
theorem lay_gr {F0 H0 : Hp} : ∀ {l : List (Addr × List V)} {F H : Hp}, Gr F0 H0 F H → (l.map (·.1)).Nodup → (∀ p ∈ l, H p.1 = none) → Gr F0 H0 (layP F l) (layP H l)
  | [], _, _, g, _, _ => g
  | p :: l, F, H, g, nd, n => by
    rw [List.map_cons, List.nodup_cons] at nd
    refine lay_gr (l := l) (g.trans (Gr.new g.sub (n p List.mem_cons_self))) nd.2 fun q hq => ?_
    rw [upd_ne (fun e => nd.1 (by rw [← e]; exact List.mem_map_of_mem hq))]
    exact n q (List.mem_cons_of_mem _ hq)
theorem lay_none {q : Addr} : ∀ {l : List (Addr × List V)} {H : Hp}, H q = none → (∀ p ∈ l, p.1 ≠ q) → layP H l q = none
  | [], _, h, _ => h
  | p :: l, H, h, n => lay_none (l := l) (by rw [upd_ne (Ne.symm (n p List.mem_cons_self))]; exact h) fun r hr => n r (List.mem_cons_of_mem _ hr)
/-- the pairs at their places -/
def prs (ps : List Addr) (xs ys : List V) : List (Addr × List V) := ps.zip (List.zipWith (fun x y => [x, y]) xs ys)
theorem prs_keys {ps : List Addr} {xs ys : List V} (h1 : ps.length = xs.length) (h2 : xs.length = ys.length) : (prs ps xs ys).map (·.1) = ps := by
  unfold prs
  rw [List.map_fst_zip]
  rw [List.length_zipWith]
  omega
theorem prs_at {ps : List Addr} {xs ys : List V} {p : Addr × List V} (h : p ∈ prs ps xs ys) : ∃ (j : Nat) (x y : V), ps[j]? = some p.1 ∧ xs[j]? = some x ∧ ys[j]? = some y ∧ p.2 = [x, y] := by
  obtain ⟨j, hj⟩ := List.mem_iff_getElem?.mp h
  unfold prs at hj
  obtain ⟨a, b⟩ := List.getElem?_zip_eq_some.mp hj
  rw [List.getElem?_zipWith] at b
  cases hx : xs[j]? with
  | none => rw [hx] at b; cases b
  | some x =>
    cases hy : ys[j]? with
    | none => rw [hx, hy] at b; cases b
    | some y =>
      rw [hx, hy] at b
      have b' : some [x, y] = some p.2 := b
      exact ⟨j, x, y, a, hx, hy, (Option.some.inj b').symm⟩
theorem vals_at : ∀ {xs : List V} {us : List Value}, Vals xs us → ∀ {j : Nat} {x : V}, xs[j]? = some x → ∃ u, us[j]? = some u ∧ RelV x u
  | _, _, .nil, j, x, h => by simp at h
  | _, _, .cons r t, 0, x, h => by cases h; exact ⟨_, rfl, r⟩
  | _, _, .cons r t, j + 1, x, h => vals_at t (j := j) h
theorem vals_refs : ∀ (ps : List Addr), Vals (ps.map V.ref) (ps.map Value.ref)
  | [] => .nil
  | _ :: ps => .cons rfl (vals_refs ps)
section
variable {M : Model} {A : Around} {E : Value → Shared → Prop} {s : Shared} {env : Env}
theorem callWith_type_kw {pos : Pos} {T : String} {e : Expr} {rest : List Expr} {kws : List Keyword} {Q : Value → Shared → Prop}
    (h : wpAny M A (spliced (backTo pos (starEach (e :: rest) env))) (fun vs s₁ => wpAny M A (evalAll ((backToKw pos (keywordEach kws env)).map (·.2)))
      (fun kvs s₂ => wpAny M A (call (.type T) vs (((backToKw pos (keywordEach kws env)).filterMap (·.1)).zip kvs)) Q E s₂) E s₁) E s)
    (he : backTo pos (starEach (e :: rest) env) = (false, eval e env) :: backTo pos (starEach rest env))
    (hplain : (backTo pos (starEach (e :: rest) env)).any (·.1) = false)
    (hall : (backToKw pos (keywordEach kws env)).all (·.1.isSome) = true)
    (hkw : (backToKw pos (keywordEach kws env)).any (·.1.isNone) = false) :
    wpAny M A (callWith pos (.type T) [] (backTo pos (starEach (e :: rest) env)) (backToKw pos (keywordEach kws env))) Q E s := by
  have h' : wpAny M A (evalArgs (.type T) true (backTo pos (starEach (e :: rest) env)) (backToKw pos (keywordEach kws env))) (fun a s₁ => wpAny M A (call (.type T) ([] ++ a.pos) a.kw) Q E s₁) E s := by
    rw [he] at h ⊢
    exact evalArgs_kwB hall h
  unfold callWith
  refine wpAny_bind (wpAny_holding (wpAny_mono h' (fun a s₁ h₁ => wpAny_bind (wpAny_standAt ?_)) fun _ _ x => x))
  simp only [hplain, hkw, Bool.or_false]
  refine wpAny_bind (wpAny_pure ?_)
  exact wpAny_bind (wpAny_mono h₁ (fun r s₂ hr => wpAny_bind (wpAny_holding (wpAny_point (wpAny_pure hr)))) fun _ _ x => x)
end
section
variable {X : Cx} {e e2 : Expr} {ta : TA} {p p2 q pos kp kp2 : Pos} {j : Nat}
def tTupZ (K : PySem.W.Frag) (ta : TA) : TE := fun σ H Q => ta σ H fun vs H1 => ∃ (a b : Addr) (xs ys : List V), vs = [.ref a, .ref b] ∧ SqT K H1 a xs ∧ SqT K H1 b ys ∧ xs.length = ys.length ∧ xs.length ≠ 0 ∧ xs.length ≤ 1000 ∧
  ∀ (ps : List Addr) (r : Addr) (o : Obj), ps.length = xs.length → ps.Nodup → (∀ p ∈ ps, H1 p = none) → layP H1 (prs ps xs ys) r = none → o.cls = .type "tuple" → o.dict = none →
    Q (.ref r) (upd (layP H1 (prs ps xs ys)) r (.frz o (.tup (ps.map V.ref))))
theorem pe_tupZ (hc : X.calm = true) (hg : Gl X "tuple") (hm : X.mg "tuple" = none) (hg2 : Gl X "zip") (hm2 : X.mg "zip" = none) (ha : PA X [e, e2] ta)
    (hs : starEach [e, e2] X.env = (false, eval e X.env) :: starEach [e2] X.env) (hpl : (backTo q (starEach [e, e2] X.env)).any (·.1) = false)
    (hs2 : starEach [Expr.Call (.Name "zip" p2) [e, e2] [⟨some "strict", .Constant (.bool true) j kp, kp2⟩] q] X.env = (false, eval (.Call (.Name "zip" p2) [e, e2] [⟨some "strict", .Constant (.bool true) j kp, kp2⟩] q) X.env) :: starEach [] X.env) :
    PE X (.Call (.Name "tuple" p) [.Call (.Name "zip" p2) [e, e2] [⟨some "strict", .Constant (.bool true) j kp, kp2⟩] q] [] pos) (tTupZ X.K ta) := by
  constructor
  intro pins s σ H Q I h
  refine Call_ (ld_blt I hg hm (u := .type "tuple") (by decide +kernel) ?_)
  refine PyProof.Rows.callWith_type1 (PyProof.Rows.args_cons ?_ hs2) hs2 rfl
  refine wpAny_Call_Name_kw (ld_blt I hg2 hm2 (u := .type "zip") (by decide +kernel) (callWith_type_kw (thn (ha.run q pins s σ H _ I h) fun us s1 ⟨vs, H1, I1, r1, q1⟩ => ?_) (by rw [hs]; rfl) hpl rfl rfl))
  refine kws_cons (thn ((pe_bl (X := X)).run pins s1 σ H1 (fun v H2 => v = .bl true ∧ H2 = H1) I1 ⟨rfl, rfl⟩) fun bv s2 ⟨bw, H2, I2, rb, eb, eh⟩ => kws_nil ?_)
  subst eb eh
  cases rb
  clear I1
  obtain ⟨a, b, xs, ys, ex, hqx, hqy, hl, hne, h1000, qq⟩ := q1
  subst ex
  obtain ⟨u1, u2, rfl, ru1, ru2⟩ := (show ∃ u1 u2, us = [u1, u2] ∧ RelV (.ref a) u1 ∧ RelV (.ref b) u2 from by
    cases r1 with
    | cons r rr => cases rr with
      | cons r' rr => cases rr; exact ⟨_, _, rfl, r, r'⟩)
  cases ru1
  cases ru2
  obtain ⟨its, rv, p1, _⟩ := I2.tuple hqx
  obtain ⟨its2, rv2, p2', _⟩ := I2.tuple hqy
  have la : a < s2.heap.objs.size := p1.lt
  have lb : b < s2.heap.objs.size := p2'.lt
  have t1 : s2.heap.IsTuple a its.toArray := p1
  have t2 : s2.heap.IsTuple b its2.toArray := p2'
  have n1 : its.toArray.size = xs.length := by rw [List.size_toArray, ← rv.length]
  have n2 : its2.toArray.size = xs.length := by rw [List.size_toArray, ← rv2.length, hl]
  refine call_zipS t1 t2 fun h' hz hTI hTO i1 i2 hsz hk => PyProof.Rows.args_nil ?_
  have ap := PySem.W.ktu_apart s2.heap.objs.size a b la lb
  refine call_tuple_zipS (s := { s2 with heap := h' }) (I2.ok.hd hc) ap hz hTI hTO i1 i2 (t1.at fun o e => hk _ o e) (t2.at fun o e => hk _ o e) (by rw [n1, n2]) (by rw [n1]; exact hne) (by rw [n1, sizeLine_eq]; omega) fun h2 ps L k2 => ?_
  have old : ∀ c o, s2.heap.get? c = some o → h2.get? c = some o := fun c o e => by
    have lt := Heap.lt_size e
    exact k2 c o (ne_add lt 4) (ne_add lt 3) (Nat.ne_of_lt lt) (ne_add lt 1) (hk c o e)
  have lp : ps.length = xs.length := by rw [L.len, n1]
  have low : ∀ p ∈ ps, s2.heap.objs.size ≤ p := fun p hp => by
    have h5 := L.low p hp
    have h6 : s2.heap.objs.size + 5 + 1 ≤ p := by
      rw [← hsz]; exact h5
    omega
  have hi : ∀ p ∈ ps, p < h2.objs.size := fun p hp => by
    obtain ⟨j, hj⟩ := List.getElem?_of_mem hp
    obtain ⟨_, _, _, _, e3⟩ := L.at' j p hj
    exact Heap.lt_size e3
  have LO : LayOk X.prog X.w s2.heap.objs.size h2 (prs ps xs ys) := {
    low := fun r hr => by
      obtain ⟨j, x, y, e1, _, _, _⟩ := prs_at hr
      exact low _ (List.mem_of_getElem? e1)
    nod := by rw [prs_keys lp hl]; exact L.nod
    ok := fun r hr => by
      obtain ⟨j, x, y, e1, e2, e3, e4⟩ := prs_at hr
      obtain ⟨u, v, f1, f2, f3⟩ := L.at' j _ e1
      obtain ⟨u', g1, g2⟩ := vals_at rv e2
      obtain ⟨v', g3, g4⟩ := vals_at rv2 e3
      have f1' : its[j]? = some u := by simpa using f1
      have f2' : its2[j]? = some v := by simpa using f2
      rw [g1] at f1'
      rw [g3] at f2'
      cases f1'
      cases f2'
      rw [e4]
      exact ⟨by rw [sizeLine_eq]; show 2 ≤ _; omega, _, .cons g2 (.cons g4 .nil), ⟨_, f3, rfl, _, rfl⟩⟩ }
  have fr : ∀ p ∈ ps, H2 p = none := fun p hp => I2.hok.fresh (low p hp)
  have fr2 : ∀ r ∈ prs ps xs ys, H2 r.1 = none := fun r hr => by
    obtain ⟨j, x, y, e1, _, _, _⟩ := prs_at hr
    exact fr _ (List.mem_of_getElem? e1)
  obtain ⟨un, hok⟩ := lay_un (fs := X.fs) (ex := []) LO (Un.kept old) (I2.hok.kept old) fr2
  have I3 : Inv X pins σ (layP H2 (prs ps xs ys)) { s2 with heap := h2 } := I2.un (t' := s2.toks) un hok
  have e1 : (h2.push { cls := .type "tuple", data := .seq (ps.map Value.ref).toArray }).get? h2.objs.size = some { cls := .type "tuple", data := .seq (ps.map Value.ref).toArray } := Heap.get?_push_size _ rfl
  have I4 : Inv X pins σ (upd (layP H2 (prs ps xs ys)) h2.objs.size (.frz { cls := .type "tuple", data := .seq (ps.map Value.ref).toArray } (.tup (ps.map V.ref)))) { s2 with heap := h2.push { cls := .type "tuple", data := .seq (ps.map Value.ref).toArray } } :=
    I3.laid (t' := s2.toks) (fun b o e => Heap.get?_push_of_some _ e) (Nat.le_refl _) (show ObjOk X.prog X.w _ _ _ (.frz _ (.tup _)) from ⟨e1, by rw [List.length_map, lp, sizeLine_eq]; omega, _, vals_refs ps, IsTup.new _ _⟩)
  exact ⟨.ref h2.objs.size, _, I4, rfl, qq ps h2.objs.size _ lp L.nod fr (I3.hok.fresh (Nat.le_refl _)) rfl rfl⟩
end
end PD
end
section
set_option Elab.async false
set_option linter.all false
set_option maxRecDepth 100000
set_option maxHeartbeats 1000000
namespace PD
open PySem PySem.Spec PyProof.Rows L2
def zipD : List D → List D → List D
  | x :: xs, y :: ys => .tup [x, y] :: zipD xs ys
  | _, _ => []
/-- tuple(zip(a, b, strict=True)) of two tuples that aren't empty -/
def fZipT (x y : D) : Option D := match x with
  | .tup xs => (match y with
    | .tup ys => if xs.length = ys.length ∧ xs.length ≠ 0 ∧ xs.length ≤ 1000 then some (.wtp (zipD xs ys)) else none
    | _ => none)
  | _ => none
theorem zipD_rep {T : Tab} {G : Hp} : ∀ {xs ys : List D} {vs us : List V} {ps : List Addr}, Reps T G xs vs → Reps T G ys us → ps.length = vs.length → vs.length = us.length → (∀ p ∈ prs ps vs us, G p.1 = some (.tup p.2)) → Reps T G (zipD xs ys) (ps.map V.ref)
  | _, _, _, _, ps, .nil, .nil, h1, _, _ => by
    cases ps with
    | nil => exact .nil
    | cons => cases h1
  | _, _, _, _, ps, .cons a t, .cons b u, h1, h2, k => by
    cases ps with
    | nil => cases h1
    | cons p ps =>
      exact .cons (.tup (k _ (List.mem_cons_self)) (.cons a (.cons b .nil))) (zipD_rep t u (Nat.succ.inj h1) (Nat.succ.inj h2) fun q hq => k q (List.mem_cons_of_mem _ hq))
  | _, _, _, _, _, .nil, .cons _ _, _, h2, _ => by cases h2
  | _, _, _, _, _, .cons _ _, .nil, _, h2, _ => by cases h2
section
variable {T : Tab} {X : Cx} {a b : Expr} {da db : DE} {pos p p2 q kp kp2 : Pos} {j : Nat}
theorem ed_zipT (hm : X.mg "tuple" = none) (hm2 : X.mg "zip" = none) (ha : ED T X a da) (hb : ED T X b db) (hc : X.calm = true := by rfl) (hg : Gl X "tuple" := by exact rfl) (hg2 : Gl X "zip" := by exact rfl)
    (hs : starEach [a, b] X.env = (false, eval a X.env) :: starEach [b] X.env := by rfl) (hs1 : starEach [b] X.env = (false, eval b X.env) :: starEach [] X.env := by rfl) (hpl : (backTo q (starEach [a, b] X.env)).any (·.1) = false := by rfl)
    (hs2 : starEach [Expr.Call (.Name "zip" p2) [a, b] [⟨some "strict", .Constant (.bool true) j kp, kp2⟩] q] X.env = (false, eval (.Call (.Name "zip" p2) [a, b] [⟨some "strict", .Constant (.bool true) j kp, kp2⟩] q) X.env) :: starEach [] X.env := by rfl) :
    ED T X (.Call (.Name "tuple" p) [.Call (.Name "zip" p2) [a, b] [⟨some "strict", .Constant (.bool true) j kp, kp2⟩] q] [] pos) (d2 fZipT da db) := fun hT =>
  peImp (pe_tupZ hc hg hm hg2 hm2 (pa_cons (ha hT) (pa_cons (hb hT) pa_nil hs1) hs) hs hpl hs2) fun σ H Q h => by
    obtain ⟨B, ρ, d, F, e, s, er, qq⟩ := h
    unfold d2 at e
    cases hx : da ρ with
    | none => rw [hx] at e; cases e
    | some x =>
      rw [hx] at e
      cases hy : db ρ with
      | none => rw [hy] at e; cases e
      | some y =>
        rw [hy] at e
        have e : fZipT x y = some d := e
        unfold fZipT at e
        split at e
        · rename_i xs
          split at e
          · rename_i ys
            split at e
            · rename_i hl
              cases e
              obtain ⟨hl, hne, h1000⟩ := hl
              refine ⟨B, ρ, _, F, hx, s, er, fun v H1 F1 g1 r1 => ⟨B, ρ, _, F1, hy, g1.sub, er.grow g1, fun u H2 F2 g2 r2 => ?_⟩⟩
              cases r1 with
              | @tup a1 vs1 _ h1 rr1 =>
                cases r2 with
                | @tup a2 vs2 _ h2 rr2 =>
                  have l1 := rr1.length
                  have l2 := rr2.length
                  refine ⟨a1, a2, vs1, vs2, rfl, .inl (.inl (g2.sub _ _ (g2.frz _ _ h1))), .inl (.inl (g2.sub _ _ h2)), by omega, by omega, by omega, fun ps r o lp nd fr hr hc hd => ?_⟩
                  have ek := prs_keys (xs := vs1) (ys := vs2) lp (by omega)
                  have fr2 : ∀ p ∈ prs ps vs1 vs2, H2 p.1 = none := fun q hq => by
                    refine fr _ ?_
                    rw [← ek]
                    exact List.mem_map_of_mem hq
                  have nd2 : ((prs ps vs1 vs2).map (·.1)).Nodup := by rw [ek]; exact nd
                  have fr3 : ∀ p ∈ prs ps vs1 vs2, F2 p.1 = none := fun q hq => g2.sub.free (fr2 q hq)
                  have g := lay_gr (g1.trans g2) nd2 fr2
                  obtain ⟨s1, s2⟩ := lay_same (H := F2) nd2 fr3
                  have rz : Reps T (layP F2 (prs ps vs1 vs2)) (zipD _ ys) (ps.map V.ref) :=
                    zipD_rep (rr1.mono (g2.frz.trans s1)) (rr2.mono s1) lp (by omega) s2
                  exact qq _ _ _ (g.trans (Gr.new g.sub hr)) (rep_newF g.sub rz hr hc hd)
            · cases e
          · cases e
        · cases e
end
end PD
end
section
set_option Elab.async false
set_option linter.all false
set_option maxRecDepth 100000
/-! The program's defs over data: denotations and derivations (printed by gen.py). -/
namespace PD
open PySem PySem.Spec PyProof.Rows L2

def topS (i : Nat) : Stmt := PySem.Challenge.pw_kindweft_k09_whole_built_tables_as_seen.main.body.getD i (.Pass ⟨0, 0, 0, 0⟩)
def c_STRETCH_KINDS : D := .wtp [.str "before", .str "meets", .str "overlaps", .str "begins", .str "within", .str "ends", .str "same", .str "ended", .str "around", .str "begun", .str "overlaid", .str "met", .str "after"]
def c_COURSE_KINDS : D := .wtp [.str "nw", .str "n", .str "ne", .str "w", .str "same", .str "e", .str "sw", .str "s", .str "se"]
def c_MOST_KINDS : D := .int 13
def c_MOST_LETTERS : D := .int 8
def c_LETTERS : D := .str "abcdefghijklmnopqrstuvwxyz"
def c_WORDS : D := .wtp [.str "moments", .str "stretches", .str "courses", .str "branches", .str "parts"]
def c_MOST_ENDS : D := .int 6
def k_KIND_OF : Str → Option D := fun z => match seqS z "moments" with | true => some (.fn 0) | false => match seqS z "stretches" with | true => some (.fn 1) | false => match seqS z "courses" with | true => some (.fn 2) | false => match seqS z "branches" with | true => some (.fn 3) | false => match seqS z "parts" with | true => some (.fn 4) | false => none
def k_KINDS : Str → Option D := fun z => match seqS z "moments" with | true => some (.wtp [.str "ahead", .str "same", .str "behind"]) | false => match seqS z "stretches" with | true => some (c_STRETCH_KINDS) | false => match seqS z "courses" with | true => some (c_COURSE_KINDS) | false => match seqS z "branches" with | true => some (.wtp [.str "up", .str "same", .str "down", .str "apart"]) | false => match seqS z "parts" with | true => some (.wtp [.str "within", .str "around", .str "same", .str "across", .str "apart"]) | false => none
def k_TRIPLES : Str → Option D := fun z => match seqS z "moments" with | true => some (.fn 5) | false => match seqS z "stretches" with | true => some (.fn 6) | false => match seqS z "courses" with | true => some (.fn 7) | false => match seqS z "branches" with | true => some (.fn 8) | false => match seqS z "parts" with | true => some (.fn 9) | false => none
def fsL : List Str := ["names", "same", "own", "turned", "lines"]
structure MF (T : Tab) (P : Program) (w : World) (mg : Str → Option Value) (base : Heap) : Prop where
  b_len : mg "len" = none
  b_range : mg "range" = none
  b_list : mg "list" = none
  b_tuple : mg "tuple" = none
  b_isinstance : mg "isinstance" = none
  b_all : mg "all" = none
  b_str : mg "str" = none
  b_int : mg "int" = none
  b_bool : mg "bool" = none
  b_sorted : mg "sorted" = none
  b_set : mg "set" = none
  b_dict : mg "dict" = none
  b_zip : mg "zip" = none
  b_abs : mg "abs" = none
  u_STRETCH_KINDS : ∃ u v, mg "STRETCH_KINDS" = some u ∧ RelV v u ∧ ∀ F, Rep T F c_STRETCH_KINDS v
  u_COURSE_KINDS : ∃ u v, mg "COURSE_KINDS" = some u ∧ RelV v u ∧ ∀ F, Rep T F c_COURSE_KINDS v
  k_KIND_OF : ∃ d, mg "KIND_OF" = some (.ref d) ∧ KGives T w d k_KIND_OF
  u_MOST_KINDS : ∃ u v, mg "MOST_KINDS" = some u ∧ RelV v u ∧ ∀ F, Rep T F c_MOST_KINDS v
  u_MOST_LETTERS : ∃ u v, mg "MOST_LETTERS" = some u ∧ RelV v u ∧ ∀ F, Rep T F c_MOST_LETTERS v
  u_LETTERS : ∃ u v, mg "LETTERS" = some u ∧ RelV v u ∧ ∀ F, Rep T F c_LETTERS v
  u_WORDS : ∃ u v, mg "WORDS" = some u ∧ RelV v u ∧ ∀ F, Rep T F c_WORDS v
  k_KINDS : ∃ d, mg "KINDS" = some (.ref d) ∧ KGives T w d k_KINDS
  u_MOST_ENDS : ∃ u v, mg "MOST_ENDS" = some u ∧ RelV v u ∧ ∀ F, Rep T F c_MOST_ENDS v
  k_TRIPLES : ∃ d, mg "TRIPLES" = some (.ref d) ∧ KGives T w d k_TRIPLES
  f_sign : Wr T mg "sign" ["one", "other"] (topS 11)
  f_of_moments : Wr T mg "of_moments" ["one", "other"] (topS 12)
  f_beginning : Wr T mg "beginning" ["one", "other"] (topS 13)
  f_earlier : Wr T mg "earlier" ["one", "other"] (topS 14)
  f_of_stretches : Wr T mg "of_stretches" ["one", "other"] (topS 15)
  f_of_courses : Wr T mg "of_courses" ["one", "other"] (topS 16)
  f_of_branches : Wr T mg "of_branches" ["one", "other"] (topS 17)
  f_of_parts : Wr T mg "of_parts" ["one", "other"] (topS 18)
  f_places_in : Wr T mg "places_in" ["bits"] (topS 21)
  f_bits_of : Wr T mg "bits_of" ["places"] (topS 22)
  f_moved : Wr T mg "moved" ["bits", "where"] (topS 23)
  f_joined_steps : Wr T mg "joined_steps" ["steps", "ones", "others"] (topS 24)
  f_back_fault : Wr T mg "back_fault" ["backs"] (topS 26)
  f_same_fault : Wr T mg "same_fault" ["same", "steps"] (topS 27)
  f_turn_fault : Wr T mg "turn_fault" ["backs", "steps"] (topS 28)
  f_row_fault : Wr T mg "row_fault" ["steps"] (topS 29)
  f_first_fault : Wr T mg "first_fault" ["same", "backs", "steps"] (topS 30)
  f_bits_shown : Wr T mg "bits_shown" ["bits", "names"] (topS 32)
  f_is_name : Wr T mg "is_name" ["text"] (topS 37)
  f_are_names : Wr T mg "are_names" ["names"] (topS 38)
  f_within : Wr T mg "within" ["things", "names"] (topS 39)
  f_square : Wr T mg "square" ["steps", "names"] (topS 40)
  f_need_form : Wr T mg "need_form" ["names", "same", "backs", "steps"] (topS 41)
  f_bits_in : Wr T mg "bits_in" ["things", "names"] (topS 42)
  f_parts_of : Wr T mg "parts_of" ["names", "same", "backs", "steps"] (topS 43)
  f_Table_u__eq_u_ : WrM T "Table.__eq__" "__eq__" ["self", "other"] (inClass (topS 44) 2)
  x_Table_u__eq_u_ : ("__eq__" : Str) ∉ T.fs
  f_Table_place : WrM T "Table.place" "place" ["self", "kind"] (inClass (topS 44) 5)
  x_Table_place : ("place" : Str) ∉ T.fs
  f_Table_shown : WrM T "Table.shown" "shown" ["self", "bits"] (inClass (topS 44) 7)
  x_Table_shown : ("shown" : Str) ∉ T.fs
  f_Table_kinds : WrM T "Table.kinds" "kinds" ["self"] (inClass (topS 44) 11)
  x_Table_kinds : ("kinds" : Str) ∉ T.fs
  f_Table_back : WrM T "Table.back" "back" ["self", "kind"] (inClass (topS 44) 12)
  x_Table_back : ("back" : Str) ∉ T.fs
  f_Table_step : WrM T "Table.step" "step" ["self", "one", "other"] (inClass (topS 44) 13)
  x_Table_step : ("step" : Str) ∉ T.fs
  f_stretch_triples : Wr T mg "stretch_triples" [] (topS 49)
  f_moment_triples : Wr T mg "moment_triples" [] (topS 50)
  f_course_triples : Wr T mg "course_triples" [] (topS 51)
  f_part_triples : Wr T mg "part_triples" [] (topS 52)
  f_branch_triples : Wr T mg "branch_triples" [] (topS 53)
  f_need_word : Wr T mg "need_word" ["word"] (topS 55)
  f_seen_steps : Wr T mg "seen_steps" ["word"] (topS 56)
  f_seen_backs : Wr T mg "seen_backs" ["word"] (topS 57)
  f_built : Wr T mg "built" ["word"] (topS 58)
  f_law_kinds_of : Wr T mg "_law_kinds_of" ["_law_word"] (topS 63)
  f_law_in_order : Wr T mg "_law_in_order" ["_law_kinds", "_law_row"] (topS 64)
  f_law_table : Wr T mg "_law_table" ["_law_kinds", "_law_same_here", "_law_backs", "_law_steps"] (topS 65)
  f_law_things_of : Wr T mg "_law_things_of" ["_law_word"] (topS 67)
  f_law_triples : Wr T mg "_law_triples" ["_law_word"] (topS 68)
  f_law_sign : Wr T mg "_law_sign" ["_law_one", "_law_other"] (topS 69)
  f_law_kind_of_parts : Wr T mg "_law_kind_of_parts" ["_law_one", "_law_other"] (topS 70)
  f_law_kind_of_stretches : Wr T mg "_law_kind_of_stretches" ["_law_one", "_law_other"] (topS 71)
  f_law_kind_of : Wr T mg "_law_kind_of" ["_law_word", "_law_one", "_law_other"] (topS 72)
  f_law_seen_courses : Wr T mg "_law_seen_courses" ["_law_kinds"] (topS 66)
  f_law_seen : Wr T mg "_law_seen" ["_law_word"] (topS 73)
  f_law_same : Wr T mg "_law_same" ["_law_found", "_law_due"] (topS 61)
  a_of_moments : ∃ f, mg "of_moments" = some (.ref f) ∧ T.fa 0 = some f
  a_of_stretches : ∃ f, mg "of_stretches" = some (.ref f) ∧ T.fa 1 = some f
  a_of_courses : ∃ f, mg "of_courses" = some (.ref f) ∧ T.fa 2 = some f
  a_of_branches : ∃ f, mg "of_branches" = some (.ref f) ∧ T.fa 3 = some f
  a_of_parts : ∃ f, mg "of_parts" = some (.ref f) ∧ T.fa 4 = some f
  a_moment_triples : ∃ f, mg "moment_triples" = some (.ref f) ∧ T.fa 5 = some f
  a_stretch_triples : ∃ f, mg "stretch_triples" = some (.ref f) ∧ T.fa 6 = some f
  a_course_triples : ∃ f, mg "course_triples" = some (.ref f) ∧ T.fa 7 = some f
  a_branch_triples : ∃ f, mg "branch_triples" = some (.ref f) ∧ T.fa 8 = some f
  a_part_triples : ∃ f, mg "part_triples" = some (.ref f) ∧ T.fa 9 = some f
  ins : InsF T
  insC : C8.InsC T.K T.C
  f_Table_init : ∃ f fd, Fun T.K "__init__" "Table.__init__" (inClass (topS 44) 0) f fd ∧ Mk T.K T.C f ∧ Binds T.K fd ["self", "names", "same", "backs", "steps"] []
  g_Table : mg "Table" = some (.ref T.C)
  fs : T.fs = fsL
theorem MF.fok {T : Tab} {P : Program} {w : World} {mg : Str → Option Value} {base : Heap} (M : MF T P w mg base) (i : Nat) {f : Str} (h : T.fs[i]? = some f) : FldOk T f := ⟨M.ins.cl, M.ins.no f (List.mem_of_getElem? h)⟩
section
variable {T : Tab} {P : Program} {w : World} {mg : Str → Option Value} {base : Heap}
/-- sign -/
theorem sc_sign : FnScope ["one", "other"] ["one", "other"] (defScope (topS 11)) := ⟨rfl, rfl, rfl, by decide +kernel, rfl, by decide +kernel, by decide +kernel⟩
def n_sign : DS := (sRet (dIf (t2 fLt (dVar 0) (dVar 1)) (dC (.int 0)) (dIf (t2 fEq (dVar 0) (dVar 1)) (dC (.int 1)) (dC (.int 2)))))
def g_sign : List D → Option D := runD 2 n_sign
theorem B_sign (M : MF T P w mg base) : Bod T P w mg base 0 ["one", "other"] "sign" (topS 11) n_sign := fun f cdv A outer s H E hr => by
  have nd := sc_sign.nd
  exact (sds_one (sd_ret (ed_ifExp (td_lt (ed_var 0) (ed_var 1)) ed_int (ed_ifExp (td_eq hr (ed_var 0) (ed_var 1)) ed_int ed_int))))
theorem D_sign (M : MF T P w mg base) : Def T P w mg base 1 "sign" 2 g_sign := mkDef M.f_sign sc_sign (B_sign M)
/-- of_moments -/
theorem sc_of_moments : FnScope ["one", "other"] ["one", "other"] (defScope (topS 12)) := ⟨rfl, rfl, rfl, by decide +kernel, rfl, by decide +kernel, by decide +kernel⟩
def n_of_moments : DS := (sRet (d2 fIx (dCall mkTup (aCons (dC (.str "ahead")) (aCons (dC (.str "same")) (aCons (dC (.str "behind")) aNil)))) (dCall g_sign (aCons (dVar 0) (aCons (dVar 1) aNil)))))
def g_of_moments : List D → Option D := runD 2 n_of_moments
theorem B_of_moments (M : MF T P w mg base) : Bod T P w mg base 1 ["one", "other"] "of_moments" (topS 12) n_of_moments := fun f cdv A outer s H E hr => by
  have nd := sc_of_moments.nd
  exact (sds_one (sd_ret (ed_at (ed_tup (ad_cons ed_str (ad_cons ed_str (ad_cons ed_str ad_nil)))) (ed_call (D_sign M) (hr.mono (by decide)) (ad_cons (ed_var 0) (ad_cons (ed_var 1) ad_nil))))))
theorem D_of_moments (M : MF T P w mg base) : Def T P w mg base 2 "of_moments" 2 g_of_moments := mkDef M.f_of_moments sc_of_moments (B_of_moments M)
/-- beginning -/
theorem sc_beginning : FnScope ["one", "other"] ["one", "other"] (defScope (topS 13)) := ⟨rfl, rfl, rfl, by decide +kernel, rfl, by decide +kernel, by decide +kernel⟩
def n_beginning : DS := (sRet (d2 fIx (dCall mkTup (aCons (dC (.str "begins")) (aCons (dC (.str "same")) (aCons (dC (.str "begun")) aNil)))) (dCall g_sign (aCons (d2 fIx (dVar 0) (dC (.int 1))) (aCons (d2 fIx (dVar 1) (dC (.int 1))) aNil)))))
def g_beginning : List D → Option D := runD 2 n_beginning
theorem B_beginning (M : MF T P w mg base) : Bod T P w mg base 1 ["one", "other"] "beginning" (topS 13) n_beginning := fun f cdv A outer s H E hr => by
  have nd := sc_beginning.nd
  exact (sds_one (sd_ret (ed_at (ed_tup (ad_cons ed_str (ad_cons ed_str (ad_cons ed_str ad_nil)))) (ed_call (D_sign M) (hr.mono (by decide)) (ad_cons (ed_at (ed_var 0) ed_int) (ad_cons (ed_at (ed_var 1) ed_int) ad_nil))))))
theorem D_beginning (M : MF T P w mg base) : Def T P w mg base 2 "beginning" 2 g_beginning := mkDef M.f_beginning sc_beginning (B_beginning M)
/-- earlier -/
theorem sc_earlier : FnScope ["one", "other"] ["one", "other"] (defScope (topS 14)) := ⟨rfl, rfl, rfl, by decide +kernel, rfl, by decide +kernel, by decide +kernel⟩
def n_earlier : DS := (sSeq (sIf (t2 fLt (d2 fIx (dVar 0) (dC (.int 1))) (d2 fIx (dVar 1) (dC (.int 0)))) (sRet (dC (.str "before"))) sNext) (sSeq (sIf (t2 fEq (d2 fIx (dVar 0) (dC (.int 1))) (d2 fIx (dVar 1) (dC (.int 0)))) (sRet (dC (.str "meets"))) sNext) (sRet (d2 fIx (dCall mkTup (aCons (dC (.str "overlaps")) (aCons (dC (.str "ended")) (aCons (dC (.str "around")) aNil)))) (dCall g_sign (aCons (d2 fIx (dVar 0) (dC (.int 1))) (aCons (d2 fIx (dVar 1) (dC (.int 1))) aNil)))))))
def g_earlier : List D → Option D := runD 2 n_earlier
theorem B_earlier (M : MF T P w mg base) : Bod T P w mg base 1 ["one", "other"] "earlier" (topS 14) n_earlier := fun f cdv A outer s H E hr => by
  have nd := sc_earlier.nd
  exact (sds_cons (sd_if (td_lt (ed_at (ed_var 0) ed_int) (ed_at (ed_var 1) ed_int)) (sds_one (sd_ret ed_str)) sds_nil) (sds_cons (sd_if (td_eq hr (ed_at (ed_var 0) ed_int) (ed_at (ed_var 1) ed_int)) (sds_one (sd_ret ed_str)) sds_nil) (sds_one (sd_ret (ed_at (ed_tup (ad_cons ed_str (ad_cons ed_str (ad_cons ed_str ad_nil)))) (ed_call (D_sign M) (hr.mono (by decide)) (ad_cons (ed_at (ed_var 0) ed_int) (ad_cons (ed_at (ed_var 1) ed_int) ad_nil))))))))
theorem D_earlier (M : MF T P w mg base) : Def T P w mg base 2 "earlier" 2 g_earlier := mkDef M.f_earlier sc_earlier (B_earlier M)
/-- of_stretches -/
theorem sc_of_stretches : FnScope ["one", "other"] ["one", "other"] (defScope (topS 15)) := ⟨rfl, rfl, rfl, by decide +kernel, rfl, by decide +kernel, by decide +kernel⟩
def n_of_stretches : DS := (sSeq (sIf (t2 fEq (d2 fIx (dVar 0) (dC (.int 0))) (d2 fIx (dVar 1) (dC (.int 0)))) (sRet (dCall g_beginning (aCons (dVar 0) (aCons (dVar 1) aNil)))) sNext) (sSeq (sIf (t2 fLt (d2 fIx (dVar 0) (dC (.int 0))) (d2 fIx (dVar 1) (dC (.int 0)))) (sRet (dCall g_earlier (aCons (dVar 0) (aCons (dVar 1) aNil)))) sNext) (sRet (d2 fIx (dC c_STRETCH_KINDS) (d2 fSub (dC (.int 12)) (d2 fIndexW (dC c_STRETCH_KINDS) (dCall g_earlier (aCons (dVar 1) (aCons (dVar 0) aNil)))))))))
def g_of_stretches : List D → Option D := runD 2 n_of_stretches
theorem B_of_stretches (M : MF T P w mg base) : Bod T P w mg base 2 ["one", "other"] "of_stretches" (topS 15) n_of_stretches := fun f cdv A outer s H E hr => by
  have nd := sc_of_stretches.nd
  exact (sds_cons (sd_if (td_eq hr (ed_at (ed_var 0) ed_int) (ed_at (ed_var 1) ed_int)) (sds_one (sd_ret (ed_call (D_beginning M) (hr.mono (by decide)) (ad_cons (ed_var 0) (ad_cons (ed_var 1) ad_nil))))) sds_nil) (sds_cons (sd_if (td_lt (ed_at (ed_var 0) ed_int) (ed_at (ed_var 1) ed_int)) (sds_one (sd_ret (ed_call (D_earlier M) (hr.mono (by decide)) (ad_cons (ed_var 0) (ad_cons (ed_var 1) ad_nil))))) sds_nil) (sds_one (sd_ret (ed_at (ed_cst M.u_STRETCH_KINDS) (ed_sub ed_int (ed_indexW (ed_cst M.u_STRETCH_KINDS) (ed_call (D_earlier M) (hr.mono (by decide)) (ad_cons (ed_var 1) (ad_cons (ed_var 0) ad_nil))))))))))
theorem D_of_stretches (M : MF T P w mg base) : Def T P w mg base 3 "of_stretches" 2 g_of_stretches := mkDef M.f_of_stretches sc_of_stretches (B_of_stretches M)
/-- of_courses -/
theorem sc_of_courses : FnScope ["one", "other", "across", "up"] ["one", "other"] (defScope (topS 16)) := ⟨rfl, rfl, rfl, by decide +kernel, rfl, by decide +kernel, by decide +kernel⟩
def n_of_courses : DS := (sSeq (sPar 2 3 (dCall g_sign (aCons (d2 fIx (dVar 0) (dC (.int 0))) (aCons (d2 fIx (dVar 1) (dC (.int 0))) aNil))) (dCall g_sign (aCons (d2 fIx (dVar 0) (dC (.int 1))) (aCons (d2 fIx (dVar 1) (dC (.int 1))) aNil)))) (sRet (d2 fIx (dC c_COURSE_KINDS) (d2 fAdd (d2 (fN nMul) (dC (.int 3)) (dVar 3)) (dVar 2)))))
def g_of_courses : List D → Option D := runD 4 n_of_courses
theorem B_of_courses (M : MF T P w mg base) : Bod T P w mg base 1 ["one", "other", "across", "up"] "of_courses" (topS 16) n_of_courses := fun f cdv A outer s H E hr => by
  have nd := sc_of_courses.nd
  exact (sds_cons (sd_par 2 3 rfl nd (ed_call (D_sign M) (hr.mono (by decide)) (ad_cons (ed_at (ed_var 0) ed_int) (ad_cons (ed_at (ed_var 1) ed_int) ad_nil))) (ed_call (D_sign M) (hr.mono (by decide)) (ad_cons (ed_at (ed_var 0) ed_int) (ad_cons (ed_at (ed_var 1) ed_int) ad_nil)))) (sds_one (sd_ret (ed_at (ed_cst M.u_COURSE_KINDS) (ed_add (ed_mul ed_int (ed_var 3)) (ed_var 2))))))
theorem D_of_courses (M : MF T P w mg base) : Def T P w mg base 2 "of_courses" 2 g_of_courses := mkDef M.f_of_courses sc_of_courses (B_of_courses M)
/-- of_branches -/
theorem sc_of_branches : FnScope ["one", "other"] ["one", "other"] (defScope (topS 17)) := ⟨rfl, rfl, rfl, by decide +kernel, rfl, by decide +kernel, by decide +kernel⟩
def n_of_branches : DS := (sSeq (sIf (t2 fEq (dVar 0) (dVar 1)) (sRet (dC (.str "same"))) sNext) (sSeq (sIf (t2 fEq (dCall (one fList) (aCons (dVar 0) aNil)) (d2 fTakeL (dCall (one fList) (aCons (dVar 1) aNil)) (dCall (one fLen) (aCons (dVar 0) aNil)))) (sRet (dC (.str "up"))) sNext) (sRet (dIf (t2 fEq (dCall (one fList) (aCons (dVar 1) aNil)) (d2 fTakeL (dCall (one fList) (aCons (dVar 0) aNil)) (dCall (one fLen) (aCons (dVar 1) aNil)))) (dC (.str "down")) (dC (.str "apart"))))))
def g_of_branches : List D → Option D := runD 2 n_of_branches
theorem B_of_branches (M : MF T P w mg base) : Bod T P w mg base 0 ["one", "other"] "of_branches" (topS 17) n_of_branches := fun f cdv A outer s H E hr => by
  have nd := sc_of_branches.nd
  exact (sds_cons (sd_if (td_eq hr (ed_var 0) (ed_var 1)) (sds_one (sd_ret ed_str)) sds_nil) (sds_cons (sd_if (td_eq hr (ed_list M.b_list (ed_var 0)) (ed_takeL (ed_list M.b_list (ed_var 1)) (ed_len M.b_len (ed_var 0)))) (sds_one (sd_ret ed_str)) sds_nil) (sds_one (sd_ret (ed_ifExp (td_eq hr (ed_list M.b_list (ed_var 1)) (ed_takeL (ed_list M.b_list (ed_var 0)) (ed_len M.b_len (ed_var 1)))) ed_str ed_str)))))
theorem D_of_branches (M : MF T P w mg base) : Def T P w mg base 1 "of_branches" 2 g_of_branches := mkDef M.f_of_branches sc_of_branches (B_of_branches M)
/-- of_parts -/
theorem sc_of_parts : FnScope ["one", "other", "mine", "theirs", "mark"] ["one", "other"] (defScope (topS 18)) := ⟨rfl, rfl, rfl, by decide +kernel, rfl, by decide +kernel, by decide +kernel⟩
def n_of_parts : DS := (sSeq (sSet 2 (dLc (kIn (iL listOf (dVar 0)) [4] (gN 4) (t2 fNotIn (dVar 4) (dVar 1)) (kOne (dVar 4))))) (sSeq (sSet 3 (dLc (kIn (iL listOf (dVar 1)) [4] (gN 4) (t2 fNotIn (dVar 4) (dVar 0)) (kOne (dVar 4))))) (sSeq (sIf (tOrD (t2 fEq (dVar 2) (dCall mkLst aNil)) (t2 fEq (dVar 3) (dCall mkLst aNil))) (sRet (d2 fIx (dCall mkTup (aCons (dC (.str "within")) (aCons (dC (.str "same")) (aCons (dC (.str "around")) aNil)))) (dCall g_sign (aCons (dCall (one fLen) (aCons (dVar 0) aNil)) (aCons (dCall (one fLen) (aCons (dVar 1) aNil)) aNil))))) sNext) (sRet (dIf (t2 fEq (dCall (one fLen) (aCons (dVar 2) aNil)) (dCall (one fLen) (aCons (dVar 0) aNil))) (dC (.str "apart")) (dC (.str "across")))))))
def g_of_parts : List D → Option D := runD 5 n_of_parts
theorem B_of_parts (M : MF T P w mg base) : Bod T P w mg base 1 ["one", "other", "mine", "theirs", "mark"] "of_parts" (topS 18) n_of_parts := fun f cdv A outer s H E hr => by
  have nd := sc_of_parts.nd
  exact (sds_cons (sd_setLc 2 (own := [("mark", 4)]) rfl nd (id_list (ed_var 0)) (blkOk_by (by kernel_rfl)) (fun _ _ _ _ _ => gd_name 4 nd) (fun _ _ _ _ _ => (tsd_one (td_notIn (ed_var 4) (ed_var 1)))) (fun _ _ _ _ _ => (ed_var 4))  (sw_true rfl rfl rfl (by kernel_rfl))) (sds_cons (sd_setLc 3 (own := [("mark", 4)]) rfl nd (id_list (ed_var 1)) (blkOk_by (by kernel_rfl)) (fun _ _ _ _ _ => gd_name 4 nd) (fun _ _ _ _ _ => (tsd_one (td_notIn (ed_var 4) (ed_var 0)))) (fun _ _ _ _ _ => (ed_var 4))  (sw_true rfl rfl rfl (by kernel_rfl))) (sds_cons (sd_if (td_wd (wd_or (td_eq hr (ed_var 2) (ed_lst ad_nil)) (wd_or1 (td_eq hr (ed_var 3) (ed_lst ad_nil))))) (sds_one (sd_ret (ed_at (ed_tup (ad_cons ed_str (ad_cons ed_str (ad_cons ed_str ad_nil)))) (ed_call (D_sign M) (hr.mono (by decide)) (ad_cons (ed_len M.b_len (ed_var 0)) (ad_cons (ed_len M.b_len (ed_var 1)) ad_nil)))))) sds_nil) (sds_one (sd_ret (ed_ifExp (td_eq hr (ed_len M.b_len (ed_var 2)) (ed_len M.b_len (ed_var 0))) ed_str ed_str))))))
theorem D_of_parts (M : MF T P w mg base) : Def T P w mg base 2 "of_parts" 2 g_of_parts := mkDef M.f_of_parts sc_of_parts (B_of_parts M)
/-- places_in -/
theorem sc_places_in : FnScope ["bits", "at"] ["bits"] (defScope (topS 21)) := ⟨rfl, rfl, rfl, by decide +kernel, rfl, by decide +kernel, by decide +kernel⟩
def n_places_in : DS := (sRet (dLc (kIn (iR1 (d1 fBits (dVar 0))) [1] (gN 1) (t1 truD (d2 (fN nAnd) (d2 (fN nShr) (dVar 0) (dVar 1)) (dC (.int 1)))) (kOne (dVar 1)))))
def g_places_in : List D → Option D := runD 2 n_places_in
theorem B_places_in (M : MF T P w mg base) : Bod T P w mg base 0 ["bits", "at"] "places_in" (topS 21) n_places_in := fun f cdv A outer s H E hr => by
  have nd := sc_places_in.nd
  exact (sds_one (sd_ret (ed_lc (own := [("at", 1)]) rfl nd (id_range1 M.b_range (ed_bits (ed_var 0))) (blkOk_by (by kernel_rfl)) (fun _ _ _ _ _ => gd_name 1 nd) (fun _ _ _ _ _ => (tsd_one (td_tru (ed_band (ed_shr (ed_var 0) (ed_var 1)) ed_int)))) (fun _ _ _ _ _ => (ed_var 1)) )))
theorem D_places_in (M : MF T P w mg base) : Def T P w mg base 1 "places_in" 1 g_places_in := mkDef M.f_places_in sc_places_in (B_places_in M)
/-- bits_of -/
theorem sc_bits_of : FnScope ["places", "found", "at"] ["places"] (defScope (topS 22)) := ⟨rfl, rfl, rfl, by decide +kernel, rfl, by decide +kernel, by decide +kernel⟩
def n_bits_of : DS := (sSeq (sSet 1 (dC (.int 0))) (sSeq (sFor (iL listOf (dVar 0)) (gN 2) (sAug 1 (fN nOr) (d2 (fN nShl) (dC (.int 1)) (dVar 2)))) (sRet (dVar 1))))
def g_bits_of : List D → Option D := runD 3 n_bits_of
theorem B_bits_of (M : MF T P w mg base) : Bod T P w mg base 0 ["places", "found", "at"] "bits_of" (topS 22) n_bits_of := fun f cdv A outer s H E hr => by
  have nd := sc_bits_of.nd
  exact (sds_cons (sd_set 1 nd ed_int) (sds_cons (sd_for PassesOwn.never rfl (id_list (ed_var 0)) (gd_name 2 nd) (sds_one (sd_ior 1 nd (ed_shl ed_int (ed_var 2))))) (sds_one (sd_ret (ed_var 1)))))
theorem D_bits_of (M : MF T P w mg base) : Def T P w mg base 1 "bits_of" 1 g_bits_of := mkDef M.f_bits_of sc_bits_of (B_bits_of M)
/-- moved -/
theorem sc_moved : FnScope ["bits", "where", "at"] ["bits", "where"] (defScope (topS 23)) := ⟨rfl, rfl, rfl, by decide +kernel, rfl, by decide +kernel, by decide +kernel⟩
def n_moved : DS := (sRet (dCall g_bits_of (aCons (dLc (kIn (iL listOf (dCall g_places_in (aCons (dVar 0) aNil))) [2] (gN 2) tYesD (kOne (d2 fIx (dVar 1) (dVar 2))))) aNil)))
def g_moved : List D → Option D := runD 3 n_moved
theorem B_moved (M : MF T P w mg base) : Bod T P w mg base 1 ["bits", "where", "at"] "moved" (topS 23) n_moved := fun f cdv A outer s H E hr => by
  have nd := sc_moved.nd
  exact (sds_one (sd_ret (ed_call (D_bits_of M) (hr.mono (by decide)) (ad_cons (ed_lc (own := [("at", 2)]) rfl nd (id_list (ed_call (D_places_in M) (hr.mono (by decide)) (ad_cons (ed_var 0) ad_nil))) (blkOk_by (by kernel_rfl)) (fun _ _ _ _ _ => gd_name 2 nd) (fun _ _ _ _ _ => tsd_nil) (fun _ _ _ _ _ => (ed_at (ed_var 1) (ed_var 2))) ) ad_nil))))
theorem D_moved (M : MF T P w mg base) : Def T P w mg base 2 "moved" 2 g_moved := mkDef M.f_moved sc_moved (B_moved M)
/-- joined_steps -/
theorem sc_joined_steps : FnScope ["steps", "ones", "others", "found", "one", "other"] ["steps", "ones", "others"] (defScope (topS 24)) := ⟨rfl, rfl, rfl, by decide +kernel, rfl, by decide +kernel, by decide +kernel⟩
def n_joined_steps : DS := (sSeq (sSet 3 (dC (.int 0))) (sSeq (sFor (iL listOf (dCall g_places_in (aCons (dVar 1) aNil))) (gN 4) (sFor (iL listOf (dCall g_places_in (aCons (dVar 2) aNil))) (gN 5) (sAug 3 (fN nOr) (d2 fIx (d2 fIx (dVar 0) (dVar 4)) (dVar 5))))) (sRet (dVar 3))))
def g_joined_steps : List D → Option D := runD 6 n_joined_steps
theorem B_joined_steps (M : MF T P w mg base) : Bod T P w mg base 1 ["steps", "ones", "others", "found", "one", "other"] "joined_steps" (topS 24) n_joined_steps := fun f cdv A outer s H E hr => by
  have nd := sc_joined_steps.nd
  exact (sds_cons (sd_set 3 nd ed_int) (sds_cons (sd_for PassesOwn.never rfl (id_list (ed_call (D_places_in M) (hr.mono (by decide)) (ad_cons (ed_var 1) ad_nil))) (gd_name 4 nd) (sds_one (sd_for PassesOwn.never rfl (id_list (ed_call (D_places_in M) (hr.mono (by decide)) (ad_cons (ed_var 2) ad_nil))) (gd_name 5 nd) (sds_one (sd_ior 3 nd (ed_at (ed_at (ed_var 0) (ed_var 4)) (ed_var 5))))))) (sds_one (sd_ret (ed_var 3)))))
theorem D_joined_steps (M : MF T P w mg base) : Def T P w mg base 2 "joined_steps" 3 g_joined_steps := mkDef M.f_joined_steps sc_joined_steps (B_joined_steps M)
/-- back_fault -/
theorem sc_back_fault : FnScope ["backs", "one"] ["backs"] (defScope (topS 26)) := ⟨rfl, rfl, rfl, by decide +kernel, rfl, by decide +kernel, by decide +kernel⟩
def n_back_fault : DS := (sSeq (sFor (iR1 (dCall (one fLen) (aCons (dVar 0) aNil))) (gN 1) (sIf (t2 fNe (d2 fIx (dVar 0) (d2 fIx (dVar 0) (dVar 1))) (dVar 1)) (sRet (dCall mkTup (aCons (dC (.str "back")) (aCons (dVar 1) aNil)))) sNext)) (sRet (dC .non)))
def g_back_fault : List D → Option D := runD 2 n_back_fault
theorem B_back_fault (M : MF T P w mg base) : Bod T P w mg base 0 ["backs", "one"] "back_fault" (topS 26) n_back_fault := fun f cdv A outer s H E hr => by
  have nd := sc_back_fault.nd
  exact (sds_cons (sd_for PassesOwn.never rfl (id_range1 M.b_range (ed_len M.b_len (ed_var 0))) (gd_name 1 nd) (sds_one (sd_if (td_ne hr (ed_at (ed_var 0) (ed_at (ed_var 0) (ed_var 1))) (ed_var 1)) (sds_one (sd_ret (ed_tup (ad_cons ed_str (ad_cons (ed_var 1) ad_nil))))) sds_nil))) (sds_one (sd_ret ed_non)))
theorem D_back_fault (M : MF T P w mg base) : Def T P w mg base 1 "back_fault" 1 g_back_fault := mkDef M.f_back_fault sc_back_fault (B_back_fault M)
/-- same_fault -/
theorem sc_same_fault : FnScope ["same", "steps", "one"] ["same", "steps"] (defScope (topS 27)) := ⟨rfl, rfl, rfl, by decide +kernel, rfl, by decide +kernel, by decide +kernel⟩
def n_same_fault : DS := (sSeq (sFor (iR1 (dCall (one fLen) (aCons (dVar 1) aNil))) (gN 2) (sIf (tOrD (t2 fNe (d2 fIx (d2 fIx (dVar 1) (dVar 0)) (dVar 2)) (d2 (fN nShl) (dC (.int 1)) (dVar 2))) (t2 fNe (d2 fIx (d2 fIx (dVar 1) (dVar 2)) (dVar 0)) (d2 (fN nShl) (dC (.int 1)) (dVar 2)))) (sRet (dCall mkTup (aCons (dC (.str "same")) (aCons (dVar 2) aNil)))) sNext)) (sRet (dC .non)))
def g_same_fault : List D → Option D := runD 3 n_same_fault
theorem B_same_fault (M : MF T P w mg base) : Bod T P w mg base 0 ["same", "steps", "one"] "same_fault" (topS 27) n_same_fault := fun f cdv A outer s H E hr => by
  have nd := sc_same_fault.nd
  exact (sds_cons (sd_for PassesOwn.never rfl (id_range1 M.b_range (ed_len M.b_len (ed_var 1))) (gd_name 2 nd) (sds_one (sd_if (td_wd (wd_or (td_ne hr (ed_at (ed_at (ed_var 1) (ed_var 0)) (ed_var 2)) (ed_shl ed_int (ed_var 2))) (wd_or1 (td_ne hr (ed_at (ed_at (ed_var 1) (ed_var 2)) (ed_var 0)) (ed_shl ed_int (ed_var 2)))))) (sds_one (sd_ret (ed_tup (ad_cons ed_str (ad_cons (ed_var 2) ad_nil))))) sds_nil))) (sds_one (sd_ret ed_non)))
theorem D_same_fault (M : MF T P w mg base) : Def T P w mg base 1 "same_fault" 2 g_same_fault := mkDef M.f_same_fault sc_same_fault (B_same_fault M)
/-- turn_fault -/
theorem sc_turn_fault : FnScope ["backs", "steps", "many", "one", "other", "third", "ahead", "left", "right"] ["backs", "steps"] (defScope (topS 28)) := ⟨rfl, rfl, rfl, by decide +kernel, rfl, by decide +kernel, by decide +kernel⟩
def n_turn_fault : DS := (sSeq (sSet 2 (d1 fRange (dCall (one fLen) (aCons (dVar 0) aNil)))) (sSeq (sFor (iL listOf (dVar 2)) (gN 3) (sFor (iL listOf (dVar 2)) (gN 4) (sFor (iL listOf (dVar 2)) (gN 5) (sSeq (sSet 6 (d2 (fN nAnd) (d2 (fN nShr) (d2 fIx (d2 fIx (dVar 1) (dVar 3)) (dVar 4)) (dVar 5)) (dC (.int 1)))) (sSeq (sSet 7 (d2 (fN nAnd) (d2 (fN nShr) (d2 fIx (d2 fIx (dVar 1) (dVar 5)) (d2 fIx (dVar 0) (dVar 4))) (dVar 3)) (dC (.int 1)))) (sSeq (sSet 8 (d2 (fN nAnd) (d2 (fN nShr) (d2 fIx (d2 fIx (dVar 1) (d2 fIx (dVar 0) (dVar 3))) (dVar 5)) (dVar 4)) (dC (.int 1)))) (sIf (tOrD (t2 fNe (dVar 6) (dVar 7)) (t2 fNe (dVar 6) (dVar 8))) (sRet (dCall mkTup (aCons (dC (.str "turn")) (aCons (dVar 3) (aCons (dVar 4) (aCons (dVar 5) aNil)))))) sNext))))))) (sRet (dC .non))))
def g_turn_fault : List D → Option D := runD 9 n_turn_fault
theorem B_turn_fault (M : MF T P w mg base) : Bod T P w mg base 0 ["backs", "steps", "many", "one", "other", "third", "ahead", "left", "right"] "turn_fault" (topS 28) n_turn_fault := fun f cdv A outer s H E hr => by
  have nd := sc_turn_fault.nd
  exact (sds_cons (sd_set 2 nd (ed_listRange rfl M.b_list M.b_range (ed_len M.b_len (ed_var 0)))) (sds_cons (sd_for PassesOwn.never rfl (id_list (ed_var 2)) (gd_name 3 nd) (sds_one (sd_for PassesOwn.never rfl (id_list (ed_var 2)) (gd_name 4 nd) (sds_one (sd_for PassesOwn.never rfl (id_list (ed_var 2)) (gd_name 5 nd) (sds_cons (sd_set 6 nd (ed_band (ed_shr (ed_at (ed_at (ed_var 1) (ed_var 3)) (ed_var 4)) (ed_var 5)) ed_int)) (sds_cons (sd_set 7 nd (ed_band (ed_shr (ed_at (ed_at (ed_var 1) (ed_var 5)) (ed_at (ed_var 0) (ed_var 4))) (ed_var 3)) ed_int)) (sds_cons (sd_set 8 nd (ed_band (ed_shr (ed_at (ed_at (ed_var 1) (ed_at (ed_var 0) (ed_var 3))) (ed_var 5)) (ed_var 4)) ed_int)) (sds_one (sd_if (td_wd (wd_or (td_ne hr (ed_var 6) (ed_var 7)) (wd_or1 (td_ne hr (ed_var 6) (ed_var 8))))) (sds_one (sd_ret (ed_tup (ad_cons ed_str (ad_cons (ed_var 3) (ad_cons (ed_var 4) (ad_cons (ed_var 5) ad_nil))))))) sds_nil)))))))))) (sds_one (sd_ret ed_non))))
theorem D_turn_fault (M : MF T P w mg base) : Def T P w mg base 1 "turn_fault" 2 g_turn_fault := mkDef M.f_turn_fault sc_turn_fault (B_turn_fault M)
/-- row_fault -/
theorem sc_row_fault : FnScope ["steps", "many", "one", "other", "third", "left", "right"] ["steps"] (defScope (topS 29)) := ⟨rfl, rfl, rfl, by decide +kernel, rfl, by decide +kernel, by decide +kernel⟩
def n_row_fault : DS := (sSeq (sSet 1 (d1 fRange (dCall (one fLen) (aCons (dVar 0) aNil)))) (sSeq (sFor (iL listOf (dVar 1)) (gN 2) (sFor (iL listOf (dVar 1)) (gN 3) (sFor (iL listOf (dVar 1)) (gN 4) (sSeq (sSet 5 (dCall g_joined_steps (aCons (dVar 0) (aCons (d2 fIx (d2 fIx (dVar 0) (dVar 2)) (dVar 3)) (aCons (d2 (fN nShl) (dC (.int 1)) (dVar 4)) aNil))))) (sSeq (sSet 6 (dCall g_joined_steps (aCons (dVar 0) (aCons (d2 (fN nShl) (dC (.int 1)) (dVar 2)) (aCons (d2 fIx (d2 fIx (dVar 0) (dVar 3)) (dVar 4)) aNil))))) (sIf (t2 fNe (dVar 5) (dVar 6)) (sRet (dCall mkTup (aCons (dC (.str "row")) (aCons (dVar 2) (aCons (dVar 3) (aCons (dVar 4) aNil)))))) sNext)))))) (sRet (dC .non))))
def g_row_fault : List D → Option D := runD 7 n_row_fault
theorem B_row_fault (M : MF T P w mg base) : Bod T P w mg base 2 ["steps", "many", "one", "other", "third", "left", "right"] "row_fault" (topS 29) n_row_fault := fun f cdv A outer s H E hr => by
  have nd := sc_row_fault.nd
  exact (sds_cons (sd_set 1 nd (ed_listRange rfl M.b_list M.b_range (ed_len M.b_len (ed_var 0)))) (sds_cons (sd_for PassesOwn.never rfl (id_list (ed_var 1)) (gd_name 2 nd) (sds_one (sd_for PassesOwn.never rfl (id_list (ed_var 1)) (gd_name 3 nd) (sds_one (sd_for PassesOwn.never rfl (id_list (ed_var 1)) (gd_name 4 nd) (sds_cons (sd_set 5 nd (ed_call (D_joined_steps M) (hr.mono (by decide)) (ad_cons (ed_var 0) (ad_cons (ed_at (ed_at (ed_var 0) (ed_var 2)) (ed_var 3)) (ad_cons (ed_shl ed_int (ed_var 4)) ad_nil))))) (sds_cons (sd_set 6 nd (ed_call (D_joined_steps M) (hr.mono (by decide)) (ad_cons (ed_var 0) (ad_cons (ed_shl ed_int (ed_var 2)) (ad_cons (ed_at (ed_at (ed_var 0) (ed_var 3)) (ed_var 4)) ad_nil))))) (sds_one (sd_if (td_ne hr (ed_var 5) (ed_var 6)) (sds_one (sd_ret (ed_tup (ad_cons ed_str (ad_cons (ed_var 2) (ad_cons (ed_var 3) (ad_cons (ed_var 4) ad_nil))))))) sds_nil))))))))) (sds_one (sd_ret ed_non))))
theorem D_row_fault (M : MF T P w mg base) : Def T P w mg base 3 "row_fault" 1 g_row_fault := mkDef M.f_row_fault sc_row_fault (B_row_fault M)
/-- first_fault -/
theorem sc_first_fault : FnScope ["same", "backs", "steps", "found"] ["same", "backs", "steps"] (defScope (topS 30)) := ⟨rfl, rfl, rfl, by decide +kernel, rfl, by decide +kernel, by decide +kernel⟩
def n_first_fault : DS := (sSeq (sSet 3 (dCall g_back_fault (aCons (dVar 1) aNil))) (sSeq (sIf (tAndD (t1 fIsN (dVar 3)) (t2 fNe (d2 fIx (dVar 1) (dVar 0)) (dVar 0))) (sSet 3 (dCall mkTup (aCons (dC (.str "own")) (aCons (dVar 0) aNil)))) sNext) (sSeq (sIf (t1 fIsN (dVar 3)) (sSet 3 (dCall g_same_fault (aCons (dVar 0) (aCons (dVar 2) aNil)))) sNext) (sSeq (sIf (t1 fIsN (dVar 3)) (sSet 3 (dCall g_turn_fault (aCons (dVar 1) (aCons (dVar 2) aNil)))) sNext) (sRet (dIf (t1 fIsN (dVar 3)) (dCall g_row_fault (aCons (dVar 2) aNil)) (dVar 3)))))))
def g_first_fault : List D → Option D := runD 4 n_first_fault
theorem B_first_fault (M : MF T P w mg base) : Bod T P w mg base 3 ["same", "backs", "steps", "found"] "first_fault" (topS 30) n_first_fault := fun f cdv A outer s H E hr => by
  have nd := sc_first_fault.nd
  exact (sds_cons (sd_set 3 nd (ed_call (D_back_fault M) (hr.mono (by decide)) (ad_cons (ed_var 1) ad_nil))) (sds_cons (sd_if (td_wd (wd_and (td_isN (ed_var 3)) (wd_and1 (td_ne hr (ed_at (ed_var 1) (ed_var 0)) (ed_var 0))))) (sds_one (sd_set 3 nd (ed_tup (ad_cons ed_str (ad_cons (ed_var 0) ad_nil))))) sds_nil) (sds_cons (sd_if (td_isN (ed_var 3)) (sds_one (sd_set 3 nd (ed_call (D_same_fault M) (hr.mono (by decide)) (ad_cons (ed_var 0) (ad_cons (ed_var 2) ad_nil))))) sds_nil) (sds_cons (sd_if (td_isN (ed_var 3)) (sds_one (sd_set 3 nd (ed_call (D_turn_fault M) (hr.mono (by decide)) (ad_cons (ed_var 1) (ad_cons (ed_var 2) ad_nil))))) sds_nil) (sds_one (sd_ret (ed_ifExp (td_isN (ed_var 3)) (ed_call (D_row_fault M) (hr.mono (by decide)) (ad_cons (ed_var 2) ad_nil)) (ed_var 3))))))))
theorem D_first_fault (M : MF T P w mg base) : Def T P w mg base 4 "first_fault" 3 g_first_fault := mkDef M.f_first_fault sc_first_fault (B_first_fault M)
/-- bits_shown -/
theorem sc_bits_shown : FnScope ["bits", "names", "at"] ["bits", "names"] (defScope (topS 32)) := ⟨rfl, rfl, rfl, by decide +kernel, rfl, by decide +kernel, by decide +kernel⟩
def n_bits_shown : DS := (sRet (dLc (kIn (iL listOf (dCall g_places_in (aCons (dVar 0) aNil))) [2] (gN 2) tYesD (kOne (d2 fIx (dVar 1) (dVar 2))))))
def g_bits_shown : List D → Option D := runD 3 n_bits_shown
theorem B_bits_shown (M : MF T P w mg base) : Bod T P w mg base 1 ["bits", "names", "at"] "bits_shown" (topS 32) n_bits_shown := fun f cdv A outer s H E hr => by
  have nd := sc_bits_shown.nd
  exact (sds_one (sd_ret (ed_lc (own := [("at", 2)]) rfl nd (id_list (ed_call (D_places_in M) (hr.mono (by decide)) (ad_cons (ed_var 0) ad_nil))) (blkOk_by (by kernel_rfl)) (fun _ _ _ _ _ => gd_name 2 nd) (fun _ _ _ _ _ => tsd_nil) (fun _ _ _ _ _ => (ed_at (ed_var 1) (ed_var 2))) )))
theorem D_bits_shown (M : MF T P w mg base) : Def T P w mg base 2 "bits_shown" 2 g_bits_shown := mkDef M.f_bits_shown sc_bits_shown (B_bits_shown M)
/-- is_name -/
theorem sc_is_name : FnScope ["text", "sign"] ["text"] (defScope (topS 37)) := ⟨rfl, rfl, rfl, by decide +kernel, rfl, by decide +kernel, by decide +kernel⟩
def n_is_name : DS := (sSeq (sIf (tOrD (tNotD (t1 truD (dB (t1 (fIs .str) (dVar 0))))) (tNotD (tAndD (t2 fLe (dC (.int 1)) (dCall (one fLen) (aCons (dVar 0) aNil))) (t2 fLe (dCall (one fLen) (aCons (dVar 0) aNil)) (dC c_MOST_LETTERS))))) (sRet (dC (.bl false))) sNext) (sRet (dB (t1 blD (dCall (one fAll) (aCons (dLc (kIn (iL signsOf (dVar 0)) [1] (gN 1) tYesD (kOne (dB (t2 fInT (dVar 1) (dC c_LETTERS)))))) aNil))))))
def g_is_name : List D → Option D := runD 2 n_is_name
theorem B_is_name (M : MF T P w mg base) : Bod T P w mg base 0 ["text", "sign"] "is_name" (topS 37) n_is_name := fun f cdv A outer s H E hr => by
  have nd := sc_is_name.nd
  exact (sds_cons (sd_if (td_wd (wd_or (td_not (td_tru (ed_isi .str (M.b_isinstance) (M.b_str) (by decide +kernel) (ed_var 0)))) (wd_or1 (td_not (td_chainLe ed_int (ed_len M.b_len (ed_var 0)) (ed_cst M.u_MOST_LETTERS)))))) (sds_one (sd_ret ed_bl)) sds_nil) (sds_one (sd_ret (ed_toB (ed_all rfl M.b_all (ed_lc (own := [("sign", 1)]) rfl nd (id_str (ed_var 0)) (blkOk_by (by kernel_rfl)) (fun _ _ _ _ _ => gd_name 1 nd) (fun _ _ _ _ _ => tsd_nil) (fun _ _ _ _ _ => (ed_inT (ed_var 1) (ed_cst M.u_LETTERS))) ))))))
theorem D_is_name (M : MF T P w mg base) : Def T P w mg base 1 "is_name" 1 g_is_name := mkDef M.f_is_name sc_is_name (B_is_name M)
/-- are_names -/
theorem sc_are_names : FnScope ["names", "name"] ["names"] (defScope (topS 38)) := ⟨rfl, rfl, rfl, by decide +kernel, rfl, by decide +kernel, by decide +kernel⟩
def n_are_names : DS := (sSeq (sIf (tOrD (tNotD (t1 truD (dB (t1 (fIs .list) (dVar 0))))) (tNotD (tAndD (t2 fLe (dC (.int 1)) (dCall (one fLen) (aCons (dVar 0) aNil))) (t2 fLe (dCall (one fLen) (aCons (dVar 0) aNil)) (dC c_MOST_KINDS))))) (sRet (dC (.bl false))) sNext) (sRet (dB (tAndD (t1 blD (dCall (one fAll) (aCons (dLc (kIn (iL listOf (dVar 0)) [1] (gN 1) tYesD (kOne (dCall g_is_name (aCons (dVar 1) aNil))))) aNil))) (t2 fEq (dLenS (kInS (iL listOf (dVar 0)) [1] (gN 1) tYesD (dVar 1))) (dCall (one fLen) (aCons (dVar 0) aNil)))))))
def g_are_names : List D → Option D := runD 2 n_are_names
theorem B_are_names (M : MF T P w mg base) : Bod T P w mg base 1 ["names", "name"] "are_names" (topS 38) n_are_names := fun f cdv A outer s H E hr => by
  have nd := sc_are_names.nd
  exact (sds_cons (sd_if (td_wd (wd_or (td_not (td_tru (ed_isi .list (M.b_isinstance) (M.b_list) (by decide +kernel) (ed_var 0)))) (wd_or1 (td_not (td_chainLe ed_int (ed_len M.b_len (ed_var 0)) (ed_cst M.u_MOST_KINDS)))))) (sds_one (sd_ret ed_bl)) sds_nil) (sds_one (sd_ret (ed_and (ed_toB (ed_all rfl M.b_all (ed_lc (own := [("name", 1)]) rfl nd (id_list (ed_var 0)) (blkOk_by (by kernel_rfl)) (fun _ _ _ _ _ => gd_name 1 nd) (fun _ _ _ _ _ => tsd_nil) (fun _ _ _ _ _ => (ed_call (D_is_name M) (hr.mono (by decide)) (ad_cons (ed_var 1) ad_nil))) ))) (ed_one (ed_eq hr (ed_lenSc M.b_len (own := [("name", 1)]) rfl nd (id_list (ed_var 0)) (blkOk_by (by kernel_rfl)) (fun _ _ _ _ _ => gd_name 1 nd) (fun _ _ _ _ _ => tsd_nil) (fun _ _ _ _ _ => (ed_var 1))) (ed_len M.b_len (ed_var 0))))))))
theorem D_are_names (M : MF T P w mg base) : Def T P w mg base 2 "are_names" 1 g_are_names := mkDef M.f_are_names sc_are_names (B_are_names M)
/-- within -/
theorem sc_within : FnScope ["things", "names", "one"] ["things", "names"] (defScope (topS 39)) := ⟨rfl, rfl, rfl, by decide +kernel, rfl, by decide +kernel, by decide +kernel⟩
def n_within : DS := (sRet (dB (tAndD (t1 (fIs .list) (dVar 0)) (t1 blD (dCall (one fAll) (aCons (dLc (kIn (iL listOf (dVar 0)) [2] (gN 2) tYesD (kOne (dB (tAndD (t1 (fIs .str) (dVar 2)) (t2 fIn (dVar 2) (dVar 1))))))) aNil))))))
def g_within : List D → Option D := runD 3 n_within
theorem B_within (M : MF T P w mg base) : Bod T P w mg base 0 ["things", "names", "one"] "within" (topS 39) n_within := fun f cdv A outer s H E hr => by
  have nd := sc_within.nd
  exact (sds_one (sd_ret (ed_and (ed_isi .list (M.b_isinstance) (M.b_list) (by decide +kernel) (ed_var 0)) (ed_one (ed_toB (ed_all rfl M.b_all (ed_lc (own := [("one", 2)]) rfl nd (id_list (ed_var 0)) (blkOk_by (by kernel_rfl)) (fun _ _ _ _ _ => gd_name 2 nd) (fun _ _ _ _ _ => tsd_nil) (fun _ _ _ _ _ => (ed_and (ed_isi .str (M.b_isinstance) (M.b_str) (by decide +kernel) (ed_var 2)) (ed_one (ed_in (ed_var 2) (ed_var 1))))) )))))))
theorem D_within (M : MF T P w mg base) : Def T P w mg base 1 "within" 2 g_within := mkDef M.f_within sc_within (B_within M)
/-- square -/
theorem sc_square : FnScope ["steps", "names", "line", "things"] ["steps", "names"] (defScope (topS 40)) := ⟨rfl, rfl, rfl, by decide +kernel, rfl, by decide +kernel, by decide +kernel⟩
def n_square : DS := (sSeq (sIf (tOrD (tNotD (t1 truD (dB (t1 (fIs .list) (dVar 0))))) (t2 fNe (dCall (one fLen) (aCons (dVar 0) aNil)) (dCall (one fLen) (aCons (dVar 1) aNil)))) (sRet (dC (.bl false))) sNext) (sSeq (sFor (iL listOf (dVar 0)) (gN 2) (sSeq (sIf (tOrD (tNotD (t1 truD (dB (t1 (fIs .list) (dVar 2))))) (t2 fNe (dCall (one fLen) (aCons (dVar 2) aNil)) (dCall (one fLen) (aCons (dVar 1) aNil)))) (sRet (dC (.bl false))) sNext) (sIf (tNotD (t1 truD (dB (t1 blD (dCall (one fAll) (aCons (dLc (kIn (iL listOf (dVar 2)) [3] (gN 3) tYesD (kOne (dCall g_within (aCons (dVar 3) (aCons (dVar 1) aNil)))))) aNil)))))) (sRet (dC (.bl false))) sNext))) (sRet (dC (.bl true)))))
def g_square : List D → Option D := runD 4 n_square
theorem B_square (M : MF T P w mg base) : Bod T P w mg base 1 ["steps", "names", "line", "things"] "square" (topS 40) n_square := fun f cdv A outer s H E hr => by
  have nd := sc_square.nd
  exact (sds_cons (sd_if (td_wd (wd_or (td_not (td_tru (ed_isi .list (M.b_isinstance) (M.b_list) (by decide +kernel) (ed_var 0)))) (wd_or1 (td_ne hr (ed_len M.b_len (ed_var 0)) (ed_len M.b_len (ed_var 1)))))) (sds_one (sd_ret ed_bl)) sds_nil) (sds_cons (sd_for PassesOwn.never rfl (id_list (ed_var 0)) (gd_name 2 nd) (sds_cons (sd_if (td_wd (wd_or (td_not (td_tru (ed_isi .list (M.b_isinstance) (M.b_list) (by decide +kernel) (ed_var 2)))) (wd_or1 (td_ne hr (ed_len M.b_len (ed_var 2)) (ed_len M.b_len (ed_var 1)))))) (sds_one (sd_ret ed_bl)) sds_nil) (sds_one (sd_if (td_not (td_tru (ed_toB (ed_all rfl M.b_all (ed_lc (own := [("things", 3)]) rfl nd (id_list (ed_var 2)) (blkOk_by (by kernel_rfl)) (fun _ _ _ _ _ => gd_name 3 nd) (fun _ _ _ _ _ => tsd_nil) (fun _ _ _ _ _ => (ed_call (D_within M) (hr.mono (by decide)) (ad_cons (ed_var 3) (ad_cons (ed_var 1) ad_nil)))) ))))) (sds_one (sd_ret ed_bl)) sds_nil)))) (sds_one (sd_ret ed_bl))))
theorem D_square (M : MF T P w mg base) : Def T P w mg base 2 "square" 2 g_square := mkDef M.f_square sc_square (B_square M)
/-- need_form -/
theorem sc_need_form : FnScope ["names", "same", "backs", "steps"] ["names", "same", "backs", "steps"] (defScope (topS 41)) := ⟨rfl, rfl, rfl, by decide +kernel, rfl, by decide +kernel, by decide +kernel⟩
def n_need_form : DS := (sSeq (sIf (tOrD (tNotD (t1 truD (dCall g_are_names (aCons (dVar 0) aNil)))) (tOrD (tNotD (t1 truD (dB (t1 (fIs .str) (dVar 1))))) (t2 fNotIn (dVar 1) (dVar 0)))) sNev sNext) (sIf (tOrD (tNotD (t1 truD (dCall g_within (aCons (dVar 2) (aCons (dVar 0) aNil))))) (tOrD (t2 fNe (dCall (one fLen) (aCons (dVar 2) aNil)) (dCall (one fLen) (aCons (dVar 0) aNil))) (tNotD (t1 truD (dCall g_square (aCons (dVar 3) (aCons (dVar 0) aNil))))))) sNev sNext))
def g_need_form : List D → Option D := runD 4 n_need_form
theorem B_need_form (M : MF T P w mg base) : Bod T P w mg base 2 ["names", "same", "backs", "steps"] "need_form" (topS 41) n_need_form := fun f cdv A outer s H E hr => by
  have nd := sc_need_form.nd
  exact (sds_cons (sd_if (td_wd (wd_or (td_not (td_tru (ed_call (D_are_names M) (hr.mono (by decide)) (ad_cons (ed_var 0) ad_nil)))) (wd_or (td_not (td_tru (ed_isi .str (M.b_isinstance) (M.b_str) (by decide +kernel) (ed_var 1)))) (wd_or1 (td_notIn (ed_var 1) (ed_var 0)))))) sds_never sds_nil) (sds_one (sd_if (td_wd (wd_or (td_not (td_tru (ed_call (D_within M) (hr.mono (by decide)) (ad_cons (ed_var 2) (ad_cons (ed_var 0) ad_nil))))) (wd_or (td_ne hr (ed_len M.b_len (ed_var 2)) (ed_len M.b_len (ed_var 0))) (wd_or1 (td_not (td_tru (ed_call (D_square M) (hr.mono (by decide)) (ad_cons (ed_var 3) (ad_cons (ed_var 0) ad_nil))))))))) sds_never sds_nil)))
theorem D_need_form (M : MF T P w mg base) : Def T P w mg base 3 "need_form" 4 g_need_form := mkDef M.f_need_form sc_need_form (B_need_form M)
/-- bits_in -/
theorem sc_bits_in : FnScope ["things", "names", "one"] ["things", "names"] (defScope (topS 42)) := ⟨rfl, rfl, rfl, by decide +kernel, rfl, by decide +kernel, by decide +kernel⟩
def n_bits_in : DS := (sRet (dCall g_bits_of (aCons (dLc (kIn (iL listOf (dVar 0)) [2] (gN 2) tYesD (kOne (d2 fIndexL (dVar 1) (dVar 2))))) aNil)))
def g_bits_in : List D → Option D := runD 3 n_bits_in
theorem B_bits_in (M : MF T P w mg base) : Bod T P w mg base 1 ["things", "names", "one"] "bits_in" (topS 42) n_bits_in := fun f cdv A outer s H E hr => by
  have nd := sc_bits_in.nd
  exact (sds_one (sd_ret (ed_call (D_bits_of M) (hr.mono (by decide)) (ad_cons (ed_lc (own := [("one", 2)]) rfl nd (id_list (ed_var 0)) (blkOk_by (by kernel_rfl)) (fun _ _ _ _ _ => gd_name 2 nd) (fun _ _ _ _ _ => tsd_nil) (fun _ _ _ _ _ => (ed_indexLL (ed_var 1) (ed_var 2))) ) ad_nil))))
theorem D_bits_in (M : MF T P w mg base) : Def T P w mg base 2 "bits_in" 2 g_bits_in := mkDef M.f_bits_in sc_bits_in (B_bits_in M)
/-- parts_of -/
theorem sc_parts_of : FnScope ["names", "same", "backs", "steps", "lines", "line", "things", "one"] ["names", "same", "backs", "steps"] (defScope (topS 43)) := ⟨rfl, rfl, rfl, by decide +kernel, rfl, by decide +kernel, by decide +kernel⟩
def n_parts_of : DS := (sSeq (sSet 4 (dLc (kIn (iL listOf (dVar 3)) [5] (gN 5) tYesD (kOne (dLc (kIn (iL listOf (dVar 5)) [6] (gN 6) tYesD (kOne (dCall g_bits_in (aCons (dVar 6) (aCons (dVar 0) aNil)))))))))) (sRet (dCall mkTup (aCons (d2 fIndexL (dVar 0) (dVar 1)) (aCons (dLc (kIn (iL listOf (dVar 2)) [7] (gN 7) tYesD (kOne (d2 fIndexL (dVar 0) (dVar 7))))) (aCons (dVar 4) aNil))))))
def g_parts_of : List D → Option D := runD 8 n_parts_of
theorem B_parts_of (M : MF T P w mg base) : Bod T P w mg base 2 ["names", "same", "backs", "steps", "lines", "line", "things", "one"] "parts_of" (topS 43) n_parts_of := fun f cdv A outer s H E hr => by
  have nd := sc_parts_of.nd
  exact (sds_cons (sd_setLc 4 (own := [("line", 5)]) rfl nd (id_list (ed_var 3)) (blkOk_by (by kernel_rfl)) (fun _ _ _ _ _ => gd_name 5 nd) (fun _ _ _ _ _ => tsd_nil) (fun _ _ _ _ _ => (ed_lc (own := [("things", 6)]) rfl nd (id_list (ed_var 5)) (blkOk_by (by kernel_rfl)) (fun _ _ _ _ _ => gd_name 6 nd) (fun _ _ _ _ _ => tsd_nil) (fun _ _ _ _ _ => (ed_call (D_bits_in M) (hr.mono (by decide)) (ad_cons (ed_var 6) (ad_cons (ed_var 0) ad_nil)))) ))  (sw_true rfl rfl rfl (by kernel_rfl))) (sds_one (sd_ret (ed_tup (ad_cons (ed_indexLL (ed_var 0) (ed_var 1)) (ad_cons (ed_lc (own := [("one", 7)]) rfl nd (id_list (ed_var 2)) (blkOk_by (by kernel_rfl)) (fun _ _ _ _ _ => gd_name 7 nd) (fun _ _ _ _ _ => tsd_nil) (fun _ _ _ _ _ => (ed_indexLL (ed_var 0) (ed_var 7))) ) (ad_cons (ed_var 4) ad_nil)))))))
theorem D_parts_of (M : MF T P w mg base) : Def T P w mg base 3 "parts_of" 4 g_parts_of := mkDef M.f_parts_of sc_parts_of (B_parts_of M)
/-- Table.__init__ -/
theorem sc_Table_u__init_u_ : FnScope ["self", "names", "same", "backs", "steps", "found", "told"] ["self", "names", "same", "backs", "steps"] (defScope (inClass (topS 44) 0)) := ⟨rfl, rfl, rfl, by decide +kernel, rfl, by decide +kernel, by decide +kernel⟩
def n_Table_init : DS := (sSeq (sDrop (dCall g_need_form (aCons (dVar 1) (aCons (dVar 2) (aCons (dVar 3) (aCons (dVar 4) aNil)))))) (sSeq (sSetF 0 "names" (dCall (one fTuple) (aCons (dVar 1) aNil))) (sSeq (sSetF 0 "same" (dVar 2)) (sSeq (sSetF3 0 "own" "turned" "lines" (dCall g_parts_of (aCons (dVar 1) (aCons (dVar 2) (aCons (dVar 3) (aCons (dVar 4) aNil)))))) (sSeq (sSet 5 (dCall g_first_fault (aCons (dFldO 0 "own") (aCons (dFldO 0 "turned") (aCons (dFldO 0 "lines") aNil))))) (sIf (tNotD (t1 fIsN (dVar 5))) sNev sNext))))))
theorem B_Table_init (M : MF T P w mg base) : Bod T P w mg base 4 ["self", "names", "same", "backs", "steps", "found", "told"] "Table.__init__" (inClass (topS 44) 0) n_Table_init := fun f cdv A outer s H E hr => by
  have nd := sc_Table_u__init_u_.nd
  exact (sds_cons (sd_expr (ed_call (D_need_form M) (hr.mono (by decide)) (ad_cons (ed_var 1) (ad_cons (ed_var 2) (ad_cons (ed_var 3) (ad_cons (ed_var 4) ad_nil)))))) (sds_cons (sd_setF 0 (fun _ => M.fok 0 (by rw [M.fs]; rfl)) (ed_tuple M.b_tuple (ed_var 1))) (sds_cons (sd_setF 0 (fun _ => M.fok 1 (by rw [M.fs]; rfl)) (ed_var 2)) (sds_cons (sd_setF3 0 rfl (fun _ => ⟨M.fok 2 (by rw [M.fs]; rfl), M.fok 3 (by rw [M.fs]; rfl), M.fok 4 (by rw [M.fs]; rfl)⟩) (ed_call (D_parts_of M) (hr.mono (by decide)) (ad_cons (ed_var 1) (ad_cons (ed_var 2) (ad_cons (ed_var 3) (ad_cons (ed_var 4) ad_nil)))))) (sds_cons (sd_set 5 nd (ed_call (D_first_fault M) (hr.mono (by decide)) (ad_cons (ed_fldO 0 (fun _ => M.fok 2 (by rw [M.fs]; rfl))) (ad_cons (ed_fldO 0 (fun _ => M.fok 3 (by rw [M.fs]; rfl))) (ad_cons (ed_fldO 0 (fun _ => M.fok 4 (by rw [M.fs]; rfl))) ad_nil))))) (sds_one (sd_if (td_notN (ed_var 5)) sds_never sds_nil)))))))
def g_Table_init (fs : List Str) : Addr → List D → Option (List D) := runI 6 fs n_Table_init
theorem I_Table (M : MF T P w mg base) : InitOk T P w mg base 5 4 "Table" (g_Table_init fsL) := by
  have h := mkInit (N := ["self", "names", "same", "backs", "steps", "found", "told"]) M.f_Table_init M.g_Table rfl rfl sc_Table_u__init_u_ (B_Table_init M)
  rw [M.fs] at h
  exact h
def h_Table : List D → Option (List D) := fun a => match a with
  | [names, same, backs, steps] => (match g_need_form [names, same, backs, steps] with
    | some .non => (match g_parts_of [names, same, backs, steps] with
      | some (.tup [own, turned, lines]) => (match names with
        | .lst ns => (match g_first_fault [own, turned, lines] with
          | some .non => some [.wtp ns, same, own, turned, lines]
          | _ => none)
        | _ => none)
      | _ => none)
    | _ => none)
  | _ => none
theorem hg_Table : ∀ p ds d, h_Table ds = some d → g_Table_init fsL p ds = some d := by
  intro p ds d h
  unfold h_Table at h
  split at h
  · rename_i names same backs steps
    split at h
    · rename_i h1
      split at h
      · rename_i own turned lines h2
        split at h
        · rename_i ns
          split at h
          · rename_i h3
            cases h
            have i0 : inS "names" [] = false := rfl
            have i1 : inS "same" ["names"] = false := by decide +kernel
            have i2 : inS "own" ["names", "same"] = false := by decide +kernel
            have i3 : inS "turned" ["names", "same", "own"] = false := by decide +kernel
            have i4 : inS "lines" ["names", "same", "own", "turned"] = false := by decide +kernel
            have l1 : lookF "own" ["names", "same", "own", "turned", "lines"] [D.wtp ns, same, own, turned, lines] = some own := rfl
            have l2 : lookF "turned" ["names", "same", "own", "turned", "lines"] [D.wtp ns, same, own, turned, lines] = some turned := rfl
            have l3 : lookF "lines" ["names", "same", "own", "turned", "lines"] [D.wtp ns, same, own, turned, lines] = some lines := rfl
            have e1 : eqSs ["names", "same", "own", "turned", "lines"] ["names", "same", "own", "turned", "lines"] = true := by decide +kernel
            simp [fsL, g_Table_init, runI, n_Table_init, startI, sSeq, sDrop, dCall, aCons, aNil, dVar, atS, h1, h2, sSetF, sSetF3, one, fTuple, dFldO, h3, sSet, sIf, tNotD, t1, fIsN, sNext, i0, i1, i2, i3, i4, l1, l2, l3, e1]
          · cases h
        · cases h
      · cases h
    · cases h
  · cases h
/-- Table.__eq__ -/
theorem sc_Table_u__eq_u_ : FnScope ["self", "other", "mine"] ["self", "other"] (defScope (inClass (topS 44) 2)) := ⟨rfl, rfl, rfl, by decide +kernel, rfl, by decide +kernel, by decide +kernel⟩
def n_Table_u__eq_u_ : DS := (sSeq (sIf (tNotD (t1 truD (dB (t1 fIsIns (dVar 1))))) (sRet (dC (.bl false))) sNext) (sSeq (sSet 2 (dCall mkTup (aCons (d1 (fFld 0) (dVar 0)) (aCons (d1 (fFld 1) (dVar 0)) (aCons (d1 (fFld 3) (dVar 0)) (aCons (d1 (fFld 4) (dVar 0)) aNil)))))) (sRet (dB (t2 fEq (dVar 2) (dCall mkTup (aCons (d1 (fFld 0) (dVar 1)) (aCons (d1 (fFld 1) (dVar 1)) (aCons (d1 (fFld 3) (dVar 1)) (aCons (d1 (fFld 4) (dVar 1)) aNil))))))))))
def g_Table_u__eq_u_ : List D → Option D := runD 3 n_Table_u__eq_u_
theorem B_Table_u__eq_u_ (M : MF T P w mg base) : Bod T P w mg base 0 ["self", "other", "mine"] "Table.__eq__" (inClass (topS 44) 2) n_Table_u__eq_u_ := fun f cdv A outer s H E hr => by
  have nd := sc_Table_u__eq_u_.nd
  exact (sds_cons (sd_if (td_not (td_tru (ed_isIns M.insC M.b_isinstance M.g_Table (ed_var 1)))) (sds_one (sd_ret ed_bl)) sds_nil) (sds_cons (sd_set 2 nd (ed_tup (ad_cons (ed_fld 0 (fun _ => M.ins) (by rw [M.fs]; rfl) (ed_var 0)) (ad_cons (ed_fld 1 (fun _ => M.ins) (by rw [M.fs]; rfl) (ed_var 0)) (ad_cons (ed_fld 3 (fun _ => M.ins) (by rw [M.fs]; rfl) (ed_var 0)) (ad_cons (ed_fld 4 (fun _ => M.ins) (by rw [M.fs]; rfl) (ed_var 0)) ad_nil)))))) (sds_one (sd_ret (ed_eq hr (ed_var 2) (ed_tup (ad_cons (ed_fld 0 (fun _ => M.ins) (by rw [M.fs]; rfl) (ed_var 1)) (ad_cons (ed_fld 1 (fun _ => M.ins) (by rw [M.fs]; rfl) (ed_var 1)) (ad_cons (ed_fld 3 (fun _ => M.ins) (by rw [M.fs]; rfl) (ed_var 1)) (ad_cons (ed_fld 4 (fun _ => M.ins) (by rw [M.fs]; rfl) (ed_var 1)) ad_nil))))))))))
theorem D_Table_u__eq_u_ (M : MF T P w mg base) : Mdef T P w mg base 1 "__eq__" 2 g_Table_u__eq_u_ := mkMdef M.f_Table_u__eq_u_ (M.x_Table_u__eq_u_) sc_Table_u__eq_u_ (B_Table_u__eq_u_ M)
/-- Table.place -/
theorem sc_Table_place : FnScope ["self", "kind"] ["self", "kind"] (defScope (inClass (topS 44) 5)) := ⟨rfl, rfl, rfl, by decide +kernel, rfl, by decide +kernel, by decide +kernel⟩
def n_Table_place : DS := (sSeq (sIf (t2 fNotIn (dVar 1) (d1 (fFld 0) (dVar 0))) sNev sNext) (sRet (d2 fIndexW (d1 (fFld 0) (dVar 0)) (dVar 1))))
def g_Table_place : List D → Option D := runD 2 n_Table_place
theorem B_Table_place (M : MF T P w mg base) : Bod T P w mg base 0 ["self", "kind"] "Table.place" (inClass (topS 44) 5) n_Table_place := fun f cdv A outer s H E hr => by
  have nd := sc_Table_place.nd
  exact (sds_cons (sd_if (td_notIn (ed_var 1) (ed_fld 0 (fun _ => M.ins) (by rw [M.fs]; rfl) (ed_var 0))) sds_never sds_nil) (sds_one (sd_ret (ed_indexW (ed_fld 0 (fun _ => M.ins) (by rw [M.fs]; rfl) (ed_var 0)) (ed_var 1)))))
theorem D_Table_place (M : MF T P w mg base) : Mdef T P w mg base 1 "place" 2 g_Table_place := mkMdef M.f_Table_place (M.x_Table_place) sc_Table_place (B_Table_place M)
/-- Table.shown -/
theorem sc_Table_shown : FnScope ["self", "bits"] ["self", "bits"] (defScope (inClass (topS 44) 7)) := ⟨rfl, rfl, rfl, by decide +kernel, rfl, by decide +kernel, by decide +kernel⟩
def n_Table_shown : DS := (sRet (dCall g_bits_shown (aCons (dVar 1) (aCons (d1 (fFld 0) (dVar 0)) aNil))))
def g_Table_shown : List D → Option D := runD 2 n_Table_shown
theorem B_Table_shown (M : MF T P w mg base) : Bod T P w mg base 2 ["self", "bits"] "Table.shown" (inClass (topS 44) 7) n_Table_shown := fun f cdv A outer s H E hr => by
  have nd := sc_Table_shown.nd
  exact (sds_one (sd_ret (ed_call (D_bits_shown M) (hr.mono (by decide)) (ad_cons (ed_var 1) (ad_cons (ed_fld 0 (fun _ => M.ins) (by rw [M.fs]; rfl) (ed_var 0)) ad_nil)))))
theorem D_Table_shown (M : MF T P w mg base) : Mdef T P w mg base 3 "shown" 2 g_Table_shown := mkMdef M.f_Table_shown (M.x_Table_shown) sc_Table_shown (B_Table_shown M)
/-- Table.kinds -/
theorem sc_Table_kinds : FnScope ["self"] ["self"] (defScope (inClass (topS 44) 11)) := ⟨rfl, rfl, rfl, by decide +kernel, rfl, by decide +kernel, by decide +kernel⟩
def n_Table_kinds : DS := (sRet (dCall (one fList) (aCons (d1 (fFld 0) (dVar 0)) aNil)))
def g_Table_kinds : List D → Option D := runD 1 n_Table_kinds
theorem B_Table_kinds (M : MF T P w mg base) : Bod T P w mg base 0 ["self"] "Table.kinds" (inClass (topS 44) 11) n_Table_kinds := fun f cdv A outer s H E hr => by
  have nd := sc_Table_kinds.nd
  exact (sds_one (sd_ret (ed_list M.b_list (ed_fld 0 (fun _ => M.ins) (by rw [M.fs]; rfl) (ed_var 0)))))
theorem D_Table_kinds (M : MF T P w mg base) : Mdef T P w mg base 1 "kinds" 1 g_Table_kinds := mkMdef M.f_Table_kinds (M.x_Table_kinds) sc_Table_kinds (B_Table_kinds M)
/-- Table.back -/
theorem sc_Table_back : FnScope ["self", "kind"] ["self", "kind"] (defScope (inClass (topS 44) 12)) := ⟨rfl, rfl, rfl, by decide +kernel, rfl, by decide +kernel, by decide +kernel⟩
def n_Table_back : DS := (sRet (d2 fIx (d1 (fFld 0) (dVar 0)) (d2 fIx (d1 (fFld 3) (dVar 0)) (dMeth g_Table_place (dVar 0) (aCons (dVar 1) aNil)))))
def g_Table_back : List D → Option D := runD 2 n_Table_back
theorem B_Table_back (M : MF T P w mg base) : Bod T P w mg base 1 ["self", "kind"] "Table.back" (inClass (topS 44) 12) n_Table_back := fun f cdv A outer s H E hr => by
  have nd := sc_Table_back.nd
  exact (sds_one (sd_ret (ed_at (ed_fld 0 (fun _ => M.ins) (by rw [M.fs]; rfl) (ed_var 0)) (ed_at (ed_fld 3 (fun _ => M.ins) (by rw [M.fs]; rfl) (ed_var 0)) (ed_meth (fun _ => M.ins) (D_Table_place M) (hr.mono (by decide)) (ed_var 0) (ad_cons (ed_var 1) ad_nil))))))
theorem D_Table_back (M : MF T P w mg base) : Mdef T P w mg base 2 "back" 2 g_Table_back := mkMdef M.f_Table_back (M.x_Table_back) sc_Table_back (B_Table_back M)
/-- Table.step -/
theorem sc_Table_step : FnScope ["self", "one", "other", "first"] ["self", "one", "other"] (defScope (inClass (topS 44) 13)) := ⟨rfl, rfl, rfl, by decide +kernel, rfl, by decide +kernel, by decide +kernel⟩
def n_Table_step : DS := (sSeq (sSet 3 (dMeth g_Table_place (dVar 0) (aCons (dVar 1) aNil))) (sRet (dMeth g_Table_shown (dVar 0) (aCons (d2 fIx (d2 fIx (d1 (fFld 4) (dVar 0)) (dVar 3)) (dMeth g_Table_place (dVar 0) (aCons (dVar 2) aNil))) aNil))))
def g_Table_step : List D → Option D := runD 4 n_Table_step
theorem B_Table_step (M : MF T P w mg base) : Bod T P w mg base 3 ["self", "one", "other", "first"] "Table.step" (inClass (topS 44) 13) n_Table_step := fun f cdv A outer s H E hr => by
  have nd := sc_Table_step.nd
  exact (sds_cons (sd_set 3 nd (ed_meth (fun _ => M.ins) (D_Table_place M) (hr.mono (by decide)) (ed_var 0) (ad_cons (ed_var 1) ad_nil))) (sds_one (sd_ret (ed_meth (fun _ => M.ins) (D_Table_shown M) (hr.mono (by decide)) (ed_var 0) (ad_cons (ed_at (ed_at (ed_fld 4 (fun _ => M.ins) (by rw [M.fs]; rfl) (ed_var 0)) (ed_var 3)) (ed_meth (fun _ => M.ins) (D_Table_place M) (hr.mono (by decide)) (ed_var 0) (ad_cons (ed_var 2) ad_nil))) ad_nil)))))
theorem D_Table_step (M : MF T P w mg base) : Mdef T P w mg base 4 "step" 3 g_Table_step := mkMdef M.f_Table_step (M.x_Table_step) sc_Table_step (B_Table_step M)
/-- stretch_triples -/
theorem sc_stretch_triples : FnScope ["some", "high", "low", "one", "other", "third"] [] (defScope (topS 49)) := ⟨rfl, rfl, rfl, by decide +kernel, rfl, by decide +kernel, by decide +kernel⟩
def n_stretch_triples : DS := (sSeq (sSet 0 (dLc (kIn (iR1 (dC c_MOST_ENDS)) [1, 2] (gN 1) tYesD (kIn (iR1 (dVar 1)) [2] (gN 2) tYesD (kOne (dCall mkTup (aCons (dVar 2) (aCons (dVar 1) aNil)))))))) (sRet (dLc (kIn (iL listOf (dVar 0)) [3, 4, 5] (gN 3) tYesD (kIn (iL listOf (dVar 0)) [4, 5] (gN 4) tYesD (kIn (iL listOf (dVar 0)) [5] (gN 5) tYesD (kOne (dCall mkTup (aCons (dVar 3) (aCons (dVar 4) (aCons (dVar 5) aNil)))))))))))
def g_stretch_triples : List D → Option D := runD 6 n_stretch_triples
theorem B_stretch_triples (M : MF T P w mg base) : Bod T P w mg base 0 ["some", "high", "low", "one", "other", "third"] "stretch_triples" (topS 49) n_stretch_triples := fun f cdv A outer s H E hr => by
  have nd := sc_stretch_triples.nd
  exact (sds_cons (sd_set 0 nd (ed_lc2 (own := [("high", 1), ("low", 2)]) rfl nd (id_range1 M.b_range (ed_cst M.u_MOST_ENDS)) (blkOk_by (by kernel_rfl)) (fun _ _ _ _ _ => gd_name 1 nd) (fun _ _ _ _ _ => tsd_nil) (fun _ _ _ _ _ => (id_range1 M.b_range (ed_var 1))) (fun _ _ _ _ _ => gd_name 2 nd) (fun _ _ _ _ _ => tsd_nil) (fun _ _ _ _ _ => (ed_tup (ad_cons (ed_var 2) (ad_cons (ed_var 1) ad_nil)))) [2])) (sds_one (sd_ret (ed_lc3 (own := [("one", 3), ("other", 4), ("third", 5)]) rfl nd (id_list (ed_var 0)) (blkOk_by (by kernel_rfl)) (fun _ _ _ _ _ => gd_name 3 nd) (fun _ _ _ _ _ => tsd_nil) (fun _ _ _ _ _ => (id_list (ed_var 0))) (fun _ _ _ _ _ => gd_name 4 nd) (fun _ _ _ _ _ => tsd_nil) (fun _ _ _ _ _ => (id_list (ed_var 0))) (fun _ _ _ _ _ => gd_name 5 nd) (fun _ _ _ _ _ => tsd_nil) (fun _ _ _ _ _ => (ed_tup (ad_cons (ed_var 3) (ad_cons (ed_var 4) (ad_cons (ed_var 5) ad_nil))))) [4, 5] [5]))))
theorem D_stretch_triples (M : MF T P w mg base) : Def T P w mg base 1 "stretch_triples" 0 g_stretch_triples := mkDef M.f_stretch_triples sc_stretch_triples (B_stretch_triples M)
/-- moment_triples -/
theorem sc_moment_triples : FnScope ["some", "one", "other", "third"] [] (defScope (topS 50)) := ⟨rfl, rfl, rfl, by decide +kernel, rfl, by decide +kernel, by decide +kernel⟩
def n_moment_triples : DS := (sSeq (sSet 0 (d1 fRange (dC (.int 3)))) (sRet (dLc (kIn (iL listOf (dVar 0)) [1, 2, 3] (gN 1) tYesD (kIn (iL listOf (dVar 0)) [2, 3] (gN 2) tYesD (kIn (iL listOf (dVar 0)) [3] (gN 3) tYesD (kOne (dCall mkTup (aCons (dVar 1) (aCons (dVar 2) (aCons (dVar 3) aNil)))))))))))
def g_moment_triples : List D → Option D := runD 4 n_moment_triples
theorem B_moment_triples (M : MF T P w mg base) : Bod T P w mg base 0 ["some", "one", "other", "third"] "moment_triples" (topS 50) n_moment_triples := fun f cdv A outer s H E hr => by
  have nd := sc_moment_triples.nd
  exact (sds_cons (sd_set 0 nd (ed_listRange rfl M.b_list M.b_range ed_int)) (sds_one (sd_ret (ed_lc3 (own := [("one", 1), ("other", 2), ("third", 3)]) rfl nd (id_list (ed_var 0)) (blkOk_by (by kernel_rfl)) (fun _ _ _ _ _ => gd_name 1 nd) (fun _ _ _ _ _ => tsd_nil) (fun _ _ _ _ _ => (id_list (ed_var 0))) (fun _ _ _ _ _ => gd_name 2 nd) (fun _ _ _ _ _ => tsd_nil) (fun _ _ _ _ _ => (id_list (ed_var 0))) (fun _ _ _ _ _ => gd_name 3 nd) (fun _ _ _ _ _ => tsd_nil) (fun _ _ _ _ _ => (ed_tup (ad_cons (ed_var 1) (ad_cons (ed_var 2) (ad_cons (ed_var 3) ad_nil))))) [2, 3] [3]))))
theorem D_moment_triples (M : MF T P w mg base) : Def T P w mg base 1 "moment_triples" 0 g_moment_triples := mkDef M.f_moment_triples sc_moment_triples (B_moment_triples M)
/-- course_triples -/
theorem sc_course_triples : FnScope ["lines", "across", "up"] [] (defScope (topS 51)) := ⟨rfl, rfl, rfl, by decide +kernel, rfl, by decide +kernel, by decide +kernel⟩
def n_course_triples : DS := (sSeq (sSet 0 (dCall g_moment_triples aNil)) (sRet (dLc (kIn (iL listOf (dVar 0)) [1, 2] (gN 1) tYesD (kIn (iL listOf (dVar 0)) [2] (gN 2) tYesD (kOne (d2 fZipT (dVar 1) (dVar 2))))))))
def g_course_triples : List D → Option D := runD 3 n_course_triples
theorem B_course_triples (M : MF T P w mg base) : Bod T P w mg base 1 ["lines", "across", "up"] "course_triples" (topS 51) n_course_triples := fun f cdv A outer s H E hr => by
  have nd := sc_course_triples.nd
  exact (sds_cons (sd_set 0 nd (ed_call0 (D_moment_triples M) (hr.mono (by decide)))) (sds_one (sd_ret (ed_lc2 (own := [("across", 1), ("up", 2)]) rfl nd (id_list (ed_var 0)) (blkOk_by (by kernel_rfl)) (fun _ _ _ _ _ => gd_name 1 nd) (fun _ _ _ _ _ => tsd_nil) (fun _ _ _ _ _ => (id_list (ed_var 0))) (fun _ _ _ _ _ => gd_name 2 nd) (fun _ _ _ _ _ => tsd_nil) (fun _ _ _ _ _ => (ed_zipT M.b_tuple M.b_zip (ed_var 1) (ed_var 2))) [2]))))
theorem D_course_triples (M : MF T P w mg base) : Def T P w mg base 2 "course_triples" 0 g_course_triples := mkDef M.f_course_triples sc_course_triples (B_course_triples M)
/-- part_triples -/
theorem sc_part_triples : FnScope ["found", "shape", "marks", "sets", "sort", "at", "mark"] [] (defScope (topS 52)) := ⟨rfl, rfl, rfl, by decide +kernel, rfl, by decide +kernel, by decide +kernel⟩
def n_part_triples : DS := (sSeq (sNewG 0 0 (.lst [])) (sSeq (sFor (iR1 (dC (.int 128))) (gN 1) (sSeq (sSet 2 (dLc (kIn (iR2 (dC (.int 1)) (dC (.int 8))) [4] (gN 4) (t1 truD (d2 (fN nAnd) (d2 (fN nShr) (dVar 1) (d2 fSub (dVar 4) (dC (.int 1)))) (dC (.int 1)))) (kOne (dVar 4))))) (sSeq (sSet 3 (dLc (kIn (iR1 (dC (.int 3))) [5] (gN 5) tYesD (kOne (dLc (kIn (iL listOf (dVar 2)) [6] (gN 6) (t1 truD (d2 (fN nAnd) (d2 (fN nShr) (dVar 6) (dVar 5)) (dC (.int 1)))) (kOne (dVar 6)))))))) (sIf (t2 fNotInL (dCall mkLst aNil) (dVar 3)) (sApp 0 (dCall (one fTuple) (aCons (dVar 3) aNil))) sNext)))) (sFrz 0 (sRet (dVar 0)))))
def g_part_triples : List D → Option D := runD 7 n_part_triples
theorem B_part_triples (M : MF T P w mg base) : Bod T P w mg base 0 ["found", "shape", "marks", "sets", "sort", "at", "mark"] "part_triples" (topS 52) n_part_triples := fun f cdv A outer s H E hr => by
  have nd := sc_part_triples.nd
  exact (sds_cons (sd_newL 0 nd) (sds_cons (sd_for PassesOwn.never rfl (id_range1 M.b_range ed_int) (gd_name 1 nd) (sds_cons (sd_set 2 nd (ed_lc (own := [("sort", 4)]) rfl nd (id_range2 M.b_range ed_int ed_int) (blkOk_by (by kernel_rfl)) (fun _ _ _ _ _ => gd_name 4 nd) (fun _ _ _ _ _ => (tsd_one (td_tru (ed_band (ed_shr (ed_var 1) (ed_sub (ed_var 4) ed_int)) ed_int)))) (fun _ _ _ _ _ => (ed_var 4)) )) (sds_cons (sd_setLc 3 (own := [("at", 5)]) rfl nd (id_range1 M.b_range ed_int) (blkOk_by (by kernel_rfl)) (fun _ _ _ _ _ => gd_name 5 nd) (fun _ _ _ _ _ => tsd_nil) (fun _ _ _ _ _ => (ed_lc (own := [("mark", 6)]) rfl nd (id_list (ed_var 2)) (blkOk_by (by kernel_rfl)) (fun _ _ _ _ _ => gd_name 6 nd) (fun _ _ _ _ _ => (tsd_one (td_tru (ed_band (ed_shr (ed_var 6) (ed_var 5)) ed_int)))) (fun _ _ _ _ _ => (ed_var 6)) ))  (sw_true rfl rfl rfl (by kernel_rfl))) (sds_one (sd_if (td_notInL hr (ed_lst ad_nil) (ed_var 3)) (sds_one (sd_app 0 (ed_tuple M.b_tuple (ed_var 3)))) sds_nil))))) (sds_one (sd_frz 0 (sd_ret (ed_var 0))))))
theorem D_part_triples (M : MF T P w mg base) : Def T P w mg base 1 "part_triples" 0 g_part_triples := mkDef M.f_part_triples sc_part_triples (B_part_triples M)
/-- branch_triples -/
theorem sc_branch_triples : FnScope ["some", "one", "other", "third"] [] (defScope (topS 53)) := ⟨rfl, rfl, rfl, by decide +kernel, rfl, by decide +kernel, by decide +kernel⟩
def n_branch_triples : DS := (sSeq (sSet 0 (dCall mkLst (aCons (dCall mkTup (aCons (dC (.int 0)) aNil)) (aCons (dCall mkTup (aCons (dC (.int 0)) (aCons (dC (.int 1)) aNil))) (aCons (dCall mkTup (aCons (dC (.int 0)) (aCons (dC (.int 2)) aNil))) (aCons (dCall mkTup (aCons (dC (.int 0)) (aCons (dC (.int 1)) (aCons (dC (.int 3)) aNil)))) (aCons (dCall mkTup (aCons (dC (.int 0)) (aCons (dC (.int 1)) (aCons (dC (.int 4)) aNil)))) (aCons (dCall mkTup (aCons (dC (.int 0)) (aCons (dC (.int 1)) (aCons (dC (.int 3)) (aCons (dC (.int 5)) aNil))))) (aCons (dCall mkTup (aCons (dC (.int 6)) aNil)) aNil))))))))) (sRet (dLc (kIn (iL listOf (dVar 0)) [1, 2, 3] (gN 1) tYesD (kIn (iL listOf (dVar 0)) [2, 3] (gN 2) tYesD (kIn (iL listOf (dVar 0)) [3] (gN 3) tYesD (kOne (dCall mkTup (aCons (dVar 1) (aCons (dVar 2) (aCons (dVar 3) aNil)))))))))))
def g_branch_triples : List D → Option D := runD 4 n_branch_triples
theorem B_branch_triples (M : MF T P w mg base) : Bod T P w mg base 0 ["some", "one", "other", "third"] "branch_triples" (topS 53) n_branch_triples := fun f cdv A outer s H E hr => by
  have nd := sc_branch_triples.nd
  exact (sds_cons (sd_set 0 nd (ed_lst (ad_cons (ed_tup (ad_cons ed_int ad_nil)) (ad_cons (ed_tup (ad_cons ed_int (ad_cons ed_int ad_nil))) (ad_cons (ed_tup (ad_cons ed_int (ad_cons ed_int ad_nil))) (ad_cons (ed_tup (ad_cons ed_int (ad_cons ed_int (ad_cons ed_int ad_nil)))) (ad_cons (ed_tup (ad_cons ed_int (ad_cons ed_int (ad_cons ed_int ad_nil)))) (ad_cons (ed_tup (ad_cons ed_int (ad_cons ed_int (ad_cons ed_int (ad_cons ed_int ad_nil))))) (ad_cons (ed_tup (ad_cons ed_int ad_nil)) ad_nil))))))))) (sds_one (sd_ret (ed_lc3 (own := [("one", 1), ("other", 2), ("third", 3)]) rfl nd (id_list (ed_var 0)) (blkOk_by (by kernel_rfl)) (fun _ _ _ _ _ => gd_name 1 nd) (fun _ _ _ _ _ => tsd_nil) (fun _ _ _ _ _ => (id_list (ed_var 0))) (fun _ _ _ _ _ => gd_name 2 nd) (fun _ _ _ _ _ => tsd_nil) (fun _ _ _ _ _ => (id_list (ed_var 0))) (fun _ _ _ _ _ => gd_name 3 nd) (fun _ _ _ _ _ => tsd_nil) (fun _ _ _ _ _ => (ed_tup (ad_cons (ed_var 1) (ad_cons (ed_var 2) (ad_cons (ed_var 3) ad_nil))))) [2, 3] [3]))))
theorem D_branch_triples (M : MF T P w mg base) : Def T P w mg base 1 "branch_triples" 0 g_branch_triples := mkDef M.f_branch_triples sc_branch_triples (B_branch_triples M)
/-- need_word -/
theorem sc_need_word : FnScope ["word"] ["word"] (defScope (topS 55)) := ⟨rfl, rfl, rfl, by decide +kernel, rfl, by decide +kernel, by decide +kernel⟩
def n_need_word : DS := (sIf (t2 fNotIn (dVar 0) (dC c_WORDS)) sNev sNext)
def g_need_word : List D → Option D := runD 1 n_need_word
theorem B_need_word (M : MF T P w mg base) : Bod T P w mg base 0 ["word"] "need_word" (topS 55) n_need_word := fun f cdv A outer s H E hr => by
  have nd := sc_need_word.nd
  exact (sds_one (sd_if (td_notIn (ed_var 0) (ed_cst M.u_WORDS)) sds_never sds_nil))
theorem D_need_word (M : MF T P w mg base) : Def T P w mg base 1 "need_word" 1 g_need_word := mkDef M.f_need_word sc_need_word (B_need_word M)
def t_way : Nat → Option (List D → Option D)
  | 0 => some g_of_moments
  | 1 => some g_of_stretches
  | 2 => some g_of_courses
  | 3 => some g_of_branches
  | 4 => some g_of_parts
  | _ => none
theorem L_way (M : MF T P w mg base) : ∀ j g, t_way j = some g → Ldef T P w mg base 5 j 2 g := by
  intro j g h
  unfold t_way at h
  split at h
  · cases h; exact mkLdef (D_of_moments M) M.a_of_moments (by decide)
  · cases h; exact mkLdef (D_of_stretches M) M.a_of_stretches (by decide)
  · cases h; exact mkLdef (D_of_courses M) M.a_of_courses (by decide)
  · cases h; exact mkLdef (D_of_branches M) M.a_of_branches (by decide)
  · cases h; exact mkLdef (D_of_parts M) M.a_of_parts (by decide)
  · cases h
def t_gather : Nat → Option (List D → Option D)
  | 5 => some g_moment_triples
  | 6 => some g_stretch_triples
  | 7 => some g_course_triples
  | 8 => some g_branch_triples
  | 9 => some g_part_triples
  | _ => none
theorem L_gather (M : MF T P w mg base) : ∀ j g, t_gather j = some g → Ldef T P w mg base 5 j 0 g := by
  intro j g h
  unfold t_gather at h
  split at h
  · cases h; exact mkLdef (D_moment_triples M) M.a_moment_triples (by decide)
  · cases h; exact mkLdef (D_stretch_triples M) M.a_stretch_triples (by decide)
  · cases h; exact mkLdef (D_course_triples M) M.a_course_triples (by decide)
  · cases h; exact mkLdef (D_branch_triples M) M.a_branch_triples (by decide)
  · cases h; exact mkLdef (D_part_triples M) M.a_part_triples (by decide)
  · cases h
/-- seen_steps -/
theorem sc_seen_steps : FnScope ["word", "way", "gather", "found", "one", "other", "third", "pair"] ["word"] (defScope (topS 56)) := ⟨rfl, rfl, rfl, by decide +kernel, rfl, by decide +kernel, by decide +kernel⟩
def n_seen_steps : DS := (sSeq (sSet 1 (dKd k_KIND_OF (dVar 0))) (sSeq (sSet 2 (dKd k_TRIPLES (dVar 0))) (sSeq (sNewG 3 3 (.gath [] [])) (sSeq (sFor (iL listOf (dCallL t_gather 2 aNil)) (gT 3 (gConsD (gN 4) (gConsD (gN 5) (gConsD (gN 6) gNilD)))) (sSeq (sSet 7 (dCall mkTup (aCons (dCallL t_way 1 (aCons (dVar 4) (aCons (dVar 5) aNil))) (aCons (dCallL t_way 1 (aCons (dVar 5) (aCons (dVar 6) aNil))) aNil)))) (sGath 3 (dVar 7) (dCallL t_way 1 (aCons (dVar 4) (aCons (dVar 6) aNil)))))) (sFrz 3 (sRet (dVar 3)))))))
def g_seen_steps : List D → Option D := runD 8 n_seen_steps
theorem B_seen_steps (M : MF T P w mg base) : Bod T P w mg base 5 ["word", "way", "gather", "found", "one", "other", "third", "pair"] "seen_steps" (topS 56) n_seen_steps := fun f cdv A outer s H E hr => by
  have nd := sc_seen_steps.nd
  exact (sds_cons (sd_set 1 nd (ed_kdx M.k_KIND_OF (ed_var 0))) (sds_cons (sd_set 2 nd (ed_kdx M.k_TRIPLES (ed_var 0))) (sds_cons (sd_newD 3 nd) (sds_cons (sd_for PassesOwn.never rfl (id_list (ed_callL0 2 (L_gather M) (hr.mono (by decide)))) (gd_tup 3 rfl (gds_cons (gd_name 4 nd) (gds_cons (gd_name 5 nd) (gds_cons (gd_name 6 nd) gds_nil)))) (sds_cons (sd_set 7 nd (ed_tup (ad_cons (ed_callL 1 (L_way M) (hr.mono (by decide)) (ad_cons (ed_var 4) (ad_cons (ed_var 5) ad_nil))) (ad_cons (ed_callL 1 (L_way M) (hr.mono (by decide)) (ad_cons (ed_var 5) (ad_cons (ed_var 6) ad_nil))) ad_nil)))) (sds_one (sd_gath 3 hr (ed_var 7) (ed_callL 1 (L_way M) (hr.mono (by decide)) (ad_cons (ed_var 4) (ad_cons (ed_var 6) ad_nil))))))) (sds_one (sd_frz 3 (sd_ret (ed_var 3))))))))
theorem D_seen_steps (M : MF T P w mg base) : Def T P w mg base 6 "seen_steps" 1 g_seen_steps := mkDef M.f_seen_steps sc_seen_steps (B_seen_steps M)
/-- seen_backs -/
theorem sc_seen_backs : FnScope ["word", "way", "gather", "one", "other", "third"] ["word"] (defScope (topS 57)) := ⟨rfl, rfl, rfl, by decide +kernel, rfl, by decide +kernel, by decide +kernel⟩
def n_seen_backs : DS := (sSeq (sSet 1 (dKd k_KIND_OF (dVar 0))) (sSeq (sSet 2 (dKd k_TRIPLES (dVar 0))) (sRet (dDc (iL listOf (dCallL t_gather 2 aNil)) [3, 4, 5] (gT 3 (gConsD (gN 3) (gConsD (gN 4) (gConsD (gN 5) gNilD)))) tYesD (kP (dCallL t_way 1 (aCons (dVar 3) (aCons (dVar 4) aNil))) (dCallL t_way 1 (aCons (dVar 4) (aCons (dVar 3) aNil))))))))
def g_seen_backs : List D → Option D := runD 6 n_seen_backs
theorem B_seen_backs (M : MF T P w mg base) : Bod T P w mg base 5 ["word", "way", "gather", "one", "other", "third"] "seen_backs" (topS 57) n_seen_backs := fun f cdv A outer s H E hr => by
  have nd := sc_seen_backs.nd
  exact (sds_cons (sd_set 1 nd (ed_kdx M.k_KIND_OF (ed_var 0))) (sds_cons (sd_set 2 nd (ed_kdx M.k_TRIPLES (ed_var 0))) (sds_one (sd_ret (ed_dc (own := [("one", 3), ("other", 4), ("third", 5)]) rfl nd (id_list (ed_callL0 2 (L_gather M) (hr.mono (by decide)))) (blkOk_by (by kernel_rfl)) (fun _ _ _ _ _ => gd_tup 3 rfl (gds_cons (gd_name 3 nd) (gds_cons (gd_name 4 nd) (gds_cons (gd_name 5 nd) gds_nil)))) (fun _ _ _ _ _ => tsd_nil) (fun _ _ _ _ _ => (ed_callL 1 (L_way M) (hr.mono (by decide)) (ad_cons (ed_var 3) (ad_cons (ed_var 4) ad_nil)))) (fun _ _ _ _ _ => (ed_callL 1 (L_way M) (hr.mono (by decide)) (ad_cons (ed_var 4) (ad_cons (ed_var 3) ad_nil)))))))))
theorem D_seen_backs (M : MF T P w mg base) : Def T P w mg base 6 "seen_backs" 1 g_seen_backs := mkDef M.f_seen_backs sc_seen_backs (B_seen_backs M)
/-- built -/
theorem sc_built : FnScope ["word", "names", "backs", "steps", "lines", "one", "other", "kind"] ["word"] (defScope (topS 58)) := ⟨rfl, rfl, rfl, by decide +kernel, rfl, by decide +kernel, by decide +kernel⟩
def n_built : DS := (sSeq (sDrop (dCall g_need_word (aCons (dVar 0) aNil))) (sSeq (sSet 1 (dCall (one fList) (aCons (dKd k_KINDS (dVar 0)) aNil))) (sSeq (sAsg (gT 2 (gConsD (gN 2) (gConsD (gN 3) gNilD))) (dCall mkTup (aCons (dCall g_seen_backs (aCons (dVar 0) aNil)) (aCons (dCall g_seen_steps (aCons (dVar 0) aNil)) aNil)))) (sSeq (sSet 4 (dLc (kIn (iL listOf (dVar 1)) [5] (gN 5) tYesD (kOne (dLc (kIn (iL listOf (dVar 1)) [6] (gN 6) tYesD (kOne (dSortS (kInS (iL listOf (d2 fGet (dVar 3) (dCall mkTup (aCons (dVar 5) (aCons (dVar 6) aNil))))) [7] (gN 7) tYesD (dVar 7)))))))))) (sRet (dMakeG (g_Table_init fsL) h_Table (aCons (dVar 1) (aCons (dC (.str "same")) (aCons (dLc (kIn (iL listOf (dVar 1)) [5] (gN 5) tYesD (kOne (d2 fGet (dVar 2) (dVar 5))))) (aCons (dVar 4) aNil))))))))))
def g_built : List D → Option D := runD 8 n_built
theorem B_built (M : MF T P w mg base) : Bod T P w mg base 6 ["word", "names", "backs", "steps", "lines", "one", "other", "kind"] "built" (topS 58) n_built := fun f cdv A outer s H E hr => by
  have nd := sc_built.nd
  exact (sds_cons (sd_expr (ed_call (D_need_word M) (hr.mono (by decide)) (ad_cons (ed_var 0) ad_nil))) (sds_cons (sd_set 1 nd (ed_list M.b_list (ed_kdx M.k_KINDS (ed_var 0)))) (sds_cons (sd_asg (ed_tup (ad_cons (ed_call (D_seen_backs M) (hr.mono (by decide)) (ad_cons (ed_var 0) ad_nil)) (ad_cons (ed_call (D_seen_steps M) (hr.mono (by decide)) (ad_cons (ed_var 0) ad_nil)) ad_nil))) (gd_tup 2 rfl (gds_cons (gd_name 2 nd) (gds_cons (gd_name 3 nd) gds_nil)))) (sds_cons (sd_setLc 4 (own := [("one", 5)]) rfl nd (id_list (ed_var 1)) (blkOk_by (by kernel_rfl)) (fun _ _ _ _ _ => gd_name 5 nd) (fun _ _ _ _ _ => tsd_nil) (fun _ _ _ _ _ => (ed_lc (own := [("other", 6)]) rfl nd (id_list (ed_var 1)) (blkOk_by (by kernel_rfl)) (fun _ _ _ _ _ => gd_name 6 nd) (fun _ _ _ _ _ => tsd_nil) (fun _ _ _ _ _ => (ed_sortSc M.b_sorted (own := [("kind", 7)]) rfl nd (id_list (ed_get hr (ed_var 3) (ed_tup (ad_cons (ed_var 5) (ad_cons (ed_var 6) ad_nil))))) (blkOk_by (by kernel_rfl)) (fun _ _ _ _ _ => gd_name 7 nd) (fun _ _ _ _ _ => tsd_nil) (fun _ _ _ _ _ => (ed_var 7)))) ))  (sw_true rfl rfl rfl (by kernel_rfl))) (sds_one (sd_ret (ed_makeG (I_Table M) (hr.mono (by decide)) (ad_cons (ed_var 1) (ad_cons ed_str (ad_cons (ed_lc (own := [("one", 5)]) rfl nd (id_list (ed_var 1)) (blkOk_by (by kernel_rfl)) (fun _ _ _ _ _ => gd_name 5 nd) (fun _ _ _ _ _ => tsd_nil) (fun _ _ _ _ _ => (ed_get hr (ed_var 2) (ed_var 5))) ) (ad_cons (ed_var 4) ad_nil)))) hg_Table)))))))
theorem D_built (M : MF T P w mg base) : Def T P w mg base 7 "built" 1 g_built := mkDef M.f_built sc_built (B_built M)
/-- _law_kinds_of -/
theorem sc_law_kinds_of : FnScope ["_law_word", "_law_first"] ["_law_word"] (defScope (topS 63)) := ⟨rfl, rfl, rfl, by decide +kernel, rfl, by decide +kernel, by decide +kernel⟩
def n_law_kinds_of : DS := (sSeq (sIf (t2 fEq (dVar 0) (dC (.str "moments"))) (sRet (dCall mkLst (aCons (dC (.str "ahead")) (aCons (dC (.str "same")) (aCons (dC (.str "behind")) aNil))))) sNext) (sSeq (sIf (t2 fEq (dVar 0) (dC (.str "courses"))) (sRet (dCall mkLst (aCons (dC (.str "nw")) (aCons (dC (.str "n")) (aCons (dC (.str "ne")) (aCons (dC (.str "w")) (aCons (dC (.str "same")) (aCons (dC (.str "e")) (aCons (dC (.str "sw")) (aCons (dC (.str "s")) (aCons (dC (.str "se")) aNil))))))))))) sNext) (sSeq (sIf (t2 fEq (dVar 0) (dC (.str "branches"))) (sRet (dCall mkLst (aCons (dC (.str "up")) (aCons (dC (.str "same")) (aCons (dC (.str "down")) (aCons (dC (.str "apart")) aNil)))))) sNext) (sSeq (sIf (t2 fEq (dVar 0) (dC (.str "parts"))) (sRet (dCall mkLst (aCons (dC (.str "within")) (aCons (dC (.str "around")) (aCons (dC (.str "same")) (aCons (dC (.str "across")) (aCons (dC (.str "apart")) aNil))))))) sNext) (sSeq (sSet 1 (dCall mkLst (aCons (dC (.str "before")) (aCons (dC (.str "meets")) (aCons (dC (.str "overlaps")) (aCons (dC (.str "begins")) (aCons (dC (.str "within")) (aCons (dC (.str "ends")) (aCons (dC (.str "same")) aNil))))))))) (sRet (d2 fAdd (dVar 1) (dCall mkLst (aCons (dC (.str "ended")) (aCons (dC (.str "around")) (aCons (dC (.str "begun")) (aCons (dC (.str "overlaid")) (aCons (dC (.str "met")) (aCons (dC (.str "after")) aNil))))))))))))))
def g_law_kinds_of : List D → Option D := runD 2 n_law_kinds_of
theorem B_law_kinds_of (M : MF T P w mg base) : Bod T P w mg base 0 ["_law_word", "_law_first"] "_law_kinds_of" (topS 63) n_law_kinds_of := fun f cdv A outer s H E hr => by
  have nd := sc_law_kinds_of.nd
  exact (sds_cons (sd_if (td_eq hr (ed_var 0) ed_str) (sds_one (sd_ret (ed_lst (ad_cons ed_str (ad_cons ed_str (ad_cons ed_str ad_nil)))))) sds_nil) (sds_cons (sd_if (td_eq hr (ed_var 0) ed_str) (sds_one (sd_ret (ed_lst (ad_cons ed_str (ad_cons ed_str (ad_cons ed_str (ad_cons ed_str (ad_cons ed_str (ad_cons ed_str (ad_cons ed_str (ad_cons ed_str (ad_cons ed_str ad_nil)))))))))))) sds_nil) (sds_cons (sd_if (td_eq hr (ed_var 0) ed_str) (sds_one (sd_ret (ed_lst (ad_cons ed_str (ad_cons ed_str (ad_cons ed_str (ad_cons ed_str ad_nil))))))) sds_nil) (sds_cons (sd_if (td_eq hr (ed_var 0) ed_str) (sds_one (sd_ret (ed_lst (ad_cons ed_str (ad_cons ed_str (ad_cons ed_str (ad_cons ed_str (ad_cons ed_str ad_nil)))))))) sds_nil) (sds_cons (sd_set 1 nd (ed_lst (ad_cons ed_str (ad_cons ed_str (ad_cons ed_str (ad_cons ed_str (ad_cons ed_str (ad_cons ed_str (ad_cons ed_str ad_nil))))))))) (sds_one (sd_ret (ed_add (ed_var 1) (ed_lst (ad_cons ed_str (ad_cons ed_str (ad_cons ed_str (ad_cons ed_str (ad_cons ed_str (ad_cons ed_str ad_nil)))))))))))))))
theorem D_law_kinds_of (M : MF T P w mg base) : Def T P w mg base 1 "_law_kinds_of" 1 g_law_kinds_of := mkDef M.f_law_kinds_of sc_law_kinds_of (B_law_kinds_of M)
/-- _law_in_order -/
theorem sc_law_in_order : FnScope ["_law_kinds", "_law_row", "_law_kind"] ["_law_kinds", "_law_row"] (defScope (topS 64)) := ⟨rfl, rfl, rfl, by decide +kernel, rfl, by decide +kernel, by decide +kernel⟩
def n_law_in_order : DS := (sRet (dLc (kIn (iL listOf (dVar 0)) [2] (gN 2) (t2 fIn (dVar 2) (dVar 1)) (kOne (dVar 2)))))
def g_law_in_order : List D → Option D := runD 3 n_law_in_order
theorem B_law_in_order (M : MF T P w mg base) : Bod T P w mg base 0 ["_law_kinds", "_law_row", "_law_kind"] "_law_in_order" (topS 64) n_law_in_order := fun f cdv A outer s H E hr => by
  have nd := sc_law_in_order.nd
  exact (sds_one (sd_ret (ed_lc (own := [("_law_kind", 2)]) rfl nd (id_list (ed_var 0)) (blkOk_by (by kernel_rfl)) (fun _ _ _ _ _ => gd_name 2 nd) (fun _ _ _ _ _ => (tsd_one (td_in (ed_var 2) (ed_var 1)))) (fun _ _ _ _ _ => (ed_var 2)) )))
theorem D_law_in_order (M : MF T P w mg base) : Def T P w mg base 1 "_law_in_order" 2 g_law_in_order := mkDef M.f_law_in_order sc_law_in_order (B_law_in_order M)
/-- _law_table -/
theorem sc_law_table : FnScope ["_law_kinds", "_law_same_here", "_law_backs", "_law_steps"] ["_law_kinds", "_law_same_here", "_law_backs", "_law_steps"] (defScope (topS 65)) := ⟨rfl, rfl, rfl, by decide +kernel, rfl, by decide +kernel, by decide +kernel⟩
def n_law_table : DS := (sRet (dDisp4 ["kinds", "same", "back", "step"] (aCons (dCall (one fList) (aCons (dVar 0) aNil)) (aCons (dVar 1) (aCons (d2 fDictZipK (dVar 0) (dVar 2)) (aCons (dVar 3) aNil))))))
def g_law_table : List D → Option D := runD 4 n_law_table
theorem B_law_table (M : MF T P w mg base) : Bod T P w mg base 0 ["_law_kinds", "_law_same_here", "_law_backs", "_law_steps"] "_law_table" (topS 65) n_law_table := fun f cdv A outer s H E hr => by
  have nd := sc_law_table.nd
  exact (sds_one (sd_ret (ed_disp4 (ed_list M.b_list (ed_var 0)) (ed_var 1) (ed_dictZipK hr M.b_dict M.b_zip (ed_var 0) (ed_var 2)) (ed_var 3))))
theorem D_law_table (M : MF T P w mg base) : Def T P w mg base 1 "_law_table" 4 g_law_table := mkDef M.f_law_table sc_law_table (B_law_table M)
/-- _law_things_of -/
theorem sc_law_things_of : FnScope ["_law_word", "_law_found", "_law_high", "_law_k", "_law_mark", "_law_low"] ["_law_word"] (defScope (topS 67)) := ⟨rfl, rfl, rfl, by decide +kernel, rfl, by decide +kernel, by decide +kernel⟩
def n_law_things_of : DS := (sSeq (sIf (t2 fEq (dVar 0) (dC (.str "moments"))) (sRet (dCall mkLst (aCons (dC (.int 0)) (aCons (dC (.int 1)) (aCons (dC (.int 2)) aNil))))) sNext) (sSeq (sIf (t2 fEq (dVar 0) (dC (.str "courses"))) (sRet (dLc (kIn (iR1 (dC (.int 9))) [3] (gN 3) tYesD (kOne (dCall mkTup (aCons (d2 (fN nMod) (dVar 3) (dC (.int 3))) (aCons (d2 (fN nDiv) (dVar 3) (dC (.int 3))) aNil))))))) sNext) (sSeq (sIf (t2 fEq (dVar 0) (dC (.str "branches"))) (sRet (dCall mkLst (aCons (dCall mkTup (aCons (dC (.int 0)) aNil)) (aCons (dCall mkTup (aCons (dC (.int 0)) (aCons (dC (.int 1)) aNil))) (aCons (dCall mkTup (aCons (dC (.int 0)) (aCons (dC (.int 2)) aNil))) (aCons (dCall mkTup (aCons (dC (.int 0)) (aCons (dC (.int 1)) (aCons (dC (.int 3)) aNil)))) (aCons (dCall mkTup (aCons (dC (.int 0)) (aCons (dC (.int 1)) (aCons (dC (.int 4)) aNil)))) (aCons (dCall mkTup (aCons (dC (.int 0)) (aCons (dC (.int 1)) (aCons (dC (.int 3)) (aCons (dC (.int 5)) aNil))))) (aCons (dCall mkTup (aCons (dC (.int 7)) aNil)) (aCons (dCall mkTup (aCons (dC (.int 7)) (aCons (dC (.int 8)) aNil))) aNil)))))))))) sNext) (sSeq (sIf (t2 fEq (dVar 0) (dC (.str "parts"))) (sRet (dLc (kIn (iR2 (dC (.int 1)) (dC (.int 128))) [3] (gN 3) tYesD (kOne (dLc (kIn (iR1 (dC (.int 7))) [4] (gN 4) (t1 truD (d2 (fN nAnd) (d2 (fN nShr) (dVar 3) (dVar 4)) (dC (.int 1)))) (kOne (dVar 4)))))))) sNext) (sSeq (sSet 1 (dCall mkLst aNil)) (sSeq (sFor (iR2 (dC (.int 1)) (dC (.int 6))) (gN 2) (sSet 1 (d2 fAdd (dVar 1) (dLc (kIn (iR1 (dVar 2)) [5] (gN 5) tYesD (kOne (dCall mkTup (aCons (dVar 5) (aCons (dVar 2) aNil))))))))) (sRet (dVar 1))))))))
def g_law_things_of : List D → Option D := runD 6 n_law_things_of
theorem B_law_things_of (M : MF T P w mg base) : Bod T P w mg base 0 ["_law_word", "_law_found", "_law_high", "_law_k", "_law_mark", "_law_low"] "_law_things_of" (topS 67) n_law_things_of := fun f cdv A outer s H E hr => by
  have nd := sc_law_things_of.nd
  exact (sds_cons (sd_if (td_eq hr (ed_var 0) ed_str) (sds_one (sd_ret (ed_lst (ad_cons ed_int (ad_cons ed_int (ad_cons ed_int ad_nil)))))) sds_nil) (sds_cons (sd_if (td_eq hr (ed_var 0) ed_str) (sds_one (sd_ret (ed_lc (own := [("_law_k", 3)]) rfl nd (id_range1 M.b_range ed_int) (blkOk_by (by kernel_rfl)) (fun _ _ _ _ _ => gd_name 3 nd) (fun _ _ _ _ _ => tsd_nil) (fun _ _ _ _ _ => (ed_tup (ad_cons (ed_mod (ed_var 3) ed_int) (ad_cons (ed_div (ed_var 3) ed_int) ad_nil)))) ))) sds_nil) (sds_cons (sd_if (td_eq hr (ed_var 0) ed_str) (sds_one (sd_ret (ed_lst (ad_cons (ed_tup (ad_cons ed_int ad_nil)) (ad_cons (ed_tup (ad_cons ed_int (ad_cons ed_int ad_nil))) (ad_cons (ed_tup (ad_cons ed_int (ad_cons ed_int ad_nil))) (ad_cons (ed_tup (ad_cons ed_int (ad_cons ed_int (ad_cons ed_int ad_nil)))) (ad_cons (ed_tup (ad_cons ed_int (ad_cons ed_int (ad_cons ed_int ad_nil)))) (ad_cons (ed_tup (ad_cons ed_int (ad_cons ed_int (ad_cons ed_int (ad_cons ed_int ad_nil))))) (ad_cons (ed_tup (ad_cons ed_int ad_nil)) (ad_cons (ed_tup (ad_cons ed_int (ad_cons ed_int ad_nil))) ad_nil))))))))))) sds_nil) (sds_cons (sd_if (td_eq hr (ed_var 0) ed_str) (sds_one (sd_ret (ed_lc (own := [("_law_k", 3)]) rfl nd (id_range2 M.b_range ed_int ed_int) (blkOk_by (by kernel_rfl)) (fun _ _ _ _ _ => gd_name 3 nd) (fun _ _ _ _ _ => tsd_nil) (fun _ _ _ _ _ => (ed_lc (own := [("_law_mark", 4)]) rfl nd (id_range1 M.b_range ed_int) (blkOk_by (by kernel_rfl)) (fun _ _ _ _ _ => gd_name 4 nd) (fun _ _ _ _ _ => (tsd_one (td_tru (ed_band (ed_shr (ed_var 3) (ed_var 4)) ed_int)))) (fun _ _ _ _ _ => (ed_var 4)) )) ))) sds_nil) (sds_cons (sd_set 1 nd (ed_lst ad_nil)) (sds_cons (sd_for PassesOwn.never rfl (id_range2 M.b_range ed_int ed_int) (gd_name 2 nd) (sds_one (sd_set 1 nd (ed_add (ed_var 1) (ed_lc (own := [("_law_low", 5)]) rfl nd (id_range1 M.b_range (ed_var 2)) (blkOk_by (by kernel_rfl)) (fun _ _ _ _ _ => gd_name 5 nd) (fun _ _ _ _ _ => tsd_nil) (fun _ _ _ _ _ => (ed_tup (ad_cons (ed_var 5) (ad_cons (ed_var 2) ad_nil)))) ))))) (sds_one (sd_ret (ed_var 1)))))))))
theorem D_law_things_of (M : MF T P w mg base) : Def T P w mg base 1 "_law_things_of" 1 g_law_things_of := mkDef M.f_law_things_of sc_law_things_of (B_law_things_of M)
/-- _law_triples -/
theorem sc_law_triples : FnScope ["_law_word", "_law_found", "_law_shape", "_law_marks", "_law_sets", "_law_some", "_law_one", "_law_other", "_law_mark", "_law_at", "_law_third"] ["_law_word"] (defScope (topS 68)) := ⟨rfl, rfl, rfl, by decide +kernel, rfl, by decide +kernel, by decide +kernel⟩
def n_law_triples : DS := (sSeq (sIf (t2 fEq (dVar 0) (dC (.str "parts"))) (sSeq (sNewG 0 1 (.lst [])) (sSeq (sFor (iR2 (dC (.int 1)) (dC (.int 128))) (gN 2) (sSeq (sSet 3 (dLc (kIn (iR2 (dC (.int 1)) (dC (.int 8))) [8] (gN 8) (t1 truD (d2 (fN nAnd) (d2 (fN nShr) (dVar 2) (d2 fSub (dVar 8) (dC (.int 1)))) (dC (.int 1)))) (kOne (dVar 8))))) (sSeq (sSet 4 (dLc (kIn (iR1 (dC (.int 3))) [9] (gN 9) tYesD (kOne (dLc (kIn (iL listOf (dVar 3)) [8] (gN 8) (t1 truD (d2 (fN nAnd) (d2 (fN nShr) (dVar 8) (dVar 9)) (dC (.int 1)))) (kOne (dVar 8)))))))) (sIf (t2 fNotInL (dCall mkLst aNil) (dVar 4)) (sApp 1 (dCall mkTup (aCons (d2 fIx (dVar 4) (dC (.int 0))) (aCons (d2 fIx (dVar 4) (dC (.int 1))) (aCons (d2 fIx (dVar 4) (dC (.int 2))) aNil))))) sNext)))) (sFrz 1 (sRet (dVar 1))))) sNext) (sSeq (sIf (t2 fEq (dVar 0) (dC (.str "courses"))) (sRet (dCall mkLst aNil)) sNext) (sSeq (sSet 5 (dCall g_law_things_of (aCons (dVar 0) aNil))) (sSeq (sSet 1 (dCall mkLst aNil)) (sSeq (sFor (iL listOf (dVar 5)) (gN 6) (sFor (iL listOf (dVar 5)) (gN 7) (sSet 1 (d2 fAdd (dVar 1) (dLc (kIn (iL listOf (dVar 5)) [10] (gN 10) tYesD (kOne (dCall mkTup (aCons (dVar 6) (aCons (dVar 7) (aCons (dVar 10) aNil))))))))))) (sRet (dVar 1)))))))
def g_law_triples : List D → Option D := runD 11 n_law_triples
theorem B_law_triples (M : MF T P w mg base) : Bod T P w mg base 1 ["_law_word", "_law_found", "_law_shape", "_law_marks", "_law_sets", "_law_some", "_law_one", "_law_other", "_law_mark", "_law_at", "_law_third"] "_law_triples" (topS 68) n_law_triples := fun f cdv A outer s H E hr => by
  have nd := sc_law_triples.nd
  exact (sds_cons (sd_if (td_eq hr (ed_var 0) ed_str) (sds_cons (sd_newL 1 nd) (sds_cons (sd_for PassesOwn.never rfl (id_range2 M.b_range ed_int ed_int) (gd_name 2 nd) (sds_cons (sd_set 3 nd (ed_lc (own := [("_law_mark", 8)]) rfl nd (id_range2 M.b_range ed_int ed_int) (blkOk_by (by kernel_rfl)) (fun _ _ _ _ _ => gd_name 8 nd) (fun _ _ _ _ _ => (tsd_one (td_tru (ed_band (ed_shr (ed_var 2) (ed_sub (ed_var 8) ed_int)) ed_int)))) (fun _ _ _ _ _ => (ed_var 8)) )) (sds_cons (sd_setLc 4 (own := [("_law_at", 9)]) rfl nd (id_range1 M.b_range ed_int) (blkOk_by (by kernel_rfl)) (fun _ _ _ _ _ => gd_name 9 nd) (fun _ _ _ _ _ => tsd_nil) (fun _ _ _ _ _ => (ed_lc (own := [("_law_mark", 8)]) rfl nd (id_list (ed_var 3)) (blkOk_by (by kernel_rfl)) (fun _ _ _ _ _ => gd_name 8 nd) (fun _ _ _ _ _ => (tsd_one (td_tru (ed_band (ed_shr (ed_var 8) (ed_var 9)) ed_int)))) (fun _ _ _ _ _ => (ed_var 8)) ))  (sw_true rfl rfl rfl (by kernel_rfl))) (sds_one (sd_if (td_notInL hr (ed_lst ad_nil) (ed_var 4)) (sds_one (sd_app 1 (ed_tup (ad_cons (ed_at (ed_var 4) ed_int) (ad_cons (ed_at (ed_var 4) ed_int) (ad_cons (ed_at (ed_var 4) ed_int) ad_nil)))))) sds_nil))))) (sds_one (sd_frz 1 (sd_ret (ed_var 1)))))) sds_nil) (sds_cons (sd_if (td_eq hr (ed_var 0) ed_str) (sds_one (sd_ret (ed_lst ad_nil))) sds_nil) (sds_cons (sd_set 5 nd (ed_call (D_law_things_of M) (hr.mono (by decide)) (ad_cons (ed_var 0) ad_nil))) (sds_cons (sd_set 1 nd (ed_lst ad_nil)) (sds_cons (sd_for PassesOwn.never rfl (id_list (ed_var 5)) (gd_name 6 nd) (sds_one (sd_for PassesOwn.never rfl (id_list (ed_var 5)) (gd_name 7 nd) (sds_one (sd_set 1 nd (ed_add (ed_var 1) (ed_lc (own := [("_law_third", 10)]) rfl nd (id_list (ed_var 5)) (blkOk_by (by kernel_rfl)) (fun _ _ _ _ _ => gd_name 10 nd) (fun _ _ _ _ _ => tsd_nil) (fun _ _ _ _ _ => (ed_tup (ad_cons (ed_var 6) (ad_cons (ed_var 7) (ad_cons (ed_var 10) ad_nil))))) ))))))) (sds_one (sd_ret (ed_var 1))))))))
theorem D_law_triples (M : MF T P w mg base) : Def T P w mg base 2 "_law_triples" 1 g_law_triples := mkDef M.f_law_triples sc_law_triples (B_law_triples M)
/-- _law_sign -/
theorem sc_law_sign : FnScope ["_law_one", "_law_other"] ["_law_one", "_law_other"] (defScope (topS 69)) := ⟨rfl, rfl, rfl, by decide +kernel, rfl, by decide +kernel, by decide +kernel⟩
def n_law_sign : DS := (sRet (dIf (t2 fLt (dVar 0) (dVar 1)) (dC (.int 0)) (dIf (t2 fEq (dVar 0) (dVar 1)) (dC (.int 1)) (dC (.int 2)))))
def g_law_sign : List D → Option D := runD 2 n_law_sign
theorem B_law_sign (M : MF T P w mg base) : Bod T P w mg base 0 ["_law_one", "_law_other"] "_law_sign" (topS 69) n_law_sign := fun f cdv A outer s H E hr => by
  have nd := sc_law_sign.nd
  exact (sds_one (sd_ret (ed_ifExp (td_lt (ed_var 0) (ed_var 1)) ed_int (ed_ifExp (td_eq hr (ed_var 0) (ed_var 1)) ed_int ed_int))))
theorem D_law_sign (M : MF T P w mg base) : Def T P w mg base 1 "_law_sign" 2 g_law_sign := mkDef M.f_law_sign sc_law_sign (B_law_sign M)
/-- _law_kind_of_parts -/
theorem sc_law_kind_of_parts : FnScope ["_law_one", "_law_other"] ["_law_one", "_law_other"] (defScope (topS 70)) := ⟨rfl, rfl, rfl, by decide +kernel, rfl, by decide +kernel, by decide +kernel⟩
def n_law_kind_of_parts : DS := (sSeq (sIf (t2 fSetEq (dVar 0) (dVar 1)) (sRet (dC (.str "same"))) sNext) (sSeq (sIf (t2 fEq (d2 fLenDiff (dVar 0) (dVar 1)) (dC (.int 0))) (sRet (dC (.str "within"))) sNext) (sSeq (sIf (t2 fEq (d2 fLenDiff (dVar 1) (dVar 0)) (dC (.int 0))) (sRet (dC (.str "around"))) sNext) (sRet (dIf (t2 fGt (d2 fLenAnd (dVar 0) (dVar 1)) (dC (.int 0))) (dC (.str "across")) (dC (.str "apart")))))))
def g_law_kind_of_parts : List D → Option D := runD 2 n_law_kind_of_parts
theorem B_law_kind_of_parts (M : MF T P w mg base) : Bod T P w mg base 0 ["_law_one", "_law_other"] "_law_kind_of_parts" (topS 70) n_law_kind_of_parts := fun f cdv A outer s H E hr => by
  have nd := sc_law_kind_of_parts.nd
  exact (sds_cons (sd_if (td_setEq hr M.b_set (ed_var 0) (ed_var 1)) (sds_one (sd_ret ed_str)) sds_nil) (sds_cons (sd_if (td_eq hr (ed_lenDiff M.b_set M.b_len (ed_var 0) (ed_var 1)) ed_int) (sds_one (sd_ret ed_str)) sds_nil) (sds_cons (sd_if (td_eq hr (ed_lenDiff M.b_set M.b_len (ed_var 1) (ed_var 0)) ed_int) (sds_one (sd_ret ed_str)) sds_nil) (sds_one (sd_ret (ed_ifExp (td_gt (ed_lenAnd M.b_set M.b_len (ed_var 0) (ed_var 1)) ed_int) ed_str ed_str))))))
theorem D_law_kind_of_parts (M : MF T P w mg base) : Def T P w mg base 1 "_law_kind_of_parts" 2 g_law_kind_of_parts := mkDef M.f_law_kind_of_parts sc_law_kind_of_parts (B_law_kind_of_parts M)
/-- _law_kind_of_stretches -/
theorem sc_law_kind_of_stretches : FnScope ["_law_one", "_law_other", "_law_a", "_law_b", "_law_c", "_law_d"] ["_law_one", "_law_other"] (defScope (topS 71)) := ⟨rfl, rfl, rfl, by decide +kernel, rfl, by decide +kernel, by decide +kernel⟩
def n_law_kind_of_stretches : DS := (sSeq (sAsg (gT 2 (gConsD (gN 2) (gConsD (gN 3) gNilD))) (dVar 0)) (sSeq (sAsg (gT 2 (gConsD (gN 4) (gConsD (gN 5) gNilD))) (dVar 1)) (sSeq (sIf (t2 fLt (dVar 3) (dVar 4)) (sRet (dC (.str "before"))) sNext) (sSeq (sIf (t2 fEq (dVar 3) (dVar 4)) (sRet (dC (.str "meets"))) sNext) (sSeq (sIf (t2 fLt (dVar 5) (dVar 2)) (sRet (dC (.str "after"))) sNext) (sSeq (sIf (t2 fEq (dVar 5) (dVar 2)) (sRet (dC (.str "met"))) sNext) (sSeq (sIf (t2 fEq (dVar 2) (dVar 4)) (sRet (d2 fIx (dCall mkLst (aCons (dC (.str "begins")) (aCons (dC (.str "same")) (aCons (dC (.str "begun")) aNil)))) (dCall g_law_sign (aCons (dVar 3) (aCons (dVar 5) aNil))))) sNext) (sSeq (sIf (t2 fEq (dVar 3) (dVar 5)) (sRet (dIf (t2 fGt (dVar 2) (dVar 4)) (dC (.str "ends")) (dC (.str "ended")))) sNext) (sSeq (sIf (t2 fLt (dVar 2) (dVar 4)) (sRet (dIf (t2 fLt (dVar 3) (dVar 5)) (dC (.str "overlaps")) (dC (.str "around")))) sNext) (sRet (dIf (t2 fLt (dVar 3) (dVar 5)) (dC (.str "within")) (dC (.str "overlaid")))))))))))))
def g_law_kind_of_stretches : List D → Option D := runD 6 n_law_kind_of_stretches
theorem B_law_kind_of_stretches (M : MF T P w mg base) : Bod T P w mg base 1 ["_law_one", "_law_other", "_law_a", "_law_b", "_law_c", "_law_d"] "_law_kind_of_stretches" (topS 71) n_law_kind_of_stretches := fun f cdv A outer s H E hr => by
  have nd := sc_law_kind_of_stretches.nd
  exact (sds_cons (sd_asg (ed_var 0) (gd_tup 2 rfl (gds_cons (gd_name 2 nd) (gds_cons (gd_name 3 nd) gds_nil)))) (sds_cons (sd_asg (ed_var 1) (gd_tup 2 rfl (gds_cons (gd_name 4 nd) (gds_cons (gd_name 5 nd) gds_nil)))) (sds_cons (sd_if (td_lt (ed_var 3) (ed_var 4)) (sds_one (sd_ret ed_str)) sds_nil) (sds_cons (sd_if (td_eq hr (ed_var 3) (ed_var 4)) (sds_one (sd_ret ed_str)) sds_nil) (sds_cons (sd_if (td_lt (ed_var 5) (ed_var 2)) (sds_one (sd_ret ed_str)) sds_nil) (sds_cons (sd_if (td_eq hr (ed_var 5) (ed_var 2)) (sds_one (sd_ret ed_str)) sds_nil) (sds_cons (sd_if (td_eq hr (ed_var 2) (ed_var 4)) (sds_one (sd_ret (ed_at (ed_lst (ad_cons ed_str (ad_cons ed_str (ad_cons ed_str ad_nil)))) (ed_call (D_law_sign M) (hr.mono (by decide)) (ad_cons (ed_var 3) (ad_cons (ed_var 5) ad_nil)))))) sds_nil) (sds_cons (sd_if (td_eq hr (ed_var 3) (ed_var 5)) (sds_one (sd_ret (ed_ifExp (td_gt (ed_var 2) (ed_var 4)) ed_str ed_str))) sds_nil) (sds_cons (sd_if (td_lt (ed_var 2) (ed_var 4)) (sds_one (sd_ret (ed_ifExp (td_lt (ed_var 3) (ed_var 5)) ed_str ed_str))) sds_nil) (sds_one (sd_ret (ed_ifExp (td_lt (ed_var 3) (ed_var 5)) ed_str ed_str))))))))))))
theorem D_law_kind_of_stretches (M : MF T P w mg base) : Def T P w mg base 2 "_law_kind_of_stretches" 2 g_law_kind_of_stretches := mkDef M.f_law_kind_of_stretches sc_law_kind_of_stretches (B_law_kind_of_stretches M)
/-- _law_kind_of -/
theorem sc_law_kind_of : FnScope ["_law_word", "_law_one", "_law_other", "_law_across", "_law_up"] ["_law_word", "_law_one", "_law_other"] (defScope (topS 72)) := ⟨rfl, rfl, rfl, by decide +kernel, rfl, by decide +kernel, by decide +kernel⟩
def n_law_kind_of : DS := (sSeq (sIf (t2 fEq (dVar 0) (dC (.str "moments"))) (sRet (d2 fIx (dCall mkLst (aCons (dC (.str "ahead")) (aCons (dC (.str "same")) (aCons (dC (.str "behind")) aNil)))) (dCall g_law_sign (aCons (dVar 1) (aCons (dVar 2) aNil))))) sNext) (sSeq (sIf (t2 fEq (dVar 0) (dC (.str "courses"))) (sSeq (sSet 3 (d2 fIx (dCall mkLst (aCons (dC (.str "w")) (aCons (dC (.str "")) (aCons (dC (.str "e")) aNil)))) (dCall g_law_sign (aCons (d2 fIx (dVar 1) (dC (.int 0))) (aCons (d2 fIx (dVar 2) (dC (.int 0))) aNil))))) (sSeq (sSet 4 (d2 fIx (dCall mkLst (aCons (dC (.str "n")) (aCons (dC (.str "")) (aCons (dC (.str "s")) aNil)))) (dCall g_law_sign (aCons (d2 fIx (dVar 1) (dC (.int 1))) (aCons (d2 fIx (dVar 2) (dC (.int 1))) aNil))))) (sRet (dIf (t2 fNe (d2 fAdd (dVar 4) (dVar 3)) (dC (.str ""))) (d2 fAdd (dVar 4) (dVar 3)) (dC (.str "same")))))) sNext) (sSeq (sIf (t2 fEq (dVar 0) (dC (.str "branches"))) (sSeq (sIf (t2 fEq (dVar 1) (dVar 2)) (sRet (dC (.str "same"))) sNext) (sSeq (sIf (t2 fEq (d2 fTakeT (dVar 2) (dCall (one fLen) (aCons (dVar 1) aNil))) (dVar 1)) (sRet (dC (.str "up"))) sNext) (sRet (dIf (t2 fEq (d2 fTakeT (dVar 1) (dCall (one fLen) (aCons (dVar 2) aNil))) (dVar 2)) (dC (.str "down")) (dC (.str "apart")))))) sNext) (sSeq (sIf (t2 fEq (dVar 0) (dC (.str "parts"))) (sRet (dCall g_law_kind_of_parts (aCons (dVar 1) (aCons (dVar 2) aNil)))) sNext) (sRet (dCall g_law_kind_of_stretches (aCons (dVar 1) (aCons (dVar 2) aNil))))))))
def g_law_kind_of : List D → Option D := runD 5 n_law_kind_of
theorem B_law_kind_of (M : MF T P w mg base) : Bod T P w mg base 2 ["_law_word", "_law_one", "_law_other", "_law_across", "_law_up"] "_law_kind_of" (topS 72) n_law_kind_of := fun f cdv A outer s H E hr => by
  have nd := sc_law_kind_of.nd
  exact (sds_cons (sd_if (td_eq hr (ed_var 0) ed_str) (sds_one (sd_ret (ed_at (ed_lst (ad_cons ed_str (ad_cons ed_str (ad_cons ed_str ad_nil)))) (ed_call (D_law_sign M) (hr.mono (by decide)) (ad_cons (ed_var 1) (ad_cons (ed_var 2) ad_nil)))))) sds_nil) (sds_cons (sd_if (td_eq hr (ed_var 0) ed_str) (sds_cons (sd_set 3 nd (ed_at (ed_lst (ad_cons ed_str (ad_cons ed_str (ad_cons ed_str ad_nil)))) (ed_call (D_law_sign M) (hr.mono (by decide)) (ad_cons (ed_at (ed_var 1) ed_int) (ad_cons (ed_at (ed_var 2) ed_int) ad_nil))))) (sds_cons (sd_set 4 nd (ed_at (ed_lst (ad_cons ed_str (ad_cons ed_str (ad_cons ed_str ad_nil)))) (ed_call (D_law_sign M) (hr.mono (by decide)) (ad_cons (ed_at (ed_var 1) ed_int) (ad_cons (ed_at (ed_var 2) ed_int) ad_nil))))) (sds_one (sd_ret (ed_ifExp (td_ne hr (ed_add (ed_var 4) (ed_var 3)) ed_str) (ed_add (ed_var 4) (ed_var 3)) ed_str))))) sds_nil) (sds_cons (sd_if (td_eq hr (ed_var 0) ed_str) (sds_cons (sd_if (td_eq hr (ed_var 1) (ed_var 2)) (sds_one (sd_ret ed_str)) sds_nil) (sds_cons (sd_if (td_eq hr (ed_takeT (ed_var 2) (ed_len M.b_len (ed_var 1))) (ed_var 1)) (sds_one (sd_ret ed_str)) sds_nil) (sds_one (sd_ret (ed_ifExp (td_eq hr (ed_takeT (ed_var 1) (ed_len M.b_len (ed_var 2))) (ed_var 2)) ed_str ed_str))))) sds_nil) (sds_cons (sd_if (td_eq hr (ed_var 0) ed_str) (sds_one (sd_ret (ed_call (D_law_kind_of_parts M) (hr.mono (by decide)) (ad_cons (ed_var 1) (ad_cons (ed_var 2) ad_nil))))) sds_nil) (sds_one (sd_ret (ed_call (D_law_kind_of_stretches M) (hr.mono (by decide)) (ad_cons (ed_var 1) (ad_cons (ed_var 2) ad_nil)))))))))
theorem D_law_kind_of (M : MF T P w mg base) : Def T P w mg base 3 "_law_kind_of" 3 g_law_kind_of := mkDef M.f_law_kind_of sc_law_kind_of (B_law_kind_of M)
/-- _law_seen -/
theorem sc_law_seen1 : FnScope ["_law_word", "_law_kinds", "_law_hits", "_law_backs", "_law_one", "_law_other", "_law_third", "_law_pair", "_law_steps"] ["_law_word"] (defScope (topS 73)) := ⟨rfl, rfl, rfl, by decide +kernel, rfl, by decide +kernel, by decide +kernel⟩
def n_law_seen1 : DS := (sSeq (sSet 1 (dCall g_law_kinds_of (aCons (dVar 0) aNil))) (sSeq (sIf (t2 fEq (dVar 0) (dC (.str "courses"))) sNev sNext) (sSeq (sNewG 3 2 (.gath [] [])) (sSeq (sNewG 1 3 (.dK [] [])) (sSeq (sFor (iL listOf (dCall g_law_triples (aCons (dVar 0) aNil))) (gT 3 (gConsD (gN 4) (gConsD (gN 5) (gConsD (gN 6) gNilD)))) (sSeq (sSet 7 (dCall mkTup (aCons (dCall g_law_kind_of (aCons (dVar 0) (aCons (dVar 4) (aCons (dVar 5) aNil)))) (aCons (dCall g_law_kind_of (aCons (dVar 0) (aCons (dVar 5) (aCons (dVar 6) aNil)))) aNil)))) (sSeq (sGath 2 (dVar 7) (dCall g_law_kind_of (aCons (dVar 0) (aCons (dVar 4) (aCons (dVar 6) aNil))))) (sPut 3 (d2 fIx (dVar 7) (dC (.int 0))) (dCall g_law_kind_of (aCons (dVar 0) (aCons (dVar 5) (aCons (dVar 4) aNil)))))))) (sFrz 3 (sFrz 2 (sSeq (sNewG 2 8 (.dT [] [])) (sSeq (sFor (iL listOf (dVar 1)) (gN 4) (sFor (iL listOf (dVar 1)) (gN 5) (sPut 8 (dCall mkTup (aCons (dVar 4) (aCons (dVar 5) aNil))) (dCall g_law_in_order (aCons (dVar 1) (aCons (d2 fGet (dVar 2) (dCall mkTup (aCons (dVar 4) (aCons (dVar 5) aNil)))) aNil)))))) (sFrz 8 (sRet (dCall g_law_table (aCons (dVar 1) (aCons (dC (.str "same")) (aCons (dLc (kIn (iL listOf (dVar 1)) [4] (gN 4) tYesD (kOne (d2 fGet (dVar 3) (dVar 4))))) (aCons (dVar 8) aNil))))))))))))))))
def g_law_seen1 : List D → Option D := runD 9 n_law_seen1
theorem B_law_seen1 (M : MF T P w mg base) : Bod T P w mg base 3 ["_law_word", "_law_kinds", "_law_hits", "_law_backs", "_law_one", "_law_other", "_law_third", "_law_pair", "_law_steps"] "_law_seen" (topS 73) n_law_seen1 := fun f cdv A outer s H E hr => by
  have nd := sc_law_seen1.nd
  exact (sds_cons (sd_set 1 nd (ed_call (D_law_kinds_of M) (hr.mono (by decide)) (ad_cons (ed_var 0) ad_nil))) (sds_cons (sd_if (td_eq hr (ed_var 0) ed_str) sds_never sds_nil) (sds_cons (sd_newD 2 nd) (sds_cons (sd_newK 3 nd) (sds_cons (sd_for PassesOwn.never rfl (id_list (ed_call (D_law_triples M) (hr.mono (by decide)) (ad_cons (ed_var 0) ad_nil))) (gd_tup 3 rfl (gds_cons (gd_name 4 nd) (gds_cons (gd_name 5 nd) (gds_cons (gd_name 6 nd) gds_nil)))) (sds_cons (sd_set 7 nd (ed_tup (ad_cons (ed_call (D_law_kind_of M) (hr.mono (by decide)) (ad_cons (ed_var 0) (ad_cons (ed_var 4) (ad_cons (ed_var 5) ad_nil)))) (ad_cons (ed_call (D_law_kind_of M) (hr.mono (by decide)) (ad_cons (ed_var 0) (ad_cons (ed_var 5) (ad_cons (ed_var 6) ad_nil)))) ad_nil)))) (sds_cons (sd_gath 2 hr (ed_var 7) (ed_call (D_law_kind_of M) (hr.mono (by decide)) (ad_cons (ed_var 0) (ad_cons (ed_var 4) (ad_cons (ed_var 6) ad_nil))))) (sds_one (sd_put 3 hr (ed_at (ed_var 7) ed_int) (ed_call (D_law_kind_of M) (hr.mono (by decide)) (ad_cons (ed_var 0) (ad_cons (ed_var 5) (ad_cons (ed_var 4) ad_nil))))))))) (sds_frz 3 (sds_frz 2 (sds_cons (sd_newT 8 nd) (sds_cons (sd_for PassesOwn.never rfl (id_list (ed_var 1)) (gd_name 4 nd) (sds_one (sd_for PassesOwn.never rfl (id_list (ed_var 1)) (gd_name 5 nd) (sds_one (sd_put 8 hr (ed_tup (ad_cons (ed_var 4) (ad_cons (ed_var 5) ad_nil))) (ed_call (D_law_in_order M) (hr.mono (by decide)) (ad_cons (ed_var 1) (ad_cons (ed_get hr (ed_var 2) (ed_tup (ad_cons (ed_var 4) (ad_cons (ed_var 5) ad_nil)))) ad_nil)))))))) (sds_frz 8 (sds_one (sd_ret (ed_call (D_law_table M) (hr.mono (by decide)) (ad_cons (ed_var 1) (ad_cons ed_str (ad_cons (ed_lc (own := [("_law_one", 4)]) rfl nd (id_list (ed_var 1)) (blkOk_by (by kernel_rfl)) (fun _ _ _ _ _ => gd_name 4 nd) (fun _ _ _ _ _ => tsd_nil) (fun _ _ _ _ _ => (ed_get hr (ed_var 3) (ed_var 4))) ) (ad_cons (ed_var 8) ad_nil)))))))))))))))))
theorem D_law_seen1 (M : MF T P w mg base) : Def T P w mg base 4 "_law_seen" 1 g_law_seen1 := mkDef M.f_law_seen sc_law_seen1 (B_law_seen1 M)
/-- _law_seen_courses -/
theorem sc_law_seen_courses : FnScope ["_law_kinds", "_law_way", "_law_pairs", "_law_up", "_law_name_of", "_law_steps", "_law_a", "_law_b", "_law_c", "_law_d", "_law_line", "_law_left", "_law_backs", "_law_across", "_law_right"] ["_law_kinds"] (defScope (topS 66)) := ⟨rfl, rfl, rfl, by decide +kernel, rfl, by decide +kernel, by decide +kernel⟩
def n_law_seen_courses : DS := (sSeq (sSet 1 (dCall g_law_seen1 (aCons (dC (.str "moments")) aNil))) (sSeq (sSet 2 (dCall mkLst aNil)) (sSeq (sFor (iR1 (dC (.int 3))) (gN 3) (sSet 2 (d2 fAdd (dVar 2) (dLc (kIn (iR1 (dC (.int 3))) [13] (gN 13) tYesD (kOne (dCall mkTup (aCons (d2 fIx (d2 fGet (dVar 1) (dC (.str "kinds"))) (dVar 13)) (aCons (d2 fIx (d2 fGet (dVar 1) (dC (.str "kinds"))) (dVar 3)) aNil))))))))) (sSeq (sSet 4 (d2 fDictZipT (dVar 2) (dVar 0))) (sSeq (sNewG 2 5 (.dT [] [])) (sSeq (sFor (iL listOf (dVar 2)) (gT 2 (gConsD (gN 6) (gConsD (gN 7) gNilD))) (sFor (iL listOf (dVar 2)) (gT 2 (gConsD (gN 8) (gConsD (gN 9) gNilD))) (sSeq (sSet 10 (dCall mkLst aNil)) (sSeq (sFor (iL listOf (d2 fGet (d2 fGet (dVar 1) (dC (.str "step"))) (dCall mkTup (aCons (dVar 6) (aCons (dVar 8) aNil))))) (gN 11) (sSet 10 (d2 fAdd (dVar 10) (dLc (kIn (iL listOf (d2 fGet (d2 fGet (dVar 1) (dC (.str "step"))) (dCall mkTup (aCons (dVar 7) (aCons (dVar 9) aNil))))) [14] (gN 14) tYesD (kOne (d2 fGet (dVar 4) (dCall mkTup (aCons (dVar 11) (aCons (dVar 14) aNil)))))))))) (sPut 5 (dCall mkTup (aCons (d2 fGet (dVar 4) (dCall mkTup (aCons (dVar 6) (aCons (dVar 7) aNil)))) (aCons (d2 fGet (dVar 4) (dCall mkTup (aCons (dVar 8) (aCons (dVar 9) aNil)))) aNil))) (dCall g_law_in_order (aCons (dVar 0) (aCons (dVar 10) aNil)))))))) (sFrz 5 (sSeq (sSet 12 (dLc (kIn (iL listOf (dVar 2)) [6, 7] (gT 2 (gConsD (gN 6) (gConsD (gN 7) gNilD))) tYesD (kOne (d2 fGet (dVar 4) (dCall mkTup (aCons (d2 fGet (d2 fGet (dVar 1) (dC (.str "back"))) (dVar 6)) (aCons (d2 fGet (d2 fGet (dVar 1) (dC (.str "back"))) (dVar 7)) aNil)))))))) (sRet (dCall g_law_table (aCons (dVar 0) (aCons (dC (.str "same")) (aCons (dVar 12) (aCons (dVar 5) aNil))))))))))))))
def g_law_seen_courses : List D → Option D := runD 15 n_law_seen_courses
theorem B_law_seen_courses (M : MF T P w mg base) : Bod T P w mg base 4 ["_law_kinds", "_law_way", "_law_pairs", "_law_up", "_law_name_of", "_law_steps", "_law_a", "_law_b", "_law_c", "_law_d", "_law_line", "_law_left", "_law_backs", "_law_across", "_law_right"] "_law_seen_courses" (topS 66) n_law_seen_courses := fun f cdv A outer s H E hr => by
  have nd := sc_law_seen_courses.nd
  exact (sds_cons (sd_set 1 nd (ed_call (D_law_seen1 M) (hr.mono (by decide)) (ad_cons ed_str ad_nil))) (sds_cons (sd_set 2 nd (ed_lst ad_nil)) (sds_cons (sd_for PassesOwn.never rfl (id_range1 M.b_range ed_int) (gd_name 3 nd) (sds_one (sd_set 2 nd (ed_add (ed_var 2) (ed_lc (own := [("_law_across", 13)]) rfl nd (id_range1 M.b_range ed_int) (blkOk_by (by kernel_rfl)) (fun _ _ _ _ _ => gd_name 13 nd) (fun _ _ _ _ _ => tsd_nil) (fun _ _ _ _ _ => (ed_tup (ad_cons (ed_at (ed_get hr (ed_var 1) ed_str) (ed_var 13)) (ad_cons (ed_at (ed_get hr (ed_var 1) ed_str) (ed_var 3)) ad_nil)))) ))))) (sds_cons (sd_set 4 nd (ed_dictZipT hr M.b_dict M.b_zip (ed_var 2) (ed_var 0))) (sds_cons (sd_newT 5 nd) (sds_cons (sd_for PassesOwn.never rfl (id_list (ed_var 2)) (gd_tup 2 rfl (gds_cons (gd_name 6 nd) (gds_cons (gd_name 7 nd) gds_nil))) (sds_one (sd_for PassesOwn.never rfl (id_list (ed_var 2)) (gd_tup 2 rfl (gds_cons (gd_name 8 nd) (gds_cons (gd_name 9 nd) gds_nil))) (sds_cons (sd_set 10 nd (ed_lst ad_nil)) (sds_cons (sd_for PassesOwn.never rfl (id_list (ed_get hr (ed_get hr (ed_var 1) ed_str) (ed_tup (ad_cons (ed_var 6) (ad_cons (ed_var 8) ad_nil))))) (gd_name 11 nd) (sds_one (sd_set 10 nd (ed_add (ed_var 10) (ed_lc (own := [("_law_right", 14)]) rfl nd (id_list (ed_get hr (ed_get hr (ed_var 1) ed_str) (ed_tup (ad_cons (ed_var 7) (ad_cons (ed_var 9) ad_nil))))) (blkOk_by (by kernel_rfl)) (fun _ _ _ _ _ => gd_name 14 nd) (fun _ _ _ _ _ => tsd_nil) (fun _ _ _ _ _ => (ed_get hr (ed_var 4) (ed_tup (ad_cons (ed_var 11) (ad_cons (ed_var 14) ad_nil))))) ))))) (sds_one (sd_put 5 hr (ed_tup (ad_cons (ed_get hr (ed_var 4) (ed_tup (ad_cons (ed_var 6) (ad_cons (ed_var 7) ad_nil)))) (ad_cons (ed_get hr (ed_var 4) (ed_tup (ad_cons (ed_var 8) (ad_cons (ed_var 9) ad_nil)))) ad_nil))) (ed_call (D_law_in_order M) (hr.mono (by decide)) (ad_cons (ed_var 0) (ad_cons (ed_var 10) ad_nil)))))))))) (sds_frz 5 (sds_cons (sd_setLc 12 (own := [("_law_a", 6), ("_law_b", 7)]) rfl nd (id_list (ed_var 2)) (blkOk_by (by kernel_rfl)) (fun _ _ _ _ _ => gd_tup 2 rfl (gds_cons (gd_name 6 nd) (gds_cons (gd_name 7 nd) gds_nil))) (fun _ _ _ _ _ => tsd_nil) (fun _ _ _ _ _ => (ed_get hr (ed_var 4) (ed_tup (ad_cons (ed_get hr (ed_get hr (ed_var 1) ed_str) (ed_var 6)) (ad_cons (ed_get hr (ed_get hr (ed_var 1) ed_str) (ed_var 7)) ad_nil)))))  (sw_true rfl rfl rfl (by kernel_rfl))) (sds_one (sd_ret (ed_call (D_law_table M) (hr.mono (by decide)) (ad_cons (ed_var 0) (ad_cons ed_str (ad_cons (ed_var 12) (ad_cons (ed_var 5) ad_nil)))))))))))))))
theorem D_law_seen_courses (M : MF T P w mg base) : Def T P w mg base 5 "_law_seen_courses" 1 g_law_seen_courses := mkDef M.f_law_seen_courses sc_law_seen_courses (B_law_seen_courses M)
/-- _law_seen -/
theorem sc_law_seen : FnScope ["_law_word", "_law_kinds", "_law_hits", "_law_backs", "_law_one", "_law_other", "_law_third", "_law_pair", "_law_steps"] ["_law_word"] (defScope (topS 73)) := ⟨rfl, rfl, rfl, by decide +kernel, rfl, by decide +kernel, by decide +kernel⟩
def n_law_seen : DS := (sSeq (sSet 1 (dCall g_law_kinds_of (aCons (dVar 0) aNil))) (sSeq (sIf (t2 fEq (dVar 0) (dC (.str "courses"))) (sRet (dCall g_law_seen_courses (aCons (dVar 1) aNil))) sNext) (sSeq (sNewG 3 2 (.gath [] [])) (sSeq (sNewG 1 3 (.dK [] [])) (sSeq (sFor (iL listOf (dCall g_law_triples (aCons (dVar 0) aNil))) (gT 3 (gConsD (gN 4) (gConsD (gN 5) (gConsD (gN 6) gNilD)))) (sSeq (sSet 7 (dCall mkTup (aCons (dCall g_law_kind_of (aCons (dVar 0) (aCons (dVar 4) (aCons (dVar 5) aNil)))) (aCons (dCall g_law_kind_of (aCons (dVar 0) (aCons (dVar 5) (aCons (dVar 6) aNil)))) aNil)))) (sSeq (sGath 2 (dVar 7) (dCall g_law_kind_of (aCons (dVar 0) (aCons (dVar 4) (aCons (dVar 6) aNil))))) (sPut 3 (d2 fIx (dVar 7) (dC (.int 0))) (dCall g_law_kind_of (aCons (dVar 0) (aCons (dVar 5) (aCons (dVar 4) aNil)))))))) (sFrz 3 (sFrz 2 (sSeq (sNewG 2 8 (.dT [] [])) (sSeq (sFor (iL listOf (dVar 1)) (gN 4) (sFor (iL listOf (dVar 1)) (gN 5) (sPut 8 (dCall mkTup (aCons (dVar 4) (aCons (dVar 5) aNil))) (dCall g_law_in_order (aCons (dVar 1) (aCons (d2 fGet (dVar 2) (dCall mkTup (aCons (dVar 4) (aCons (dVar 5) aNil)))) aNil)))))) (sFrz 8 (sRet (dCall g_law_table (aCons (dVar 1) (aCons (dC (.str "same")) (aCons (dLc (kIn (iL listOf (dVar 1)) [4] (gN 4) tYesD (kOne (d2 fGet (dVar 3) (dVar 4))))) (aCons (dVar 8) aNil))))))))))))))))
def g_law_seen : List D → Option D := runD 9 n_law_seen
theorem B_law_seen (M : MF T P w mg base) : Bod T P w mg base 5 ["_law_word", "_law_kinds", "_law_hits", "_law_backs", "_law_one", "_law_other", "_law_third", "_law_pair", "_law_steps"] "_law_seen" (topS 73) n_law_seen := fun f cdv A outer s H E hr => by
  have nd := sc_law_seen.nd
  exact (sds_cons (sd_set 1 nd (ed_call (D_law_kinds_of M) (hr.mono (by decide)) (ad_cons (ed_var 0) ad_nil))) (sds_cons (sd_if (td_eq hr (ed_var 0) ed_str) (sds_one (sd_ret (ed_call (D_law_seen_courses M) (hr.mono (by decide)) (ad_cons (ed_var 1) ad_nil)))) sds_nil) (sds_cons (sd_newD 2 nd) (sds_cons (sd_newK 3 nd) (sds_cons (sd_for PassesOwn.never rfl (id_list (ed_call (D_law_triples M) (hr.mono (by decide)) (ad_cons (ed_var 0) ad_nil))) (gd_tup 3 rfl (gds_cons (gd_name 4 nd) (gds_cons (gd_name 5 nd) (gds_cons (gd_name 6 nd) gds_nil)))) (sds_cons (sd_set 7 nd (ed_tup (ad_cons (ed_call (D_law_kind_of M) (hr.mono (by decide)) (ad_cons (ed_var 0) (ad_cons (ed_var 4) (ad_cons (ed_var 5) ad_nil)))) (ad_cons (ed_call (D_law_kind_of M) (hr.mono (by decide)) (ad_cons (ed_var 0) (ad_cons (ed_var 5) (ad_cons (ed_var 6) ad_nil)))) ad_nil)))) (sds_cons (sd_gath 2 hr (ed_var 7) (ed_call (D_law_kind_of M) (hr.mono (by decide)) (ad_cons (ed_var 0) (ad_cons (ed_var 4) (ad_cons (ed_var 6) ad_nil))))) (sds_one (sd_put 3 hr (ed_at (ed_var 7) ed_int) (ed_call (D_law_kind_of M) (hr.mono (by decide)) (ad_cons (ed_var 0) (ad_cons (ed_var 5) (ad_cons (ed_var 4) ad_nil))))))))) (sds_frz 3 (sds_frz 2 (sds_cons (sd_newT 8 nd) (sds_cons (sd_for PassesOwn.never rfl (id_list (ed_var 1)) (gd_name 4 nd) (sds_one (sd_for PassesOwn.never rfl (id_list (ed_var 1)) (gd_name 5 nd) (sds_one (sd_put 8 hr (ed_tup (ad_cons (ed_var 4) (ad_cons (ed_var 5) ad_nil))) (ed_call (D_law_in_order M) (hr.mono (by decide)) (ad_cons (ed_var 1) (ad_cons (ed_get hr (ed_var 2) (ed_tup (ad_cons (ed_var 4) (ad_cons (ed_var 5) ad_nil)))) ad_nil)))))))) (sds_frz 8 (sds_one (sd_ret (ed_call (D_law_table M) (hr.mono (by decide)) (ad_cons (ed_var 1) (ad_cons ed_str (ad_cons (ed_lc (own := [("_law_one", 4)]) rfl nd (id_list (ed_var 1)) (blkOk_by (by kernel_rfl)) (fun _ _ _ _ _ => gd_name 4 nd) (fun _ _ _ _ _ => tsd_nil) (fun _ _ _ _ _ => (ed_get hr (ed_var 3) (ed_var 4))) ) (ad_cons (ed_var 8) ad_nil)))))))))))))))))
theorem D_law_seen (M : MF T P w mg base) : Def T P w mg base 6 "_law_seen" 1 g_law_seen := mkDef M.f_law_seen sc_law_seen (B_law_seen M)
/-- _law_same -/
theorem sc_law_same : FnScope ["_law_found", "_law_due", "_law_k"] ["_law_found", "_law_due"] (defScope (topS 61)) := ⟨rfl, rfl, rfl, by decide +kernel, rfl, by decide +kernel, by decide +kernel⟩
def n_law_same (r : List D → Option D) : DS := (sSeq (sIf (tOrD (t1 truD (dB (t1 (fIs .list) (dVar 1)))) (t1 truD (dB (t1 (fIs .tuple) (dVar 1))))) (sSeq (sIf (tOrD (t2 fNe (dB (t1 (fIs .list) (dVar 0))) (dB (t1 (fIs .list) (dVar 1)))) (t2 fNe (dB (t1 (fIs .tuple) (dVar 0))) (dB (t1 (fIs .tuple) (dVar 1))))) (sRet (dC (.bl false))) sNext) (sRet (dB (tAndD (t2 fEq (dCall (one fLen) (aCons (dVar 0) aNil)) (dCall (one fLen) (aCons (dVar 1) aNil))) (t1 blD (dCall (one fAll) (aCons (dLc (kIn (iR1 (dCall (one fLen) (aCons (dVar 1) aNil))) [2] (gN 2) tYesD (kOne (dCall r (aCons (d2 fIx (dVar 0) (dVar 2)) (aCons (d2 fIx (dVar 1) (dVar 2)) aNil)))))) aNil))))))) sNext) (sSeq (sIf (tOrD (t1 fIsN (dVar 1)) (t1 fIsN (dVar 0))) (sRet (dB (tAndD (t1 fIsN (dVar 0)) (t1 fIsN (dVar 1))))) sNext) (sSeq (sIf (tOrD (t2 fNe (dB (t1 (fIs .bool) (dVar 0))) (dB (t1 (fIs .bool) (dVar 1)))) (t2 fNe (dB (t1 (fIs .int) (dVar 0))) (dB (t1 (fIs .int) (dVar 1))))) (sRet (dC (.bl false))) sNext) (sRet (dB (tAndD (t2 fEq (dB (t1 (fIs .str) (dVar 0))) (dB (t1 (fIs .str) (dVar 1)))) (t2 fEq (dVar 0) (dVar 1))))))))
def g_law_same : Nat → List D → Option D
  | 0 => fun _ => none
  | n + 1 => runD 3 (n_law_same (g_law_same n))
theorem B_law_same (M : MF T P w mg base) {k : Nat} {r : List D → Option D} (F : Def T P w mg base k "_law_same" 2 r) : Bod T P w mg base k ["_law_found", "_law_due", "_law_k"] "_law_same" (topS 61) (n_law_same r) := fun f cdv A outer s H E hr => by
  have nd := sc_law_same.nd
  exact (sds_cons (sd_if (td_wd (wd_or (td_tru (ed_isi .list (M.b_isinstance) (M.b_list) (by decide +kernel) (ed_var 1))) (wd_or1 (td_tru (ed_isi .tuple (M.b_isinstance) (M.b_tuple) (by decide +kernel) (ed_var 1)))))) (sds_cons (sd_if (td_wd (wd_or (td_ne hr (ed_isi .list (M.b_isinstance) (M.b_list) (by decide +kernel) (ed_var 0)) (ed_isi .list (M.b_isinstance) (M.b_list) (by decide +kernel) (ed_var 1))) (wd_or1 (td_ne hr (ed_isi .tuple (M.b_isinstance) (M.b_tuple) (by decide +kernel) (ed_var 0)) (ed_isi .tuple (M.b_isinstance) (M.b_tuple) (by decide +kernel) (ed_var 1)))))) (sds_one (sd_ret ed_bl)) sds_nil) (sds_one (sd_ret (ed_and (ed_eq hr (ed_len M.b_len (ed_var 0)) (ed_len M.b_len (ed_var 1))) (ed_one (ed_toB (ed_all rfl M.b_all (ed_lc (own := [("_law_k", 2)]) rfl nd (id_range1 M.b_range (ed_len M.b_len (ed_var 1))) (blkOk_by (by kernel_rfl)) (fun _ _ _ _ _ => gd_name 2 nd) (fun _ _ _ _ _ => tsd_nil) (fun _ _ _ _ _ => (ed_call F hr (ad_cons (ed_at (ed_var 0) (ed_var 2)) (ad_cons (ed_at (ed_var 1) (ed_var 2)) ad_nil)))) )))))))) sds_nil) (sds_cons (sd_if (td_wd (wd_or (td_isN (ed_var 1)) (wd_or1 (td_isN (ed_var 0))))) (sds_one (sd_ret (ed_and (ed_isN (ed_var 0)) (ed_one (ed_isN (ed_var 1)))))) sds_nil) (sds_cons (sd_if (td_wd (wd_or (td_ne hr (ed_isi .bool (M.b_isinstance) (M.b_bool) (by decide +kernel) (ed_var 0)) (ed_isi .bool (M.b_isinstance) (M.b_bool) (by decide +kernel) (ed_var 1))) (wd_or1 (td_ne hr (ed_isi .int (M.b_isinstance) (M.b_int) (by decide +kernel) (ed_var 0)) (ed_isi .int (M.b_isinstance) (M.b_int) (by decide +kernel) (ed_var 1)))))) (sds_one (sd_ret ed_bl)) sds_nil) (sds_one (sd_ret (ed_and (ed_eq hr (ed_isi .str (M.b_isinstance) (M.b_str) (by decide +kernel) (ed_var 0)) (ed_isi .str (M.b_isinstance) (M.b_str) (by decide +kernel) (ed_var 1))) (ed_one (ed_eq hr (ed_var 0) (ed_var 1)))))))))
theorem D_law_same (M : MF T P w mg base) : ∀ n, Def T P w mg base (n + 1) "_law_same" 2 (g_law_same n)
  | 0 => mkDef (ds := sNev) M.f_law_same sc_law_same fun f cdv A outer s H E hr => sds_never
  | n + 1 => mkDef M.f_law_same sc_law_same (B_law_same M (D_law_same M n))
end
end PD
end
section
set_option Elab.async false
set_option linter.all false
set_option maxRecDepth 100000
/-! The law's own draws, by hand over HandS. -/
namespace PD
open PySem PySem.Spec PyProof.Rows L2
theorem sc_law_flow : FnScope ["_law_script"] ["_law_script"] (defScope (topS 60)) := ⟨rfl, rfl, rfl, by decide +kernel, rfl, by decide +kernel, by decide +kernel⟩
theorem sc_law_draw : FnScope ["_law_flow_here", "_law_size", "_law_found", "_law_cell", "_law_here", "_law_mixed"] ["_law_flow_here", "_law_size"] (defScope (topS 62)) := ⟨rfl, rfl, rfl, by decide +kernel, rfl, by decide +kernel, by decide +kernel⟩
section
variable {P : Program} {w : World} {K : PySem.W.Frag} {mg : Str → Option Value} {base : Heap}
def flowV (sc : Addr) (i b c : Int) : HO := .lst [.ref sc, .int i, .int b, .int c]
def spFlow (K : PySem.W.Frag) : Sp := fun vs H Q _ => ∃ (a : Addr) (ns : List Int), vs = [.ref a] ∧ SqL K H a (ns.map V.int) ∧ ns.length ≤ 63 ∧
  ∀ (p sc : Addr) (H' : Hp), Same H H' → H p = none → H' p = some (flowV sc 0 0 11) → H' sc = some (.lst (ns.map V.int)) → Q (.ref p) H'
def spDraw : Sp := fun vs H Q _ => ∃ (fl sc : Addr) (i b c : Int) (ns : List Int), vs = [.ref fl, .int 5] ∧ H fl = some (flowV sc i b c) ∧ H sc = some (.lst (ns.map V.int)) ∧ 0 ≤ i ∧
  ∀ (r : Int) (i' b' c' : Int), 0 ≤ r → r < 5 → 0 ≤ i' → Q (.int r) (upd H fl (flowV sc i' b' c'))
theorem rd_ix {H : Hp} {fl sc : Addr} {i b c : Int} (h : H fl = some (flowV sc i b c)) (j : Int) (v : V) (hv : atI [V.ref sc, .int i, .int b, .int c] j = some v) {Q : VK} (q : Q v H) : rIxL K (.ref fl) (.int j) H Q := ⟨fl, _, j, v, rfl, rfl, .inl (.inl h), hv, q⟩
theorem atI_nat' {xs : List V} {j : Nat} (h : j < xs.length) : atI xs (j : Int) = xs[j]? := by
  rw [List.getElem?_eq_getElem h]
  exact atI_nat (j := j) (List.getElem?_eq_getElem h)
theorem ok_flow {f : Addr} {fd : FuncData} (F : Fun K "_law_flow" "_law_flow" (topS 60) f fd) (ml : mg "list" = none) : FnOk P w K mg base CX0 1 f fd ["_law_script"] (spFlow K) := by
  refine F.ok sc_law_flow (fun vs H Q E h => ?_) (fun cdv A outer s H vs Q E hr h => ?_)
  · obtain ⟨a, ns, rfl, _⟩ := h
    rfl
  · obtain ⟨a, ns, rfl, hS, hlen, q⟩ := h
    refine ⟨_, pss_one (ps_ret (pe_lst (pa_cons (pe_callTy call_list_of (by rfl) ml (by decide +kernel) (pa_cons (pe_slice sl_list (pv 0) po_none (po_some pe_int)) pa_nil)) (pa_cons pe_int (pa_cons pe_int (pa_cons pe_int pa_nil)))))), ?_⟩
    have ec : cutV (ns.map V.int) none (some 63) = ns.map V.int := by
      unfold cutV
      rw [show HT.sIx (ns.map V.int).length (ns.map V.int).length (some 63) = min 63 (ns.map V.int).length from HT.sIx_nat _ _ 63, HT.sIx_none]
      rw [List.length_map, Nat.min_eq_right hlen]
      show List.take (ns.length - 0) (List.map V.int ns) = _
      rw [Nat.sub_zero, ← List.length_map (f := V.int), List.take_length]
    refine ⟨.ref a, rfl, 63, rfl, a, _, rfl, hS, fun c nc => ?_⟩
    rw [ec]
    have s1 : Same H (upd H c (.lst (ns.map V.int))) := same_new nc
    refine ⟨c, _, rfl, .inl (.inl (.inl upd_same)), fun l nl => ?_⟩
    have s2 : Same H (upd (upd H c (.lst (ns.map V.int))) l (.lst (ns.map V.int))) := s1.trans (same_new nl)
    refine ⟨by show 4 ≤ sizeLine; decide, fun p np => ?_⟩
    exact q p l _ (s2.trans (same_new np)) (s2.free np) upd_same ((same_new np) _ _ upd_same)
theorem ok_draw {f : Addr} {fd : FuncData} (F : Fun K "_law_draw" "_law_draw" (topS 62) f fd) (ml : mg "len" = none) (ma : mg "abs" = none) : FnOk P w K mg base CX0 1 f fd ["_law_flow_here", "_law_size"] spDraw := by
  refine F.ok sc_law_draw (fun vs H Q E h => ?_) (fun cdv A outer s H vs Q E hr h => ?_)
  · obtain ⟨fl, sc, i, b, c, ns, rfl, _⟩ := h
    rfl
  · obtain ⟨fl, sc, i, b, c, ns, rfl, hF, hS, hi, q⟩ := h
    have nd := sc_law_draw.nd
    refine ⟨_, pss_cons (ps_if (pt_cmpR op_gt (pe_ix ix_list (pv 0) pe_int (fun _ _ => rfl)) pe_int (nomark _))
        (pss_cons (ps_set (i := 2) nd rfl (.inl rfl) (pe_op op_mod (pe_ix ix_list (pv 0) pe_int (fun _ _ => rfl)) (pv 1)))
          (pss_cons (ps_asg (pe_op op_fdiv (pe_ix ix_list (pv 0) pe_int (fun _ _ => rfl)) (pv 1)) (pg_sub (pv 0) pe_int set_list)) (pss_one (ps_ret (pv 2))))) pss_nil)
      (pss_cons (ps_set (i := 3) nd rfl (.inl rfl) pe_int)
      (pss_cons (ps_if (pt_cmpR op_lt (pe_ix ix_list (pv 0) pe_int (fun _ _ => rfl)) (pe_callB call_len_seq (by rfl) ml PySem.boot_len (pa_cons (pe_ix ix_list (pv 0) pe_int (fun _ _ => rfl)) pa_nil)) (nomark _))
        (pss_one (ps_set (i := 3) nd rfl (.inl rfl) (pe_ix ix_list (pe_ix ix_list (pv 0) pe_int (fun _ _ => rfl)) (pe_ix ix_list (pv 0) pe_int (fun _ _ => rfl)) (fun _ _ => rfl)))) pss_nil)
      (pss_cons (ps_asg (pe_op op_add (pe_ix ix_list (pv 0) pe_int (fun _ _ => rfl)) pe_int) (pg_sub (pv 0) pe_int set_list))
      (pss_cons (ps_if (pt_cmpR op_ge (pe_callB call_abs (by rfl) ma (by decide +kernel) (pa_cons (pv 3) pa_nil)) (pe_op op_pow pe_int pe_int) (nomark _))
        (pss_cons (ps_set (i := 2) nd rfl (.inl rfl) (pe_op op_mod (pe_callB call_abs (by rfl) ma (by decide +kernel) (pa_cons (pv 3) pa_nil)) (pv 1)))
          (pss_cons (ps_asg (pe_op op_fdiv (pe_callB call_abs (by rfl) ma (by decide +kernel) (pa_cons (pv 3) pa_nil)) (pv 1)) (pg_sub (pv 0) pe_int set_list)) (pss_one (ps_ret (pv 2))))) pss_nil)
      (pss_cons (ps_set (i := 4) nd rfl (.inl rfl) (pe_op op_add (pe_op op_add (pe_op op_mul (pe_ix ix_list (pv 0) pe_int (fun _ _ => rfl)) pe_int) (pe_op op_mul (pv 3) pe_int)) pe_int))
      (pss_cons (ps_set (i := 4) nd rfl (.inl rfl) (pe_op op_mod (pe_op op_add (pv 4) (pe_op op_mul (pe_ix ix_list (pv 0) pe_int (fun _ _ => rfl)) pe_int)) pe_int))
      (pss_cons (ps_asg (pv 4) (pg_sub (pv 0) pe_int set_list))
      (pss_cons (ps_set (i := 5) nd rfl (.inl rfl) (pe_op op_add (pe_op op_mul (pv 4) pe_int) (pe_op op_mul (pe_op op_fdiv (pv 4) pe_int) pe_int)))
      (pss_cons (ps_if (pt_cmpR op_gt (pv 1) (pe_op op_pow pe_int pe_int) (nomark _))
        (pss_one (ps_ret (pe_op op_mod (pe_op op_mulN (pv 5) (pv 4)) (pv 1)))) pss_nil)
      (pss_one (ps_ret (pe_op op_mod (pe_op op_fdiv (pe_op op_mod (pv 5) pe_int) pe_int) (pv 1))))))))))))), ?_⟩
    refine ⟨.ref fl, rfl, fl, _, 2, .int b, rfl, rfl, .inl (.inl hF), rfl, b, 0, rfl, rfl, _, rfl, ite2 (fun e => ?_) (fun e => ?_)⟩
    · refine ⟨.ref fl, rfl, fl, _, 2, .int b, rfl, rfl, .inl (.inl hF), rfl, .int 5, rfl, b, 5, rfl, rfl, (by show (0 : Int) < 5; decide), ?_⟩
      refine ⟨.ref fl, rfl, fl, _, 2, .int b, rfl, rfl, .inl (.inl hF), rfl, .int 5, rfl, b, 5, rfl, rfl, ⟨by decide, by decide⟩, ?_⟩
      refine ⟨.ref fl, rfl, fl, _, 2, 2, rfl, rfl, hF, rfl, ?_⟩
      refine ⟨.int (b % 5), rfl, ?_⟩
      exact q (b % 5) i (b / 5) c (Int.emod_nonneg _ (by decide)) (Int.emod_lt_of_pos _ (by decide)) hi
    · refine ⟨.ref fl, rfl, fl, _, 1, .int i, rfl, rfl, .inl (.inl hF), rfl, .ref fl, rfl, fl, _, 0, .ref sc, rfl, rfl, .inl (.inl hF), rfl, sc, _, rfl, .inl (.inl (.inl hS)), i, _, rfl, rfl, _, rfl, ite2 (fun e2 => ?_) (fun e2 => ?_)⟩
      · have h2 : i < ((ns.map V.int).length : Int) := of_decide_eq_true e2
        obtain ⟨j, rfl⟩ := Int.eq_ofNat_of_zero_le hi
        have h3 : j < ns.length := by rw [List.length_map] at h2; omega
        have ga : atI (ns.map V.int) (j : Int) = some (.int ns[j]) := by
          rw [atI_nat' (by rw [List.length_map]; exact h3), List.getElem?_map, List.getElem?_eq_getElem h3]
          rfl
        refine ⟨.ref fl, rfl, fl, _, 0, .ref sc, rfl, rfl, .inl (.inl hF), rfl, .ref fl, rfl, fl, _, 1, .int j, rfl, rfl, .inl (.inl hF), rfl, sc, _, j, .int ns[j], rfl, rfl, .inl (.inl hS), ga, ?_⟩
        generalize ns[j] = z
        refine ⟨.ref fl, rfl, fl, _, 1, .int (j : Int), rfl, rfl, .inl (.inl hF), rfl, (j : Int), 1, rfl, rfl, .ref fl, rfl, fl, _, 1, 1, rfl, rfl, hF, rfl, ?_⟩
        have hF1 : (upd H fl (.lst [V.ref sc, .int ((j : Int) + 1), .int b, .int c])) fl = some (flowV sc ((j : Int) + 1) b c) := upd_same
        have hi1 : (0 : Int) ≤ (j : Int) + 1 := by omega
        refine ⟨.int z, rfl, z, rfl, 10, 18, rfl, rfl, ⟨by decide, by decide, by decide⟩, _, _, rfl, rfl, _, rfl, ite2 (fun e3 => ?_) (fun e3 => ?_)⟩
        · refine ⟨.int z, rfl, z, rfl, .int 5, rfl, _, 5, rfl, rfl, (by show (0 : Int) < 5; decide), ?_⟩
          refine ⟨.int z, rfl, z, rfl, .int 5, rfl, _, 5, rfl, rfl, ⟨by decide, by decide⟩, .ref fl, rfl, fl, _, 2, 2, rfl, rfl, hF1, rfl, ?_⟩
          refine ⟨_, rfl, ?_⟩
          rw [upd_upd]
          exact q _ _ _ _ (Int.emod_nonneg _ (by decide)) (Int.emod_lt_of_pos _ (by decide)) hi1
        · refine ⟨.ref fl, rfl, fl, _, 3, .int c, rfl, rfl, .inl (.inl hF1), rfl, c, _, rfl, rfl, .inr ⟨by decide, by decide⟩, .int z, rfl, z, _, rfl, rfl, .inr ⟨by decide, by decide⟩, _, _, rfl, rfl, _, _, rfl, rfl, ?_⟩
          refine ⟨_, rfl, .ref fl, rfl, fl, _, 1, .int ((j : Int) + 1), rfl, rfl, .inl (.inl hF1), rfl, (j : Int) + 1, _, rfl, rfl, .inr ⟨by decide, by decide⟩, _, _, rfl, rfl, _, 2305843009213693951, rfl, rfl, (by show (0 : Int) < 2305843009213693951; decide), ?_⟩
          refine ⟨_, rfl, .ref fl, rfl, fl, _, 3, 3, rfl, rfl, hF1, rfl, ?_⟩
          refine ⟨_, rfl, _, 69069, rfl, rfl, .inr ⟨by decide, by decide⟩, _, rfl, _, 65536, rfl, rfl, ⟨by decide, by decide⟩, _, 40503, rfl, rfl, .inr ⟨by decide, by decide⟩, _, _, rfl, rfl, ?_⟩
          refine ⟨.int 5, rfl, 10, 6, rfl, rfl, ⟨by decide, by decide, by decide⟩, _, _, rfl, rfl, _, rfl, ite2 (fun e4 => absurd e4 (by decide)) (fun e4 => ?_)⟩
          refine ⟨_, rfl, _, 2147483647, rfl, rfl, (by show (0 : Int) < 2147483647; decide), _, 64, rfl, rfl, ⟨by decide, by decide⟩, .int 5, rfl, _, 5, rfl, rfl, (by show (0 : Int) < 5; decide), ?_⟩
          rw [upd_upd]
          exact q _ _ _ _ (Int.emod_nonneg _ (by decide)) (Int.emod_lt_of_pos _ (by decide)) hi1
      · refine ⟨.ref fl, rfl, fl, _, 1, .int i, rfl, rfl, .inl (.inl hF), rfl, i, 1, rfl, rfl, .ref fl, rfl, fl, _, 1, 1, rfl, rfl, hF, rfl, ?_⟩
        have hF1 : (upd H fl (.lst [V.ref sc, .int (i + 1), .int b, .int c])) fl = some (flowV sc (i + 1) b c) := upd_same
        have hi1 : (0 : Int) ≤ i + 1 := by omega
        refine ⟨.int 0, rfl, 0, rfl, 10, 18, rfl, rfl, ⟨by decide, by decide, by decide⟩, _, _, rfl, rfl, _, rfl, ite2 (fun e3 => ?_) (fun e3 => ?_)⟩
        · refine ⟨.int 0, rfl, 0, rfl, .int 5, rfl, _, 5, rfl, rfl, (by show (0 : Int) < 5; decide), ?_⟩
          refine ⟨.int 0, rfl, 0, rfl, .int 5, rfl, _, 5, rfl, rfl, ⟨by decide, by decide⟩, .ref fl, rfl, fl, _, 2, 2, rfl, rfl, hF1, rfl, ?_⟩
          refine ⟨_, rfl, ?_⟩
          rw [upd_upd]
          exact q _ _ _ _ (Int.emod_nonneg _ (by decide)) (Int.emod_lt_of_pos _ (by decide)) hi1
        · refine ⟨.ref fl, rfl, fl, _, 3, .int c, rfl, rfl, .inl (.inl hF1), rfl, c, _, rfl, rfl, .inr ⟨by decide, by decide⟩, .int 0, rfl, 0, _, rfl, rfl, .inr ⟨by decide, by decide⟩, _, _, rfl, rfl, _, _, rfl, rfl, ?_⟩
          refine ⟨_, rfl, .ref fl, rfl, fl, _, 1, .int (i + 1), rfl, rfl, .inl (.inl hF1), rfl, i + 1, _, rfl, rfl, .inr ⟨by decide, by decide⟩, _, _, rfl, rfl, _, 2305843009213693951, rfl, rfl, (by show (0 : Int) < 2305843009213693951; decide), ?_⟩
          refine ⟨_, rfl, .ref fl, rfl, fl, _, 3, 3, rfl, rfl, hF1, rfl, ?_⟩
          refine ⟨_, rfl, _, 69069, rfl, rfl, .inr ⟨by decide, by decide⟩, _, rfl, _, 65536, rfl, rfl, ⟨by decide, by decide⟩, _, 40503, rfl, rfl, .inr ⟨by decide, by decide⟩, _, _, rfl, rfl, ?_⟩
          refine ⟨.int 5, rfl, 10, 6, rfl, rfl, ⟨by decide, by decide, by decide⟩, _, _, rfl, rfl, _, rfl, ite2 (fun e4 => absurd e4 (by decide)) (fun e4 => ?_)⟩
          refine ⟨_, rfl, _, 2147483647, rfl, rfl, (by show (0 : Int) < 2147483647; decide), _, 64, rfl, rfl, ⟨by decide, by decide⟩, .int 5, rfl, _, 5, rfl, rfl, (by show (0 : Int) < 5; decide), ?_⟩
          rw [upd_upd]
          exact q _ _ _ _ (Int.emod_nonneg _ (by decide)) (Int.emod_lt_of_pos _ (by decide)) hi1
end
end PD
end
section
set_option Elab.async false
set_option linter.all false
set_option maxRecDepth 100000
set_option maxHeartbeats 4000000
/-! An own exception class over LookupError whose __init__ is a def (HandS.ExcInit serves ValueError alone; its proofs' lines, turned to LookupError). -/
namespace PD
open PySem PySem.Spec PyProof.Rows L2

abbrev leTail : List Value := [.type "LookupError", .type "Exception", .type "BaseException", .type "object"]
/-- own classes, then LookupError's mro -/
def refsL : List Value → Bool
  | .ref _ :: r => refsL r
  | l => l == leTail
theorem refsL_cases {l : List Value} (e : refsL l = true) : (∃ c r, l = .ref c :: r ∧ refsL r = true) ∨ l = leTail := by
  cases l with
  | nil => exact .inr (beq_iff_eq.mp e)
  | cons a r =>
    cases a with
    | ref c => exact .inl ⟨c, r, rfl, e⟩
    | _ => exact .inr (beq_iff_eq.mp e)
theorem refsT_pass (self : Value) (l : List Value) (e : refsL l = true) : PySem.refuseLoop self "__setattr__" l = pure () := by
  induction l with
  | nil => exact absurd e (by decide)
  | cons a r ih =>
    rcases refsL_cases e with ⟨c, r', q, h⟩ | q
    · obtain ⟨rfl, rfl⟩ := List.cons.inj q
      rw [refuseLoop_ref]
      exact ih h
    · rw [q]
      exact F.store_LookupError.passes self
theorem refsT_contains (X : String) (l : List Value) (e : refsL l = true) : l.contains (.type X) = leTail.contains (.type X) := by
  induction l with
  | nil => exact absurd e (by decide)
  | cons a r ih =>
    rcases refsL_cases e with ⟨c, r', q, h⟩ | q
    · obtain ⟨rfl, rfl⟩ := List.cons.inj q
      rw [List.contains_cons, ih h]
      rfl
    · rw [q]
theorem refsT_ne {l : List Value} (e : refsL l = true) : l.isEmpty = false := by
  cases l with
  | nil => exact absurd e (by decide)
  | cons _ _ => rfl
theorem typ_LE : typeOf (.type "LookupError") = pure (.type "type") := by kernel_rfl
section
open Builtin Builtin.ObjectAttr
open PySem.HandSPX (store_in_new)
open PySem.OEX (store_in_old)
variable {prog : Program} {w : World} {A : Around} {E : Value → Shared → Prop} {R : Result → Shared → Prop} {hp : Heap} {g : Array GenState} {d : Drawn} {t : Nat} {os : OsState}
theorem lxc_osa {K : PySem.W.Frag} {name : Str} {tk : Tok} {v : Value} {x C : Addr} {fv : Array Value} {cd : ClassData}
    (X : K.In hp) (hx : hp.get? x = some { cls := .ref C, data := .fields fv }) (hcd : PySem.W.clsIn K C = some cd) (hm : refsL cd.mro = true) (hh : cd.hasDict = true) (ha : PySem.W.findIn K (.ref C) name = some none)
    (hq : ∀ h' tk' dx, (∀ b o, b ≠ x → hp.get? b = some o → h'.get? b = some o) → hp.objs.size ≤ dx → dx ≠ x → h'.get? x = some { cls := .ref C, dict := some dx, data := .fields fv } →
      h'.Ns1 dx (fun y => if y = name then some v else none) → R (.ok (.ret .none)) ⟨h', g, d, tk', os⟩) :
    codeAny (model prog w) A (.call (.builtin "object.__setattr__") ⟨[.ref x, .str name tk, v], []⟩) R ⟨hp, g, d, t, os⟩ := by
  have I : PySem.W.InstAt hp x { cls := .ref C, data := .fields fv } C none := ⟨hx, rfl, rfl, trivial⟩
  have SF := F.store_object
  have ne := refsT_ne hm
  have hob : cd.mro.contains (.type "object") = true := (refsT_contains "object" _ hm).trans (by decide +kernel)
  have hxs : x ≠ hp.objs.size := Nat.ne_of_lt (Heap.lt_size hx)
  have sub : PySem.W.Looks (model prog w) hp (isInstance (.ref x) (.type "object")) true := I.type.andThen (PySem.W.looks_mroIn X (by unfold PySem.W.mroIn; rw [hcd, Option.bind_some, if_neg (by rw [ne]; decide), hob]))
  refine codeAny_call_builtin SF.slot.plain SF.entry (@PySem.W.check_slot (model prog w) _ _ ⟨hp, g, d, t, os⟩ "object.__setattr__" "object" "__setattr__" (.ref x) [.str name tk, v] [] _ SF.kind SF.split sub (SF.args (.ref x) (.str name tk) v) ?_)
  have hmr : PySem.W.Looks (model prog w) hp (mroOf (.ref C)) cd.mro := (PySem.W.looks_clsIn X hcd).andThen .now
  have L3 : PySem.W.Looks (model prog w) hp (storeTaker? none) none := .now
  have hcls : PySem.W.Looks (model prog w) hp (classData C) cd := PySem.W.looks_clsIn X hcd
  rw [PySem.W.osa_eq, refuse_eq]
  refine wpAny_bind (wpAny_bind (I.type.at (wpAny_bind (hmr.at ?_))))
  rw [refsT_pass _ _ hm]
  refine wpAny_pure (wpAny_bind (I.type.at (wpAny_bind ((PySem.W.looks_findIn X ha).at (wpAny_bind (L3.at ?_))))))
  show wpAny _ _ (storeInOwnDict (.ref x) (.ref C) (.str name tk) name v false) _ _ _
  obtain ⟨nm, bs, mro, ns, qn, hd, sn, sb, ab, col, del⟩ := cd
  dsimp only at hh
  subst hh
  unfold storeInOwnDict ownDictForStores
  repeat (first | with_reducible refine store_in_new ?_ ?_ | with_reducible refine wpAny_loadPart_at hx ?_ | with_reducible refine hcls.at ?_ | wp_step)
  · exact ⟨_, #[], _, (Heap.get?_update_ne _ _ _ _ hxs.symm).trans (Heap.get?_push_at rfl rfl), rfl, fun e he => absurd he (by simp), fun _ => rfl⟩
  · intro h' tk' hn' hs
    have hx₁ : (hp.push { cls := .type "dict", data := .dict #[] }).get? x = some { cls := .ref C, data := .fields fv } := Heap.get?_push_of_some _ hx
    refine hq h' tk' hp.objs.size (fun b o hb ho => ?_) (Nat.le_refl _) hxs.symm ?_ hn'
    · exact (hs.2 b (Nat.ne_of_lt (Heap.lt_size ho))).trans ((Heap.get?_update_ne _ _ _ _ hb).trans (Heap.get?_push_of_some _ ho))
    · exact (hs.2 x hxs).trans (Heap.get?_update_self _ hx₁ rfl)
theorem losa_old {K : PySem.W.Frag} {name : Str} {tk : Tok} {v : Value} {x C dx : Addr} {fv : Array Value} {cd : ClassData} {m0 : Str → Option Value} {nl : List Str}
    (X : K.In hp) (hx : hp.get? x = some { cls := .ref C, dict := some dx, data := .fields fv }) (hns : hp.Ns1 dx m0) (hw : Within m0 nl) (hz : nl.length ≤ 1000) (hcd : PySem.W.clsIn K C = some cd) (hm : refsL cd.mro = true) (hh : cd.hasDict = true)
    (ha : PySem.W.findIn K (.ref C) name = some none)
    (hq : ∀ h' tk', (∀ b o, b ≠ dx → hp.get? b = some o → h'.get? b = some o) → h'.Ns1 dx (fun y => if y = name then some v else m0 y) → R (.ok (.ret .none)) ⟨h', g, d, tk', os⟩) :
    codeAny (model prog w) A (.call (.builtin "object.__setattr__") ⟨[.ref x, .str name tk, v], []⟩) R ⟨hp, g, d, t, os⟩ := by
  obtain ⟨oD, esD, epD, hoD, hdD, _⟩ := hns.count hw
  have I : PySem.W.InstAt hp x { cls := .ref C, dict := some dx, data := .fields fv } C (some oD) := ⟨hx, rfl, rfl, hoD⟩
  have SF := F.store_object
  have ne := refsT_ne hm
  have hob : cd.mro.contains (.type "object") = true := (refsT_contains "object" _ hm).trans (by decide +kernel)
  have sub : PySem.W.Looks (model prog w) hp (isInstance (.ref x) (.type "object")) true := I.type.andThen (PySem.W.looks_mroIn X (by unfold PySem.W.mroIn; rw [hcd, Option.bind_some, if_neg (by rw [ne]; decide), hob]))
  refine codeAny_call_builtin SF.slot.plain SF.entry (@PySem.W.check_slot (model prog w) _ _ ⟨hp, g, d, t, os⟩ "object.__setattr__" "object" "__setattr__" (.ref x) [.str name tk, v] [] _ SF.kind SF.split sub (SF.args (.ref x) (.str name tk) v) ?_)
  have hmr : PySem.W.Looks (model prog w) hp (mroOf (.ref C)) cd.mro := (PySem.W.looks_clsIn X hcd).andThen .now
  have L3 : PySem.W.Looks (model prog w) hp (storeTaker? none) none := .now
  have hcls : PySem.W.Looks (model prog w) hp (classData C) cd := PySem.W.looks_clsIn X hcd
  rw [PySem.W.osa_eq, refuse_eq]
  refine wpAny_bind (wpAny_bind (I.type.at (wpAny_bind (hmr.at ?_))))
  rw [refsT_pass _ _ hm]
  refine wpAny_pure (wpAny_bind (I.type.at (wpAny_bind ((PySem.W.looks_findIn X ha).at (wpAny_bind (L3.at ?_))))))
  show wpAny _ _ (storeInOwnDict (.ref x) (.ref C) (.str name tk) name v false) _ _ _
  obtain ⟨nm, bs, mro, ns, qn, hd, sn, sb, ab, col, del⟩ := cd
  dsimp only at hh
  subst hh
  unfold storeInOwnDict ownDictForStores
  repeat (first | with_reducible refine store_in_old hns hw hz ?_ | with_reducible refine wpAny_loadPart_at hx ?_ | with_reducible refine hcls.at ?_ | wp_step)
  intro h' tk' hn' hs
  exact hq h' tk' (fun b o hb ho => (hs.2 b hb).trans ho) hn'
end
structure LexC (K : PySem.W.Frag) (C : Addr) : Prop where
  cls : ∃ nm q N bs bm sn sub ab col dd k0 k1 k2 k3 k5, K.lookup C = some (excClassObj nm q C N bs bm true sn sub ab col dd k0 k1 k2 k3 k5 "LookupError.__new__") ∧ refsL bm = true
  sa : PySem.W.findIn K (.ref C) "__setattr__" = some (some (.builtin "object.__setattr__"))
  exC : PySem.W.subIn K (.ref C) (.type "BaseException") = some true
  tyC : PySem.W.typeIn K (.ref C) = some (.type "type")
  kC : PySem.W.keepIn K (.ref C) = true
section
variable {X : Cx} {pins : List (Addr × Obj)} {σ : L2.St} {H : Hp} {s : Shared} {a C dx : Addr} {f : Str} {y : V} {u : Value} {fs : List (Str × V)} {Q : Unit → Shared → Prop} {E : Value → Shared → Prop} {A : Around}
/-- self.f = y, the first one -/
theorem lst_new (T : LexC X.K C) (I : Inv X pins σ H s) (e : H a = some (exo a C none)) (hno : PySem.W.findIn X.K (.ref C) f = some none) (ry : RelV y u)
    (h : ∀ dx s', H dx = none → dx ≠ a → Inv X pins σ (upd (upd H dx (exd dx [(f, y)])) a (exo a C (some dx))) s' → Q () s') : wpAny (model X.prog X.w) A (setAttr (.ref a) f u) Q E s := by
  obtain ⟨nm, q, N, bs, bm, sn, sub, ab, col, dd, k0, k1, k2, k3, k5, hC, hbm⟩ := T.cls
  have hcl : PySem.W.clsIn X.K C = some { name := nm, bases := bs, mro := .ref C :: bm, ns := N, qualname := q, hasDict := true, slotNames := sn, subclasses := sub, abstract := ab, collection := col, hasDel := false } := by unfold PySem.W.clsIn; rw [hC] <;> rfl
  obtain ⟨t1, ho⟩ := exo_at I.hok e
  obtain ⟨hp, g, d, t, os⟩ := s
  refine PySem.W.set_plain I.kIn (ox := { cls := .ref C, dict := none, data := .fields #[.ref t1, .none, .none, .none, .bool false, .none] }) (od := none) ⟨ho, rfl, rfl, trivial⟩ T.sa ?_
  refine lxc_osa I.kIn ho hcl (show refsL (.ref C :: bm) = true from hbm) rfl hno (fun h' tk' dx k dn dne hx hn => ?_)
  have hnd : H dx = none := I.hok.fresh dn
  have nd : ∀ {b : Addr} {o : Obj}, hp.get? b = some o → b ≠ dx := fun {b o} q => Nat.ne_of_lt (Nat.lt_of_lt_of_le (Heap.lt_size q) dn)
  have na : ∀ {b : Addr}, H b = none → b ≠ a := fun {b} n z => by
    rw [z, e] at n
    cases n
  have Un1 : Un X.fs [] H (upd (upd H dx (exd dx [(f, y)])) a (exo a C (some dx))) hp h' := {
    keep := fun b o q n _ _ => k b o (na n) q
    slot := fun b o q n _ _ => ⟨o.slots, k b o (na n) q⟩
    free := fun b o q n _ => by rw [upd_ne (na n), upd_ne (nd q)]; exact n
    there := fun b o q _ => by
      by_cases hb : b = a
      · exact ⟨_, by rw [hb]; exact hx⟩
      · exact ⟨o, k b o hb q⟩
    tups := fun b xs q => by rw [upd_ne (at_ne e q exo_tup), upd_ne (ne_of_none q hnd)]; exact q
    frzs := fun b o v q => by rw [upd_ne (at_ne e q exo_frz), upd_ne (ne_of_none q hnd)]; exact q
    tbls := fun b ps q => ⟨#[], by rw [upd_ne (at_ne e q exo_tbl), upd_ne (ne_of_none q hnd), q]; simp⟩ }
  refine h dx _ hnd dne (I.un (t' := tk') Un1 fun b o q => ?_)
  by_cases hb : b = a
  · subst hb
    rw [upd_same] at q
    cases q
    exact exo_ok hx
  · rw [upd_ne hb] at q
    by_cases hd : b = dx
    · subst hd
      rw [upd_same] at q
      cases q
      exact exd_ok hn (relO_put (fs := []) ry fun g => True.intro)
    · rw [upd_ne hd] at q
      exact (I.hok b o q).stay (fun c v hc z => k c v (by
          rcases hc with hc | hc
          · rw [hc]
            exact hb
          · exact at_ne e hc exo_own) z)
        (fun c hc => by rw [upd_ne (at_ne e hc exo_own), upd_ne (ne_of_none hc hnd)]; exact hc) (fun c xs hc => by rw [upd_ne (at_ne e hc exo_tup), upd_ne (ne_of_none hc hnd)]; exact hc)
/-- self.f = y, a further one -/
theorem lst_old (T : LexC X.K C) (I : Inv X pins σ H s) (e : H a = some (exo a C (some dx))) (ed : H dx = some (exd dx fs)) (hl : fs.length ≤ 900) (hno : PySem.W.findIn X.K (.ref C) f = some none) (ry : RelV y u)
    (h : ∀ s', Inv X pins σ (upd H dx (exd dx ((f, y) :: fs))) s' → Q () s') : wpAny (model X.prog X.w) A (setAttr (.ref a) f u) Q E s := by
  obtain ⟨nm, q, N, bs, bm, sn, sub, ab, col, dd, k0, k1, k2, k3, k5, hC, hbm⟩ := T.cls
  have hcl : PySem.W.clsIn X.K C = some { name := nm, bases := bs, mro := .ref C :: bm, ns := N, qualname := q, hasDict := true, slotNames := sn, subclasses := sub, abstract := ab, collection := col, hasDel := false } := by unfold PySem.W.clsIn; rw [hC] <;> rfl
  obtain ⟨t1, ho⟩ := exo_at I.hok e
  obtain ⟨mA, hns, rel⟩ := exd_at I.hok ed
  have hw := within_of rel
  obtain ⟨hp, g, d, t, os⟩ := s
  obtain ⟨oD, _, _, hoD, _, _⟩ := hns.count hw
  refine PySem.W.set_plain I.kIn (ox := { cls := .ref C, dict := some dx, data := .fields #[.ref t1, .none, .none, .none, .bool false, .none] }) (od := some oD) ⟨ho, rfl, rfl, hoD⟩ T.sa ?_
  refine losa_old I.kIn ho hns hw (by rw [List.length_map]; omega) hcl (show refsL (.ref C :: bm) = true from hbm) rfl hno (fun h' tk' k hn => ?_)
  have hd : ∃ o, h'.get? dx = some o := by
    obtain ⟨o, _, _, e', _⟩ := hn
    exact ⟨o, e'⟩
  exact h _ (I.write (t' := tk') (x := dx) (e := dx) (o := exd dx ((f, y) :: fs)) (by rw [ed]; exact True.intro) (.inl rfl) k hd (exd_ok hn (relO_put ry rel)))
/-- LookupError.__init__(self, ..): nothing of it is told -/
theorem linit_ok {us : List Value} {Q : Value → Shared → Prop} (T : LexC X.K C) (I : Inv X pins σ H s) (e : H a = some (exo a C none)) (hl : us.length ≤ sizeLine) (h : ∀ s', Inv X pins σ H s' → Q .none s') :
    wpAny (model X.prog X.w) A (call (.builtin "LookupError.__init__") (.ref a :: us)) Q E s := by
  obtain ⟨nm, q, N, bs, bm, sn, sub, ab, col, dd, k0, k1, k2, k3, k5, hC, hbm⟩ := T.cls
  obtain ⟨t1, ho⟩ := exo_at I.hok e
  obtain ⟨hp, g, d, t, os⟩ := s
  refine wpAny_call (PySem.HandSPX.init_base F.excBase_LookupError (fun Y => refsT_contains Y bm hbm) (I.kIn _ _ hC) ho hl fun h' t2 k hx => ?_)
  have J := I.write (t' := t) (x := a) (e := a) (o := exo a C none) (by rw [e]; exact True.intro) (.inl rfl) k ⟨_, hx⟩ (exo_ok hx)
  have eu : upd H a (exo a C none) = H := by
    funext b
    by_cases hb : b = a
    · rw [hb, upd_same, e]
    · rw [upd_ne hb]
  rw [eu] at J
  exact h _ J
end

/-- LookupError.__init__(self, ..) -/
def tLeI (K : PySem.W.Frag) (ta : TA) : TE := fun σ H Q => ta σ H fun vs H1 => ∃ (a C : Addr) (ws : List V), vs = .ref a :: ws ∧ ws.length ≤ 1000 ∧ LexC K C ∧ H1 a = some (exo a C none) ∧ Q .non H1
/-- self.f = e -/
def tLst' (K : PySem.W.Frag) (f : Str) (to te : TE) : TS := fun D σ H => te σ H fun y H1 => to σ H1 fun x H2 => ∃ a C : Addr, x = .ref a ∧ LexC K C ∧ PySem.W.findIn K (.ref C) f = some none ∧
  ((H2 a = some (exo a C none) ∧ ∀ dx, H2 dx = none → dx ≠ a → D.nx σ (upd (upd H2 dx (exd dx [(f, y)])) a (exo a C (some dx)))) ∨
    ∃ (dx : Addr) (fs : List (Str × V)), H2 a = some (exo a C (some dx)) ∧ H2 dx = some (exd dx fs) ∧ fs.length ≤ 900 ∧ D.nx σ (upd H2 dx (exd dx ((f, y) :: fs))))
section
variable {X : Cx} {o e : Expr} {es : List Expr} {to te : TE} {ta : TA} {f : Str} {p p' p1 p2 pos : Pos}
theorem pe_leinit {pl : Sem Bool} (hg : Gl X "LookupError") (hm : X.mg "LookupError" = none) (vV : PySem.W.findCls X.K (.type "LookupError") (.type "type") "__init__" = some (.val (.builtin "LookupError.__init__"))) (ha : PA X (e :: es) ta)
    (hc : eval (.Call (.Attribute (.Name "LookupError" p1) "__init__" p2) (e :: es) [] pos) X.env = (do
      let ov ← eval (.Name "LookupError" p1) X.env
      standAt p2.atName
      let (f, first) ← holding [ov] (getMethod ov "__init__" pl)
      callWith pos f first (backTo pos (starEach (e :: es) X.env)) (backToKw pos (keywordEach [] X.env))) := by rfl)
    (he : starEach (e :: es) X.env = (false, eval e X.env) :: starEach es X.env := by rfl) (hpl : (backTo pos (starEach es X.env)).any (·.1) = false := by rfl) :
    PE X (.Call (.Attribute (.Name "LookupError" p1) "__init__" p2) (e :: es) [] pos) (tLeI X.K ta) := by
  refine ⟨fun pins s σ H Q I h => ?_⟩
  refine PySem.W.methodCall_KW (ld_blt I hg hm PyProof.Rows.Boot.«LookupError» ?_ (by decide) (by decide)) hc
  obtain ⟨m, fr⟩ := I.fr
  refine PySem.W.method_type fr I.ok.mod.kin typ_LE (by decide +kernel) vV (by decide +kernel) ?_
  show wpAny _ _ (callWith pos (Value.builtin "LookupError.__init__") [] (backTo pos (starEach (e :: es) X.env)) []) _ _ _
  refine PyProof.Rows.callWith_method1 (thn (ha.run pos pins _ σ H _ (I.tok _) h) fun us s1 ⟨vs, H1, I1, r1, a, C, ws, ev, hl, T, ea, q⟩ => ?_) he hpl
  subst ev
  cases r1 with
  | @cons _ u0 _ ur ra rw' =>
    obtain rfl : u0 = Value.ref a := ra
    have hlen : ur.length ≤ sizeLine := by
      rw [← Paired.length rw', sizeLine_eq]
      omega
    exact linit_ok T I1 ea hlen fun s' J => ⟨.non, H1, J, rfl, q⟩
theorem ps_lst' (ho : PE X o to) (he : PE X e te) (hs : swapsWith e (some (.Attribute o f p')) pos.line X.env = pure false := by rfl) : PS X (.Assign [.Attribute o f p'] e pos) (tLst' X.K f to te) := by
  refine ⟨fun pins s σ H D I h => ?_⟩
  refine plainObj_wpAny_Assign_Attribute (thn (he.run pins s σ H _ I h) fun v s1 ⟨y, H1, I1, r1, q1⟩ => thn (ho.run pins s1 σ H1 _ I1 q1) fun u s2 ⟨x, H2, I2, r2, a, C, ex, T, hno, q⟩ => ?_) hs
  subst ex
  obtain rfl : u = Value.ref a := r2
  rcases q with ⟨ea, q⟩ | ⟨dx, fs, ea, ed, hl, q⟩
  · exact lst_new T I2 ea hno r1 fun dx s' n ne J => ⟨σ, _, J, q dx n ne⟩
  · exact lst_old T I2 ea ed hl hno r1 fun s' J => ⟨σ, _, J, q⟩
theorem pmk_lex {CX : CXT} {x : Str} {C fI : Addr} {k : Nat} {fd : FuncData} {ps : List Str} {sp : Sp} {ds : List Value} {dvs : List V} (T : LexC X.K C) (iC : PySem.W.findIn X.K (.ref C) "__init__" = some (some (.ref fI))) (tI : PySem.W.typeIn X.K (.ref fI) = some (.type "function"))
    (F1 : FnOk X.prog X.w X.K X.mg X.base CX k fI fd ps sp) (hr : Room (k + 1) X.A) (hb : Binds X.K fd ps ds) (hd : Vals dvs ds) (hx : Passes CX X (fun _ _ _ => False)) (hg : Gl X x) (hm : X.mg x = some (.ref C)) (ha : PA X (e :: es) ta)
    (hdb : (x == ("__debug__" : Str)) = false := by decide) (he : starEach (e :: es) X.env = (false, eval e X.env) :: starEach es X.env := by rfl) (hpl : (backTo pos (starEach es X.env)).any (·.1) = false := by rfl) :
    PMk X (.Call (.Name x p) (e :: es) [] pos) (tMkO C sp dvs ta) := by
  intro pins s σ H Q I h
  obtain ⟨nm, q, N, bs, bm, sn, sub, ab, col, dd, k0, k1, k2, k3, k5, hC, hbm⟩ := T.cls
  refine wpAny_Call_Name_kw (ld_glob I hg hm ?_ hdb)
  refine PySem.W.callWith_K (h₀ := X.base) I.ok.mod.kin T.kC (thn (ha.run pos pins s σ H _ I h) fun us s1 ⟨vs, H1, I1, r1, hz, q1⟩ => ⟨I1.kIn, ?_⟩) he hpl
  show wpAny _ _ (call (.ref C) us) _ _ _
  obtain ⟨hp, g, dr, tk, os⟩ := s1
  have hsz : hp.objs.size ≤ hp.objs.size + 1 := Nat.le_succ _
  have hn : H1 (hp.objs.size + 1) = none := I1.hok.fresh hsz
  have hq := q1 (hp.objs.size + 1) hn
  have kk : ∀ b o, hp.get? b = some o → ((hp.push (PySem.W.kdv_tup us)).push (PySem.HandSPX.excO C hp.objs.size)).get? b = some o := fun b o e => Heap.get?_push_of_some _ (Heap.get?_push_of_some _ e)
  have hget : ((hp.push (PySem.W.kdv_tup us)).push (PySem.HandSPX.excO C hp.objs.size)).get? (hp.objs.size + 1) = some (PySem.HandSPX.excO C hp.objs.size) := by heap_get
  have I2 : Inv X pins σ (upd H1 (hp.objs.size + 1) (exo (hp.objs.size + 1) C none)) ⟨(hp.push (PySem.W.kdv_tup us)).push (PySem.HandSPX.excO C hp.objs.size), g, dr, tk, os⟩ :=
    I1.laid (t' := tk) (a := hp.objs.size + 1) (o := exo (hp.objs.size + 1) C none) (h' := (hp.push (PySem.W.kdv_tup us)).push (PySem.HandSPX.excO C hp.objs.size)) kk hsz (exo_ok hget)
  have r2 : Vals (V.ref (hp.objs.size + 1) :: (vs ++ dvs)) (Value.ref (hp.objs.size + 1) :: (us ++ ds)) := .cons rfl (r1.append hd)
  have hl : (Value.ref (hp.objs.size + 1) :: us ++ ds).length = ps.length := by
    have e := r2.length
    rw [F1.len _ _ _ _ hq] at e
    exact e.symm
  have hus : us.length ≤ sizeLine := by
    rw [← Paired.length r1, sizeLine_eq]
    omega
  refine wpAny_call (PySem.HandSPX.call_own F.excBase_LookupError (fun Y => refsT_contains Y bm hbm) (I1.kIn _ _ hC) (PySem.W.looks_findIn I1.kIn iC) (fun self => PySem.W.bind_fn I1.kIn self tI) hus
    (codeAny_mono (F1.run _ X.stack _ _ ⟨Value.ref (hp.objs.size + 1) :: us, []⟩ (Value.ref (hp.objs.size + 1) :: (us ++ ds)) _ _ (fun _ _ _ => False) (hr.make C us []) (I2.env0.make C us []) (hb _ (Value.ref (hp.objs.size + 1) :: us) I2.kIn hl) r2 hq) fun r s' hq' => ?_))
  cases r with
  | error er => exact hx pins σ _ _ er s' I2 hq'
  | ok fl =>
    cases fl with
    | ret u =>
      obtain ⟨v, H2, os2, bare2, un2, hok2, rv, ev, d, fs, ea, ed, hd1, q2⟩ := hq'
      subst ev
      obtain ⟨h2, g2, d2, t2, os'⟩ := s'
      exact ⟨rv, mk_end (raises_own T.exC T.tyC) I1 hsz kk un2 hok2 os2 bare2 ea ed hd1 q2⟩
    | next => exact False.elim hq'
    | brk => exact False.elim hq'
    | cont => exact False.elim hq'
end
end PD
end
section
set_option Elab.async false
set_option linter.all false
set_option maxRecDepth 100000
set_option maxHeartbeats 4000000
/-! The refused word: NoTable's making, need_word and built raising, by hand. -/
namespace PD
open PySem PySem.Spec PyProof.Rows L2
/-! ### C.m(e, ..): a def reached through its class -/
theorem pe_cdef {X : Cx} {CX : CXT} {k : Nat} {f C : Addr} {fd : FuncData} {ps : List Str} {sp : Sp} {E : XK} {x m : Str} {p pos apos : Pos} {e : Expr} {es : List Expr} {t : TA} {pl : Sem Bool} {mc : Value} (hg : Gl X x) (hm : X.mg x = some (.ref C))
    (r : ClX.CRead X.K C mc) (c : ClX.CVal X.K C mc m (.ref f) (.ref f)) (hk : PySem.W.keepIn X.K (.ref f) = true) (F : FnOk X.prog X.w X.K X.mg X.base CX k f fd ps sp) (hr : Room k X.A) (hb : Binds X.K fd ps []) (hx : Passes CX X E) (ha : PA X (e :: es) t)
    (hdb : (x == ("__debug__" : Str)) = false := by decide)
    (hst : starEach (e :: es) X.env = (false, eval e X.env) :: starEach es X.env := by rfl) (hpl : (backTo pos (starEach es X.env)).any (·.1) = false := by rfl)
    (ht : eval (.Call (.Attribute (.Name x p) m apos) (e :: es) [] pos) X.env = (do
      let ov ← eval (.Name x p) X.env
      standAt apos.atName
      let (f, first) ← holding [ov] (getMethod ov m pl)
      callWith pos f first (backTo pos (starEach (e :: es) X.env)) (backToKw pos (keywordEach [] X.env))) := by rfl) :
    PE X (.Call (.Attribute (.Name x p) m apos) (e :: es) [] pos) (tCall sp [] E t) := by
  refine ⟨fun pins s σ H Q I h => ?_⟩
  refine PySem.W.methodCall_KW (pl := pl) (ld_glob I hg hm ?_ hdb) ht
  refine PySem.W.method_cls I.kIn r.ga (ClX.getcval_ok I r c fun s1 I1 => ?_)
  refine PySem.W.callWith_K (first := []) (h₀ := X.base) I1.ok.mod.kin hk (thn (ha.run pos pins s1 σ H _ I1 h) fun us s2 ⟨vs, H2, I2, r2, q2⟩ => ⟨I2.kIn, ?_⟩) hst hpl
  exact run_fn F hr hb .nil hx I2 r2 q2
/-- what the top has written of the two error classes -/
structure ExF (K : PySem.W.Frag) (mg : Str → Option Value) (CM CN fM fN : Addr) (fdM fdN : FuncData) : Prop where
  lex : LexC K CN
  iN : PySem.W.findIn K (.ref CN) "__init__" = some (some (.ref fN))
  tN : PySem.W.typeIn K (.ref fN) = some (.type "function")
  nW : PySem.W.findIn K (.ref CN) "word" = some none
  nN : PySem.W.findIn K (.ref CN) "name" = some none
  gM : mg "Missing" = some (.ref CM)
  gN : mg "NoTable" = some (.ref CN)
  gL : mg "LookupError" = none
  vV : PySem.W.findCls K (.type "LookupError") (.type "type") "__init__" = some (.val (.builtin "LookupError.__init__"))
  rdM : ClX.CRead K CM (.type "type")
  cvM : ClX.CVal K CM (.type "type") "__init__" (.ref fM) (.ref fM)
  FM : Fun K "__init__" "Missing.__init__" (inClass (topS 3) 0) fM fdM
  FN : Fun K "__init__" "NoTable.__init__" (inClass (topS 7) 0) fN fdN
  bM : Binds K fdM ["self", "word"] []
  bN : Binds K fdN ["self", "name"] []
section
variable {P : Program} {w : World} {K : PySem.W.Frag} {mg : Str → Option Value} {base : Heap} {CM CN fM fN : Addr} {fdM fdN : FuncData}
def spMiss (C : Addr) : Sp := fun vs H Q _ => ∃ (e : Addr) (z : Str), vs = [.ref e, .str z] ∧ H e = some (exo e C none) ∧
  ∀ dx, H dx = none → dx ≠ e → Q .non (upd (upd H dx (exd dx [("word", .str z)])) e (exo e C (some dx)))
def spNoT (C : Addr) : Sp := fun vs H Q _ => ∃ (e : Addr) (z : Str), vs = [.ref e, .str z] ∧ H e = some (exo e C none) ∧
  ∀ dx H', H dx = none → dx ≠ e → H' e = some (exo e C (some dx)) → H' dx = some (exd dx [("name", .str z), ("word", .str "NoTable")]) → (∀ b o, b ≠ e → H b = some o → H' b = some o) → Q .non H'
theorem sc_Miss : FnScope ["self", "word"] ["self", "word"] (defScope (inClass (topS 3) 0)) := ⟨rfl, rfl, rfl, by decide +kernel, rfl, by decide +kernel, by decide +kernel⟩
theorem sc_NoT : FnScope ["self", "name"] ["self", "name"] (defScope (inClass (topS 7) 0)) := ⟨rfl, rfl, rfl, by decide +kernel, rfl, by decide +kernel, by decide +kernel⟩
theorem ok_Miss (T : ExF K mg CM CN fM fN fdM fdN) : FnOk P w K mg base CX0 1 fM fdM ["self", "word"] (spMiss CN) := by
  refine T.FM.ok sc_Miss (fun vs H Q E h => ?_) (fun cdv A outer s H vs Q E hr h => ?_)
  · obtain ⟨e, z, rfl, _⟩ := h
    rfl
  · obtain ⟨e, z, rfl, he, q⟩ := h
    refine ⟨_, pss_cons (ps_expr (pe_leinit (by rfl) T.gL T.vV (pa_cons (pv 0) pa_nil))) (pss_one (ps_lst' (pv 0) (pv 1))), ?_⟩
    refine ⟨.ref e, rfl, e, CN, [], rfl, by decide, T.lex, he, ?_⟩
    exact ⟨.str z, rfl, .ref e, rfl, e, CN, rfl, T.lex, T.nW, .inl ⟨he, fun dx n ne => q dx n ne⟩⟩
theorem ok_NoT (T : ExF K mg CM CN fM fN fdM fdN) : FnOk P w K mg base CX0 2 fN fdN ["self", "name"] (spNoT CN) := by
  refine T.FN.ok sc_NoT (fun vs H Q E h => ?_) (fun cdv A outer s H vs Q E hr h => ?_)
  · obtain ⟨e, z, rfl, _⟩ := h
    rfl
  · obtain ⟨e, z, rfl, he, q⟩ := h
    refine ⟨_, pss_cons (ps_expr (pe_cdef (by rfl) T.gM T.rdM T.cvM T.FM.kp (ok_Miss T) hr T.bM pass0 (pa_cons (pv 0) (pa_cons pe_str pa_nil)))) (pss_one (ps_lst' (pv 0) (pv 1))), ?_⟩
    refine ⟨.ref e, rfl, e, "NoTable", rfl, he, fun dx n ne => ?_⟩
    have h1 : (upd (upd H dx (exd dx [("word", V.str "NoTable")])) e (exo e CN (some dx))) e = some (exo e CN (some dx)) := upd_same
    have h2 : (upd (upd H dx (exd dx [("word", V.str "NoTable")])) e (exo e CN (some dx))) dx = some (exd dx [("word", V.str "NoTable")]) := by rw [upd_ne ne, upd_same]
    refine ⟨.str z, rfl, .ref e, rfl, e, CN, rfl, T.lex, T.nN, .inr ⟨dx, _, h1, h2, by decide, ?_⟩⟩
    refine q dx _ n ne ?_ upd_same fun b o hb hbo => ?_
    · rw [upd_ne (Ne.symm ne)]
      exact h1
    · have nb : b ≠ dx := ne_of_none hbo n
      rw [upd_ne nb, upd_ne hb, upd_ne nb]
      exact hbo
end
end PD
end
section
set_option Elab.async false
set_option linter.all false
set_option maxRecDepth 100000
set_option maxHeartbeats 4000000
namespace PD
open PySem PySem.Spec PyProof.Rows L2
section
variable {T : Tab} {P : Program} {w : World} {mg : Str → Option Value} {base : Heap} {CM CN fM fN : Addr} {fdM fdN : FuncData}
/-- the error of a refused word -/
def spNoWord (CN : Addr) (xs : List Str) : Sp := fun vs H Q E => ∃ z : Str, vs = [.str z] ∧ z ∉ xs ∧
  ∀ d H', Same H H' → H d = none → H' d = some (.xd [("name", .str z), ("word", .str "NoTable")]) → E (.ref CN) (some d) H'
def wordsL : List Str := ["moments", "stretches", "courses", "branches", "parts"]
theorem notIn_words {z : Str} (h : z ∉ wordsL) : fNotIn (.str z) c_WORDS = some true := by
  have e : inS z wordsL = false := by
    cases q : inS z wordsL with
    | false => rfl
    | true => exact absurd (inS_iff.mp q) h
  show some (!inS z wordsL) = some true
  rw [e]
  rfl
theorem ok_need (M : MF T P w mg base) (X : ExF T.K mg CM CN fM fN fdM fdN) {f : Addr} {fd : FuncData} (F : Fun T.K "need_word" "need_word" (topS 55) f fd) : FnOk P w T.K mg base (L2.CX P w) 4 f fd ["word"] (spNoWord CN wordsL) := by
  refine F.okX sc_need_word (fun vs H Q E h => ?_) (fun cdv A outer s H vs Q E hr h => ?_)
  · obtain ⟨z, rfl, _⟩ := h
    rfl
  · obtain ⟨z, rfl, hz, q⟩ := h
    obtain ⟨u, v, hm, rv, rr⟩ := M.u_WORDS
    refine ⟨_, pss_one (ps_if ((td_notIn (T := T) (ed_var 0) (ed_cst M.u_WORDS)) rfl) (pss_one (ps_raise rfl (takes_of rfl rfl rfl rfl) (pmk_lex X.lex X.iN X.tN (ok_NoT X) hr X.bN .nil pass0 (by rfl) X.gN (pa_cons (pv 0) pa_nil)))) pss_nil), ?_⟩
    have e : t2 fNotIn (dVar 0) (dC c_WORDS) (startR 1 [.str z]) = some true := by
      show fNotIn (.str z) c_WORDS = some true
      exact notIn_words hz
    refine ⟨H, startR 1 [.str z], true, H, e, Same.refl _, env_start ["word"] (.cons (.str z) .nil), fun H1 F1 g => ?_⟩
    dsimp only
    rw [if_pos rfl]
    refine ⟨.str z, rfl, by show 1 ≤ 1000; decide, fun a na => ⟨a, z, rfl, upd_same, fun dx H' n ne h1 h2 k => ?_⟩⟩
    rw [upd_ne ne] at n
    refine ⟨rfl, dx, _, h1, h2, n, q dx _ (fun b o hb => ?_) (g.same.free n) upd_same⟩
    have hb1 := g.same _ _ hb
    have nb : b ≠ a := ne_of_none hb1 na
    have nd : b ≠ dx := ne_of_none hb1 n
    rw [upd_ne nd, del_ne nb]
    exact k b o nb (by rw [upd_ne nb]; exact hb1)
/-- a statement that is never come to -/
theorem pss_no {X : Cx} {ss : List Stmt} : PSs X ss (fun _ _ _ => False) := ⟨fun _ _ _ _ _ _ h => h.elim⟩
theorem ok_badbuilt (M : MF T P w mg base) (X : ExF T.K mg CM CN fM fN fdM fdN) {f fn : Addr} {fd fdn : FuncData} (F : Fun T.K "built" "built" (topS 58) f fd) (Fn : Fun T.K "need_word" "need_word" (topS 55) fn fdn) (gn : mg "need_word" = some (.ref fn)) (bn : Binds T.K fdn ["word"] []) :
    FnOk P w T.K mg base (L2.CX P w) 5 f fd ["word"] (spNoWord CN wordsL) := by
  refine F.okX sc_built (fun vs H Q E h => ?_) (fun cdv A outer s H vs Q E hr h => ?_)
  · obtain ⟨z, rfl, _⟩ := h
    rfl
  · obtain ⟨z, rfl, hz, q⟩ := h
    refine ⟨_, pss_cons (ps_expr (pe_callS (E := fun _ cls d H => E cls d H) (ok_need M X Fn) hr (by rfl) gn Fn.kp bn (fun σ => passAt (W := fun cls d σ H => E cls d H) (takes_of rfl rfl rfl rfl) σ) (pa_cons (pv 0) pa_nil))) pss_no, ?_⟩
    exact ⟨.str z, rfl, z, rfl, hz, q⟩
end
end PD
end
section
set_option Elab.async false
set_option linter.all false
set_option maxRecDepth 100000
set_option maxHeartbeats 4000000
/-! _law_refused, by hand. (isinstance of a caught error that has a dict: HandS.ExcIs serves one without; its proof's lines, turned to one with.) -/
namespace PD
open PySem PySem.Spec PySem.Calls PySem.W PyProof.Rows
section
variable {prog : Program} {w : World} {A : Around} {E : Value → Shared → Prop} {s : Shared} {K : Frag} {x D : Addr} {ox : Obj}
theorem findObj_data2 {C : Addr} {od : Option Obj} {name : Str} {a g : Value} (hc : (clsIn K C).isSome = true) (ha : findIn K (.ref C) name = some (some a)) (hg : specialIn K a "__get__" = some (some g)) (ht : takesIn K a = some true) : findObj K C od name = some (.bind g a) := by
  obtain ⟨cd, hc⟩ := Option.isSome_iff_exists.mp hc
  unfold findObj
  rw [hc, Option.bind_some, ha, Option.bind_some]
  simp [hg, ht]
theorem kin_classE2 {od : Option Obj} {Q : Option Value → Shared → Prop} (hga : findIn K (.ref D) "__getattribute__" = some (some (.builtin "BaseException.__getattribute__"))) (hgt : findIn K (.ref D) "__getattr__" = some none) (hsub : subIn K (.ref D) (.type "BaseException") = some true)
    (hdct : hasDictIn K D = true) (ha : findIn K (.ref D) "__class__" = some (some (.builtin "object.__class__")))
    (hn : specialIn K (.builtin "object.__class__") "__get__" = some (some (.builtin "getset_descriptor.__get__"))) (htk : takesIn K (.builtin "object.__class__") = some true) (hm : mroIn K D (.type "object") = some true)
    (X : K.In s.heap) (I : InstAt s.heap x ox D od) (h : Q (some (.ref D)) { s with toks := s.toks + 1 }) : wpAny (model prog w) A (getAttr? (.ref x) "__class__") Q E s := by
  have hf : findObj K D od "__class__" = some (.bind (.builtin "getset_descriptor.__get__") (.builtin "object.__class__")) := findObj_data2 (by obtain ⟨cd, hc, _⟩ := any_some hdct; rw [hc]; rfl) ha hn htk
  obtain ⟨hp, g, d, t, os⟩ := s
  have L0 := I.type (M := model prog w)
  have L1 := looks_findIn (M := model prog w) X hga
  have L2 := looks_findIn (M := model prog w) X hgt
  have L3 := looks_find (M := model prog w) X I hf
  have sub : Looks (model prog w) hp (isInstance (.ref x) (.type "BaseException")) true := L0.andThen (looks_subIn X hsub)
  have hx0 : (false && onTheHeap (Value.builtin "BaseException.__getattribute__")) = false := rfl
  have hx2 : (Value.builtin "BaseException.__getattribute__" == Value.builtin "object.__getattribute__") = false := by decide +kernel
  have hx1 : (onTheHeap (Value.ref D) && Value.builtin "BaseException.__getattribute__" == Value.builtin "object.__getattribute__") = false := by rw [hx2]; rfl
  unfold getAttr? getAttrBy? getAttrBy
  refine wpAny_bind (wpAny_mkText (wpAny_bind (wpAny_attempt (wpAny_holding (wpAny_bind (L0.at (wpAny_bind (L1.at ?_))))))))
  show wpAny _ _ (if (onTheHeap (Value.ref D) && Value.builtin "BaseException.__getattribute__" == Value.builtin "object.__getattribute__") = true then _ else _) _ _ _
  rw [hx1, if_neg Bool.false_ne_true]
  unfold getAttrByItsOwn hookBefore
  refine wpAny_bind ?_
  rw [if_pos (show onTheHeap (Value.ref D) = true from rfl)]
  refine L2.at ?_
  refine wpAny_bind (wpAny_attempt (wpAny_holding ?_))
  unfold callGetattribute
  rw [hx0, if_neg Bool.false_ne_true]
  unfold boundAndCalled
  rw [PySem.F.excAttr_ValueError.ga.bind (.ref x)]
  refine wpAny_bind (wpAny_pure ?_)
  show wpAny _ _ (call (.builtin "BaseException.__getattribute__") [.ref x, .str "__class__" t]) _ _ _
  refine wpAny_call (codeAny_call_builtin PySem.F.excAttr_ValueError.ga.plain PySem.F.entry_bexc_ga ?_)
  refine @check_slot (model prog w) _ _ ⟨hp, g, d, t + 1, os⟩ "BaseException.__getattribute__" "BaseException" "__getattribute__" (.ref x) [.str "__class__" t] [] _ (by decide +kernel) (by decide +kernel) sub (PySem.F.args_bexc_ga (.ref x) (.str "__class__" t)) ?_
  unfold Builtin.«object.__getattribute__»
  refine wpAny_bind (wpAny_of_eq (a := ((Value.ref x : Value), [Value.str "__class__" t])) (by first | rfl | (simp only [slotArgs]; rfl)) ?_)
  refine wpAny_bind (wpAny_pure (wpAny_bind (L0.at (wpAny_bind (L3.at ?_)))))
  show wpAny _ _ (holding [Value.builtin "object.__class__"] (call (.builtin "getset_descriptor.__get__") [.builtin "object.__class__", .ref x, .ref D]) >>= ret) _ _ _
  refine wpAny_bind (wpAny_holding (wpAny_call (class_get (s := ⟨hp, g, d, t + 1, os⟩) (ox := ox) (od := od) X I hm ?_)))
  refine wpAny_pure ?_
  show wpAny _ _ (handedOut (.ref D)) _ _ _
  rw [handedOut_of (v := .ref D) rfl]
  first
    | exact wpAny_pure (wpAny_pure h)
    | exact wpAny_pure h
    | exact wpAny_pure (wpAny_bind (wpAny_pure (wpAny_pure h)))
theorem kitx_exc2 {od : Option Obj} (hga : findIn K (.ref D) "__getattribute__" = some (some (.builtin "BaseException.__getattribute__"))) (hgt : findIn K (.ref D) "__getattr__" = some none) (hsub : subIn K (.ref D) (.type "BaseException") = some true) (hdct : hasDictIn K D = true) (ha : findIn K (.ref D) "__class__" = some (some (.builtin "object.__class__")))
    (hn : specialIn K (.builtin "object.__class__") "__get__" = some (some (.builtin "getset_descriptor.__get__"))) (htk : takesIn K (.builtin "object.__class__") = some true) (hm : mroIn K D (.type "object") = some true) :
    KitX K (.ref x) (.ref D) (fun h => InstAt h x ox D od) where
  ty := fun _ _ _ I => I.type
  it := fun _ _ X _ => by
    obtain ⟨cdD, hcD, _⟩ := any_some hdct
    unfold clsIn at hcD
    split at hcD
    · rename_i c' d' cd' sl' ho
      intro A' Q' E' s' k q
      unfold isType loadHead
      exact wpAny_bind (wpAny_loadPart (k _ _ (X _ _ ho)) (wpAny_pure q))
    · cases hcD
  ne := fun h tp dd its n sl X htp => by
    obtain ⟨cdD, hcD, _⟩ := any_some hdct
    refine Bool.eq_false_iff.mpr fun q => ?_
    have e : D = tp := Value.ref.inj (beq_iff_eq.mp q)
    subst e
    unfold clsIn at hcD
    split at hcD
    · rename_i c' d' cd' sl' ho
      have z := (X _ _ ho).symm.trans htp
      cases z
    · cases hcD
  ca := fun X I k => kin_classE2 hga hgt hsub hdct ha hn htk hm X I k
end
end PD
namespace PD
open PySem PySem.Spec PyProof.Rows L2
/-- isinstance(e, c), e the exception that the suite holds, with its dict -/
def rIsE2 (K : PySem.W.Frag) (D a : Addr) (cls : Value) (d : Option Addr) : List V → Hp → VK → Prop := fun xs H Q => ∃ (c : V) (cv : Value) (b : Bool) (dd : Addr) (fs : List (Str × V)), xs = [.ref a, c] ∧ (∀ u, RelV c u → u = cv) ∧ PySem.W.kitOne K (.ref D) cv = some b ∧ cls = .ref D ∧ d = some dd ∧ H dd = some (.xd fs) ∧ Q (.bl b) H
theorem call_isE2 {X : Cx} {a D : Addr} {oe : Obj} {cls : Value} {d : Option Addr} {pn : List (Addr × Obj)} (C : ExcC X.K D) (hz : Zc cls d oe) (hf : ∃ vs, oe.data = .fields vs) : CallR (X.suite a ((a, oe) :: pn)) (.builtin "isinstance") (rIsE2 X.K D a cls d) := by
  intro pins s σ H xs us Q I r h
  obtain ⟨c, cv, b, dd, fs, rfl, hcv, e, rfl, rfl, ea, q⟩ := h
  cases r with
  | cons rx rr =>
    cases rr with
    | cons rt rr =>
      cases rr
      cases rx
      have ec := hcv _ rt
      subst ec
      obtain ⟨hget, _⟩ := I.pin (a, oe) (List.mem_append.mpr (.inl List.mem_cons_self))
      obtain ⟨vs, hv⟩ := hf
      have hx : ObjOk X.prog X.w H s.heap dd (.xd fs) := I.hok dd _ ea
      obtain ⟨mA, hns, hr⟩ := hx
      obtain ⟨od, ho, hl⟩ := lookIn_ns hns
      have J : PySem.W.InstAt s.heap a oe D (some od) := ⟨hget, hz.1, by unfold PySem.W.notCls; rw [hv] <;> rfl, by rw [hz.2]; exact ho⟩
      exact PySem.W.kia_one (kitx_exc2 C.hg C.hk C.hs C.hd C.ha C.hn C.ht C.hm) I.kIn J e (fun z => nomatch z) fun tk => ⟨.bl b, H, I.kept (t' := tk) fun _ _ z => z, rfl, q⟩
theorem sc_law_refused : FnScope ["_law_word", "_law_found", "e"] ["_law_word"] (defScope (topS 74)) := ⟨rfl, rfl, rfl, by decide +kernel, rfl, by decide +kernel, by decide +kernel⟩
def spRef : Sp := fun vs H Q _ => ∃ z : Str, vs = [.str z] ∧ z ∉ wordsL ∧ ∀ a H', Same H H' → H a = none → H' a = some (.tup [.str "NoTable", .str z, .bl true]) → Q (.ref a) H'
section
variable {T : Tab} {P : Program} {w : World} {mg : Str → Option Value} {base : Heap} {CM CN fM fN : Addr} {fdM fdN : FuncData}
theorem ok_refused (M : MF T P w mg base) (X : ExF T.K mg CM CN fM fN fdM fdN) (Xf : XfC T.K CN) (Xc : ExcC T.K CN) (hex : PySem.W.exmOne T.K (.ref CN) (.ref CN) = some true) (hki : PySem.W.kitOne T.K (.ref CN) (.type "LookupError") = some true)
    {f fB fn : Addr} {fd fdB fdn : FuncData} (F : Fun T.K "_law_refused" "_law_refused" (topS 74) f fd) (FB : Fun T.K "built" "built" (topS 58) fB fdB) (gB : mg "built" = some (.ref fB)) (bB : Binds T.K fdB ["word"] [])
    (Fn : Fun T.K "need_word" "need_word" (topS 55) fn fdn) (gn : mg "need_word" = some (.ref fn)) (bn : Binds T.K fdn ["word"] []) : FnOk P w T.K mg base CX0 6 f fd ["_law_word"] spRef := by
  refine F.ok sc_law_refused (fun vs H Q E h => ?_) (fun cdv A outer s H vs Q E hr h => ?_)
  · obtain ⟨z, rfl, _⟩ := h
    rfl
  · obtain ⟨z, rfl, hz, q⟩ := h
    have nd := sc_law_refused.nd
    refine ⟨_, pss_cons (ps_set (i := 1) nd rfl (.inl rfl) pe_non)
      (pss_cons (ps_try_as (i := 2) (c := .ref CN) (tb := fun W => tDrop (tCallS (spNoWord CN wordsL) (WE W) (tCons (tVar 0) tNil)))
          (ts := fun a cls d => tAsg (tTup (tCons (tXf a cls d CN "word" (tVar 2)) (tCons (tXf a cls d CN "name" (tVar 2)) (tCons (tCB (rIsE2 T.K CN a cls d) (tCons (tVar 2) (tCons (tC (.ty "LookupError")) tNil))) tNil)))) (gName 1)) (Wout := fun _ _ _ _ => False) rfl rfl nd rfl rfl ⟨rfl, by decide, Or.inl X.gN⟩ takes0
          (fun W pn xe tk _ => pss_one (ps_expr (by exact (pe_callS (ok_badbuilt M X FB Fn gn bn) hr (by rfl) gB FB.kp bB (fun σ => passAt tk σ) (by exact (pa_cons (pv 0) pa_nil))))))
          (fun a oe cls d pn hz hf => pss_one (ps_set (i := 1) nd rfl (.inl rfl) (by exact (pe_tup (pa_cons (pe_xf Xf X.nW hz hf (pv 2)) (pa_cons (pe_xf Xf X.nN hz hf (pv 2)) (pa_cons (pe_callB (call_isE2 Xc hz hf) (by rfl) M.b_isinstance (by decide +kernel) (pa_cons (pv 2) (pa_cons (pe_bltn (v := .ty "LookupError") (by rfl) X.gL PyProof.Rows.Boot.«LookupError» rfl) pa_nil))) pa_nil))))))))
      (pss_one (ps_ret (pv 1)))), ?_⟩
    refine ⟨.str z, rfl, z, rfl, hz, fun d H1 sm nd1 hd => ⟨true, hex, fun _ a na => ?_, fun q => Bool.noConfusion q⟩⟩
    have l1 : List.lookup ("word" : Str) [(("name" : Str), V.str z), ("word", V.str "NoTable")] = some (V.str "NoTable") := by
      have e : (("word" : Str) == ("name" : Str)) = false := by decide +kernel
      simp only [List.lookup, e, beq_self_eq_true]
    have l2 : List.lookup ("name" : Str) [(("name" : Str), V.str z), ("word", V.str "NoTable")] = some (V.str z) := by
      simp only [List.lookup, beq_self_eq_true]
    refine ⟨.ref a, rfl, rfl, rfl, d, _, .str "NoTable", rfl, hd, l1, .ref a, rfl, rfl, rfl, d, _, .str z, rfl, hd, l2, .ref a, rfl, .ty "LookupError", .type "LookupError", true, d, _, rfl, fun u hu => hu, hki, rfl, rfl, hd, by show 3 ≤ sizeLine; decide, fun p np => ?_⟩
    exact ⟨.ref p, rfl, q p _ (sm.trans (same_new np)) (sm.free np) upd_same⟩
end
end PD
end
section
set_option Elab.async false
set_option linter.all false
set_option maxRecDepth 100000
set_option maxHeartbeats 4000000
/-! law, by hand: a for whose iterable is read by hand, its body over data. -/
namespace PD
open PySem PySem.Spec PyProof.Rows L2
section
variable {T : Tab} {X : Cx} {tg iter : Expr} {body : List Stmt} {pos : Pos} {ti : TI} {g : DG} {ds : DS} {ws : List Nat}
def tForH (T : Tab) (ti : TI) (g : DG) (ds : DS) : TS := fun Dn σ H => ti σ H fun J H1 => ∃ B F0 ρ xs o F1, Gr F0 B F1 H1 ∧ Walks T F1 J xs ∧ EnvR T B F1 H1 ρ σ ∧ forL g ds xs ρ = some o ∧ finS T B F0 Dn o
theorem sd_forH (hT : T.K = X.K) (hp : PassesOwn (model X.prog X.w) X.A X.env X.xe) (hc : X.calm = true) (hi : PI X tg iter ti) (hm : ∀ σ H (R R' : _ → Hp → Prop), (∀ J H', R J H' → R' J H') → ti σ H R → ti σ H R') (hg : GD T X tg g ws) (hb : SDs T X body ds) (hs : ∀ x, foldedSetIterable iter X.env x = pure x := by exact fun _ => rfl) :
    PS X (.For tg iter body [] pos) (tForH T ti g ds) :=
  psImp (ps_for hp hc hi (hg hT) (hb hT) hs) fun Dn σ H h => by
    refine hm σ H _ _ (fun J H1 h => ?_) h
    obtain ⟨B, F0, ρ, xs, o, F1, g1, wk, er, e, q⟩ := h
    refine ⟨fun i m σ' H' => m = xs.length - i ∧ i ≤ xs.length ∧ ∃ ρ' F', Gr F0 B F' H' ∧ Same F1 F' ∧ EnvR T B F' H' ρ' σ' ∧ forL g ds (xs.drop i) ρ' = some o, ⟨xs.length, rfl, Nat.zero_le _, ρ, F1, g1, Same.refl _, er, e⟩, ?_⟩
    rintro i m σ' H' ⟨rfl, hi', ρ', F', gr', sf, er', e'⟩
    by_cases hlt : i < xs.length
    · have hd : xs.drop i = xs[i] :: xs.drop (i + 1) := List.drop_eq_getElem_cons hlt
      rw [hd] at e'
      have wk' := wk.mono sf
      obtain ⟨go, yl⟩ := wk'.1 H' i xs[i] gr'.sub (List.getElem?_eq_getElem hlt)
      refine .inr ⟨go, fun σ2 H2 => ∃ ρ2 F2, Gr F0 B F2 H2 ∧ Same F1 F2 ∧ EnvR T B F2 H2 ρ2 σ2 ∧ forL g ds (xs.drop (i + 1)) ρ2 = some o, fun σ2 H2 hN => ⟨xs.length - (i + 1), by omega, rfl, hlt, hN⟩, fun x H2 y => ?_⟩
      obtain ⟨rfl, rx⟩ := yl x H2 y
      have gs : Gr F' B F' H2 := ⟨gr'.same, Same.refl _, gr'.sub, fun _ _ z => .inl z⟩
      unfold forL at e'
      split at e'
      · rename_i ρ1 hg1
        refine ⟨B, ρ', xs[i], ρ1, F', H2, hg1, gr'.sub, Same.refl _, er', rx, fun σ1 er1 _ => ?_⟩
        split at e'
        · rename_i ρ2 hb2
          exact ⟨B, F', ρ1, .nx ρ2, F', hb2, gs, er1, fun σ3 H3 F3 g3 er3 => ⟨ρ2, F3, gr'.glue g3, sf.trans g3.frz, er3, e'⟩⟩
        · rename_i ho
          cases o with
          | nx ρ3 => exact absurd e' (ho ρ3)
          | rt d => exact ⟨B, F', ρ1, .rt d, F', e', gs, er1, fun v H3 F3 g3 r3 => q v H3 F3 (gr'.glue g3) r3⟩
      · cases e'
    · have ei : i = xs.length := by omega
      subst ei
      rw [List.drop_length] at e'
      cases e'
      exact .inl ⟨(wk.mono sf).2 H' gr'.sub, q σ' H' F' gr' er'⟩
/-- the slots as nothing known of them -/
theorem EnvR.forget {T : Tab} {B F H : Hp} {ρ : Rho} {σ : L2.St} {n : Nat} (h : σ.length = n) : EnvR T B F H (List.replicate n .no) σ := by
  refine ⟨by rw [List.length_replicate, h], fun _ => [], fun _ _ _ z => (nomatch z), fun _ _ z => (nomatch z), fun _ _ => rfl, fun i s e => ?_⟩
  rw [List.getElem?_replicate] at e
  split at e
  · cases e
    rfl
  · cases e
/-- the slots as what is known at the loop's head -/
theorem EnvR.weak0 {T : Tab} {B F H : Hp} {ρ ρ0 : Rho} {σ : L2.St} (h : EnvR T B F H ρ σ) (hl : ρ.length = ρ0.length) (hk : ∀ (i : Nat) (s : Sl), ρ0[i]? = some s → s = .no ∨ ∃ d, s = .sh d ∧ ρ[i]? = some (.sh d)) : EnvR T B F H ρ0 σ := by
  refine ⟨h.len.trans hl, fun _ => [], fun _ _ _ z => (nomatch z), fun _ _ z => (nomatch z), fun _ _ => rfl, fun i s e => ?_⟩
  rcases hk i s e with rfl | ⟨d, rfl, e2⟩
  · exact rfl
  · obtain ⟨v, e3, r⟩ := h.sh e2
    exact ⟨rfl, v, e3, r⟩
/-- a for of which each turn begins with what ρ0 knows -/
def tForW (T : Tab) (ρ0 : Rho) (ti : TI) (g : DG) (ds : DS) : TS := fun Dn σ H => ti σ H fun J H1 => ∃ B F0 xs F1, Gr F0 B F1 H1 ∧ Walks T F1 J xs ∧ EnvR T B F1 H1 ρ0 σ ∧
  (∀ x ∈ xs, ∃ ρ1 ρ2, g x ρ0 = some ρ1 ∧ ds ρ1 = some (.nx ρ2) ∧ ρ2.length = ρ0.length ∧ ∀ (i : Nat) (s : Sl), ρ0[i]? = some s → s = .no ∨ ∃ d, s = .sh d ∧ ρ2[i]? = some (.sh d)) ∧ (∀ σ H F, Gr F0 B F H → EnvR T B F H ρ0 σ → Dn.nx σ H)
theorem sd_forW {ρ0 : Rho} (hT : T.K = X.K) (hp : PassesOwn (model X.prog X.w) X.A X.env X.xe) (hc : X.calm = true) (hi : PI X tg iter ti) (hm : ∀ σ H (R R' : _ → Hp → Prop), (∀ J H', R J H' → R' J H') → ti σ H R → ti σ H R') (hg : GD T X tg g ws) (hb : SDs T X body ds) (hs : ∀ x, foldedSetIterable iter X.env x = pure x := by exact fun _ => rfl) :
    PS X (.For tg iter body [] pos) (tForW T ρ0 ti g ds) :=
  psImp (ps_for hp hc hi (hg hT) (hb hT) hs) fun Dn σ H h => by
    refine hm σ H _ _ (fun J H1 h => ?_) h
    obtain ⟨B, F0, xs, F1, g1, wk, er, e, q⟩ := h
    refine ⟨fun i m σ' H' => m = xs.length - i ∧ i ≤ xs.length ∧ ∃ F', Gr F0 B F' H' ∧ Same F1 F' ∧ EnvR T B F' H' ρ0 σ', ⟨xs.length, rfl, Nat.zero_le _, F1, g1, Same.refl _, er⟩, ?_⟩
    rintro i m σ' H' ⟨rfl, hi', F', gr', sf, er'⟩
    by_cases hlt : i < xs.length
    · obtain ⟨ρ1, ρ2, hg1, hb2, hl2, hk2⟩ := e xs[i] (List.getElem_mem hlt)
      obtain ⟨go, yl⟩ := (wk.mono sf).1 H' i xs[i] gr'.sub (List.getElem?_eq_getElem hlt)
      refine .inr ⟨go, fun σ2 H2 => ∃ F2, Gr F0 B F2 H2 ∧ Same F1 F2 ∧ EnvR T B F2 H2 ρ0 σ2, fun σ2 H2 hN => ⟨xs.length - (i + 1), by omega, rfl, hlt, hN⟩, fun x H2 y => ?_⟩
      obtain ⟨rfl, rx⟩ := yl x H2 y
      have gs : Gr F' B F' H2 := ⟨gr'.same, Same.refl _, gr'.sub, fun _ _ z => .inl z⟩
      refine ⟨B, ρ0, xs[i], ρ1, F', H2, hg1, gr'.sub, Same.refl _, er', rx, fun σ1 er1 _ => ?_⟩
      exact ⟨B, F', ρ1, .nx ρ2, F', hb2, gs, er1, fun σ3 H3 F3 g3 er3 => ⟨F3, gr'.glue g3, sf.trans g3.frz, er3.weak0 hl2 hk2⟩⟩
    · have ei : i = xs.length := by omega
      subst ei
      exact .inl ⟨(wk.mono sf).2 H' gr'.sub, q σ' H' F' gr' er'⟩
theorem ps_ex {α : Type} {st : Stmt} {t : α → TS} (h : ∀ x, PS X st (t x)) : PS X st (fun D σ H => ∃ x, t x D σ H) := ⟨fun pins s σ H D I q => let ⟨x, q⟩ := q; (h x).run pins s σ H D I q⟩
end
end PD
end
section
set_option Elab.async false
set_option linter.all false
set_option maxRecDepth 100000
set_option maxHeartbeats 4000000
/-! law: the parts over data (printed by genlaw.py). -/
namespace PD
open PySem PySem.Spec PyProof.Rows L2
theorem sc_law : FnScope ["_law_script", "_law_flow_here", "_law_words", "_law_word", "_law_t", "_law_table_here", "_law_one", "_law_other", "_law_odd"] ["_law_script"] (defScope (topS 75)) := ⟨rfl, rfl, rfl, by decide +kernel, rfl, by decide +kernel, by decide +kernel⟩
abbrev lawN : List Str := ["_law_script", "_law_flow_here", "_law_words", "_law_word", "_law_t", "_law_table_here", "_law_one", "_law_other", "_law_odd"]
def n_lawwords : DS := (sSet 2 (dCall mkLst (aCons (dC (.str "moments")) (aCons (dC (.str "stretches")) (aCons (dC (.str "courses")) (aCons (dC (.str "branches")) (aCons (dC (.str "parts")) aNil)))))))
def n_lawtest : DTt := (tNotD (t1 truD (dCall (g_law_same 5) (aCons (dC c_WORDS) (aCons (dCall mkTup (aCons (dC (.str "moments")) (aCons (dC (.str "stretches")) (aCons (dC (.str "courses")) (aCons (dC (.str "branches")) (aCons (dC (.str "parts")) aNil)))))) aNil)))))
def n_lawbody : DS := (sSeq (sSet 4 (dCall g_law_seen (aCons (dVar 3) aNil))) (sSeq (sSet 5 (dCall g_built (aCons (dVar 3) aNil))) (sSeq (sIf (tOrD (tNotD (t1 truD (dB (t1 fIsIns (dVar 5))))) (tNotD (t1 truD (dCall (g_law_same 5) (aCons (dCall mkLst (aCons (dMeth g_Table_kinds (dVar 5) aNil) (aCons (d1 (fFld 1) (dVar 5)) aNil))) (aCons (dCall mkLst (aCons (d2 fGet (dVar 4) (dC (.str "kinds"))) (aCons (dC (.str "same")) aNil))) aNil)))))) (sRet (dC (.bl false))) sNext) (sSeq (sIf (tNotD (t1 truD (dCall (g_law_same 5) (aCons (dLc (kIn (iL listOf (d2 fGet (dVar 4) (dC (.str "kinds")))) [6] (gN 6) tYesD (kOne (dMeth g_Table_back (dVar 5) (aCons (dVar 6) aNil))))) (aCons (dLc (kIn (iL listOf (d2 fGet (dVar 4) (dC (.str "kinds")))) [6] (gN 6) tYesD (kOne (d2 fGet (d2 fGet (dVar 4) (dC (.str "back"))) (dVar 6))))) aNil))))) (sRet (dC (.bl false))) sNext) (sSeq (sFor (iL listOf (d2 fGet (dVar 4) (dC (.str "kinds")))) (gN 6) (sFor (iL listOf (d2 fGet (dVar 4) (dC (.str "kinds")))) (gN 7) (sIf (tNotD (t1 truD (dCall (g_law_same 5) (aCons (dMeth g_Table_step (dVar 5) (aCons (dVar 6) (aCons (dVar 7) aNil))) (aCons (d2 fGet (d2 fGet (dVar 4) (dC (.str "step"))) (dCall mkTup (aCons (dVar 6) (aCons (dVar 7) aNil)))) aNil))))) (sRet (dC (.bl false))) sNext))) (sIf (t2 (fNeI g_Table_u__eq_u_) (dVar 5) (dCall g_built (aCons (dVar 3) aNil))) (sRet (dC (.bl false))) sNext))))))
section
variable {T : Tab} {P : Program} {w : World} {mg : Str → Option Value} {base : Heap}
/-- the statements of law -/
def lawS (i : Nat) : Stmt := (defBody (topS 75)).getD i (.Pass ⟨0, 0, 0, 0⟩)
def forBody (s : Stmt) : List Stmt := match s with
  | .For (body := b) .. => b
  | _ => []
def ifTest (s : Stmt) : Expr := match s with
  | .If (test := t) .. => t
  | _ => .Constant .none 0 ⟨0, 0, 0, 0⟩
theorem B_lawwords {f : Addr} {cdv : Value} {A : Around} {outer : List Env} {s : Shared} {H : Hp} {E : XK} : SD T (cxOf CX0 P w T.K mg base lawN "law" (defScope (topS 75)) f cdv A outer s H E).nox (lawS 1) n_lawwords := by
  have nd := sc_law.nd
  exact (sd_set 2 nd (ed_lst (ad_cons ed_str (ad_cons ed_str (ad_cons ed_str (ad_cons ed_str (ad_cons ed_str ad_nil)))))))
theorem B_lawtest (M : MF T P w mg base) {f : Addr} {cdv : Value} {A : Around} {outer : List Env} {s : Shared} {H : Hp} {E : XK} (hr : Room 8 (A.deeper (envOfC "law" (defScope (topS 75)) s.heap.objs.size f cdv))) : TD T (cxOf CX0 P w T.K mg base lawN "law" (defScope (topS 75)) f cdv A outer s H E).nox (ifTest (lawS 2)) n_lawtest := by
  have nd := sc_law.nd
  exact (td_not (td_tru (ed_call (D_law_same M 5) (hr.mono (by decide)) (ad_cons (ed_cst M.u_WORDS) (ad_cons (ed_tup (ad_cons ed_str (ad_cons ed_str (ad_cons ed_str (ad_cons ed_str (ad_cons ed_str ad_nil)))))) ad_nil)))))
theorem B_lawbody (M : MF T P w mg base) (Ne : NeOk T P w mg base 1 g_Table_u__eq_u_) {f : Addr} {cdv : Value} {A : Around} {outer : List Env} {s : Shared} {H : Hp} {E : XK} (hr : Room 8 (A.deeper (envOfC "law" (defScope (topS 75)) s.heap.objs.size f cdv))) : SDs T (cxOf CX0 P w T.K mg base lawN "law" (defScope (topS 75)) f cdv A outer s H E).nox (forBody (lawS 3)) n_lawbody := by
  have nd := sc_law.nd
  exact (sds_cons (sd_set 4 nd (ed_call (D_law_seen M) (hr.mono (by decide)) (ad_cons (ed_var 3) ad_nil))) (sds_cons (sd_set 5 nd (ed_call (D_built M) (hr.mono (by decide)) (ad_cons (ed_var 3) ad_nil))) (sds_cons (sd_if (td_wd (wd_or (td_not (td_tru (ed_isIns M.insC M.b_isinstance M.g_Table (ed_var 5)))) (wd_or1 (td_not (td_tru (ed_call (D_law_same M 5) (hr.mono (by decide)) (ad_cons (ed_lst (ad_cons (ed_meth0 (fun _ => M.ins) (D_Table_kinds M) (hr.mono (by decide)) (ed_var 5)) (ad_cons (ed_fld 1 (fun _ => M.ins) (by rw [M.fs]; rfl) (ed_var 5)) ad_nil))) (ad_cons (ed_lst (ad_cons (ed_get hr (ed_var 4) ed_str) (ad_cons ed_str ad_nil))) ad_nil)))))))) (sds_one (sd_ret ed_bl)) sds_nil) (sds_cons (sd_if (td_not (td_tru (ed_call (D_law_same M 5) (hr.mono (by decide)) (ad_cons (ed_lc (own := [("_law_one", 6)]) rfl nd (id_list (ed_get hr (ed_var 4) ed_str)) (blkOk_by (by kernel_rfl)) (fun _ _ _ _ _ => gd_name 6 nd) (fun _ _ _ _ _ => tsd_nil) (fun _ _ _ _ _ => (ed_meth (fun _ => M.ins) (D_Table_back M) (hr.mono (by decide)) (ed_var 5) (ad_cons (ed_var 6) ad_nil))) ) (ad_cons (ed_lc (own := [("_law_one", 6)]) rfl nd (id_list (ed_get hr (ed_var 4) ed_str)) (blkOk_by (by kernel_rfl)) (fun _ _ _ _ _ => gd_name 6 nd) (fun _ _ _ _ _ => tsd_nil) (fun _ _ _ _ _ => (ed_get hr (ed_get hr (ed_var 4) ed_str) (ed_var 6))) ) ad_nil))))) (sds_one (sd_ret ed_bl)) sds_nil) (sds_cons (sd_for PassesOwn.never rfl (id_list (ed_get hr (ed_var 4) ed_str)) (gd_name 6 nd) (sds_one (sd_for PassesOwn.never rfl (id_list (ed_get hr (ed_var 4) ed_str)) (gd_name 7 nd) (sds_one (sd_if (td_not (td_tru (ed_call (D_law_same M 5) (hr.mono (by decide)) (ad_cons (ed_meth (fun _ => M.ins) (D_Table_step M) (hr.mono (by decide)) (ed_var 5) (ad_cons (ed_var 6) (ad_cons (ed_var 7) ad_nil))) (ad_cons (ed_get hr (ed_get hr (ed_var 4) ed_str) (ed_tup (ad_cons (ed_var 6) (ad_cons (ed_var 7) ad_nil)))) ad_nil))))) (sds_one (sd_ret ed_bl)) sds_nil))))) (sds_one (sd_if (td_neI Ne (hr.mono (by decide)) (ed_var 5) (ed_call (D_built M) (hr.mono (by decide)) (ad_cons (ed_var 3) ad_nil))) (sds_one (sd_ret ed_bl)) sds_nil)))))))
end
end PD
end
section
set_option Elab.async false
set_option linter.all false
set_option maxRecDepth 100000
set_option maxHeartbeats 4000000
/-! law, by hand. -/
namespace PD
open PySem PySem.Spec PyProof.Rows L2
def oddL : List Str := ["", "moment", "Moments", "stretches ", "same"]
def spLaw (K : PySem.W.Frag) : Sp := fun vs H Q _ => ∃ (a : Addr) (ns : List Int), vs = [.ref a] ∧ SqL K H a (ns.map V.int) ∧ ns.length ≤ 63 ∧ ∀ H', Q (.bl true) H'
theorem iList_mono {K : PySem.W.Frag} {tl : TE} (h : ∀ σ H (Q Q' : VK), (∀ v H', Q v H' → Q' v H') → tl σ H Q → tl σ H Q') : ∀ σ H (R R' : _ → Hp → Prop), (∀ J H', R J H' → R' J H') → iList K tl σ H R → iList K tl σ H R' := fun σ H R R' i h1 =>
  h σ H _ _ (fun v H' ⟨a, e, x, q⟩ => ⟨a, e, x, i _ _ q⟩) h1
theorem pick5 {xs : List Str} (hl : xs.length = 5) {r : Int} (h1 : 0 ≤ r) (h2 : r < 5) : ∃ z ∈ xs, atI (xs.map V.str) r = some (.str z) := by
  obtain ⟨j, rfl⟩ := Int.eq_ofNat_of_zero_le h1
  have h3 : j < xs.length := by omega
  refine ⟨xs[j], List.getElem_mem h3, ?_⟩
  show atI _ ((j : Nat) : Int) = _
  rw [atI_nat' (by rw [List.length_map]; exact h3), List.getElem?_map, List.getElem?_eq_getElem h3]
  rfl
theorem envR_none {T : Tab} {B F H : Hp} {σ : L2.St} {n : Nat} (h : σ.length = n) : EnvR T B F H (List.replicate n .no) σ := by
  refine ⟨by rw [List.length_replicate, h], fun _ => [], fun _ _ _ z => (nomatch z), fun _ _ z => (nomatch z), fun _ _ => rfl, fun i s e => ?_⟩
  rw [List.getElem?_replicate] at e
  split at e
  · cases e
    rfl
  · cases e
/-- what is known at the loop's head: the flow -/
def ρL : Rho := [.no, .sh (.fn 10), .no, .no, .no, .no, .no, .no, .no]
section
variable {K : PySem.W.Frag} {C : Addr} {fa : Option Addr → Nat → Option Addr} {fs : List Str} {P : Program} {w : World} {mg : Str → Option Value} {base : Heap}
theorem ok_law (h10 : ∀ x, fa x 10 = x) (M : ∀ x, MF ⟨K, fa x, C, fs⟩ P w mg base) (NE : ∀ x, NeOk ⟨K, fa x, C, fs⟩ P w mg base 1 g_Table_u__eq_u_) (hTest : n_lawtest (List.replicate 9 .no) = some false)
    (hBody : ∀ x ∈ wordsL, ∃ ρ2, n_lawbody (ρL.set 3 (.sh (.str x))) = some (.nx ρ2) ∧ ρ2.length = 9 ∧ ρ2[1]? = some (.sh (.fn 10)))
    (hSame : ∀ z ∈ oddL, g_law_same 5 [.tup [.str "NoTable", .str z, .bl true], .tup [.str "NoTable", .str z, .bl true]] = some (.bl true)) (hOdd : ∀ z ∈ oddL, z ∉ wordsL)
    {f fF fD fR : Addr} {fd fdF fdD fdR : FuncData} (F : Fun K "law" "law" (topS 75) f fd)
    (GF : FnOk P w K mg base CX0 1 fF fdF ["_law_script"] (spFlow K)) (gF : mg "_law_flow" = some (.ref fF)) (kF : PySem.W.keepIn K (.ref fF) = true) (bF : Binds K fdF ["_law_script"] [])
    (GD : FnOk P w K mg base CX0 1 fD fdD ["_law_flow_here", "_law_size"] spDraw) (gD : mg "_law_draw" = some (.ref fD)) (kD : PySem.W.keepIn K (.ref fD) = true) (bD : Binds K fdD ["_law_flow_here", "_law_size"] [])
    (GR : FnOk P w K mg base CX0 6 fR fdR ["_law_word"] spRef) (gR : mg "_law_refused" = some (.ref fR)) (kR : PySem.W.keepIn K (.ref fR) = true) (bR : Binds K fdR ["_law_word"] []) :
    FnOk P w K mg base CX0 9 f fd ["_law_script"] (spLaw K) := by
  obtain ⟨fS, fdS, psS, GS, gS, kS, bS⟩ := D_law_same (M none) 5
  refine F.ok sc_law (fun vs H Q E h => ?_) (fun cdv A outer s H vs Q E hr h => ?_)
  · obtain ⟨a, ns, rfl, _⟩ := h
    rfl
  · obtain ⟨a, ns, rfl, hS, hlen, q⟩ := h
    have nd := sc_law.nd
    refine ⟨_, pss_cons (ps_set (i := 1) nd rfl (.inl rfl) (pe_call GF (hr.mono (by decide)) (by rfl) gF kF bF .nil pass0 (pa_cons (pv 0) pa_nil)))
      (pss_cons (ps_set (i := 2) nd rfl (.inl rfl) (pe_lst (pa_cons pe_str (pa_cons pe_str (pa_cons pe_str (pa_cons pe_str (pa_cons pe_str pa_nil)))))))
      (pss_cons (ps_if (B_lawtest (M none) hr rfl) pss_no pss_nil)
      (pss_cons (ps_ex fun fl : Option Addr => sd_forW (T := ⟨K, fa fl, C, fs⟩) (ρ0 := ρL) (ds := n_lawbody) rfl PassesOwn.never rfl (pi_list (pe_lst (pa_cons (pe_ix ix_list (pv 2) (pe_call GD (hr.mono (by decide)) (by rfl) gD kD bD .nil pass0 (pa_cons (pv 1) (pa_cons pe_int pa_nil))) (fun _ _ => rfl))
          (pa_cons (pe_ix ix_list (pv 2) (pe_call GD (hr.mono (by decide)) (by rfl) gD kD bD .nil pass0 (pa_cons (pv 1) (pa_cons pe_int pa_nil))) (fun _ _ => rfl)) pa_nil)))) (iList_mono fun σ H Q Q' i h => ?mono) (gd_name 3 nd) (B_lawbody (M fl) (NE fl) hr))
      (pss_cons (ps_set (i := 8) nd rfl (.inl rfl) (pe_ix ix_list (pe_lst (pa_cons pe_str (pa_cons pe_str (pa_cons pe_str (pa_cons pe_str (pa_cons pe_str pa_nil)))))) (pe_call GD (hr.mono (by decide)) (by rfl) gD kD bD .nil pass0 (pa_cons (pv 1) (pa_cons pe_int pa_nil))) (fun _ _ => rfl)))
      (pss_one (ps_ret (pe_call GS (hr.mono (by decide)) (by rfl) gS kS bS .nil pass0 (pa_cons (pe_call GR (hr.mono (by decide)) (by rfl) gR kR bR .nil pass0 (pa_cons (pv 8) pa_nil)) (pa_cons (pe_tup (pa_cons pe_str (pa_cons (pv 8) (pa_cons pe_bl pa_nil)))) pa_nil))))))))), ?_⟩
    · obtain ⟨v2, e2, v1, e1, fl1, sc1, i1, b1, c1, ns1, ev1, hF1, hS1, hi1, h⟩ := h
      refine ⟨v2, e2, v1, e1, fl1, sc1, i1, b1, c1, ns1, ev1, hF1, hS1, hi1, fun r i' b' c' p1 p2 p3 => ?_⟩
      obtain ⟨a2, xs2, j2, y2, x1, x2, x3, x4, v4, e4, v3, e3, fl2, sc2, i2, b2, c2, ns2, ev2, hF2, hS2, hi2, h⟩ := h r i' b' c' p1 p2 p3
      refine ⟨a2, xs2, j2, y2, x1, x2, x3, x4, v4, e4, v3, e3, fl2, sc2, i2, b2, c2, ns2, ev2, hF2, hS2, hi2, fun r i' b' c' p1 p2 p3 => ?_⟩
      obtain ⟨a3, xs3, j3, y3, z1, z2, z3, z4, hz, h⟩ := h r i' b' c' p1 p2 p3
      exact ⟨a3, xs3, j3, y3, z1, z2, z3, z4, hz, fun p np => i _ _ (h p np)⟩
    · refine ⟨.ref a, rfl, a, ns, rfl, hS, hlen, fun p sc H1 s1 np eF eS => ?_⟩
      refine ⟨by show 5 ≤ sizeLine; decide, fun wl nw => ?_⟩
      have s2 : Same H1 (upd H1 wl (.lst [V.str "moments", .str "stretches", .str "courses", .str "branches", .str "parts"])) := same_new nw
      generalize hH2 : upd H1 wl (.lst [V.str "moments", .str "stretches", .str "courses", .str "branches", .str "parts"]) = H2 at s2 ⊢
      have ew : H2 wl = some (.lst [V.str "moments", .str "stretches", .str "courses", .str "branches", .str "parts"]) := by rw [← hH2]; exact upd_same
      have eF2 := s2 _ _ eF
      have eS2 := s2 _ _ eS
      refine ⟨H2, List.replicate 9 .no, false, H2, hTest, Same.refl _, envR_none rfl, fun H3 F3 g3 => ?_⟩
      dsimp only
      rw [if_neg Bool.false_ne_true]
      have eF3 := g3.same _ _ eF2
      have eS3 := g3.same _ _ eS2
      have ew3 := g3.same _ _ ew
      have npw : p ≠ wl := ne_of_none eF nw
      have nps : sc ≠ p := fun e => by
        subst e
        rw [eF] at eS
        cases ns with
        | nil => cases eS
        | cons n r => cases eS
      refine ⟨some p, .ref wl, rfl, .ref p, rfl, p, sc, 0, 0, 11, ns, rfl, eF3, eS3, by decide, fun r1 i1 b1 c1 p1 p2 p3 => ?_⟩
      obtain ⟨w1, hw1, at1⟩ := pick5 (xs := wordsL) rfl p1 p2
      have eF4 : (upd H3 p (flowV sc i1 b1 c1)) p = some (flowV sc i1 b1 c1) := upd_same
      have eS4 : (upd H3 p (flowV sc i1 b1 c1)) sc = some (.lst (ns.map V.int)) := by rw [upd_ne nps]; exact eS3
      have ew4 : (upd H3 p (flowV sc i1 b1 c1)) wl = some (.lst (wordsL.map V.str)) := by rw [upd_ne (Ne.symm npw)]; exact ew3
      generalize upd H3 p (flowV sc i1 b1 c1) = H4 at eF4 eS4 ew4 ⊢
      refine ⟨wl, _, r1, .str w1, rfl, rfl, .inl (.inl ew4), at1, .ref wl, rfl, .ref p, rfl, p, sc, i1, b1, c1, ns, rfl, eF4, eS4, p3, fun r2 i2 b2 c2 q1 q2 q3 => ?_⟩
      obtain ⟨w2, hw2, at2⟩ := pick5 (xs := wordsL) rfl q1 q2
      have eF5 : (upd H4 p (flowV sc i2 b2 c2)) p = some (flowV sc i2 b2 c2) := upd_same
      have eS5 : (upd H4 p (flowV sc i2 b2 c2)) sc = some (.lst (ns.map V.int)) := by rw [upd_ne nps]; exact eS4
      have ew5 : (upd H4 p (flowV sc i2 b2 c2)) wl = some (.lst (wordsL.map V.str)) := by rw [upd_ne (Ne.symm npw)]; exact ew4
      generalize upd H4 p (flowV sc i2 b2 c2) = H5 at eF5 eS5 ew5 ⊢
      refine ⟨wl, _, r2, .str w2, rfl, rfl, .inl (.inl ew5), at2, by show 2 ≤ sizeLine; decide, fun l nl => ?_⟩
      have s6 : Same H5 (upd H5 l (.lst [V.str w1, .str w2])) := same_new nl
      have el : (upd H5 l (.lst [V.str w1, .str w2])) l = some (.lst [V.str w1, .str w2]) := upd_same
      generalize upd H5 l (.lst [V.str w1, .str w2]) = H6 at s6 el ⊢
      refine ⟨l, rfl, ⟨_, .inl (.inl el)⟩, H6, H6, [.str w1, .str w2], H6, Gr.refl (Same.refl _), ?_, ?_, ?_, fun σ' H7 F7 g7 er7 => ?_⟩
      · have rr : Reps ⟨K, fa (some p), C, fs⟩ H6 [.str w1, .str w2] [.str w1, .str w2] := .cons (.str _) (.cons (.str _) .nil)
        refine ⟨fun H' i d s' e' => ?_, fun H' s' => ⟨_, .inl (.inl (s' _ _ el)), by rw [← rr.length]; exact Nat.le_refl _⟩⟩
        obtain ⟨v, ev, rv⟩ := rr.get e'
        refine ⟨⟨_, v, .inl (.inl (s' _ _ el)), ev⟩, fun x H'' y => ?_⟩
        obtain ⟨e1, e2⟩ := y
        have e3 := Option.some.inj ((e2 _ (.inl (.inl (s' _ _ el)))).symm.trans ev)
        subst e3
        exact ⟨e1, rv⟩
      · refine ⟨rfl, fun _ => [], fun _ _ _ z => (nomatch z), fun _ _ z => (nomatch z), fun _ _ => rfl, fun i s e => ?_⟩
        match i, e with
        | 1, e => cases e; exact ⟨rfl, .ref p, rfl, .fn (h10 _)⟩
        | 0, e => cases e; exact rfl
        | 2, e => cases e; exact rfl
        | 3, e => cases e; exact rfl
        | 4, e => cases e; exact rfl
        | 5, e => cases e; exact rfl
        | 6, e => cases e; exact rfl
        | 7, e => cases e; exact rfl
        | 8, e => cases e; exact rfl
        | i + 9, e => simp [ρL] at e
      · intro x hx
        have hxw : ∃ z ∈ wordsL, x = .str z := by
          simp only [List.mem_cons, List.not_mem_nil, or_false] at hx
          rcases hx with rfl | rfl
          · exact ⟨w1, hw1, rfl⟩
          · exact ⟨w2, hw2, rfl⟩
        obtain ⟨z, hz, rfl⟩ := hxw
        obtain ⟨ρ2, b1, b2, b3⟩ := hBody z hz
        refine ⟨_, ρ2, rfl, b1, b2, fun i s e => ?_⟩
        match i, e with
        | 1, e => cases e; exact .inr ⟨_, rfl, b3⟩
        | 0, e => cases e; exact .inl rfl
        | 2, e => cases e; exact .inl rfl
        | 3, e => cases e; exact .inl rfl
        | 4, e => cases e; exact .inl rfl
        | 5, e => cases e; exact .inl rfl
        | 6, e => cases e; exact .inl rfl
        | 7, e => cases e; exact .inl rfl
        | 8, e => cases e; exact .inl rfl
        | i + 9, e => simp [ρL] at e
      · have hl9 : σ'.length = 9 := er7.len
        obtain ⟨v, ev, rv⟩ := er7.sh (i := 1) (d := .fn 10) rfl
        have evp : v = .ref p := by
          cases rv with
          | fn h =>
            have hp : some p = some _ := (h10 (some p)).symm.trans h
            cases hp
            rfl
        subst evp
        have eF7 := g7.same _ _ (s6 _ _ eF5)
        have eS7 := g7.same _ _ (s6 _ _ eS5)
        refine ⟨by show 5 ≤ sizeLine; decide, fun o no => ?_⟩
        have s8 : Same H7 (upd H7 o (.lst (oddL.map V.str))) := same_new no
        have eo : (upd H7 o (.lst (oddL.map V.str))) o = some (.lst (oddL.map V.str)) := upd_same
        have npo : o ≠ p := (ne_of_none eF7 no).symm
        refine ⟨.ref p, ev, p, sc, i2, b2, c2, ns, rfl, s8 _ _ eF7, s8 _ _ eS7, q3, fun r3 i3 b3 c3 t1 t2 t3 => ?_⟩
        obtain ⟨z, hz, at3⟩ := pick5 (xs := oddL) rfl t1 t2
        refine ⟨o, _, r3, .str z, rfl, rfl, .inl (.inl (by rw [upd_ne npo]; exact eo)), at3, ?_⟩
        have sl : (σ'.set 8 (some (V.str z)))[8]? = some (some (V.str z)) := by rw [List.getElem?_set_self (by omega)]
        refine ⟨.str z, sl, z, rfl, hOdd z hz, fun t H9 sm nt et => ?_⟩
        refine ⟨.str z, sl, by show 3 ≤ sizeLine; decide, fun u nu => ?_⟩
        have rz : ∀ {G : Hp}, Reps ⟨K, fa none, C, fs⟩ G [.str "NoTable", .str z, .bl true] [.str "NoTable", .str z, .bl true] := .cons (.str _) (.cons (.str _) (.cons (.bl _) .nil))
        refine ⟨_, [.tup [.str "NoTable", .str z, .bl true], .tup [.str "NoTable", .str z, .bl true]], .bl true, rfl, Same.refl _, .cons (.tup ((same_new nu) _ _ et) rz) (.cons (.tup upd_same rz) .nil), hSame z hz, fun v H' F' _ rv => ?_⟩
        cases rv
        exact q _
end
end PD
end
section
set_option Elab.async false
set_option linter.all false
set_option maxRecDepth 1000000
namespace PD
open PySem
theorem hOdd : ∀ z ∈ oddL, z ∉ wordsL := by decide +kernel
theorem hTest : n_lawtest (List.replicate 9 .no) = some false := by
  show (match n_lawtest (List.replicate 9 .no) with | some b => some b | none => none) = some false
  kernel_rfl
theorem hSame : ∀ z ∈ oddL, g_law_same 5 [.tup [.str "NoTable", .str z, .bl true], .tup [.str "NoTable", .str z, .bl true]] = some (.bl true) := by
  intro z hz
  simp only [oddL, List.mem_cons, List.not_mem_nil, or_false] at hz
  rcases hz with rfl | rfl | rfl | rfl | rfl <;> kernel_rfl
end PD
end
section
set_option Elab.async false
set_option linter.all false
set_option maxRecDepth 1000000
namespace PD
open PySem
def okOut (o : Option Out) : Bool := match o with
  | some (.nx ρ) => Nat.beq ρ.length 9 && (match (ρ[1]? : Option Sl) with
    | some (Sl.sh (D.fn n)) => Nat.beq n 10
    | _ => false)
  | _ => false
theorem of_okOut {o : Option Out} (h : okOut o = true) : ∃ ρ2, o = some (.nx ρ2) ∧ ρ2.length = 9 ∧ ρ2[1]? = some (.sh (.fn 10)) := by
  unfold okOut at h
  split at h
  · rename_i ρ
    obtain ⟨h1, h2⟩ := Bool.and_eq_true_iff.mp h
    refine ⟨ρ, rfl, Nat.eq_of_beq_eq_true h1, ?_⟩
    split at h2
    · rename_i n hn
      rw [hn, Nat.eq_of_beq_eq_true h2]
    · cases h2
  · cases h
theorem b_moments : okOut (n_lawbody (ρL.set 3 (.sh (.str "moments")))) = true := by decide +kernel
end PD
end
section
set_option Elab.async false
set_option linter.all false
set_option maxRecDepth 1000000
namespace PD
open PySem
theorem b_branches : okOut (n_lawbody (ρL.set 3 (.sh (.str "branches")))) = true := by decide +kernel
end PD
end
section
set_option Elab.async false
set_option linter.all false
set_option maxRecDepth 1000000
namespace PD
open PySem
theorem b_parts : okOut (n_lawbody (ρL.set 3 (.sh (.str "parts")))) = true := by decide +kernel
end PD
end
section
set_option Elab.async false
set_option linter.all false
set_option maxRecDepth 1000000
namespace PD
open PySem
theorem b_courses : okOut (n_lawbody (ρL.set 3 (.sh (.str "courses")))) = true := by decide +kernel
end PD
end
section
set_option Elab.async false
set_option linter.all false
set_option maxRecDepth 1000000
/-! PS1: loops over data by what they gather; lists in general. -/
namespace PD
open PySem
/-! ### loops -/
theorem forL_map {α : Type} {g : DG} {body : DS} (enc : α → D) (I : List α → Rho → Prop) (xs : List α)
    (h : ∀ pre x suf, xs = pre ++ x :: suf → ∀ ρ, I pre ρ → ∃ ρ1 ρ2, g (enc x) ρ = some ρ1 ∧ body ρ1 = some (.nx ρ2) ∧ I (pre ++ [x]) ρ2) :
    ∀ ρ, I [] ρ → ∃ ρ', forL g body (xs.map enc) ρ = some (.nx ρ') ∧ I xs ρ' := by
  have key : ∀ (suf pre : List α), xs = pre ++ suf → ∀ ρ, I pre ρ → ∃ ρ', forL g body (suf.map enc) ρ = some (.nx ρ') ∧ I xs ρ' := by
    intro suf
    induction suf with
    | nil =>
      intro pre e ρ hi
      rw [List.append_nil] at e
      rw [e]
      exact ⟨ρ, rfl, hi⟩
    | cons x r ih =>
      intro pre e ρ hi
      obtain ⟨ρ1, ρ2, h1, h2, h3⟩ := h pre x r e ρ hi
      obtain ⟨ρ', h4, h5⟩ := ih (pre ++ [x]) (by rw [e, List.append_assoc]; rfl) ρ2 h3
      refine ⟨ρ', ?_, h5⟩
      rw [List.map_cons, forL, h1]
      dsimp only
      rw [h2]
      exact h4
  exact key xs [] rfl
theorem lcG_map {α β : Type} {g : DG} {tt : DTt} {k : Rho → β → Option β} {ρ0 : Rho} (enc : α → D) (I : List α → β → Prop) (xs : List α)
    (h : ∀ pre x suf, xs = pre ++ x :: suf → ∀ s, I pre s → ∃ ρ1 s', g (enc x) ρ0 = some ρ1 ∧ tt ρ1 = some true ∧ k ρ1 s = some s' ∧ I (pre ++ [x]) s') :
    ∀ s, I [] s → ∃ s', lcG g tt k ρ0 (xs.map enc) s = some s' ∧ I xs s' := by
  have key : ∀ (suf pre : List α), xs = pre ++ suf → ∀ s, I pre s → ∃ s', lcG g tt k ρ0 (suf.map enc) s = some s' ∧ I xs s' := by
    intro suf
    induction suf with
    | nil =>
      intro pre e s hi
      rw [List.append_nil] at e
      rw [e]
      exact ⟨s, rfl, hi⟩
    | cons x r ih =>
      intro pre e s hi
      obtain ⟨ρ1, s1, h1, h2, h3, h4⟩ := h pre x r e s hi
      obtain ⟨s', h5, h6⟩ := ih (pre ++ [x]) (by rw [e, List.append_assoc]; rfl) s1 h4
      refine ⟨s', ?_, h6⟩
      rw [List.map_cons, lcG, h1]
      dsimp only
      rw [h2]
      dsimp only
      rw [h3]
      exact h5
  exact key xs [] rfl
theorem lcM_filter {α : Type} {g : DG} {tt : DTt} {k : DA} {ρ0 : Rho} (enc : α → D) (p : α → Bool) (f : α → D) : ∀ (xs : List α),
    (∀ x ∈ xs, ∃ ρ1, g (enc x) ρ0 = some ρ1 ∧ tt ρ1 = some (p x) ∧ (p x = true → k ρ1 = some [f x])) → lcM g tt k ρ0 (xs.map enc) = some ((xs.filter p).map f)
  | [], _ => rfl
  | x :: r, h => by
    obtain ⟨ρ1, h1, h2, h3⟩ := h x List.mem_cons_self
    have ih := lcM_filter enc p f r fun y hy => h y (List.mem_cons_of_mem _ hy)
    rw [List.map_cons, lcM, h1]
    dsimp only
    rw [h2]
    cases hp : p x with
    | true =>
      dsimp only
      rw [h3 hp, ih, List.filter_cons_of_pos hp]
      rfl
    | false =>
      dsimp only
      rw [ih, List.filter_cons_of_neg (by rw [hp]; exact Bool.false_ne_true)]
theorem lcM_map {α : Type} {g : DG} {tt : DTt} {k : DA} {ρ0 : Rho} (enc : α → D) (f : α → D) (xs : List α)
    (h : ∀ x ∈ xs, ∃ ρ1, g (enc x) ρ0 = some ρ1 ∧ tt ρ1 = some true ∧ k ρ1 = some [f x]) : lcM g tt k ρ0 (xs.map enc) = some (xs.map f) := by
  rw [lcM_filter enc (fun _ => true) f xs fun x hx => ?_]
  · rw [List.filter_eq_self.mpr fun _ _ => rfl]
  · obtain ⟨ρ1, h1, h2, h3⟩ := h x hx
    exact ⟨ρ1, h1, h2, fun _ => h3⟩
theorem sSeq_nx {t u : DS} {ρ ρ' : Rho} (h : t ρ = some (.nx ρ')) : sSeq t u ρ = u ρ' := by
  unfold sSeq
  rw [h]
theorem sSet_of {i : Nat} {a : DE} {ρ : Rho} {d : D} (h : a ρ = some d) : sSet i a ρ = some (.nx (ρ.set i (.sh d))) := by
  unfold sSet
  rw [h]
theorem sFor_of {di : DA} {g : DG} {b : DS} {ρ : Rho} {xs : List D} (h : di ρ = some xs) : sFor di g b ρ = forL g b xs ρ := by
  unfold sFor
  rw [h]
theorem sRet_of {a : DE} {ρ : Rho} {d : D} (h : a ρ = some d) : sRet a ρ = some (.rt d) := by
  unfold sRet
  rw [h]
theorem runD_of {n : Nat} {b : DS} {ds : List D} {d : D} (h : b (startR n ds) = some (.rt d)) : runD n b ds = some d := by
  unfold runD
  rw [h]
theorem dLc_of {k : DA} {ρ : Rho} {ys : List D} (h : k ρ = some ys) (hl : ys.length ≤ 16777216) : dLc k ρ = some (.lst ys) := by
  unfold dLc
  rw [h]
  exact if_pos hl
theorem kIn_of {di : DA} {vs : List Nat} {g : DG} {tt : DTt} {k : DA} {ρ : Rho} {xs : List D} (h : di ρ = some xs) : kIn di vs g tt k ρ = lcM g tt k (wipeR ρ vs) xs := by
  unfold kIn
  rw [h]
theorem aCons_of {a : DE} {r : DA} {ρ : Rho} {x : D} {xs : List D} (h1 : a ρ = some x) (h2 : r ρ = some xs) : aCons a r ρ = some (x :: xs) := by
  unfold aCons
  rw [h1]
  dsimp only
  rw [h2]
theorem dCall_of {g : List D → Option D} {a : DA} {ρ : Rho} {xs : List D} (h : a ρ = some xs) : dCall g a ρ = g xs := by
  unfold dCall
  rw [h]
/-! ### the gathered lists -/
def lookL (k : List Str) : List (List Str) → List (List D) → List D
  | x :: xs, ds :: dss => match seqSs x k with
    | true => ds
    | false => lookL k xs dss
  | _, _ => []
theorem seqSs_self (k : List Str) : seqSs k k = true := seqSs_iff.mpr rfl
theorem lookL_not {k : List Str} : ∀ {ks : List (List Str)} {dss : List (List D)}, hasT k ks = false → lookL k ks dss = []
  | [], _, _ => by unfold lookL; rfl
  | x :: xs, [], _ => by unfold lookL; rfl
  | x :: xs, ds :: dss, h => by
    rw [hasT] at h
    rw [lookL]
    cases hx : seqSs x k with
    | true => rw [hx] at h; cases h
    | false =>
      rw [hx] at h
      exact lookL_not h
theorem lookT_lst {k : List Str} : ∀ {ks : List (List Str)} {dss : List (List D)}, ks.length = dss.length → lookL k ks dss ≠ [] → lookT k ks (dss.map D.lst) = some (.lst (lookL k ks dss))
  | [], _, _, h => absurd (by unfold lookL; rfl) h
  | x :: xs, [], h, _ => by cases h
  | x :: xs, ds :: dss, hl, h => by
    rw [List.map_cons, lookT, lookL]
    rw [lookL] at h
    cases hx : seqSs x k with
    | true => rfl
    | false =>
      rw [hx] at h
      exact lookT_lst (Nat.succ.inj hl) h
theorem lookL_app {k k' : List Str} {v : D} : ∀ {ks : List (List Str)} {dss : List (List D)}, ks.length = dss.length → hasT k' ks = true → lookL k ks (gApp k' v ks dss) = if seqSs k' k = true then lookL k ks dss ++ [v] else lookL k ks dss
  | [], _, _, h => by cases h
  | x :: xs, [], h, _ => by cases h
  | x :: xs, ds :: dss, hl, h => by
    rw [hasT] at h
    rw [gApp]
    cases hx : seqSs x k' with
    | true =>
      have e := seqSs_iff.mp hx
      subst e
      dsimp only
      rw [lookL, lookL]
      cases hk : seqSs x k with
      | true => rw [if_pos rfl]
      | false => rw [if_neg Bool.false_ne_true]
    | false =>
      rw [hx] at h
      have ih := lookL_app (k := k) (v := v) (Nat.succ.inj hl) h
      dsimp only
      rw [lookL, lookL]
      cases hk : seqSs x k with
      | true =>
        have e := seqSs_iff.mp hk
        subst e
        have : seqSs k' x = false := by
          cases q : seqSs k' x with
          | false => rfl
          | true =>
            have e := seqSs_iff.mp q
            subst e
            rw [seqSs_self] at hx
            cases hx
        rw [this, if_neg Bool.false_ne_true]
      | false => exact ih
theorem lookL_add {k k' : List Str} {v : D} : ∀ {ks : List (List Str)} {dss : List (List D)}, ks.length = dss.length → hasT k' ks = false → lookL k (ks ++ [k']) (dss ++ [[v]]) = if seqSs k' k = true then lookL k ks dss ++ [v] else lookL k ks dss
  | [], [], _, _ => by
    show lookL k [k'] [[v]] = _
    rw [lookL]
    cases hk : seqSs k' k with
    | true => rw [if_pos rfl]; rfl
    | false => rw [if_neg Bool.false_ne_true]
  | [], _ :: _, h, _ => by cases h
  | x :: xs, [], h, _ => by cases h
  | x :: xs, ds :: dss, hl, h => by
    rw [hasT] at h
    cases hx : seqSs x k' with
    | true => rw [hx] at h; cases h
    | false =>
      rw [hx] at h
      have ih := lookL_add (k := k) (v := v) (Nat.succ.inj hl) h
      rw [List.cons_append, List.cons_append, lookL, lookL]
      cases hk : seqSs x k with
      | true =>
        have e := seqSs_iff.mp hk
        subst e
        have : seqSs k' x = false := by
          cases q : seqSs k' x with
          | false => rfl
          | true =>
            have e := seqSs_iff.mp q
            subst e
            rw [seqSs_self] at hx
            cases hx
        rw [this, if_neg Bool.false_ne_true]
      | false => exact ih
theorem gApp_len2 {k : List Str} {v : D} : ∀ {ks : List (List Str)} {dss : List (List D)}, (gApp k v ks dss).length = dss.length
  | [], dss => by unfold gApp; rfl
  | x :: xs, [] => by unfold gApp; rfl
  | x :: xs, ds :: dss => by
    rw [gApp]
    cases seqSs x k with
    | true => rfl
    | false => dsimp only; rw [List.length_cons, List.length_cons, gApp_len2]
theorem gApp_bd {k : List Str} {v : D} {n : Nat} : ∀ {ks : List (List Str)} {dss : List (List D)}, (∀ l ∈ dss, l.length ≤ n) → ∀ l ∈ gApp k v ks dss, l.length ≤ n + 1
  | [], dss, h, l, hl => by
    unfold gApp at hl
    exact Nat.le_succ_of_le (h l hl)
  | x :: xs, [], h, l, hl => by
    unfold gApp at hl
    cases hl
  | x :: xs, ds :: dss, h, l, hl => by
    rw [gApp] at hl
    cases hx : seqSs x k with
    | true =>
      rw [hx] at hl
      rcases List.mem_cons.mp hl with e | hl
      · rw [e, List.length_append]
        exact Nat.succ_le_succ (h ds List.mem_cons_self)
      · exact Nat.le_succ_of_le (h l (List.mem_cons_of_mem _ hl))
    | false =>
      rw [hx] at hl
      rcases List.mem_cons.mp hl with e | hl
      · rw [e]
        exact Nat.le_succ_of_le (h ds List.mem_cons_self)
      · exact gApp_bd (fun l hl => h l (List.mem_cons_of_mem _ hl)) l hl
/-- what a gathering holds after the turns pre -/
structure GI {α : Type} (key : α → List Str) (val : α → D) (pre : List α) (ks : List (List Str)) (dss : List (List D)) : Prop where
  len : ks.length = dss.length
  few : ks.length ≤ pre.length
  bd : ∀ l ∈ dss, l.length ≤ pre.length
  at_ : ∀ k, lookL k ks dss = (pre.filter fun t => seqSs (key t) k).map val
theorem GI.nil {α : Type} {key : α → List Str} {val : α → D} : GI key val [] [] [] := ⟨rfl, Nat.le_refl _, fun _ h => (nomatch h), fun k => (by unfold lookL; rfl)⟩
theorem GI.put {α : Type} {key : α → List Str} {val : α → D} {pre : List α} {ks : List (List Str)} {dss : List (List D)} (h : GI key val pre ks dss) (t : α) : GI key val (pre ++ [t]) (gPutK (key t) ks) (gPutD (key t) (val t) ks dss) := by
  have hp : (pre ++ [t]).length = pre.length + 1 := by rw [List.length_append]; rfl
  have hf : ∀ k, (if seqSs (key t) k = true then (pre.filter fun t => seqSs (key t) k).map val ++ [val t] else (pre.filter fun t => seqSs (key t) k).map val) = ((pre ++ [t]).filter fun t => seqSs (key t) k).map val := fun k => by
    rw [List.filter_append, List.map_append]
    cases hk : seqSs (key t) k with
    | true =>
      rw [if_pos rfl, List.filter_cons_of_pos (by exact hk)]
      rfl
    | false =>
      rw [if_neg Bool.false_ne_true, List.filter_cons_of_neg (by rw [hk]; exact Bool.false_ne_true)]
      show _ = _ ++ []
      rw [List.append_nil]
  unfold gPutK gPutD
  cases ht : hasT (key t) ks with
  | true =>
    rw [if_pos rfl, if_pos rfl]
    refine ⟨by rw [gApp_len2]; exact h.len, by rw [hp]; exact Nat.le_succ_of_le h.few, fun l hl => by rw [hp]; exact gApp_bd h.bd l hl, fun k => ?_⟩
    rw [lookL_app h.len ht, h.at_ k]
    exact hf k
  | false =>
    rw [if_neg Bool.false_ne_true, if_neg Bool.false_ne_true]
    refine ⟨by rw [List.length_append, List.length_append, h.len]; rfl, by rw [hp, List.length_append]; exact Nat.succ_le_succ h.few, fun l hl => ?_, fun k => ?_⟩
    · rw [hp]
      rcases List.mem_append.mp hl with hl | hl
      · exact Nat.le_succ_of_le (h.bd l hl)
      · cases List.mem_singleton.mp hl
        exact Nat.succ_le_succ (Nat.zero_le _)
    · rw [lookL_add h.len ht, h.at_ k]
      exact hf k
/-! ### a dict by texts -/
theorem lookK_repl {k k' : Str} {v : D} : ∀ {ks : List Str} {ds : List D}, ks.length = ds.length → hasK k' ks = true → lookK k ks (replK k' v ks ds) = if seqS k' k = true then some v else lookK k ks ds
  | [], _, _, h => by cases h
  | x :: xs, [], h, _ => by cases h
  | x :: xs, d :: ds, hl, h => by
    rw [hasK] at h
    rw [replK, lookK, lookK]
    cases hk : seqS x k with
    | true =>
      have e := seqS_iff.mp hk
      subst e
      dsimp only
      cases hx : seqS x k' with
      | true =>
        rw [seqS_iff.mp hx, if_pos (seqS_iff.mpr rfl)]
      | false =>
        have : seqS k' x = false := by
          cases q : seqS k' x with
          | false => rfl
          | true =>
            rw [seqS_iff.mp q, seqS_iff.mpr rfl] at hx
            cases hx
        rw [this, if_neg Bool.false_ne_true]
    | false =>
      dsimp only
      by_cases hh : hasK k' xs = true
      · exact lookK_repl (Nat.succ.inj hl) hh
      · have hx : seqS x k' = true := by
          cases q : seqS x k' with
          | true => rfl
          | false => rw [q] at h; exact absurd h hh
        have e := seqS_iff.mp hx
        subst e
        rw [hk, if_neg Bool.false_ne_true]
        have no : ∀ {ks : List Str} {ds : List D}, hasK x ks = false → replK x v ks ds = ds := by
          intro ks
          induction ks with
          | nil => intro ds _; unfold replK; rfl
          | cons y ys ih =>
            intro ds hn
            rw [hasK] at hn
            cases ds with
            | nil => unfold replK; rfl
            | cons e es =>
              cases hy : seqS y x with
              | true => rw [hy] at hn; cases hn
              | false =>
                rw [hy] at hn
                rw [replK, hy, ih hn]
        rw [no (Bool.eq_false_iff.mpr hh)]
theorem lookK_add {k k' : Str} {v : D} : ∀ {ks : List Str} {ds : List D}, ks.length = ds.length → hasK k' ks = false → lookK k (ks ++ [k']) (ds ++ [v]) = if seqS k' k = true then some v else lookK k ks ds
  | [], [], _, _ => by
    show lookK k [k'] [v] = _
    rw [lookK]
    cases hk : seqS k' k with
    | true => rw [if_pos rfl]
    | false => rw [if_neg Bool.false_ne_true]
  | [], _ :: _, h, _ => by cases h
  | x :: xs, [], h, _ => by cases h
  | x :: xs, d :: ds, hl, h => by
    rw [hasK] at h
    cases hx : seqS x k' with
    | true => rw [hx] at h; cases h
    | false =>
      rw [hx] at h
      have ih := lookK_add (k := k) (v := v) (Nat.succ.inj hl) h
      rw [List.cons_append, List.cons_append, lookK, lookK]
      cases hk : seqS x k with
      | true =>
        have e := seqS_iff.mp hk
        subst e
        have : seqS k' x = false := by
          cases q : seqS k' x with
          | false => rfl
          | true =>
            rw [seqS_iff.mp q, seqS_iff.mpr rfl] at hx
            cases hx
        rw [this, if_neg Bool.false_ne_true]
      | false => exact ih
/-- what a dict holds after the turns pre: a key's value hangs on the key alone -/
structure BI {α : Type} (key : α → Str) (val : α → D) (pre : List α) (ks : List Str) (ds : List D) : Prop where
  len : ks.length = ds.length
  few : ks.length ≤ pre.length
  at_ : ∀ t ∈ pre, lookK (key t) ks ds = some (val t)
theorem BI.nil {α : Type} {key : α → Str} {val : α → D} : BI key val [] [] [] := ⟨rfl, Nat.le_refl _, fun _ h => (nomatch h)⟩
theorem BI.put {α : Type} {key : α → Str} {val : α → D} {pre : List α} {ks : List Str} {ds : List D} (h : BI key val pre ks ds) (t : α) (hu : ∀ u ∈ pre, key t = key u → val t = val u) :
    BI key val (pre ++ [t]) (if hasK (key t) ks = true then ks else ks ++ [key t]) (if hasK (key t) ks = true then replK (key t) (val t) ks ds else ds ++ [val t]) := by
  have hp : (pre ++ [t]).length = pre.length + 1 := by rw [List.length_append]; rfl
  have go : ∀ (f : Str → Option D), (∀ k, f k = if seqS (key t) k = true then some (val t) else lookK k ks ds) → ∀ u ∈ pre ++ [t], f (key u) = some (val u) := fun f hf u hm => by
    rw [hf]
    rcases List.mem_append.mp hm with hm | hm
    · cases hk : seqS (key t) (key u) with
      | true =>
        rw [if_pos rfl, hu u hm (seqS_iff.mp hk)]
      | false =>
        rw [if_neg Bool.false_ne_true]
        exact h.at_ u hm
    · cases List.mem_singleton.mp hm
      rw [if_pos (seqS_iff.mpr rfl)]
  cases ht : hasK (key t) ks with
  | true =>
    rw [if_pos rfl, if_pos rfl]
    exact ⟨by rw [replK_len]; exact h.len, by rw [hp]; exact Nat.le_succ_of_le h.few, go _ fun k => lookK_repl h.len ht⟩
  | false =>
    rw [if_neg Bool.false_ne_true, if_neg Bool.false_ne_true]
    exact ⟨by rw [List.length_append, List.length_append, h.len]; rfl, by rw [hp, List.length_append]; exact Nat.succ_le_succ h.few, go _ fun k => lookK_add h.len ht⟩
/-! ### sets of texts -/
theorem addS_mem {k : Str} {l : List Str} {x : Str} : x ∈ addS k l ↔ x = k ∨ x ∈ l := by
  unfold addS
  cases h : inS k l with
  | true =>
    have hk := inS_iff.mp h
    refine ⟨.inr, fun q => ?_⟩
    rcases q with e | q
    · rw [e]; exact hk
    · exact q
  | false => exact List.mem_cons
theorem addS_nodup {k : Str} {l : List Str} (h : l.Nodup) : (addS k l).Nodup := by
  unfold addS
  cases hk : inS k l with
  | true => exact h
  | false =>
    refine List.nodup_cons.mpr ⟨fun z => ?_, h⟩
    rw [inS_iff.mpr z] at hk
    cases hk
theorem sort_eq {l m : List Str} (hl : l.Nodup) (hm : m.Nodup) (h : ∀ x, x ∈ l ↔ x ∈ m) : sortS l = sortS m :=
  List.Perm.eq_of_pairwise (fun a b _ _ => leT_anti) (sortS_sorted l) (sortS_sorted m) ((sortS_perm l).trans (((List.perm_ext_iff_of_nodup hl hm).mpr h).trans (sortS_perm m).symm))
/-! ### bits -/
theorem bits_fold {α : Type} (f : α → Nat) (m : Nat) : ∀ (xs : List α) (n : Nat), (xs.foldl (fun n t => n ||| 1 <<< f t) n).testBit m = (n.testBit m || xs.any fun t => f t == m)
  | [], n => by simp
  | x :: r, n => by
    rw [List.foldl_cons, bits_fold f m r, Nat.testBit_or, List.any_cons, Bool.or_assoc]
    congr 1
    congr 1
    rw [Nat.one_shiftLeft, Nat.testBit_two_pow]
    rfl
end PD
end
section
set_option Elab.async false
set_option linter.all false
set_option maxRecDepth 1000000
/-! PS2: stretches by codes: the things, their triples, their ways. -/
namespace PD
open PySem
def stK : List Str := ["before", "meets", "overlaps", "begins", "within", "ends", "same", "ended", "around", "begun", "overlaid", "met", "after"]
def kn (i : Nat) : Str := (stK[i]?).getD ""
def cods : List Nat := [0, 1, 2, 3, 4, 5, 6, 7, 8, 9, 10, 11, 12, 13, 14]
def thL : List D := [.tup [.int 0, .int 1], .tup [.int 0, .int 2], .tup [.int 1, .int 2], .tup [.int 0, .int 3], .tup [.int 1, .int 3], .tup [.int 2, .int 3], .tup [.int 0, .int 4], .tup [.int 1, .int 4], .tup [.int 2, .int 4], .tup [.int 3, .int 4], .tup [.int 0, .int 5], .tup [.int 1, .int 5], .tup [.int 2, .int 5], .tup [.int 3, .int 5], .tup [.int 4, .int 5]]
def Th (a : Nat) : D := (thL[a]?).getD .non
def WB : Nat := 3345868588321338823385211600857213639751528402149659077695398282293703304706195742976801594694458695314164537471715459749909579512763606587167403508088814492701949415159542252436605376714113013772850749461928547390239759718415655542992118671184407437046071729696922480950
def Wy (a b : Nat) : Nat := (WB >>> (4 * (15 * a + b))) % 16
def bkL : List Nat := [12, 11, 10, 9, 8, 7, 6, 5, 4, 3, 2, 1, 0]
def bkc (i : Nat) : Nat := (bkL[i]?).getD 0
def isS (o : Option D) (s : Str) : Bool := match o with
  | some (.str x) => seqS x s
  | _ => false
theorem isS_of {o : Option D} {s : Str} (h : isS o s = true) : o = some (.str s) := by
  unfold isS at h
  split at h
  · rw [seqS_iff.mp h]
  · cases h
theorem wy_chk : (cods.all fun a => cods.all fun b => isS (g_of_stretches [Th a, Th b]) (kn (Wy a b)) && (isS (g_law_kind_of [.str "stretches", Th a, Th b]) (kn (Wy a b)) && (Nat.blt (Wy a b) 13 && Nat.beq (Wy b a) (bkc (Wy a b))))) = true := by decide +kernel
abbrev Cod := Nat × Nat × Nat
def trC : List Cod := cods.flatMap fun a => cods.flatMap fun b => cods.map fun c => (a, b, c)
def trD (t : Cod) : D := .tup [Th t.1, Th t.2.1, Th t.2.2]
theorem tr_len : trC.length = 3375 := by decide +kernel
theorem things_law : g_law_things_of [.str "stretches"] = some (.lst thL) := by kernel_rfl
theorem st_triples : g_stretch_triples [] = some (.lst (trC.map trD)) := by kernel_rfl
end PD
end
section
set_option Elab.async false
set_option linter.all false
set_option maxRecDepth 1000000
/-! PS3: stretches: what seen_steps, seen_backs gather. -/
namespace PD
open PySem
theorem wy_all {a b : Nat} (ha : a ∈ cods) (hb : b ∈ cods) : g_of_stretches [Th a, Th b] = some (.str (kn (Wy a b))) ∧ g_law_kind_of [.str "stretches", Th a, Th b] = some (.str (kn (Wy a b))) ∧ Wy a b < 13 ∧ Wy b a = bkc (Wy a b) := by
  have h := List.all_eq_true.mp (List.all_eq_true.mp wy_chk a ha) b hb
  obtain ⟨h1, h⟩ := Bool.and_eq_true_iff.mp h
  obtain ⟨h2, h⟩ := Bool.and_eq_true_iff.mp h
  obtain ⟨h3, h4⟩ := Bool.and_eq_true_iff.mp h
  exact ⟨isS_of h1, isS_of h2, Nat.blt_eq.mp h3, Nat.eq_of_beq_eq_true h4⟩
theorem kn_inj : ∀ i, i < 13 → ∀ j, j < 13 → kn i = kn j → i = j := by
  have h : ((List.range 13).all fun i => (List.range 13).all fun j => !seqS (kn i) (kn j) || Nat.beq i j) = true := by decide +kernel
  intro i hi j hj e
  have q := List.all_eq_true.mp (List.all_eq_true.mp h i (List.mem_range.mpr hi)) j (List.mem_range.mpr hj)
  rw [e, seqS_iff.mpr rfl] at q
  exact Nat.eq_of_beq_eq_true q
theorem tr_mem {t : Cod} (h : t ∈ trC) : t.1 ∈ cods ∧ t.2.1 ∈ cods ∧ t.2.2 ∈ cods := by
  unfold trC at h
  obtain ⟨a, ha, h⟩ := List.mem_flatMap.mp h
  obtain ⟨b, hb, h⟩ := List.mem_flatMap.mp h
  obtain ⟨c, hc, rfl⟩ := List.mem_map.mp h
  exact ⟨ha, hb, hc⟩
/-- the key and the value of a triple -/
def kyT (t : Cod) : List Str := [kn (Wy t.1 t.2.1), kn (Wy t.2.1 t.2.2)]
def vlT (t : Cod) : D := .str (kn (Wy t.1 t.2.2))
def kyB (t : Cod) : Str := kn (Wy t.1 t.2.1)
def vlB (t : Cod) : D := .str (kn (Wy t.2.1 t.1))
theorem pre_in {pre suf : List Cod} {x : Cod} (e : trC = pre ++ x :: suf) : x ∈ trC ∧ pre.length < 3375 ∧ ∀ u ∈ pre, u ∈ trC := by
  refine ⟨by rw [e]; exact List.mem_append_right _ List.mem_cons_self, ?_, fun u hu => by rw [e]; exact List.mem_append_left _ hu⟩
  have h := tr_len
  rw [e, List.length_append, List.length_cons] at h
  omega
theorem back_one {t u : Cod} (ht : t ∈ trC) (hu : u ∈ trC) (h : kyB t = kyB u) : vlB t = vlB u := by
  obtain ⟨a, b, _⟩ := tr_mem ht
  obtain ⟨c, d, _⟩ := tr_mem hu
  obtain ⟨_, _, h1, h2⟩ := wy_all a b
  obtain ⟨_, _, h3, h4⟩ := wy_all c d
  unfold vlB
  rw [h2, h4, kn_inj _ h1 _ h3 h]
theorem sGath_of {i : Nat} {kd vd : DE} {ρ : Rho} {ks : List (List Str)} {dss : List (List D)} {xs : List D} {k : List Str} {v : D} (h0 : atS ρ i = .ow (.gath ks dss)) (h1 : kd (ρ.set i .no) = some (.tup xs)) (h2 : strsOf xs = some k) (h3 : vd (ρ.set i .no) = some v)
    (h4 : ks.length < 16777216) (h5 : ∀ l ∈ gPutD k v ks dss, l.length ≤ 16777216) : sGath i kd vd ρ = some (.nx (ρ.set i (.ow (.gath (gPutK k ks) (gPutD k v ks dss))))) := by
  unfold sGath
  rw [h0]
  dsimp only
  rw [h1]
  dsimp only
  rw [h2]
  dsimp only
  rw [h3]
  exact if_pos ⟨h4, List.all_eq_true.mpr fun l hl => decide_eq_true (h5 l hl)⟩
theorem dCallL_of {tab : Nat → Option (List D → Option D)} {i n : Nat} {a : DA} {ρ : Rho} {g : List D → Option D} {xs : List D} (h1 : dVar i ρ = some (.fn n)) (h2 : tab n = some g) (h3 : a ρ = some xs) : dCallL tab i a ρ = g xs := by
  unfold dCallL
  rw [h1]
  dsimp only
  rw [h2]
  dsimp only
  rw [h3]
theorem iL_of {a : DE} {ρ : Rho} {xs : List D} (h : a ρ = some (.lst xs)) : iL listOf a ρ = some xs := by
  unfold iL
  rw [h]
  rfl
theorem dDc_of {di : DA} {vs : List Nat} {g : DG} {tt : DTt} {k : Rho → List Str × List D → Option (List Str × List D)} {ρ : Rho} {xs : List D} {ks : List Str} {ds : List D} (h : di ρ = some xs) (h2 : lcG g tt k (wipeR ρ vs) xs ([], []) = some (ks, ds)) : dDc di vs g tt k ρ = some (.dK ks ds) := by
  unfold dDc
  rw [h]
  dsimp only
  rw [h2]
theorem seen_steps_ok : ∃ ks dss, g_seen_steps [.str "stretches"] = some (.dT ks (dss.map .lst)) ∧ GI kyT vlT trC ks dss := by
  have loop := forL_map (g := gT 3 (gConsD (gN 4) (gConsD (gN 5) (gConsD (gN 6) gNilD)))) (body := sSeq (sSet 7 (dCall mkTup (aCons (dCallL t_way 1 (aCons (dVar 4) (aCons (dVar 5) aNil))) (aCons (dCallL t_way 1 (aCons (dVar 5) (aCons (dVar 6) aNil))) aNil)))) (sGath 3 (dVar 7) (dCallL t_way 1 (aCons (dVar 4) (aCons (dVar 6) aNil))))) trD
    (fun pre ρ => ∃ ks dss s4 s5 s6 s7, ρ = [.sh (.str "stretches"), .sh (.fn 1), .sh (.fn 6), .ow (.gath ks dss), s4, s5, s6, s7] ∧ GI kyT vlT pre ks dss) trC (by
      rintro pre ⟨a, b, c⟩ suf e ρ ⟨ks, dss, s4, s5, s6, s7, rfl, G⟩
      obtain ⟨hm, hl, _⟩ := pre_in e
      obtain ⟨ha, hb, hc⟩ := tr_mem hm
      have G2 := G.put (a, b, c)
      have r1 : dCallL t_way 1 (aCons (dVar 4) (aCons (dVar 5) aNil)) [.sh (.str "stretches"), .sh (.fn 1), .sh (.fn 6), .ow (.gath ks dss), .sh (Th a), .sh (Th b), .sh (Th c), s7] = some (.str (kn (Wy a b))) := (dCallL_of (n := 1) rfl rfl rfl).trans (wy_all ha hb).1
      have r2 : dCallL t_way 1 (aCons (dVar 5) (aCons (dVar 6) aNil)) [.sh (.str "stretches"), .sh (.fn 1), .sh (.fn 6), .ow (.gath ks dss), .sh (Th a), .sh (Th b), .sh (Th c), s7] = some (.str (kn (Wy b c))) := (dCallL_of (n := 1) rfl rfl rfl).trans (wy_all hb hc).1
      have e1 : sSet 7 (dCall mkTup (aCons (dCallL t_way 1 (aCons (dVar 4) (aCons (dVar 5) aNil))) (aCons (dCallL t_way 1 (aCons (dVar 5) (aCons (dVar 6) aNil))) aNil))) [.sh (.str "stretches"), .sh (.fn 1), .sh (.fn 6), .ow (.gath ks dss), .sh (Th a), .sh (Th b), .sh (Th c), s7]
          = some (.nx [.sh (.str "stretches"), .sh (.fn 1), .sh (.fn 6), .ow (.gath ks dss), .sh (Th a), .sh (Th b), .sh (Th c), .sh (.tup [.str (kn (Wy a b)), .str (kn (Wy b c))])]) :=
        sSet_of ((dCall_of (aCons_of r1 (aCons_of r2 rfl))).trans rfl)
      refine ⟨_, _, rfl, (sSeq_nx e1).trans (sGath_of (k := kyT (a, b, c)) (v := vlT (a, b, c)) rfl rfl rfl ((dCallL_of (n := 1) rfl rfl rfl).trans (wy_all ha hc).1) (by have := G.few; omega) fun l hl => ?_), _, _, _, _, _, _, rfl, G2⟩
      have := G2.bd l hl
      rw [List.length_append] at this
      have h1 : [(a, b, c)].length = 1 := rfl
      omega)
  obtain ⟨ρ', h1, ks, dss, s4, s5, s6, s7, rfl, G⟩ := loop [.sh (.str "stretches"), .sh (.fn 1), .sh (.fn 6), .ow (.gath [] []), .no, .no, .no, .no] ⟨[], [], _, _, _, _, rfl, GI.nil⟩
  refine ⟨ks, dss, runD_of ?_, G⟩
  refine (sSeq_nx (ρ' := [.sh (.str "stretches"), .sh (.fn 1), .no, .no, .no, .no, .no, .no]) rfl).trans ?_
  refine (sSeq_nx (ρ' := [.sh (.str "stretches"), .sh (.fn 1), .sh (.fn 6), .no, .no, .no, .no, .no]) rfl).trans ?_
  refine (sSeq_nx (ρ' := [.sh (.str "stretches"), .sh (.fn 1), .sh (.fn 6), .ow (.gath [] []), .no, .no, .no, .no]) rfl).trans ?_
  exact (sSeq_nx ((sFor_of (iL_of ((dCallL_of (ρ := [.sh (.str "stretches"), .sh (.fn 1), .sh (.fn 6), .ow (.gath [] []), .no, .no, .no, .no]) (n := 6) rfl rfl rfl).trans st_triples))).trans h1)).trans rfl
theorem seen_backs_ok : ∃ ks ds, g_seen_backs [.str "stretches"] = some (.dK ks ds) ∧ BI kyB vlB trC ks ds := by
  have loop := lcG_map (g := gT 3 (gConsD (gN 3) (gConsD (gN 4) (gConsD (gN 5) gNilD)))) (tt := tYesD) (k := kP (dCallL t_way 1 (aCons (dVar 3) (aCons (dVar 4) aNil))) (dCallL t_way 1 (aCons (dVar 4) (aCons (dVar 3) aNil))))
    (ρ0 := [.sh (.str "stretches"), .sh (.fn 1), .sh (.fn 6), .no, .no, .no]) trD (fun pre s => BI kyB vlB pre s.1 s.2) trC (by
      rintro pre ⟨a, b, c⟩ suf e ⟨ks, ds⟩ G
      obtain ⟨hm, hl, hp⟩ := pre_in e
      obtain ⟨ha, hb, hc⟩ := tr_mem hm
      have G2 := G.put (a, b, c) fun u hu q => back_one hm (hp u hu) q
      refine ⟨[.sh (.str "stretches"), .sh (.fn 1), .sh (.fn 6), .sh (Th a), .sh (Th b), .sh (Th c)], (if hasK (kyB (a, b, c)) ks = true then ks else ks ++ [kyB (a, b, c)], if hasK (kyB (a, b, c)) ks = true then replK (kyB (a, b, c)) (vlB (a, b, c)) ks ds else ds ++ [vlB (a, b, c)]), rfl, rfl, ?_, G2⟩
      have r1 : dCallL t_way 1 (aCons (dVar 3) (aCons (dVar 4) aNil)) [.sh (.str "stretches"), .sh (.fn 1), .sh (.fn 6), .sh (Th a), .sh (Th b), .sh (Th c)] = some (.str (kyB (a, b, c))) := (dCallL_of (n := 1) rfl rfl rfl).trans (wy_all ha hb).1
      have r2 : dCallL t_way 1 (aCons (dVar 4) (aCons (dVar 3) aNil)) [.sh (.str "stretches"), .sh (.fn 1), .sh (.fn 6), .sh (Th a), .sh (Th b), .sh (Th c)] = some (vlB (a, b, c)) := (dCallL_of (n := 1) rfl rfl rfl).trans (wy_all hb ha).1
      unfold kP
      rw [r1]
      dsimp only
      rw [r2]
      exact if_pos (by have := G.few; dsimp only at this; omega))
  obtain ⟨⟨ks, ds⟩, h1, G⟩ := loop ([], []) BI.nil
  refine ⟨ks, ds, runD_of ?_, G⟩
  refine (sSeq_nx (ρ' := [.sh (.str "stretches"), .sh (.fn 1), .no, .no, .no, .no]) rfl).trans ?_
  refine (sSeq_nx (ρ' := [.sh (.str "stretches"), .sh (.fn 1), .sh (.fn 6), .no, .no, .no]) rfl).trans (sRet_of ?_)
  exact dDc_of (iL_of ((dCallL_of (n := 6) rfl rfl rfl).trans st_triples)) h1
end PD
end
section
set_option Elab.async false
set_option linter.all false
set_option maxRecDepth 1000000
/-! PS2b: the law's own triples of stretches. -/
namespace PD
open PySem
theorem th_is : thL = cods.map Th := by kernel_rfl
def triB (a b : Nat) : List D := cods.map fun c => trD (a, b, c)
def triA (a : Nat) (pre : List Nat) : List D := pre.flatMap fun b => triB a b
def triO (pre : List Nat) : List D := pre.flatMap fun a => triA a cods
theorem tri_is : triO cods = trC.map trD := by
  unfold trC triO triA triB
  simp only [List.map_flatMap, List.map_map]
  rfl
theorem triA_len (a : Nat) : ∀ pre : List Nat, (triA a pre).length = pre.length * 15
  | [] => rfl
  | b :: r => by
    show (triB a b ++ triA a r).length = _
    rw [List.length_append, triA_len a r, List.length_cons, Nat.succ_mul, Nat.add_comm]
    unfold triB
    rw [List.length_map]
    rfl
theorem triO_len : ∀ pre : List Nat, (triO pre).length = pre.length * 225
  | [] => rfl
  | b :: r => by
    show (triA b cods ++ triO r).length = _
    rw [List.length_append, triO_len r, triA_len, List.length_cons, Nat.succ_mul, Nat.add_comm]
    rfl
theorem cods_pre {pre suf : List Nat} {x : Nat} (e : cods = pre ++ x :: suf) : pre.length < 15 := by
  have h : cods.length = 15 := rfl
  rw [e, List.length_append, List.length_cons] at h
  omega
def ρT (acc : List D) (s6 s7 : Sl) : Rho := [.sh (.str "stretches"), .sh (.lst acc), .no, .no, .no, .sh (.lst (cods.map Th)), s6, s7, .no, .no, .no]
abbrev triS : DS := sSet 1 (d2 fAdd (dVar 1) (dLc (kIn (iL listOf (dVar 5)) [10] (gN 10) tYesD (kOne (dCall mkTup (aCons (dVar 6) (aCons (dVar 7) (aCons (dVar 10) aNil))))))))
abbrev triI : DS := sFor (iL listOf (dVar 5)) (gN 7) triS
theorem d2_of {f : D → D → Option D} {a b : DE} {ρ : Rho} {x y d : D} (h1 : a ρ = some x) (h2 : b ρ = some y) (h3 : f x y = some d) : d2 f a b ρ = some d := by
  unfold d2
  rw [h1]
  dsimp only
  rw [h2]
  exact h3
theorem tri_step {acc : List D} {a b : Nat} {s10 : Sl} (hl : acc.length + 15 ≤ 16777216) : triS (ρT acc (.sh (Th a)) (.sh (Th b))) = some (.nx (ρT (acc ++ triB a b) (.sh (Th a)) (.sh (Th b)))) := by
  have e : dLc (kIn (iL listOf (dVar 5)) [10] (gN 10) tYesD (kOne (dCall mkTup (aCons (dVar 6) (aCons (dVar 7) (aCons (dVar 10) aNil)))))) (ρT acc (.sh (Th a)) (.sh (Th b))) = some (.lst (triB a b)) :=
    dLc_of ((kIn_of (iL_of rfl)).trans (lcM_map Th (fun c => trD (a, b, c)) cods fun c hc => ⟨_, rfl, rfl, rfl⟩)) (by show (List.map _ cods).length ≤ _; rw [List.length_map]; decide)
  refine sSet_of (d2_of rfl e ?_)
  show mkLst (acc ++ triB a b) = _
  refine if_pos ?_
  have h : (triB a b).length = 15 := by
    unfold triB
    rw [List.length_map]
    rfl
  rw [List.length_append, h]
  exact hl
theorem tri_inner {acc : List D} {a : Nat} {s7 : Sl} (hl : acc.length ≤ 16000000) : ∃ s7', triI (ρT acc (.sh (Th a)) s7) = some (.nx (ρT (acc ++ triA a cods) (.sh (Th a)) s7')) := by
  have loop := forL_map (g := gN 7) (body := triS) Th (fun pre ρ => ∃ s7', ρ = ρT (acc ++ triA a pre) (.sh (Th a)) s7') cods (by
    rintro pre b suf e ρ ⟨s7', rfl⟩
    refine ⟨_, _, rfl, tri_step (s10 := .no) ?_, .sh (Th b), ?_⟩
    · have := cods_pre e
      rw [List.length_append, triA_len]
      omega
    · unfold triA
      rw [List.flatMap_append, List.append_assoc]
      show ρT (acc ++ (_ ++ triB a b)) _ _ = ρT (acc ++ (_ ++ (triB a b ++ []))) _ _
      rw [List.append_nil])
  obtain ⟨ρ', h1, s7', rfl⟩ := loop (ρT acc (.sh (Th a)) s7) ⟨s7, by
    show _ = ρT (acc ++ []) _ _
    rw [List.append_nil]⟩
  exact ⟨s7', (sFor_of (iL_of rfl)).trans h1⟩
theorem tri_outer : ∃ s6 s7, sFor (iL listOf (dVar 5)) (gN 6) triI (ρT [] .no .no) = some (.nx (ρT (triO cods) s6 s7)) := by
  have loop := forL_map (g := gN 6) (body := triI) Th (fun pre ρ => ∃ s6 s7, ρ = ρT (triO pre) s6 s7) cods (by
    rintro pre a suf e ρ ⟨s6, s7, rfl⟩
    obtain ⟨s7', h⟩ := tri_inner (acc := triO pre) (a := a) (s7 := s7) (by
      have := cods_pre e
      rw [triO_len]
      omega)
    refine ⟨_, _, rfl, h, .sh (Th a), s7', ?_⟩
    unfold triO
    rw [List.flatMap_append]
    show ρT (_ ++ triA a cods) _ _ = ρT (_ ++ (triA a cods ++ [])) _ _
    rw [List.append_nil])
  obtain ⟨ρ', h1, s6, s7, rfl⟩ := loop (ρT [] .no .no) ⟨.no, .no, rfl⟩
  exact ⟨s6, s7, (sFor_of (iL_of rfl)).trans h1⟩
theorem law_tr : g_law_triples [.str "stretches"] = some (.lst (trC.map trD)) := by
  obtain ⟨s6, s7, h⟩ := tri_outer
  rw [← tri_is]
  refine runD_of ?_
  refine (sSeq_nx (ρ' := [.sh (.str "stretches"), .no, .no, .no, .no, .no, .no, .no, .no, .no, .no]) rfl).trans ?_
  refine (sSeq_nx (ρ' := [.sh (.str "stretches"), .no, .no, .no, .no, .no, .no, .no, .no, .no, .no]) rfl).trans ?_
  refine (sSeq_nx (ρ' := [.sh (.str "stretches"), .no, .no, .no, .no, .sh (.lst (cods.map Th)), .no, .no, .no, .no, .no]) (sSet_of ((dCall_of (xs := [.str "stretches"]) rfl).trans (things_law.trans (congrArg (fun l => some (D.lst l)) th_is))))).trans ?_
  refine (sSeq_nx (ρ' := ρT [] .no .no) rfl).trans ?_
  refine (sSeq_nx h).trans ?_
  exact sRet_of rfl
end PD
end
section
set_option Elab.async false
set_option linter.all false
set_option maxRecDepth 1000000
/-! PS4: stretches: the law's own table. -/
namespace PD
open PySem
def occ : Nat := 11532500863595108661388537645610545565999198224314442701894555880523860162744410459226021931844887418815160608858319592843697687662021021360276084242642007018883276405889114085177290533134741121609665130619049270358408784775713534961648146554646073031952451716479155781349912614651353520058769592308218169059668756793856247183543877569728520811842172405323072743852736918201846976435705774359245949326552468443054851365429248925319115965374390638582252021137861798345743841250241029063026847369029120329055180985801802468671542335529534542507262816162038587225981581613032254467221080995861830949674618842566825166040007874987850210060833382311944241283105562625
def pos3 (t : Cod) : Nat := 169 * Wy t.1 t.2.1 + 13 * Wy t.2.1 t.2.2 + Wy t.1 t.2.2
theorem occ_is : trC.foldl (fun n t => n ||| 1 <<< pos3 t) 0 = occ := by kernel_rfl
def r13 : List Nat := [0, 1, 2, 3, 4, 5, 6, 7, 8, 9, 10, 11, 12]
theorem r13_mem {i : Nat} : i ∈ r13 ↔ i < 13 := by
  have h : r13 = List.range 13 := by decide
  rw [h]
  exact List.mem_range
theorem r13_nodup : r13.Nodup := by decide
def bit (i j k : Nat) : Bool := occ.testBit (169 * i + 13 * j + k)
/-- the kinds that two kinds leave open, by codes, in order -/
def row (i j : Nat) : List Nat := r13.filter fun k => bit i j k
theorem row_some : (r13.all fun i => r13.all fun j => !(row i j).isEmpty) = true := by decide +kernel
theorem bit_iff {i j k : Nat} (hi : i < 13) (hj : j < 13) (hk : k < 13) : bit i j k = true ↔ ∃ t ∈ trC, Wy t.1 t.2.1 = i ∧ Wy t.2.1 t.2.2 = j ∧ Wy t.1 t.2.2 = k := by
  unfold bit
  rw [← occ_is, bits_fold pos3]
  rw [Nat.zero_testBit, Bool.false_or, List.any_eq_true]
  constructor
  · rintro ⟨t, ht, e⟩
    obtain ⟨ha, hb, hc⟩ := tr_mem ht
    obtain ⟨_, _, h1, _⟩ := wy_all ha hb
    obtain ⟨_, _, h2, _⟩ := wy_all hb hc
    obtain ⟨_, _, h3, _⟩ := wy_all ha hc
    have e := beq_iff_eq.mp e
    unfold pos3 at e
    exact ⟨t, ht, by omega, by omega, by omega⟩
  · rintro ⟨t, ht, rfl, rfl, rfl⟩
    exact ⟨t, ht, beq_self_eq_true _⟩
/-- the texts gathered under two kinds -/
def valS (i j : Nat) : List Str := (trC.filter fun t => seqSs (kyT t) [kn i, kn j]).map fun t => kn (Wy t.1 t.2.2)
theorem valS_mem {i j : Nat} (hi : i < 13) (hj : j < 13) (x : Str) : x ∈ valS i j ↔ x ∈ (row i j).map kn := by
  unfold valS row
  rw [List.mem_map, List.mem_map]
  constructor
  · rintro ⟨t, ht, rfl⟩
    obtain ⟨ht, hk⟩ := List.mem_filter.mp ht
    obtain ⟨ha, hb, hc⟩ := tr_mem ht
    obtain ⟨_, _, h1, _⟩ := wy_all ha hb
    obtain ⟨_, _, h2, _⟩ := wy_all hb hc
    obtain ⟨_, _, h3, _⟩ := wy_all ha hc
    have e := seqSs_iff.mp hk
    unfold kyT at e
    injection e with e1 e2
    injection e2 with e2 _
    exact ⟨_, List.mem_filter.mpr ⟨r13_mem.mpr h3, (bit_iff hi hj h3).mpr ⟨t, ht, kn_inj _ h1 _ hi e1, kn_inj _ h2 _ hj e2, rfl⟩⟩, rfl⟩
  · rintro ⟨k, hk, rfl⟩
    obtain ⟨hk, hb⟩ := List.mem_filter.mp hk
    obtain ⟨t, ht, e1, e2, e3⟩ := (bit_iff hi hj (r13_mem.mp hk)).mp hb
    refine ⟨t, List.mem_filter.mpr ⟨ht, ?_⟩, by rw [e3]⟩
    unfold kyT
    rw [e1, e2]
    exact seqSs_self _
theorem valS_ne {i j : Nat} (hi : i < 13) (hj : j < 13) : valS i j ≠ [] := fun h => by
  have e := List.all_eq_true.mp (List.all_eq_true.mp row_some i (r13_mem.mpr hi)) j (r13_mem.mpr hj)
  cases q : row i j with
  | nil => rw [q] at e; cases e
  | cons k r =>
    have := (valS_mem hi hj (kn k)).mpr (by rw [q]; exact List.mem_cons_self)
    rw [h] at this
    cases this
theorem valS_len (i j : Nat) : (valS i j).length ≤ 3375 := by
  unfold valS
  rw [List.length_map, ← tr_len]
  exact List.length_filter_le _ _
/-- what is gathered under two kinds, read -/
theorem got {ks : List (List Str)} {dss : List (List D)} (G : GI kyT vlT trC ks dss) {i j : Nat} (hi : i < 13) (hj : j < 13) : fGet (.dT ks (dss.map .lst)) (.tup [.str (kn i), .str (kn j)]) = some (.lst ((valS i j).map .str)) := by
  have e : lookL [kn i, kn j] ks dss = (valS i j).map D.str := by
    rw [G.at_]
    unfold valS
    rw [List.map_map]
    rfl
  have ne : lookL [kn i, kn j] ks dss ≠ [] := fun z => by
    rw [e] at z
    exact valS_ne hi hj (List.map_eq_nil_iff.mp z)
  show lookT [kn i, kn j] ks (dss.map .lst) = _
  rw [lookT_lst G.len ne, e]
/-- each code below 13 is met -/
theorem met_chk : (r13.all fun i => trC.any fun t => Nat.beq (Wy t.1 t.2.1) i) = true := by decide +kernel
theorem back_got {ks : List Str} {ds : List D} (G : BI kyB vlB trC ks ds) {i : Nat} (hi : i < 13) : fGet (.dK ks ds) (.str (kn i)) = some (.str (kn (bkc i))) := by
  obtain ⟨t, ht, e⟩ := List.any_eq_true.mp (List.all_eq_true.mp met_chk i (r13_mem.mpr hi))
  have e := Nat.eq_of_beq_eq_true e
  obtain ⟨ha, hb, _⟩ := tr_mem ht
  have h := G.at_ t ht
  unfold kyB vlB at h
  rw [(wy_all ha hb).2.2.2, e] at h
  exact h
theorem strs_of : ∀ l : List Str, strsOf (l.map D.str) = some l
  | [] => rfl
  | x :: r => by
    rw [List.map_cons, strsOf, strs_of r]
def kdL : List D := r13.map fun i => .str (kn i)
theorem in_order {i j : Nat} (hi : i < 13) (hj : j < 13) : g_law_in_order [.lst kdL, .lst ((valS i j).map .str)] = some (.lst ((row i j).map fun k => .str (kn k))) := by
  refine runD_of (sRet_of (dLc_of ((kIn_of (iL_of rfl)).trans ((lcM_filter (fun i => D.str (kn i)) (fun k => inS (kn k) (valS i j)) (fun i => D.str (kn i)) r13 fun x hx => ⟨_, rfl, ?_, fun _ => rfl⟩).trans ?_)) ?_))
  · show fIn (.str (kn x)) (.lst ((valS i j).map .str)) = _
    unfold fIn
    show (match strsOf ((valS i j).map .str) with | some ns => some (inS (kn x) ns) | none => none) = _
    rw [strs_of]
  · congr 2
    unfold row
    refine List.filter_congr fun x hx => ?_
    have e : inS (kn x) (valS i j) = true ↔ bit i j x = true := by
      rw [inS_iff, valS_mem hi hj, List.mem_map]
      constructor
      · rintro ⟨k, hk, e⟩
        obtain ⟨hk, hb⟩ := List.mem_filter.mp hk
        rw [← kn_inj _ (r13_mem.mp hk) _ (r13_mem.mp hx) e]
        exact hb
      · intro hb
        exact ⟨x, List.mem_filter.mpr ⟨hx, hb⟩, rfl⟩
    exact Bool.eq_iff_iff.mpr e
  · rw [List.length_map]
    exact Nat.le_trans (List.length_filter_le _ _) (by decide)
end PD
end
section
set_option Elab.async false
set_option linter.all false
set_option maxRecDepth 1000000
/-! PS5: stretches: the law's own table is what is written here. -/
namespace PD
open PySem
def stepV (i j : Nat) : D := .lst ((row i j).map fun k => .str (kn k))
def keysO (pre : List Nat) : List (List Str) := pre.flatMap fun i => r13.map fun j => [kn i, kn j]
def valsO (pre : List Nat) : List D := pre.flatMap fun i => r13.map fun j => stepV i j
def stepKeys : List (List Str) := ["before", "before"] :: ["before", "meets"] :: ["before", "overlaps"] :: ["before", "begins"] :: ["before", "within"] :: ["before", "ends"] :: ["before", "same"] :: ["before", "ended"] :: ["before", "around"] :: ["before", "begun"] :: ["before", "overlaid"] :: ["before", "met"] :: ["before", "after"] :: ["meets", "before"] :: ["meets", "meets"] :: ["meets", "overlaps"] :: ["meets", "begins"] :: ["meets", "within"] :: ["meets", "ends"] :: ["meets", "same"] :: ["meets", "ended"] :: ["meets", "around"] :: ["meets", "begun"] :: ["meets", "overlaid"] :: ["meets", "met"] :: ["meets", "after"] :: ["overlaps", "before"] :: ["overlaps", "meets"] :: ["overlaps", "overlaps"] :: ["overlaps", "begins"] :: ["overlaps", "within"] :: ["overlaps", "ends"] :: ["overlaps", "same"] :: ["overlaps", "ended"] :: ["overlaps", "around"] :: ["overlaps", "begun"] :: ["overlaps", "overlaid"] :: ["overlaps", "met"] :: ["overlaps", "after"] :: ["begins", "before"] :: ["begins", "meets"] :: ["begins", "overlaps"] :: ["begins", "begins"] :: ["begins", "within"] :: ["begins", "ends"] :: ["begins", "same"] :: ["begins", "ended"] :: ["begins", "around"] :: ["begins", "begun"] :: ["begins", "overlaid"] :: ["begins", "met"] :: ["begins", "after"] :: ["within", "before"] :: ["within", "meets"] :: ["within", "overlaps"] :: ["within", "begins"] :: ["within", "within"] :: ["within", "ends"] :: ["within", "same"] :: ["within", "ended"] :: ["within", "around"] :: ["within", "begun"] :: ["within", "overlaid"] :: ["within", "met"] :: ["within", "after"] :: ["ends", "before"] :: ["ends", "meets"] :: ["ends", "overlaps"] :: ["ends", "begins"] :: ["ends", "within"] :: ["ends", "ends"] :: ["ends", "same"] :: ["ends", "ended"] :: ["ends", "around"] :: ["ends", "begun"] :: ["ends", "overlaid"] :: ["ends", "met"] :: ["ends", "after"] :: ["same", "before"] :: ["same", "meets"] :: ["same", "overlaps"] :: ["same", "begins"] :: ["same", "within"] :: ["same", "ends"] :: ["same", "same"] :: ["same", "ended"] :: ["same", "around"] :: ["same", "begun"] :: ["same", "overlaid"] :: ["same", "met"] :: ["same", "after"] :: ["ended", "before"] :: ["ended", "meets"] :: ["ended", "overlaps"] :: ["ended", "begins"] :: ["ended", "within"] :: ["ended", "ends"] :: ["ended", "same"] :: ["ended", "ended"] :: ["ended", "around"] :: ["ended", "begun"] :: ["ended", "overlaid"] :: ["ended", "met"] :: ["ended", "after"] :: ["around", "before"] :: ["around", "meets"] :: ["around", "overlaps"] :: ["around", "begins"] :: ["around", "within"] :: ["around", "ends"] :: ["around", "same"] :: ["around", "ended"] :: ["around", "around"] :: ["around", "begun"] :: ["around", "overlaid"] :: ["around", "met"] :: ["around", "after"] :: ["begun", "before"] :: ["begun", "meets"] :: ["begun", "overlaps"] :: ["begun", "begins"] :: ["begun", "within"] :: ["begun", "ends"] :: ["begun", "same"] :: ["begun", "ended"] :: ["begun", "around"] :: ["begun", "begun"] :: ["begun", "overlaid"] :: ["begun", "met"] :: ["begun", "after"] :: ["overlaid", "before"] :: ["overlaid", "meets"] :: ["overlaid", "overlaps"] :: ["overlaid", "begins"] :: ["overlaid", "within"] :: ["overlaid", "ends"] :: ["overlaid", "same"] :: ["overlaid", "ended"] :: ["overlaid", "around"] :: ["overlaid", "begun"] :: ["overlaid", "overlaid"] :: ["overlaid", "met"] :: ["overlaid", "after"] :: ["met", "before"] :: ["met", "meets"] :: ["met", "overlaps"] :: ["met", "begins"] :: ["met", "within"] :: ["met", "ends"] :: ["met", "same"] :: ["met", "ended"] :: ["met", "around"] :: ["met", "begun"] :: ["met", "overlaid"] :: ["met", "met"] :: ["met", "after"] :: ["after", "before"] :: ["after", "meets"] :: ["after", "overlaps"] :: ["after", "begins"] :: ["after", "within"] :: ["after", "ends"] :: ["after", "same"] :: ["after", "ended"] :: ["after", "around"] :: ["after", "begun"] :: ["after", "overlaid"] :: ["after", "met"] :: ["after", "after"] :: []
def stepVals : List D := [.lst [.str "before"], .lst [.str "before"], .lst [.str "before"], .lst [.str "before"], .lst [.str "before", .str "meets", .str "overlaps", .str "begins", .str "within"], .lst [.str "before", .str "meets", .str "overlaps", .str "begins", .str "within"], .lst [.str "before"], .lst [.str "before"], .lst [.str "before"], .lst [.str "before"], .lst [.str "before", .str "meets", .str "overlaps", .str "begins", .str "within"], .lst [.str "before", .str "meets", .str "overlaps", .str "begins", .str "within"], .lst [.str "before", .str "meets", .str "overlaps", .str "begins", .str "within", .str "ends", .str "same", .str "ended", .str "around", .str "begun", .str "overlaid", .str "met", .str "after"], .lst [.str "before"], .lst [.str "before"], .lst [.str "before"], .lst [.str "meets"], .lst [.str "overlaps", .str "begins", .str "within"], .lst [.str "overlaps", .str "begins", .str "within"], .lst [.str "meets"], .lst [.str "before"], .lst [.str "before"], .lst [.str "meets"], .lst [.str "overlaps", .str "begins", .str "within"], .lst [.str "ends", .str "same", .str "ended"], .lst [.str "around", .str "begun", .str "overlaid", .str "met", .str "after"], .lst [.str "before"], .lst [.str "before"], .lst [.str "before", .str "meets", .str "overlaps"], .lst [.str "overlaps"], .lst [.str "overlaps", .str "begins", .str "within"], .lst [.str "overlaps", .str "begins", .str "within"], .lst [.str "overlaps"], .lst [.str "before", .str "meets", .str "overlaps"], .lst [.str "before", .str "meets", .str "overlaps", .str "ended", .str "around"], .lst [.str "overlaps", .str "ended", .str "around"], .lst [.str "overlaps", .str "begins", .str "within", .str "ends", .str "same", .str "ended", .str "around", .str "begun", .str "overlaid"], .lst [.str "around", .str "begun", .str "overlaid"], .lst [.str "around", .str "begun", .str "overlaid", .str "met", .str "after"], .lst [.str "before"], .lst [.str "before"], .lst [.str "before", .str "meets", .str "overlaps"], .lst [.str "begins"], .lst [.str "within"], .lst [.str "within"], .lst [.str "begins"], .lst [.str "before", .str "meets", .str "overlaps"], .lst [.str "before", .str "meets", .str "overlaps", .str "ended", .str "around"], .lst [.str "begins", .str "same", .str "begun"], .lst [.str "within", .str "ends", .str "overlaid"], .lst [.str "met"], .lst [.str "after"], .lst [.str "before"], .lst [.str "before"], .lst [.str "before", .str "meets", .str "overlaps", .str "begins", .str "within"], .lst [.str "within"], .lst [.str "within"], .lst [.str "within"], .lst [.str "within"], .lst [.str "before", .str "meets", .str "overlaps", .str "begins", .str "within"], .lst [.str "before", .str "meets", .str "overlaps", .str "begins", .str "within", .str "ends", .str "same", .str "ended", .str "around", .str "begun", .str "overlaid", .str "met", .str "after"], .lst [.str "within", .str "ends", .str "overlaid", .str "met", .str "after"], .lst [.str "within", .str "ends", .str "overlaid", .str "met", .str "after"], .lst [.str "after"], .lst [.str "after"], .lst [.str "before"], .lst [.str "meets"], .lst [.str "overlaps", .str "begins", .str "within"], .lst [.str "within"], .lst [.str "within"], .lst [.str "ends"], .lst [.str "ends"], .lst [.str "ends", .str "same", .str "ended"], .lst [.str "around", .str "begun", .str "overlaid", .str "met", .str "after"], .lst [.str "overlaid", .str "met", .str "after"], .lst [.str "overlaid", .str "met", .str "after"], .lst [.str "after"], .lst [.str "after"], .lst [.str "before"], .lst [.str "meets"], .lst [.str "overlaps"], .lst [.str "begins"], .lst [.str "within"], .lst [.str "ends"], .lst [.str "same"], .lst [.str "ended"], .lst [.str "around"], .lst [.str "begun"], .lst [.str "overlaid"], .lst [.str "met"], .lst [.str "after"], .lst [.str "before"], .lst [.str "meets"], .lst [.str "overlaps"], .lst [.str "overlaps"], .lst [.str "overlaps", .str "begins", .str "within"], .lst [.str "ends", .str "same", .str "ended"], .lst [.str "ended"], .lst [.str "ended"], .lst [.str "around"], .lst [.str "around"], .lst [.str "around", .str "begun", .str "overlaid"], .lst [.str "around", .str "begun", .str "overlaid"], .lst [.str "around", .str "begun", .str "overlaid", .str "met", .str "after"], .lst [.str "before", .str "meets", .str "overlaps", .str "ended", .str "around"], .lst [.str "overlaps", .str "ended", .str "around"], .lst [.str "overlaps", .str "ended", .str "around"], .lst [.str "overlaps", .str "ended", .str "around"], .lst [.str "overlaps", .str "begins", .str "within", .str "ends", .str "same", .str "ended", .str "around", .str "begun", .str "overlaid"], .lst [.str "around", .str "begun", .str "overlaid"], .lst [.str "around"], .lst [.str "around"], .lst [.str "around"], .lst [.str "around"], .lst [.str "around", .str "begun", .str "overlaid"], .lst [.str "around", .str "begun", .str "overlaid"], .lst [.str "around", .str "begun", .str "overlaid", .str "met", .str "after"], .lst [.str "before", .str "meets", .str "overlaps", .str "ended", .str "around"], .lst [.str "overlaps", .str "ended", .str "around"], .lst [.str "overlaps", .str "ended", .str "around"], .lst [.str "begins", .str "same", .str "begun"], .lst [.str "within", .str "ends", .str "overlaid"], .lst [.str "overlaid"], .lst [.str "begun"], .lst [.str "around"], .lst [.str "around"], .lst [.str "begun"], .lst [.str "overlaid"], .lst [.str "met"], .lst [.str "after"], .lst [.str "before", .str "meets", .str "overlaps", .str "ended", .str "around"], .lst [.str "overlaps", .str "ended", .str "around"], .lst [.str "overlaps", .str "begins", .str "within", .str "ends", .str "same", .str "ended", .str "around", .str "begun", .str "overlaid"], .lst [.str "within", .str "ends", .str "overlaid"], .lst [.str "within", .str "ends", .str "overlaid"], .lst [.str "overlaid"], .lst [.str "overlaid"], .lst [.str "around", .str "begun", .str "overlaid"], .lst [.str "around", .str "begun", .str "overlaid", .str "met", .str "after"], .lst [.str "overlaid", .str "met", .str "after"], .lst [.str "overlaid", .str "met", .str "after"], .lst [.str "after"], .lst [.str "after"], .lst [.str "before", .str "meets", .str "overlaps", .str "ended", .str "around"], .lst [.str "begins", .str "same", .str "begun"], .lst [.str "within", .str "ends", .str "overlaid"], .lst [.str "within", .str "ends", .str "overlaid"], .lst [.str "within", .str "ends", .str "overlaid"], .lst [.str "met"], .lst [.str "met"], .lst [.str "met"], .lst [.str "after"], .lst [.str "after"], .lst [.str "after"], .lst [.str "after"], .lst [.str "after"], .lst [.str "before", .str "meets", .str "overlaps", .str "begins", .str "within", .str "ends", .str "same", .str "ended", .str "around", .str "begun", .str "overlaid", .str "met", .str "after"], .lst [.str "within", .str "ends", .str "overlaid", .str "met", .str "after"], .lst [.str "within", .str "ends", .str "overlaid", .str "met", .str "after"], .lst [.str "within", .str "ends", .str "overlaid", .str "met", .str "after"], .lst [.str "within", .str "ends", .str "overlaid", .str "met", .str "after"], .lst [.str "after"], .lst [.str "after"], .lst [.str "after"], .lst [.str "after"], .lst [.str "after"], .lst [.str "after"], .lst [.str "after"], .lst [.str "after"]]
def bkD : List D := r13.map fun i => .str (kn (bkc i))
def bkE : List D := [.str "after", .str "met", .str "overlaid", .str "begun", .str "around", .str "ended", .str "same", .str "ends", .str "within", .str "begins", .str "overlaps", .str "meets", .str "before"]
theorem keys_is : keysO r13 = stepKeys := by kernel_rfl
theorem vals_is : valsO r13 = stepVals := by kernel_rfl
theorem bkD_is : bkD = bkE := by kernel_rfl
def kdE : List D := [.str "before", .str "meets", .str "overlaps", .str "begins", .str "within", .str "ends", .str "same", .str "ended", .str "around", .str "begun", .str "overlaid", .str "met", .str "after"]
theorem kd_is : kdL = kdE := by kernel_rfl
/-- the law's table of stretches -/
def lawT : D := .dK ["kinds", "same", "back", "step"] [.lst kdE, .str "same", .dK stK bkE, .dT stepKeys stepVals]
theorem table_is : g_law_table [.lst kdE, .str "same", .lst bkE, .dT stepKeys stepVals] = some lawT := by kernel_rfl
theorem kinds_is : g_law_kinds_of [.str "stretches"] = some (.lst kdL) := by kernel_rfl
theorem hasT_iff {k : List Str} : ∀ {ks : List (List Str)}, hasT k ks = true ↔ k ∈ ks
  | [] => ⟨fun h => (nomatch h), fun h => (nomatch h)⟩
  | x :: r => by
    rw [hasT]
    cases h : seqSs x k with
    | true =>
      refine ⟨fun _ => ?_, fun _ => rfl⟩
      rw [seqSs_iff.mp h]
      exact List.mem_cons_self
    | false =>
      refine ⟨fun q => List.mem_cons_of_mem _ (hasT_iff.mp q), fun q => ?_⟩
      rcases List.mem_cons.mp q with e | q
      · rw [e, seqSs_self] at h
        cases h
      · exact hasT_iff.mpr q
theorem sPutK_of {i : Nat} {kd vd : DE} {ρ : Rho} {ks : List Str} {ds : List D} {k : Str} {v : D} (h0 : atS ρ i = .ow (.dK ks ds)) (h1 : vd (ρ.set i .no) = some v) (h2 : kd (ρ.set i .no) = some (.str k)) (h3 : ks.length < 16777216) :
    sPut i kd vd ρ = some (.nx (ρ.set i (.ow (.dK (if hasK k ks = true then ks else ks ++ [k]) (if hasK k ks = true then replK k v ks ds else ds ++ [v]))))) := by
  unfold sPut
  rw [h0]
  dsimp only
  rw [h1]
  dsimp only
  rw [h2]
  exact if_pos h3
theorem sPutT_of {i : Nat} {kd vd : DE} {ρ : Rho} {ks : List (List Str)} {ds : List D} {k : List Str} {xs : List D} {v : D} (h0 : atS ρ i = .ow (.dT ks ds)) (h1 : vd (ρ.set i .no) = some v) (h2 : kd (ρ.set i .no) = some (.tup xs)) (h4 : strsOf xs = some k) (h3 : ks.length < 16777216) (hn : k ∉ ks) :
    sPut i kd vd ρ = some (.nx (ρ.set i (.ow (.dT (ks ++ [k]) (ds ++ [v]))))) := by
  have hf : hasT k ks = false := Bool.eq_false_iff.mpr fun z => hn (hasT_iff.mp z)
  unfold sPut
  rw [h0]
  dsimp only
  rw [h1]
  dsimp only
  rw [h2]
  dsimp only
  rw [h4]
  dsimp only
  rw [if_pos h3, hf, if_neg Bool.false_ne_true, if_neg Bool.false_ne_true]
theorem sFrz_of {i : Nat} {t : DS} {ρ ρ' : Rho} (h : frzR i ρ = some ρ') : sFrz i t ρ = t ρ' := by
  unfold sFrz
  rw [h]
theorem keysO_len : ∀ pre : List Nat, (keysO pre).length = pre.length * 13
  | [] => rfl
  | i :: r => by
    show (List.map _ r13 ++ keysO r).length = _
    rw [List.length_append, keysO_len r, List.length_map, List.length_cons, Nat.succ_mul, Nat.add_comm]
    rfl
theorem r13_pre {pre suf : List Nat} {x : Nat} (e : r13 = pre ++ x :: suf) : x < 13 ∧ pre.length < 13 ∧ x ∉ pre ∧ ∀ u ∈ pre, u < 13 := by
  have nd := r13_nodup
  rw [e] at nd
  refine ⟨r13_mem.mp (by rw [e]; exact List.mem_append_right _ List.mem_cons_self), ?_, fun z => ?_, fun u hu => r13_mem.mp (by rw [e]; exact List.mem_append_left _ hu)⟩
  · have h : r13.length = 13 := rfl
    rw [e, List.length_append, List.length_cons] at h
    omega
  · exact (List.nodup_append.mp nd).2.2 x z x List.mem_cons_self rfl
theorem key_new {pre0 pre : List Nat} {i j : Nat} (hi : i < 13) (hj : j < 13) (n0 : i ∉ pre0) (n : j ∉ pre) (b0 : ∀ u ∈ pre0, u < 13) (b : ∀ u ∈ pre, u < 13) : [kn i, kn j] ∉ keysO pre0 ++ pre.map fun j => [kn i, kn j] := fun z => by
  rcases List.mem_append.mp z with z | z
  · unfold keysO at z
    obtain ⟨u, hu, z⟩ := List.mem_flatMap.mp z
    obtain ⟨v, hv, z⟩ := List.mem_map.mp z
    injection z with z1 z2
    exact n0 (kn_inj _ (b0 u hu) _ hi z1 ▸ hu)
  · obtain ⟨v, hv, z⟩ := List.mem_map.mp z
    injection z with z1 z2
    injection z2 with z2 _
    exact n (kn_inj _ (b v hv) _ hj z2 ▸ hv)
theorem law_loop : ∃ ks dss bks bds s4 s5 s6 s7, sFor (iL listOf (dCall g_law_triples (aCons (dVar 0) aNil))) (gT 3 (gConsD (gN 4) (gConsD (gN 5) (gConsD (gN 6) gNilD)))) (sSeq (sSet 7 (dCall mkTup (aCons (dCall g_law_kind_of (aCons (dVar 0) (aCons (dVar 4) (aCons (dVar 5) aNil)))) (aCons (dCall g_law_kind_of (aCons (dVar 0) (aCons (dVar 5) (aCons (dVar 6) aNil)))) aNil)))) (sSeq (sGath 2 (dVar 7) (dCall g_law_kind_of (aCons (dVar 0) (aCons (dVar 4) (aCons (dVar 6) aNil))))) (sPut 3 (d2 fIx (dVar 7) (dC (.int 0))) (dCall g_law_kind_of (aCons (dVar 0) (aCons (dVar 5) (aCons (dVar 4) aNil)))))))
      [.sh (.str "stretches"), .sh (.lst kdL), .ow (.gath [] []), .ow (.dK [] []), .no, .no, .no, .no, .no] = some (.nx [.sh (.str "stretches"), .sh (.lst kdL), .ow (.gath ks dss), .ow (.dK bks bds), s4, s5, s6, s7, .no])
    ∧ GI kyT vlT trC ks dss ∧ BI kyB vlB trC bks bds := by
  have loop := forL_map (g := gT 3 (gConsD (gN 4) (gConsD (gN 5) (gConsD (gN 6) gNilD)))) (body := sSeq (sSet 7 (dCall mkTup (aCons (dCall g_law_kind_of (aCons (dVar 0) (aCons (dVar 4) (aCons (dVar 5) aNil)))) (aCons (dCall g_law_kind_of (aCons (dVar 0) (aCons (dVar 5) (aCons (dVar 6) aNil)))) aNil)))) (sSeq (sGath 2 (dVar 7) (dCall g_law_kind_of (aCons (dVar 0) (aCons (dVar 4) (aCons (dVar 6) aNil))))) (sPut 3 (d2 fIx (dVar 7) (dC (.int 0))) (dCall g_law_kind_of (aCons (dVar 0) (aCons (dVar 5) (aCons (dVar 4) aNil))))))) trD
    (fun pre ρ => ∃ ks dss bks bds s4 s5 s6 s7, ρ = [.sh (.str "stretches"), .sh (.lst kdL), .ow (.gath ks dss), .ow (.dK bks bds), s4, s5, s6, s7, .no] ∧ GI kyT vlT pre ks dss ∧ BI kyB vlB pre bks bds) trC (by
      rintro pre ⟨a, b, c⟩ suf e ρ ⟨ks, dss, bks, bds, s4, s5, s6, s7, rfl, G, B⟩
      obtain ⟨hm, hl, hp⟩ := pre_in e
      obtain ⟨ha, hb, hc⟩ := tr_mem hm
      have G2 := G.put (a, b, c)
      have B2 := B.put (a, b, c) fun u hu q => back_one hm (hp u hu) q
      have k1 : dCall g_law_kind_of (aCons (dVar 0) (aCons (dVar 4) (aCons (dVar 5) aNil))) [.sh (.str "stretches"), .sh (.lst kdL), .ow (.gath ks dss), .ow (.dK bks bds), .sh (Th a), .sh (Th b), .sh (Th c), s7, .no] = some (.str (kn (Wy a b))) := (dCall_of (xs := [.str "stretches", Th a, Th b]) rfl).trans (wy_all ha hb).2.1
      have k2 : dCall g_law_kind_of (aCons (dVar 0) (aCons (dVar 5) (aCons (dVar 6) aNil))) [.sh (.str "stretches"), .sh (.lst kdL), .ow (.gath ks dss), .ow (.dK bks bds), .sh (Th a), .sh (Th b), .sh (Th c), s7, .no] = some (.str (kn (Wy b c))) := (dCall_of (xs := [.str "stretches", Th b, Th c]) rfl).trans (wy_all hb hc).2.1
      have e1 : sSet 7 (dCall mkTup (aCons (dCall g_law_kind_of (aCons (dVar 0) (aCons (dVar 4) (aCons (dVar 5) aNil)))) (aCons (dCall g_law_kind_of (aCons (dVar 0) (aCons (dVar 5) (aCons (dVar 6) aNil)))) aNil))) [.sh (.str "stretches"), .sh (.lst kdL), .ow (.gath ks dss), .ow (.dK bks bds), .sh (Th a), .sh (Th b), .sh (Th c), s7, .no]
          = some (.nx [.sh (.str "stretches"), .sh (.lst kdL), .ow (.gath ks dss), .ow (.dK bks bds), .sh (Th a), .sh (Th b), .sh (Th c), .sh (.tup [.str (kn (Wy a b)), .str (kn (Wy b c))]), .no]) :=
        sSet_of ((dCall_of (aCons_of k1 (aCons_of k2 rfl))).trans rfl)
      refine ⟨_, _, rfl, (sSeq_nx e1).trans ((sSeq_nx (sGath_of (k := kyT (a, b, c)) (v := vlT (a, b, c)) rfl rfl rfl ((dCall_of (xs := [.str "stretches", Th a, Th c]) rfl).trans (wy_all ha hc).2.1) (by have := G.few; omega) fun l hl => ?_)).trans
        (sPutK_of (k := kyB (a, b, c)) (v := vlB (a, b, c)) rfl ((dCall_of (xs := [.str "stretches", Th b, Th a]) rfl).trans (wy_all hb ha).2.1) rfl (by have := B.few; omega))), _, _, _, _, _, _, _, _, rfl, G2, B2⟩
      have := G2.bd l hl
      rw [List.length_append] at this
      have h1 : [(a, b, c)].length = 1 := rfl
      omega)
  obtain ⟨ρ', h1, ks, dss, bks, bds, s4, s5, s6, s7, rfl, G, B⟩ := loop [.sh (.str "stretches"), .sh (.lst kdL), .ow (.gath [] []), .ow (.dK [] []), .no, .no, .no, .no, .no] ⟨[], [], [], [], _, _, _, _, rfl, GI.nil, BI.nil⟩
  exact ⟨ks, dss, bks, bds, s4, s5, s6, s7, (sFor_of (iL_of ((dCall_of (xs := [.str "stretches"]) rfl).trans law_tr))).trans h1, G, B⟩
/-- the slots in the second loop -/
def ρ2 (hits backs : D) (s4 s5 s6 s7 : Sl) (ks : List (List Str)) (vs : List D) : Rho := [.sh (.str "stretches"), .sh (.lst kdL), .sh hits, .sh backs, s4, s5, s6, s7, .ow (.dT ks vs)]
abbrev inner2 : DS := sFor (iL listOf (dVar 1)) (gN 5) (sPut 8 (dCall mkTup (aCons (dVar 4) (aCons (dVar 5) aNil))) (dCall g_law_in_order (aCons (dVar 1) (aCons (d2 fGet (dVar 2) (dCall mkTup (aCons (dVar 4) (aCons (dVar 5) aNil)))) aNil))))
theorem law_inner {ks : List (List Str)} {dss : List (List D)} (G : GI kyT vlT trC ks dss) {backs : D} {s5 s6 s7 : Sl} {pre0 suf0 : List Nat} {i : Nat} (e0 : r13 = pre0 ++ i :: suf0) :
    ∃ s5', inner2 (ρ2 (.dT ks (dss.map .lst)) backs (.sh (.str (kn i))) s5 s6 s7 (keysO pre0) (valsO pre0)) = some (.nx (ρ2 (.dT ks (dss.map .lst)) backs (.sh (.str (kn i))) s5' s6 s7 (keysO (pre0 ++ [i])) (valsO (pre0 ++ [i])))) := by
  obtain ⟨hi, hl0, n0, b0⟩ := r13_pre e0
  have loop := forL_map (g := gN 5) (body := sPut 8 (dCall mkTup (aCons (dVar 4) (aCons (dVar 5) aNil))) (dCall g_law_in_order (aCons (dVar 1) (aCons (d2 fGet (dVar 2) (dCall mkTup (aCons (dVar 4) (aCons (dVar 5) aNil)))) aNil)))) (fun j => D.str (kn j))
    (fun pre ρ => ∃ s5', ρ = ρ2 (.dT ks (dss.map .lst)) backs (.sh (.str (kn i))) s5' s6 s7 (keysO pre0 ++ pre.map fun j => [kn i, kn j]) (valsO pre0 ++ pre.map fun j => stepV i j)) r13 (by
      rintro pre j suf e ρ ⟨s5', rfl⟩
      obtain ⟨hj, hl, n, b⟩ := r13_pre e
      have hg := got G hi hj
      have hlen : (keysO pre0 ++ pre.map fun j => [kn i, kn j]).length < 16777216 := by
        rw [List.length_append, keysO_len, List.length_map]
        omega
      have hv : dCall g_law_in_order (aCons (dVar 1) (aCons (d2 fGet (dVar 2) (dCall mkTup (aCons (dVar 4) (aCons (dVar 5) aNil)))) aNil)) [.sh (.str "stretches"), .sh (.lst kdL), .sh (.dT ks (dss.map .lst)), .sh backs, .sh (.str (kn i)), .sh (.str (kn j)), s6, s7, .no] = some (stepV i j) :=
        (dCall_of (aCons_of rfl (aCons_of hg rfl))).trans (in_order hi hj)
      refine ⟨_, _, rfl, sPutT_of (k := [kn i, kn j]) rfl hv rfl rfl hlen (key_new hi hj n0 n b0 b), .sh (.str (kn j)), ?_⟩
      rw [List.map_append, List.map_append, ← List.append_assoc, ← List.append_assoc]
      rfl)
  obtain ⟨ρ', h1, s5', rfl⟩ := loop (ρ2 (.dT ks (dss.map .lst)) backs (.sh (.str (kn i))) s5 s6 s7 (keysO pre0) (valsO pre0)) ⟨s5, by rw [List.map_nil, List.map_nil, List.append_nil, List.append_nil]⟩
  refine ⟨s5', ((sFor_of rfl).trans h1).trans ?_⟩
  have h2 : keysO (pre0 ++ [i]) = keysO pre0 ++ r13.map fun j => [kn i, kn j] := by
    unfold keysO
    rw [List.flatMap_append]
    rfl
  have h3 : valsO (pre0 ++ [i]) = valsO pre0 ++ r13.map fun j => stepV i j := by
    unfold valsO
    rw [List.flatMap_append]
    rfl
  rw [h2, h3]
theorem law_outer {ks : List (List Str)} {dss : List (List D)} (G : GI kyT vlT trC ks dss) {backs : D} {s4 s5 s6 s7 : Sl} :
    ∃ s4' s5', sFor (iL listOf (dVar 1)) (gN 4) inner2 (ρ2 (.dT ks (dss.map .lst)) backs s4 s5 s6 s7 [] []) = some (.nx (ρ2 (.dT ks (dss.map .lst)) backs s4' s5' s6 s7 (keysO r13) (valsO r13))) := by
  have loop := forL_map (g := gN 4) (body := inner2) (fun j => D.str (kn j))
    (fun pre ρ => ∃ s4' s5', ρ = ρ2 (.dT ks (dss.map .lst)) backs s4' s5' s6 s7 (keysO pre) (valsO pre)) r13 (by
      rintro pre i suf e ρ ⟨s4', s5', rfl⟩
      obtain ⟨s5'', h⟩ := law_inner G (backs := backs) (s5 := s5') (s6 := s6) (s7 := s7) e
      exact ⟨_, _, rfl, h, _, _, rfl⟩)
  obtain ⟨ρ', h1, s4', s5', rfl⟩ := loop (ρ2 (.dT ks (dss.map .lst)) backs s4 s5 s6 s7 [] []) ⟨s4, s5, rfl⟩
  exact ⟨s4', s5', (sFor_of rfl).trans h1⟩
theorem law_seen_st : g_law_seen [.str "stretches"] = some lawT := by
  obtain ⟨ks, dss, bks, bds, s4, s5, s6, s7, h1, G, B⟩ := law_loop
  obtain ⟨s4', s5', h2⟩ := law_outer G (backs := .dK bks bds) (s4 := s4) (s5 := s5) (s6 := s6) (s7 := s7)
  refine runD_of ?_
  refine (sSeq_nx (sSet_of ((dCall_of (xs := [.str "stretches"]) rfl).trans kinds_is))).trans ?_
  refine (sSeq_nx (ρ' := [.sh (.str "stretches"), .sh (.lst kdL), .no, .no, .no, .no, .no, .no, .no]) rfl).trans ?_
  refine (sSeq_nx (ρ' := [.sh (.str "stretches"), .sh (.lst kdL), .ow (.gath [] []), .no, .no, .no, .no, .no, .no]) rfl).trans ?_
  refine (sSeq_nx (ρ' := [.sh (.str "stretches"), .sh (.lst kdL), .ow (.gath [] []), .ow (.dK [] []), .no, .no, .no, .no, .no]) rfl).trans ?_
  refine (sSeq_nx h1).trans ?_
  refine (sFrz_of (ρ' := [.sh (.str "stretches"), .sh (.lst kdL), .ow (.gath ks dss), .sh (.dK bks bds), s4, s5, s6, s7, .no]) rfl).trans ?_
  refine (sFrz_of (ρ' := [.sh (.str "stretches"), .sh (.lst kdL), .sh (.dT ks (dss.map .lst)), .sh (.dK bks bds), s4, s5, s6, s7, .no]) rfl).trans ?_
  refine (sSeq_nx (ρ' := ρ2 (.dT ks (dss.map .lst)) (.dK bks bds) s4 s5 s6 s7 [] []) rfl).trans ?_
  refine (sSeq_nx h2).trans ?_
  refine (sFrz_of (ρ' := [.sh (.str "stretches"), .sh (.lst kdL), .sh (.dT ks (dss.map .lst)), .sh (.dK bks bds), s4', s5', s6, s7, .sh (.dT (keysO r13) (valsO r13))]) rfl).trans ?_
  refine sRet_of ((dCall_of (aCons_of rfl (aCons_of rfl (aCons_of (dLc_of ((kIn_of (iL_of rfl)).trans (lcM_map (fun i => D.str (kn i)) (fun i => D.str (kn (bkc i))) r13 fun i hi => ⟨_, rfl, rfl, ?_⟩)) ?_) (aCons_of rfl rfl))))).trans ?_)
  · have hb := back_got B (r13_mem.mp hi)
    show kOne (d2 fGet (dVar 3) (dVar 4)) [.sh (.str "stretches"), .sh (.lst kdL), .sh (.dT ks (dss.map .lst)), .sh (.dK bks bds), .sh (.str (kn i)), s5', s6, s7, .sh (.dT (keysO r13) (valsO r13))] = _
    have e : d2 fGet (dVar 3) (dVar 4) [.sh (.str "stretches"), .sh (.lst kdL), .sh (.dT ks (dss.map .lst)), .sh (.dK bks bds), .sh (.str (kn i)), s5', s6, s7, .sh (.dT (keysO r13) (valsO r13))] = some (.str (kn (bkc i))) := hb
    unfold kOne
    rw [e]
  · rw [List.length_map]
    decide
  · have e : g_law_table [.lst kdL, .str "same", .lst bkD, .dT (keysO r13) (valsO r13)] = some lawT := by
      rw [kd_is, bkD_is, keys_is, vals_is]
      exact table_is
    exact e
end PD
end
section
set_option Elab.async false
set_option linter.all false
set_option maxRecDepth 1000000
/-! PS6: stretches: the built table. -/
namespace PD
open PySem
def lineV (i j : Nat) : D := .lst ((sortS ((row i j).map kn)).map .str)
def linesO : List D := r13.map fun i => .lst (r13.map fun j => lineV i j)
def linesE : List D := [.lst [.lst [.str "before"], .lst [.str "before"], .lst [.str "before"], .lst [.str "before"], .lst [.str "before", .str "begins", .str "meets", .str "overlaps", .str "within"], .lst [.str "before", .str "begins", .str "meets", .str "overlaps", .str "within"], .lst [.str "before"], .lst [.str "before"], .lst [.str "before"], .lst [.str "before"], .lst [.str "before", .str "begins", .str "meets", .str "overlaps", .str "within"], .lst [.str "before", .str "begins", .str "meets", .str "overlaps", .str "within"], .lst [.str "after", .str "around", .str "before", .str "begins", .str "begun", .str "ended", .str "ends", .str "meets", .str "met", .str "overlaid", .str "overlaps", .str "same", .str "within"]], .lst [.lst [.str "before"], .lst [.str "before"], .lst [.str "before"], .lst [.str "meets"], .lst [.str "begins", .str "overlaps", .str "within"], .lst [.str "begins", .str "overlaps", .str "within"], .lst [.str "meets"], .lst [.str "before"], .lst [.str "before"], .lst [.str "meets"], .lst [.str "begins", .str "overlaps", .str "within"], .lst [.str "ended", .str "ends", .str "same"], .lst [.str "after", .str "around", .str "begun", .str "met", .str "overlaid"]], .lst [.lst [.str "before"], .lst [.str "before"], .lst [.str "before", .str "meets", .str "overlaps"], .lst [.str "overlaps"], .lst [.str "begins", .str "overlaps", .str "within"], .lst [.str "begins", .str "overlaps", .str "within"], .lst [.str "overlaps"], .lst [.str "before", .str "meets", .str "overlaps"], .lst [.str "around", .str "before", .str "ended", .str "meets", .str "overlaps"], .lst [.str "around", .str "ended", .str "overlaps"], .lst [.str "around", .str "begins", .str "begun", .str "ended", .str "ends", .str "overlaid", .str "overlaps", .str "same", .str "within"], .lst [.str "around", .str "begun", .str "overlaid"], .lst [.str "after", .str "around", .str "begun", .str "met", .str "overlaid"]], .lst [.lst [.str "before"], .lst [.str "before"], .lst [.str "before", .str "meets", .str "overlaps"], .lst [.str "begins"], .lst [.str "within"], .lst [.str "within"], .lst [.str "begins"], .lst [.str "before", .str "meets", .str "overlaps"], .lst [.str "around", .str "before", .str "ended", .str "meets", .str "overlaps"], .lst [.str "begins", .str "begun", .str "same"], .lst [.str "ends", .str "overlaid", .str "within"], .lst [.str "met"], .lst [.str "after"]], .lst [.lst [.str "before"], .lst [.str "before"], .lst [.str "before", .str "begins", .str "meets", .str "overlaps", .str "within"], .lst [.str "within"], .lst [.str "within"], .lst [.str "within"], .lst [.str "within"], .lst [.str "before", .str "begins", .str "meets", .str "overlaps", .str "within"], .lst [.str "after", .str "around", .str "before", .str "begins", .str "begun", .str "ended", .str "ends", .str "meets", .str "met", .str "overlaid", .str "overlaps", .str "same", .str "within"], .lst [.str "after", .str "ends", .str "met", .str "overlaid", .str "within"], .lst [.str "after", .str "ends", .str "met", .str "overlaid", .str "within"], .lst [.str "after"], .lst [.str "after"]], .lst [.lst [.str "before"], .lst [.str "meets"], .lst [.str "begins", .str "overlaps", .str "within"], .lst [.str "within"], .lst [.str "within"], .lst [.str "ends"], .lst [.str "ends"], .lst [.str "ended", .str "ends", .str "same"], .lst [.str "after", .str "around", .str "begun", .str "met", .str "overlaid"], .lst [.str "after", .str "met", .str "overlaid"], .lst [.str "after", .str "met", .str "overlaid"], .lst [.str "after"], .lst [.str "after"]], .lst [.lst [.str "before"], .lst [.str "meets"], .lst [.str "overlaps"], .lst [.str "begins"], .lst [.str "within"], .lst [.str "ends"], .lst [.str "same"], .lst [.str "ended"], .lst [.str "around"], .lst [.str "begun"], .lst [.str "overlaid"], .lst [.str "met"], .lst [.str "after"]], .lst [.lst [.str "before"], .lst [.str "meets"], .lst [.str "overlaps"], .lst [.str "overlaps"], .lst [.str "begins", .str "overlaps", .str "within"], .lst [.str "ended", .str "ends", .str "same"], .lst [.str "ended"], .lst [.str "ended"], .lst [.str "around"], .lst [.str "around"], .lst [.str "around", .str "begun", .str "overlaid"], .lst [.str "around", .str "begun", .str "overlaid"], .lst [.str "after", .str "around", .str "begun", .str "met", .str "overlaid"]], .lst [.lst [.str "around", .str "before", .str "ended", .str "meets", .str "overlaps"], .lst [.str "around", .str "ended", .str "overlaps"], .lst [.str "around", .str "ended", .str "overlaps"], .lst [.str "around", .str "ended", .str "overlaps"], .lst [.str "around", .str "begins", .str "begun", .str "ended", .str "ends", .str "overlaid", .str "overlaps", .str "same", .str "within"], .lst [.str "around", .str "begun", .str "overlaid"], .lst [.str "around"], .lst [.str "around"], .lst [.str "around"], .lst [.str "around"], .lst [.str "around", .str "begun", .str "overlaid"], .lst [.str "around", .str "begun", .str "overlaid"], .lst [.str "after", .str "around", .str "begun", .str "met", .str "overlaid"]], .lst [.lst [.str "around", .str "before", .str "ended", .str "meets", .str "overlaps"], .lst [.str "around", .str "ended", .str "overlaps"], .lst [.str "around", .str "ended", .str "overlaps"], .lst [.str "begins", .str "begun", .str "same"], .lst [.str "ends", .str "overlaid", .str "within"], .lst [.str "overlaid"], .lst [.str "begun"], .lst [.str "around"], .lst [.str "around"], .lst [.str "begun"], .lst [.str "overlaid"], .lst [.str "met"], .lst [.str "after"]], .lst [.lst [.str "around", .str "before", .str "ended", .str "meets", .str "overlaps"], .lst [.str "around", .str "ended", .str "overlaps"], .lst [.str "around", .str "begins", .str "begun", .str "ended", .str "ends", .str "overlaid", .str "overlaps", .str "same", .str "within"], .lst [.str "ends", .str "overlaid", .str "within"], .lst [.str "ends", .str "overlaid", .str "within"], .lst [.str "overlaid"], .lst [.str "overlaid"], .lst [.str "around", .str "begun", .str "overlaid"], .lst [.str "after", .str "around", .str "begun", .str "met", .str "overlaid"], .lst [.str "after", .str "met", .str "overlaid"], .lst [.str "after", .str "met", .str "overlaid"], .lst [.str "after"], .lst [.str "after"]], .lst [.lst [.str "around", .str "before", .str "ended", .str "meets", .str "overlaps"], .lst [.str "begins", .str "begun", .str "same"], .lst [.str "ends", .str "overlaid", .str "within"], .lst [.str "ends", .str "overlaid", .str "within"], .lst [.str "ends", .str "overlaid", .str "within"], .lst [.str "met"], .lst [.str "met"], .lst [.str "met"], .lst [.str "after"], .lst [.str "after"], .lst [.str "after"], .lst [.str "after"], .lst [.str "after"]], .lst [.lst [.str "after", .str "around", .str "before", .str "begins", .str "begun", .str "ended", .str "ends", .str "meets", .str "met", .str "overlaid", .str "overlaps", .str "same", .str "within"], .lst [.str "after", .str "ends", .str "met", .str "overlaid", .str "within"], .lst [.str "after", .str "ends", .str "met", .str "overlaid", .str "within"], .lst [.str "after", .str "ends", .str "met", .str "overlaid", .str "within"], .lst [.str "after", .str "ends", .str "met", .str "overlaid", .str "within"], .lst [.str "after"], .lst [.str "after"], .lst [.str "after"], .lst [.str "after"], .lst [.str "after"], .lst [.str "after"], .lst [.str "after"], .lst [.str "after"]]]
theorem lines_is : linesO = linesE := by kernel_rfl
def bitsE : List D := [.lst [.int 1, .int 1, .int 1, .int 1, .int 31, .int 31, .int 1, .int 1, .int 1, .int 1, .int 31, .int 31, .int 8191], .lst [.int 1, .int 1, .int 1, .int 2, .int 28, .int 28, .int 2, .int 1, .int 1, .int 2, .int 28, .int 224, .int 7936], .lst [.int 1, .int 1, .int 7, .int 4, .int 28, .int 28, .int 4, .int 7, .int 391, .int 388, .int 2044, .int 1792, .int 7936], .lst [.int 1, .int 1, .int 7, .int 8, .int 16, .int 16, .int 8, .int 7, .int 391, .int 584, .int 1072, .int 2048, .int 4096], .lst [.int 1, .int 1, .int 31, .int 16, .int 16, .int 16, .int 16, .int 31, .int 8191, .int 7216, .int 7216, .int 4096, .int 4096], .lst [.int 1, .int 2, .int 28, .int 16, .int 16, .int 32, .int 32, .int 224, .int 7936, .int 7168, .int 7168, .int 4096, .int 4096], .lst [.int 1, .int 2, .int 4, .int 8, .int 16, .int 32, .int 64, .int 128, .int 256, .int 512, .int 1024, .int 2048, .int 4096], .lst [.int 1, .int 2, .int 4, .int 4, .int 28, .int 224, .int 128, .int 128, .int 256, .int 256, .int 1792, .int 1792, .int 7936], .lst [.int 391, .int 388, .int 388, .int 388, .int 2044, .int 1792, .int 256, .int 256, .int 256, .int 256, .int 1792, .int 1792, .int 7936], .lst [.int 391, .int 388, .int 388, .int 584, .int 1072, .int 1024, .int 512, .int 256, .int 256, .int 512, .int 1024, .int 2048, .int 4096], .lst [.int 391, .int 388, .int 2044, .int 1072, .int 1072, .int 1024, .int 1024, .int 1792, .int 7936, .int 7168, .int 7168, .int 4096, .int 4096], .lst [.int 391, .int 584, .int 1072, .int 1072, .int 1072, .int 2048, .int 2048, .int 2048, .int 4096, .int 4096, .int 4096, .int 4096, .int 4096], .lst [.int 8191, .int 7216, .int 7216, .int 7216, .int 7216, .int 4096, .int 4096, .int 4096, .int 4096, .int 4096, .int 4096, .int 4096, .int 4096]]
def turnE : List D := [.int 12, .int 11, .int 10, .int 9, .int 8, .int 7, .int 6, .int 5, .int 4, .int 3, .int 2, .int 1, .int 0]
/-- the built table of stretches -/
def tabT : List D := [.wtp kdE, .str "same", .int 6, .lst turnE, .lst bitsE]
/-- a list of texts into a set -/
theorem lcG_set {ρ0 : Rho} {i : Nat} (hi : i < ρ0.length) : ∀ (zs l : List Str), l.Nodup → l.length + zs.length ≤ 3999 → ∃ l', lcG (gN i) tYesD (kS (dVar i)) ρ0 (zs.map .str) l = some l' ∧ l'.Nodup ∧ ∀ x, x ∈ l' ↔ x ∈ l ∨ x ∈ zs
  | [], l, h, _ => ⟨l, rfl, h, fun x => ⟨.inl, fun q => q.elim id fun z => (nomatch z)⟩⟩
  | z :: r, l, h, hl => by
    rw [List.length_cons] at hl
    have hlen : (addS z l).length ≤ l.length + 1 := addS_len
    obtain ⟨l', h1, h2, h3⟩ := lcG_set hi r (addS z l) (addS_nodup h) (by omega)
    refine ⟨l', ?_, h2, fun x => ?_⟩
    · have hs : atS (ρ0.set i (.sh (.str z))) i = .sh (.str z) := by
        have key : ∀ (ρ : Rho) (i : Nat) (s : Sl), i < ρ.length → atS (ρ.set i s) i = s := by
          intro ρ
          induction ρ with
          | nil => intro i s h; cases h
          | cons a t ih =>
            intro i s h
            cases i with
            | zero => rfl
            | succ n => exact ih n s (Nat.lt_of_succ_lt_succ h)
        exact key ρ0 i _ hi
      have hk : kS (dVar i) (ρ0.set i (.sh (.str z))) l = some (addS z l) := by
        unfold kS dVar
        rw [hs]
        exact if_pos (by omega)
      rw [List.map_cons, lcG]
      dsimp only [gN, tYesD]
      rw [hk]
      exact h1
    · rw [h3, addS_mem, List.mem_cons]
      constructor
      · rintro ((h | h) | h)
        · exact .inr (.inl h)
        · exact .inl h
        · exact .inr (.inr h)
      · rintro (h | h | h)
        · exact .inl (.inr h)
        · exact .inl (.inl h)
        · exact .inr h
theorem dSortS_of {k : Rho → Option (List Str)} {ρ : Rho} {l : List Str} (h : k ρ = some l) : dSortS k ρ = some (.lst ((sortS l).map D.str)) := by
  unfold dSortS
  rw [h]
theorem kInS_of {di : DA} {vs : List Nat} {g : DG} {tt : DTt} {de : DE} {ρ : Rho} {xs : List D} (h : di ρ = some xs) : kInS di vs g tt de ρ = lcG g tt (kS de) (wipeR ρ vs) xs [] := by
  unfold kInS
  rw [h]
theorem kOne_of {de : DE} {ρ : Rho} {d : D} (h : de ρ = some d) : kOne de ρ = some [d] := by
  unfold kOne
  rw [h]
theorem row_nodup {i j : Nat} : ((row i j).map kn).Nodup := by
  have h : (row i j).Nodup := r13_nodup.filter _
  unfold List.Nodup
  rw [List.pairwise_map]
  refine List.Pairwise.imp_of_mem (fun {a b} ha hb hab e => hab ?_) h
  exact kn_inj _ (r13_mem.mp (List.mem_filter.mp ha).1) _ (r13_mem.mp (List.mem_filter.mp hb).1) e
abbrev lineDE : DE := dLc (kIn (iL listOf (dVar 1)) [5] (gN 5) tYesD (kOne (dLc (kIn (iL listOf (dVar 1)) [6] (gN 6) tYesD (kOne (dSortS (kInS (iL listOf (d2 fGet (dVar 3) (dCall mkTup (aCons (dVar 5) (aCons (dVar 6) aNil))))) [7] (gN 7) tYesD (dVar 7))))))))
theorem line_one {ks : List (List Str)} {dss : List (List D)} (G : GI kyT vlT trC ks dss) {backs : D} {i j : Nat} (hi : i < 13) (hj : j < 13) :
    dSortS (kInS (iL listOf (d2 fGet (dVar 3) (dCall mkTup (aCons (dVar 5) (aCons (dVar 6) aNil))))) [7] (gN 7) tYesD (dVar 7)) [.sh (.str "stretches"), .sh (.lst kdL), .sh backs, .sh (.dT ks (dss.map .lst)), .no, .sh (.str (kn i)), .sh (.str (kn j)), .no] = some (lineV i j) := by
  obtain ⟨l', h1, h2, h3⟩ := lcG_set (ρ0 := [.sh (.str "stretches"), .sh (.lst kdL), .sh backs, .sh (.dT ks (dss.map .lst)), .no, .sh (.str (kn i)), .sh (.str (kn j)), .no]) (i := 7) (by show 7 < 8; decide) (valS i j) [] List.nodup_nil (by have := valS_len i j; show 0 + _ ≤ _; omega)
  have e : d2 fGet (dVar 3) (dCall mkTup (aCons (dVar 5) (aCons (dVar 6) aNil))) [.sh (.str "stretches"), .sh (.lst kdL), .sh backs, .sh (.dT ks (dss.map .lst)), .no, .sh (.str (kn i)), .sh (.str (kn j)), .no] = some (.lst ((valS i j).map .str)) := got G hi hj
  refine (dSortS_of ((kInS_of (iL_of e)).trans h1)).trans ?_
  unfold lineV
  rw [sort_eq h2 row_nodup fun x => ?_]
  rw [h3, ← valS_mem hi hj]
  exact ⟨fun q => q.elim (fun z => (nomatch z)) id, .inr⟩
theorem lines_ok {ks : List (List Str)} {dss : List (List D)} (G : GI kyT vlT trC ks dss) {backs : D} :
    lineDE [.sh (.str "stretches"), .sh (.lst kdL), .sh backs, .sh (.dT ks (dss.map .lst)), .no, .no, .no, .no] = some (.lst linesO) := by
  refine dLc_of ((kIn_of (iL_of rfl)).trans (lcM_map (fun i => D.str (kn i)) (fun i => .lst (r13.map fun j => lineV i j)) r13 fun i hi => ⟨_, rfl, rfl, kOne_of ?_⟩)) (by show (List.map _ r13).length ≤ _; rw [List.length_map]; decide)
  refine dLc_of ((kIn_of (iL_of rfl)).trans (lcM_map (fun i => D.str (kn i)) (fun j => lineV i j) r13 fun j hj => ⟨_, rfl, rfl, kOne_of ?_⟩)) (by show (List.map _ r13).length ≤ _; rw [List.length_map]; decide)
  exact line_one G (r13_mem.mp hi) (r13_mem.mp hj)
theorem backs_ok {ks : List Str} {ds : List D} (B : BI kyB vlB trC ks ds) {steps lines : D} :
    dLc (kIn (iL listOf (dVar 1)) [5] (gN 5) tYesD (kOne (d2 fGet (dVar 2) (dVar 5)))) [.sh (.str "stretches"), .sh (.lst kdL), .sh (.dK ks ds), .sh steps, .sh lines, .no, .no, .no] = some (.lst bkD) := by
  refine dLc_of ((kIn_of (iL_of rfl)).trans (lcM_map (fun i => D.str (kn i)) (fun i => D.str (kn (bkc i))) r13 fun i hi => ⟨_, rfl, rfl, kOne_of ?_⟩)) (by show (List.map _ r13).length ≤ _; rw [List.length_map]; decide)
  exact back_got B (r13_mem.mp hi)
theorem names_is : dCall (one fList) (aCons (dKd k_KINDS (dVar 0)) aNil) [.sh (.str "stretches"), .no, .no, .no, .no, .no, .no, .no] = some (.lst kdL) := by kernel_rfl
theorem form_is : g_need_form [.lst kdE, .str "same", .lst bkE, .lst linesE] = some .non := by kernel_rfl
theorem parts_is : g_parts_of [.lst kdE, .str "same", .lst bkE, .lst linesE] = some (.tup [.int 6, .lst turnE, .lst bitsE]) := by kernel_rfl
end PD
end
section
set_option Elab.async false
set_option linter.all false
set_option maxRecDepth 1000000
/-! PS7: stretches: no law fails in the built table. -/
namespace PD
open PySem
theorem fault_is : g_first_fault [.int 6, .lst turnE, .lst bitsE] = some .non := by kernel_rfl
end PD
end
section
set_option Elab.async false
set_option linter.all false
set_option maxRecDepth 1000000
/-! PA_stretches: law's turn at stretches. -/
namespace PD
open PySem
theorem sAsg_of {g : DG} {a : DE} {ρ ρ' : Rho} {d : D} (h : a ρ = some d) (h2 : g d ρ = some ρ') : sAsg g a ρ = some (.nx ρ') := by
  unfold sAsg
  rw [h]
  dsimp only
  rw [h2]
theorem dMake_of {g : Addr → List D → Option (List D)} {h : List D → Option (List D)} {a : DA} {ρ : Rho} {ds d : List D} (h1 : a ρ = some ds) (h2 : h ds = some d) : dMakeG g h a ρ = some (.ins d) := by
  unfold dMakeG
  rw [h1]
  dsimp only
  rw [h2]
theorem sDrop_of {a : DE} {ρ : Rho} {d : D} (h : a ρ = some d) : sDrop a ρ = some (.nx ρ) := by
  unfold sDrop
  rw [h]
/-- built's body, what it calls left open -/
def builtG (nw : List D → Option D) (kk : Str → Option D) (sb ss : List D → Option D) (gi : Addr → List D → Option (List D)) (hh : List D → Option (List D)) : DS := (sSeq (sDrop (dCall nw (aCons (dVar 0) aNil))) (sSeq (sSet 1 (dCall (one fList) (aCons (dKd kk (dVar 0)) aNil))) (sSeq (sAsg (gT 2 (gConsD (gN 2) (gConsD (gN 3) gNilD))) (dCall mkTup (aCons (dCall sb (aCons (dVar 0) aNil)) (aCons (dCall ss (aCons (dVar 0) aNil)) aNil)))) (sSeq (sSet 4 (dLc (kIn (iL listOf (dVar 1)) [5] (gN 5) tYesD (kOne (dLc (kIn (iL listOf (dVar 1)) [6] (gN 6) tYesD (kOne (dSortS (kInS (iL listOf (d2 fGet (dVar 3) (dCall mkTup (aCons (dVar 5) (aCons (dVar 6) aNil))))) [7] (gN 7) tYesD (dVar 7)))))))))) (sRet (dMakeG gi hh (aCons (dVar 1) (aCons (dC (.str "same")) (aCons (dLc (kIn (iL listOf (dVar 1)) [5] (gN 5) tYesD (kOne (d2 fGet (dVar 2) (dVar 5))))) (aCons (dVar 4) aNil))))))))))
theorem built_is : n_built = builtG g_need_word k_KINDS g_seen_backs g_seen_steps (g_Table_init fsL) h_Table := rfl
abbrev backDE : DE := dLc (kIn (iL listOf (dVar 1)) [5] (gN 5) tYesD (kOne (d2 fGet (dVar 2) (dVar 5))))
theorem builtG_of {nw : List D → Option D} {kk : Str → Option D} {sb ss : List D → Option D} {gi : Addr → List D → Option (List D)} {hh : List D → Option (List D)} {w d0 N Bk S Ln BL : D} {d : List D} (h0 : nw [w] = some d0)
    (hn : dCall (one fList) (aCons (dKd kk (dVar 0)) aNil) [.sh w, .no, .no, .no, .no, .no, .no, .no] = some N) (h1 : ss [w] = some S) (h2 : sb [w] = some Bk) (hl : lineDE [.sh w, .sh N, .sh Bk, .sh S, .no, .no, .no, .no] = some Ln)
    (hb : backDE [.sh w, .sh N, .sh Bk, .sh S, .sh Ln, .no, .no, .no] = some BL) (ht : hh [N, .str "same", BL, Ln] = some d) : builtG nw kk sb ss gi hh [.sh w, .no, .no, .no, .no, .no, .no, .no] = some (.rt (.ins d)) := by
  unfold builtG
  refine (sSeq_nx (sDrop_of ((dCall_of (xs := [w]) rfl).trans h0))).trans ?_
  refine (sSeq_nx (sSet_of hn)).trans ?_
  have e3 : dCall mkTup (aCons (dCall sb (aCons (dVar 0) aNil)) (aCons (dCall ss (aCons (dVar 0) aNil)) aNil)) [.sh w, .sh N, .no, .no, .no, .no, .no, .no] = some (.tup [Bk, S]) :=
    (dCall_of (aCons_of ((dCall_of (xs := [w]) rfl).trans h2) (aCons_of ((dCall_of (xs := [w]) rfl).trans h1) rfl))).trans rfl
  refine (sSeq_nx (ρ' := [.sh w, .sh N, .sh Bk, .sh S, .no, .no, .no, .no]) (sAsg_of e3 rfl)).trans ?_
  refine (sSeq_nx (sSet_of hl)).trans ?_
  exact sRet_of (dMake_of (aCons_of rfl (aCons_of rfl (aCons_of hb (aCons_of rfl rfl)))) ht)
theorem h_Table_of {ns : List D} {b c d o t l : D} (h1 : g_need_form [.lst ns, b, c, d] = some .non) (h2 : g_parts_of [.lst ns, b, c, d] = some (.tup [o, t, l])) (h3 : g_first_fault [o, t, l] = some .non) : h_Table [.lst ns, b, c, d] = some [.wtp ns, b, o, t, l] := by
  unfold h_Table
  dsimp only
  rw [h1]
  dsimp only
  rw [h2]
  dsimp only
  rw [h3]
theorem need_is : g_need_word [.str "stretches"] = some .non := by kernel_rfl
theorem runG_of {n : Nat} {b c : DS} {ds : List D} {ρ : Rho} {d : D} (hbc : b = c) (hρ : startR n ds = ρ) (h : c ρ = some (.rt d)) : runD n b ds = some d := by
  subst hbc
  subst hρ
  exact runD_of h
theorem table_of {N BL Ln : D} (hN : N = .lst kdE) (hB : BL = .lst bkE) (hL : Ln = .lst linesE) : h_Table [N, .str "same", BL, Ln] = some tabT := by
  rw [hN, hB, hL]
  exact h_Table_of form_is parts_is fault_is
theorem built_st : g_built [.str "stretches"] = some (.ins tabT) := by
  obtain ⟨ks, dss, h1, G⟩ := seen_steps_ok
  obtain ⟨bks, bds, h2, B⟩ := seen_backs_ok
  exact runG_of built_is rfl (builtG_of need_is names_is h1 h2 (lines_ok G) (backs_ok B) (table_of (congrArg D.lst kd_is) (congrArg D.lst bkD_is) (congrArg D.lst lines_is)))
/-- the slots once both tables stand -/
def ρS (L B : D) (s6 s7 : Sl) : Rho := [.no, .sh (.fn 10), .no, .sh (.str "stretches"), .sh L, .sh B, s6, s7, .no]
/-- law's turn, what it calls left open -/
def lawG (gs gb : List D → Option D) : DS := (sSeq (sSet 4 (dCall gs (aCons (dVar 3) aNil))) (sSeq (sSet 5 (dCall gb (aCons (dVar 3) aNil))) (sSeq (sIf (tOrD (tNotD (t1 truD (dB (t1 fIsIns (dVar 5))))) (tNotD (t1 truD (dCall (g_law_same 5) (aCons (dCall mkLst (aCons (dMeth g_Table_kinds (dVar 5) aNil) (aCons (d1 (fFld 1) (dVar 5)) aNil))) (aCons (dCall mkLst (aCons (d2 fGet (dVar 4) (dC (.str "kinds"))) (aCons (dC (.str "same")) aNil))) aNil)))))) (sRet (dC (.bl false))) sNext) (sSeq (sIf (tNotD (t1 truD (dCall (g_law_same 5) (aCons (dLc (kIn (iL listOf (d2 fGet (dVar 4) (dC (.str "kinds")))) [6] (gN 6) tYesD (kOne (dMeth g_Table_back (dVar 5) (aCons (dVar 6) aNil))))) (aCons (dLc (kIn (iL listOf (d2 fGet (dVar 4) (dC (.str "kinds")))) [6] (gN 6) tYesD (kOne (d2 fGet (d2 fGet (dVar 4) (dC (.str "back"))) (dVar 6))))) aNil))))) (sRet (dC (.bl false))) sNext) (sSeq (sFor (iL listOf (d2 fGet (dVar 4) (dC (.str "kinds")))) (gN 6) (sFor (iL listOf (d2 fGet (dVar 4) (dC (.str "kinds")))) (gN 7) (sIf (tNotD (t1 truD (dCall (g_law_same 5) (aCons (dMeth g_Table_step (dVar 5) (aCons (dVar 6) (aCons (dVar 7) aNil))) (aCons (d2 fGet (d2 fGet (dVar 4) (dC (.str "step"))) (dCall mkTup (aCons (dVar 6) (aCons (dVar 7) aNil)))) aNil))))) (sRet (dC (.bl false))) sNext))) (sIf (t2 (fNeI g_Table_u__eq_u_) (dVar 5) (dCall gb (aCons (dVar 3) aNil))) (sRet (dC (.bl false))) sNext))))))
theorem law_is : n_lawbody = lawG g_law_seen g_built := rfl
def cC : DS := (sIf (tOrD (tNotD (t1 truD (dB (t1 fIsIns (dVar 5))))) (tNotD (t1 truD (dCall (g_law_same 5) (aCons (dCall mkLst (aCons (dMeth g_Table_kinds (dVar 5) aNil) (aCons (d1 (fFld 1) (dVar 5)) aNil))) (aCons (dCall mkLst (aCons (d2 fGet (dVar 4) (dC (.str "kinds"))) (aCons (dC (.str "same")) aNil))) aNil)))))) (sRet (dC (.bl false))) sNext)
def cD : DS := (sIf (tNotD (t1 truD (dCall (g_law_same 5) (aCons (dLc (kIn (iL listOf (d2 fGet (dVar 4) (dC (.str "kinds")))) [6] (gN 6) tYesD (kOne (dMeth g_Table_back (dVar 5) (aCons (dVar 6) aNil))))) (aCons (dLc (kIn (iL listOf (d2 fGet (dVar 4) (dC (.str "kinds")))) [6] (gN 6) tYesD (kOne (d2 fGet (d2 fGet (dVar 4) (dC (.str "back"))) (dVar 6))))) aNil))))) (sRet (dC (.bl false))) sNext)
def cE : DS := (sFor (iL listOf (d2 fGet (dVar 4) (dC (.str "kinds")))) (gN 6) (sFor (iL listOf (d2 fGet (dVar 4) (dC (.str "kinds")))) (gN 7) (sIf (tNotD (t1 truD (dCall (g_law_same 5) (aCons (dMeth g_Table_step (dVar 5) (aCons (dVar 6) (aCons (dVar 7) aNil))) (aCons (d2 fGet (d2 fGet (dVar 4) (dC (.str "step"))) (dCall mkTup (aCons (dVar 6) (aCons (dVar 7) aNil)))) aNil))))) (sRet (dC (.bl false))) sNext)))
theorem lawG_of {gs gb : List D → Option D} {L B : D} {a b : Sl} (hs : gs [.str "stretches"] = some L) (hb : gb [.str "stretches"] = some B) (hc : cC (ρS L B .no .no) = some (.nx (ρS L B .no .no))) (hd : cD (ρS L B .no .no) = some (.nx (ρS L B .no .no)))
    (he : cE (ρS L B .no .no) = some (.nx (ρS L B a b))) (hl : t2 (fNeI g_Table_u__eq_u_) (dVar 5) (dC B) (ρS L B a b) = some false) : lawG gs gb (ρL.set 3 (.sh (.str "stretches"))) = some (.nx (ρS L B a b)) := by
  unfold lawG
  refine (sSeq_nx (sSet_of ((dCall_of (xs := [.str "stretches"]) rfl).trans hs))).trans ?_
  refine (sSeq_nx (sSet_of ((dCall_of (xs := [.str "stretches"]) rfl).trans hb))).trans ?_
  refine (sSeq_nx hc).trans ((sSeq_nx hd).trans ((sSeq_nx he).trans ?_))
  have e0 : dCall gb (aCons (dVar 3) aNil) (ρS L B a b) = some B := (dCall_of (xs := [.str "stretches"]) rfl).trans hb
  have e : t2 (fNeI g_Table_u__eq_u_) (dVar 5) (dCall gb (aCons (dVar 3) aNil)) (ρS L B a b) = some false := by
    rw [← hl]
    unfold t2
    rw [e0]
    rfl
  unfold sIf
  rw [e]
  rfl
theorem st_c : cC (ρS lawT (.ins tabT) .no .no) = some (.nx (ρS lawT (.ins tabT) .no .no)) := by kernel_rfl
theorem st_d : cD (ρS lawT (.ins tabT) .no .no) = some (.nx (ρS lawT (.ins tabT) .no .no)) := by kernel_rfl
theorem st_e : cE (ρS lawT (.ins tabT) .no .no) = some (.nx (ρS lawT (.ins tabT) (.sh (.str "after")) (.sh (.str "after")))) := by kernel_rfl
theorem st_l : t2 (fNeI g_Table_u__eq_u_) (dVar 5) (dC (.ins tabT)) (ρS lawT (.ins tabT) (.sh (.str "after")) (.sh (.str "after"))) = some false := by kernel_rfl
theorem okOut_of {o : Option Out} {ρ : Rho} (h : o = some (.nx ρ)) (h2 : okOut (some (.nx ρ)) = true) : okOut o = true := by
  rw [h]
  exact h2
theorem okS {L B : D} {a b : Sl} : okOut (some (.nx (ρS L B a b))) = true := rfl
theorem b_stretches : okOut (n_lawbody (ρL.set 3 (.sh (.str "stretches")))) = true := by
  rw [law_is]
  exact okOut_of (lawG_of law_seen_st built_st st_c st_d st_e st_l) okS
end PD
end
section
set_option Elab.async false
set_option linter.all false
set_option maxRecDepth 100000
/-! The module facts from what the top has written (printed by genmf.py). -/
namespace PD
open PySem PySem.Spec PyProof.Rows L2
theorem reps_strK {T : Tab} {F : Hp} : ∀ (xs : List Str), Reps T F (xs.map D.str) (xs.map V.str)
  | [] => .nil
  | _ :: r => .cons (.str _) (reps_strK r)
theorem rep_wtpK {T : Tab} {F : Hp} {xs : List Str} {a : Addr} {its : Array Value} {n : Nat} {sl : Array (Option Value)} (l : T.K.lookup a = some ⟨.type "tuple", none, .seq its n, sl⟩) (v : Vals (xs.map V.str) its.toList) (s : its.size ≤ sizeLine) : Rep T F (.wtp (xs.map D.str)) (.ref a) :=
  .wtp ⟨.inr ⟨_, its, n, l, rfl, rfl, s, v⟩, .inr ⟨_, l, rfl, rfl⟩⟩ (reps_strK xs)
theorem kgv {T : Tab} {a : Addr} {k : Str} {d : D} {g : Str → Option D} (h : ∃ u v, PySem.W.nsIn T.K a k = some (some u) ∧ RelV v u ∧ ∀ F, Rep T F d v) (r : ∀ z x, g z = some x → ∃ u v, PySem.W.nsIn T.K a z = some (some u) ∧ RelV v u ∧ ∀ F, Rep T F x v) :
    ∀ z x, (match seqS z k with | true => some d | false => g z) = some x → ∃ u v, PySem.W.nsIn T.K a z = some (some u) ∧ RelV v u ∧ ∀ F, Rep T F x v := fun z x e => by
  cases q : seqS z k with
  | true =>
    rw [q] at e
    have e1 : some d = some x := e
    cases e1
    have e2 := seqS_iff.mp q
    subst e2
    exact h
  | false =>
    rw [q] at e
    exact r z x e
theorem kit_self {K : PySem.W.Frag} {C : Addr} : PySem.W.kitOne K (.ref C) (.ref C) = some true := if_pos (by simp)
theorem no5 {K : PySem.W.Frag} {C : Addr} {a b c d e : Str} (h1 : NoAttr K C a) (h2 : NoAttr K C b) (h3 : NoAttr K C c) (h4 : NoAttr K C d) (h5 : NoAttr K C e) : ∀ f ∈ [a, b, c, d, e], NoAttr K C f := fun f hf => by
  simp only [List.mem_cons, List.not_mem_nil, or_false] at hf
  rcases hf with rfl | rfl | rfl | rfl | rfl
  · exact h1
  · exact h2
  · exact h3
  · exact h4
  · exact h5
def faOf (f_of_moments f_of_stretches f_of_courses f_of_branches f_of_parts f_moment_triples f_stretch_triples f_course_triples f_branch_triples f_part_triples : Addr) (fx : Option Addr) : Nat → Option Addr := fun i => match i with | 0 => some f_of_moments | 1 => some f_of_stretches | 2 => some f_of_courses | 3 => some f_of_branches | 4 => some f_of_parts | 5 => some f_moment_triples | 6 => some f_stretch_triples | 7 => some f_course_triples | 8 => some f_branch_triples | 9 => some f_part_triples | 10 => fx | _ => none
set_option maxHeartbeats 4000000 in
theorem mf_mk {P : Program} {w : World} {K : PySem.W.Frag} {h base : Heap} {mg : Str → Option Value} {fx : Option Addr} {tSTRETCH_KINDS : Addr} {itsSTRETCH_KINDS : Array Value} {nSTRETCH_KINDS : Nat} {slSTRETCH_KINDS : Array (Option Value)} {tCOURSE_KINDS : Addr} {itsCOURSE_KINDS : Array Value} {nCOURSE_KINDS : Nat} {slCOURSE_KINDS : Array (Option Value)} {tkMOST_KINDS : Tok} {tkMOST_LETTERS : Tok} {tkLETTERS : Tok} {tWORDS : Addr} {itsWORDS : Array Value} {nWORDS : Nat} {slWORDS : Array (Option Value)} {tkMOST_ENDS : Tok} {dKIND_OF : Addr} {esKIND_OF : Array DictEntry} {nKIND_OF : Nat} {dKINDS : Addr} {esKINDS : Array DictEntry} {nKINDS : Nat} {tKINDS_moments : Addr} {itsKINDS_moments : Array Value} {nKINDS_moments : Nat} {slKINDS_moments : Array (Option Value)} {tKINDS_branches : Addr} {itsKINDS_branches : Array Value} {nKINDS_branches : Nat} {slKINDS_branches : Array (Option Value)} {tKINDS_parts : Addr} {itsKINDS_parts : Array Value} {nKINDS_parts : Nat} {slKINDS_parts : Array (Option Value)} {dTRIPLES : Addr} {esTRIPLES : Array DictEntry} {nTRIPLES : Nat} {f_sign : Addr} {od_sign an_sign : Option Addr} {sl_sign : Array (Option Value)} {oc_sign kV_sign dc_sign pm_sign cd_sign ct_sign : Value} {f_of_moments : Addr} {od_of_moments an_of_moments : Option Addr} {sl_of_moments : Array (Option Value)} {oc_of_moments kV_of_moments dc_of_moments pm_of_moments cd_of_moments ct_of_moments : Value} {f_beginning : Addr} {od_beginning an_beginning : Option Addr} {sl_beginning : Array (Option Value)} {oc_beginning kV_beginning dc_beginning pm_beginning cd_beginning ct_beginning : Value} {f_earlier : Addr} {od_earlier an_earlier : Option Addr} {sl_earlier : Array (Option Value)} {oc_earlier kV_earlier dc_earlier pm_earlier cd_earlier ct_earlier : Value} {f_of_stretches : Addr} {od_of_stretches an_of_stretches : Option Addr} {sl_of_stretches : Array (Option Value)} {oc_of_stretches kV_of_stretches dc_of_stretches pm_of_stretches cd_of_stretches ct_of_stretches : Value} {f_of_courses : Addr} {od_of_courses an_of_courses : Option Addr} {sl_of_courses : Array (Option Value)} {oc_of_courses kV_of_courses dc_of_courses pm_of_courses cd_of_courses ct_of_courses : Value} {f_of_branches : Addr} {od_of_branches an_of_branches : Option Addr} {sl_of_branches : Array (Option Value)} {oc_of_branches kV_of_branches dc_of_branches pm_of_branches cd_of_branches ct_of_branches : Value} {f_of_parts : Addr} {od_of_parts an_of_parts : Option Addr} {sl_of_parts : Array (Option Value)} {oc_of_parts kV_of_parts dc_of_parts pm_of_parts cd_of_parts ct_of_parts : Value} {f_places_in : Addr} {od_places_in an_places_in : Option Addr} {sl_places_in : Array (Option Value)} {oc_places_in kV_places_in dc_places_in pm_places_in cd_places_in ct_places_in : Value} {f_bits_of : Addr} {od_bits_of an_bits_of : Option Addr} {sl_bits_of : Array (Option Value)} {oc_bits_of kV_bits_of dc_bits_of pm_bits_of cd_bits_of ct_bits_of : Value} {f_moved : Addr} {od_moved an_moved : Option Addr} {sl_moved : Array (Option Value)} {oc_moved kV_moved dc_moved pm_moved cd_moved ct_moved : Value} {f_joined_steps : Addr} {od_joined_steps an_joined_steps : Option Addr} {sl_joined_steps : Array (Option Value)} {oc_joined_steps kV_joined_steps dc_joined_steps pm_joined_steps cd_joined_steps ct_joined_steps : Value} {f_back_fault : Addr} {od_back_fault an_back_fault : Option Addr} {sl_back_fault : Array (Option Value)} {oc_back_fault kV_back_fault dc_back_fault pm_back_fault cd_back_fault ct_back_fault : Value} {f_same_fault : Addr} {od_same_fault an_same_fault : Option Addr} {sl_same_fault : Array (Option Value)} {oc_same_fault kV_same_fault dc_same_fault pm_same_fault cd_same_fault ct_same_fault : Value} {f_turn_fault : Addr} {od_turn_fault an_turn_fault : Option Addr} {sl_turn_fault : Array (Option Value)} {oc_turn_fault kV_turn_fault dc_turn_fault pm_turn_fault cd_turn_fault ct_turn_fault : Value} {f_row_fault : Addr} {od_row_fault an_row_fault : Option Addr} {sl_row_fault : Array (Option Value)} {oc_row_fault kV_row_fault dc_row_fault pm_row_fault cd_row_fault ct_row_fault : Value} {f_first_fault : Addr} {od_first_fault an_first_fault : Option Addr} {sl_first_fault : Array (Option Value)} {oc_first_fault kV_first_fault dc_first_fault pm_first_fault cd_first_fault ct_first_fault : Value} {f_bits_shown : Addr} {od_bits_shown an_bits_shown : Option Addr} {sl_bits_shown : Array (Option Value)} {oc_bits_shown kV_bits_shown dc_bits_shown pm_bits_shown cd_bits_shown ct_bits_shown : Value} {f_is_name : Addr} {od_is_name an_is_name : Option Addr} {sl_is_name : Array (Option Value)} {oc_is_name kV_is_name dc_is_name pm_is_name cd_is_name ct_is_name : Value} {f_are_names : Addr} {od_are_names an_are_names : Option Addr} {sl_are_names : Array (Option Value)} {oc_are_names kV_are_names dc_are_names pm_are_names cd_are_names ct_are_names : Value} {f_within : Addr} {od_within an_within : Option Addr} {sl_within : Array (Option Value)} {oc_within kV_within dc_within pm_within cd_within ct_within : Value} {f_square : Addr} {od_square an_square : Option Addr} {sl_square : Array (Option Value)} {oc_square kV_square dc_square pm_square cd_square ct_square : Value} {f_need_form : Addr} {od_need_form an_need_form : Option Addr} {sl_need_form : Array (Option Value)} {oc_need_form kV_need_form dc_need_form pm_need_form cd_need_form ct_need_form : Value} {f_bits_in : Addr} {od_bits_in an_bits_in : Option Addr} {sl_bits_in : Array (Option Value)} {oc_bits_in kV_bits_in dc_bits_in pm_bits_in cd_bits_in ct_bits_in : Value} {f_parts_of : Addr} {od_parts_of an_parts_of : Option Addr} {sl_parts_of : Array (Option Value)} {oc_parts_of kV_parts_of dc_parts_of pm_parts_of cd_parts_of ct_parts_of : Value} {f_stretch_triples : Addr} {od_stretch_triples an_stretch_triples : Option Addr} {sl_stretch_triples : Array (Option Value)} {oc_stretch_triples kV_stretch_triples dc_stretch_triples pm_stretch_triples cd_stretch_triples ct_stretch_triples : Value} {f_moment_triples : Addr} {od_moment_triples an_moment_triples : Option Addr} {sl_moment_triples : Array (Option Value)} {oc_moment_triples kV_moment_triples dc_moment_triples pm_moment_triples cd_moment_triples ct_moment_triples : Value} {f_course_triples : Addr} {od_course_triples an_course_triples : Option Addr} {sl_course_triples : Array (Option Value)} {oc_course_triples kV_course_triples dc_course_triples pm_course_triples cd_course_triples ct_course_triples : Value} {f_part_triples : Addr} {od_part_triples an_part_triples : Option Addr} {sl_part_triples : Array (Option Value)} {oc_part_triples kV_part_triples dc_part_triples pm_part_triples cd_part_triples ct_part_triples : Value} {f_branch_triples : Addr} {od_branch_triples an_branch_triples : Option Addr} {sl_branch_triples : Array (Option Value)} {oc_branch_triples kV_branch_triples dc_branch_triples pm_branch_triples cd_branch_triples ct_branch_triples : Value} {f_need_word : Addr} {od_need_word an_need_word : Option Addr} {sl_need_word : Array (Option Value)} {oc_need_word kV_need_word dc_need_word pm_need_word cd_need_word ct_need_word : Value} {f_seen_steps : Addr} {od_seen_steps an_seen_steps : Option Addr} {sl_seen_steps : Array (Option Value)} {oc_seen_steps kV_seen_steps dc_seen_steps pm_seen_steps cd_seen_steps ct_seen_steps : Value} {f_seen_backs : Addr} {od_seen_backs an_seen_backs : Option Addr} {sl_seen_backs : Array (Option Value)} {oc_seen_backs kV_seen_backs dc_seen_backs pm_seen_backs cd_seen_backs ct_seen_backs : Value} {f_built : Addr} {od_built an_built : Option Addr} {sl_built : Array (Option Value)} {oc_built kV_built dc_built pm_built cd_built ct_built : Value} {f_law_kinds_of : Addr} {od_law_kinds_of an_law_kinds_of : Option Addr} {sl_law_kinds_of : Array (Option Value)} {oc_law_kinds_of kV_law_kinds_of dc_law_kinds_of pm_law_kinds_of cd_law_kinds_of ct_law_kinds_of : Value} {f_law_in_order : Addr} {od_law_in_order an_law_in_order : Option Addr} {sl_law_in_order : Array (Option Value)} {oc_law_in_order kV_law_in_order dc_law_in_order pm_law_in_order cd_law_in_order ct_law_in_order : Value} {f_law_table : Addr} {od_law_table an_law_table : Option Addr} {sl_law_table : Array (Option Value)} {oc_law_table kV_law_table dc_law_table pm_law_table cd_law_table ct_law_table : Value} {f_law_things_of : Addr} {od_law_things_of an_law_things_of : Option Addr} {sl_law_things_of : Array (Option Value)} {oc_law_things_of kV_law_things_of dc_law_things_of pm_law_things_of cd_law_things_of ct_law_things_of : Value} {f_law_triples : Addr} {od_law_triples an_law_triples : Option Addr} {sl_law_triples : Array (Option Value)} {oc_law_triples kV_law_triples dc_law_triples pm_law_triples cd_law_triples ct_law_triples : Value} {f_law_sign : Addr} {od_law_sign an_law_sign : Option Addr} {sl_law_sign : Array (Option Value)} {oc_law_sign kV_law_sign dc_law_sign pm_law_sign cd_law_sign ct_law_sign : Value} {f_law_kind_of_parts : Addr} {od_law_kind_of_parts an_law_kind_of_parts : Option Addr} {sl_law_kind_of_parts : Array (Option Value)} {oc_law_kind_of_parts kV_law_kind_of_parts dc_law_kind_of_parts pm_law_kind_of_parts cd_law_kind_of_parts ct_law_kind_of_parts : Value} {f_law_kind_of_stretches : Addr} {od_law_kind_of_stretches an_law_kind_of_stretches : Option Addr} {sl_law_kind_of_stretches : Array (Option Value)} {oc_law_kind_of_stretches kV_law_kind_of_stretches dc_law_kind_of_stretches pm_law_kind_of_stretches cd_law_kind_of_stretches ct_law_kind_of_stretches : Value} {f_law_kind_of : Addr} {od_law_kind_of an_law_kind_of : Option Addr} {sl_law_kind_of : Array (Option Value)} {oc_law_kind_of kV_law_kind_of dc_law_kind_of pm_law_kind_of cd_law_kind_of ct_law_kind_of : Value} {f_law_seen_courses : Addr} {od_law_seen_courses an_law_seen_courses : Option Addr} {sl_law_seen_courses : Array (Option Value)} {oc_law_seen_courses kV_law_seen_courses dc_law_seen_courses pm_law_seen_courses cd_law_seen_courses ct_law_seen_courses : Value} {f_law_seen : Addr} {od_law_seen an_law_seen : Option Addr} {sl_law_seen : Array (Option Value)} {oc_law_seen kV_law_seen dc_law_seen pm_law_seen cd_law_seen ct_law_seen : Value} {f_law_same : Addr} {od_law_same an_law_same : Option Addr} {sl_law_same : Array (Option Value)} {oc_law_same kV_law_same dc_law_same pm_law_same cd_law_same ct_law_same : Value} {C : Addr} {f_Table_u__eq_u_ : Addr} {od_Table_u__eq_u_ an_Table_u__eq_u_ : Option Addr} {sl_Table_u__eq_u_ : Array (Option Value)} {oc_Table_u__eq_u_ kV_Table_u__eq_u_ dc_Table_u__eq_u_ pm_Table_u__eq_u_ cd_Table_u__eq_u_ ct_Table_u__eq_u_ : Value} {f_Table_place : Addr} {od_Table_place an_Table_place : Option Addr} {sl_Table_place : Array (Option Value)} {oc_Table_place kV_Table_place dc_Table_place pm_Table_place cd_Table_place ct_Table_place : Value} {f_Table_shown : Addr} {od_Table_shown an_Table_shown : Option Addr} {sl_Table_shown : Array (Option Value)} {oc_Table_shown kV_Table_shown dc_Table_shown pm_Table_shown cd_Table_shown ct_Table_shown : Value} {f_Table_kinds : Addr} {od_Table_kinds an_Table_kinds : Option Addr} {sl_Table_kinds : Array (Option Value)} {oc_Table_kinds kV_Table_kinds dc_Table_kinds pm_Table_kinds cd_Table_kinds ct_Table_kinds : Value} {f_Table_back : Addr} {od_Table_back an_Table_back : Option Addr} {sl_Table_back : Array (Option Value)} {oc_Table_back kV_Table_back dc_Table_back pm_Table_back cd_Table_back ct_Table_back : Value} {f_Table_step : Addr} {od_Table_step an_Table_step : Option Addr} {sl_Table_step : Array (Option Value)} {oc_Table_step kV_Table_step dc_Table_step pm_Table_step cd_Table_step ct_Table_step : Value} {f_init : Addr} {od_init an_init : Option Addr} {sl_init : Array (Option Value)} {oc_init kV_init dc_init pm_init cd_init ct_init : Value} (X : K.In h) (G : h.Ns mainGlobals mg)
    (z_len : PySem.W.nsIn K mainGlobals "len" = some none)
    (z_range : PySem.W.nsIn K mainGlobals "range" = some none)
    (z_list : PySem.W.nsIn K mainGlobals "list" = some none)
    (z_tuple : PySem.W.nsIn K mainGlobals "tuple" = some none)
    (z_isinstance : PySem.W.nsIn K mainGlobals "isinstance" = some none)
    (z_all : PySem.W.nsIn K mainGlobals "all" = some none)
    (z_str : PySem.W.nsIn K mainGlobals "str" = some none)
    (z_int : PySem.W.nsIn K mainGlobals "int" = some none)
    (z_bool : PySem.W.nsIn K mainGlobals "bool" = some none)
    (z_sorted : PySem.W.nsIn K mainGlobals "sorted" = some none)
    (z_set : PySem.W.nsIn K mainGlobals "set" = some none)
    (z_dict : PySem.W.nsIn K mainGlobals "dict" = some none)
    (z_zip : PySem.W.nsIn K mainGlobals "zip" = some none)
    (z_abs : PySem.W.nsIn K mainGlobals "abs" = some none)
    (a_STRETCH_KINDS : PySem.W.nsIn K mainGlobals "STRETCH_KINDS" = some (some (.ref tSTRETCH_KINDS)))
    (l_STRETCH_KINDS : K.lookup tSTRETCH_KINDS = some ⟨.type "tuple", none, .seq itsSTRETCH_KINDS nSTRETCH_KINDS, slSTRETCH_KINDS⟩)
    (v_STRETCH_KINDS : Vals [V.str "before", V.str "meets", V.str "overlaps", V.str "begins", V.str "within", V.str "ends", V.str "same", V.str "ended", V.str "around", V.str "begun", V.str "overlaid", V.str "met", V.str "after"] itsSTRETCH_KINDS.toList)
    (s_STRETCH_KINDS : itsSTRETCH_KINDS.size ≤ sizeLine)
    (a_COURSE_KINDS : PySem.W.nsIn K mainGlobals "COURSE_KINDS" = some (some (.ref tCOURSE_KINDS)))
    (l_COURSE_KINDS : K.lookup tCOURSE_KINDS = some ⟨.type "tuple", none, .seq itsCOURSE_KINDS nCOURSE_KINDS, slCOURSE_KINDS⟩)
    (v_COURSE_KINDS : Vals [V.str "nw", V.str "n", V.str "ne", V.str "w", V.str "same", V.str "e", V.str "sw", V.str "s", V.str "se"] itsCOURSE_KINDS.toList)
    (s_COURSE_KINDS : itsCOURSE_KINDS.size ≤ sizeLine)
    (a_MOST_KINDS : PySem.W.nsIn K mainGlobals "MOST_KINDS" = some (some (.int 13 tkMOST_KINDS)))
    (a_MOST_LETTERS : PySem.W.nsIn K mainGlobals "MOST_LETTERS" = some (some (.int 8 tkMOST_LETTERS)))
    (a_LETTERS : PySem.W.nsIn K mainGlobals "LETTERS" = some (some (.str "abcdefghijklmnopqrstuvwxyz" tkLETTERS)))
    (a_WORDS : PySem.W.nsIn K mainGlobals "WORDS" = some (some (.ref tWORDS)))
    (l_WORDS : K.lookup tWORDS = some ⟨.type "tuple", none, .seq itsWORDS nWORDS, slWORDS⟩)
    (v_WORDS : Vals [V.str "moments", V.str "stretches", V.str "courses", V.str "branches", V.str "parts"] itsWORDS.toList)
    (s_WORDS : itsWORDS.size ≤ sizeLine)
    (a_MOST_ENDS : PySem.W.nsIn K mainGlobals "MOST_ENDS" = some (some (.int 6 tkMOST_ENDS)))
    (a_KIND_OF : PySem.W.nsIn K mainGlobals "KIND_OF" = some (some (.ref dKIND_OF)))
    (l_KIND_OF : K.lookup dKIND_OF = some ⟨.type "dict", none, .dict esKIND_OF nKIND_OF, #[]⟩)
    (y_KIND_OF : PySem.W.KeysLit w.params esKIND_OF.toList)
    (w_KIND_OF : (dKIND_OF == sysModules) = false)
    (e_KIND_OF_moments : PySem.W.nsIn K dKIND_OF "moments" = some (some (.ref f_of_moments)))
    (e_KIND_OF_stretches : PySem.W.nsIn K dKIND_OF "stretches" = some (some (.ref f_of_stretches)))
    (e_KIND_OF_courses : PySem.W.nsIn K dKIND_OF "courses" = some (some (.ref f_of_courses)))
    (e_KIND_OF_branches : PySem.W.nsIn K dKIND_OF "branches" = some (some (.ref f_of_branches)))
    (e_KIND_OF_parts : PySem.W.nsIn K dKIND_OF "parts" = some (some (.ref f_of_parts)))
    (a_KINDS : PySem.W.nsIn K mainGlobals "KINDS" = some (some (.ref dKINDS)))
    (l_KINDS : K.lookup dKINDS = some ⟨.type "dict", none, .dict esKINDS nKINDS, #[]⟩)
    (y_KINDS : PySem.W.KeysLit w.params esKINDS.toList)
    (w_KINDS : (dKINDS == sysModules) = false)
    (e_KINDS_moments : PySem.W.nsIn K dKINDS "moments" = some (some (.ref tKINDS_moments)))
    (l_KINDS_moments : K.lookup tKINDS_moments = some ⟨.type "tuple", none, .seq itsKINDS_moments nKINDS_moments, slKINDS_moments⟩)
    (v_KINDS_moments : Vals [V.str "ahead", V.str "same", V.str "behind"] itsKINDS_moments.toList)
    (s_KINDS_moments : itsKINDS_moments.size ≤ sizeLine)
    (e_KINDS_stretches : PySem.W.nsIn K dKINDS "stretches" = some (some (.ref tSTRETCH_KINDS)))
    (e_KINDS_courses : PySem.W.nsIn K dKINDS "courses" = some (some (.ref tCOURSE_KINDS)))
    (e_KINDS_branches : PySem.W.nsIn K dKINDS "branches" = some (some (.ref tKINDS_branches)))
    (l_KINDS_branches : K.lookup tKINDS_branches = some ⟨.type "tuple", none, .seq itsKINDS_branches nKINDS_branches, slKINDS_branches⟩)
    (v_KINDS_branches : Vals [V.str "up", V.str "same", V.str "down", V.str "apart"] itsKINDS_branches.toList)
    (s_KINDS_branches : itsKINDS_branches.size ≤ sizeLine)
    (e_KINDS_parts : PySem.W.nsIn K dKINDS "parts" = some (some (.ref tKINDS_parts)))
    (l_KINDS_parts : K.lookup tKINDS_parts = some ⟨.type "tuple", none, .seq itsKINDS_parts nKINDS_parts, slKINDS_parts⟩)
    (v_KINDS_parts : Vals [V.str "within", V.str "around", V.str "same", V.str "across", V.str "apart"] itsKINDS_parts.toList)
    (s_KINDS_parts : itsKINDS_parts.size ≤ sizeLine)
    (a_TRIPLES : PySem.W.nsIn K mainGlobals "TRIPLES" = some (some (.ref dTRIPLES)))
    (l_TRIPLES : K.lookup dTRIPLES = some ⟨.type "dict", none, .dict esTRIPLES nTRIPLES, #[]⟩)
    (y_TRIPLES : PySem.W.KeysLit w.params esTRIPLES.toList)
    (w_TRIPLES : (dTRIPLES == sysModules) = false)
    (e_TRIPLES_moments : PySem.W.nsIn K dTRIPLES "moments" = some (some (.ref f_moment_triples)))
    (e_TRIPLES_stretches : PySem.W.nsIn K dTRIPLES "stretches" = some (some (.ref f_stretch_triples)))
    (e_TRIPLES_courses : PySem.W.nsIn K dTRIPLES "courses" = some (some (.ref f_course_triples)))
    (e_TRIPLES_branches : PySem.W.nsIn K dTRIPLES "branches" = some (some (.ref f_branch_triples)))
    (e_TRIPLES_parts : PySem.W.nsIn K dTRIPLES "parts" = some (some (.ref f_part_triples)))
    (a_sign : PySem.W.nsIn K mainGlobals "sign" = some (some (.ref f_sign)))
    (l_sign : K.lookup f_sign = some ⟨oc_sign, od_sign, .func (PySem.W.fnOf "sign" "sign" (defArgs (topS 11)) (defBody (topS 11)) (defScope (topS 11)) .none kV_sign dc_sign pm_sign an_sign cd_sign ct_sign), sl_sign⟩)
    (c_sign : PySem.W.codeIn K cd_sign "sign" = true)
    (k_sign : PySem.W.keepIn K (.ref f_sign) = true)
    (a_of_moments : PySem.W.nsIn K mainGlobals "of_moments" = some (some (.ref f_of_moments)))
    (l_of_moments : K.lookup f_of_moments = some ⟨oc_of_moments, od_of_moments, .func (PySem.W.fnOf "of_moments" "of_moments" (defArgs (topS 12)) (defBody (topS 12)) (defScope (topS 12)) .none kV_of_moments dc_of_moments pm_of_moments an_of_moments cd_of_moments ct_of_moments), sl_of_moments⟩)
    (c_of_moments : PySem.W.codeIn K cd_of_moments "of_moments" = true)
    (k_of_moments : PySem.W.keepIn K (.ref f_of_moments) = true)
    (a_beginning : PySem.W.nsIn K mainGlobals "beginning" = some (some (.ref f_beginning)))
    (l_beginning : K.lookup f_beginning = some ⟨oc_beginning, od_beginning, .func (PySem.W.fnOf "beginning" "beginning" (defArgs (topS 13)) (defBody (topS 13)) (defScope (topS 13)) .none kV_beginning dc_beginning pm_beginning an_beginning cd_beginning ct_beginning), sl_beginning⟩)
    (c_beginning : PySem.W.codeIn K cd_beginning "beginning" = true)
    (k_beginning : PySem.W.keepIn K (.ref f_beginning) = true)
    (a_earlier : PySem.W.nsIn K mainGlobals "earlier" = some (some (.ref f_earlier)))
    (l_earlier : K.lookup f_earlier = some ⟨oc_earlier, od_earlier, .func (PySem.W.fnOf "earlier" "earlier" (defArgs (topS 14)) (defBody (topS 14)) (defScope (topS 14)) .none kV_earlier dc_earlier pm_earlier an_earlier cd_earlier ct_earlier), sl_earlier⟩)
    (c_earlier : PySem.W.codeIn K cd_earlier "earlier" = true)
    (k_earlier : PySem.W.keepIn K (.ref f_earlier) = true)
    (a_of_stretches : PySem.W.nsIn K mainGlobals "of_stretches" = some (some (.ref f_of_stretches)))
    (l_of_stretches : K.lookup f_of_stretches = some ⟨oc_of_stretches, od_of_stretches, .func (PySem.W.fnOf "of_stretches" "of_stretches" (defArgs (topS 15)) (defBody (topS 15)) (defScope (topS 15)) .none kV_of_stretches dc_of_stretches pm_of_stretches an_of_stretches cd_of_stretches ct_of_stretches), sl_of_stretches⟩)
    (c_of_stretches : PySem.W.codeIn K cd_of_stretches "of_stretches" = true)
    (k_of_stretches : PySem.W.keepIn K (.ref f_of_stretches) = true)
    (a_of_courses : PySem.W.nsIn K mainGlobals "of_courses" = some (some (.ref f_of_courses)))
    (l_of_courses : K.lookup f_of_courses = some ⟨oc_of_courses, od_of_courses, .func (PySem.W.fnOf "of_courses" "of_courses" (defArgs (topS 16)) (defBody (topS 16)) (defScope (topS 16)) .none kV_of_courses dc_of_courses pm_of_courses an_of_courses cd_of_courses ct_of_courses), sl_of_courses⟩)
    (c_of_courses : PySem.W.codeIn K cd_of_courses "of_courses" = true)
    (k_of_courses : PySem.W.keepIn K (.ref f_of_courses) = true)
    (a_of_branches : PySem.W.nsIn K mainGlobals "of_branches" = some (some (.ref f_of_branches)))
    (l_of_branches : K.lookup f_of_branches = some ⟨oc_of_branches, od_of_branches, .func (PySem.W.fnOf "of_branches" "of_branches" (defArgs (topS 17)) (defBody (topS 17)) (defScope (topS 17)) .none kV_of_branches dc_of_branches pm_of_branches an_of_branches cd_of_branches ct_of_branches), sl_of_branches⟩)
    (c_of_branches : PySem.W.codeIn K cd_of_branches "of_branches" = true)
    (k_of_branches : PySem.W.keepIn K (.ref f_of_branches) = true)
    (a_of_parts : PySem.W.nsIn K mainGlobals "of_parts" = some (some (.ref f_of_parts)))
    (l_of_parts : K.lookup f_of_parts = some ⟨oc_of_parts, od_of_parts, .func (PySem.W.fnOf "of_parts" "of_parts" (defArgs (topS 18)) (defBody (topS 18)) (defScope (topS 18)) .none kV_of_parts dc_of_parts pm_of_parts an_of_parts cd_of_parts ct_of_parts), sl_of_parts⟩)
    (c_of_parts : PySem.W.codeIn K cd_of_parts "of_parts" = true)
    (k_of_parts : PySem.W.keepIn K (.ref f_of_parts) = true)
    (a_places_in : PySem.W.nsIn K mainGlobals "places_in" = some (some (.ref f_places_in)))
    (l_places_in : K.lookup f_places_in = some ⟨oc_places_in, od_places_in, .func (PySem.W.fnOf "places_in" "places_in" (defArgs (topS 21)) (defBody (topS 21)) (defScope (topS 21)) .none kV_places_in dc_places_in pm_places_in an_places_in cd_places_in ct_places_in), sl_places_in⟩)
    (c_places_in : PySem.W.codeIn K cd_places_in "places_in" = true)
    (k_places_in : PySem.W.keepIn K (.ref f_places_in) = true)
    (a_bits_of : PySem.W.nsIn K mainGlobals "bits_of" = some (some (.ref f_bits_of)))
    (l_bits_of : K.lookup f_bits_of = some ⟨oc_bits_of, od_bits_of, .func (PySem.W.fnOf "bits_of" "bits_of" (defArgs (topS 22)) (defBody (topS 22)) (defScope (topS 22)) .none kV_bits_of dc_bits_of pm_bits_of an_bits_of cd_bits_of ct_bits_of), sl_bits_of⟩)
    (c_bits_of : PySem.W.codeIn K cd_bits_of "bits_of" = true)
    (k_bits_of : PySem.W.keepIn K (.ref f_bits_of) = true)
    (a_moved : PySem.W.nsIn K mainGlobals "moved" = some (some (.ref f_moved)))
    (l_moved : K.lookup f_moved = some ⟨oc_moved, od_moved, .func (PySem.W.fnOf "moved" "moved" (defArgs (topS 23)) (defBody (topS 23)) (defScope (topS 23)) .none kV_moved dc_moved pm_moved an_moved cd_moved ct_moved), sl_moved⟩)
    (c_moved : PySem.W.codeIn K cd_moved "moved" = true)
    (k_moved : PySem.W.keepIn K (.ref f_moved) = true)
    (a_joined_steps : PySem.W.nsIn K mainGlobals "joined_steps" = some (some (.ref f_joined_steps)))
    (l_joined_steps : K.lookup f_joined_steps = some ⟨oc_joined_steps, od_joined_steps, .func (PySem.W.fnOf "joined_steps" "joined_steps" (defArgs (topS 24)) (defBody (topS 24)) (defScope (topS 24)) .none kV_joined_steps dc_joined_steps pm_joined_steps an_joined_steps cd_joined_steps ct_joined_steps), sl_joined_steps⟩)
    (c_joined_steps : PySem.W.codeIn K cd_joined_steps "joined_steps" = true)
    (k_joined_steps : PySem.W.keepIn K (.ref f_joined_steps) = true)
    (a_back_fault : PySem.W.nsIn K mainGlobals "back_fault" = some (some (.ref f_back_fault)))
    (l_back_fault : K.lookup f_back_fault = some ⟨oc_back_fault, od_back_fault, .func (PySem.W.fnOf "back_fault" "back_fault" (defArgs (topS 26)) (defBody (topS 26)) (defScope (topS 26)) .none kV_back_fault dc_back_fault pm_back_fault an_back_fault cd_back_fault ct_back_fault), sl_back_fault⟩)
    (c_back_fault : PySem.W.codeIn K cd_back_fault "back_fault" = true)
    (k_back_fault : PySem.W.keepIn K (.ref f_back_fault) = true)
    (a_same_fault : PySem.W.nsIn K mainGlobals "same_fault" = some (some (.ref f_same_fault)))
    (l_same_fault : K.lookup f_same_fault = some ⟨oc_same_fault, od_same_fault, .func (PySem.W.fnOf "same_fault" "same_fault" (defArgs (topS 27)) (defBody (topS 27)) (defScope (topS 27)) .none kV_same_fault dc_same_fault pm_same_fault an_same_fault cd_same_fault ct_same_fault), sl_same_fault⟩)
    (c_same_fault : PySem.W.codeIn K cd_same_fault "same_fault" = true)
    (k_same_fault : PySem.W.keepIn K (.ref f_same_fault) = true)
    (a_turn_fault : PySem.W.nsIn K mainGlobals "turn_fault" = some (some (.ref f_turn_fault)))
    (l_turn_fault : K.lookup f_turn_fault = some ⟨oc_turn_fault, od_turn_fault, .func (PySem.W.fnOf "turn_fault" "turn_fault" (defArgs (topS 28)) (defBody (topS 28)) (defScope (topS 28)) .none kV_turn_fault dc_turn_fault pm_turn_fault an_turn_fault cd_turn_fault ct_turn_fault), sl_turn_fault⟩)
    (c_turn_fault : PySem.W.codeIn K cd_turn_fault "turn_fault" = true)
    (k_turn_fault : PySem.W.keepIn K (.ref f_turn_fault) = true)
    (a_row_fault : PySem.W.nsIn K mainGlobals "row_fault" = some (some (.ref f_row_fault)))
    (l_row_fault : K.lookup f_row_fault = some ⟨oc_row_fault, od_row_fault, .func (PySem.W.fnOf "row_fault" "row_fault" (defArgs (topS 29)) (defBody (topS 29)) (defScope (topS 29)) .none kV_row_fault dc_row_fault pm_row_fault an_row_fault cd_row_fault ct_row_fault), sl_row_fault⟩)
    (c_row_fault : PySem.W.codeIn K cd_row_fault "row_fault" = true)
    (k_row_fault : PySem.W.keepIn K (.ref f_row_fault) = true)
    (a_first_fault : PySem.W.nsIn K mainGlobals "first_fault" = some (some (.ref f_first_fault)))
    (l_first_fault : K.lookup f_first_fault = some ⟨oc_first_fault, od_first_fault, .func (PySem.W.fnOf "first_fault" "first_fault" (defArgs (topS 30)) (defBody (topS 30)) (defScope (topS 30)) .none kV_first_fault dc_first_fault pm_first_fault an_first_fault cd_first_fault ct_first_fault), sl_first_fault⟩)
    (c_first_fault : PySem.W.codeIn K cd_first_fault "first_fault" = true)
    (k_first_fault : PySem.W.keepIn K (.ref f_first_fault) = true)
    (a_bits_shown : PySem.W.nsIn K mainGlobals "bits_shown" = some (some (.ref f_bits_shown)))
    (l_bits_shown : K.lookup f_bits_shown = some ⟨oc_bits_shown, od_bits_shown, .func (PySem.W.fnOf "bits_shown" "bits_shown" (defArgs (topS 32)) (defBody (topS 32)) (defScope (topS 32)) .none kV_bits_shown dc_bits_shown pm_bits_shown an_bits_shown cd_bits_shown ct_bits_shown), sl_bits_shown⟩)
    (c_bits_shown : PySem.W.codeIn K cd_bits_shown "bits_shown" = true)
    (k_bits_shown : PySem.W.keepIn K (.ref f_bits_shown) = true)
    (a_is_name : PySem.W.nsIn K mainGlobals "is_name" = some (some (.ref f_is_name)))
    (l_is_name : K.lookup f_is_name = some ⟨oc_is_name, od_is_name, .func (PySem.W.fnOf "is_name" "is_name" (defArgs (topS 37)) (defBody (topS 37)) (defScope (topS 37)) .none kV_is_name dc_is_name pm_is_name an_is_name cd_is_name ct_is_name), sl_is_name⟩)
    (c_is_name : PySem.W.codeIn K cd_is_name "is_name" = true)
    (k_is_name : PySem.W.keepIn K (.ref f_is_name) = true)
    (a_are_names : PySem.W.nsIn K mainGlobals "are_names" = some (some (.ref f_are_names)))
    (l_are_names : K.lookup f_are_names = some ⟨oc_are_names, od_are_names, .func (PySem.W.fnOf "are_names" "are_names" (defArgs (topS 38)) (defBody (topS 38)) (defScope (topS 38)) .none kV_are_names dc_are_names pm_are_names an_are_names cd_are_names ct_are_names), sl_are_names⟩)
    (c_are_names : PySem.W.codeIn K cd_are_names "are_names" = true)
    (k_are_names : PySem.W.keepIn K (.ref f_are_names) = true)
    (a_within : PySem.W.nsIn K mainGlobals "within" = some (some (.ref f_within)))
    (l_within : K.lookup f_within = some ⟨oc_within, od_within, .func (PySem.W.fnOf "within" "within" (defArgs (topS 39)) (defBody (topS 39)) (defScope (topS 39)) .none kV_within dc_within pm_within an_within cd_within ct_within), sl_within⟩)
    (c_within : PySem.W.codeIn K cd_within "within" = true)
    (k_within : PySem.W.keepIn K (.ref f_within) = true)
    (a_square : PySem.W.nsIn K mainGlobals "square" = some (some (.ref f_square)))
    (l_square : K.lookup f_square = some ⟨oc_square, od_square, .func (PySem.W.fnOf "square" "square" (defArgs (topS 40)) (defBody (topS 40)) (defScope (topS 40)) .none kV_square dc_square pm_square an_square cd_square ct_square), sl_square⟩)
    (c_square : PySem.W.codeIn K cd_square "square" = true)
    (k_square : PySem.W.keepIn K (.ref f_square) = true)
    (a_need_form : PySem.W.nsIn K mainGlobals "need_form" = some (some (.ref f_need_form)))
    (l_need_form : K.lookup f_need_form = some ⟨oc_need_form, od_need_form, .func (PySem.W.fnOf "need_form" "need_form" (defArgs (topS 41)) (defBody (topS 41)) (defScope (topS 41)) .none kV_need_form dc_need_form pm_need_form an_need_form cd_need_form ct_need_form), sl_need_form⟩)
    (c_need_form : PySem.W.codeIn K cd_need_form "need_form" = true)
    (k_need_form : PySem.W.keepIn K (.ref f_need_form) = true)
    (a_bits_in : PySem.W.nsIn K mainGlobals "bits_in" = some (some (.ref f_bits_in)))
    (l_bits_in : K.lookup f_bits_in = some ⟨oc_bits_in, od_bits_in, .func (PySem.W.fnOf "bits_in" "bits_in" (defArgs (topS 42)) (defBody (topS 42)) (defScope (topS 42)) .none kV_bits_in dc_bits_in pm_bits_in an_bits_in cd_bits_in ct_bits_in), sl_bits_in⟩)
    (c_bits_in : PySem.W.codeIn K cd_bits_in "bits_in" = true)
    (k_bits_in : PySem.W.keepIn K (.ref f_bits_in) = true)
    (a_parts_of : PySem.W.nsIn K mainGlobals "parts_of" = some (some (.ref f_parts_of)))
    (l_parts_of : K.lookup f_parts_of = some ⟨oc_parts_of, od_parts_of, .func (PySem.W.fnOf "parts_of" "parts_of" (defArgs (topS 43)) (defBody (topS 43)) (defScope (topS 43)) .none kV_parts_of dc_parts_of pm_parts_of an_parts_of cd_parts_of ct_parts_of), sl_parts_of⟩)
    (c_parts_of : PySem.W.codeIn K cd_parts_of "parts_of" = true)
    (k_parts_of : PySem.W.keepIn K (.ref f_parts_of) = true)
    (a_stretch_triples : PySem.W.nsIn K mainGlobals "stretch_triples" = some (some (.ref f_stretch_triples)))
    (l_stretch_triples : K.lookup f_stretch_triples = some ⟨oc_stretch_triples, od_stretch_triples, .func (PySem.W.fnOf "stretch_triples" "stretch_triples" (defArgs (topS 49)) (defBody (topS 49)) (defScope (topS 49)) .none kV_stretch_triples dc_stretch_triples pm_stretch_triples an_stretch_triples cd_stretch_triples ct_stretch_triples), sl_stretch_triples⟩)
    (c_stretch_triples : PySem.W.codeIn K cd_stretch_triples "stretch_triples" = true)
    (k_stretch_triples : PySem.W.keepIn K (.ref f_stretch_triples) = true)
    (a_moment_triples : PySem.W.nsIn K mainGlobals "moment_triples" = some (some (.ref f_moment_triples)))
    (l_moment_triples : K.lookup f_moment_triples = some ⟨oc_moment_triples, od_moment_triples, .func (PySem.W.fnOf "moment_triples" "moment_triples" (defArgs (topS 50)) (defBody (topS 50)) (defScope (topS 50)) .none kV_moment_triples dc_moment_triples pm_moment_triples an_moment_triples cd_moment_triples ct_moment_triples), sl_moment_triples⟩)
    (c_moment_triples : PySem.W.codeIn K cd_moment_triples "moment_triples" = true)
    (k_moment_triples : PySem.W.keepIn K (.ref f_moment_triples) = true)
    (a_course_triples : PySem.W.nsIn K mainGlobals "course_triples" = some (some (.ref f_course_triples)))
    (l_course_triples : K.lookup f_course_triples = some ⟨oc_course_triples, od_course_triples, .func (PySem.W.fnOf "course_triples" "course_triples" (defArgs (topS 51)) (defBody (topS 51)) (defScope (topS 51)) .none kV_course_triples dc_course_triples pm_course_triples an_course_triples cd_course_triples ct_course_triples), sl_course_triples⟩)
    (c_course_triples : PySem.W.codeIn K cd_course_triples "course_triples" = true)
    (k_course_triples : PySem.W.keepIn K (.ref f_course_triples) = true)
    (a_part_triples : PySem.W.nsIn K mainGlobals "part_triples" = some (some (.ref f_part_triples)))
    (l_part_triples : K.lookup f_part_triples = some ⟨oc_part_triples, od_part_triples, .func (PySem.W.fnOf "part_triples" "part_triples" (defArgs (topS 52)) (defBody (topS 52)) (defScope (topS 52)) .none kV_part_triples dc_part_triples pm_part_triples an_part_triples cd_part_triples ct_part_triples), sl_part_triples⟩)
    (c_part_triples : PySem.W.codeIn K cd_part_triples "part_triples" = true)
    (k_part_triples : PySem.W.keepIn K (.ref f_part_triples) = true)
    (a_branch_triples : PySem.W.nsIn K mainGlobals "branch_triples" = some (some (.ref f_branch_triples)))
    (l_branch_triples : K.lookup f_branch_triples = some ⟨oc_branch_triples, od_branch_triples, .func (PySem.W.fnOf "branch_triples" "branch_triples" (defArgs (topS 53)) (defBody (topS 53)) (defScope (topS 53)) .none kV_branch_triples dc_branch_triples pm_branch_triples an_branch_triples cd_branch_triples ct_branch_triples), sl_branch_triples⟩)
    (c_branch_triples : PySem.W.codeIn K cd_branch_triples "branch_triples" = true)
    (k_branch_triples : PySem.W.keepIn K (.ref f_branch_triples) = true)
    (a_need_word : PySem.W.nsIn K mainGlobals "need_word" = some (some (.ref f_need_word)))
    (l_need_word : K.lookup f_need_word = some ⟨oc_need_word, od_need_word, .func (PySem.W.fnOf "need_word" "need_word" (defArgs (topS 55)) (defBody (topS 55)) (defScope (topS 55)) .none kV_need_word dc_need_word pm_need_word an_need_word cd_need_word ct_need_word), sl_need_word⟩)
    (c_need_word : PySem.W.codeIn K cd_need_word "need_word" = true)
    (k_need_word : PySem.W.keepIn K (.ref f_need_word) = true)
    (a_seen_steps : PySem.W.nsIn K mainGlobals "seen_steps" = some (some (.ref f_seen_steps)))
    (l_seen_steps : K.lookup f_seen_steps = some ⟨oc_seen_steps, od_seen_steps, .func (PySem.W.fnOf "seen_steps" "seen_steps" (defArgs (topS 56)) (defBody (topS 56)) (defScope (topS 56)) .none kV_seen_steps dc_seen_steps pm_seen_steps an_seen_steps cd_seen_steps ct_seen_steps), sl_seen_steps⟩)
    (c_seen_steps : PySem.W.codeIn K cd_seen_steps "seen_steps" = true)
    (k_seen_steps : PySem.W.keepIn K (.ref f_seen_steps) = true)
    (a_seen_backs : PySem.W.nsIn K mainGlobals "seen_backs" = some (some (.ref f_seen_backs)))
    (l_seen_backs : K.lookup f_seen_backs = some ⟨oc_seen_backs, od_seen_backs, .func (PySem.W.fnOf "seen_backs" "seen_backs" (defArgs (topS 57)) (defBody (topS 57)) (defScope (topS 57)) .none kV_seen_backs dc_seen_backs pm_seen_backs an_seen_backs cd_seen_backs ct_seen_backs), sl_seen_backs⟩)
    (c_seen_backs : PySem.W.codeIn K cd_seen_backs "seen_backs" = true)
    (k_seen_backs : PySem.W.keepIn K (.ref f_seen_backs) = true)
    (a_built : PySem.W.nsIn K mainGlobals "built" = some (some (.ref f_built)))
    (l_built : K.lookup f_built = some ⟨oc_built, od_built, .func (PySem.W.fnOf "built" "built" (defArgs (topS 58)) (defBody (topS 58)) (defScope (topS 58)) .none kV_built dc_built pm_built an_built cd_built ct_built), sl_built⟩)
    (c_built : PySem.W.codeIn K cd_built "built" = true)
    (k_built : PySem.W.keepIn K (.ref f_built) = true)
    (a_law_kinds_of : PySem.W.nsIn K mainGlobals "_law_kinds_of" = some (some (.ref f_law_kinds_of)))
    (l_law_kinds_of : K.lookup f_law_kinds_of = some ⟨oc_law_kinds_of, od_law_kinds_of, .func (PySem.W.fnOf "_law_kinds_of" "_law_kinds_of" (defArgs (topS 63)) (defBody (topS 63)) (defScope (topS 63)) .none kV_law_kinds_of dc_law_kinds_of pm_law_kinds_of an_law_kinds_of cd_law_kinds_of ct_law_kinds_of), sl_law_kinds_of⟩)
    (c_law_kinds_of : PySem.W.codeIn K cd_law_kinds_of "_law_kinds_of" = true)
    (k_law_kinds_of : PySem.W.keepIn K (.ref f_law_kinds_of) = true)
    (a_law_in_order : PySem.W.nsIn K mainGlobals "_law_in_order" = some (some (.ref f_law_in_order)))
    (l_law_in_order : K.lookup f_law_in_order = some ⟨oc_law_in_order, od_law_in_order, .func (PySem.W.fnOf "_law_in_order" "_law_in_order" (defArgs (topS 64)) (defBody (topS 64)) (defScope (topS 64)) .none kV_law_in_order dc_law_in_order pm_law_in_order an_law_in_order cd_law_in_order ct_law_in_order), sl_law_in_order⟩)
    (c_law_in_order : PySem.W.codeIn K cd_law_in_order "_law_in_order" = true)
    (k_law_in_order : PySem.W.keepIn K (.ref f_law_in_order) = true)
    (a_law_table : PySem.W.nsIn K mainGlobals "_law_table" = some (some (.ref f_law_table)))
    (l_law_table : K.lookup f_law_table = some ⟨oc_law_table, od_law_table, .func (PySem.W.fnOf "_law_table" "_law_table" (defArgs (topS 65)) (defBody (topS 65)) (defScope (topS 65)) .none kV_law_table dc_law_table pm_law_table an_law_table cd_law_table ct_law_table), sl_law_table⟩)
    (c_law_table : PySem.W.codeIn K cd_law_table "_law_table" = true)
    (k_law_table : PySem.W.keepIn K (.ref f_law_table) = true)
    (a_law_things_of : PySem.W.nsIn K mainGlobals "_law_things_of" = some (some (.ref f_law_things_of)))
    (l_law_things_of : K.lookup f_law_things_of = some ⟨oc_law_things_of, od_law_things_of, .func (PySem.W.fnOf "_law_things_of" "_law_things_of" (defArgs (topS 67)) (defBody (topS 67)) (defScope (topS 67)) .none kV_law_things_of dc_law_things_of pm_law_things_of an_law_things_of cd_law_things_of ct_law_things_of), sl_law_things_of⟩)
    (c_law_things_of : PySem.W.codeIn K cd_law_things_of "_law_things_of" = true)
    (k_law_things_of : PySem.W.keepIn K (.ref f_law_things_of) = true)
    (a_law_triples : PySem.W.nsIn K mainGlobals "_law_triples" = some (some (.ref f_law_triples)))
    (l_law_triples : K.lookup f_law_triples = some ⟨oc_law_triples, od_law_triples, .func (PySem.W.fnOf "_law_triples" "_law_triples" (defArgs (topS 68)) (defBody (topS 68)) (defScope (topS 68)) .none kV_law_triples dc_law_triples pm_law_triples an_law_triples cd_law_triples ct_law_triples), sl_law_triples⟩)
    (c_law_triples : PySem.W.codeIn K cd_law_triples "_law_triples" = true)
    (k_law_triples : PySem.W.keepIn K (.ref f_law_triples) = true)
    (a_law_sign : PySem.W.nsIn K mainGlobals "_law_sign" = some (some (.ref f_law_sign)))
    (l_law_sign : K.lookup f_law_sign = some ⟨oc_law_sign, od_law_sign, .func (PySem.W.fnOf "_law_sign" "_law_sign" (defArgs (topS 69)) (defBody (topS 69)) (defScope (topS 69)) .none kV_law_sign dc_law_sign pm_law_sign an_law_sign cd_law_sign ct_law_sign), sl_law_sign⟩)
    (c_law_sign : PySem.W.codeIn K cd_law_sign "_law_sign" = true)
    (k_law_sign : PySem.W.keepIn K (.ref f_law_sign) = true)
    (a_law_kind_of_parts : PySem.W.nsIn K mainGlobals "_law_kind_of_parts" = some (some (.ref f_law_kind_of_parts)))
    (l_law_kind_of_parts : K.lookup f_law_kind_of_parts = some ⟨oc_law_kind_of_parts, od_law_kind_of_parts, .func (PySem.W.fnOf "_law_kind_of_parts" "_law_kind_of_parts" (defArgs (topS 70)) (defBody (topS 70)) (defScope (topS 70)) .none kV_law_kind_of_parts dc_law_kind_of_parts pm_law_kind_of_parts an_law_kind_of_parts cd_law_kind_of_parts ct_law_kind_of_parts), sl_law_kind_of_parts⟩)
    (c_law_kind_of_parts : PySem.W.codeIn K cd_law_kind_of_parts "_law_kind_of_parts" = true)
    (k_law_kind_of_parts : PySem.W.keepIn K (.ref f_law_kind_of_parts) = true)
    (a_law_kind_of_stretches : PySem.W.nsIn K mainGlobals "_law_kind_of_stretches" = some (some (.ref f_law_kind_of_stretches)))
    (l_law_kind_of_stretches : K.lookup f_law_kind_of_stretches = some ⟨oc_law_kind_of_stretches, od_law_kind_of_stretches, .func (PySem.W.fnOf "_law_kind_of_stretches" "_law_kind_of_stretches" (defArgs (topS 71)) (defBody (topS 71)) (defScope (topS 71)) .none kV_law_kind_of_stretches dc_law_kind_of_stretches pm_law_kind_of_stretches an_law_kind_of_stretches cd_law_kind_of_stretches ct_law_kind_of_stretches), sl_law_kind_of_stretches⟩)
    (c_law_kind_of_stretches : PySem.W.codeIn K cd_law_kind_of_stretches "_law_kind_of_stretches" = true)
    (k_law_kind_of_stretches : PySem.W.keepIn K (.ref f_law_kind_of_stretches) = true)
    (a_law_kind_of : PySem.W.nsIn K mainGlobals "_law_kind_of" = some (some (.ref f_law_kind_of)))
    (l_law_kind_of : K.lookup f_law_kind_of = some ⟨oc_law_kind_of, od_law_kind_of, .func (PySem.W.fnOf "_law_kind_of" "_law_kind_of" (defArgs (topS 72)) (defBody (topS 72)) (defScope (topS 72)) .none kV_law_kind_of dc_law_kind_of pm_law_kind_of an_law_kind_of cd_law_kind_of ct_law_kind_of), sl_law_kind_of⟩)
    (c_law_kind_of : PySem.W.codeIn K cd_law_kind_of "_law_kind_of" = true)
    (k_law_kind_of : PySem.W.keepIn K (.ref f_law_kind_of) = true)
    (a_law_seen_courses : PySem.W.nsIn K mainGlobals "_law_seen_courses" = some (some (.ref f_law_seen_courses)))
    (l_law_seen_courses : K.lookup f_law_seen_courses = some ⟨oc_law_seen_courses, od_law_seen_courses, .func (PySem.W.fnOf "_law_seen_courses" "_law_seen_courses" (defArgs (topS 66)) (defBody (topS 66)) (defScope (topS 66)) .none kV_law_seen_courses dc_law_seen_courses pm_law_seen_courses an_law_seen_courses cd_law_seen_courses ct_law_seen_courses), sl_law_seen_courses⟩)
    (c_law_seen_courses : PySem.W.codeIn K cd_law_seen_courses "_law_seen_courses" = true)
    (k_law_seen_courses : PySem.W.keepIn K (.ref f_law_seen_courses) = true)
    (a_law_seen : PySem.W.nsIn K mainGlobals "_law_seen" = some (some (.ref f_law_seen)))
    (l_law_seen : K.lookup f_law_seen = some ⟨oc_law_seen, od_law_seen, .func (PySem.W.fnOf "_law_seen" "_law_seen" (defArgs (topS 73)) (defBody (topS 73)) (defScope (topS 73)) .none kV_law_seen dc_law_seen pm_law_seen an_law_seen cd_law_seen ct_law_seen), sl_law_seen⟩)
    (c_law_seen : PySem.W.codeIn K cd_law_seen "_law_seen" = true)
    (k_law_seen : PySem.W.keepIn K (.ref f_law_seen) = true)
    (a_law_same : PySem.W.nsIn K mainGlobals "_law_same" = some (some (.ref f_law_same)))
    (l_law_same : K.lookup f_law_same = some ⟨oc_law_same, od_law_same, .func (PySem.W.fnOf "_law_same" "_law_same" (defArgs (topS 61)) (defBody (topS 61)) (defScope (topS 61)) .none kV_law_same dc_law_same pm_law_same an_law_same cd_law_same ct_law_same), sl_law_same⟩)
    (c_law_same : PySem.W.codeIn K cd_law_same "_law_same" = true)
    (k_law_same : PySem.W.keepIn K (.ref f_law_same) = true)
    (aC : PySem.W.nsIn K mainGlobals "Table" = some (some (.ref C)))
    (a_Table_u__eq_u_ : PySem.W.findIn K (.ref C) "__eq__" = some (some (.ref f_Table_u__eq_u_)))
    (i_Table_u__eq_u_ : PySem.W.isFn K (.ref f_Table_u__eq_u_) = true)
    (l_Table_u__eq_u_ : K.lookup f_Table_u__eq_u_ = some ⟨oc_Table_u__eq_u_, od_Table_u__eq_u_, .func (PySem.W.fnOf "__eq__" "Table.__eq__" (defArgs (inClass (topS 44) 2)) (defBody (inClass (topS 44) 2)) (defScope (inClass (topS 44) 2)) .none kV_Table_u__eq_u_ dc_Table_u__eq_u_ pm_Table_u__eq_u_ an_Table_u__eq_u_ cd_Table_u__eq_u_ ct_Table_u__eq_u_), sl_Table_u__eq_u_⟩)
    (c_Table_u__eq_u_ : PySem.W.codeIn K cd_Table_u__eq_u_ "Table.__eq__" = true)
    (k_Table_u__eq_u_ : PySem.W.keepIn K (.ref f_Table_u__eq_u_) = true)
    (a_Table_place : PySem.W.findIn K (.ref C) "place" = some (some (.ref f_Table_place)))
    (i_Table_place : PySem.W.isFn K (.ref f_Table_place) = true)
    (l_Table_place : K.lookup f_Table_place = some ⟨oc_Table_place, od_Table_place, .func (PySem.W.fnOf "place" "Table.place" (defArgs (inClass (topS 44) 5)) (defBody (inClass (topS 44) 5)) (defScope (inClass (topS 44) 5)) .none kV_Table_place dc_Table_place pm_Table_place an_Table_place cd_Table_place ct_Table_place), sl_Table_place⟩)
    (c_Table_place : PySem.W.codeIn K cd_Table_place "Table.place" = true)
    (k_Table_place : PySem.W.keepIn K (.ref f_Table_place) = true)
    (a_Table_shown : PySem.W.findIn K (.ref C) "shown" = some (some (.ref f_Table_shown)))
    (i_Table_shown : PySem.W.isFn K (.ref f_Table_shown) = true)
    (l_Table_shown : K.lookup f_Table_shown = some ⟨oc_Table_shown, od_Table_shown, .func (PySem.W.fnOf "shown" "Table.shown" (defArgs (inClass (topS 44) 7)) (defBody (inClass (topS 44) 7)) (defScope (inClass (topS 44) 7)) .none kV_Table_shown dc_Table_shown pm_Table_shown an_Table_shown cd_Table_shown ct_Table_shown), sl_Table_shown⟩)
    (c_Table_shown : PySem.W.codeIn K cd_Table_shown "Table.shown" = true)
    (k_Table_shown : PySem.W.keepIn K (.ref f_Table_shown) = true)
    (a_Table_kinds : PySem.W.findIn K (.ref C) "kinds" = some (some (.ref f_Table_kinds)))
    (i_Table_kinds : PySem.W.isFn K (.ref f_Table_kinds) = true)
    (l_Table_kinds : K.lookup f_Table_kinds = some ⟨oc_Table_kinds, od_Table_kinds, .func (PySem.W.fnOf "kinds" "Table.kinds" (defArgs (inClass (topS 44) 11)) (defBody (inClass (topS 44) 11)) (defScope (inClass (topS 44) 11)) .none kV_Table_kinds dc_Table_kinds pm_Table_kinds an_Table_kinds cd_Table_kinds ct_Table_kinds), sl_Table_kinds⟩)
    (c_Table_kinds : PySem.W.codeIn K cd_Table_kinds "Table.kinds" = true)
    (k_Table_kinds : PySem.W.keepIn K (.ref f_Table_kinds) = true)
    (a_Table_back : PySem.W.findIn K (.ref C) "back" = some (some (.ref f_Table_back)))
    (i_Table_back : PySem.W.isFn K (.ref f_Table_back) = true)
    (l_Table_back : K.lookup f_Table_back = some ⟨oc_Table_back, od_Table_back, .func (PySem.W.fnOf "back" "Table.back" (defArgs (inClass (topS 44) 12)) (defBody (inClass (topS 44) 12)) (defScope (inClass (topS 44) 12)) .none kV_Table_back dc_Table_back pm_Table_back an_Table_back cd_Table_back ct_Table_back), sl_Table_back⟩)
    (c_Table_back : PySem.W.codeIn K cd_Table_back "Table.back" = true)
    (k_Table_back : PySem.W.keepIn K (.ref f_Table_back) = true)
    (a_Table_step : PySem.W.findIn K (.ref C) "step" = some (some (.ref f_Table_step)))
    (i_Table_step : PySem.W.isFn K (.ref f_Table_step) = true)
    (l_Table_step : K.lookup f_Table_step = some ⟨oc_Table_step, od_Table_step, .func (PySem.W.fnOf "step" "Table.step" (defArgs (inClass (topS 44) 13)) (defBody (inClass (topS 44) 13)) (defScope (inClass (topS 44) 13)) .none kV_Table_step dc_Table_step pm_Table_step an_Table_step cd_Table_step ct_Table_step), sl_Table_step⟩)
    (c_Table_step : PySem.W.codeIn K cd_Table_step "Table.step" = true)
    (k_Table_step : PySem.W.keepIn K (.ref f_Table_step) = true)
    (a_init : PySem.W.findIn K (.ref C) "__init__" = some (some (.ref f_init)))
    (i_init : PySem.W.isFn K (.ref f_init) = true)
    (l_init : K.lookup f_init = some ⟨oc_init, od_init, .func (PySem.W.fnOf "__init__" "Table.__init__" (defArgs (inClass (topS 44) 0)) (defBody (inClass (topS 44) 0)) (defScope (inClass (topS 44) 0)) .none kV_init dc_init pm_init an_init cd_init ct_init), sl_init⟩)
    (c_init : PySem.W.codeIn K cd_init "Table.__init__" = true)
    (k_init : PySem.W.keepIn K (.ref f_init) = true)
    (mk : PySem.W.makesIn K C = true)
    (kC : PySem.W.keepIn K (.ref C) = true)
    (pg : PySem.W.plainGet K C Str.empty = true)
    (hd : PySem.W.hasDictIn K C = true)
    (po : PySem.W.plainOver K C = true)
    (sa : PySem.W.findIn K (.ref C) "__setattr__" = some (some (.builtin "object.__setattr__")))
    (no_names : PySem.W.findIn K (.ref C) "names" = some none)
    (no_same : PySem.W.findIn K (.ref C) "same" = some none)
    (no_own : PySem.W.findIn K (.ref C) "own" = some none)
    (no_turned : PySem.W.findIn K (.ref C) "turned" = some none)
    (no_lines : PySem.W.findIn K (.ref C) "lines" = some none)
    (hcl : PySem.W.findIn K (.ref C) "__class__" = some (some (.builtin "object.__class__")))
    (hgt : PySem.W.specialIn K (.builtin "object.__class__") "__get__" = some (some (.builtin "getset_descriptor.__get__")))
    (htk : PySem.W.takesIn K (.builtin "object.__class__") = some true)
    (hmr : PySem.W.mroIn K C (.type "object") = some true)
    : MF ⟨K, faOf f_of_moments f_of_stretches f_of_courses f_of_branches f_of_parts f_moment_triples f_stretch_triples f_course_triples f_branch_triples f_part_triples fx, C, fsL⟩ P w mg base where
  b_len := PySem.W.mg_none_of X G z_len
  b_range := PySem.W.mg_none_of X G z_range
  b_list := PySem.W.mg_none_of X G z_list
  b_tuple := PySem.W.mg_none_of X G z_tuple
  b_isinstance := PySem.W.mg_none_of X G z_isinstance
  b_all := PySem.W.mg_none_of X G z_all
  b_str := PySem.W.mg_none_of X G z_str
  b_int := PySem.W.mg_none_of X G z_int
  b_bool := PySem.W.mg_none_of X G z_bool
  b_sorted := PySem.W.mg_none_of X G z_sorted
  b_set := PySem.W.mg_none_of X G z_set
  b_dict := PySem.W.mg_none_of X G z_dict
  b_zip := PySem.W.mg_none_of X G z_zip
  b_abs := PySem.W.mg_none_of X G z_abs
  u_STRETCH_KINDS := ⟨.ref tSTRETCH_KINDS, .ref tSTRETCH_KINDS, PySem.W.mg_of X G a_STRETCH_KINDS, rfl, fun F => rep_wtpK (xs := ["before", "meets", "overlaps", "begins", "within", "ends", "same", "ended", "around", "begun", "overlaid", "met", "after"]) l_STRETCH_KINDS v_STRETCH_KINDS s_STRETCH_KINDS⟩
  u_COURSE_KINDS := ⟨.ref tCOURSE_KINDS, .ref tCOURSE_KINDS, PySem.W.mg_of X G a_COURSE_KINDS, rfl, fun F => rep_wtpK (xs := ["nw", "n", "ne", "w", "same", "e", "sw", "s", "se"]) l_COURSE_KINDS v_COURSE_KINDS s_COURSE_KINDS⟩
  k_KIND_OF := ⟨dKIND_OF, PySem.W.mg_of X G a_KIND_OF, _, _, ⟨l_KIND_OF, y_KIND_OF, w_KIND_OF⟩, kgv ⟨.ref _, .ref f_of_moments, e_KIND_OF_moments, rfl, fun F => .fn rfl⟩ (kgv ⟨.ref _, .ref f_of_stretches, e_KIND_OF_stretches, rfl, fun F => .fn rfl⟩ (kgv ⟨.ref _, .ref f_of_courses, e_KIND_OF_courses, rfl, fun F => .fn rfl⟩ (kgv ⟨.ref _, .ref f_of_branches, e_KIND_OF_branches, rfl, fun F => .fn rfl⟩ (kgv ⟨.ref _, .ref f_of_parts, e_KIND_OF_parts, rfl, fun F => .fn rfl⟩ (fun _ _ z => (nomatch z))))))⟩
  u_MOST_KINDS := ⟨_, .int 13, PySem.W.mg_of X G a_MOST_KINDS, ⟨_, rfl⟩, fun F => .int _⟩
  u_MOST_LETTERS := ⟨_, .int 8, PySem.W.mg_of X G a_MOST_LETTERS, ⟨_, rfl⟩, fun F => .int _⟩
  u_LETTERS := ⟨_, .str "abcdefghijklmnopqrstuvwxyz", PySem.W.mg_of X G a_LETTERS, ⟨_, rfl⟩, fun F => .str _⟩
  u_WORDS := ⟨.ref tWORDS, .ref tWORDS, PySem.W.mg_of X G a_WORDS, rfl, fun F => rep_wtpK (xs := ["moments", "stretches", "courses", "branches", "parts"]) l_WORDS v_WORDS s_WORDS⟩
  k_KINDS := ⟨dKINDS, PySem.W.mg_of X G a_KINDS, _, _, ⟨l_KINDS, y_KINDS, w_KINDS⟩, kgv ⟨.ref _, .ref _, e_KINDS_moments, rfl, fun F => rep_wtpK (xs := ["ahead", "same", "behind"]) l_KINDS_moments v_KINDS_moments s_KINDS_moments⟩ (kgv ⟨.ref _, .ref _, e_KINDS_stretches, rfl, fun F => rep_wtpK (xs := ["before", "meets", "overlaps", "begins", "within", "ends", "same", "ended", "around", "begun", "overlaid", "met", "after"]) l_STRETCH_KINDS v_STRETCH_KINDS s_STRETCH_KINDS⟩ (kgv ⟨.ref _, .ref _, e_KINDS_courses, rfl, fun F => rep_wtpK (xs := ["nw", "n", "ne", "w", "same", "e", "sw", "s", "se"]) l_COURSE_KINDS v_COURSE_KINDS s_COURSE_KINDS⟩ (kgv ⟨.ref _, .ref _, e_KINDS_branches, rfl, fun F => rep_wtpK (xs := ["up", "same", "down", "apart"]) l_KINDS_branches v_KINDS_branches s_KINDS_branches⟩ (kgv ⟨.ref _, .ref _, e_KINDS_parts, rfl, fun F => rep_wtpK (xs := ["within", "around", "same", "across", "apart"]) l_KINDS_parts v_KINDS_parts s_KINDS_parts⟩ (fun _ _ z => (nomatch z))))))⟩
  u_MOST_ENDS := ⟨_, .int 6, PySem.W.mg_of X G a_MOST_ENDS, ⟨_, rfl⟩, fun F => .int _⟩
  k_TRIPLES := ⟨dTRIPLES, PySem.W.mg_of X G a_TRIPLES, _, _, ⟨l_TRIPLES, y_TRIPLES, w_TRIPLES⟩, kgv ⟨.ref _, .ref f_moment_triples, e_TRIPLES_moments, rfl, fun F => .fn rfl⟩ (kgv ⟨.ref _, .ref f_stretch_triples, e_TRIPLES_stretches, rfl, fun F => .fn rfl⟩ (kgv ⟨.ref _, .ref f_course_triples, e_TRIPLES_courses, rfl, fun F => .fn rfl⟩ (kgv ⟨.ref _, .ref f_branch_triples, e_TRIPLES_branches, rfl, fun F => .fn rfl⟩ (kgv ⟨.ref _, .ref f_part_triples, e_TRIPLES_parts, rfl, fun F => .fn rfl⟩ (fun _ _ z => (nomatch z))))))⟩
  f_sign := (let F := fun_mk (st := topS 11) l_sign c_sign k_sign; ⟨_, _, F, PySem.W.mg_of X G a_sign, F.binds (ps := ["one", "other"]) fun _ _ _ _ _ _ us hl => match us, hl with | [_, _], _ => rfl⟩)
  f_of_moments := (let F := fun_mk (st := topS 12) l_of_moments c_of_moments k_of_moments; ⟨_, _, F, PySem.W.mg_of X G a_of_moments, F.binds (ps := ["one", "other"]) fun _ _ _ _ _ _ us hl => match us, hl with | [_, _], _ => rfl⟩)
  f_beginning := (let F := fun_mk (st := topS 13) l_beginning c_beginning k_beginning; ⟨_, _, F, PySem.W.mg_of X G a_beginning, F.binds (ps := ["one", "other"]) fun _ _ _ _ _ _ us hl => match us, hl with | [_, _], _ => rfl⟩)
  f_earlier := (let F := fun_mk (st := topS 14) l_earlier c_earlier k_earlier; ⟨_, _, F, PySem.W.mg_of X G a_earlier, F.binds (ps := ["one", "other"]) fun _ _ _ _ _ _ us hl => match us, hl with | [_, _], _ => rfl⟩)
  f_of_stretches := (let F := fun_mk (st := topS 15) l_of_stretches c_of_stretches k_of_stretches; ⟨_, _, F, PySem.W.mg_of X G a_of_stretches, F.binds (ps := ["one", "other"]) fun _ _ _ _ _ _ us hl => match us, hl with | [_, _], _ => rfl⟩)
  f_of_courses := (let F := fun_mk (st := topS 16) l_of_courses c_of_courses k_of_courses; ⟨_, _, F, PySem.W.mg_of X G a_of_courses, F.binds (ps := ["one", "other"]) fun _ _ _ _ _ _ us hl => match us, hl with | [_, _], _ => rfl⟩)
  f_of_branches := (let F := fun_mk (st := topS 17) l_of_branches c_of_branches k_of_branches; ⟨_, _, F, PySem.W.mg_of X G a_of_branches, F.binds (ps := ["one", "other"]) fun _ _ _ _ _ _ us hl => match us, hl with | [_, _], _ => rfl⟩)
  f_of_parts := (let F := fun_mk (st := topS 18) l_of_parts c_of_parts k_of_parts; ⟨_, _, F, PySem.W.mg_of X G a_of_parts, F.binds (ps := ["one", "other"]) fun _ _ _ _ _ _ us hl => match us, hl with | [_, _], _ => rfl⟩)
  f_places_in := (let F := fun_mk (st := topS 21) l_places_in c_places_in k_places_in; ⟨_, _, F, PySem.W.mg_of X G a_places_in, F.binds (ps := ["bits"]) fun _ _ _ _ _ _ us hl => match us, hl with | [_], _ => rfl⟩)
  f_bits_of := (let F := fun_mk (st := topS 22) l_bits_of c_bits_of k_bits_of; ⟨_, _, F, PySem.W.mg_of X G a_bits_of, F.binds (ps := ["places"]) fun _ _ _ _ _ _ us hl => match us, hl with | [_], _ => rfl⟩)
  f_moved := (let F := fun_mk (st := topS 23) l_moved c_moved k_moved; ⟨_, _, F, PySem.W.mg_of X G a_moved, F.binds (ps := ["bits", "where"]) fun _ _ _ _ _ _ us hl => match us, hl with | [_, _], _ => rfl⟩)
  f_joined_steps := (let F := fun_mk (st := topS 24) l_joined_steps c_joined_steps k_joined_steps; ⟨_, _, F, PySem.W.mg_of X G a_joined_steps, F.binds (ps := ["steps", "ones", "others"]) fun _ _ _ _ _ _ us hl => match us, hl with | [_, _, _], _ => rfl⟩)
  f_back_fault := (let F := fun_mk (st := topS 26) l_back_fault c_back_fault k_back_fault; ⟨_, _, F, PySem.W.mg_of X G a_back_fault, F.binds (ps := ["backs"]) fun _ _ _ _ _ _ us hl => match us, hl with | [_], _ => rfl⟩)
  f_same_fault := (let F := fun_mk (st := topS 27) l_same_fault c_same_fault k_same_fault; ⟨_, _, F, PySem.W.mg_of X G a_same_fault, F.binds (ps := ["same", "steps"]) fun _ _ _ _ _ _ us hl => match us, hl with | [_, _], _ => rfl⟩)
  f_turn_fault := (let F := fun_mk (st := topS 28) l_turn_fault c_turn_fault k_turn_fault; ⟨_, _, F, PySem.W.mg_of X G a_turn_fault, F.binds (ps := ["backs", "steps"]) fun _ _ _ _ _ _ us hl => match us, hl with | [_, _], _ => rfl⟩)
  f_row_fault := (let F := fun_mk (st := topS 29) l_row_fault c_row_fault k_row_fault; ⟨_, _, F, PySem.W.mg_of X G a_row_fault, F.binds (ps := ["steps"]) fun _ _ _ _ _ _ us hl => match us, hl with | [_], _ => rfl⟩)
  f_first_fault := (let F := fun_mk (st := topS 30) l_first_fault c_first_fault k_first_fault; ⟨_, _, F, PySem.W.mg_of X G a_first_fault, F.binds (ps := ["same", "backs", "steps"]) fun _ _ _ _ _ _ us hl => match us, hl with | [_, _, _], _ => rfl⟩)
  f_bits_shown := (let F := fun_mk (st := topS 32) l_bits_shown c_bits_shown k_bits_shown; ⟨_, _, F, PySem.W.mg_of X G a_bits_shown, F.binds (ps := ["bits", "names"]) fun _ _ _ _ _ _ us hl => match us, hl with | [_, _], _ => rfl⟩)
  f_is_name := (let F := fun_mk (st := topS 37) l_is_name c_is_name k_is_name; ⟨_, _, F, PySem.W.mg_of X G a_is_name, F.binds (ps := ["text"]) fun _ _ _ _ _ _ us hl => match us, hl with | [_], _ => rfl⟩)
  f_are_names := (let F := fun_mk (st := topS 38) l_are_names c_are_names k_are_names; ⟨_, _, F, PySem.W.mg_of X G a_are_names, F.binds (ps := ["names"]) fun _ _ _ _ _ _ us hl => match us, hl with | [_], _ => rfl⟩)
  f_within := (let F := fun_mk (st := topS 39) l_within c_within k_within; ⟨_, _, F, PySem.W.mg_of X G a_within, F.binds (ps := ["things", "names"]) fun _ _ _ _ _ _ us hl => match us, hl with | [_, _], _ => rfl⟩)
  f_square := (let F := fun_mk (st := topS 40) l_square c_square k_square; ⟨_, _, F, PySem.W.mg_of X G a_square, F.binds (ps := ["steps", "names"]) fun _ _ _ _ _ _ us hl => match us, hl with | [_, _], _ => rfl⟩)
  f_need_form := (let F := fun_mk (st := topS 41) l_need_form c_need_form k_need_form; ⟨_, _, F, PySem.W.mg_of X G a_need_form, F.binds (ps := ["names", "same", "backs", "steps"]) fun _ _ _ _ _ _ us hl => match us, hl with | [_, _, _, _], _ => rfl⟩)
  f_bits_in := (let F := fun_mk (st := topS 42) l_bits_in c_bits_in k_bits_in; ⟨_, _, F, PySem.W.mg_of X G a_bits_in, F.binds (ps := ["things", "names"]) fun _ _ _ _ _ _ us hl => match us, hl with | [_, _], _ => rfl⟩)
  f_parts_of := (let F := fun_mk (st := topS 43) l_parts_of c_parts_of k_parts_of; ⟨_, _, F, PySem.W.mg_of X G a_parts_of, F.binds (ps := ["names", "same", "backs", "steps"]) fun _ _ _ _ _ _ us hl => match us, hl with | [_, _, _, _], _ => rfl⟩)
  f_Table_u__eq_u_ := (let F := fun_mk (st := inClass (topS 44) 2) l_Table_u__eq_u_ c_Table_u__eq_u_ k_Table_u__eq_u_; ⟨_, _, F, ⟨a_Table_u__eq_u_, i_Table_u__eq_u_, k_Table_u__eq_u_⟩, F.binds (ps := ["self", "other"]) fun _ _ _ _ _ _ us hl => match us, hl with | [_, _], _ => rfl⟩)
  x_Table_u__eq_u_ := (show ("__eq__" : Str) ∉ fsL from by decide +kernel)
  f_Table_place := (let F := fun_mk (st := inClass (topS 44) 5) l_Table_place c_Table_place k_Table_place; ⟨_, _, F, ⟨a_Table_place, i_Table_place, k_Table_place⟩, F.binds (ps := ["self", "kind"]) fun _ _ _ _ _ _ us hl => match us, hl with | [_, _], _ => rfl⟩)
  x_Table_place := (show ("place" : Str) ∉ fsL from by decide +kernel)
  f_Table_shown := (let F := fun_mk (st := inClass (topS 44) 7) l_Table_shown c_Table_shown k_Table_shown; ⟨_, _, F, ⟨a_Table_shown, i_Table_shown, k_Table_shown⟩, F.binds (ps := ["self", "bits"]) fun _ _ _ _ _ _ us hl => match us, hl with | [_, _], _ => rfl⟩)
  x_Table_shown := (show ("shown" : Str) ∉ fsL from by decide +kernel)
  f_Table_kinds := (let F := fun_mk (st := inClass (topS 44) 11) l_Table_kinds c_Table_kinds k_Table_kinds; ⟨_, _, F, ⟨a_Table_kinds, i_Table_kinds, k_Table_kinds⟩, F.binds (ps := ["self"]) fun _ _ _ _ _ _ us hl => match us, hl with | [_], _ => rfl⟩)
  x_Table_kinds := (show ("kinds" : Str) ∉ fsL from by decide +kernel)
  f_Table_back := (let F := fun_mk (st := inClass (topS 44) 12) l_Table_back c_Table_back k_Table_back; ⟨_, _, F, ⟨a_Table_back, i_Table_back, k_Table_back⟩, F.binds (ps := ["self", "kind"]) fun _ _ _ _ _ _ us hl => match us, hl with | [_, _], _ => rfl⟩)
  x_Table_back := (show ("back" : Str) ∉ fsL from by decide +kernel)
  f_Table_step := (let F := fun_mk (st := inClass (topS 44) 13) l_Table_step c_Table_step k_Table_step; ⟨_, _, F, ⟨a_Table_step, i_Table_step, k_Table_step⟩, F.binds (ps := ["self", "one", "other"]) fun _ _ _ _ _ _ us hl => match us, hl with | [_, _, _], _ => rfl⟩)
  x_Table_step := (show ("step" : Str) ∉ fsL from by decide +kernel)
  f_stretch_triples := (let F := fun_mk (st := topS 49) l_stretch_triples c_stretch_triples k_stretch_triples; ⟨_, _, F, PySem.W.mg_of X G a_stretch_triples, F.binds (ps := []) fun _ _ _ _ _ _ us hl => match us, hl with | [], _ => rfl⟩)
  f_moment_triples := (let F := fun_mk (st := topS 50) l_moment_triples c_moment_triples k_moment_triples; ⟨_, _, F, PySem.W.mg_of X G a_moment_triples, F.binds (ps := []) fun _ _ _ _ _ _ us hl => match us, hl with | [], _ => rfl⟩)
  f_course_triples := (let F := fun_mk (st := topS 51) l_course_triples c_course_triples k_course_triples; ⟨_, _, F, PySem.W.mg_of X G a_course_triples, F.binds (ps := []) fun _ _ _ _ _ _ us hl => match us, hl with | [], _ => rfl⟩)
  f_part_triples := (let F := fun_mk (st := topS 52) l_part_triples c_part_triples k_part_triples; ⟨_, _, F, PySem.W.mg_of X G a_part_triples, F.binds (ps := []) fun _ _ _ _ _ _ us hl => match us, hl with | [], _ => rfl⟩)
  f_branch_triples := (let F := fun_mk (st := topS 53) l_branch_triples c_branch_triples k_branch_triples; ⟨_, _, F, PySem.W.mg_of X G a_branch_triples, F.binds (ps := []) fun _ _ _ _ _ _ us hl => match us, hl with | [], _ => rfl⟩)
  f_need_word := (let F := fun_mk (st := topS 55) l_need_word c_need_word k_need_word; ⟨_, _, F, PySem.W.mg_of X G a_need_word, F.binds (ps := ["word"]) fun _ _ _ _ _ _ us hl => match us, hl with | [_], _ => rfl⟩)
  f_seen_steps := (let F := fun_mk (st := topS 56) l_seen_steps c_seen_steps k_seen_steps; ⟨_, _, F, PySem.W.mg_of X G a_seen_steps, F.binds (ps := ["word"]) fun _ _ _ _ _ _ us hl => match us, hl with | [_], _ => rfl⟩)
  f_seen_backs := (let F := fun_mk (st := topS 57) l_seen_backs c_seen_backs k_seen_backs; ⟨_, _, F, PySem.W.mg_of X G a_seen_backs, F.binds (ps := ["word"]) fun _ _ _ _ _ _ us hl => match us, hl with | [_], _ => rfl⟩)
  f_built := (let F := fun_mk (st := topS 58) l_built c_built k_built; ⟨_, _, F, PySem.W.mg_of X G a_built, F.binds (ps := ["word"]) fun _ _ _ _ _ _ us hl => match us, hl with | [_], _ => rfl⟩)
  f_law_kinds_of := (let F := fun_mk (st := topS 63) l_law_kinds_of c_law_kinds_of k_law_kinds_of; ⟨_, _, F, PySem.W.mg_of X G a_law_kinds_of, F.binds (ps := ["_law_word"]) fun _ _ _ _ _ _ us hl => match us, hl with | [_], _ => rfl⟩)
  f_law_in_order := (let F := fun_mk (st := topS 64) l_law_in_order c_law_in_order k_law_in_order; ⟨_, _, F, PySem.W.mg_of X G a_law_in_order, F.binds (ps := ["_law_kinds", "_law_row"]) fun _ _ _ _ _ _ us hl => match us, hl with | [_, _], _ => rfl⟩)
  f_law_table := (let F := fun_mk (st := topS 65) l_law_table c_law_table k_law_table; ⟨_, _, F, PySem.W.mg_of X G a_law_table, F.binds (ps := ["_law_kinds", "_law_same_here", "_law_backs", "_law_steps"]) fun _ _ _ _ _ _ us hl => match us, hl with | [_, _, _, _], _ => rfl⟩)
  f_law_things_of := (let F := fun_mk (st := topS 67) l_law_things_of c_law_things_of k_law_things_of; ⟨_, _, F, PySem.W.mg_of X G a_law_things_of, F.binds (ps := ["_law_word"]) fun _ _ _ _ _ _ us hl => match us, hl with | [_], _ => rfl⟩)
  f_law_triples := (let F := fun_mk (st := topS 68) l_law_triples c_law_triples k_law_triples; ⟨_, _, F, PySem.W.mg_of X G a_law_triples, F.binds (ps := ["_law_word"]) fun _ _ _ _ _ _ us hl => match us, hl with | [_], _ => rfl⟩)
  f_law_sign := (let F := fun_mk (st := topS 69) l_law_sign c_law_sign k_law_sign; ⟨_, _, F, PySem.W.mg_of X G a_law_sign, F.binds (ps := ["_law_one", "_law_other"]) fun _ _ _ _ _ _ us hl => match us, hl with | [_, _], _ => rfl⟩)
  f_law_kind_of_parts := (let F := fun_mk (st := topS 70) l_law_kind_of_parts c_law_kind_of_parts k_law_kind_of_parts; ⟨_, _, F, PySem.W.mg_of X G a_law_kind_of_parts, F.binds (ps := ["_law_one", "_law_other"]) fun _ _ _ _ _ _ us hl => match us, hl with | [_, _], _ => rfl⟩)
  f_law_kind_of_stretches := (let F := fun_mk (st := topS 71) l_law_kind_of_stretches c_law_kind_of_stretches k_law_kind_of_stretches; ⟨_, _, F, PySem.W.mg_of X G a_law_kind_of_stretches, F.binds (ps := ["_law_one", "_law_other"]) fun _ _ _ _ _ _ us hl => match us, hl with | [_, _], _ => rfl⟩)
  f_law_kind_of := (let F := fun_mk (st := topS 72) l_law_kind_of c_law_kind_of k_law_kind_of; ⟨_, _, F, PySem.W.mg_of X G a_law_kind_of, F.binds (ps := ["_law_word", "_law_one", "_law_other"]) fun _ _ _ _ _ _ us hl => match us, hl with | [_, _, _], _ => rfl⟩)
  f_law_seen_courses := (let F := fun_mk (st := topS 66) l_law_seen_courses c_law_seen_courses k_law_seen_courses; ⟨_, _, F, PySem.W.mg_of X G a_law_seen_courses, F.binds (ps := ["_law_kinds"]) fun _ _ _ _ _ _ us hl => match us, hl with | [_], _ => rfl⟩)
  f_law_seen := (let F := fun_mk (st := topS 73) l_law_seen c_law_seen k_law_seen; ⟨_, _, F, PySem.W.mg_of X G a_law_seen, F.binds (ps := ["_law_word"]) fun _ _ _ _ _ _ us hl => match us, hl with | [_], _ => rfl⟩)
  f_law_same := (let F := fun_mk (st := topS 61) l_law_same c_law_same k_law_same; ⟨_, _, F, PySem.W.mg_of X G a_law_same, F.binds (ps := ["_law_found", "_law_due"]) fun _ _ _ _ _ _ us hl => match us, hl with | [_, _], _ => rfl⟩)
  a_of_moments := ⟨f_of_moments, PySem.W.mg_of X G a_of_moments, rfl⟩
  a_of_stretches := ⟨f_of_stretches, PySem.W.mg_of X G a_of_stretches, rfl⟩
  a_of_courses := ⟨f_of_courses, PySem.W.mg_of X G a_of_courses, rfl⟩
  a_of_branches := ⟨f_of_branches, PySem.W.mg_of X G a_of_branches, rfl⟩
  a_of_parts := ⟨f_of_parts, PySem.W.mg_of X G a_of_parts, rfl⟩
  a_moment_triples := ⟨f_moment_triples, PySem.W.mg_of X G a_moment_triples, rfl⟩
  a_stretch_triples := ⟨f_stretch_triples, PySem.W.mg_of X G a_stretch_triples, rfl⟩
  a_course_triples := ⟨f_course_triples, PySem.W.mg_of X G a_course_triples, rfl⟩
  a_branch_triples := ⟨f_branch_triples, PySem.W.mg_of X G a_branch_triples, rfl⟩
  a_part_triples := ⟨f_part_triples, PySem.W.mg_of X G a_part_triples, rfl⟩
  ins := ⟨⟨pg, hd, po, sa⟩, (show fsL.Nodup from by decide +kernel), no5 no_names no_same no_own no_turned no_lines⟩
  insC := ⟨⟨pg, hd, po, sa⟩, hcl, hgt, htk, hmr, kit_self⟩
  f_Table_init := (let F := fun_mk (st := inClass (topS 44) 0) l_init c_init k_init; ⟨_, _, F, ⟨mk, a_init, i_init, kC⟩, F.binds (ps := ["self", "names", "same", "backs", "steps"]) fun _ _ _ _ _ _ us hl => match us, hl with | [_, _, _, _, _], _ => rfl⟩)
  g_Table := PySem.W.mg_of X G aC
  fs := rfl
end PD
end
section
set_option Elab.async false
set_option linter.all false
set_option maxRecDepth 100000
/-! law's promise from what the top has written (printed by genmf.py). -/
namespace PD
open PySem PySem.Spec PyProof.Rows L2
theorem exm_own {K : PySem.W.Frag} {S : Addr} (h1 : PySem.W.subIn K (.ref S) (.type "BaseException") = some true) (h2 : PySem.W.isClsIn K S = true) (h3 : PySem.W.typeIn K (.ref S) = some (.type "type")) (h4 : PySem.W.subIn K (.ref S) (.ref S) = some true) :
    PySem.W.exmOne K (.ref S) (.ref S) = some true := by
  have e1 : (PySem.W.subIn K (.ref S) (.type "BaseException") == some true) = true := by rw [h1] <;> rfl
  have e2 : ((PySem.W.clsIn K S).isSome && PySem.W.typeIn K (.ref S) == some (.type "type")) = true := by
    have h2' : (PySem.W.clsIn K S).isSome = true := h2
    rw [h2', h3] <;> rfl
  show (if (PySem.W.subIn K (.ref S) (.type "BaseException") == some true) = true then (if ((PySem.W.clsIn K S).isSome && PySem.W.typeIn K (.ref S) == some (.type "type")) = true then PySem.W.subIn K (.ref S) (.ref S) else none) else none) = some true
  rw [if_pos e1, if_pos e2]
  exact h4
theorem kit_le {K : PySem.W.Frag} {S : Addr} (h : PySem.W.subIn K (.ref S) (.type "LookupError") = some true) : PySem.W.kitOne K (.ref S) (.type "LookupError") = some true := by
  have e1 : ¬ ((Value.ref S == Value.type "LookupError") = true) := fun z => by cases beq_iff_eq.mp z
  unfold PySem.W.kitOne
  rw [if_neg e1]
  show (if PySem.W.kitMeta "LookupError" = true then PySem.W.subIn K (.ref S) (.type "LookupError") else none) = some true
  rw [if_pos (by decide +kernel)]
  exact h
theorem ne_ok {T : Tab} {P : Program} {w : World} {mg : Str → Option Value} {base : Heap} (M : MF T P w mg base) (h1 : PySem.W.findIn T.K (.ref T.C) "__ne__" = some (some (.builtin "object.__ne__"))) (h2 : PySem.W.subIn T.K (.ref T.C) (.type "object") = some true) : NeOk T P w mg base 1 g_Table_u__eq_u_ := by
  obtain ⟨f, fd, ps, F, m, b⟩ := (D_Table_u__eq_u_ M).ex
  exact ⟨f, fd, ps, F, h1, m.at_, m.fn, h2, b⟩
theorem hBody : ∀ x ∈ wordsL, ∃ ρ2, n_lawbody (ρL.set 3 (.sh (.str x))) = some (.nx ρ2) ∧ ρ2.length = 9 ∧ ρ2[1]? = some (.sh (.fn 10)) := by
  intro x hx
  simp only [wordsL, List.mem_cons, List.not_mem_nil, or_false] at hx
  rcases hx with rfl | rfl | rfl | rfl | rfl
  · exact of_okOut b_moments
  · exact of_okOut b_stretches
  · exact of_okOut b_courses
  · exact of_okOut b_branches
  · exact of_okOut b_parts
set_option maxHeartbeats 4000000 in
theorem all_mk {P : Program} {w : World} {K : PySem.W.Frag} {h : Heap} {mg : Str → Option Value} {fa : Addr} {tSTRETCH_KINDS : Addr} {itsSTRETCH_KINDS : Array Value} {nSTRETCH_KINDS : Nat} {slSTRETCH_KINDS : Array (Option Value)} {tCOURSE_KINDS : Addr} {itsCOURSE_KINDS : Array Value} {nCOURSE_KINDS : Nat} {slCOURSE_KINDS : Array (Option Value)} {tkMOST_KINDS : Tok} {tkMOST_LETTERS : Tok} {tkLETTERS : Tok} {tWORDS : Addr} {itsWORDS : Array Value} {nWORDS : Nat} {slWORDS : Array (Option Value)} {tkMOST_ENDS : Tok} {dKIND_OF : Addr} {esKIND_OF : Array DictEntry} {nKIND_OF : Nat} {dKINDS : Addr} {esKINDS : Array DictEntry} {nKINDS : Nat} {tKINDS_moments : Addr} {itsKINDS_moments : Array Value} {nKINDS_moments : Nat} {slKINDS_moments : Array (Option Value)} {tKINDS_branches : Addr} {itsKINDS_branches : Array Value} {nKINDS_branches : Nat} {slKINDS_branches : Array (Option Value)} {tKINDS_parts : Addr} {itsKINDS_parts : Array Value} {nKINDS_parts : Nat} {slKINDS_parts : Array (Option Value)} {dTRIPLES : Addr} {esTRIPLES : Array DictEntry} {nTRIPLES : Nat} {f_sign : Addr} {od_sign an_sign : Option Addr} {sl_sign : Array (Option Value)} {oc_sign kV_sign dc_sign pm_sign cd_sign ct_sign : Value} {f_of_moments : Addr} {od_of_moments an_of_moments : Option Addr} {sl_of_moments : Array (Option Value)} {oc_of_moments kV_of_moments dc_of_moments pm_of_moments cd_of_moments ct_of_moments : Value} {f_beginning : Addr} {od_beginning an_beginning : Option Addr} {sl_beginning : Array (Option Value)} {oc_beginning kV_beginning dc_beginning pm_beginning cd_beginning ct_beginning : Value} {f_earlier : Addr} {od_earlier an_earlier : Option Addr} {sl_earlier : Array (Option Value)} {oc_earlier kV_earlier dc_earlier pm_earlier cd_earlier ct_earlier : Value} {f_of_stretches : Addr} {od_of_stretches an_of_stretches : Option Addr} {sl_of_stretches : Array (Option Value)} {oc_of_stretches kV_of_stretches dc_of_stretches pm_of_stretches cd_of_stretches ct_of_stretches : Value} {f_of_courses : Addr} {od_of_courses an_of_courses : Option Addr} {sl_of_courses : Array (Option Value)} {oc_of_courses kV_of_courses dc_of_courses pm_of_courses cd_of_courses ct_of_courses : Value} {f_of_branches : Addr} {od_of_branches an_of_branches : Option Addr} {sl_of_branches : Array (Option Value)} {oc_of_branches kV_of_branches dc_of_branches pm_of_branches cd_of_branches ct_of_branches : Value} {f_of_parts : Addr} {od_of_parts an_of_parts : Option Addr} {sl_of_parts : Array (Option Value)} {oc_of_parts kV_of_parts dc_of_parts pm_of_parts cd_of_parts ct_of_parts : Value} {f_places_in : Addr} {od_places_in an_places_in : Option Addr} {sl_places_in : Array (Option Value)} {oc_places_in kV_places_in dc_places_in pm_places_in cd_places_in ct_places_in : Value} {f_bits_of : Addr} {od_bits_of an_bits_of : Option Addr} {sl_bits_of : Array (Option Value)} {oc_bits_of kV_bits_of dc_bits_of pm_bits_of cd_bits_of ct_bits_of : Value} {f_moved : Addr} {od_moved an_moved : Option Addr} {sl_moved : Array (Option Value)} {oc_moved kV_moved dc_moved pm_moved cd_moved ct_moved : Value} {f_joined_steps : Addr} {od_joined_steps an_joined_steps : Option Addr} {sl_joined_steps : Array (Option Value)} {oc_joined_steps kV_joined_steps dc_joined_steps pm_joined_steps cd_joined_steps ct_joined_steps : Value} {f_back_fault : Addr} {od_back_fault an_back_fault : Option Addr} {sl_back_fault : Array (Option Value)} {oc_back_fault kV_back_fault dc_back_fault pm_back_fault cd_back_fault ct_back_fault : Value} {f_same_fault : Addr} {od_same_fault an_same_fault : Option Addr} {sl_same_fault : Array (Option Value)} {oc_same_fault kV_same_fault dc_same_fault pm_same_fault cd_same_fault ct_same_fault : Value} {f_turn_fault : Addr} {od_turn_fault an_turn_fault : Option Addr} {sl_turn_fault : Array (Option Value)} {oc_turn_fault kV_turn_fault dc_turn_fault pm_turn_fault cd_turn_fault ct_turn_fault : Value} {f_row_fault : Addr} {od_row_fault an_row_fault : Option Addr} {sl_row_fault : Array (Option Value)} {oc_row_fault kV_row_fault dc_row_fault pm_row_fault cd_row_fault ct_row_fault : Value} {f_first_fault : Addr} {od_first_fault an_first_fault : Option Addr} {sl_first_fault : Array (Option Value)} {oc_first_fault kV_first_fault dc_first_fault pm_first_fault cd_first_fault ct_first_fault : Value} {f_bits_shown : Addr} {od_bits_shown an_bits_shown : Option Addr} {sl_bits_shown : Array (Option Value)} {oc_bits_shown kV_bits_shown dc_bits_shown pm_bits_shown cd_bits_shown ct_bits_shown : Value} {f_is_name : Addr} {od_is_name an_is_name : Option Addr} {sl_is_name : Array (Option Value)} {oc_is_name kV_is_name dc_is_name pm_is_name cd_is_name ct_is_name : Value} {f_are_names : Addr} {od_are_names an_are_names : Option Addr} {sl_are_names : Array (Option Value)} {oc_are_names kV_are_names dc_are_names pm_are_names cd_are_names ct_are_names : Value} {f_within : Addr} {od_within an_within : Option Addr} {sl_within : Array (Option Value)} {oc_within kV_within dc_within pm_within cd_within ct_within : Value} {f_square : Addr} {od_square an_square : Option Addr} {sl_square : Array (Option Value)} {oc_square kV_square dc_square pm_square cd_square ct_square : Value} {f_need_form : Addr} {od_need_form an_need_form : Option Addr} {sl_need_form : Array (Option Value)} {oc_need_form kV_need_form dc_need_form pm_need_form cd_need_form ct_need_form : Value} {f_bits_in : Addr} {od_bits_in an_bits_in : Option Addr} {sl_bits_in : Array (Option Value)} {oc_bits_in kV_bits_in dc_bits_in pm_bits_in cd_bits_in ct_bits_in : Value} {f_parts_of : Addr} {od_parts_of an_parts_of : Option Addr} {sl_parts_of : Array (Option Value)} {oc_parts_of kV_parts_of dc_parts_of pm_parts_of cd_parts_of ct_parts_of : Value} {f_stretch_triples : Addr} {od_stretch_triples an_stretch_triples : Option Addr} {sl_stretch_triples : Array (Option Value)} {oc_stretch_triples kV_stretch_triples dc_stretch_triples pm_stretch_triples cd_stretch_triples ct_stretch_triples : Value} {f_moment_triples : Addr} {od_moment_triples an_moment_triples : Option Addr} {sl_moment_triples : Array (Option Value)} {oc_moment_triples kV_moment_triples dc_moment_triples pm_moment_triples cd_moment_triples ct_moment_triples : Value} {f_course_triples : Addr} {od_course_triples an_course_triples : Option Addr} {sl_course_triples : Array (Option Value)} {oc_course_triples kV_course_triples dc_course_triples pm_course_triples cd_course_triples ct_course_triples : Value} {f_part_triples : Addr} {od_part_triples an_part_triples : Option Addr} {sl_part_triples : Array (Option Value)} {oc_part_triples kV_part_triples dc_part_triples pm_part_triples cd_part_triples ct_part_triples : Value} {f_branch_triples : Addr} {od_branch_triples an_branch_triples : Option Addr} {sl_branch_triples : Array (Option Value)} {oc_branch_triples kV_branch_triples dc_branch_triples pm_branch_triples cd_branch_triples ct_branch_triples : Value} {f_need_word : Addr} {od_need_word an_need_word : Option Addr} {sl_need_word : Array (Option Value)} {oc_need_word kV_need_word dc_need_word pm_need_word cd_need_word ct_need_word : Value} {f_seen_steps : Addr} {od_seen_steps an_seen_steps : Option Addr} {sl_seen_steps : Array (Option Value)} {oc_seen_steps kV_seen_steps dc_seen_steps pm_seen_steps cd_seen_steps ct_seen_steps : Value} {f_seen_backs : Addr} {od_seen_backs an_seen_backs : Option Addr} {sl_seen_backs : Array (Option Value)} {oc_seen_backs kV_seen_backs dc_seen_backs pm_seen_backs cd_seen_backs ct_seen_backs : Value} {f_built : Addr} {od_built an_built : Option Addr} {sl_built : Array (Option Value)} {oc_built kV_built dc_built pm_built cd_built ct_built : Value} {f_law_kinds_of : Addr} {od_law_kinds_of an_law_kinds_of : Option Addr} {sl_law_kinds_of : Array (Option Value)} {oc_law_kinds_of kV_law_kinds_of dc_law_kinds_of pm_law_kinds_of cd_law_kinds_of ct_law_kinds_of : Value} {f_law_in_order : Addr} {od_law_in_order an_law_in_order : Option Addr} {sl_law_in_order : Array (Option Value)} {oc_law_in_order kV_law_in_order dc_law_in_order pm_law_in_order cd_law_in_order ct_law_in_order : Value} {f_law_table : Addr} {od_law_table an_law_table : Option Addr} {sl_law_table : Array (Option Value)} {oc_law_table kV_law_table dc_law_table pm_law_table cd_law_table ct_law_table : Value} {f_law_things_of : Addr} {od_law_things_of an_law_things_of : Option Addr} {sl_law_things_of : Array (Option Value)} {oc_law_things_of kV_law_things_of dc_law_things_of pm_law_things_of cd_law_things_of ct_law_things_of : Value} {f_law_triples : Addr} {od_law_triples an_law_triples : Option Addr} {sl_law_triples : Array (Option Value)} {oc_law_triples kV_law_triples dc_law_triples pm_law_triples cd_law_triples ct_law_triples : Value} {f_law_sign : Addr} {od_law_sign an_law_sign : Option Addr} {sl_law_sign : Array (Option Value)} {oc_law_sign kV_law_sign dc_law_sign pm_law_sign cd_law_sign ct_law_sign : Value} {f_law_kind_of_parts : Addr} {od_law_kind_of_parts an_law_kind_of_parts : Option Addr} {sl_law_kind_of_parts : Array (Option Value)} {oc_law_kind_of_parts kV_law_kind_of_parts dc_law_kind_of_parts pm_law_kind_of_parts cd_law_kind_of_parts ct_law_kind_of_parts : Value} {f_law_kind_of_stretches : Addr} {od_law_kind_of_stretches an_law_kind_of_stretches : Option Addr} {sl_law_kind_of_stretches : Array (Option Value)} {oc_law_kind_of_stretches kV_law_kind_of_stretches dc_law_kind_of_stretches pm_law_kind_of_stretches cd_law_kind_of_stretches ct_law_kind_of_stretches : Value} {f_law_kind_of : Addr} {od_law_kind_of an_law_kind_of : Option Addr} {sl_law_kind_of : Array (Option Value)} {oc_law_kind_of kV_law_kind_of dc_law_kind_of pm_law_kind_of cd_law_kind_of ct_law_kind_of : Value} {f_law_seen_courses : Addr} {od_law_seen_courses an_law_seen_courses : Option Addr} {sl_law_seen_courses : Array (Option Value)} {oc_law_seen_courses kV_law_seen_courses dc_law_seen_courses pm_law_seen_courses cd_law_seen_courses ct_law_seen_courses : Value} {f_law_seen : Addr} {od_law_seen an_law_seen : Option Addr} {sl_law_seen : Array (Option Value)} {oc_law_seen kV_law_seen dc_law_seen pm_law_seen cd_law_seen ct_law_seen : Value} {f_law_same : Addr} {od_law_same an_law_same : Option Addr} {sl_law_same : Array (Option Value)} {oc_law_same kV_law_same dc_law_same pm_law_same cd_law_same ct_law_same : Value} {C : Addr} {f_Table_u__eq_u_ : Addr} {od_Table_u__eq_u_ an_Table_u__eq_u_ : Option Addr} {sl_Table_u__eq_u_ : Array (Option Value)} {oc_Table_u__eq_u_ kV_Table_u__eq_u_ dc_Table_u__eq_u_ pm_Table_u__eq_u_ cd_Table_u__eq_u_ ct_Table_u__eq_u_ : Value} {f_Table_place : Addr} {od_Table_place an_Table_place : Option Addr} {sl_Table_place : Array (Option Value)} {oc_Table_place kV_Table_place dc_Table_place pm_Table_place cd_Table_place ct_Table_place : Value} {f_Table_shown : Addr} {od_Table_shown an_Table_shown : Option Addr} {sl_Table_shown : Array (Option Value)} {oc_Table_shown kV_Table_shown dc_Table_shown pm_Table_shown cd_Table_shown ct_Table_shown : Value} {f_Table_kinds : Addr} {od_Table_kinds an_Table_kinds : Option Addr} {sl_Table_kinds : Array (Option Value)} {oc_Table_kinds kV_Table_kinds dc_Table_kinds pm_Table_kinds cd_Table_kinds ct_Table_kinds : Value} {f_Table_back : Addr} {od_Table_back an_Table_back : Option Addr} {sl_Table_back : Array (Option Value)} {oc_Table_back kV_Table_back dc_Table_back pm_Table_back cd_Table_back ct_Table_back : Value} {f_Table_step : Addr} {od_Table_step an_Table_step : Option Addr} {sl_Table_step : Array (Option Value)} {oc_Table_step kV_Table_step dc_Table_step pm_Table_step cd_Table_step ct_Table_step : Value} {f_init : Addr} {od_init an_init : Option Addr} {sl_init : Array (Option Value)} {oc_init kV_init dc_init pm_init cd_init ct_init : Value} {f_law_flow : Addr} {od_law_flow an_law_flow : Option Addr} {sl_law_flow : Array (Option Value)} {oc_law_flow kV_law_flow dc_law_flow pm_law_flow cd_law_flow ct_law_flow : Value} {f_law_draw : Addr} {od_law_draw an_law_draw : Option Addr} {sl_law_draw : Array (Option Value)} {oc_law_draw kV_law_draw dc_law_draw pm_law_draw cd_law_draw ct_law_draw : Value} {f_law_refused : Addr} {od_law_refused an_law_refused : Option Addr} {sl_law_refused : Array (Option Value)} {oc_law_refused kV_law_refused dc_law_refused pm_law_refused cd_law_refused ct_law_refused : Value} {f_law : Addr} {od_law an_law : Option Addr} {sl_law : Array (Option Value)} {oc_law kV_law dc_law pm_law cd_law ct_law : Value} {CM CN NN : Addr} {nmN qN : Str} {bsN subN : List Value} {snN : List Str} {abN : Bool} {colN : Option Bool} {ddN : Option Addr} {m0N m1N m2N m3N m5N : Option Value} {f_M_init : Addr} {od_M_init an_M_init : Option Addr} {sl_M_init : Array (Option Value)} {oc_M_init kV_M_init dc_M_init pm_M_init cd_M_init ct_M_init : Value} {f_N_init : Addr} {od_N_init an_N_init : Option Addr} {sl_N_init : Array (Option Value)} {oc_N_init kV_N_init dc_N_init pm_N_init cd_N_init ct_N_init : Value} (X : K.In h) (G : h.Ns mainGlobals mg) (hfa : mg "law" = some (.ref fa))
    (z_len : PySem.W.nsIn K mainGlobals "len" = some none)
    (z_range : PySem.W.nsIn K mainGlobals "range" = some none)
    (z_list : PySem.W.nsIn K mainGlobals "list" = some none)
    (z_tuple : PySem.W.nsIn K mainGlobals "tuple" = some none)
    (z_isinstance : PySem.W.nsIn K mainGlobals "isinstance" = some none)
    (z_all : PySem.W.nsIn K mainGlobals "all" = some none)
    (z_str : PySem.W.nsIn K mainGlobals "str" = some none)
    (z_int : PySem.W.nsIn K mainGlobals "int" = some none)
    (z_bool : PySem.W.nsIn K mainGlobals "bool" = some none)
    (z_sorted : PySem.W.nsIn K mainGlobals "sorted" = some none)
    (z_set : PySem.W.nsIn K mainGlobals "set" = some none)
    (z_dict : PySem.W.nsIn K mainGlobals "dict" = some none)
    (z_zip : PySem.W.nsIn K mainGlobals "zip" = some none)
    (z_abs : PySem.W.nsIn K mainGlobals "abs" = some none)
    (a_STRETCH_KINDS : PySem.W.nsIn K mainGlobals "STRETCH_KINDS" = some (some (.ref tSTRETCH_KINDS)))
    (l_STRETCH_KINDS : K.lookup tSTRETCH_KINDS = some ⟨.type "tuple", none, .seq itsSTRETCH_KINDS nSTRETCH_KINDS, slSTRETCH_KINDS⟩)
    (v_STRETCH_KINDS : Vals [V.str "before", V.str "meets", V.str "overlaps", V.str "begins", V.str "within", V.str "ends", V.str "same", V.str "ended", V.str "around", V.str "begun", V.str "overlaid", V.str "met", V.str "after"] itsSTRETCH_KINDS.toList)
    (s_STRETCH_KINDS : itsSTRETCH_KINDS.size ≤ sizeLine)
    (a_COURSE_KINDS : PySem.W.nsIn K mainGlobals "COURSE_KINDS" = some (some (.ref tCOURSE_KINDS)))
    (l_COURSE_KINDS : K.lookup tCOURSE_KINDS = some ⟨.type "tuple", none, .seq itsCOURSE_KINDS nCOURSE_KINDS, slCOURSE_KINDS⟩)
    (v_COURSE_KINDS : Vals [V.str "nw", V.str "n", V.str "ne", V.str "w", V.str "same", V.str "e", V.str "sw", V.str "s", V.str "se"] itsCOURSE_KINDS.toList)
    (s_COURSE_KINDS : itsCOURSE_KINDS.size ≤ sizeLine)
    (a_MOST_KINDS : PySem.W.nsIn K mainGlobals "MOST_KINDS" = some (some (.int 13 tkMOST_KINDS)))
    (a_MOST_LETTERS : PySem.W.nsIn K mainGlobals "MOST_LETTERS" = some (some (.int 8 tkMOST_LETTERS)))
    (a_LETTERS : PySem.W.nsIn K mainGlobals "LETTERS" = some (some (.str "abcdefghijklmnopqrstuvwxyz" tkLETTERS)))
    (a_WORDS : PySem.W.nsIn K mainGlobals "WORDS" = some (some (.ref tWORDS)))
    (l_WORDS : K.lookup tWORDS = some ⟨.type "tuple", none, .seq itsWORDS nWORDS, slWORDS⟩)
    (v_WORDS : Vals [V.str "moments", V.str "stretches", V.str "courses", V.str "branches", V.str "parts"] itsWORDS.toList)
    (s_WORDS : itsWORDS.size ≤ sizeLine)
    (a_MOST_ENDS : PySem.W.nsIn K mainGlobals "MOST_ENDS" = some (some (.int 6 tkMOST_ENDS)))
    (a_KIND_OF : PySem.W.nsIn K mainGlobals "KIND_OF" = some (some (.ref dKIND_OF)))
    (l_KIND_OF : K.lookup dKIND_OF = some ⟨.type "dict", none, .dict esKIND_OF nKIND_OF, #[]⟩)
    (y_KIND_OF : PySem.W.KeysLit w.params esKIND_OF.toList)
    (w_KIND_OF : (dKIND_OF == sysModules) = false)
    (e_KIND_OF_moments : PySem.W.nsIn K dKIND_OF "moments" = some (some (.ref f_of_moments)))
    (e_KIND_OF_stretches : PySem.W.nsIn K dKIND_OF "stretches" = some (some (.ref f_of_stretches)))
    (e_KIND_OF_courses : PySem.W.nsIn K dKIND_OF "courses" = some (some (.ref f_of_courses)))
    (e_KIND_OF_branches : PySem.W.nsIn K dKIND_OF "branches" = some (some (.ref f_of_branches)))
    (e_KIND_OF_parts : PySem.W.nsIn K dKIND_OF "parts" = some (some (.ref f_of_parts)))
    (a_KINDS : PySem.W.nsIn K mainGlobals "KINDS" = some (some (.ref dKINDS)))
    (l_KINDS : K.lookup dKINDS = some ⟨.type "dict", none, .dict esKINDS nKINDS, #[]⟩)
    (y_KINDS : PySem.W.KeysLit w.params esKINDS.toList)
    (w_KINDS : (dKINDS == sysModules) = false)
    (e_KINDS_moments : PySem.W.nsIn K dKINDS "moments" = some (some (.ref tKINDS_moments)))
    (l_KINDS_moments : K.lookup tKINDS_moments = some ⟨.type "tuple", none, .seq itsKINDS_moments nKINDS_moments, slKINDS_moments⟩)
    (v_KINDS_moments : Vals [V.str "ahead", V.str "same", V.str "behind"] itsKINDS_moments.toList)
    (s_KINDS_moments : itsKINDS_moments.size ≤ sizeLine)
    (e_KINDS_stretches : PySem.W.nsIn K dKINDS "stretches" = some (some (.ref tSTRETCH_KINDS)))
    (e_KINDS_courses : PySem.W.nsIn K dKINDS "courses" = some (some (.ref tCOURSE_KINDS)))
    (e_KINDS_branches : PySem.W.nsIn K dKINDS "branches" = some (some (.ref tKINDS_branches)))
    (l_KINDS_branches : K.lookup tKINDS_branches = some ⟨.type "tuple", none, .seq itsKINDS_branches nKINDS_branches, slKINDS_branches⟩)
    (v_KINDS_branches : Vals [V.str "up", V.str "same", V.str "down", V.str "apart"] itsKINDS_branches.toList)
    (s_KINDS_branches : itsKINDS_branches.size ≤ sizeLine)
    (e_KINDS_parts : PySem.W.nsIn K dKINDS "parts" = some (some (.ref tKINDS_parts)))
    (l_KINDS_parts : K.lookup tKINDS_parts = some ⟨.type "tuple", none, .seq itsKINDS_parts nKINDS_parts, slKINDS_parts⟩)
    (v_KINDS_parts : Vals [V.str "within", V.str "around", V.str "same", V.str "across", V.str "apart"] itsKINDS_parts.toList)
    (s_KINDS_parts : itsKINDS_parts.size ≤ sizeLine)
    (a_TRIPLES : PySem.W.nsIn K mainGlobals "TRIPLES" = some (some (.ref dTRIPLES)))
    (l_TRIPLES : K.lookup dTRIPLES = some ⟨.type "dict", none, .dict esTRIPLES nTRIPLES, #[]⟩)
    (y_TRIPLES : PySem.W.KeysLit w.params esTRIPLES.toList)
    (w_TRIPLES : (dTRIPLES == sysModules) = false)
    (e_TRIPLES_moments : PySem.W.nsIn K dTRIPLES "moments" = some (some (.ref f_moment_triples)))
    (e_TRIPLES_stretches : PySem.W.nsIn K dTRIPLES "stretches" = some (some (.ref f_stretch_triples)))
    (e_TRIPLES_courses : PySem.W.nsIn K dTRIPLES "courses" = some (some (.ref f_course_triples)))
    (e_TRIPLES_branches : PySem.W.nsIn K dTRIPLES "branches" = some (some (.ref f_branch_triples)))
    (e_TRIPLES_parts : PySem.W.nsIn K dTRIPLES "parts" = some (some (.ref f_part_triples)))
    (a_sign : PySem.W.nsIn K mainGlobals "sign" = some (some (.ref f_sign)))
    (l_sign : K.lookup f_sign = some ⟨oc_sign, od_sign, .func (PySem.W.fnOf "sign" "sign" (defArgs (topS 11)) (defBody (topS 11)) (defScope (topS 11)) .none kV_sign dc_sign pm_sign an_sign cd_sign ct_sign), sl_sign⟩)
    (c_sign : PySem.W.codeIn K cd_sign "sign" = true)
    (k_sign : PySem.W.keepIn K (.ref f_sign) = true)
    (a_of_moments : PySem.W.nsIn K mainGlobals "of_moments" = some (some (.ref f_of_moments)))
    (l_of_moments : K.lookup f_of_moments = some ⟨oc_of_moments, od_of_moments, .func (PySem.W.fnOf "of_moments" "of_moments" (defArgs (topS 12)) (defBody (topS 12)) (defScope (topS 12)) .none kV_of_moments dc_of_moments pm_of_moments an_of_moments cd_of_moments ct_of_moments), sl_of_moments⟩)
    (c_of_moments : PySem.W.codeIn K cd_of_moments "of_moments" = true)
    (k_of_moments : PySem.W.keepIn K (.ref f_of_moments) = true)
    (a_beginning : PySem.W.nsIn K mainGlobals "beginning" = some (some (.ref f_beginning)))
    (l_beginning : K.lookup f_beginning = some ⟨oc_beginning, od_beginning, .func (PySem.W.fnOf "beginning" "beginning" (defArgs (topS 13)) (defBody (topS 13)) (defScope (topS 13)) .none kV_beginning dc_beginning pm_beginning an_beginning cd_beginning ct_beginning), sl_beginning⟩)
    (c_beginning : PySem.W.codeIn K cd_beginning "beginning" = true)
    (k_beginning : PySem.W.keepIn K (.ref f_beginning) = true)
    (a_earlier : PySem.W.nsIn K mainGlobals "earlier" = some (some (.ref f_earlier)))
    (l_earlier : K.lookup f_earlier = some ⟨oc_earlier, od_earlier, .func (PySem.W.fnOf "earlier" "earlier" (defArgs (topS 14)) (defBody (topS 14)) (defScope (topS 14)) .none kV_earlier dc_earlier pm_earlier an_earlier cd_earlier ct_earlier), sl_earlier⟩)
    (c_earlier : PySem.W.codeIn K cd_earlier "earlier" = true)
    (k_earlier : PySem.W.keepIn K (.ref f_earlier) = true)
    (a_of_stretches : PySem.W.nsIn K mainGlobals "of_stretches" = some (some (.ref f_of_stretches)))
    (l_of_stretches : K.lookup f_of_stretches = some ⟨oc_of_stretches, od_of_stretches, .func (PySem.W.fnOf "of_stretches" "of_stretches" (defArgs (topS 15)) (defBody (topS 15)) (defScope (topS 15)) .none kV_of_stretches dc_of_stretches pm_of_stretches an_of_stretches cd_of_stretches ct_of_stretches), sl_of_stretches⟩)
    (c_of_stretches : PySem.W.codeIn K cd_of_stretches "of_stretches" = true)
    (k_of_stretches : PySem.W.keepIn K (.ref f_of_stretches) = true)
    (a_of_courses : PySem.W.nsIn K mainGlobals "of_courses" = some (some (.ref f_of_courses)))
    (l_of_courses : K.lookup f_of_courses = some ⟨oc_of_courses, od_of_courses, .func (PySem.W.fnOf "of_courses" "of_courses" (defArgs (topS 16)) (defBody (topS 16)) (defScope (topS 16)) .none kV_of_courses dc_of_courses pm_of_courses an_of_courses cd_of_courses ct_of_courses), sl_of_courses⟩)
    (c_of_courses : PySem.W.codeIn K cd_of_courses "of_courses" = true)
    (k_of_courses : PySem.W.keepIn K (.ref f_of_courses) = true)
    (a_of_branches : PySem.W.nsIn K mainGlobals "of_branches" = some (some (.ref f_of_branches)))
    (l_of_branches : K.lookup f_of_branches = some ⟨oc_of_branches, od_of_branches, .func (PySem.W.fnOf "of_branches" "of_branches" (defArgs (topS 17)) (defBody (topS 17)) (defScope (topS 17)) .none kV_of_branches dc_of_branches pm_of_branches an_of_branches cd_of_branches ct_of_branches), sl_of_branches⟩)
    (c_of_branches : PySem.W.codeIn K cd_of_branches "of_branches" = true)
    (k_of_branches : PySem.W.keepIn K (.ref f_of_branches) = true)
    (a_of_parts : PySem.W.nsIn K mainGlobals "of_parts" = some (some (.ref f_of_parts)))
    (l_of_parts : K.lookup f_of_parts = some ⟨oc_of_parts, od_of_parts, .func (PySem.W.fnOf "of_parts" "of_parts" (defArgs (topS 18)) (defBody (topS 18)) (defScope (topS 18)) .none kV_of_parts dc_of_parts pm_of_parts an_of_parts cd_of_parts ct_of_parts), sl_of_parts⟩)
    (c_of_parts : PySem.W.codeIn K cd_of_parts "of_parts" = true)
    (k_of_parts : PySem.W.keepIn K (.ref f_of_parts) = true)
    (a_places_in : PySem.W.nsIn K mainGlobals "places_in" = some (some (.ref f_places_in)))
    (l_places_in : K.lookup f_places_in = some ⟨oc_places_in, od_places_in, .func (PySem.W.fnOf "places_in" "places_in" (defArgs (topS 21)) (defBody (topS 21)) (defScope (topS 21)) .none kV_places_in dc_places_in pm_places_in an_places_in cd_places_in ct_places_in), sl_places_in⟩)
    (c_places_in : PySem.W.codeIn K cd_places_in "places_in" = true)
    (k_places_in : PySem.W.keepIn K (.ref f_places_in) = true)
    (a_bits_of : PySem.W.nsIn K mainGlobals "bits_of" = some (some (.ref f_bits_of)))
    (l_bits_of : K.lookup f_bits_of = some ⟨oc_bits_of, od_bits_of, .func (PySem.W.fnOf "bits_of" "bits_of" (defArgs (topS 22)) (defBody (topS 22)) (defScope (topS 22)) .none kV_bits_of dc_bits_of pm_bits_of an_bits_of cd_bits_of ct_bits_of), sl_bits_of⟩)
    (c_bits_of : PySem.W.codeIn K cd_bits_of "bits_of" = true)
    (k_bits_of : PySem.W.keepIn K (.ref f_bits_of) = true)
    (a_moved : PySem.W.nsIn K mainGlobals "moved" = some (some (.ref f_moved)))
    (l_moved : K.lookup f_moved = some ⟨oc_moved, od_moved, .func (PySem.W.fnOf "moved" "moved" (defArgs (topS 23)) (defBody (topS 23)) (defScope (topS 23)) .none kV_moved dc_moved pm_moved an_moved cd_moved ct_moved), sl_moved⟩)
    (c_moved : PySem.W.codeIn K cd_moved "moved" = true)
    (k_moved : PySem.W.keepIn K (.ref f_moved) = true)
    (a_joined_steps : PySem.W.nsIn K mainGlobals "joined_steps" = some (some (.ref f_joined_steps)))
    (l_joined_steps : K.lookup f_joined_steps = some ⟨oc_joined_steps, od_joined_steps, .func (PySem.W.fnOf "joined_steps" "joined_steps" (defArgs (topS 24)) (defBody (topS 24)) (defScope (topS 24)) .none kV_joined_steps dc_joined_steps pm_joined_steps an_joined_steps cd_joined_steps ct_joined_steps), sl_joined_steps⟩)
    (c_joined_steps : PySem.W.codeIn K cd_joined_steps "joined_steps" = true)
    (k_joined_steps : PySem.W.keepIn K (.ref f_joined_steps) = true)
    (a_back_fault : PySem.W.nsIn K mainGlobals "back_fault" = some (some (.ref f_back_fault)))
    (l_back_fault : K.lookup f_back_fault = some ⟨oc_back_fault, od_back_fault, .func (PySem.W.fnOf "back_fault" "back_fault" (defArgs (topS 26)) (defBody (topS 26)) (defScope (topS 26)) .none kV_back_fault dc_back_fault pm_back_fault an_back_fault cd_back_fault ct_back_fault), sl_back_fault⟩)
    (c_back_fault : PySem.W.codeIn K cd_back_fault "back_fault" = true)
    (k_back_fault : PySem.W.keepIn K (.ref f_back_fault) = true)
    (a_same_fault : PySem.W.nsIn K mainGlobals "same_fault" = some (some (.ref f_same_fault)))
    (l_same_fault : K.lookup f_same_fault = some ⟨oc_same_fault, od_same_fault, .func (PySem.W.fnOf "same_fault" "same_fault" (defArgs (topS 27)) (defBody (topS 27)) (defScope (topS 27)) .none kV_same_fault dc_same_fault pm_same_fault an_same_fault cd_same_fault ct_same_fault), sl_same_fault⟩)
    (c_same_fault : PySem.W.codeIn K cd_same_fault "same_fault" = true)
    (k_same_fault : PySem.W.keepIn K (.ref f_same_fault) = true)
    (a_turn_fault : PySem.W.nsIn K mainGlobals "turn_fault" = some (some (.ref f_turn_fault)))
    (l_turn_fault : K.lookup f_turn_fault = some ⟨oc_turn_fault, od_turn_fault, .func (PySem.W.fnOf "turn_fault" "turn_fault" (defArgs (topS 28)) (defBody (topS 28)) (defScope (topS 28)) .none kV_turn_fault dc_turn_fault pm_turn_fault an_turn_fault cd_turn_fault ct_turn_fault), sl_turn_fault⟩)
    (c_turn_fault : PySem.W.codeIn K cd_turn_fault "turn_fault" = true)
    (k_turn_fault : PySem.W.keepIn K (.ref f_turn_fault) = true)
    (a_row_fault : PySem.W.nsIn K mainGlobals "row_fault" = some (some (.ref f_row_fault)))
    (l_row_fault : K.lookup f_row_fault = some ⟨oc_row_fault, od_row_fault, .func (PySem.W.fnOf "row_fault" "row_fault" (defArgs (topS 29)) (defBody (topS 29)) (defScope (topS 29)) .none kV_row_fault dc_row_fault pm_row_fault an_row_fault cd_row_fault ct_row_fault), sl_row_fault⟩)
    (c_row_fault : PySem.W.codeIn K cd_row_fault "row_fault" = true)
    (k_row_fault : PySem.W.keepIn K (.ref f_row_fault) = true)
    (a_first_fault : PySem.W.nsIn K mainGlobals "first_fault" = some (some (.ref f_first_fault)))
    (l_first_fault : K.lookup f_first_fault = some ⟨oc_first_fault, od_first_fault, .func (PySem.W.fnOf "first_fault" "first_fault" (defArgs (topS 30)) (defBody (topS 30)) (defScope (topS 30)) .none kV_first_fault dc_first_fault pm_first_fault an_first_fault cd_first_fault ct_first_fault), sl_first_fault⟩)
    (c_first_fault : PySem.W.codeIn K cd_first_fault "first_fault" = true)
    (k_first_fault : PySem.W.keepIn K (.ref f_first_fault) = true)
    (a_bits_shown : PySem.W.nsIn K mainGlobals "bits_shown" = some (some (.ref f_bits_shown)))
    (l_bits_shown : K.lookup f_bits_shown = some ⟨oc_bits_shown, od_bits_shown, .func (PySem.W.fnOf "bits_shown" "bits_shown" (defArgs (topS 32)) (defBody (topS 32)) (defScope (topS 32)) .none kV_bits_shown dc_bits_shown pm_bits_shown an_bits_shown cd_bits_shown ct_bits_shown), sl_bits_shown⟩)
    (c_bits_shown : PySem.W.codeIn K cd_bits_shown "bits_shown" = true)
    (k_bits_shown : PySem.W.keepIn K (.ref f_bits_shown) = true)
    (a_is_name : PySem.W.nsIn K mainGlobals "is_name" = some (some (.ref f_is_name)))
    (l_is_name : K.lookup f_is_name = some ⟨oc_is_name, od_is_name, .func (PySem.W.fnOf "is_name" "is_name" (defArgs (topS 37)) (defBody (topS 37)) (defScope (topS 37)) .none kV_is_name dc_is_name pm_is_name an_is_name cd_is_name ct_is_name), sl_is_name⟩)
    (c_is_name : PySem.W.codeIn K cd_is_name "is_name" = true)
    (k_is_name : PySem.W.keepIn K (.ref f_is_name) = true)
    (a_are_names : PySem.W.nsIn K mainGlobals "are_names" = some (some (.ref f_are_names)))
    (l_are_names : K.lookup f_are_names = some ⟨oc_are_names, od_are_names, .func (PySem.W.fnOf "are_names" "are_names" (defArgs (topS 38)) (defBody (topS 38)) (defScope (topS 38)) .none kV_are_names dc_are_names pm_are_names an_are_names cd_are_names ct_are_names), sl_are_names⟩)
    (c_are_names : PySem.W.codeIn K cd_are_names "are_names" = true)
    (k_are_names : PySem.W.keepIn K (.ref f_are_names) = true)
    (a_within : PySem.W.nsIn K mainGlobals "within" = some (some (.ref f_within)))
    (l_within : K.lookup f_within = some ⟨oc_within, od_within, .func (PySem.W.fnOf "within" "within" (defArgs (topS 39)) (defBody (topS 39)) (defScope (topS 39)) .none kV_within dc_within pm_within an_within cd_within ct_within), sl_within⟩)
    (c_within : PySem.W.codeIn K cd_within "within" = true)
    (k_within : PySem.W.keepIn K (.ref f_within) = true)
    (a_square : PySem.W.nsIn K mainGlobals "square" = some (some (.ref f_square)))
    (l_square : K.lookup f_square = some ⟨oc_square, od_square, .func (PySem.W.fnOf "square" "square" (defArgs (topS 40)) (defBody (topS 40)) (defScope (topS 40)) .none kV_square dc_square pm_square an_square cd_square ct_square), sl_square⟩)
    (c_square : PySem.W.codeIn K cd_square "square" = true)
    (k_square : PySem.W.keepIn K (.ref f_square) = true)
    (a_need_form : PySem.W.nsIn K mainGlobals "need_form" = some (some (.ref f_need_form)))
    (l_need_form : K.lookup f_need_form = some ⟨oc_need_form, od_need_form, .func (PySem.W.fnOf "need_form" "need_form" (defArgs (topS 41)) (defBody (topS 41)) (defScope (topS 41)) .none kV_need_form dc_need_form pm_need_form an_need_form cd_need_form ct_need_form), sl_need_form⟩)
    (c_need_form : PySem.W.codeIn K cd_need_form "need_form" = true)
    (k_need_form : PySem.W.keepIn K (.ref f_need_form) = true)
    (a_bits_in : PySem.W.nsIn K mainGlobals "bits_in" = some (some (.ref f_bits_in)))
    (l_bits_in : K.lookup f_bits_in = some ⟨oc_bits_in, od_bits_in, .func (PySem.W.fnOf "bits_in" "bits_in" (defArgs (topS 42)) (defBody (topS 42)) (defScope (topS 42)) .none kV_bits_in dc_bits_in pm_bits_in an_bits_in cd_bits_in ct_bits_in), sl_bits_in⟩)
    (c_bits_in : PySem.W.codeIn K cd_bits_in "bits_in" = true)
    (k_bits_in : PySem.W.keepIn K (.ref f_bits_in) = true)
    (a_parts_of : PySem.W.nsIn K mainGlobals "parts_of" = some (some (.ref f_parts_of)))
    (l_parts_of : K.lookup f_parts_of = some ⟨oc_parts_of, od_parts_of, .func (PySem.W.fnOf "parts_of" "parts_of" (defArgs (topS 43)) (defBody (topS 43)) (defScope (topS 43)) .none kV_parts_of dc_parts_of pm_parts_of an_parts_of cd_parts_of ct_parts_of), sl_parts_of⟩)
    (c_parts_of : PySem.W.codeIn K cd_parts_of "parts_of" = true)
    (k_parts_of : PySem.W.keepIn K (.ref f_parts_of) = true)
    (a_stretch_triples : PySem.W.nsIn K mainGlobals "stretch_triples" = some (some (.ref f_stretch_triples)))
    (l_stretch_triples : K.lookup f_stretch_triples = some ⟨oc_stretch_triples, od_stretch_triples, .func (PySem.W.fnOf "stretch_triples" "stretch_triples" (defArgs (topS 49)) (defBody (topS 49)) (defScope (topS 49)) .none kV_stretch_triples dc_stretch_triples pm_stretch_triples an_stretch_triples cd_stretch_triples ct_stretch_triples), sl_stretch_triples⟩)
    (c_stretch_triples : PySem.W.codeIn K cd_stretch_triples "stretch_triples" = true)
    (k_stretch_triples : PySem.W.keepIn K (.ref f_stretch_triples) = true)
    (a_moment_triples : PySem.W.nsIn K mainGlobals "moment_triples" = some (some (.ref f_moment_triples)))
    (l_moment_triples : K.lookup f_moment_triples = some ⟨oc_moment_triples, od_moment_triples, .func (PySem.W.fnOf "moment_triples" "moment_triples" (defArgs (topS 50)) (defBody (topS 50)) (defScope (topS 50)) .none kV_moment_triples dc_moment_triples pm_moment_triples an_moment_triples cd_moment_triples ct_moment_triples), sl_moment_triples⟩)
    (c_moment_triples : PySem.W.codeIn K cd_moment_triples "moment_triples" = true)
    (k_moment_triples : PySem.W.keepIn K (.ref f_moment_triples) = true)
    (a_course_triples : PySem.W.nsIn K mainGlobals "course_triples" = some (some (.ref f_course_triples)))
    (l_course_triples : K.lookup f_course_triples = some ⟨oc_course_triples, od_course_triples, .func (PySem.W.fnOf "course_triples" "course_triples" (defArgs (topS 51)) (defBody (topS 51)) (defScope (topS 51)) .none kV_course_triples dc_course_triples pm_course_triples an_course_triples cd_course_triples ct_course_triples), sl_course_triples⟩)
    (c_course_triples : PySem.W.codeIn K cd_course_triples "course_triples" = true)
    (k_course_triples : PySem.W.keepIn K (.ref f_course_triples) = true)
    (a_part_triples : PySem.W.nsIn K mainGlobals "part_triples" = some (some (.ref f_part_triples)))
    (l_part_triples : K.lookup f_part_triples = some ⟨oc_part_triples, od_part_triples, .func (PySem.W.fnOf "part_triples" "part_triples" (defArgs (topS 52)) (defBody (topS 52)) (defScope (topS 52)) .none kV_part_triples dc_part_triples pm_part_triples an_part_triples cd_part_triples ct_part_triples), sl_part_triples⟩)
    (c_part_triples : PySem.W.codeIn K cd_part_triples "part_triples" = true)
    (k_part_triples : PySem.W.keepIn K (.ref f_part_triples) = true)
    (a_branch_triples : PySem.W.nsIn K mainGlobals "branch_triples" = some (some (.ref f_branch_triples)))
    (l_branch_triples : K.lookup f_branch_triples = some ⟨oc_branch_triples, od_branch_triples, .func (PySem.W.fnOf "branch_triples" "branch_triples" (defArgs (topS 53)) (defBody (topS 53)) (defScope (topS 53)) .none kV_branch_triples dc_branch_triples pm_branch_triples an_branch_triples cd_branch_triples ct_branch_triples), sl_branch_triples⟩)
    (c_branch_triples : PySem.W.codeIn K cd_branch_triples "branch_triples" = true)
    (k_branch_triples : PySem.W.keepIn K (.ref f_branch_triples) = true)
    (a_need_word : PySem.W.nsIn K mainGlobals "need_word" = some (some (.ref f_need_word)))
    (l_need_word : K.lookup f_need_word = some ⟨oc_need_word, od_need_word, .func (PySem.W.fnOf "need_word" "need_word" (defArgs (topS 55)) (defBody (topS 55)) (defScope (topS 55)) .none kV_need_word dc_need_word pm_need_word an_need_word cd_need_word ct_need_word), sl_need_word⟩)
    (c_need_word : PySem.W.codeIn K cd_need_word "need_word" = true)
    (k_need_word : PySem.W.keepIn K (.ref f_need_word) = true)
    (a_seen_steps : PySem.W.nsIn K mainGlobals "seen_steps" = some (some (.ref f_seen_steps)))
    (l_seen_steps : K.lookup f_seen_steps = some ⟨oc_seen_steps, od_seen_steps, .func (PySem.W.fnOf "seen_steps" "seen_steps" (defArgs (topS 56)) (defBody (topS 56)) (defScope (topS 56)) .none kV_seen_steps dc_seen_steps pm_seen_steps an_seen_steps cd_seen_steps ct_seen_steps), sl_seen_steps⟩)
    (c_seen_steps : PySem.W.codeIn K cd_seen_steps "seen_steps" = true)
    (k_seen_steps : PySem.W.keepIn K (.ref f_seen_steps) = true)
    (a_seen_backs : PySem.W.nsIn K mainGlobals "seen_backs" = some (some (.ref f_seen_backs)))
    (l_seen_backs : K.lookup f_seen_backs = some ⟨oc_seen_backs, od_seen_backs, .func (PySem.W.fnOf "seen_backs" "seen_backs" (defArgs (topS 57)) (defBody (topS 57)) (defScope (topS 57)) .none kV_seen_backs dc_seen_backs pm_seen_backs an_seen_backs cd_seen_backs ct_seen_backs), sl_seen_backs⟩)
    (c_seen_backs : PySem.W.codeIn K cd_seen_backs "seen_backs" = true)
    (k_seen_backs : PySem.W.keepIn K (.ref f_seen_backs) = true)
    (a_built : PySem.W.nsIn K mainGlobals "built" = some (some (.ref f_built)))
    (l_built : K.lookup f_built = some ⟨oc_built, od_built, .func (PySem.W.fnOf "built" "built" (defArgs (topS 58)) (defBody (topS 58)) (defScope (topS 58)) .none kV_built dc_built pm_built an_built cd_built ct_built), sl_built⟩)
    (c_built : PySem.W.codeIn K cd_built "built" = true)
    (k_built : PySem.W.keepIn K (.ref f_built) = true)
    (a_law_kinds_of : PySem.W.nsIn K mainGlobals "_law_kinds_of" = some (some (.ref f_law_kinds_of)))
    (l_law_kinds_of : K.lookup f_law_kinds_of = some ⟨oc_law_kinds_of, od_law_kinds_of, .func (PySem.W.fnOf "_law_kinds_of" "_law_kinds_of" (defArgs (topS 63)) (defBody (topS 63)) (defScope (topS 63)) .none kV_law_kinds_of dc_law_kinds_of pm_law_kinds_of an_law_kinds_of cd_law_kinds_of ct_law_kinds_of), sl_law_kinds_of⟩)
    (c_law_kinds_of : PySem.W.codeIn K cd_law_kinds_of "_law_kinds_of" = true)
    (k_law_kinds_of : PySem.W.keepIn K (.ref f_law_kinds_of) = true)
    (a_law_in_order : PySem.W.nsIn K mainGlobals "_law_in_order" = some (some (.ref f_law_in_order)))
    (l_law_in_order : K.lookup f_law_in_order = some ⟨oc_law_in_order, od_law_in_order, .func (PySem.W.fnOf "_law_in_order" "_law_in_order" (defArgs (topS 64)) (defBody (topS 64)) (defScope (topS 64)) .none kV_law_in_order dc_law_in_order pm_law_in_order an_law_in_order cd_law_in_order ct_law_in_order), sl_law_in_order⟩)
    (c_law_in_order : PySem.W.codeIn K cd_law_in_order "_law_in_order" = true)
    (k_law_in_order : PySem.W.keepIn K (.ref f_law_in_order) = true)
    (a_law_table : PySem.W.nsIn K mainGlobals "_law_table" = some (some (.ref f_law_table)))
    (l_law_table : K.lookup f_law_table = some ⟨oc_law_table, od_law_table, .func (PySem.W.fnOf "_law_table" "_law_table" (defArgs (topS 65)) (defBody (topS 65)) (defScope (topS 65)) .none kV_law_table dc_law_table pm_law_table an_law_table cd_law_table ct_law_table), sl_law_table⟩)
    (c_law_table : PySem.W.codeIn K cd_law_table "_law_table" = true)
    (k_law_table : PySem.W.keepIn K (.ref f_law_table) = true)
    (a_law_things_of : PySem.W.nsIn K mainGlobals "_law_things_of" = some (some (.ref f_law_things_of)))
    (l_law_things_of : K.lookup f_law_things_of = some ⟨oc_law_things_of, od_law_things_of, .func (PySem.W.fnOf "_law_things_of" "_law_things_of" (defArgs (topS 67)) (defBody (topS 67)) (defScope (topS 67)) .none kV_law_things_of dc_law_things_of pm_law_things_of an_law_things_of cd_law_things_of ct_law_things_of), sl_law_things_of⟩)
    (c_law_things_of : PySem.W.codeIn K cd_law_things_of "_law_things_of" = true)
    (k_law_things_of : PySem.W.keepIn K (.ref f_law_things_of) = true)
    (a_law_triples : PySem.W.nsIn K mainGlobals "_law_triples" = some (some (.ref f_law_triples)))
    (l_law_triples : K.lookup f_law_triples = some ⟨oc_law_triples, od_law_triples, .func (PySem.W.fnOf "_law_triples" "_law_triples" (defArgs (topS 68)) (defBody (topS 68)) (defScope (topS 68)) .none kV_law_triples dc_law_triples pm_law_triples an_law_triples cd_law_triples ct_law_triples), sl_law_triples⟩)
    (c_law_triples : PySem.W.codeIn K cd_law_triples "_law_triples" = true)
    (k_law_triples : PySem.W.keepIn K (.ref f_law_triples) = true)
    (a_law_sign : PySem.W.nsIn K mainGlobals "_law_sign" = some (some (.ref f_law_sign)))
    (l_law_sign : K.lookup f_law_sign = some ⟨oc_law_sign, od_law_sign, .func (PySem.W.fnOf "_law_sign" "_law_sign" (defArgs (topS 69)) (defBody (topS 69)) (defScope (topS 69)) .none kV_law_sign dc_law_sign pm_law_sign an_law_sign cd_law_sign ct_law_sign), sl_law_sign⟩)
    (c_law_sign : PySem.W.codeIn K cd_law_sign "_law_sign" = true)
    (k_law_sign : PySem.W.keepIn K (.ref f_law_sign) = true)
    (a_law_kind_of_parts : PySem.W.nsIn K mainGlobals "_law_kind_of_parts" = some (some (.ref f_law_kind_of_parts)))
    (l_law_kind_of_parts : K.lookup f_law_kind_of_parts = some ⟨oc_law_kind_of_parts, od_law_kind_of_parts, .func (PySem.W.fnOf "_law_kind_of_parts" "_law_kind_of_parts" (defArgs (topS 70)) (defBody (topS 70)) (defScope (topS 70)) .none kV_law_kind_of_parts dc_law_kind_of_parts pm_law_kind_of_parts an_law_kind_of_parts cd_law_kind_of_parts ct_law_kind_of_parts), sl_law_kind_of_parts⟩)
    (c_law_kind_of_parts : PySem.W.codeIn K cd_law_kind_of_parts "_law_kind_of_parts" = true)
    (k_law_kind_of_parts : PySem.W.keepIn K (.ref f_law_kind_of_parts) = true)
    (a_law_kind_of_stretches : PySem.W.nsIn K mainGlobals "_law_kind_of_stretches" = some (some (.ref f_law_kind_of_stretches)))
    (l_law_kind_of_stretches : K.lookup f_law_kind_of_stretches = some ⟨oc_law_kind_of_stretches, od_law_kind_of_stretches, .func (PySem.W.fnOf "_law_kind_of_stretches" "_law_kind_of_stretches" (defArgs (topS 71)) (defBody (topS 71)) (defScope (topS 71)) .none kV_law_kind_of_stretches dc_law_kind_of_stretches pm_law_kind_of_stretches an_law_kind_of_stretches cd_law_kind_of_stretches ct_law_kind_of_stretches), sl_law_kind_of_stretches⟩)
    (c_law_kind_of_stretches : PySem.W.codeIn K cd_law_kind_of_stretches "_law_kind_of_stretches" = true)
    (k_law_kind_of_stretches : PySem.W.keepIn K (.ref f_law_kind_of_stretches) = true)
    (a_law_kind_of : PySem.W.nsIn K mainGlobals "_law_kind_of" = some (some (.ref f_law_kind_of)))
    (l_law_kind_of : K.lookup f_law_kind_of = some ⟨oc_law_kind_of, od_law_kind_of, .func (PySem.W.fnOf "_law_kind_of" "_law_kind_of" (defArgs (topS 72)) (defBody (topS 72)) (defScope (topS 72)) .none kV_law_kind_of dc_law_kind_of pm_law_kind_of an_law_kind_of cd_law_kind_of ct_law_kind_of), sl_law_kind_of⟩)
    (c_law_kind_of : PySem.W.codeIn K cd_law_kind_of "_law_kind_of" = true)
    (k_law_kind_of : PySem.W.keepIn K (.ref f_law_kind_of) = true)
    (a_law_seen_courses : PySem.W.nsIn K mainGlobals "_law_seen_courses" = some (some (.ref f_law_seen_courses)))
    (l_law_seen_courses : K.lookup f_law_seen_courses = some ⟨oc_law_seen_courses, od_law_seen_courses, .func (PySem.W.fnOf "_law_seen_courses" "_law_seen_courses" (defArgs (topS 66)) (defBody (topS 66)) (defScope (topS 66)) .none kV_law_seen_courses dc_law_seen_courses pm_law_seen_courses an_law_seen_courses cd_law_seen_courses ct_law_seen_courses), sl_law_seen_courses⟩)
    (c_law_seen_courses : PySem.W.codeIn K cd_law_seen_courses "_law_seen_courses" = true)
    (k_law_seen_courses : PySem.W.keepIn K (.ref f_law_seen_courses) = true)
    (a_law_seen : PySem.W.nsIn K mainGlobals "_law_seen" = some (some (.ref f_law_seen)))
    (l_law_seen : K.lookup f_law_seen = some ⟨oc_law_seen, od_law_seen, .func (PySem.W.fnOf "_law_seen" "_law_seen" (defArgs (topS 73)) (defBody (topS 73)) (defScope (topS 73)) .none kV_law_seen dc_law_seen pm_law_seen an_law_seen cd_law_seen ct_law_seen), sl_law_seen⟩)
    (c_law_seen : PySem.W.codeIn K cd_law_seen "_law_seen" = true)
    (k_law_seen : PySem.W.keepIn K (.ref f_law_seen) = true)
    (a_law_same : PySem.W.nsIn K mainGlobals "_law_same" = some (some (.ref f_law_same)))
    (l_law_same : K.lookup f_law_same = some ⟨oc_law_same, od_law_same, .func (PySem.W.fnOf "_law_same" "_law_same" (defArgs (topS 61)) (defBody (topS 61)) (defScope (topS 61)) .none kV_law_same dc_law_same pm_law_same an_law_same cd_law_same ct_law_same), sl_law_same⟩)
    (c_law_same : PySem.W.codeIn K cd_law_same "_law_same" = true)
    (k_law_same : PySem.W.keepIn K (.ref f_law_same) = true)
    (aC : PySem.W.nsIn K mainGlobals "Table" = some (some (.ref C)))
    (a_Table_u__eq_u_ : PySem.W.findIn K (.ref C) "__eq__" = some (some (.ref f_Table_u__eq_u_)))
    (i_Table_u__eq_u_ : PySem.W.isFn K (.ref f_Table_u__eq_u_) = true)
    (l_Table_u__eq_u_ : K.lookup f_Table_u__eq_u_ = some ⟨oc_Table_u__eq_u_, od_Table_u__eq_u_, .func (PySem.W.fnOf "__eq__" "Table.__eq__" (defArgs (inClass (topS 44) 2)) (defBody (inClass (topS 44) 2)) (defScope (inClass (topS 44) 2)) .none kV_Table_u__eq_u_ dc_Table_u__eq_u_ pm_Table_u__eq_u_ an_Table_u__eq_u_ cd_Table_u__eq_u_ ct_Table_u__eq_u_), sl_Table_u__eq_u_⟩)
    (c_Table_u__eq_u_ : PySem.W.codeIn K cd_Table_u__eq_u_ "Table.__eq__" = true)
    (k_Table_u__eq_u_ : PySem.W.keepIn K (.ref f_Table_u__eq_u_) = true)
    (a_Table_place : PySem.W.findIn K (.ref C) "place" = some (some (.ref f_Table_place)))
    (i_Table_place : PySem.W.isFn K (.ref f_Table_place) = true)
    (l_Table_place : K.lookup f_Table_place = some ⟨oc_Table_place, od_Table_place, .func (PySem.W.fnOf "place" "Table.place" (defArgs (inClass (topS 44) 5)) (defBody (inClass (topS 44) 5)) (defScope (inClass (topS 44) 5)) .none kV_Table_place dc_Table_place pm_Table_place an_Table_place cd_Table_place ct_Table_place), sl_Table_place⟩)
    (c_Table_place : PySem.W.codeIn K cd_Table_place "Table.place" = true)
    (k_Table_place : PySem.W.keepIn K (.ref f_Table_place) = true)
    (a_Table_shown : PySem.W.findIn K (.ref C) "shown" = some (some (.ref f_Table_shown)))
    (i_Table_shown : PySem.W.isFn K (.ref f_Table_shown) = true)
    (l_Table_shown : K.lookup f_Table_shown = some ⟨oc_Table_shown, od_Table_shown, .func (PySem.W.fnOf "shown" "Table.shown" (defArgs (inClass (topS 44) 7)) (defBody (inClass (topS 44) 7)) (defScope (inClass (topS 44) 7)) .none kV_Table_shown dc_Table_shown pm_Table_shown an_Table_shown cd_Table_shown ct_Table_shown), sl_Table_shown⟩)
    (c_Table_shown : PySem.W.codeIn K cd_Table_shown "Table.shown" = true)
    (k_Table_shown : PySem.W.keepIn K (.ref f_Table_shown) = true)
    (a_Table_kinds : PySem.W.findIn K (.ref C) "kinds" = some (some (.ref f_Table_kinds)))
    (i_Table_kinds : PySem.W.isFn K (.ref f_Table_kinds) = true)
    (l_Table_kinds : K.lookup f_Table_kinds = some ⟨oc_Table_kinds, od_Table_kinds, .func (PySem.W.fnOf "kinds" "Table.kinds" (defArgs (inClass (topS 44) 11)) (defBody (inClass (topS 44) 11)) (defScope (inClass (topS 44) 11)) .none kV_Table_kinds dc_Table_kinds pm_Table_kinds an_Table_kinds cd_Table_kinds ct_Table_kinds), sl_Table_kinds⟩)
    (c_Table_kinds : PySem.W.codeIn K cd_Table_kinds "Table.kinds" = true)
    (k_Table_kinds : PySem.W.keepIn K (.ref f_Table_kinds) = true)
    (a_Table_back : PySem.W.findIn K (.ref C) "back" = some (some (.ref f_Table_back)))
    (i_Table_back : PySem.W.isFn K (.ref f_Table_back) = true)
    (l_Table_back : K.lookup f_Table_back = some ⟨oc_Table_back, od_Table_back, .func (PySem.W.fnOf "back" "Table.back" (defArgs (inClass (topS 44) 12)) (defBody (inClass (topS 44) 12)) (defScope (inClass (topS 44) 12)) .none kV_Table_back dc_Table_back pm_Table_back an_Table_back cd_Table_back ct_Table_back), sl_Table_back⟩)
    (c_Table_back : PySem.W.codeIn K cd_Table_back "Table.back" = true)
    (k_Table_back : PySem.W.keepIn K (.ref f_Table_back) = true)
    (a_Table_step : PySem.W.findIn K (.ref C) "step" = some (some (.ref f_Table_step)))
    (i_Table_step : PySem.W.isFn K (.ref f_Table_step) = true)
    (l_Table_step : K.lookup f_Table_step = some ⟨oc_Table_step, od_Table_step, .func (PySem.W.fnOf "step" "Table.step" (defArgs (inClass (topS 44) 13)) (defBody (inClass (topS 44) 13)) (defScope (inClass (topS 44) 13)) .none kV_Table_step dc_Table_step pm_Table_step an_Table_step cd_Table_step ct_Table_step), sl_Table_step⟩)
    (c_Table_step : PySem.W.codeIn K cd_Table_step "Table.step" = true)
    (k_Table_step : PySem.W.keepIn K (.ref f_Table_step) = true)
    (a_init : PySem.W.findIn K (.ref C) "__init__" = some (some (.ref f_init)))
    (i_init : PySem.W.isFn K (.ref f_init) = true)
    (l_init : K.lookup f_init = some ⟨oc_init, od_init, .func (PySem.W.fnOf "__init__" "Table.__init__" (defArgs (inClass (topS 44) 0)) (defBody (inClass (topS 44) 0)) (defScope (inClass (topS 44) 0)) .none kV_init dc_init pm_init an_init cd_init ct_init), sl_init⟩)
    (c_init : PySem.W.codeIn K cd_init "Table.__init__" = true)
    (k_init : PySem.W.keepIn K (.ref f_init) = true)
    (mk : PySem.W.makesIn K C = true)
    (kC : PySem.W.keepIn K (.ref C) = true)
    (pg : PySem.W.plainGet K C Str.empty = true)
    (hd : PySem.W.hasDictIn K C = true)
    (po : PySem.W.plainOver K C = true)
    (sa : PySem.W.findIn K (.ref C) "__setattr__" = some (some (.builtin "object.__setattr__")))
    (no_names : PySem.W.findIn K (.ref C) "names" = some none)
    (no_same : PySem.W.findIn K (.ref C) "same" = some none)
    (no_own : PySem.W.findIn K (.ref C) "own" = some none)
    (no_turned : PySem.W.findIn K (.ref C) "turned" = some none)
    (no_lines : PySem.W.findIn K (.ref C) "lines" = some none)
    (hcl : PySem.W.findIn K (.ref C) "__class__" = some (some (.builtin "object.__class__")))
    (hgt : PySem.W.specialIn K (.builtin "object.__class__") "__get__" = some (some (.builtin "getset_descriptor.__get__")))
    (htk : PySem.W.takesIn K (.builtin "object.__class__") = some true)
    (hmr : PySem.W.mroIn K C (.type "object") = some true)
    (a_law_flow : PySem.W.nsIn K mainGlobals "_law_flow" = some (some (.ref f_law_flow)))
    (l_law_flow : K.lookup f_law_flow = some ⟨oc_law_flow, od_law_flow, .func (PySem.W.fnOf "_law_flow" "_law_flow" (defArgs (topS 60)) (defBody (topS 60)) (defScope (topS 60)) .none kV_law_flow dc_law_flow pm_law_flow an_law_flow cd_law_flow ct_law_flow), sl_law_flow⟩)
    (c_law_flow : PySem.W.codeIn K cd_law_flow "_law_flow" = true)
    (k_law_flow : PySem.W.keepIn K (.ref f_law_flow) = true)
    (a_law_draw : PySem.W.nsIn K mainGlobals "_law_draw" = some (some (.ref f_law_draw)))
    (l_law_draw : K.lookup f_law_draw = some ⟨oc_law_draw, od_law_draw, .func (PySem.W.fnOf "_law_draw" "_law_draw" (defArgs (topS 62)) (defBody (topS 62)) (defScope (topS 62)) .none kV_law_draw dc_law_draw pm_law_draw an_law_draw cd_law_draw ct_law_draw), sl_law_draw⟩)
    (c_law_draw : PySem.W.codeIn K cd_law_draw "_law_draw" = true)
    (k_law_draw : PySem.W.keepIn K (.ref f_law_draw) = true)
    (a_law_refused : PySem.W.nsIn K mainGlobals "_law_refused" = some (some (.ref f_law_refused)))
    (l_law_refused : K.lookup f_law_refused = some ⟨oc_law_refused, od_law_refused, .func (PySem.W.fnOf "_law_refused" "_law_refused" (defArgs (topS 74)) (defBody (topS 74)) (defScope (topS 74)) .none kV_law_refused dc_law_refused pm_law_refused an_law_refused cd_law_refused ct_law_refused), sl_law_refused⟩)
    (c_law_refused : PySem.W.codeIn K cd_law_refused "_law_refused" = true)
    (k_law_refused : PySem.W.keepIn K (.ref f_law_refused) = true)
    (a_law : PySem.W.nsIn K mainGlobals "law" = some (some (.ref f_law)))
    (l_law : K.lookup f_law = some ⟨oc_law, od_law, .func (PySem.W.fnOf "law" "law" (defArgs (topS 75)) (defBody (topS 75)) (defScope (topS 75)) .none kV_law dc_law pm_law an_law cd_law ct_law), sl_law⟩)
    (c_law : PySem.W.codeIn K cd_law "law" = true)
    (k_law : PySem.W.keepIn K (.ref f_law) = true)
    (ne : PySem.W.findIn K (.ref C) "__ne__" = some (some (.builtin "object.__ne__")))
    (so : PySem.W.subIn K (.ref C) (.type "object") = some true)
    (aCM : PySem.W.nsIn K mainGlobals "Missing" = some (some (.ref CM)))
    (aCN : PySem.W.nsIn K mainGlobals "NoTable" = some (some (.ref CN)))
    (xL : K.lookup CN = some (excClassObj nmN qN CN NN bsN [.ref CM, .type "LookupError", .type "Exception", .type "BaseException", .type "object"] true snN subN abN colN ddN m0N m1N m2N m3N m5N "LookupError.__new__"))
    (saN : PySem.W.findIn K (.ref CN) "__setattr__" = some (some (.builtin "object.__setattr__")))
    (exN : PySem.W.subIn K (.ref CN) (.type "BaseException") = some true)
    (tyN : PySem.W.typeIn K (.ref CN) = some (.type "type"))
    (kCN : PySem.W.keepIn K (.ref CN) = true)
    (aN_init : PySem.W.findIn K (.ref CN) "__init__" = some (some (.ref f_N_init)))
    (tN : PySem.W.typeIn K (.ref f_N_init) = some (.type "function"))
    (nW : PySem.W.findIn K (.ref CN) "word" = some none)
    (nN : PySem.W.findIn K (.ref CN) "name" = some none)
    (z_LookupError : PySem.W.nsIn K mainGlobals "LookupError" = some none)
    (vV : PySem.W.findCls K (.type "LookupError") (.type "type") "__init__" = some (.val (.builtin "LookupError.__init__")))
    (rdM : PySem.W.readsIn K CM (.type "type") = true)
    (gaM : PySem.W.specialIn K (.ref CM) "__getattribute__" = some (some (.builtin "type.__getattribute__")))
    (cvM : PySem.W.findCls K (.ref CM) (.type "type") "__init__" = some (.val (.ref f_M_init)))
    (l_M_init : K.lookup f_M_init = some ⟨oc_M_init, od_M_init, .func (PySem.W.fnOf "__init__" "Missing.__init__" (defArgs (inClass (topS 3) 0)) (defBody (inClass (topS 3) 0)) (defScope (inClass (topS 3) 0)) .none kV_M_init dc_M_init pm_M_init an_M_init cd_M_init ct_M_init), sl_M_init⟩)
    (c_M_init : PySem.W.codeIn K cd_M_init "Missing.__init__" = true)
    (k_M_init : PySem.W.keepIn K (.ref f_M_init) = true)
    (l_N_init : K.lookup f_N_init = some ⟨oc_N_init, od_N_init, .func (PySem.W.fnOf "__init__" "NoTable.__init__" (defArgs (inClass (topS 7) 0)) (defBody (inClass (topS 7) 0)) (defScope (inClass (topS 7) 0)) .none kV_N_init dc_N_init pm_N_init an_N_init cd_N_init ct_N_init), sl_N_init⟩)
    (c_N_init : PySem.W.codeIn K cd_N_init "NoTable.__init__" = true)
    (k_N_init : PySem.W.keepIn K (.ref f_N_init) = true)
    (gaN : PySem.W.findIn K (.ref CN) "__getattribute__" = some (some (.builtin "BaseException.__getattribute__")))
    (ggN : PySem.W.findIn K (.ref CN) "__getattr__" = some none)
    (hdN : PySem.W.hasDictIn K CN = true)
    (hcN : PySem.W.findIn K (.ref CN) "__class__" = some (some (.builtin "object.__class__")))
    (hmN : PySem.W.mroIn K CN (.type "object") = some true)
    (icN : PySem.W.isClsIn K CN = true)
    (scN : PySem.W.subIn K (.ref CN) (.ref CN) = some true)
    (slN : PySem.W.subIn K (.ref CN) (.type "LookupError") = some true)
    : ∃ fd : FuncData, (∀ (s : Shared) (u : Value), BindsTo s fd ⟨[u], []⟩ [("_law_script", u)]) ∧ ∀ base : Heap, K.In base → base.Ns mainGlobals mg → FnOk P w K mg base CX0 9 fa fd ["_law_script"] (spLaw K) := by
  have e := hfa.symm.trans (PySem.W.mg_of X G a_law)
  cases e
  have M : ∀ (base : Heap) (fx : Option Addr), MF ⟨K, faOf f_of_moments f_of_stretches f_of_courses f_of_branches f_of_parts f_moment_triples f_stretch_triples f_course_triples f_branch_triples f_part_triples fx, C, fsL⟩ P w mg base := fun base fx => mf_mk X G z_len z_range z_list z_tuple z_isinstance z_all z_str z_int z_bool z_sorted z_set z_dict z_zip z_abs a_STRETCH_KINDS l_STRETCH_KINDS v_STRETCH_KINDS s_STRETCH_KINDS a_COURSE_KINDS l_COURSE_KINDS v_COURSE_KINDS s_COURSE_KINDS a_MOST_KINDS a_MOST_LETTERS a_LETTERS a_WORDS l_WORDS v_WORDS s_WORDS a_MOST_ENDS a_KIND_OF l_KIND_OF y_KIND_OF w_KIND_OF e_KIND_OF_moments e_KIND_OF_stretches e_KIND_OF_courses e_KIND_OF_branches e_KIND_OF_parts a_KINDS l_KINDS y_KINDS w_KINDS e_KINDS_moments l_KINDS_moments v_KINDS_moments s_KINDS_moments e_KINDS_stretches e_KINDS_courses e_KINDS_branches l_KINDS_branches v_KINDS_branches s_KINDS_branches e_KINDS_parts l_KINDS_parts v_KINDS_parts s_KINDS_parts a_TRIPLES l_TRIPLES y_TRIPLES w_TRIPLES e_TRIPLES_moments e_TRIPLES_stretches e_TRIPLES_courses e_TRIPLES_branches e_TRIPLES_parts a_sign l_sign c_sign k_sign a_of_moments l_of_moments c_of_moments k_of_moments a_beginning l_beginning c_beginning k_beginning a_earlier l_earlier c_earlier k_earlier a_of_stretches l_of_stretches c_of_stretches k_of_stretches a_of_courses l_of_courses c_of_courses k_of_courses a_of_branches l_of_branches c_of_branches k_of_branches a_of_parts l_of_parts c_of_parts k_of_parts a_places_in l_places_in c_places_in k_places_in a_bits_of l_bits_of c_bits_of k_bits_of a_moved l_moved c_moved k_moved a_joined_steps l_joined_steps c_joined_steps k_joined_steps a_back_fault l_back_fault c_back_fault k_back_fault a_same_fault l_same_fault c_same_fault k_same_fault a_turn_fault l_turn_fault c_turn_fault k_turn_fault a_row_fault l_row_fault c_row_fault k_row_fault a_first_fault l_first_fault c_first_fault k_first_fault a_bits_shown l_bits_shown c_bits_shown k_bits_shown a_is_name l_is_name c_is_name k_is_name a_are_names l_are_names c_are_names k_are_names a_within l_within c_within k_within a_square l_square c_square k_square a_need_form l_need_form c_need_form k_need_form a_bits_in l_bits_in c_bits_in k_bits_in a_parts_of l_parts_of c_parts_of k_parts_of a_stretch_triples l_stretch_triples c_stretch_triples k_stretch_triples a_moment_triples l_moment_triples c_moment_triples k_moment_triples a_course_triples l_course_triples c_course_triples k_course_triples a_part_triples l_part_triples c_part_triples k_part_triples a_branch_triples l_branch_triples c_branch_triples k_branch_triples a_need_word l_need_word c_need_word k_need_word a_seen_steps l_seen_steps c_seen_steps k_seen_steps a_seen_backs l_seen_backs c_seen_backs k_seen_backs a_built l_built c_built k_built a_law_kinds_of l_law_kinds_of c_law_kinds_of k_law_kinds_of a_law_in_order l_law_in_order c_law_in_order k_law_in_order a_law_table l_law_table c_law_table k_law_table a_law_things_of l_law_things_of c_law_things_of k_law_things_of a_law_triples l_law_triples c_law_triples k_law_triples a_law_sign l_law_sign c_law_sign k_law_sign a_law_kind_of_parts l_law_kind_of_parts c_law_kind_of_parts k_law_kind_of_parts a_law_kind_of_stretches l_law_kind_of_stretches c_law_kind_of_stretches k_law_kind_of_stretches a_law_kind_of l_law_kind_of c_law_kind_of k_law_kind_of a_law_seen_courses l_law_seen_courses c_law_seen_courses k_law_seen_courses a_law_seen l_law_seen c_law_seen k_law_seen a_law_same l_law_same c_law_same k_law_same aC a_Table_u__eq_u_ i_Table_u__eq_u_ l_Table_u__eq_u_ c_Table_u__eq_u_ k_Table_u__eq_u_ a_Table_place i_Table_place l_Table_place c_Table_place k_Table_place a_Table_shown i_Table_shown l_Table_shown c_Table_shown k_Table_shown a_Table_kinds i_Table_kinds l_Table_kinds c_Table_kinds k_Table_kinds a_Table_back i_Table_back l_Table_back c_Table_back k_Table_back a_Table_step i_Table_step l_Table_step c_Table_step k_Table_step a_init i_init l_init c_init k_init mk kC pg hd po sa no_names no_same no_own no_turned no_lines hcl hgt htk hmr
  have Ffl := fun_mk (st := topS 60) l_law_flow c_law_flow k_law_flow
  have Bfl := Ffl.binds (ps := ["_law_script"]) fun _ _ _ _ _ _ us hl => match us, hl with | [_], _ => rfl
  have Fdr := fun_mk (st := topS 62) l_law_draw c_law_draw k_law_draw
  have Bdr := Fdr.binds (ps := ["_law_flow_here", "_law_size"]) fun _ _ _ _ _ _ us hl => match us, hl with | [_, _], _ => rfl
  have Fre := fun_mk (st := topS 74) l_law_refused c_law_refused k_law_refused
  have Bre := Fre.binds (ps := ["_law_word"]) fun _ _ _ _ _ _ us hl => match us, hl with | [_], _ => rfl
  have Fla := fun_mk (st := topS 75) l_law c_law k_law
  have Bla := Fla.binds (ps := ["_law_script"]) fun _ _ _ _ _ _ us hl => match us, hl with | [_], _ => rfl
  have Fbu := fun_mk (st := topS 58) l_built c_built k_built
  have Bbu := Fbu.binds (ps := ["word"]) fun _ _ _ _ _ _ us hl => match us, hl with | [_], _ => rfl
  have Fnw := fun_mk (st := topS 55) l_need_word c_need_word k_need_word
  have Bnw := Fnw.binds (ps := ["word"]) fun _ _ _ _ _ _ us hl => match us, hl with | [_], _ => rfl
  have Fmi := fun_mk (st := inClass (topS 3) 0) l_M_init c_M_init k_M_init
  have Bmi := Fmi.binds (ps := ["self", "word"]) fun _ _ _ _ _ _ us hl => match us, hl with | [_, _], _ => rfl
  have Fni := fun_mk (st := inClass (topS 7) 0) l_N_init c_N_init k_N_init
  have Bni := Fni.binds (ps := ["self", "name"]) fun _ _ _ _ _ _ us hl => match us, hl with | [_, _], _ => rfl
  have X1 : ExF K mg CM CN f_M_init f_N_init _ _ := ⟨⟨⟨nmN, qN, NN, bsN, _, snN, subN, abN, colN, ddN, m0N, m1N, m2N, m3N, m5N, xL, show refsL [.type "LookupError", .type "Exception", .type "BaseException", .type "object"] = true from by decide +kernel⟩, saN, exN, tyN, kCN⟩, aN_init, tN, nW, nN, PySem.W.mg_of X G aCM, PySem.W.mg_of X G aCN, PySem.W.mg_none_of X G z_LookupError, vV, ⟨rdM, gaM⟩, ⟨cvM, rfl⟩, Fmi, Fni, Bmi, Bni⟩
  have Xf : XfC K CN := ⟨gaN, ggN, exN, hdN⟩
  have Xc : ExcC K CN := ⟨gaN, ggN, exN, hdN, hcN, hgt, htk, hmN⟩
  refine ⟨PySem.W.fnOf "law" "law" (defArgs (topS 75)) (defBody (topS 75)) (defScope (topS 75)) .none kV_law dc_law pm_law an_law cd_law ct_law, fun s u => .of_eq rfl, fun base _ _ => ?_⟩
  have GR := ok_refused (M base none) X1 Xf Xc (exm_own exN icN tyN scN) (kit_le slN) Fre Fbu (PySem.W.mg_of X G a_built) Bbu Fnw (PySem.W.mg_of X G a_need_word) Bnw
  exact ok_law (C := C) (fs := fsL) (fa := fun x => faOf f_of_moments f_of_stretches f_of_courses f_of_branches f_of_parts f_moment_triples f_stretch_triples f_course_triples f_branch_triples f_part_triples x) (fun _ => rfl) (M base) (fun x => ne_ok (M base x) ne so) hTest hBody hSame hOdd Fla (ok_flow Ffl (PySem.W.mg_none_of X G z_list)) (PySem.W.mg_of X G a_law_flow) k_law_flow Bfl (ok_draw Fdr (PySem.W.mg_none_of X G z_len) (PySem.W.mg_none_of X G z_abs)) (PySem.W.mg_of X G a_law_draw) k_law_draw Bdr GR (PySem.W.mg_of X G a_law_refused) k_law_refused Bre
end PD
end
set_option Elab.async false
set_option linter.all false
open PySem PySem.W PyProof.Rows
set_option maxRecDepth 100000 in
set_option maxHeartbeats 0 in
theorem PySem.Challenge.cw_kindweft_k09_whole_built_tables_as_seen_holds : PySem.Challenge.rw_kindweft_k09_whole_built_tables_as_seen.Holds := by
  w_on; o_law; k_head; (case hw => w_witness2)
  k_fill
  refine L2.walk_ofK (l := PySem.Challenge.rw_kindweft_k09_whole_built_tables_as_seen) (n := 63) (k := 9) (x := "_law_script") (CX := L2.CX0) (sp := PD.spLaw) rfl (by decide) rfl ⟨rfl, by decide, by decide⟩ (fun w h Y => PySem.W.kIn_of Y) ?F (fun _ _ a ns hl _ hS => ⟨a, ns, rfl, hS, hl, fun _ => rfl⟩) (fun _ _ _ _ h => h)
  case F =>
    intro w mg fa h KX G hmg
    refine' PD.all_mk KX G hmg ?z_len ?z_range ?z_list ?z_tuple ?z_isinstance ?z_all ?z_str ?z_int ?z_bool ?z_sorted ?z_set ?z_dict ?z_zip ?z_abs ?a_STRETCH_KINDS ?l_STRETCH_KINDS ?v_STRETCH_KINDS ?s_STRETCH_KINDS ?a_COURSE_KINDS ?l_COURSE_KINDS ?v_COURSE_KINDS ?s_COURSE_KINDS ?a_MOST_KINDS ?a_MOST_LETTERS ?a_LETTERS ?a_WORDS ?l_WORDS ?v_WORDS ?s_WORDS ?a_MOST_ENDS ?a_KIND_OF ?l_KIND_OF ?y_KIND_OF ?w_KIND_OF ?e_KIND_OF_moments ?e_KIND_OF_stretches ?e_KIND_OF_courses ?e_KIND_OF_branches ?e_KIND_OF_parts ?a_KINDS ?l_KINDS ?y_KINDS ?w_KINDS ?e_KINDS_moments ?l_KINDS_moments ?v_KINDS_moments ?s_KINDS_moments ?e_KINDS_stretches ?e_KINDS_courses ?e_KINDS_branches ?l_KINDS_branches ?v_KINDS_branches ?s_KINDS_branches ?e_KINDS_parts ?l_KINDS_parts ?v_KINDS_parts ?s_KINDS_parts ?a_TRIPLES ?l_TRIPLES ?y_TRIPLES ?w_TRIPLES ?e_TRIPLES_moments ?e_TRIPLES_stretches ?e_TRIPLES_courses ?e_TRIPLES_branches ?e_TRIPLES_parts ?a_sign ?l_sign ?c_sign ?k_sign ?a_of_moments ?l_of_moments ?c_of_moments ?k_of_moments ?a_beginning ?l_beginning ?c_beginning ?k_beginning ?a_earlier ?l_earlier ?c_earlier ?k_earlier ?a_of_stretches ?l_of_stretches ?c_of_stretches ?k_of_stretches ?a_of_courses ?l_of_courses ?c_of_courses ?k_of_courses ?a_of_branches ?l_of_branches ?c_of_branches ?k_of_branches ?a_of_parts ?l_of_parts ?c_of_parts ?k_of_parts ?a_places_in ?l_places_in ?c_places_in ?k_places_in ?a_bits_of ?l_bits_of ?c_bits_of ?k_bits_of ?a_moved ?l_moved ?c_moved ?k_moved ?a_joined_steps ?l_joined_steps ?c_joined_steps ?k_joined_steps ?a_back_fault ?l_back_fault ?c_back_fault ?k_back_fault ?a_same_fault ?l_same_fault ?c_same_fault ?k_same_fault ?a_turn_fault ?l_turn_fault ?c_turn_fault ?k_turn_fault ?a_row_fault ?l_row_fault ?c_row_fault ?k_row_fault ?a_first_fault ?l_first_fault ?c_first_fault ?k_first_fault ?a_bits_shown ?l_bits_shown ?c_bits_shown ?k_bits_shown ?a_is_name ?l_is_name ?c_is_name ?k_is_name ?a_are_names ?l_are_names ?c_are_names ?k_are_names ?a_within ?l_within ?c_within ?k_within ?a_square ?l_square ?c_square ?k_square ?a_need_form ?l_need_form ?c_need_form ?k_need_form ?a_bits_in ?l_bits_in ?c_bits_in ?k_bits_in ?a_parts_of ?l_parts_of ?c_parts_of ?k_parts_of ?a_stretch_triples ?l_stretch_triples ?c_stretch_triples ?k_stretch_triples ?a_moment_triples ?l_moment_triples ?c_moment_triples ?k_moment_triples ?a_course_triples ?l_course_triples ?c_course_triples ?k_course_triples ?a_part_triples ?l_part_triples ?c_part_triples ?k_part_triples ?a_branch_triples ?l_branch_triples ?c_branch_triples ?k_branch_triples ?a_need_word ?l_need_word ?c_need_word ?k_need_word ?a_seen_steps ?l_seen_steps ?c_seen_steps ?k_seen_steps ?a_seen_backs ?l_seen_backs ?c_seen_backs ?k_seen_backs ?a_built ?l_built ?c_built ?k_built ?a_law_kinds_of ?l_law_kinds_of ?c_law_kinds_of ?k_law_kinds_of ?a_law_in_order ?l_law_in_order ?c_law_in_order ?k_law_in_order ?a_law_table ?l_law_table ?c_law_table ?k_law_table ?a_law_things_of ?l_law_things_of ?c_law_things_of ?k_law_things_of ?a_law_triples ?l_law_triples ?c_law_triples ?k_law_triples ?a_law_sign ?l_law_sign ?c_law_sign ?k_law_sign ?a_law_kind_of_parts ?l_law_kind_of_parts ?c_law_kind_of_parts ?k_law_kind_of_parts ?a_law_kind_of_stretches ?l_law_kind_of_stretches ?c_law_kind_of_stretches ?k_law_kind_of_stretches ?a_law_kind_of ?l_law_kind_of ?c_law_kind_of ?k_law_kind_of ?a_law_seen_courses ?l_law_seen_courses ?c_law_seen_courses ?k_law_seen_courses ?a_law_seen ?l_law_seen ?c_law_seen ?k_law_seen ?a_law_same ?l_law_same ?c_law_same ?k_law_same ?aC ?a_Table_u__eq_u_ ?i_Table_u__eq_u_ ?l_Table_u__eq_u_ ?c_Table_u__eq_u_ ?k_Table_u__eq_u_ ?a_Table_place ?i_Table_place ?l_Table_place ?c_Table_place ?k_Table_place ?a_Table_shown ?i_Table_shown ?l_Table_shown ?c_Table_shown ?k_Table_shown ?a_Table_kinds ?i_Table_kinds ?l_Table_kinds ?c_Table_kinds ?k_Table_kinds ?a_Table_back ?i_Table_back ?l_Table_back ?c_Table_back ?k_Table_back ?a_Table_step ?i_Table_step ?l_Table_step ?c_Table_step ?k_Table_step ?a_init ?i_init ?l_init ?c_init ?k_init ?mk ?kC ?pg ?hd ?po ?sa ?no_names ?no_same ?no_own ?no_turned ?no_lines ?hcl ?hgt ?htk ?hmr ?a_law_flow ?l_law_flow ?c_law_flow ?k_law_flow ?a_law_draw ?l_law_draw ?c_law_draw ?k_law_draw ?a_law_refused ?l_law_refused ?c_law_refused ?k_law_refused ?a_law ?l_law ?c_law ?k_law ?ne ?so ?aCM ?aCN ?xL ?saN ?exN ?tyN ?kCN ?aN_init ?tN ?nW ?nN ?z_LookupError ?vV ?rdM ?gaM ?cvM ?l_M_init ?c_M_init ?k_M_init ?l_N_init ?c_N_init ?k_N_init ?gaN ?ggN ?hdN ?hcN ?hmN ?icN ?scN ?slN
    (case z_len => k_is)
    (case z_range => k_is)
    (case z_list => k_is)
    (case z_tuple => k_is)
    (case z_isinstance => k_is)
    (case z_all => k_is)
    (case z_str => k_is)
    (case z_int => k_is)
    (case z_bool => k_is)
    (case z_sorted => k_is)
    (case z_set => k_is)
    (case z_dict => k_is)
    (case z_zip => k_is)
    (case z_abs => k_is)
    (case a_STRETCH_KINDS => k_is)
    (case l_STRETCH_KINDS => k_is)
    (case v_STRETCH_KINDS => (repeat (first | exact .nil | refine .cons ⟨_, rfl⟩ ?_)))
    (case s_STRETCH_KINDS => decide +kernel)
    (case a_COURSE_KINDS => k_is)
    (case l_COURSE_KINDS => k_is)
    (case v_COURSE_KINDS => (repeat (first | exact .nil | refine .cons ⟨_, rfl⟩ ?_)))
    (case s_COURSE_KINDS => decide +kernel)
    (case a_MOST_KINDS => k_is)
    (case a_MOST_LETTERS => k_is)
    (case a_LETTERS => k_is)
    (case a_WORDS => k_is)
    (case l_WORDS => k_is)
    (case v_WORDS => (repeat (first | exact .nil | refine .cons ⟨_, rfl⟩ ?_)))
    (case s_WORDS => decide +kernel)
    (case a_MOST_ENDS => k_is)
    (case a_KIND_OF => k_is)
    (case l_KIND_OF => k_is)
    (case y_KIND_OF => k_keys)
    (case w_KIND_OF => decide)
    (case e_KIND_OF_moments => k_is)
    (case e_KIND_OF_stretches => k_is)
    (case e_KIND_OF_courses => k_is)
    (case e_KIND_OF_branches => k_is)
    (case e_KIND_OF_parts => k_is)
    (case a_KINDS => k_is)
    (case l_KINDS => k_is)
    (case y_KINDS => k_keys)
    (case w_KINDS => decide)
    (case e_KINDS_moments => k_is)
    (case l_KINDS_moments => k_is)
    (case v_KINDS_moments => (repeat (first | exact .nil | refine .cons ⟨_, rfl⟩ ?_)))
    (case s_KINDS_moments => decide +kernel)
    (case e_KINDS_stretches => k_is)
    (case e_KINDS_courses => k_is)
    (case e_KINDS_branches => k_is)
    (case l_KINDS_branches => k_is)
    (case v_KINDS_branches => (repeat (first | exact .nil | refine .cons ⟨_, rfl⟩ ?_)))
    (case s_KINDS_branches => decide +kernel)
    (case e_KINDS_parts => k_is)
    (case l_KINDS_parts => k_is)
    (case v_KINDS_parts => (repeat (first | exact .nil | refine .cons ⟨_, rfl⟩ ?_)))
    (case s_KINDS_parts => decide +kernel)
    (case a_TRIPLES => k_is)
    (case l_TRIPLES => k_is)
    (case y_TRIPLES => k_keys)
    (case w_TRIPLES => decide)
    (case e_TRIPLES_moments => k_is)
    (case e_TRIPLES_stretches => k_is)
    (case e_TRIPLES_courses => k_is)
    (case e_TRIPLES_branches => k_is)
    (case e_TRIPLES_parts => k_is)
    (case a_sign => k_is)
    (case l_sign => k_is)
    (case c_sign => k_is)
    (case k_sign => k_is)
    (case a_of_moments => k_is)
    (case l_of_moments => k_is)
    (case c_of_moments => k_is)
    (case k_of_moments => k_is)
    (case a_beginning => k_is)
    (case l_beginning => k_is)
    (case c_beginning => k_is)
    (case k_beginning => k_is)
    (case a_earlier => k_is)
    (case l_earlier => k_is)
    (case c_earlier => k_is)
    (case k_earlier => k_is)
    (case a_of_stretches => k_is)
    (case l_of_stretches => k_is)
    (case c_of_stretches => k_is)
    (case k_of_stretches => k_is)
    (case a_of_courses => k_is)
    (case l_of_courses => k_is)
    (case c_of_courses => k_is)
    (case k_of_courses => k_is)
    (case a_of_branches => k_is)
    (case l_of_branches => k_is)
    (case c_of_branches => k_is)
    (case k_of_branches => k_is)
    (case a_of_parts => k_is)
    (case l_of_parts => k_is)
    (case c_of_parts => k_is)
    (case k_of_parts => k_is)
    (case a_places_in => k_is)
    (case l_places_in => k_is)
    (case c_places_in => k_is)
    (case k_places_in => k_is)
    (case a_bits_of => k_is)
    (case l_bits_of => k_is)
    (case c_bits_of => k_is)
    (case k_bits_of => k_is)
    (case a_moved => k_is)
    (case l_moved => k_is)
    (case c_moved => k_is)
    (case k_moved => k_is)
    (case a_joined_steps => k_is)
    (case l_joined_steps => k_is)
    (case c_joined_steps => k_is)
    (case k_joined_steps => k_is)
    (case a_back_fault => k_is)
    (case l_back_fault => k_is)
    (case c_back_fault => k_is)
    (case k_back_fault => k_is)
    (case a_same_fault => k_is)
    (case l_same_fault => k_is)
    (case c_same_fault => k_is)
    (case k_same_fault => k_is)
    (case a_turn_fault => k_is)
    (case l_turn_fault => k_is)
    (case c_turn_fault => k_is)
    (case k_turn_fault => k_is)
    (case a_row_fault => k_is)
    (case l_row_fault => k_is)
    (case c_row_fault => k_is)
    (case k_row_fault => k_is)
    (case a_first_fault => k_is)
    (case l_first_fault => k_is)
    (case c_first_fault => k_is)
    (case k_first_fault => k_is)
    (case a_bits_shown => k_is)
    (case l_bits_shown => k_is)
    (case c_bits_shown => k_is)
    (case k_bits_shown => k_is)
    (case a_is_name => k_is)
    (case l_is_name => k_is)
    (case c_is_name => k_is)
    (case k_is_name => k_is)
    (case a_are_names => k_is)
    (case l_are_names => k_is)
    (case c_are_names => k_is)
    (case k_are_names => k_is)
    (case a_within => k_is)
    (case l_within => k_is)
    (case c_within => k_is)
    (case k_within => k_is)
    (case a_square => k_is)
    (case l_square => k_is)
    (case c_square => k_is)
    (case k_square => k_is)
    (case a_need_form => k_is)
    (case l_need_form => k_is)
    (case c_need_form => k_is)
    (case k_need_form => k_is)
    (case a_bits_in => k_is)
    (case l_bits_in => k_is)
    (case c_bits_in => k_is)
    (case k_bits_in => k_is)
    (case a_parts_of => k_is)
    (case l_parts_of => k_is)
    (case c_parts_of => k_is)
    (case k_parts_of => k_is)
    (case a_stretch_triples => k_is)
    (case l_stretch_triples => k_is)
    (case c_stretch_triples => k_is)
    (case k_stretch_triples => k_is)
    (case a_moment_triples => k_is)
    (case l_moment_triples => k_is)
    (case c_moment_triples => k_is)
    (case k_moment_triples => k_is)
    (case a_course_triples => k_is)
    (case l_course_triples => k_is)
    (case c_course_triples => k_is)
    (case k_course_triples => k_is)
    (case a_part_triples => k_is)
    (case l_part_triples => k_is)
    (case c_part_triples => k_is)
    (case k_part_triples => k_is)
    (case a_branch_triples => k_is)
    (case l_branch_triples => k_is)
    (case c_branch_triples => k_is)
    (case k_branch_triples => k_is)
    (case a_need_word => k_is)
    (case l_need_word => k_is)
    (case c_need_word => k_is)
    (case k_need_word => k_is)
    (case a_seen_steps => k_is)
    (case l_seen_steps => k_is)
    (case c_seen_steps => k_is)
    (case k_seen_steps => k_is)
    (case a_seen_backs => k_is)
    (case l_seen_backs => k_is)
    (case c_seen_backs => k_is)
    (case k_seen_backs => k_is)
    (case a_built => k_is)
    (case l_built => k_is)
    (case c_built => k_is)
    (case k_built => k_is)
    (case a_law_kinds_of => k_is)
    (case l_law_kinds_of => k_is)
    (case c_law_kinds_of => k_is)
    (case k_law_kinds_of => k_is)
    (case a_law_in_order => k_is)
    (case l_law_in_order => k_is)
    (case c_law_in_order => k_is)
    (case k_law_in_order => k_is)
    (case a_law_table => k_is)
    (case l_law_table => k_is)
    (case c_law_table => k_is)
    (case k_law_table => k_is)
    (case a_law_things_of => k_is)
    (case l_law_things_of => k_is)
    (case c_law_things_of => k_is)
    (case k_law_things_of => k_is)
    (case a_law_triples => k_is)
    (case l_law_triples => k_is)
    (case c_law_triples => k_is)
    (case k_law_triples => k_is)
    (case a_law_sign => k_is)
    (case l_law_sign => k_is)
    (case c_law_sign => k_is)
    (case k_law_sign => k_is)
    (case a_law_kind_of_parts => k_is)
    (case l_law_kind_of_parts => k_is)
    (case c_law_kind_of_parts => k_is)
    (case k_law_kind_of_parts => k_is)
    (case a_law_kind_of_stretches => k_is)
    (case l_law_kind_of_stretches => k_is)
    (case c_law_kind_of_stretches => k_is)
    (case k_law_kind_of_stretches => k_is)
    (case a_law_kind_of => k_is)
    (case l_law_kind_of => k_is)
    (case c_law_kind_of => k_is)
    (case k_law_kind_of => k_is)
    (case a_law_seen_courses => k_is)
    (case l_law_seen_courses => k_is)
    (case c_law_seen_courses => k_is)
    (case k_law_seen_courses => k_is)
    (case a_law_seen => k_is)
    (case l_law_seen => k_is)
    (case c_law_seen => k_is)
    (case k_law_seen => k_is)
    (case a_law_same => k_is)
    (case l_law_same => k_is)
    (case c_law_same => k_is)
    (case k_law_same => k_is)
    (case aC => k_is)
    (case a_Table_u__eq_u_ => k_is)
    (case i_Table_u__eq_u_ => k_is)
    (case l_Table_u__eq_u_ => k_is)
    (case c_Table_u__eq_u_ => k_is)
    (case k_Table_u__eq_u_ => k_is)
    (case a_Table_place => k_is)
    (case i_Table_place => k_is)
    (case l_Table_place => k_is)
    (case c_Table_place => k_is)
    (case k_Table_place => k_is)
    (case a_Table_shown => k_is)
    (case i_Table_shown => k_is)
    (case l_Table_shown => k_is)
    (case c_Table_shown => k_is)
    (case k_Table_shown => k_is)
    (case a_Table_kinds => k_is)
    (case i_Table_kinds => k_is)
    (case l_Table_kinds => k_is)
    (case c_Table_kinds => k_is)
    (case k_Table_kinds => k_is)
    (case a_Table_back => k_is)
    (case i_Table_back => k_is)
    (case l_Table_back => k_is)
    (case c_Table_back => k_is)
    (case k_Table_back => k_is)
    (case a_Table_step => k_is)
    (case i_Table_step => k_is)
    (case l_Table_step => k_is)
    (case c_Table_step => k_is)
    (case k_Table_step => k_is)
    (case a_init => k_is)
    (case i_init => k_is)
    (case l_init => k_is)
    (case c_init => k_is)
    (case k_init => k_is)
    (case mk => k_is)
    (case kC => k_is)
    (case pg => k_is)
    (case hd => k_is)
    (case po => k_is)
    (case sa => k_is)
    (case no_names => k_is)
    (case no_same => k_is)
    (case no_own => k_is)
    (case no_turned => k_is)
    (case no_lines => k_is)
    (case hcl => k_is)
    (case hgt => k_is)
    (case htk => k_is)
    (case hmr => k_is)
    (case a_law_flow => k_is)
    (case l_law_flow => k_is)
    (case c_law_flow => k_is)
    (case k_law_flow => k_is)
    (case a_law_draw => k_is)
    (case l_law_draw => k_is)
    (case c_law_draw => k_is)
    (case k_law_draw => k_is)
    (case a_law_refused => k_is)
    (case l_law_refused => k_is)
    (case c_law_refused => k_is)
    (case k_law_refused => k_is)
    (case a_law => k_is)
    (case l_law => k_is)
    (case c_law => k_is)
    (case k_law => k_is)
    (case ne => k_is)
    (case so => k_is)
    (case aCM => k_is)
    (case aCN => k_is)
    (case xL => k_is)
    (case saN => k_is)
    (case exN => k_is)
    (case tyN => k_is)
    (case kCN => k_is)
    (case aN_init => k_is)
    (case tN => k_is)
    (case nW => k_is)
    (case nN => k_is)
    (case z_LookupError => k_is)
    (case vV => k_is)
    (case rdM => k_is)
    (case gaM => k_is)
    (case cvM => k_is)
    (case l_M_init => k_is)
    (case c_M_init => k_is)
    (case k_M_init => k_is)
    (case l_N_init => k_is)
    (case c_N_init => k_is)
    (case k_N_init => k_is)
    (case gaN => k_is)
    (case ggN => k_is)
    (case hdN => k_is)
    (case hcN => k_is)
    (case hmN => k_is)
    (case icN => k_is)
    (case scN => (first | rfl | k_is))
    (case slN => k_is)
