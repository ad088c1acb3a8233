import PyProof.Rows.All
import Wide.All
import OpenK.AllK
import Wide.FinOn
import HandS.ForMost
import HandS.ForExc
import HandS.Flow
import HandS.Lambda
import HandS.Deep
import HandS.Style
import HandS.TupAny
import HandS.Text
import HandS.Wide
import HandS.Iter
import HandS.CallSlots
import HandS.Defaults
import HandS.IsInst
import HandS.OwnEq
import PyProof.InstNe
import HandS.TupSets
import HandS.SetFor
import HandS.SetTxt0
import HandS.SetKeys
import HandS.SortRule
import HandS.IterVal
import KE.KOwnIter
import HandS.OwnIter
import HandS.Star
import HandS.DictComp
import HandS.ExcInit
import HandS.ExcOwn
import HandS.ExcField
import HandS.LawCells
import HandS.Zip0
import PyProof.SumWalkG
import HandS.HeadWalk
import HandS.ExcIs
import KE.KExcIs
import HandS.EndTab
import HandS.HeadHook2
import KE.KNestM
import PySem.Challenge.RW_handedkeys_k02_whole_policies
set_option Elab.async false
set_option linter.all false
set_option maxRecDepth 100000
set_option autoImplicit false
set_option maxHeartbeats 4000000
namespace DL
open PySem PySem.Spec L2
open PyProof.Rows hiding St
/-- immutable data (a list or dict is taken for one that nobody changes any more) -/
inductive D where
  | non | bl (b : Bool) | int (i : Int) | str (x : Str)
  | tup (ds : List D) | lst (ds : List D) | dct (t : Bool) (kvs : List (D × D)) | ins (c : Str) (fs : List (Str × D))
  | scr (ns : List Int)
  deriving Inhabited
/-- what a def owns and may change -/
inductive Cell where
  | lst (ds : List D) | dct (t : Bool) (kvs : List (D × D)) | ins (c : Str) (fs : List (Str × D))
  deriving Inhabited
def Cell.view : Cell → D
  | .lst ds => .lst ds
  | .dct t kvs => .dct t kvs
  | .ins c fs => .ins c fs
/-- a value: data, or the i-th cell -/
inductive Vl where
  | im (d : D) | cl (i : Nat)
  deriving Inhabited
abbrev Gam := List (Option Vl)
abbrev Sto := List (Option Cell)
def Vl.view (S : Sto) : Vl → Option D
  | .im d => some d
  | .cl i => match S[i]? with
    | some (some c) => some c.view
    | _ => none
def kD : Key → D
  | .inl i => .int i
  | .inr x => .str x
theorem kD_inj {a b : Key} (h : kD a = kD b) : a = b := by
  cases a <;> cases b <;> simp [kD] at h <;> simp [h]
/-- a text that may lie in a heap -/
def SOk (x : Str) : Prop := PyData.strOk x = true ∧ x.length ≤ sizeLine
instance (x : Str) : Decidable (SOk x) := by unfold SOk; exact inferInstance
/-- a tuple of the written part -/
def Wt (K : PySem.W.Frag) (a : Addr) (vs : List V) : Prop :=
  ∃ (o : Obj) (its : Array Value) (n : Nat), K.lookup a = some o ∧ o.cls = .type "tuple" ∧ o.data = .seq its n ∧ its.size ≤ sizeLine ∧ Vals vs its.toList
/-- the script: a list of ints that nobody changes -/
def ScrAt (K : PySem.W.Frag) (B : Addr → Prop) (H : Hp) (a : Addr) (ns : List Int) : Prop := (Rd H a (.lst (ns.map V.int)) ∧ ¬ B a) ∨
  ∃ (o : Obj) (its : Array Value) (n : Nat), K.lookup a = some o ∧ o.cls = .type "list" ∧ o.dict = none ∧ o.data = .seq its n ∧ its.size ≤ sizeLine ∧ Vals (ns.map V.int) its.toList
theorem ScrAt.sq {K : PySem.W.Frag} {B : Addr → Prop} {H : Hp} {a : Addr} {ns : List Int} (h : ScrAt K B H a ns) : SqL K H a (ns.map V.int) := h.elim (fun z => .inl z.1) .inr
section
variable (K : PySem.W.Frag) (mg : Str → Option Value) (B : Addr → Prop) (H : Hp)
mutual
/-- v is the data d in H, and no part of it is banned -/
inductive RD : V → D → Prop
  | non : RD .non .non
  | bl (b : Bool) : RD (.bl b) (.bl b)
  | int (i : Int) : RD (.int i) (.int i)
  | str (x : Str) : SOk x → RD (.str x) (.str x)
  | tup {a : Addr} {vs : List V} {ds : List D} : H a = some (.tup vs) → ¬ B a → RDs vs ds → RD (.ref a) (.tup ds)
  | wtup {a : Addr} : Wt K a [] → RD (.ref a) (.tup [])
  | lst {a : Addr} {vs : List V} {ds : List D} : H a = some (.lst vs) → ¬ B a → RDs vs ds → RD (.ref a) (.lst ds)
  | dK {a : Addr} {o : Obj} {kvs : List (Key × V)} {ds : List (D × D)} : H a = some (.frz o (.dK kvs)) → ¬ B a → RDk kvs ds → RD (.ref a) (.dct false ds)
  | dT {a : Addr} {o : Obj} {kvs : List (List Key × V)} {ds : List (D × D)} : H a = some (.frz o (.dT kvs)) → ¬ B a → RDt kvs ds → RD (.ref a) (.dct true ds)
  | ins {a C dx : Addr} {fvs : List (Str × V)} {c : Str} {fs : List (Str × D)} : H a = some (.ins C dx fvs) → ¬ B a → mg c = some (.ref C) → RDf fvs fs → RD (.ref a) (.ins c fs)
  | scr {a : Addr} {ns : List Int} : ScrAt K B H a ns → RD (.ref a) (.scr ns)
inductive RDs : List V → List D → Prop
  | nil : RDs [] []
  | cons {v : V} {d : D} {vs : List V} {ds : List D} : RD v d → RDs vs ds → RDs (v :: vs) (d :: ds)
inductive RDk : List (Key × V) → List (D × D) → Prop
  | nil : RDk [] []
  | cons {k : Key} {v : V} {d : D} {vs : List (Key × V)} {ds : List (D × D)} : RD v d → RDk vs ds → RDk ((k, v) :: vs) ((kD k, d) :: ds)
inductive RDt : List (List Key × V) → List (D × D) → Prop
  | nil : RDt [] []
  | cons {k : List Key} {v : V} {d : D} {vs : List (List Key × V)} {ds : List (D × D)} : RD v d → RDt vs ds → RDt ((k, v) :: vs) ((.tup (k.map kD), d) :: ds)
inductive RDf : List (Str × V) → List (Str × D) → Prop
  | nil : RDf [] []
  | cons {f : Str} {v : V} {d : D} {vs : List (Str × V)} {ds : List (Str × D)} : RD v d → RDf vs ds → RDf ((f, v) :: vs) ((f, d) :: ds)
end
/-- read at the top: the object itself may be banned (a cell), its parts are not -/
inductive RT : V → D → Prop
  | of {v : V} {d : D} : RD K mg B H v d → RT v d
  | lst {a : Addr} {vs : List V} {ds : List D} : H a = some (.lst vs) → RDs K mg B H vs ds → RT (.ref a) (.lst ds)
  | dK {a : Addr} {kvs : List (Key × V)} {ds : List (D × D)} : Rd H a (.dK kvs) → RDk K mg B H kvs ds → RT (.ref a) (.dct false ds)
  | dT {a : Addr} {kvs : List (List Key × V)} {ds : List (D × D)} : Rd H a (.dT kvs) → RDt K mg B H kvs ds → RT (.ref a) (.dct true ds)
  | ins {a C dx : Addr} {fvs : List (Str × V)} {c : Str} {fs : List (Str × D)} : H a = some (.ins C dx fvs) → mg c = some (.ref C) → RDf K mg B H fvs fs → RT (.ref a) (.ins c fs)
end
/-- what stands and is not banned goes on so -/
def Gr (B : Addr → Prop) (H : Hp) (B' : Addr → Prop) (H' : Hp) : Prop := ∀ a o, H a = some o → ¬ B a → H' a = some o ∧ ¬ B' a
theorem Gr.refl {B : Addr → Prop} {H : Hp} : Gr B H B H := fun _ _ h b => ⟨h, b⟩
theorem Gr.trans {B B1 B2 : Addr → Prop} {H H1 H2 : Hp} (h : Gr B H B1 H1) (k : Gr B1 H1 B2 H2) : Gr B H B2 H2 := fun a o e b => let ⟨e1, b1⟩ := h a o e b; k a o e1 b1
theorem Gr.rd {B B' : Addr → Prop} {H H' : Hp} (g : Gr B H B' H') {a : Addr} {u : HO} (h : Rd H a u) (b : ¬ B a) : Rd H' a u ∧ ¬ B' a := by
  rcases h with h | ⟨o, h⟩
  · exact ⟨.inl (g a _ h b).1, (g a _ h b).2⟩
  · exact ⟨.inr ⟨o, (g a _ h b).1⟩, (g a _ h b).2⟩
theorem ScrAt.mono {K : PySem.W.Frag} {B B' : Addr → Prop} {H H' : Hp} {a : Addr} {ns : List Int} (h : ScrAt K B H a ns) (g : Gr B H B' H') : ScrAt K B' H' a ns := by
  rcases h with ⟨h, b⟩ | h
  · exact .inl (g.rd h b)
  · exact .inr h
section
variable {K : PySem.W.Frag} {mg : Str → Option Value} {B B' : Addr → Prop} {H H' : Hp}
mutual
theorem RD.mono (g : Gr B H B' H') : ∀ {v : V} {d : D}, RD K mg B H v d → RD K mg B' H' v d
  | _, _, .non => .non
  | _, _, .bl b => .bl b
  | _, _, .int i => .int i
  | _, _, .str x h => .str x h
  | _, _, .tup h b r => .tup (g _ _ h b).1 (g _ _ h b).2 (RDs.mono g r)
  | _, _, .wtup w => .wtup w
  | _, _, .lst h b r => .lst (g _ _ h b).1 (g _ _ h b).2 (RDs.mono g r)
  | _, _, .dK h b r => .dK (g _ _ h b).1 (g _ _ h b).2 (RDk.mono g r)
  | _, _, .dT h b r => .dT (g _ _ h b).1 (g _ _ h b).2 (RDt.mono g r)
  | _, _, .ins h b m r => .ins (g _ _ h b).1 (g _ _ h b).2 m (RDf.mono g r)
  | _, _, .scr h => .scr (h.mono g)
theorem RDs.mono (g : Gr B H B' H') : ∀ {vs : List V} {ds : List D}, RDs K mg B H vs ds → RDs K mg B' H' vs ds
  | _, _, .nil => .nil
  | _, _, .cons r t => .cons (RD.mono g r) (RDs.mono g t)
theorem RDk.mono (g : Gr B H B' H') : ∀ {vs : List (Key × V)} {ds : List (D × D)}, RDk K mg B H vs ds → RDk K mg B' H' vs ds
  | _, _, .nil => .nil
  | _, _, .cons r t => .cons (RD.mono g r) (RDk.mono g t)
theorem RDt.mono (g : Gr B H B' H') : ∀ {vs : List (List Key × V)} {ds : List (D × D)}, RDt K mg B H vs ds → RDt K mg B' H' vs ds
  | _, _, .nil => .nil
  | _, _, .cons r t => .cons (RD.mono g r) (RDt.mono g t)
theorem RDf.mono (g : Gr B H B' H') : ∀ {vs : List (Str × V)} {ds : List (Str × D)}, RDf K mg B H vs ds → RDf K mg B' H' vs ds
  | _, _, .nil => .nil
  | _, _, .cons r t => .cons (RD.mono g r) (RDf.mono g t)
end
theorem RDs.length : ∀ {vs : List V} {ds : List D}, RDs K mg B H vs ds → vs.length = ds.length
  | _, _, .nil => rfl
  | _, _, .cons _ t => congrArg (· + 1) (RDs.length t)
theorem RDs.get : ∀ {vs : List V} {ds : List D} {i : Nat} {d : D}, RDs K mg B H vs ds → ds[i]? = some d → ∃ v, vs[i]? = some v ∧ RD K mg B H v d
  | _, _, _, _, .nil, e => by simp at e
  | _, _, 0, _, .cons r _, e => by simp at e; subst e; exact ⟨_, rfl, r⟩
  | _, _, i + 1, d, .cons _ t, e => by
    obtain ⟨u, h1, h2⟩ := RDs.get (i := i) (d := d) t (by simpa using e)
    exact ⟨u, by simpa using h1, h2⟩
theorem RDs.getV : ∀ {vs : List V} {ds : List D} {i : Nat} {v : V}, RDs K mg B H vs ds → vs[i]? = some v → ∃ d, ds[i]? = some d ∧ RD K mg B H v d
  | _, _, _, _, .nil, e => by simp at e
  | _, _, 0, _, .cons r _, e => by simp at e; subst e; exact ⟨_, rfl, r⟩
  | _, _, i + 1, d, .cons _ t, e => by
    obtain ⟨u, h1, h2⟩ := RDs.getV (i := i) (v := d) t (by simpa using e)
    exact ⟨u, by simpa using h1, h2⟩
theorem RDs.append : ∀ {vs ws : List V} {ds es : List D}, RDs K mg B H vs ds → RDs K mg B H ws es → RDs K mg B H (vs ++ ws) (ds ++ es)
  | _, _, _, _, .nil, s => s
  | _, _, _, _, .cons r t, s => .cons r (RDs.append t s)
theorem RDs.take : ∀ {vs : List V} {ds : List D} (n : Nat), RDs K mg B H vs ds → RDs K mg B H (vs.take n) (ds.take n)
  | _, _, 0, _ => .nil
  | _, _, _ + 1, .nil => .nil
  | _, _, n + 1, .cons r t => .cons r (RDs.take n t)
theorem RDs.drop : ∀ {vs : List V} {ds : List D} (n : Nat), RDs K mg B H vs ds → RDs K mg B H (vs.drop n) (ds.drop n)
  | _, _, 0, r => r
  | _, _, _ + 1, .nil => .nil
  | _, _, n + 1, .cons _ t => RDs.drop n t
theorem RDs.reverse : ∀ {vs : List V} {ds : List D}, RDs K mg B H vs ds → RDs K mg B H vs.reverse ds.reverse
  | _, _, .nil => .nil
  | _, _, .cons r t => by
    rw [List.reverse_cons, List.reverse_cons]
    exact (RDs.reverse t).append (.cons r .nil)
theorem RDs.set : ∀ {vs : List V} {ds : List D} {v : V} {d : D} (i : Nat), RDs K mg B H vs ds → RD K mg B H v d → RDs K mg B H (vs.set i v) (ds.set i d)
  | _, _, _, _, _, .nil, _ => .nil
  | _, _, _, _, 0, .cons _ t, r => .cons r t
  | _, _, _, _, i + 1, .cons q t, r => .cons q (RDs.set i t r)
theorem RDs.dropLast : ∀ {vs : List V} {ds : List D}, RDs K mg B H vs ds → RDs K mg B H vs.dropLast ds.dropLast
  | _, _, .nil => .nil
  | _, _, .cons _ .nil => .nil
  | _, _, .cons r (.cons r2 t) => .cons r (RDs.dropLast (.cons r2 t))
theorem RDk.length : ∀ {vs : List (Key × V)} {ds : List (D × D)}, RDk K mg B H vs ds → vs.length = ds.length
  | _, _, .nil => rfl
  | _, _, .cons _ t => congrArg (· + 1) (RDk.length t)
theorem RDt.length : ∀ {vs : List (List Key × V)} {ds : List (D × D)}, RDt K mg B H vs ds → vs.length = ds.length
  | _, _, .nil => rfl
  | _, _, .cons _ t => congrArg (· + 1) (RDt.length t)
theorem RDf.length : ∀ {vs : List (Str × V)} {ds : List (Str × D)}, RDf K mg B H vs ds → vs.length = ds.length
  | _, _, .nil => rfl
  | _, _, .cons _ t => congrArg (· + 1) (RDf.length t)
theorem RDf.lookup : ∀ {vs : List (Str × V)} {ds : List (Str × D)} {f : Str} {d : D}, RDf K mg B H vs ds → ds.lookup f = some d → ∃ v, vs.lookup f = some v ∧ RD K mg B H v d
  | _, _, _, _, .nil, e => by simp at e
  | (g, v) :: vs, _, f, d, .cons r t, e => by
    by_cases h : f = g
    · subst h
      simp [List.lookup] at e
      subst e
      exact ⟨_, by simp [List.lookup], r⟩
    · have hb : (f == g) = false := beq_eq_false_iff_ne.mpr h
      simp only [List.lookup, hb] at e ⊢
      exact RDf.lookup t e
theorem RDf.lookup_none : ∀ {vs : List (Str × V)} {ds : List (Str × D)} {f : Str}, RDf K mg B H vs ds → ds.lookup f = none → vs.lookup f = none
  | _, _, _, .nil, _ => rfl
  | (g, v) :: vs, _, f, .cons r t, e => by
    by_cases h : f = g
    · subst h; simp [List.lookup] at e
    · have hb : (f == g) = false := beq_eq_false_iff_ne.mpr h
      simp only [List.lookup, hb] at e ⊢
      exact RDf.lookup_none t e
/-- the attributes of an instance, as L2's putF keeps them -/
def putD (f : Str) (d : D) : List (Str × D) → List (Str × D)
  | [] => [(f, d)]
  | (g, x) :: r => if g = f then (g, d) :: r else (g, x) :: putD f d r
theorem RDf.put {f : Str} {v : V} {d : D} (rv : RD K mg B H v d) : ∀ {vs : List (Str × V)} {ds : List (Str × D)}, RDf K mg B H vs ds → RDf K mg B H (putF f v vs) (putD f d ds)
  | _, _, .nil => .cons rv .nil
  | (g, x) :: vs, (_, y) :: ds, .cons r t => by
    rw [show putF f v ((g, x) :: vs) = (if g = f then (g, v) :: vs else (g, x) :: putF f v vs) from rfl, show putD f d ((g, y) :: ds) = (if g = f then (g, d) :: ds else (g, y) :: putD f d ds) from rfl]
    by_cases h : g = f
    · rw [if_pos h, if_pos h]; exact .cons rv t
    · rw [if_neg h, if_neg h]; exact .cons r (RDf.put rv t)
theorem RT.mono (g : Gr B H B' H') {v : V} {d : D} (top : ∀ a o, v = .ref a → H a = some o → H' a = some o) (r : RT K mg B H v d) : RT K mg B' H' v d := by
  cases r with
  | of r => exact .of (r.mono g)
  | lst h r => exact .lst (top _ _ rfl h) (r.mono g)
  | dK h r =>
    refine .dK ?_ (r.mono g)
    rcases h with h | ⟨o, h⟩
    · exact .inl (top _ _ rfl h)
    · exact .inr ⟨o, top _ _ rfl h⟩
  | dT h r =>
    refine .dT ?_ (r.mono g)
    rcases h with h | ⟨o, h⟩
    · exact .inl (top _ _ rfl h)
    · exact .inr ⟨o, top _ _ rfl h⟩
  | ins h m r => exact .ins (top _ _ rfl h) m (r.mono g)
end
class Tbl where
  T : List (Addr × Str)
/-- a is one of the tables -/
def IsTb [Tbl] (a : Addr) : Prop := ∃ p ∈ Tbl.T, p.1 = a
/-- neither a table nor a code object -/
def NoT (u : HO) : Prop := (∀ ps, u ≠ .tbl ps) ∧ ∀ f, u ≠ .ext f
theorem noT_lst {vs : List V} : NoT (.lst vs) := ⟨(fun _ z => by cases z), (fun _ z => by cases z)⟩
theorem noT_dK {vs : List (Key × V)} : NoT (.dK vs) := ⟨(fun _ z => by cases z), (fun _ z => by cases z)⟩
theorem noT_dT {vs : List (List Key × V)} : NoT (.dT vs) := ⟨(fun _ z => by cases z), (fun _ z => by cases z)⟩
theorem noT_ins {C dx : Addr} {fs : List (Str × V)} : NoT (.ins C dx fs) := ⟨(fun _ z => by cases z), (fun _ z => by cases z)⟩
variable [Tbl]
abbrev TabsAt (H : Hp) : Prop := LamX.Tabs Tbl.T H
theorem tabs_keep {H H' : Hp} (t : TabsAt H) (k : ∀ a o, H a = some o → NoT o ∨ H' a = some o) : TabsAt H' := fun p hp => by
  obtain ⟨ps, h1, h2, h3⟩ := t p hp
  refine ⟨ps, (k _ _ h1).resolve_left fun z => z.1 ps rfl, h2, fun pos cv hc => ?_⟩
  obtain ⟨c, e1, e2⟩ := h3 pos cv hc
  exact ⟨c, e1, (k _ _ e2).resolve_left fun z => z.2 _ rfl⟩
theorem tabs_at {H : Hp} (t : TabsAt H) {a : Addr} (h : IsTb a) : ∃ ps, H a = some (.tbl ps) := by
  obtain ⟨p, hp, rfl⟩ := h
  obtain ⟨ps, h1, _⟩ := t p hp
  exact ⟨ps, h1⟩
theorem tabs_upd {H : Hp} {a : Addr} {o : HO} (t : TabsAt H) (h : ∀ u, H a = some u → NoT u) : TabsAt (upd H a o) := tabs_keep t fun b u e => by
  by_cases hb : b = a
  · subst hb; exact .inl (h u e)
  · exact .inr (by rw [upd_ne hb]; exact e)
section
variable (K : PySem.W.Frag) (mg : Str → Option Value)
/-- the cell c lies at these addresses -/
def CellR (B : Addr → Prop) (H : Hp) : List Addr → Cell → Prop
  | [a], .lst ds => ∃ vs, H a = some (.lst vs) ∧ RDs K mg B H vs ds
  | [a], .dct false kvs => ∃ vs, H a = some (.dK vs) ∧ RDk K mg B H vs kvs
  | [a], .dct true kvs => ∃ vs, H a = some (.dT vs) ∧ RDt K mg B H vs kvs
  | [a], .ins c fs => ∃ C dx fvs, mg c = some (.ref C) ∧ H a = some (.ins C dx fvs) ∧ RDf K mg B H fvs fs
  | _, _ => False
/-- a is of a living cell, or a table of code objects -/
def Foot (S : Sto) (ρ : List (List Addr)) (a : Addr) : Prop := (∃ (i : Nat) (fp : List Addr) (c : Cell), ρ[i]? = some fp ∧ S[i]? = some (some c) ∧ a ∈ fp) ∨ IsTb a
structure StOk (B : Addr → Prop) (S : Sto) (ρ : List (List Addr)) (H : Hp) : Prop where
  len : ρ.length = S.length
  cell : ∀ (i : Nat) (fp : List Addr) (c : Cell), ρ[i]? = some fp → S[i]? = some (some c) → CellR K mg B H fp c
  ban : ∀ a, Foot S ρ a → B a
  disj : ∀ (i j : Nat) (fp fp' : List Addr) (c c' : Cell), ρ[i]? = some fp → ρ[j]? = some fp' → S[i]? = some (some c) → S[j]? = some (some c') → ∀ a, a ∈ fp → a ∈ fp' → i = j
  dom : ∀ a, B a → H a ≠ none
  tabs : TabsAt H
/-- a value is represented -/
def RV (B : Addr → Prop) (S : Sto) (ρ : List (List Addr)) (H : Hp) (v : V) : Vl → Prop
  | .im d => RD K mg B H v d
  | .cl i => i < S.length ∧ ∀ c : Cell, S[i]? = some (some c) → ∃ (a : Addr) (r : List Addr), ρ[i]? = some (a :: r) ∧ v = .ref a
structure Rep (B : Addr → Prop) (γ : Gam) (S : Sto) (ρ : List (List Addr)) (σ : St) (H : Hp) : Prop where
  st : StOk K mg B S ρ H
  slot : ∀ (i : Nat) (x : Vl), γ[i]? = some (some x) → ∃ v, σ[i]? = some (some v) ∧ RV K mg B S ρ H v x
  len : γ.length = σ.length
end
/-- what a step may have done -/
structure Ext (B : Addr → Prop) (S : Sto) (ρ : List (List Addr)) (H : Hp) (B' : Addr → Prop) (S' : Sto) (ρ' : List (List Addr)) (H' : Hp) : Prop where
  len : S.length ≤ S'.length
  pre : ∀ (i : Nat) (fp : List Addr), ρ[i]? = some fp → ρ'[i]? = some fp
  dead : ∀ i : Nat, S[i]? = some none → S'[i]? = some none
  keep : ∀ a o, H a = some o → ¬ Foot S ρ a → H' a = some o
  ban : ∀ a o, H a = some o → ¬ B a → ¬ B' a
  new : ∀ (i : Nat) (fp : List Addr) (c : Cell), S.length ≤ i → ρ'[i]? = some fp → S'[i]? = some (some c) → ∀ a ∈ fp, H a = none
  dom : ∀ a, H a ≠ none → H' a ≠ none
  bdom : ∀ a, B a → H a ≠ none
  held : ∀ a, B a → ¬ Foot S ρ a → B' a
theorem Ext.refl {K : PySem.W.Frag} {mg : Str → Option Value} {B : Addr → Prop} {S : Sto} {ρ : List (List Addr)} {H : Hp} (ok : StOk K mg B S ρ H) : Ext B S ρ H B S ρ H :=
  ⟨Nat.le_refl _, fun _ _ h => h, fun _ h => h, fun _ _ h _ => h, fun _ _ _ h => h, fun i fp c h1 h2 _ => by
    have := (List.getElem?_eq_some_iff.mp h2).1
    have := ok.len
    omega, fun _ h => h, ok.dom, fun _ h _ => h⟩
section
variable {K : PySem.W.Frag} {mg : Str → Option Value} {B B1 B2 : Addr → Prop} {S S1 S2 : Sto} {ρ ρ1 ρ2 : List (List Addr)} {H H1 H2 : Hp} {γ : Gam} {σ : St}
theorem Ext.foot (e : Ext B S ρ H B1 S1 ρ1 H1) (hl : ρ.length = S.length) {a : Addr} (h : Foot S1 ρ1 a) : Foot S ρ a ∨ H a = none := by
  rcases h with ⟨i, fp, c, h1, h2, h3⟩ | h
  case inr => exact .inl (.inr h)
  by_cases hi : i < S.length
  · left
    have hi' : i < ρ.length := by omega
    have e1 : ρ[i]? = some ρ[i] := List.getElem?_eq_getElem hi'
    have e2 := e.pre i _ e1
    rw [h1] at e2
    have e3 : fp = ρ[i] := Option.some.inj e2
    cases q : S[i] with
    | none =>
      have := e.dead i (by rw [List.getElem?_eq_getElem hi, q])
      rw [h2] at this
      cases this
    | some c' => exact .inl ⟨i, fp, c', by rw [e1, e3], by rw [List.getElem?_eq_getElem hi, q], h3⟩
  · exact .inr (e.new i fp c (by omega) h1 h2 a h3)
theorem Ext.trans (e : Ext B S ρ H B1 S1 ρ1 H1) (f : Ext B1 S1 ρ1 H1 B2 S2 ρ2 H2) (hl : ρ.length = S.length) (hl1 : ρ1.length = S1.length) : Ext B S ρ H B2 S2 ρ2 H2 where
  len := Nat.le_trans e.len f.len
  pre := fun i fp h => f.pre i fp (e.pre i fp h)
  dead := fun i h => f.dead i (e.dead i h)
  keep := fun a o h n => by
    refine f.keep a o (e.keep a o h n) fun z => ?_
    rcases e.foot hl z with z | z
    · exact n z
    · rw [h] at z; cases z
  ban := fun a o h n => by
    by_cases hf : Foot S ρ a
    · have h1 : H1 a ≠ none := e.dom a (by rw [h]; simp)
      cases q : H1 a with
      | none => exact absurd q h1
      | some o' => exact f.ban a o' q (e.ban a o h n)
    · exact f.ban a o (e.keep a o h hf) (e.ban a o h n)
  new := fun i fp c hi h1 h2 a ha => by
    by_cases hj : i < S1.length
    · have hi' : i < ρ1.length := by omega
      have e1 : ρ1[i]? = some ρ1[i] := List.getElem?_eq_getElem hi'
      have e2 := f.pre i _ e1
      rw [h1] at e2
      have e3 : fp = ρ1[i] := Option.some.inj e2
      cases q : S1[i] with
      | none =>
        have := f.dead i (by rw [List.getElem?_eq_getElem hj, q])
        rw [h2] at this
        cases this
      | some c' => exact e.new i fp c' hi (by rw [e1, e3]) (by rw [List.getElem?_eq_getElem hj, q]) a ha
    · have := f.new i fp c (by omega) h1 h2 a ha
      cases q : H a with
      | none => rfl
      | some o => exact absurd this (e.dom a (by rw [q]; simp))
  dom := fun a h => f.dom a (e.dom a h)
  bdom := e.bdom
  held := fun a b n => f.held a (e.held a b n) fun z => by
    rcases e.foot hl z with z | z
    · exact n z
    · exact e.bdom a b z
theorem Ext.gr (e : Ext B S ρ H B1 S1 ρ1 H1) (ok : StOk K mg B S ρ H) : Gr B H B1 H1 := fun a o h b => ⟨e.keep a o h fun z => b (ok.ban a z), e.ban a o h b⟩
theorem RV.mono (e : Ext B S ρ H B1 S1 ρ1 H1) (ok : StOk K mg B S ρ H) {v : V} {x : Vl} (r : RV K mg B S ρ H v x) : RV K mg B1 S1 ρ1 H1 v x := by
  cases x with
  | im d => exact RD.mono (e.gr ok) r
  | cl i =>
    obtain ⟨h1, h2⟩ := r
    refine ⟨Nat.lt_of_lt_of_le h1 e.len, fun c hc => ?_⟩
    cases q : S[i] with
    | none =>
      have := e.dead i (by rw [List.getElem?_eq_getElem h1, q])
      rw [hc] at this
      cases this
    | some c' =>
      obtain ⟨a, r, h3, h4⟩ := h2 c' (by rw [List.getElem?_eq_getElem h1, q])
      exact ⟨a, r, e.pre i _ h3, h4⟩
/-- the slots stand behind a step -/
theorem Rep.step (r : Rep K mg B γ S ρ σ H) (e : Ext B S ρ H B1 S1 ρ1 H1) (ok : StOk K mg B1 S1 ρ1 H1) : Rep K mg B1 γ S1 ρ1 σ H1 :=
  ⟨ok, fun i x h => let ⟨v, h1, h2⟩ := r.slot i x h; ⟨v, h1, h2.mono e r.st⟩, r.len⟩
theorem RD.rt {v : V} {d : D} (r : RD K mg B H v d) : RT K mg B H v d := .of r
theorem CellR.rt {fp : List Addr} {c : Cell} (r : CellR K mg B H fp c) : ∃ a t, fp = a :: t ∧ RT K mg B H (.ref a) c.view := by
  match fp, c with
  | [a], .lst ds => obtain ⟨vs, h, r⟩ := r; exact ⟨a, [], rfl, .lst h r⟩
  | [a], .dct false kvs => obtain ⟨vs, h, r⟩ := r; exact ⟨a, [], rfl, .dK (.inl h) r⟩
  | [a], .dct true kvs => obtain ⟨vs, h, r⟩ := r; exact ⟨a, [], rfl, .dT (.inl h) r⟩
  | [a], .ins c fs => obtain ⟨C, dx, fvs, m, h, r⟩ := r; exact ⟨a, [], rfl, .ins h m r⟩
  | [], _ => exact (show False from by cases r).elim
  | _ :: _ :: _, .lst _ => exact r.elim
  | _ :: _ :: _, .dct b _ => cases b <;> exact r.elim
  | _ :: _ :: _, .ins _ _ => exact r.elim
theorem CellR.noT {fp : List Addr} {c : Cell} (r : CellR K mg B H fp c) {a : Addr} (ha : a ∈ fp) : ∀ u, H a = some u → NoT u := fun u hu => by
  match fp, c with
  | [b], .lst ds => obtain ⟨vs, h, r⟩ := r; simp at ha; subst ha; rw [h] at hu; cases hu; exact noT_lst
  | [b], .dct false kvs => obtain ⟨vs, h, r⟩ := r; simp at ha; subst ha; rw [h] at hu; cases hu; exact noT_dK
  | [b], .dct true kvs => obtain ⟨vs, h, r⟩ := r; simp at ha; subst ha; rw [h] at hu; cases hu; exact noT_dT
  | [b], .ins c fs => obtain ⟨C, dx, fvs, m, h, r⟩ := r; simp at ha; subst ha; rw [h] at hu; cases hu; exact noT_ins
  | [], _ => simp at ha
  | _ :: _ :: _, .lst _ => exact r.elim
  | _ :: _ :: _, .dct b _ => cases b <;> exact r.elim
  | _ :: _ :: _, .ins _ _ => exact r.elim
/-- a value that is viewed -/
theorem RV.rt {v : V} {x : Vl} {d : D} (ok : StOk K mg B S ρ H) (r : RV K mg B S ρ H v x) (h : x.view S = some d) : RT K mg B H v d := by
  cases x with
  | im d' => cases h; exact RD.rt r
  | cl i =>
    obtain ⟨h1, h2⟩ := r
    cases q : S[i]? with
    | none => simp [Vl.view, q] at h
    | some o =>
      cases o with
      | none => simp [Vl.view, q] at h
      | some c =>
        simp only [Vl.view, q, Option.some.injEq] at h
        subst h
        obtain ⟨a, t, h3, rfl⟩ := h2 c q
        obtain ⟨a', t', e, rt⟩ := (ok.cell i _ c h3 q).rt
        cases e
        exact rt
/-- the heap has grown by what is new -/
def Grow (H H' : Hp) : Prop := ∀ a o, H a = some o → H' a = some o
theorem Grow.refl (H : Hp) : Grow H H := fun _ _ h => h
theorem Grow.trans (a : Grow H H1) (b : Grow H1 H2) : Grow H H2 := fun x o h => b x o (a x o h)
theorem Grow.upd {p : Addr} {o : HO} (h : H p = none) : Grow H (upd H p o) := fun a x e => by
  rw [upd_ne (ne_of_none e h)]; exact e
theorem Grow.gr (g : Grow H H1) : Gr B H B H1 := fun a o h b => ⟨g a o h, b⟩
theorem CellR.mono {fp : List Addr} {c : Cell} (g : Gr B H B1 H1) (hk : ∀ a ∈ fp, ∀ o, H a = some o → H1 a = some o) (r : CellR K mg B H fp c) : CellR K mg B1 H1 fp c := by
  match fp, c with
  | [a], .lst ds => obtain ⟨vs, h, r⟩ := r; exact ⟨vs, hk a (by simp) _ h, r.mono g⟩
  | [a], .dct false kvs => obtain ⟨vs, h, r⟩ := r; exact ⟨vs, hk a (by simp) _ h, r.mono g⟩
  | [a], .dct true kvs => obtain ⟨vs, h, r⟩ := r; exact ⟨vs, hk a (by simp) _ h, r.mono g⟩
  | [a], .ins c fs => obtain ⟨C, dx, fvs, m, h, r⟩ := r; exact ⟨C, dx, fvs, m, hk a (by simp) _ h, r.mono g⟩
  | [], _ => exact (show False from by cases r).elim
  | _ :: _ :: _, .lst _ => exact r.elim
  | _ :: _ :: _, .dct b _ => cases b <;> exact r.elim
  | _ :: _ :: _, .ins _ _ => exact r.elim
theorem StOk.grow (ok : StOk K mg B S ρ H) (g : Grow H H1) : StOk K mg B S ρ H1 where
  len := ok.len
  cell := fun i fp c h1 h2 => (ok.cell i fp c h1 h2).mono g.gr fun a _ o h => g a o h
  ban := ok.ban
  disj := ok.disj
  dom := fun a h z => by
    cases q : H a with
    | none => exact ok.dom a h q
    | some o => rw [g a o q] at z; cases z
  tabs := fun p hp => (ok.tabs p hp).ext g
theorem Ext.grow (ok : StOk K mg B S ρ H) (g : Grow H H1) : Ext B S ρ H B S ρ H1 :=
  ⟨Nat.le_refl _, fun _ _ h => h, fun _ h => h, fun a o h _ => g a o h, fun _ _ _ h => h, fun i fp c h1 h2 _ => by
    have := (List.getElem?_eq_some_iff.mp h2).1
    have := ok.len
    omega, fun a h z => (by
      cases q : H a with
      | none => exact h q
      | some o => rw [g a o q] at z; cases z), ok.dom, fun _ h _ => h⟩
theorem StOk.notB (ok : StOk K mg B S ρ H) {a : Addr} (h : H a = none) : ¬ B a := fun b => ok.dom a b h
end
inductive R (α : Type) where
  | ok (a : α) (S : Sto)
  | exc (c : Str) (fs : List (Str × D)) (γ : Gam) (S : Sto)
  | bad
def R.bind {α β : Type} : R α → (α → Sto → R β) → R β
  | .ok a S, k => k a S
  | .exc c fs γ S, _ => .exc c fs γ S
  | .bad, _ => .bad
@[simp] theorem R.bind_ok {α β : Type} (a : α) (S : Sto) (k : α → Sto → R β) : (R.ok a S).bind k = k a S := rfl
@[simp] theorem R.bind_exc {α β : Type} (c : Str) (fs : List (Str × D)) (γ : Gam) (S : Sto) (k : α → Sto → R β) : (R.exc c fs γ S : R α).bind k = .exc c fs γ S := rfl
@[simp] theorem R.bind_bad {α β : Type} (k : α → Sto → R β) : (R.bad : R α).bind k = .bad := rfl
abbrev PX := Str → List (Str × D) → Gam → Sto → Prop
def R.wp {α : Type} (r : R α) (P : α → Sto → Prop) (X : PX) : Prop := match r with
  | .ok a S => P a S
  | .exc c fs γ S => X c fs γ S
  | .bad => False
theorem R.wp_bind {α β : Type} {r : R α} {k : α → Sto → R β} {P : β → Sto → Prop} {X : PX} (h : (r.bind k).wp P X) : r.wp (fun a S => (k a S).wp P X) X := by
  cases r <;> exact h
theorem R.wp_mono {α : Type} {r : R α} {P P' : α → Sto → Prop} {X X' : PX} (h : r.wp P X) (hp : ∀ a S, P a S → P' a S) (hx : ∀ c fs γ S, X c fs γ S → X' c fs γ S) : r.wp P' X' := by
  cases r with
  | ok a S => exact hp a S h
  | exc c fs γ S => exact hx c fs γ S h
  | bad => exact h
section
variable (K : PySem.W.Frag) (mg : Str → Option Value)
/-- an exception of the class named c with these fields -/
def RX (B : Addr → Prop) (H : Hp) (cls : Value) (dd : Option Addr) (c : Str) (fs : List (Str × D)) : Prop :=
  ∃ C, mg c = some (.ref C) ∧ cls = .ref C ∧ match fs with
    | [] => dd = none
    | fs => ∃ a fvs, dd = some a ∧ H a = some (.xd fvs) ∧ RDf K mg B H fvs fs
/-- where a step begins -/
structure At where
  B : Addr → Prop
  S : Sto
  ρ : List (List Addr)
  H : Hp
abbrev At.to (g : At) (B : Addr → Prop) (S : Sto) (ρ : List (List Addr)) (H : Hp) : Prop := Ext g.B g.S g.ρ g.H B S ρ H
def Okv (g : At) (γ : Gam) (σ : St) (Q : VK) : Vl → Sto → Prop := fun x S => ∀ v H B ρ, Rep K mg B γ S ρ σ H → g.to B S ρ H → RV K mg B S ρ H v x → Q v H
def Okb (g : At) (γ : Gam) (σ : St) (Q : Bool → Hp → Prop) : Bool → Sto → Prop := fun b S => ∀ H B ρ, Rep K mg B γ S ρ σ H → g.to B S ρ H → Q b H
def Oks (g : At) (γ : Gam) (σ : St) (Q : List V → Hp → Prop) : List Vl → Sto → Prop := fun xs S => ∀ vs H B ρ, Rep K mg B γ S ρ σ H → g.to B S ρ H → Paired (fun v x => RV K mg B S ρ H v x) vs xs → Q vs H
def Exw (g : At) (W : WX) : PX := fun c fs γ S => ∀ cls dd σ H B ρ, Rep K mg B γ S ρ σ H → g.to B S ρ H → RX K mg B H cls dd c fs → W cls dd σ H
def Exv (g : At) (σ : St) (W : WX) : PX := fun c fs γ S => ∀ cls dd H B ρ, Rep K mg B γ S ρ σ H → g.to B S ρ H → RX K mg B H cls dd c fs → W cls dd σ H
abbrev F := Gam → Sto → R Vl
abbrev FT := Gam → Sto → R Bool
abbrev FA := Gam → Sto → R (List Vl)
def Sim (W : WX) (t : TE) (f : F) : Prop := ∀ (γ : Gam) (σ : St) (Q : VK) (g : At), Rep K mg g.B γ g.S g.ρ σ g.H → (f γ g.S).wp (Okv K mg g γ σ Q) (Exv K mg g σ W) → t σ g.H Q
def SimT (W : WX) (t : TT) (f : FT) : Prop := ∀ (γ : Gam) (σ : St) (Q : Bool → Hp → Prop) (g : At), Rep K mg g.B γ g.S g.ρ σ g.H → (f γ g.S).wp (Okb K mg g γ σ Q) (Exv K mg g σ W) → t σ g.H Q
def SimA (W : WX) (t : TA) (f : FA) : Prop := ∀ (γ : Gam) (σ : St) (Q : List V → Hp → Prop) (g : At), Rep K mg g.B γ g.S g.ρ σ g.H → (f γ g.S).wp (Oks K mg g γ σ Q) (Exv K mg g σ W) → t σ g.H Q
end
section
variable {K : PySem.W.Frag} {mg : Str → Option Value} {W : WX} {g : At} {γ : Gam} {σ : St} {B B1 : Addr → Prop} {S S1 : Sto} {ρ ρ1 : List (List Addr)} {H H1 : Hp}
theorem Okv.on {Q : VK} (hl : g.ρ.length = g.S.length) (hl1 : ρ1.length = S1.length) (e : g.to B1 S1 ρ1 H1) {x : Vl} {S : Sto} (h : Okv K mg g γ σ Q x S) : Okv K mg ⟨B1, S1, ρ1, H1⟩ γ σ Q x S :=
  fun v H B ρ r e1 rv => h v H B ρ r (e.trans e1 hl hl1) rv
theorem Okb.on {Q : Bool → Hp → Prop} (hl : g.ρ.length = g.S.length) (hl1 : ρ1.length = S1.length) (e : g.to B1 S1 ρ1 H1) {x : Bool} {S : Sto} (h : Okb K mg g γ σ Q x S) : Okb K mg ⟨B1, S1, ρ1, H1⟩ γ σ Q x S :=
  fun H B ρ r e1 => h H B ρ r (e.trans e1 hl hl1)
theorem Oks.on {Q : List V → Hp → Prop} (hl : g.ρ.length = g.S.length) (hl1 : ρ1.length = S1.length) (e : g.to B1 S1 ρ1 H1) {x : List Vl} {S : Sto} (h : Oks K mg g γ σ Q x S) : Oks K mg ⟨B1, S1, ρ1, H1⟩ γ σ Q x S :=
  fun v H B ρ r e1 rv => h v H B ρ r (e.trans e1 hl hl1) rv
theorem Exv.on (hl : g.ρ.length = g.S.length) (hl1 : ρ1.length = S1.length) (e : g.to B1 S1 ρ1 H1) {c : Str} {fs : List (Str × D)} {γ' : Gam} {S : Sto} (h : Exv K mg g σ W c fs γ' S) : Exv K mg ⟨B1, S1, ρ1, H1⟩ σ W c fs γ' S :=
  fun cls dd H B ρ r e1 rx => h cls dd H B ρ r (e.trans e1 hl hl1) rx
/-- an expression's value comes, then the rest -/
theorem Sim.go {t : TE} {f : F} {Q1 : VK} (hs : Sim K mg W t f) (rep : Rep K mg g.B γ g.S g.ρ σ g.H) {X : PX} (hX : ∀ c fs γ' S, X c fs γ' S → Exv K mg g σ W c fs γ' S) {β : Type} {k : Vl → Sto → R β} {P : β → Sto → Prop}
    (h : ((f γ g.S).bind k).wp P X)
    (nx : ∀ x S v H B ρ, Rep K mg B γ S ρ σ H → g.to B S ρ H → RV K mg B S ρ H v x → (k x S).wp P X → Q1 v H) : t σ g.H Q1 :=
  hs γ σ Q1 g rep (R.wp_mono (R.wp_bind h) (fun x S hk v H B ρ r e rv => nx x S v H B ρ r e rv hk) hX)
theorem SimT.go {t : TT} {f : FT} {Q1 : Bool → Hp → Prop} (hs : SimT K mg W t f) (rep : Rep K mg g.B γ g.S g.ρ σ g.H) {X : PX} (hX : ∀ c fs γ' S, X c fs γ' S → Exv K mg g σ W c fs γ' S) {β : Type} {k : Bool → Sto → R β} {P : β → Sto → Prop}
    (h : ((f γ g.S).bind k).wp P X)
    (nx : ∀ x S H B ρ, Rep K mg B γ S ρ σ H → g.to B S ρ H → (k x S).wp P X → Q1 x H) : t σ g.H Q1 :=
  hs γ σ Q1 g rep (R.wp_mono (R.wp_bind h) (fun x S hk H B ρ r e => nx x S H B ρ r e hk) hX)
theorem SimA.go {t : TA} {f : FA} {Q1 : List V → Hp → Prop} (hs : SimA K mg W t f) (rep : Rep K mg g.B γ g.S g.ρ σ g.H) {X : PX} (hX : ∀ c fs γ' S, X c fs γ' S → Exv K mg g σ W c fs γ' S) {β : Type} {k : List Vl → Sto → R β} {P : β → Sto → Prop}
    (h : ((f γ g.S).bind k).wp P X)
    (nx : ∀ xs S vs H B ρ, Rep K mg B γ S ρ σ H → g.to B S ρ H → Paired (fun v x => RV K mg B S ρ H v x) vs xs → (k xs S).wp P X → Q1 vs H) : t σ g.H Q1 :=
  hs γ σ Q1 g rep (R.wp_mono (R.wp_bind h) (fun x S hk v H B ρ r e rv => nx x S v H B ρ r e rv hk) hX)
end
end DL
namespace DL
open PySem PySem.Spec L2
open PyProof.Rows hiding St
variable [Tbl]
mutual
/-- no dict, no instance in it -/
def D.pln : D → Bool
  | .tup ds | .lst ds => D.plns ds
  | .dct _ _ | .ins _ _ | .scr _ => false
  | .non | .bl _ | .int _ | .str _ => true
def D.plns : List D → Bool
  | [] => true
  | d :: ds => d.pln && D.plns ds
end
mutual
def D.hgt : D → Nat
  | .tup ds | .lst ds => D.hgts ds + 1
  | .dct _ _ | .ins _ _ | .scr _ => 0
  | .non | .bl _ | .int _ | .str _ => 0
def D.hgts : List D → Nat
  | [] => 0
  | d :: ds => max d.hgt (D.hgts ds)
end
mutual
/-- == of plain data -/
def D.eqb : D → D → Bool
  | .non, .non => true
  | .bl a, .bl b => a == b
  | .bl a, .int j => (if a then 1 else 0) == j
  | .int i, .bl b => i == (if b then 1 else 0)
  | .int i, .int j => i == j
  | .str x, .str y => x == y
  | .lst xs, .lst ys => D.eqbs xs ys
  | .tup xs, .tup ys => D.eqbs xs ys
  | _, _ => false
def D.eqbs : List D → List D → Bool
  | [], [] => true
  | x :: xs, y :: ys => D.eqb x y && D.eqbs xs ys
  | _, _ => false
end
mutual
def D.py : D → PyData
  | .non => .none
  | .bl b => .bool b
  | .int i => .int i
  | .str x => .str x
  | .tup ds => .tuple (D.pys ds)
  | .lst ds => .list (D.pys ds)
  | .dct _ _ | .ins _ _ | .scr _ => .none
def D.pys : List D → List PyData
  | [] => []
  | d :: ds => d.py :: D.pys ds
end
theorem D.pys_map : ∀ ds : List D, D.pys ds = ds.map D.py
  | [] => by simp [D.pys]
  | d :: ds => by simp [D.pys, D.pys_map ds]
mutual
theorem D.py_depth : ∀ d : D, d.py.depth = d.hgt
  | .non | .bl _ | .int _ | .str _ => by simp [D.py, D.hgt, PyData.depth]
  | .dct _ _ | .ins _ _ | .scr _ => by simp [D.py, D.hgt, PyData.depth]
  | .tup ds | .lst ds => by simp [D.py, D.hgt, PyData.depth, D.pys_depth ds]
theorem D.pys_depth : ∀ ds : List D, PyData.depthAll (D.pys ds) = D.hgts ds
  | [] => by simp [D.pys, D.hgts, PyData.depthAll]
  | d :: ds => by simp [D.pys, D.hgts, PyData.depthAll, D.py_depth d, D.pys_depth ds]
end
mutual
theorem D.py_eqv : ∀ d e : D, d.pln = true → e.pln = true → PyData.eqv d.py e.py = D.eqb d e
  | .non, e, _, he => by cases e <;> simp [D.py, D.eqb, PyData.eqv, D.pln] at he ⊢
  | .bl a, e, _, he => by cases e <;> simp [D.py, D.eqb, PyData.eqv, D.pln] at he ⊢
  | .int i, e, _, he => by cases e <;> simp [D.py, D.eqb, PyData.eqv, D.pln] at he ⊢
  | .str x, e, _, he => by cases e <;> simp [D.py, D.eqb, PyData.eqv, D.pln] at he ⊢
  | .tup xs, e, hd, he => by
    cases e with
    | tup ys => simpa [D.py, D.eqb, PyData.eqv] using D.pys_eqv xs ys (by simpa [D.pln] using hd) (by simpa [D.pln] using he)
    | _ => simp [D.py, D.eqb, PyData.eqv, D.pln] at he ⊢
  | .lst xs, e, hd, he => by
    cases e with
    | lst ys => simpa [D.py, D.eqb, PyData.eqv] using D.pys_eqv xs ys (by simpa [D.pln] using hd) (by simpa [D.pln] using he)
    | _ => simp [D.py, D.eqb, PyData.eqv, D.pln] at he ⊢
  | .dct _ _, _, hd, _ => by simp [D.pln] at hd
  | .ins _ _, _, hd, _ => by simp [D.pln] at hd
  | .scr _, _, hd, _ => by simp [D.pln] at hd
theorem D.pys_eqv : ∀ xs ys : List D, D.plns xs = true → D.plns ys = true → PyData.eqvAll (D.pys xs) (D.pys ys) = D.eqbs xs ys
  | [], [], _, _ => by simp [D.pys, D.eqbs, PyData.eqvAll]
  | [], _ :: _, _, _ => by simp [D.pys, D.eqbs, PyData.eqvAll]
  | _ :: _, [], _, _ => by simp [D.pys, D.eqbs, PyData.eqvAll]
  | x :: xs, y :: ys, hx, hy => by
    simp only [D.plns, Bool.and_eq_true] at hx hy
    simp [D.pys, D.eqbs, PyData.eqvAll, D.py_eqv x y hx.1 hy.1, D.pys_eqv xs ys hx.2 hy.2]
end
section
variable {K : PySem.W.Frag} {mg : Str → Option Value} {B : Addr → Prop} {H : Hp}
mutual
theorem RD.lay : ∀ {v : V} {d : D}, RD K mg B H v d → d.pln = true → d.py.canLay0 = true
  | _, _, .non, _ => by simp [D.py, PyData.canLay0]
  | _, _, .bl _, _ => by simp [D.py, PyData.canLay0]
  | _, _, .int _, _ => by simp [D.py, PyData.canLay0]
  | _, _, .str x h, _ => by simpa [D.py, PyData.canLay0] using h.1
  | _, _, .tup _ _ r, h => by simpa [D.py, PyData.canLay0] using RDs.lay r (by simpa [D.pln] using h)
  | _, _, .wtup _, _ => by simp [D.py, D.pys, PyData.canLay0, PyData.canLayAll0]
  | _, _, .lst _ _ r, h => by simpa [D.py, PyData.canLay0] using RDs.lay r (by simpa [D.pln] using h)
  | _, _, .dK _ _ _, h => by simp [D.pln] at h
  | _, _, .dT _ _ _, h => by simp [D.pln] at h
  | _, _, .scr _, h => by simp [D.pln] at h
  | _, _, .ins _ _ _ _, h => by simp [D.pln] at h
theorem RDs.lay : ∀ {vs : List V} {ds : List D}, RDs K mg B H vs ds → D.plns ds = true → PyData.canLayAll0 (D.pys ds) = true
  | _, _, .nil, _ => by simp [D.pys, PyData.canLayAll0]
  | _, _, .cons r t, h => by
    simp only [D.plns, Bool.and_eq_true] at h
    simp [D.pys, PyData.canLayAll0, RD.lay r h.1, RDs.lay t h.2]
end
mutual
theorem RD.dp : ∀ {v : V} {d : D}, RD K mg B H v d → d.pln = true → Dp K H v d.py
  | _, _, .non, _ => by simpa [D.py] using Dp.non
  | _, _, .bl b, _ => by simpa [D.py] using Dp.bl b
  | _, _, .int i, _ => by simpa [D.py] using Dp.int i
  | _, _, .str x h, _ => by simpa [D.py] using Dp.str x
  | _, _, .tup h _ r, p => by
    rw [D.py]
    exact .tup (SqT.of h) (RDs.dp r (by simpa [D.pln] using p))
  | _, _, .wtup w, _ => by
    rw [D.py]
    exact .tup (.inr w) (by rw [D.pys]; exact .nil)
  | _, _, .lst h _ r, p => by
    rw [D.py]
    exact .lst (SqL.of h) (RDs.dp r (by simpa [D.pln] using p))
  | _, _, .dK _ _ _, h => by simp [D.pln] at h
  | _, _, .dT _ _ _, h => by simp [D.pln] at h
  | _, _, .scr _, h => by simp [D.pln] at h
  | _, _, .ins _ _ _ _, h => by simp [D.pln] at h
theorem RDs.dp : ∀ {vs : List V} {ds : List D}, RDs K mg B H vs ds → D.plns ds = true → DpAll K H vs (D.pys ds)
  | _, _, .nil, _ => by rw [D.pys]; exact .nil
  | _, _, .cons r t, h => by
    simp only [D.plns, Bool.and_eq_true] at h
    rw [D.pys]
    exact .cons (RD.dp r h.1) (RDs.dp t h.2)
end
theorem RT.lay {v : V} {d : D} (r : RT K mg B H v d) (p : d.pln = true) : d.py.canLay0 = true := by
  cases r with
  | of r => exact r.lay p
  | lst h r => simpa [D.py, PyData.canLay0] using RDs.lay r (by simpa [D.pln] using p)
  | dK h r => simp [D.pln] at p
  | dT h r => simp [D.pln] at p
  | ins h m r => simp [D.pln] at p
theorem RT.dp {v : V} {d : D} (r : RT K mg B H v d) (p : d.pln = true) : Dp K H v d.py := by
  cases r with
  | of r => exact r.dp p
  | lst h r =>
    rw [D.py]
    exact .lst (SqL.of h) (RDs.dp r (by simpa [D.pln] using p))
  | dK h r => simp [D.pln] at p
  | dT h r => simp [D.pln] at p
  | ins h m r => simp [D.pln] at p
theorem RT.shaped {v : V} {d : D} (r : RT K mg B H v d) (p : d.pln = true) (h : d.hgt ≤ 60) : SeqAt.shaped d.py = true := by
  have e := D.py_depth d
  unfold SeqAt.shaped
  rw [r.lay p, Bool.true_and]
  exact decide_eq_true (by omega)
end
section
variable (K : PySem.W.Frag) (mg : Str → Option Value)
/-- the reading r does the operation op on data -/
def P2 (r : R2) (op : D → D → Option D) : Prop := ∀ (B : Addr → Prop) (H : Hp) (x y : V) (dx dy d : D) (Q : VK), RT K mg B H x dx → RT K mg B H y dy → op dx dy = some d → (∀ a, B a → H a ≠ none) →
  (∀ v H', Grow H H' → RD K mg B H' v d → Q v H') → r x y H Q
def P1 (r : V → Hp → VK → Prop) (op : D → Option D) : Prop := ∀ (B : Addr → Prop) (H : Hp) (x : V) (dx d : D) (Q : VK), RT K mg B H x dx → op dx = some d → (∀ a, B a → H a ≠ none) →
  (∀ v H', Grow H H' → RD K mg B H' v d → Q v H') → r x H Q
end
section
variable {K : PySem.W.Frag} {mg : Str → Option Value}
theorem P2.or {r r' : R2} {op op' : D → D → Option D} (h : P2 K mg r op) (h' : P2 K mg r' op') : P2 K mg (fun x y H Q => r x y H Q ∨ r' x y H Q) (fun a b => (op a b).or (op' a b)) := by
  intro B H x y dx dy d Q rx ry e hB hQ
  cases q : op dx dy with
  | some d' =>
    simp only [q, Option.some_or, Option.some.injEq] at e
    subst e
    exact .inl (h B H x y dx dy d' Q rx ry q hB hQ)
  | none =>
    simp only [q, Option.none_or] at e
    exact .inr (h' B H x y dx dy d Q rx ry e hB hQ)
/-- a new object of data -/
theorem rd_newL {B : Addr → Prop} {H : Hp} {p : Addr} {vs : List V} {ds : List D} (hp : H p = none) (hB : ∀ a, B a → H a ≠ none) (r : RDs K mg B H vs ds) : RD K mg B (upd H p (.lst vs)) (.ref p) (.lst ds) :=
  .lst upd_same (fun b => hB p b hp) (r.mono (Grow.upd hp).gr)
theorem rd_newT {B : Addr → Prop} {H : Hp} {p : Addr} {vs : List V} {ds : List D} (hp : H p = none) (hB : ∀ a, B a → H a ≠ none) (r : RDs K mg B H vs ds) : RD K mg B (upd H p (.tup vs)) (.ref p) (.tup ds) :=
  .tup upd_same (fun b => hB p b hp) (r.mono (Grow.upd hp).gr)
theorem RT.int_inv {B : Addr → Prop} {H : Hp} {x : V} {i : Int} (r : RT K mg B H x (.int i)) : x = .int i := by
  cases r with
  | of r => cases r; rfl
theorem RT.str_inv {B : Addr → Prop} {H : Hp} {x : V} {i : Str} (r : RT K mg B H x (.str i)) : x = .str i ∧ SOk i := by
  cases r with
  | of r => cases r with
    | str _ h => exact ⟨rfl, h⟩
theorem RT.bl_inv {B : Addr → Prop} {H : Hp} {x : V} {i : Bool} (r : RT K mg B H x (.bl i)) : x = .bl i := by
  cases r with
  | of r => cases r; rfl
theorem RT.non_inv {B : Addr → Prop} {H : Hp} {x : V} (r : RT K mg B H x .non) : x = .non := by
  cases r with
  | of r => cases r; rfl
theorem RT.lst_inv {B : Addr → Prop} {H : Hp} {x : V} {ds : List D} (r : RT K mg B H x (.lst ds)) : ∃ a vs, x = .ref a ∧ H a = some (.lst vs) ∧ RDs K mg B H vs ds := by
  cases r with
  | of r => cases r with
    | lst h b r => exact ⟨_, _, rfl, h, r⟩
  | lst h r => exact ⟨_, _, rfl, h, r⟩
theorem RT.tup_inv {B : Addr → Prop} {H : Hp} {x : V} {ds : List D} (r : RT K mg B H x (.tup ds)) : ∃ a vs, x = .ref a ∧ SqT K H a vs ∧ RDs K mg B H vs ds := by
  cases r with
  | of r => cases r with
    | tup h b r => exact ⟨_, _, rfl, SqT.of h, r⟩
    | wtup w => exact ⟨_, _, rfl, .inr w, .nil⟩
theorem RT.tup_rd {B : Addr → Prop} {H : Hp} {x : V} {ds : List D} (r : RT K mg B H x (.tup ds)) : RD K mg B H x (.tup ds) := by
  cases r with
  | of r => exact r
theorem RD.isN {B : Addr → Prop} {H : Hp} {x : V} {d : D} (r : RT K mg B H x d) : decide (x = .non) = (match d with | .non => true | _ => false) := by
  cases r with
  | of r => cases r <;> simp
  | _ => simp
def intOp (C : Int → Int → Bool) (g : Int → Int → D) : D → D → Option D
  | .int i, .int j => if C i j then some (g i j) else none
  | _, _ => none
def intOp0 (g : Int → Int → D) : D → D → Option D
  | .int i, .int j => some (g i j)
  | _, _ => none
theorem p2_int {C : Int → Int → Prop} {C' : Int → Int → Bool} {g : Int → Int → Int} (hC : ∀ i j, C' i j = true → C i j) : P2 K mg (rI C fun i j => .int (g i j)) (intOp C' fun i j => .int (g i j)) := by
  intro B H x y dx dy d Q rx ry e hB hQ
  cases dx <;> cases dy <;> simp only [intOp, reduceCtorEq] at e
  split at e
  · rename_i h
    cases e
    rw [rx.int_inv, ry.int_inv]
    exact ⟨_, _, rfl, rfl, hC _ _ h, hQ _ _ (Grow.refl _) (.int _)⟩
  · cases e
theorem p2_int0 {g : Int → Int → Int} : P2 K mg (rI0 fun i j => .int (g i j)) (intOp0 fun i j => .int (g i j)) := by
  intro B H x y dx dy d Q rx ry e hB hQ
  cases dx <;> cases dy <;> simp only [intOp0, reduceCtorEq, Option.some.injEq] at e
  subst e
  rw [rx.int_inv, ry.int_inv]
  exact ⟨_, _, rfl, rfl, hQ _ _ (Grow.refl _) (.int _)⟩
theorem p2_intB {g : Int → Int → Bool} : P2 K mg (rI0 fun i j => .bl (g i j)) (intOp0 fun i j => .bl (g i j)) := by
  intro B H x y dx dy d Q rx ry e hB hQ
  cases dx <;> cases dy <;> simp only [intOp0, reduceCtorEq, Option.some.injEq] at e
  subst e
  rw [rx.int_inv, ry.int_inv]
  exact ⟨_, _, rfl, rfl, hQ _ _ (Grow.refl _) (.bl _)⟩
/-- x + y of texts -/
def catS : D → D → Option D
  | .str x, .str y => if x.length + y.length ≤ sizeLine then some (.str (x ++ y)) else none
  | _, _ => none
theorem strOk_app {x y : Str} (h : PyData.strOk x = true) (k : PyData.strOk y = true) : PyData.strOk (x ++ y) = true := by
  unfold PyData.strOk at *
  show (x.cps ++ y.cps).all _ = true
  rw [Array.all_append, h, k]; rfl
theorem p2_catS : P2 K mg (fun x y H Q => ∃ i j, x = .str i ∧ y = .str j ∧ i.length + j.length ≤ sizeLine ∧ Q (.str (i ++ j)) H) catS := by
  intro B H x y dx dy d Q rx ry e hB hQ
  cases dx <;> cases dy <;> simp only [catS, reduceCtorEq] at e
  split at e
  · rename_i h
    cases e
    obtain ⟨rfl, h1⟩ := rx.str_inv
    obtain ⟨rfl, h2⟩ := ry.str_inv
    refine ⟨_, _, rfl, rfl, h, hQ _ _ (Grow.refl _) (.str _ ⟨strOk_app h1.1 h2.1, ?_⟩)⟩
    show (_ ++ _ : Array Nat).size ≤ _
    rw [Array.size_append]
    exact h
  · cases e
/-- xs + ys of lists -/
def catL : D → D → Option D
  | .lst xs, .lst ys => if xs.length + ys.length ≤ sizeLine then some (.lst (xs ++ ys)) else none
  | _, _ => none
theorem p2_catL : P2 K mg rCat catL := by
  intro B H x y dx dy d Q rx ry e hB hQ
  cases dx <;> cases dy <;> simp only [catL, reduceCtorEq] at e
  split at e
  · rename_i h
    cases e
    obtain ⟨a, vs, rfl, ha, r1⟩ := rx.lst_inv
    obtain ⟨b, ws, rfl, hb, r2⟩ := ry.lst_inv
    refine ⟨a, b, vs, ws, rfl, rfl, ha, hb, by rw [r1.length, r2.length]; exact h, fun p hp => hQ _ _ (Grow.upd hp) (rd_newL hp hB (r1.append r2))⟩
  · cases e
/-- xs * k of a list -/
def repL : D → D → Option D
  | .lst xs, .int k => if -(2 ^ 63) ≤ k ∧ k < 2 ^ 63 ∧ xs.length * k.toNat ≤ sizeLine then some (.lst (List.replicate k.toNat xs).flatten) else none
  | _, _ => none
theorem RDs.rep {B : Addr → Prop} {H : Hp} {vs : List V} {ds : List D} (r : RDs K mg B H vs ds) : ∀ n : Nat, RDs K mg B H (List.replicate n vs).flatten (List.replicate n ds).flatten
  | 0 => .nil
  | n + 1 => by
    rw [List.replicate_succ, List.replicate_succ, List.flatten_cons, List.flatten_cons]
    exact r.append (RDs.rep r n)
theorem p2_repL : P2 K mg rRep repL := by
  intro B H x y dx dy d Q rx ry e hB hQ
  cases dx <;> cases dy <;> simp only [repL, reduceCtorEq] at e
  split at e
  · rename_i h
    cases e
    obtain ⟨a, vs, rfl, ha, r1⟩ := rx.lst_inv
    rw [ry.int_inv]
    refine ⟨a, _, vs, rfl, rfl, ha, h.1, h.2.1, by rw [r1.length]; exact h.2.2, fun p hp => hQ _ _ (Grow.upd hp) (rd_newL hp hB (r1.rep _))⟩
  · cases e
/-- == and != of plain data -/
def eqD : D → D → Option Bool := fun d e => if d.pln && e.pln && decide (d.hgt ≤ 60) && decide (e.hgt ≤ 60) then some (D.eqb d e) else none
theorem eqD_inv {d e : D} {b : Bool} (h : eqD d e = some b) : d.pln = true ∧ e.pln = true ∧ d.hgt ≤ 60 ∧ e.hgt ≤ 60 ∧ b = D.eqb d e := by
  unfold eqD at h
  split at h
  · rename_i q
    simp only [Bool.and_eq_true, decide_eq_true_eq] at q
    cases h
    exact ⟨q.1.1.1, q.1.1.2, q.1.2, q.2, rfl⟩
  · cases h
theorem p2_eqD : P2 K mg (rEqD K) (fun a b => (eqD a b).map D.bl) := by
  intro B H x y dx dy d Q rx ry e hB hQ
  cases q : eqD dx dy with
  | none => simp [q] at e
  | some b =>
    simp only [q, Option.map_some, Option.some.injEq] at e
    subst e
    obtain ⟨p1, p2, h1, h2, rfl⟩ := eqD_inv q
    refine ⟨_, _, rx.dp p1, ry.dp p2, rx.shaped p1 h1, ry.shaped p2 h2, ?_⟩
    rw [D.py_eqv _ _ p1 p2]
    exact hQ _ _ (Grow.refl _) (.bl _)
theorem p2_neD : P2 K mg (rNeD K) (fun a b => (eqD a b).map fun c => D.bl (!c)) := by
  intro B H x y dx dy d Q rx ry e hB hQ
  cases q : eqD dx dy with
  | none => simp [q] at e
  | some b =>
    simp only [q, Option.map_some, Option.some.injEq] at e
    subst e
    obtain ⟨p1, p2, h1, h2, rfl⟩ := eqD_inv q
    refine ⟨_, _, rx.dp p1, ry.dp p2, rx.shaped p1 h1, ry.shaped p2 h2, ?_⟩
    rw [D.py_eqv _ _ p1 p2]
    exact hQ _ _ (Grow.refl _) (.bl _)
/-- x in ys of plain data, ys a list or a tuple -/
def inD : D → D → Option Bool
  | d, .lst es => if d.pln && D.plns es && decide (d.hgt ≤ 60) && decide (D.hgts es ≤ 59) then some (es.any fun z => D.eqb z d) else none
  | d, .tup es => if d.pln && D.plns es && decide (d.hgt ≤ 60) && decide (D.hgts es ≤ 59) then some (es.any fun z => D.eqb z d) else none
  | _, _ => none
theorem any_py {es : List D} {d : D} (hp : D.plns es = true) (hd : d.pln = true) : ((D.pys es).any fun z => PyData.eqv z d.py) = es.any fun z => D.eqb z d := by
  rw [D.pys_map, List.any_map]
  induction es with
  | nil => rfl
  | cons e es ih =>
    simp only [D.plns, Bool.and_eq_true] at hp
    rw [List.any_cons, List.any_cons, ih hp.2]
    show (PyData.eqv e.py d.py || _) = _
    rw [D.py_eqv e d hp.1 hd]
theorem lay_all {ds : List D} (h : (D.lst ds).py.canLay0 = true) : PyData.canLayAll0 (D.pys ds) = true := by simpa [D.py, PyData.canLay0] using h
def rInT (K : PySem.W.Frag) (neg : Bool) : R2 := fun x y H Q => ∃ d ds, Dp K H x d ∧ Dp K H y (.tuple ds) ∧ SeqAt.shaped d = true ∧ SeqAt.shaped (.tuple ds) = true ∧ Q (.bl (if neg then !(ds.any fun z => PyData.eqv z d) else ds.any fun z => PyData.eqv z d)) H
end
section
variable {X : Cx}
theorem shaped_allT {ds : List PyData} (h : SeqAt.shaped (.tuple ds) = true) : PyData.canLayAll0 ds = true := by
  have := SeqAt.canLay_of_shaped h
  simpa [PyData.canLay0] using this
theorem room_inT {A : Around} {d : PyData} {ds : List PyData} (h : SeqAt.shaped d = true) (hu : A.units + 65 < cLine) : A.units + 1 + min (PyData.depthAll ds) d.depth < cLine := by
  have h1 := SeqAt.depth_of_shaped h
  have h2 : min (PyData.depthAll ds) d.depth ≤ d.depth := Nat.min_le_right _ _
  omega
theorem op_inT (hu : X.A.units + 65 < cLine) : OpR X (compareOp .In) (rInT X.K false) := by
  intro pins s σ H x y v u Q I rx ry h
  obtain ⟨d, ds, hd, he, sd, se, q⟩ := h
  obtain ⟨as, r1⟩ := Dp.reads I d x v hd rx
  obtain ⟨bs, r2⟩ := Dp.reads I (.tuple ds) y u he ry
  exact SeqAt.in_tuple_reads r2 r1 (shaped_allT se) (SeqAt.canLay_of_shaped sd) (room_inT sd hu) ⟨.bl _, H, I, rfl, q⟩
theorem op_notInT (hu : X.A.units + 65 < cLine) : OpR X (compareOp .NotIn) (rInT X.K true) := by
  intro pins s σ H x y v u Q I rx ry h
  obtain ⟨d, ds, hd, he, sd, se, q⟩ := h
  obtain ⟨as, r1⟩ := Dp.reads I d x v hd rx
  obtain ⟨bs, r2⟩ := Dp.reads I (.tuple ds) y u he ry
  exact SeqAt.notIn_tuple_reads r2 r1 (shaped_allT se) (SeqAt.canLay_of_shaped sd) (room_inT sd hu) ⟨.bl _, H, I, rfl, q⟩
end
section
variable {K : PySem.W.Frag} {mg : Str → Option Value}
theorem inD_lst {d : D} {es : List D} {b : Bool} (h : inD d (.lst es) = some b) : d.pln = true ∧ D.plns es = true ∧ d.hgt ≤ 60 ∧ D.hgts es ≤ 59 ∧ b = es.any fun z => D.eqb z d := by
  simp only [inD] at h
  split at h
  · rename_i q
    simp only [Bool.and_eq_true, decide_eq_true_eq] at q
    cases h
    exact ⟨q.1.1.1, q.1.1.2, q.1.2, q.2, rfl⟩
  · cases h
theorem inD_tup {d : D} {es : List D} {b : Bool} (h : inD d (.tup es) = some b) : d.pln = true ∧ D.plns es = true ∧ d.hgt ≤ 60 ∧ D.hgts es ≤ 59 ∧ b = es.any fun z => D.eqb z d := by
  simp only [inD] at h
  split at h
  · rename_i q
    simp only [Bool.and_eq_true, decide_eq_true_eq] at q
    cases h
    exact ⟨q.1.1.1, q.1.1.2, q.1.2, q.2, rfl⟩
  · cases h
theorem in_core {B : Addr → Prop} {H : Hp} {x y : V} {dx : D} {es : List D} {b : Bool} (rx : RT K mg B H x dx) (ry : RT K mg B H y (.lst es)) (q : inD dx (.lst es) = some b) :
    ∃ d ds, Dp K H x d ∧ Dp K H y (.list ds) ∧ SeqAt.shaped d = true ∧ SeqAt.shaped (.list ds) = true ∧ (ds.any fun z => PyData.eqv z d) = b := by
  obtain ⟨p1, p2, h1, h2, rfl⟩ := inD_lst q
  have p2' : (D.lst es).pln = true := by simpa [D.pln] using p2
  have e2 := ry.dp p2'
  have s2 := ry.shaped p2' (by simp only [D.hgt]; omega)
  rw [D.py] at e2 s2
  exact ⟨_, _, rx.dp p1, e2, rx.shaped p1 h1, s2, any_py p2 p1⟩
theorem in_coreT {B : Addr → Prop} {H : Hp} {x y : V} {dx : D} {es : List D} {b : Bool} (rx : RT K mg B H x dx) (ry : RT K mg B H y (.tup es)) (q : inD dx (.tup es) = some b) :
    ∃ d ds, Dp K H x d ∧ Dp K H y (.tuple ds) ∧ SeqAt.shaped d = true ∧ SeqAt.shaped (.tuple ds) = true ∧ (ds.any fun z => PyData.eqv z d) = b := by
  obtain ⟨p1, p2, h1, h2, rfl⟩ := inD_tup q
  have p2' : (D.tup es).pln = true := by simpa [D.pln] using p2
  have e2 := ry.dp p2'
  have s2 := ry.shaped p2' (by simp only [D.hgt]; omega)
  rw [D.py] at e2 s2
  exact ⟨_, _, rx.dp p1, e2, rx.shaped p1 h1, s2, any_py p2 p1⟩
def lstOnly (f : D → D → Option Bool) : D → D → Option Bool := fun a b => match b with
  | .lst _ => f a b
  | _ => none
def tupOnly (f : D → D → Option Bool) : D → D → Option Bool := fun a b => match b with
  | .tup _ => f a b
  | _ => none
theorem p2_inL : P2 K mg (rInD K) (fun a b => (lstOnly inD a b).map D.bl) := by
  intro B H x y dx dy d Q rx ry e hB hQ
  cases dy <;> simp only [lstOnly, Option.map_none, reduceCtorEq] at e
  rename_i es
  cases q : inD dx (.lst es) with
  | none => simp [q] at e
  | some b =>
    simp only [q, Option.map_some, Option.some.injEq] at e
    subst e
    obtain ⟨d, ds, h1, h2, h3, h4, h5⟩ := in_core rx ry q
    refine ⟨d, ds, h1, h2, h3, h4, ?_⟩
    rw [h5]
    exact hQ _ _ (Grow.refl _) (.bl _)
theorem p2_notInL : P2 K mg (rNotInD K) (fun a b => (lstOnly inD a b).map fun c => D.bl (!c)) := by
  intro B H x y dx dy d Q rx ry e hB hQ
  cases dy <;> simp only [lstOnly, Option.map_none, reduceCtorEq] at e
  rename_i es
  cases q : inD dx (.lst es) with
  | none => simp [q] at e
  | some b =>
    simp only [q, Option.map_some, Option.some.injEq] at e
    subst e
    obtain ⟨d, ds, h1, h2, h3, h4, h5⟩ := in_core rx ry q
    refine ⟨d, ds, h1, h2, h3, h4, ?_⟩
    rw [h5]
    exact hQ _ _ (Grow.refl _) (.bl _)
theorem p2_inT {neg : Bool} : P2 K mg (rInT K neg) (fun a b => (tupOnly inD a b).map fun c => D.bl (if neg then !c else c)) := by
  intro B H x y dx dy d Q rx ry e hB hQ
  cases dy <;> simp only [tupOnly, Option.map_none, reduceCtorEq] at e
  rename_i es
  cases q : inD dx (.tup es) with
  | none => simp [q] at e
  | some b =>
    simp only [q, Option.map_some, Option.some.injEq] at e
    subst e
    obtain ⟨d, ds, h1, h2, h3, h4, h5⟩ := in_coreT rx ry q
    refine ⟨d, ds, h1, h2, h3, h4, ?_⟩
    rw [h5]
    exact hQ _ _ (Grow.refl _) (.bl _)
/-- one text in another -/
def inS : D → D → Option Bool
  | .str x, .str y => some (!(Builtin.Str.occurrences y x 0 y.length 1).isEmpty)
  | _, _ => none
theorem p2_inS : P2 K mg (fun x y H Q => ∃ i j, x = .str i ∧ y = .str j ∧ Q (.bl (!(Builtin.Str.occurrences j i 0 j.length 1).isEmpty)) H) (fun a b => (inS a b).map D.bl) := by
  intro B H x y dx dy d Q rx ry e hB hQ
  cases dx <;> cases dy <;> simp only [inS, reduceCtorEq, Option.map_none, Option.map_some, Option.some.injEq] at e
  subst e
  obtain ⟨rfl, h1⟩ := rx.str_inv
  obtain ⟨rfl, h2⟩ := ry.str_inv
  exact ⟨_, _, rfl, rfl, hQ _ _ (Grow.refl _) (.bl _)⟩
theorem p2_notInS : P2 K mg (fun x y H Q => ∃ i j, x = .str i ∧ y = .str j ∧ Q (.bl (!(!(Builtin.Str.occurrences j i 0 j.length 1).isEmpty))) H) (fun a b => (inS a b).map fun c => D.bl (!c)) := by
  intro B H x y dx dy d Q rx ry e hB hQ
  cases dx <;> cases dy <;> simp only [inS, reduceCtorEq, Option.map_none, Option.map_some, Option.some.injEq] at e
  subst e
  obtain ⟨rfl, h1⟩ := rx.str_inv
  obtain ⟨rfl, h2⟩ := ry.str_inv
  exact ⟨_, _, rfl, rfl, hQ _ _ (Grow.refl _) (.bl _)⟩
/-- is None -/
def isND : D → D → Option Bool
  | .non, .non => some true
  | _, .non => some false
  | _, _ => none
theorem p2_isN : P2 K mg (fun x y H Q => y = .non ∧ Q (.bl (decide (x = .non))) H) (fun a b => (isND a b).map D.bl) := by
  intro B H x y dx dy d Q rx ry e hB hQ
  cases dy <;> (try (cases dx <;> simp [isND] at e))
  all_goals (subst e; refine ⟨ry.non_inv, ?_⟩; rw [RD.isN rx]; exact hQ _ _ (Grow.refl _) (.bl _))
theorem p2_notN : P2 K mg (fun x y H Q => y = .non ∧ Q (.bl (!decide (x = .non))) H) (fun a b => (isND a b).map fun c => D.bl (!c)) := by
  intro B H x y dx dy d Q rx ry e hB hQ
  cases dy <;> (try (cases dx <;> simp [isND] at e))
  all_goals (subst e; refine ⟨ry.non_inv, ?_⟩; rw [RD.isN rx]; exact hQ _ _ (Grow.refl _) (.bl _))
end
end DL
namespace DL
open PySem PySem.Spec L2
open PyProof.Rows hiding St
variable [Tbl]
def R.ofO (o : Option D) (S : Sto) : R Vl := match o with
  | some d => .ok (.im d) S
  | none => .bad
@[simp] theorem R.ofO_some (d : D) (S : Sto) : R.ofO (some d) S = .ok (.im d) S := rfl
theorem R.ofO_wp {o : Option D} {S : Sto} {P : Vl → Sto → Prop} {X : PX} (h : (R.ofO o S).wp P X) : ∃ d, o = some d ∧ P (.im d) S := by
  cases o with
  | none => exact h.elim
  | some d => exact ⟨d, rfl, h⟩
def fVar (i : Nat) : F := fun γ S => match γ[i]? with
  | some (some x) => .ok x S
  | _ => .bad
def fC (d : D) : F := fun _ S => .ok (.im d) S
def lift1 (op : D → Option D) (x : Vl) (S : Sto) : R Vl := R.ofO ((x.view S).bind op) S
def lift2 (op : D → D → Option D) (x y : Vl) (S : Sto) : R Vl := R.ofO ((x.view S).bind fun a => (y.view S).bind fun b => op a b) S
def fUn (op : D → Option D) (fa : F) : F := fun γ S => (fa γ S).bind fun x S1 => lift1 op x S1
def fOp (op : D → D → Option D) (fa fb : F) : F := fun γ S => (fa γ S).bind fun x S1 => (fb γ S1).bind fun y S2 => lift2 op x y S2
/-- a truth value -/
def Vl.bl? : Vl → Option Bool
  | .im (.bl b) => some b
  | _ => none
def fTest (f : F) : FT := fun γ S => (f γ S).bind fun x S1 => match x.bl? with
  | some b => .ok b S1
  | none => .bad
def fOfT (f : FT) : F := fun γ S => (f γ S).bind fun b S1 => .ok (.im (.bl b)) S1
def fAnd (fa fb : FT) : FT := fun γ S => (fa γ S).bind fun b S1 => if b then fb γ S1 else .ok false S1
def fOr (fa fb : FT) : FT := fun γ S => (fa γ S).bind fun b S1 => if b then .ok true S1 else fb γ S1
def fNot (fa : FT) : FT := fun γ S => (fa γ S).bind fun b S1 => .ok (!b) S1
def fIf (ft : FT) (fa fb : F) : F := fun γ S => (ft γ S).bind fun b S1 => if b then fa γ S1 else fb γ S1
/-- a op1 b op2 c -/
def fChain (op op' : D → D → Option D) (fa fb fc : F) : F := fun γ S => (fa γ S).bind fun x S1 => (fb γ S1).bind fun y S2 => (lift2 op x y S2).bind fun z S3 => match z.bl? with
  | some true => (fc γ S3).bind fun w S4 => lift2 op' y w S4
  | some false => .ok (.im (.bl false)) S3
  | none => .bad
def fNil : FA := fun _ S => .ok [] S
def fCons (f : F) (r : FA) : FA := fun γ S => (f γ S).bind fun x S1 => (r γ S1).bind fun xs S2 => .ok (x :: xs) S2
/-- all data -/
def ims : List Vl → Option (List D)
  | [] => some []
  | .im d :: r => (ims r).map (d :: ·)
  | .cl _ :: _ => none
def views (S : Sto) : List Vl → Option (List D)
  | [] => some []
  | x :: r => (x.view S).bind fun d => (views S r).map (d :: ·)
def fTup (f : FA) : F := fun γ S => (f γ S).bind fun xs S1 => R.ofO ((ims xs).bind fun ds => if ds.length ≤ sizeLine then some (.tup ds) else none) S1
def fLst (f : FA) : F := fun γ S => (f γ S).bind fun xs S1 => R.ofO ((ims xs).bind fun ds => if ds.length ≤ sizeLine then some (.lst ds) else none) S1
/-- a new list of one's own -/
def fLstC (f : FA) : F := fun γ S => (f γ S).bind fun xs S1 => match ims xs with
  | some ds => if ds.length ≤ sizeLine then .ok (.cl S1.length) (S1 ++ [some (.lst ds)]) else .bad
  | none => .bad
/-- a builtin's call by data -/
def fCB (g : List D → Option D) (f : FA) : F := fun γ S => (f γ S).bind fun xs S1 => R.ofO ((views S1 xs).bind g) S1
section
variable {K : PySem.W.Frag} {mg : Str → Option Value} {W : WX}
theorem okv_im {g : At} {γ : Gam} {σ : St} {Q : VK} {B : Addr → Prop} {S : Sto} {ρ : List (List Addr)} {H H' : Hp} {v : V} {d : D} (h : Okv K mg g γ σ Q (.im d) S) (rep : Rep K mg B γ S ρ σ H) (hl : g.ρ.length = g.S.length) (e : g.to B S ρ H) (gr : Grow H H') (r : RD K mg B H' v d) : Q v H' :=
  h v H' B ρ (rep.step (Ext.grow rep.st gr) (rep.st.grow gr)) (e.trans (Ext.grow rep.st gr) hl rep.st.len) r
theorem sim_var (i : Nat) : Sim K mg W (tVar i) (fVar i) := by
  intro γ σ Q g rep h
  unfold fVar at h
  cases q : γ[i]? with
  | none => simp only [q] at h; exact h.elim
  | some o =>
    cases o with
    | none => simp only [q] at h; exact h.elim
    | some x =>
      simp only [q] at h
      obtain ⟨v, h1, h2⟩ := rep.slot i x q
      exact ⟨v, h1, h v g.H g.B g.ρ rep (Ext.refl rep.st) h2⟩
theorem sim_c {v : V} {d : D} (hr : ∀ B H, RD K mg B H v d) : Sim K mg W (tC v) (fC d) := fun γ σ Q g rep h => h v g.H g.B g.ρ rep (Ext.refl rep.st) (hr _ _)
theorem sim_un {r : V → Hp → VK → Prop} {op : D → Option D} {ta : TE} {fa : F} (hr : P1 K mg r op) (ha : Sim K mg W ta fa) : Sim K mg W (tUn r ta) (fUn op fa) := by
  intro γ σ Q g rep h
  refine ha.go rep (fun _ _ _ _ z => z) h fun x S v H B ρ rep1 e1 rv hk => ?_
  obtain ⟨d, hd, q⟩ := R.ofO_wp hk
  cases q1 : x.view S with
  | none => rw [q1] at hd; cases hd
  | some a =>
    rw [q1] at hd
    exact hr B H v a d Q (rv.rt rep1.st q1) hd rep1.st.dom fun v' H' gr rd => okv_im q rep1 rep.st.len e1 gr rd
theorem lift2_go {r : R2} {op : D → D → Option D} (hr : P2 K mg r op) {g : At} {γ : Gam} {σ : St} {Q : VK} {B : Addr → Prop} {S : Sto} {ρ : List (List Addr)} {H : Hp} {v u : V} {x y : Vl} {P : Vl → Sto → Prop} {X : PX} (rep : Rep K mg B γ S ρ σ H) (rx : RV K mg B S ρ H v x) (ry : RV K mg B S ρ H u y)
    (h : (lift2 op x y S).wp P X) (hQ : ∀ d v' H', P (.im d) S → Grow H H' → RD K mg B H' v' d → Q v' H') : r v u H Q := by
  obtain ⟨d, hd, q⟩ := R.ofO_wp h
  cases q1 : x.view S with
  | none => rw [q1] at hd; cases hd
  | some a =>
    rw [q1] at hd
    cases q2 : y.view S with
    | none => rw [q2] at hd; cases hd
    | some b =>
      rw [q2] at hd
      exact hr B H v u a b d Q (rx.rt rep.st q1) (ry.rt rep.st q2) hd rep.st.dom fun v' H' gr rd => hQ d v' H' q gr rd
theorem sim_op {r : R2} {op : D → D → Option D} {ta tb : TE} {fa fb : F} (hr : P2 K mg r op) (ha : Sim K mg W ta fa) (hb : Sim K mg W tb fb) : Sim K mg W (tOp r ta tb) (fOp op fa fb) := by
  intro γ σ Q g rep h
  refine ha.go rep (fun _ _ _ _ z => z) h fun x S v H B ρ rep1 e1 rv hk => ?_
  refine hb.go (g := ⟨B, S, ρ, H⟩) rep1 (fun _ _ _ _ z => z.on rep.st.len rep1.st.len e1) hk fun y S2 u H2 B2 ρ2 rep2 e2 ru hk2 => ?_
  exact lift2_go (g := g) hr rep2 (rv.mono e2 rep1.st) ru hk2 fun d v' H' q gr rd => okv_im q rep2 rep.st.len (e1.trans e2 rep.st.len rep1.st.len) gr rd
/-- a value that is a truth value -/
theorem bl_inv {x : Vl} {b : Bool} (h : x.bl? = some b) : x = .im (.bl b) := by
  cases x with
  | im d => cases d <;> simp [Vl.bl?] at h; simp [h]
  | cl i => simp [Vl.bl?] at h
theorem RD.bl_inv {B : Addr → Prop} {H : Hp} {v : V} {b : Bool} (r : RD K mg B H v (.bl b)) : v = .bl b := by cases r; rfl
theorem simT_test {t : TE} {f : F} (hs : Sim K mg W t f) : SimT K mg W (tTest t) (fTest f) := by
  intro γ σ Q g rep h
  refine hs.go rep (fun _ _ _ _ z => z) h fun x S v H B ρ rep1 e1 rv hk => ?_
  cases q : x.bl? with
  | none => simp only [q] at hk; exact hk.elim
  | some b =>
    simp only [q] at hk
    rw [bl_inv q] at rv
    exact ⟨b, RD.bl_inv rv, hk H B ρ rep1 e1⟩
theorem simT_B {t : TE} {f : F} (hs : Sim K mg W t f) : SimT K mg W (tB t) (fTest f) := simT_test hs
theorem simT_and {t u : TT} {f k : FT} (h1 : SimT K mg W t f) (h2 : SimT K mg W u k) : SimT K mg W (tAnd t u) (fAnd f k) := by
  intro γ σ Q g rep h
  refine h1.go rep (fun _ _ _ _ z => z) h fun b S H B ρ rep1 e1 hk => ?_
  cases b with
  | true => exact iteT (h2 γ σ Q ⟨B, S, ρ, H⟩ rep1 (R.wp_mono hk (fun _ _ z => z.on rep.st.len rep1.st.len e1) fun _ _ _ _ z => z.on rep.st.len rep1.st.len e1))
  | false => exact iteF (hk H B ρ rep1 e1)
theorem simT_or {t u : TT} {f k : FT} (h1 : SimT K mg W t f) (h2 : SimT K mg W u k) : SimT K mg W (tOr t u) (fOr f k) := by
  intro γ σ Q g rep h
  refine h1.go rep (fun _ _ _ _ z => z) h fun b S H B ρ rep1 e1 hk => ?_
  cases b with
  | true => exact iteT (hk H B ρ rep1 e1)
  | false => exact iteF (h2 γ σ Q ⟨B, S, ρ, H⟩ rep1 (R.wp_mono hk (fun _ _ z => z.on rep.st.len rep1.st.len e1) fun _ _ _ _ z => z.on rep.st.len rep1.st.len e1))
theorem simT_not {t : TT} {f : FT} (h1 : SimT K mg W t f) : SimT K mg W (tNot t) (fNot f) := by
  intro γ σ Q g rep h
  refine h1.go rep (fun _ _ _ _ z => z) h fun b S H B ρ rep1 e1 hk => hk H B ρ rep1 e1
/-- as values -/
theorem sim_andV {t u : TE} {f k : FT} {f' : F} (h1 : SimT K mg W (tTest t) f) (h2 : Sim K mg W u f') (hf : f' = fOfT k) : Sim K mg W (tAndV t u) (fOfT (fAnd f k)) := by
  intro γ σ Q g rep h
  subst hf
  have h' : ((f γ g.S).bind fun b S1 => ((if b = true then k γ S1 else R.ok false S1).bind fun b S1 => R.ok (Vl.im (.bl b)) S1)).wp (Okv K mg g γ σ Q) (Exv K mg g σ W) := by
    unfold fOfT fAnd at h
    cases q : f γ g.S <;> simp only [q, R.bind_ok, R.bind_exc, R.bind_bad] at h ⊢ <;> exact h
  have go := h1.go (Q1 := fun c H1 => if c = true then u σ H1 Q else Q (.bl false) H1) rep (fun _ _ _ _ z => z) h' fun b S H B ρ rep1 e1 hk => by
    cases b with
    | true =>
      refine iteT (h2 γ σ Q ⟨B, S, ρ, H⟩ rep1 (R.wp_mono hk (fun _ _ z => z.on rep.st.len rep1.st.len e1) fun _ _ _ _ z => z.on rep.st.len rep1.st.len e1))
    | false => exact iteF (hk _ H B ρ rep1 e1 (.bl false))
  exact go
theorem sim_orV {t u : TE} {f k : FT} {f' : F} (h1 : SimT K mg W (tTest t) f) (h2 : Sim K mg W u f') (hf : f' = fOfT k) : Sim K mg W (tOrV t u) (fOfT (fOr f k)) := by
  intro γ σ Q g rep h
  subst hf
  have h' : ((f γ g.S).bind fun b S1 => ((if b = true then R.ok true S1 else k γ S1).bind fun b S1 => R.ok (Vl.im (.bl b)) S1)).wp (Okv K mg g γ σ Q) (Exv K mg g σ W) := by
    unfold fOfT fOr at h
    cases q : f γ g.S <;> simp only [q, R.bind_ok, R.bind_exc, R.bind_bad] at h ⊢ <;> exact h
  have go := h1.go (Q1 := fun c H1 => if c = true then Q (.bl true) H1 else u σ H1 Q) rep (fun _ _ _ _ z => z) h' fun b S H B ρ rep1 e1 hk => by
    cases b with
    | true => exact iteT (hk _ H B ρ rep1 e1 (.bl true))
    | false => exact iteF (h2 γ σ Q ⟨B, S, ρ, H⟩ rep1 (R.wp_mono hk (fun _ _ z => z.on rep.st.len rep1.st.len e1) fun _ _ _ _ z => z.on rep.st.len rep1.st.len e1))
  exact go
theorem sim_notV {t : TE} {f : FT} (h1 : SimT K mg W (tTest t) f) : Sim K mg W (tNotV t) (fOfT (fNot f)) := by
  intro γ σ Q g rep h
  have h' : ((f γ g.S).bind fun b S1 => R.ok (Vl.im (.bl (!b))) S1).wp (Okv K mg g γ σ Q) (Exv K mg g σ W) := by
    unfold fOfT fNot at h
    cases q : f γ g.S <;> simp only [q, R.bind_ok, R.bind_exc, R.bind_bad] at h ⊢ <;> exact h
  exact h1.go (Q1 := fun c H1 => Q (.bl (!c)) H1) rep (fun _ _ _ _ z => z) h' fun b S H B ρ rep1 e1 hk => hk _ H B ρ rep1 e1 (.bl _)
/-- from a value's evaluator that always gives a truth value -/
theorem fTest_ofT (f : FT) : fTest (fOfT f) = f := by
  funext γ S
  unfold fTest fOfT
  cases f γ S <;> rfl
theorem sim_if {t : TT} {ta tb : TE} {f : FT} {fa fb : F} (h1 : SimT K mg W t f) (ha : Sim K mg W ta fa) (hb : Sim K mg W tb fb) : Sim K mg W (tIf t ta tb) (fIf f fa fb) := by
  intro γ σ Q g rep h
  refine h1.go rep (fun _ _ _ _ z => z) h fun b S H B ρ rep1 e1 hk => ?_
  cases b with
  | true => exact iteT (ha γ σ Q ⟨B, S, ρ, H⟩ rep1 (R.wp_mono hk (fun _ _ z => z.on rep.st.len rep1.st.len e1) fun _ _ _ _ z => z.on rep.st.len rep1.st.len e1))
  | false => exact iteF (hb γ σ Q ⟨B, S, ρ, H⟩ rep1 (R.wp_mono hk (fun _ _ z => z.on rep.st.len rep1.st.len e1) fun _ _ _ _ z => z.on rep.st.len rep1.st.len e1))
theorem sim_chain {r r' : R2} {op op' : D → D → Option D} {ta tb tc : TE} {fa fb fc : F} (hr : P2 K mg r op) (hr' : P2 K mg r' op') (ha : Sim K mg W ta fa) (hb : Sim K mg W tb fb) (hc : Sim K mg W tc fc) : Sim K mg W (tChain r r' ta tb tc) (fChain op op' fa fb fc) := by
  intro γ σ Q g rep h
  refine ha.go rep (fun _ _ _ _ z => z) h fun x S v H B ρ rep1 e1 rv hk => ?_
  refine hb.go (g := ⟨B, S, ρ, H⟩) rep1 (fun _ _ _ _ z => z.on rep.st.len rep1.st.len e1) hk fun y S2 u H2 B2 ρ2 rep2 e2 ru hk2 => ?_
  have e12 := e1.trans e2 rep.st.len rep1.st.len
  refine lift2_go (g := g) hr rep2 (rv.mono e2 rep1.st) ru (R.wp_bind hk2) fun d v' H' q gr rd => ?_
  have rep3 := rep2.step (Ext.grow rep2.st gr) (rep2.st.grow gr)
  have e123 : g.to B2 S2 ρ2 H' := e12.trans (Ext.grow rep2.st gr) rep.st.len rep2.st.len
  cases d with
  | bl b =>
    refine ⟨b, RD.bl_inv rd, ?_⟩
    cases b with
    | true =>
      refine iteT ?_
      refine hc.go (g := ⟨B2, S2, ρ2, H'⟩) rep3 (fun _ _ _ _ z => z.on rep.st.len rep3.st.len e123) q fun w S4 w' H4 B4 ρ4 rep4 e4 rw' hk4 => ?_
      exact lift2_go (g := g) hr' rep4 ((ru.mono (Ext.grow rep2.st gr) rep2.st).mono e4 rep3.st) rw' hk4 fun d v' H5 q5 gr5 rd5 => okv_im q5 rep4 rep.st.len (e123.trans e4 rep.st.len rep3.st.len) gr5 rd5
    | false => exact iteF (q _ H' B2 ρ2 rep3 e123 (.bl false))
  | _ => exact q.elim
theorem simA_nil : SimA K mg W tNil fNil := fun γ σ Q g rep h => h [] g.H g.B g.ρ rep (Ext.refl rep.st) .nil
theorem RVs.mono {B B1 : Addr → Prop} {S S1 : Sto} {ρ ρ1 : List (List Addr)} {H H1 : Hp} (e : Ext B S ρ H B1 S1 ρ1 H1) (ok : StOk K mg B S ρ H) {vs : List V} {xs : List Vl} (r : Paired (fun v x => RV K mg B S ρ H v x) vs xs) : Paired (fun v x => RV K mg B1 S1 ρ1 H1 v x) vs xs := by
  induction r with
  | nil => exact .nil
  | cons r _ ih => exact .cons (RV.mono e ok r) ih
theorem simA_cons {t : TE} {u : TA} {f : F} {k : FA} (h1 : Sim K mg W t f) (h2 : SimA K mg W u k) : SimA K mg W (tCons t u) (fCons f k) := by
  intro γ σ Q g rep h
  refine h1.go rep (fun _ _ _ _ z => z) h fun x S v H B ρ rep1 e1 rv hk => ?_
  refine h2.go (g := ⟨B, S, ρ, H⟩) rep1 (fun _ _ _ _ z => z.on rep.st.len rep1.st.len e1) hk fun xs S2 vs H2 B2 ρ2 rep2 e2 rvs hk2 => ?_
  exact hk2 (v :: vs) H2 B2 ρ2 rep2 (e1.trans e2 rep.st.len rep1.st.len) (.cons (rv.mono e2 rep1.st) rvs)
theorem ims_rd {B : Addr → Prop} {S : Sto} {ρ : List (List Addr)} {H : Hp} {vs : List V} {xs : List Vl} (r : Paired (fun v x => RV K mg B S ρ H v x) vs xs) : ∀ {ds : List D}, ims xs = some ds → RDs K mg B H vs ds := by
  induction r with
  | nil => intro ds h; cases h; exact .nil
  | @cons v x vs xs r _ ih =>
    intro ds h
    cases x with
    | cl i => simp [ims] at h
    | im d =>
      simp only [ims] at h
      cases q : ims xs with
      | none => rw [q] at h; cases h
      | some es =>
        rw [q] at h
        cases h
        exact .cons r (ih q)
abbrev RTs (K : PySem.W.Frag) (mg : Str → Option Value) (B : Addr → Prop) (H : Hp) : List V → List D → Prop := Paired (RT K mg B H)
theorem views_rt {B : Addr → Prop} {S : Sto} {ρ : List (List Addr)} {H : Hp} {vs : List V} {xs : List Vl} (ok : StOk K mg B S ρ H) (r : Paired (fun v x => RV K mg B S ρ H v x) vs xs) : ∀ {ds : List D}, views S xs = some ds → RTs K mg B H vs ds := by
  induction r with
  | nil => intro ds h; cases h; exact .nil
  | @cons v x vs xs r _ ih =>
    intro ds h
    simp only [views] at h
    cases q : x.view S with
    | none => rw [q] at h; cases h
    | some d =>
      rw [q] at h
      cases q2 : views S xs with
      | none => rw [q2] at h; cases h
      | some es =>
        rw [q2] at h
        cases h
        exact .cons (r.rt ok q) (ih q2)
theorem sim_tup {t : TA} {f : FA} (h1 : SimA K mg W t f) : Sim K mg W (tTup t) (fTup f) := by
  intro γ σ Q g rep h
  refine h1.go rep (fun _ _ _ _ z => z) h fun xs S vs H B ρ rep1 e1 rv hk => ?_
  obtain ⟨d, hd, q⟩ := R.ofO_wp hk
  cases q1 : ims xs with
  | none => rw [q1] at hd; cases hd
  | some ds =>
    simp only [q1, Option.bind_some] at hd
    split at hd
    · rename_i hl
      cases hd
      have r := ims_rd rv q1
      exact ⟨by rw [r.length]; exact hl, fun p hp => okv_im q rep1 rep.st.len e1 (Grow.upd hp) (rd_newT hp rep1.st.dom r)⟩
    · cases hd
theorem sim_lst {t : TA} {f : FA} (h1 : SimA K mg W t f) : Sim K mg W (tLst t) (fLst f) := by
  intro γ σ Q g rep h
  refine h1.go rep (fun _ _ _ _ z => z) h fun xs S vs H B ρ rep1 e1 rv hk => ?_
  obtain ⟨d, hd, q⟩ := R.ofO_wp hk
  cases q1 : ims xs with
  | none => rw [q1] at hd; cases hd
  | some ds =>
    simp only [q1, Option.bind_some] at hd
    split at hd
    · rename_i hl
      cases hd
      have r := ims_rd rv q1
      exact ⟨by rw [r.length]; exact hl, fun p hp => okv_im q rep1 rep.st.len e1 (Grow.upd hp) (rd_newL hp rep1.st.dom r)⟩
    · cases hd
/-- a new cell at the fresh address p -/
theorem new_cell {B : Addr → Prop} {S : Sto} {ρ : List (List Addr)} {H : Hp} {p : Addr} {o : HO} {c : Cell} (ok : StOk K mg B S ρ H) (hp : H p = none) (hc : CellR K mg (fun a => B a ∨ a = p) (upd H p o) [p] c) :
    StOk K mg (fun a => B a ∨ a = p) (S ++ [some c]) (ρ ++ [[p]]) (upd H p o) ∧ Ext B S ρ H (fun a => B a ∨ a = p) (S ++ [some c]) (ρ ++ [[p]]) (upd H p o) := by
  have gr : Gr B H (fun a => B a ∨ a = p) (upd H p o) := fun a x h b => ⟨Grow.upd hp a x h, fun z => z.elim b fun e => by rw [e, hp] at h; cases h⟩
  have low : ∀ {i : Nat} {fp : List Addr}, (ρ ++ [[p]])[i]? = some fp → (i < ρ.length ∧ ρ[i]? = some fp) ∨ (i = ρ.length ∧ fp = [p]) := fun {i fp} h => by
    by_cases hi : i < ρ.length
    · rw [List.getElem?_append_left hi] at h; exact .inl ⟨hi, h⟩
    · rw [List.getElem?_append_right (by omega)] at h
      have : i - ρ.length = 0 := by
        have := (List.getElem?_eq_some_iff.mp h).1
        simp at this; omega
      rw [this] at h
      simp at h
      exact .inr ⟨by omega, h.symm⟩
  have lowS : ∀ {i : Nat} {c' : Cell}, (S ++ [some c])[i]? = some (some c') → (i < S.length ∧ S[i]? = some (some c')) ∨ (i = S.length ∧ c' = c) := fun {i c'} h => by
    by_cases hi : i < S.length
    · rw [List.getElem?_append_left hi] at h; exact .inl ⟨hi, h⟩
    · rw [List.getElem?_append_right (by omega)] at h
      have : i - S.length = 0 := by
        have := (List.getElem?_eq_some_iff.mp h).1
        simp at this; omega
      rw [this] at h
      simp at h
      exact .inr ⟨by omega, h.symm⟩
  have hl := ok.len
  have foot : ∀ {a : Addr}, Foot (S ++ [some c]) (ρ ++ [[p]]) a → Foot S ρ a ∨ a = p := fun {a} hz => by
    rcases hz with ⟨i, fp, c', h1, h2, h3⟩ | hz
    case inr => exact .inl (.inr hz)
    rcases low h1 with ⟨q1, q2⟩ | ⟨q1, q2⟩
    · rcases lowS h2 with ⟨q3, q4⟩ | ⟨q3, q4⟩
      · exact .inl (.inl ⟨i, fp, c', q2, q4, h3⟩)
      · omega
    · subst q2; exact .inr (by simpa using h3)
  refine ⟨⟨by simp [hl], fun i fp c' h1 h2 => ?_, fun a h => ?_, fun i j fp fp' c1 c2 h1 h2 h3 h4 a ha hb => ?_, fun a h => ?_, tabs_upd ok.tabs fun u hu => by rw [hp] at hu; cases hu⟩, ⟨by simp, fun i fp h => ?_, fun i h => ?_, fun a x h _ => Grow.upd hp a x h, fun a x h b => (gr a x h b).2, fun i fp c' hi h1 h2 a ha => ?_, fun a h => ?_, ok.dom, fun a h _ => .inl h⟩⟩
  · rcases low h1 with ⟨q1, q2⟩ | ⟨q1, q2⟩
    · rcases lowS h2 with ⟨q3, q4⟩ | ⟨q3, q4⟩
      · refine (ok.cell i fp c' q2 q4).mono gr fun a ha x hx => Grow.upd hp a x hx
      · omega
    · rcases lowS h2 with ⟨q3, q4⟩ | ⟨q3, q4⟩
      · omega
      · subst q2 q4; exact hc
  · rcases foot h with h | h
    · exact .inl (ok.ban a h)
    · exact .inr h
  · have np : ∀ {i : Nat} {fp : List Addr} {c' : Cell} {a : Addr}, ρ[i]? = some fp → S[i]? = some (some c') → a ∈ fp → a ≠ p := fun {i fp c' a} k1 k2 k3 e => by
      have := ok.dom a (ok.ban a (.inl ⟨i, fp, c', k1, k2, k3⟩))
      rw [e] at this; exact this hp
    rcases low h1 with ⟨q1, q2⟩ | ⟨q1, q2⟩ <;> rcases low h2 with ⟨q3, q4⟩ | ⟨q3, q4⟩ <;> rcases lowS h3 with ⟨q5, q6⟩ | ⟨q5, q6⟩ <;> rcases lowS h4 with ⟨q7, q8⟩ | ⟨q7, q8⟩ <;> try omega
    · exact ok.disj i j fp fp' c1 c2 q2 q4 q6 q8 a ha hb
    · subst q4; exact absurd (by simpa using hb) (np q2 q6 ha)
    · subst q2; exact absurd (by simpa using ha) (np q4 q8 hb)
  · rcases h with h | h
    · intro z
      cases q : H a with
      | none => exact ok.dom a h q
      | some x => rw [Grow.upd hp a x q] at z; cases z
    · subst h; rw [upd_same]; simp
  · rw [List.getElem?_append_left (List.getElem?_eq_some_iff.mp h).1]; exact h
  · rw [List.getElem?_append_left (List.getElem?_eq_some_iff.mp h).1]; exact h
  · rcases low h1 with ⟨q1, q2⟩ | ⟨q1, q2⟩
    · omega
    · subst q2
      have : a = p := by simpa using ha
      rw [this]; exact hp
  · intro z
    cases q : H a with
    | none => exact h q
    | some x => rw [Grow.upd hp a x q] at z; cases z
theorem rds_ban {B : Addr → Prop} {H : Hp} {p : Addr} {o : HO} (hp : H p = none) : Gr B H (fun a => B a ∨ a = p) (upd H p o) := fun a x h b => ⟨Grow.upd hp a x h, fun z => z.elim b fun e => by rw [e, hp] at h; cases h⟩
theorem sim_lstC {t : TA} {f : FA} (h1 : SimA K mg W t f) : Sim K mg W (tLst t) (fLstC f) := by
  intro γ σ Q g rep h
  refine h1.go rep (fun _ _ _ _ z => z) h fun xs S vs H B ρ rep1 e1 rv hk => ?_
  cases q1 : ims xs with
  | none => simp only [q1] at hk; exact hk.elim
  | some ds =>
    simp only [q1] at hk
    split at hk
    · rename_i hl
      have r := ims_rd rv q1
      refine ⟨by rw [r.length]; exact hl, fun p hp => ?_⟩
      obtain ⟨ok, e⟩ := new_cell (c := .lst ds) rep1.st hp ⟨vs, upd_same, r.mono (rds_ban hp)⟩
      refine hk (.ref p) _ _ _ (rep1.step e ok) (e1.trans e rep.st.len rep1.st.len) ⟨by simp, fun c hc => ⟨p, [], ?_, rfl⟩⟩
      rw [List.getElem?_append_right (by rw [rep1.st.len]; exact Nat.le_refl _), rep1.st.len]
      simp
    · exact hk.elim
/-- builtins by data -/
def PCall (K : PySem.W.Frag) (mg : Str → Option Value) (r : List V → Hp → VK → Prop) (op : List D → Option D) : Prop := ∀ (B : Addr → Prop) (H : Hp) (xs : List V) (ds : List D) (d : D) (Q : VK), RTs K mg B H xs ds → op ds = some d → (∀ a, B a → H a ≠ none) →
  (∀ v H', Grow H H' → RD K mg B H' v d → Q v H') → r xs H Q
theorem sim_CB {r : List V → Hp → VK → Prop} {op : List D → Option D} {t : TA} {f : FA} (hr : PCall K mg r op) (h1 : SimA K mg W t f) : Sim K mg W (tCB r t) (fCB op f) := by
  intro γ σ Q g rep h
  refine h1.go rep (fun _ _ _ _ z => z) h fun xs S vs H B ρ rep1 e1 rv hk => ?_
  obtain ⟨d, hd, q⟩ := R.ofO_wp hk
  cases q1 : views S xs with
  | none => rw [q1] at hd; cases hd
  | some ds =>
    rw [q1] at hd
    exact hr B H vs ds d Q (views_rt rep1.st rv q1) hd rep1.st.dom fun v' H' gr rd => okv_im q rep1 rep.st.len e1 gr rd
theorem PCall.or {r r' : List V → Hp → VK → Prop} {op op' : List D → Option D} (h : PCall K mg r op) (h' : PCall K mg r' op') : PCall K mg (fun xs H Q => r xs H Q ∨ r' xs H Q) (fun ds => (op ds).or (op' ds)) := by
  intro B H xs ds d Q rx e hB hQ
  cases q : op ds with
  | some d' =>
    simp only [q, Option.some_or, Option.some.injEq] at e
    subst e
    exact .inl (h B H xs ds d' Q rx q hB hQ)
  | none =>
    simp only [q, Option.none_or] at e
    exact .inr (h' B H xs ds d Q rx e hB hQ)
def D.fld (f : Str) : D → Option D
  | .ins _ fs => fs.lookup f
  | _ => none
def fFld (f : Str) (fa : F) : F := fUn (D.fld f) fa
/-- what the text says of a class whose attribute f is read -/
def FldOk (K : PySem.W.Frag) (mg : Str → Option Value) (f : Str) (cs : Str → Bool) : Prop := ∀ c C, cs c = true → mg c = some (.ref C) → Cls K C ∧ NoAttr K C f
def D.fldIn (f : Str) (cs : Str → Bool) : D → Option D
  | .ins c fs => if cs c then fs.lookup f else none
  | _ => none
theorem sim_fld {ta : TE} {fa : F} {f : Str} {cs : Str → Bool} (hk : FldOk K mg f cs) (ha : Sim K mg W ta fa) : Sim K mg W (tFld K ta f) (fUn (D.fldIn f cs) fa) := by
  intro γ σ Q g rep h
  refine ha.go rep (fun _ _ _ _ z => z) h fun x S v H B ρ rep1 e1 rv hk1 => ?_
  obtain ⟨d, hd, q⟩ := R.ofO_wp hk1
  cases q1 : x.view S with
  | none => rw [q1] at hd; cases hd
  | some a =>
    rw [q1] at hd
    cases a <;> simp only [D.fldIn, Option.bind_some, reduceCtorEq] at hd
    rename_i c fs
    split at hd
    · rename_i hc
      have fin : ∀ {b C dx : Addr} {fvs : List (Str × V)}, v = .ref b → H b = some (.ins C dx fvs) → mg c = some (.ref C) → RDf K mg B H fvs fs → ∃ a C dx fs v', v = .ref a ∧ H a = some (.ins C dx fs) ∧ Cls K C ∧ NoAttr K C f ∧ fs.lookup f = some v' ∧ Q v' H := by
        intro b C dx fvs hv hb hm r
        obtain ⟨u, h1, h2⟩ := r.lookup hd
        obtain ⟨k1, k2⟩ := hk c C hc hm
        exact ⟨b, C, dx, fvs, u, hv, hb, k1, k2, h1, okv_im q rep1 rep.st.len e1 (Grow.refl _) h2⟩
      have rt := rv.rt rep1.st q1
      cases rt with
      | of r => cases r with
        | ins h1 b m r => exact fin rfl h1 m r
      | ins h1 m r => exact fin rfl h1 m r
    · cases hd
end
end DL
namespace DL
open PySem PySem.Spec L2
open PyProof.Rows hiding St
variable [Tbl]
inductive Fl where
  | nx (γ : Gam) | rt (x : Vl) | bk (γ : Gam) | ct (γ : Gam)
abbrev FS := Gam → Sto → R Fl
section
variable (K : PySem.W.Frag) (mg : Str → Option Value)
def Okf (g : At) (D : Ends) : Fl → Sto → Prop
  | .nx γ, S => ∀ σ H B ρ, Rep K mg B γ S ρ σ H → g.to B S ρ H → D.nx σ H
  | .bk γ, S => ∀ σ H B ρ, Rep K mg B γ S ρ σ H → g.to B S ρ H → D.bk σ H
  | .ct γ, S => ∀ σ H B ρ, Rep K mg B γ S ρ σ H → g.to B S ρ H → D.ct σ H
  | .rt x, S => ∀ v H B ρ, StOk K mg B S ρ H → g.to B S ρ H → RV K mg B S ρ H v x → D.rt v H
def SimS (W : WX) (t : TS) (f : FS) : Prop := ∀ (γ : Gam) (σ : St) (D : Ends) (g : At), Rep K mg g.B γ g.S g.ρ σ g.H → (f γ g.S).wp (Okf K mg g D) (Exw K mg g W) → t D σ g.H
/-- a target takes a value -/
abbrev FG := Vl → Gam → Option Gam
def SimG (t : TG) (f : FG) : Prop := ∀ (B : Addr → Prop) (γ γ' : Gam) (S : Sto) (ρ : List (List Addr)) (σ : St) (H : Hp) (v : V) (x : Vl) (Q : St → Hp → Prop), Rep K mg B γ S ρ σ H → RV K mg B S ρ H v x → f x γ = some γ' → (∀ σ', Rep K mg B γ' S ρ σ' H → Q σ' H) → t v σ H Q
end
section
variable {K : PySem.W.Frag} {mg : Str → Option Value} {W : WX}
theorem Exw.v {g : At} {σ : St} {c : Str} {fs : List (Str × D)} {γ : Gam} {S : Sto} (h : Exw K mg g W c fs γ S) : Exv K mg g σ W c fs γ S := fun cls dd H B ρ r e x => h cls dd σ H B ρ r e x
theorem Exw.on {g : At} {B1 : Addr → Prop} {S1 : Sto} {ρ1 : List (List Addr)} {H1 : Hp} (hl : g.ρ.length = g.S.length) (hl1 : ρ1.length = S1.length) (e : g.to B1 S1 ρ1 H1) {c : Str} {fs : List (Str × D)} {γ : Gam} {S : Sto} (h : Exw K mg g W c fs γ S) : Exw K mg ⟨B1, S1, ρ1, H1⟩ W c fs γ S :=
  fun cls dd σ H B ρ r e1 x => h cls dd σ H B ρ r (e.trans e1 hl hl1) x
theorem Okf.on {g : At} {D : Ends} {B1 : Addr → Prop} {S1 : Sto} {ρ1 : List (List Addr)} {H1 : Hp} (hl : g.ρ.length = g.S.length) (hl1 : ρ1.length = S1.length) (e : g.to B1 S1 ρ1 H1) {x : Fl} {S : Sto} (h : Okf K mg g D x S) : Okf K mg ⟨B1, S1, ρ1, H1⟩ D x S := by
  cases x with
  | rt x => exact fun v H B ρ r e1 rv => h v H B ρ r (e.trans e1 hl hl1) rv
  | nx γ => exact fun σ H B ρ r e1 => h σ H B ρ r (e.trans e1 hl hl1)
  | bk γ => exact fun σ H B ρ r e1 => h σ H B ρ r (e.trans e1 hl hl1)
  | ct γ => exact fun σ H B ρ r e1 => h σ H B ρ r (e.trans e1 hl hl1)
theorem Sim.goS {t : TE} {f : F} {g : At} {γ : Gam} {σ : St} {Q1 : VK} (hs : Sim K mg W t f) (rep : Rep K mg g.B γ g.S g.ρ σ g.H) {g0 : At} (hX : ∀ c fs γ' S, Exw K mg g0 W c fs γ' S → Exw K mg g W c fs γ' S) {β : Type} {k : Vl → Sto → R β} {P : β → Sto → Prop}
    (h : ((f γ g.S).bind k).wp P (Exw K mg g0 W))
    (nx : ∀ x S v H B ρ, Rep K mg B γ S ρ σ H → g.to B S ρ H → RV K mg B S ρ H v x → (k x S).wp P (Exw K mg g0 W) → Q1 v H) : t σ g.H Q1 :=
  hs.go rep (fun c fs γ' S z => (hX c fs γ' S z).v) h nx
theorem SimT.goS {t : TT} {f : FT} {g : At} {γ : Gam} {σ : St} {Q1 : Bool → Hp → Prop} (hs : SimT K mg W t f) (rep : Rep K mg g.B γ g.S g.ρ σ g.H) {g0 : At} (hX : ∀ c fs γ' S, Exw K mg g0 W c fs γ' S → Exw K mg g W c fs γ' S) {β : Type} {k : Bool → Sto → R β} {P : β → Sto → Prop}
    (h : ((f γ g.S).bind k).wp P (Exw K mg g0 W))
    (nx : ∀ x S H B ρ, Rep K mg B γ S ρ σ H → g.to B S ρ H → (k x S).wp P (Exw K mg g0 W) → Q1 x H) : t σ g.H Q1 :=
  hs.go rep (fun c fs γ' S z => (hX c fs γ' S z).v) h nx
def fSkip : FS := fun γ S => .ok (.nx γ) S
def fNever : FS := fun _ _ => .bad
def fSeq (f k : FS) : FS := fun γ S => (f γ S).bind fun x S1 => match x with
  | .nx γ1 => k γ1 S1
  | x => .ok x S1
def fExpr (f : F) : FS := fun γ S => (f γ S).bind fun _ S1 => .ok (.nx γ) S1
def fRet (f : F) : FS := fun γ S => (f γ S).bind fun x S1 => .ok (.rt x) S1
def fRetN : FS := fun _ S => .ok (.rt (.im .non)) S
def fBreak : FS := fun γ S => .ok (.bk γ) S
def fCont : FS := fun γ S => .ok (.ct γ) S
def fIfS (c : FT) (f k : FS) : FS := fun γ S => (c γ S).bind fun b S1 => if b then f γ S1 else k γ S1
def fAsg (f : F) (t : FG) : FS := fun γ S => (f γ S).bind fun x S1 => match t x γ with
  | some γ1 => .ok (.nx γ1) S1
  | none => .bad
def gSet (i : Nat) : FG := fun x γ => if i < γ.length then some (γ.set i (some x)) else none
/-- targets -/
inductive Tg where
  | name (i : Nat) | tup (n : Nat) (ts : Tg) | nil | cons (h t : Tg)
mutual
def Tg.set : Tg → D → Gam → Option Gam
  | .name i, d, γ => if i < γ.length then some (γ.set i (some (.im d))) else none
  | .tup n ts, .tup ds, γ => if ds.length = n then Tg.sets ts ds γ else none
  | _, _, _ => none
def Tg.sets : Tg → List D → Gam → Option Gam
  | .nil, [], γ => some γ
  | .cons h t, d :: ds, γ => (Tg.set h d γ).bind fun γ1 => Tg.sets t ds γ1
  | _, _, _ => none
end
def Tg.fg (t : Tg) : FG := fun x γ => match t, x with
  | .name i, x => gSet i x γ
  | t, .im d => t.set d γ
  | _, _ => none
mutual
def Tg.tg (K : PySem.W.Frag) : Tg → TG
  | .name i => gName i
  | .tup n ts => gTup K n (Tg.tgs K ts)
  | _ => fun _ _ _ _ => False
def Tg.tgs (K : PySem.W.Frag) : Tg → TGs
  | .nil => gNil
  | .cons h t => gCons (Tg.tg K h) (Tg.tgs K t)
  | _ => fun _ _ _ _ => False
end
/-- its slots -/
def Tg.slots : Tg → List Nat
  | .name i => [i]
  | .tup _ ts => ts.slots
  | .nil => []
  | .cons h t => h.slots ++ t.slots
theorem rep_set {B : Addr → Prop} {γ : Gam} {S : Sto} {ρ : List (List Addr)} {σ : St} {H : Hp} {i : Nat} {v : V} {x : Vl} (rep : Rep K mg B γ S ρ σ H) (r : RV K mg B S ρ H v x) : Rep K mg B (γ.set i (some x)) S ρ (σ.set i (some v)) H := by
  refine ⟨rep.st, fun j y h => ?_, by simp [rep.len]⟩
  by_cases hj : j = i
  · subst hj
    have hi : j < γ.length := by
      have := (List.getElem?_eq_some_iff.mp h).1
      simpa using this
    rw [List.getElem?_set_self hi] at h
    cases h
    exact ⟨v, List.getElem?_set_self (by rw [← rep.len]; exact hi), r⟩
  · rw [List.getElem?_set_ne (Ne.symm hj)] at h
    obtain ⟨u, h1, h2⟩ := rep.slot j y h
    exact ⟨u, by rw [List.getElem?_set_ne (Ne.symm hj)]; exact h1, h2⟩
theorem simG_name (i : Nat) : SimG K mg (gName i) (gSet i) := by
  intro B γ γ' S ρ σ H v x Q rep r h hQ
  unfold gSet at h
  split at h
  · cases h; exact hQ _ (rep_set rep r)
  · cases h
mutual
theorem Tg.sim : ∀ (t : Tg) (B : Addr → Prop) (γ γ' : Gam) (S : Sto) (ρ : List (List Addr)) (σ : St) (H : Hp) (v : V) (d : D) (Q : St → Hp → Prop), Rep K mg B γ S ρ σ H → RD K mg B H v d → t.set d γ = some γ' → (∀ σ', Rep K mg B γ' S ρ σ' H → Q σ' H) → t.tg K v σ H Q
  | .name i, B, γ, γ', S, ρ, σ, H, v, d, Q, rep, r, h, hQ => by
    rw [Tg.tg]
    refine simG_name i B γ γ' S ρ σ H v (.im d) Q rep r ?_ hQ
    rw [Tg.set] at h
    exact h
  | .tup n ts, B, γ, γ', S, ρ, σ, H, v, d, Q, rep, r, h, hQ => by
    rw [Tg.tg]
    cases d <;> simp only [Tg.set, reduceCtorEq] at h
    split at h
    · rename_i ds hn
      obtain ⟨a, vs, rfl, hs, rs⟩ := RT.tup_inv r.rt
      exact ⟨a, vs, rfl, hs, by rw [rs.length]; exact hn, Tg.sims ts B γ γ' S ρ σ H vs ds Q rep rs h hQ⟩
    · cases h
  | .nil, _, _, _, _, _, _, _, _, d, _, _, _, h, _ => by simp [Tg.set] at h
  | .cons _ _, _, _, _, _, _, _, _, _, d, _, _, _, h, _ => by simp [Tg.set] at h
theorem Tg.sims : ∀ (t : Tg) (B : Addr → Prop) (γ γ' : Gam) (S : Sto) (ρ : List (List Addr)) (σ : St) (H : Hp) (vs : List V) (ds : List D) (Q : St → Hp → Prop), Rep K mg B γ S ρ σ H → RDs K mg B H vs ds → t.sets ds γ = some γ' → (∀ σ', Rep K mg B γ' S ρ σ' H → Q σ' H) → t.tgs K vs σ H Q
  | .nil, B, γ, γ', S, ρ, σ, H, vs, ds, Q, rep, r, h, hQ => by
    rw [Tg.tgs]
    cases r with
    | nil => simp only [Tg.sets, Option.some.injEq] at h; subst h; exact ⟨rfl, hQ σ rep⟩
    | cons _ _ => simp [Tg.sets] at h
  | .cons t u, B, γ, γ', S, ρ, σ, H, vs, ds, Q, rep, r, h, hQ => by
    rw [Tg.tgs]
    cases r with
    | nil => simp [Tg.sets] at h
    | @cons v d vs ds r rs =>
      simp only [Tg.sets] at h
      cases q : t.set d γ with
      | none => simp [q] at h
      | some γ1 =>
        simp only [q, Option.bind_some] at h
        exact ⟨v, vs, rfl, Tg.sim t B γ γ1 S ρ σ H v d _ rep r q fun σ' rep' => Tg.sims u B γ1 γ' S ρ σ' H vs ds Q rep' rs h hQ⟩
  | .name _, _, _, _, _, _, _, _, _, ds, _, _, _, h, _ => by simp [Tg.sets] at h
  | .tup _ _, _, _, _, _, _, _, _, _, ds, _, _, _, h, _ => by simp [Tg.sets] at h
end
theorem simG_tg (t : Tg) : SimG K mg (t.tg K) t.fg := by
  intro B γ γ' S ρ σ H v x Q rep r h hQ
  cases t with
  | name i => rw [Tg.tg]; exact simG_name i B γ γ' S ρ σ H v x Q rep r h hQ
  | tup n ts =>
    cases x with
    | im d => exact Tg.sim _ B γ γ' S ρ σ H v d Q rep r h hQ
    | cl i => simp [Tg.fg] at h
  | nil =>
    cases x with
    | im d => simp [Tg.fg, Tg.set] at h
    | cl i => simp [Tg.fg] at h
  | cons a b =>
    cases x with
    | im d => simp [Tg.fg, Tg.set] at h
    | cl i => simp [Tg.fg] at h
theorem simS_skip : SimS K mg W tNext fSkip := fun γ σ D g rep h => h σ g.H g.B g.ρ rep (Ext.refl rep.st)
theorem simS_never {t : TS} : SimS K mg W t fNever := fun γ σ D g rep h => h.elim
theorem simS_break : SimS K mg W tBreak fBreak := fun γ σ D g rep h => h σ g.H g.B g.ρ rep (Ext.refl rep.st)
theorem simS_cont : SimS K mg W tCont fCont := fun γ σ D g rep h => h σ g.H g.B g.ρ rep (Ext.refl rep.st)
theorem simS_seq {t u : TS} {f k : FS} (h1 : SimS K mg W t f) (h2 : SimS K mg W u k) : SimS K mg W (tSeq t u) (fSeq f k) := by
  intro γ σ D g rep h
  refine h1 γ σ { D with nx := u D } g rep (R.wp_mono (R.wp_bind h) (fun x S hk => ?_) fun _ _ _ _ z => z)
  cases x with
  | nx γ1 => exact fun σ1 H1 B1 ρ1 rep1 e1 => h2 γ1 σ1 D ⟨B1, S, ρ1, H1⟩ rep1 (R.wp_mono hk (fun _ _ z => z.on rep.st.len rep1.st.len e1) fun _ _ _ _ z => z.on rep.st.len rep1.st.len e1)
  | rt x => exact hk
  | bk γ1 => exact hk
  | ct γ1 => exact hk
theorem simS_expr {t : TE} {f : F} (h1 : Sim K mg W t f) : SimS K mg W (tDrop t) (fExpr f) := by
  intro γ σ D g rep h
  exact h1.goS rep (fun _ _ _ _ z => z) h fun x S v H B ρ rep1 e1 rv hk => hk σ H B ρ rep1 e1
theorem simS_ret {t : TE} {f : F} (h1 : Sim K mg W t f) : SimS K mg W (tRet t) (fRet f) := by
  intro γ σ D g rep h
  exact h1.goS rep (fun _ _ _ _ z => z) h fun x S v H B ρ rep1 e1 rv hk => hk v H B ρ rep1.st e1 rv
theorem simS_retN : SimS K mg W tRetN fRetN := fun γ σ D g rep h => h .non g.H g.B g.ρ rep.st (Ext.refl rep.st) .non
theorem simS_if {c : TT} {t u : TS} {fc : FT} {f k : FS} (hc : SimT K mg W c fc) (h1 : SimS K mg W t f) (h2 : SimS K mg W u k) : SimS K mg W (tIfS c t u) (fIfS fc f k) := by
  intro γ σ D g rep h
  refine hc.goS rep (fun _ _ _ _ z => z) h fun b S H B ρ rep1 e1 hk => ?_
  cases b with
  | true => exact iteT (h1 γ σ D ⟨B, S, ρ, H⟩ rep1 (R.wp_mono hk (fun _ _ z => z.on rep.st.len rep1.st.len e1) fun _ _ _ _ z => z.on rep.st.len rep1.st.len e1))
  | false => exact iteF (h2 γ σ D ⟨B, S, ρ, H⟩ rep1 (R.wp_mono hk (fun _ _ z => z.on rep.st.len rep1.st.len e1) fun _ _ _ _ z => z.on rep.st.len rep1.st.len e1))
theorem simS_asg {t : TE} {f : F} {tg : TG} {fg : FG} (h1 : Sim K mg W t f) (hg : SimG K mg tg fg) : SimS K mg W (tAsg t tg) (fAsg f fg) := by
  intro γ σ D g rep h
  refine h1.goS rep (fun _ _ _ _ z => z) h fun x S v H B ρ rep1 e1 rv hk => ?_
  cases q : fg x γ with
  | none => simp only [q] at hk; exact hk.elim
  | some γ1 =>
    simp only [q] at hk
    exact hg B γ γ1 S ρ σ H v x D.nx rep1 rv q fun σ1 rep2 => hk σ1 H B ρ rep2 e1
/-- what was represented is so still -/
structure Stp (K : PySem.W.Frag) (mg : Str → Option Value) (B : Addr → Prop) (S : Sto) (ρ : List (List Addr)) (H : Hp) (B' : Addr → Prop) (S' : Sto) (ρ' : List (List Addr)) (H' : Hp) : Prop where
  rv : ∀ v x, RV K mg B S ρ H v x → RV K mg B' S' ρ' H' v x
  gr : Gr B H B' H'
theorem Stp.trans {B B1 B2 : Addr → Prop} {S S1 S2 : Sto} {ρ ρ1 ρ2 : List (List Addr)} {H H1 H2 : Hp} (a : Stp K mg B S ρ H B1 S1 ρ1 H1) (b : Stp K mg B1 S1 ρ1 H1 B2 S2 ρ2 H2) : Stp K mg B S ρ H B2 S2 ρ2 H2 := ⟨fun v x r => b.rv v x (a.rv v x r), a.gr.trans b.gr⟩
theorem Ext.stp {B B1 : Addr → Prop} {S S1 : Sto} {ρ ρ1 : List (List Addr)} {H H1 : Hp} (e : Ext B S ρ H B1 S1 ρ1 H1) (ok : StOk K mg B S ρ H) : Stp K mg B S ρ H B1 S1 ρ1 H1 := ⟨fun v x r => r.mono e ok, e.gr ok⟩
section
variable (K : PySem.W.Frag) (mg : Str → Option Value)
/-- the iterator J gives these items, at any state from g0 on -/
def JOk (g0 : At) (J : It) (its : Sto → Option (List D)) : Prop := ∀ (B : Addr → Prop) (S : Sto) (ρ : List (List Addr)) (H : Hp) (i : Nat) (ds : List D), StOk K mg B S ρ H → Stp K mg g0.B g0.S g0.ρ g0.H B S ρ H → its S = some ds →
  (∀ d, ds[i]? = some d → J.go i H ∧ ∀ x H', J.yld i H x H' → Grow H H' ∧ RD K mg B H' x d) ∧ (ds[i]? = none → J.stop i H)
abbrev FI := Gam → Sto → R (Sto → Option (List D))
def SimI (W : WX) (wi : TI) (f : FI) : Prop := ∀ (γ : Gam) (σ : St) (Q : It → Hp → Prop) (g : At), Rep K mg g.B γ g.S g.ρ σ g.H →
  (f γ g.S).wp (fun its S => ∀ J H B ρ, Rep K mg B γ S ρ σ H → g.to B S ρ H → JOk K mg ⟨B, S, ρ, H⟩ J its → Q J H) (Exv K mg g σ W) → wi σ g.H Q
end
def floop (its : Sto → Option (List D)) (tg : Tg) (body : FS) : Nat → Nat → Gam → Sto → R Fl
  | 0, _, _, _ => .bad
  | n + 1, i, γ, S => match its S with
    | none => .bad
    | some ds => match ds[i]? with
      | none => .ok (.nx γ) S
      | some d => match tg.fg (.im d) γ with
        | none => .bad
        | some γ1 => (body γ1 S).bind fun x S1 => match x with
          | .nx γ2 => floop its tg body n (i + 1) γ2 S1
          | .ct γ2 => floop its tg body n (i + 1) γ2 S1
          | .bk γ2 => .ok (.nx γ2) S1
          | .rt x => .ok (.rt x) S1
def fFor (fi : FI) (tg : Tg) (body : FS) : FS := fun γ S => (fi γ S).bind fun its S1 => match its S1 with
  | none => .bad
  | some ds => floop its tg body (ds.length + 1) 0 γ S1
theorem simS_for {wi : TI} {fi : FI} {tg : Tg} {tb : TS} {fb : FS} (hi : SimI K mg W wi fi) (hb : SimS K mg W tb fb) : SimS K mg W (tFor wi (tg.tg K) tb) (fFor fi tg fb) := by
  intro γ σ D g rep h
  refine hi γ σ _ g rep (R.wp_mono (R.wp_bind h) (fun its S hk J H B ρ rep1 e1 jo => ?_) fun _ _ _ _ z => z.v)
  cases q0 : its S with
  | none => simp only [q0] at hk; exact hk.elim
  | some ds0 =>
  simp only [q0] at hk
  refine ⟨fun i m σ' H' => ∃ γ' B' S' ρ', Rep K mg B' γ' S' ρ' σ' H' ∧ Ext B S ρ H B' S' ρ' H' ∧ (floop its tg fb m i γ' S').wp (Okf K mg g D) (Exw K mg g W), ⟨ds0.length + 1, γ, B, S, ρ, rep1, Ext.refl rep1.st, hk⟩, ?_⟩
  rintro i m σ' H' ⟨γ', B', S', ρ', rep2, e2, hw⟩
  cases m with
  | zero => exact hw.elim
  | succ n =>
  simp only [floop] at hw
  cases q1 : its S' with
  | none => simp only [q1] at hw; exact hw.elim
  | some ds =>
    simp only [q1] at hw
    have jj := jo B' S' ρ' H' i ds rep2.st (e2.stp rep1.st) q1
    have e12 := e1.trans e2 rep.st.len rep1.st.len
    cases q2 : ds[i]? with
    | none =>
      simp only [q2] at hw
      exact .inl ⟨jj.2 q2, hw σ' H' B' ρ' rep2 e12⟩
    | some d =>
      simp only [q2] at hw
      obtain ⟨go, yl⟩ := jj.1 d q2
      cases q3 : tg.fg (.im d) γ' with
      | none => simp only [q3] at hw; exact hw.elim
      | some γ1 =>
        simp only [q3] at hw
        refine .inr ⟨go, fun σ3 H3 => ∃ γ3 B3 S3 ρ3, Rep K mg B3 γ3 S3 ρ3 σ3 H3 ∧ Ext B S ρ H B3 S3 ρ3 H3 ∧ (floop its tg fb n (i + 1) γ3 S3).wp (Okf K mg g D) (Exw K mg g W), fun σ3 H3 h3 => ⟨n, Nat.lt_succ_self n, h3⟩, fun x H4 hy => ?_⟩
        obtain ⟨gr, rd⟩ := yl x H4 hy
        have ex := Ext.grow rep2.st gr
        have rep3 := rep2.step ex (rep2.st.grow gr)
        refine simG_tg tg B' γ' γ1 S' ρ' σ' H4 x (.im d) _ rep3 rd q3 fun σ5 rep4 => ?_
        refine hb γ1 σ5 _ ⟨B', S', ρ', H4⟩ rep4 (R.wp_mono (R.wp_bind hw) (fun fl S6 h6 => ?_) fun _ _ _ _ z => z.on rep.st.len rep4.st.len (e12.trans ex rep.st.len rep2.st.len))
        have e2x := e2.trans ex rep1.st.len rep2.st.len
        cases fl with
        | nx γ6 => exact fun σ6 H6 B6 ρ6 rep6 e6 => ⟨γ6, B6, S6, ρ6, rep6, e2x.trans e6 rep1.st.len rep4.st.len, h6⟩
        | ct γ6 => exact fun σ6 H6 B6 ρ6 rep6 e6 => ⟨γ6, B6, S6, ρ6, rep6, e2x.trans e6 rep1.st.len rep4.st.len, h6⟩
        | bk γ6 => exact fun σ6 H6 B6 ρ6 rep6 e6 => h6 σ6 H6 B6 ρ6 rep6 ((e12.trans ex rep.st.len rep2.st.len).trans e6 rep.st.len rep4.st.len)
        | rt x6 => exact fun v6 H6 B6 ρ6 rep6 e6 r6 => h6 v6 H6 B6 ρ6 rep6 ((e12.trans ex rep.st.len rep2.st.len).trans e6 rep.st.len rep4.st.len) r6
def fwhile (c : FT) (body : FS) : Nat → Gam → Sto → R Fl
  | 0, _, _ => .bad
  | n + 1, γ, S => (c γ S).bind fun b S1 => if b then (body γ S1).bind fun x S2 => match x with
      | .nx γ2 => fwhile c body n γ2 S2
      | .ct γ2 => fwhile c body n γ2 S2
      | .bk γ2 => .ok (.nx γ2) S2
      | .rt x => .ok (.rt x) S2
    else .ok (.nx γ) S1
theorem simS_while {n : Nat} {tc : TT} {tb : TS} {fc : FT} {fb : FS} (hc : SimT K mg W tc fc) (hb : SimS K mg W tb fb) : SimS K mg W (tWhile tc tb) (fwhile fc fb n) := by
  intro γ σ D g rep h
  refine ⟨fun m σ' H' => ∃ γ' B' S' ρ', Rep K mg B' γ' S' ρ' σ' H' ∧ Ext g.B g.S g.ρ g.H B' S' ρ' H' ∧ (fwhile fc fb m γ' S').wp (Okf K mg g D) (Exw K mg g W), ⟨n, γ, g.B, g.S, g.ρ, rep, Ext.refl rep.st, h⟩, ?_⟩
  rintro m σ' H' ⟨γ', B', S', ρ', rep2, e2, hw⟩
  cases m with
  | zero => exact hw.elim
  | succ n =>
  simp only [fwhile] at hw
  refine hc.goS (g := ⟨B', S', ρ', H'⟩) (g0 := g) rep2 (fun _ _ _ _ z => z.on rep.st.len rep2.st.len e2) hw fun b S3 H3 B3 ρ3 rep3 e3 hk => ?_
  have e23 : g.to B3 S3 ρ3 H3 := e2.trans e3 rep.st.len rep2.st.len
  cases b with
  | false => exact iteF (hk σ' H3 B3 ρ3 rep3 e23)
  | true =>
    refine iteT ⟨fun σ4 H4 => ∃ γ4 B4 S4 ρ4, Rep K mg B4 γ4 S4 ρ4 σ4 H4 ∧ Ext g.B g.S g.ρ g.H B4 S4 ρ4 H4 ∧ (fwhile fc fb n γ4 S4).wp (Okf K mg g D) (Exw K mg g W), fun σ4 H4 h4 => ⟨n, Nat.lt_succ_self n, h4⟩, ?_⟩
    refine hb γ' σ' _ ⟨B3, S3, ρ3, H3⟩ rep3 (R.wp_mono (R.wp_bind hk) (fun fl S6 h6 => ?_) fun _ _ _ _ z => z.on rep.st.len rep3.st.len e23)
    cases fl with
    | nx γ6 => exact fun σ6 H6 B6 ρ6 rep6 e6 => ⟨γ6, B6, S6, ρ6, rep6, e23.trans e6 rep.st.len rep3.st.len, h6⟩
    | ct γ6 => exact fun σ6 H6 B6 ρ6 rep6 e6 => ⟨γ6, B6, S6, ρ6, rep6, e23.trans e6 rep.st.len rep3.st.len, h6⟩
    | bk γ6 => exact fun σ6 H6 B6 ρ6 rep6 e6 => h6 σ6 H6 B6 ρ6 rep6 (e23.trans e6 rep.st.len rep3.st.len)
    | rt x6 => exact fun v6 H6 B6 ρ6 rep6 e6 r6 => h6 v6 H6 B6 ρ6 rep6 (e23.trans e6 rep.st.len rep3.st.len) r6
def D.items : D → Option (List D)
  | .lst ds => some ds
  | .tup ds => some ds
  | _ => none
/-- over a list or a tuple, as it stands at each turn -/
def fIter (f : F) : FI := fun γ S => (f γ S).bind fun x S1 => .ok (fun S => (x.view S).bind D.items) S1
def lstI (f : F) : FI := fun γ S => (f γ S).bind fun x S1 => match x.view S1 with
  | some (.lst _) => .ok (fun S => match x.view S with
    | some (.lst ds) => some ds
    | _ => none) S1
  | _ => .bad
def tupI (f : F) : FI := fun γ S => (f γ S).bind fun x S1 => match x with
  | .im (.tup ds) => .ok (fun _ => some ds) S1
  | _ => .bad
theorem simI_list {t : TE} {f : F} (h1 : Sim K mg W t f) : SimI K mg W (iList K t) (lstI f) := by
  intro γ σ Q g rep h
  refine h1.go (X := Exv K mg g σ W) rep (fun _ _ _ _ z => z) h fun x S v H B ρ rep1 e1 rv hk => ?_
  cases q : x.view S with
  | none => simp only [q] at hk; exact hk.elim
  | some d =>
    cases d <;> simp only [q] at hk <;> first | exact hk.elim | skip
    rename_i ds
    obtain ⟨a, vs, rfl, ha, r⟩ := (rv.rt rep1.st q).lst_inv
    refine ⟨a, rfl, ⟨vs, SqL.of ha⟩, hk (Itl K a) H B ρ rep1 e1 fun B' S' ρ' H' i ds' ok' e' hi => ?_⟩
    have rv' := e'.rv _ _ rv
    cases q2 : x.view S' with
    | none => simp [q2] at hi
    | some d' =>
      cases d' <;> simp only [q2, reduceCtorEq, Option.some.injEq] at hi
      subst hi
      obtain ⟨a', vs', ea, ha', r'⟩ := (rv'.rt ok' q2).lst_inv
      cases ea
      refine ⟨fun d' hd => ?_, fun hn => ⟨vs', SqL.of ha', ?_⟩⟩
      · obtain ⟨u, h1, h2⟩ := r'.get hd
        exact ⟨⟨vs', u, SqL.of ha', h1⟩, fun y H'' hy => by
          obtain ⟨rfl, hy⟩ := hy
          have := hy vs' (SqL.of ha')
          rw [h1] at this
          cases this
          exact ⟨Grow.refl _, h2⟩⟩
      · have := List.getElem?_eq_none_iff.mp hn
        rw [r'.length]; exact this
theorem simI_tup {t : TE} {f : F} (h1 : Sim K mg W t f) : SimI K mg W (iTup K t) (tupI f) := by
  intro γ σ Q g rep h
  refine h1.go (X := Exv K mg g σ W) rep (fun _ _ _ _ z => z) h fun x S v H B ρ rep1 e1 rv hk => ?_
  cases x with
  | cl i => exact hk.elim
  | im d =>
    cases d <;> simp only at hk <;> first | exact hk.elim | skip
    rename_i ds
    obtain ⟨a, vs, rfl, ha, r⟩ := RT.tup_inv (RD.rt rv)
    refine ⟨a, rfl, ⟨vs, ha⟩, hk (Itt K a) H B ρ rep1 e1 fun B' S' ρ' H' i ds' ok' e' hi => ?_⟩
    cases hi
    have rv' : RV K mg B' S' ρ' H' (.ref a) (.im (.tup ds)) := e'.rv _ _ rv
    obtain ⟨a', vs', ea, ha', r'⟩ := RT.tup_inv (RD.rt rv')
    cases ea
    refine ⟨fun d' hd => ?_, fun hn => ⟨vs', ha', ?_⟩⟩
    · obtain ⟨u, h1, h2⟩ := r'.get hd
      exact ⟨⟨vs', u, ha', h1⟩, fun y H'' hy => by
        obtain ⟨rfl, hy⟩ := hy
        have := hy vs' ha'
        rw [h1] at this
        cases this
        exact ⟨Grow.refl _, h2⟩⟩
    · have := List.getElem?_eq_none_iff.mp hn
      rw [r'.length]; exact this
/-- range(n) turns by value: lo, lo + 1, .. -/
def rangeD (lo : Int) (n : Nat) : List D := (List.range n).map fun (i : Nat) => D.int (lo + (i : Int))
theorem rangeD_get (lo : Int) (n i : Nat) : (rangeD lo n)[i]? = if i < n then some (.int (lo + i)) else none := by
  unfold rangeD
  rw [List.getElem?_map]
  by_cases h : i < n
  · rw [List.getElem?_range h, if_pos h]; rfl
  · rw [if_neg h, List.getElem?_eq_none (by simpa using Nat.le_of_not_lt h)]; rfl
theorem jok_range {g : At} {lo : Int} {n : Nat} : JOk K mg g (Itr lo n) (fun _ => some (rangeD lo n)) := by
  intro B S ρ H i ds ok e hi
  cases hi
  rw [rangeD_get]
  refine ⟨fun d hd => ?_, fun hn => ?_⟩
  · split at hd
    · cases hd
      exact ⟨by assumption, fun x H' hy => by obtain ⟨rfl, rfl⟩ := hy; exact ⟨Grow.refl _, .int _⟩⟩
    · cases hd
  · split at hn
    · cases hn
    · rename_i h; exact Nat.le_of_not_lt h
theorem write_cell {B : Addr → Prop} {S : Sto} {ρ : List (List Addr)} {H : Hp} {i : Nat} {a : Addr} {o : HO} {c c' : Cell} (ok : StOk K mg B S ρ H) (hr : ρ[i]? = some [a]) (hs : S[i]? = some (some c)) (hc : CellR K mg B (upd H a o) [a] c') :
    StOk K mg B (S.set i (some c')) ρ (upd H a o) ∧ Ext B S ρ H B (S.set i (some c')) ρ (upd H a o) := by
  have foota : Foot S ρ a := .inl ⟨i, [a], c, hr, hs, by simp⟩
  have ba : B a := ok.ban a foota
  have gr : Gr B H B (upd H a o) := fun b x h nb => ⟨by rw [upd_ne (b := b) (a := a) (fun e => nb (by rw [e]; exact ba))]; exact h, nb⟩
  have hi : i < S.length := (List.getElem?_eq_some_iff.mp hs).1
  have live : ∀ {j : Nat} {d : Cell}, (S.set i (some c'))[j]? = some (some d) → (j = i ∧ d = c') ∨ (j ≠ i ∧ S[j]? = some (some d)) := fun {j d} h => by
    by_cases hj : j = i
    · subst hj
      rw [List.getElem?_set_self hi] at h
      cases h; exact .inl ⟨rfl, rfl⟩
    · rw [List.getElem?_set_ne (Ne.symm hj)] at h
      exact .inr ⟨hj, h⟩
  have foot : ∀ {b : Addr}, Foot (S.set i (some c')) ρ b → Foot S ρ b := fun {b} hz => by
    rcases hz with ⟨j, fp, d, h1, h2, h3⟩ | hz
    case inr => exact .inr hz
    rcases live h2 with ⟨rfl, _⟩ | ⟨_, h⟩
    · rw [hr] at h1; cases h1; exact .inl ⟨j, [a], c, hr, hs, h3⟩
    · exact .inl ⟨j, fp, d, h1, h, h3⟩
  have dom : ∀ b, H b ≠ none → upd H a o b ≠ none := fun b h => by
    by_cases e : b = a
    · rw [e, upd_same]; simp
    · rw [upd_ne e]; exact h
  refine ⟨⟨by simp [ok.len], fun j fp d h1 h2 => ?_, fun b h => ok.ban b (foot h), fun j k fp fp' d d' h1 h2 h3 h4 b hb hb' => ?_, fun b h => dom b (ok.dom b h), tabs_upd ok.tabs ((ok.cell i _ c hr hs).noT (by simp))⟩, ⟨by simp, fun _ _ h => h, fun j h => ?_, fun b x h nf => ?_, fun _ _ _ h => h, fun j fp d hj h1 h2 => ?_, dom, ok.dom, fun _ h _ => h⟩⟩
  · rcases live h2 with ⟨rfl, rfl⟩ | ⟨hj, h⟩
    · rw [hr] at h1; cases h1; exact hc
    · refine (ok.cell j fp d h1 h).mono gr fun b hb x hx => ?_
      rw [upd_ne ?_]
      · exact hx
      · intro e
        rw [e] at hb
        exact hj (ok.disj j i fp [a] d c h1 hr h hs a hb (by simp))
  · rcases live h3 with ⟨e3, _⟩ | ⟨_, k3⟩ <;> rcases live h4 with ⟨e4, _⟩ | ⟨_, k4⟩
    · exact e3.trans e4.symm
    · exact ok.disj _ _ fp fp' c d' h1 h2 (by rw [e3]; exact hs) k4 b hb hb'
    · exact ok.disj _ _ fp fp' d c h1 h2 k3 (by rw [e4]; exact hs) b hb hb'
    · exact ok.disj j k fp fp' d d' h1 h2 k3 k4 b hb hb'
  · by_cases hj : j = i
    · rw [hj] at h
      rw [hs] at h
      cases h
    · rw [List.getElem?_set_ne (Ne.symm hj)]; exact h
  · rw [upd_ne ?_]
    · exact h
    · intro e; exact nf (e ▸ foota)
  · have := (List.getElem?_eq_some_iff.mp h2).1
    simp at this
    omega
theorem cell_lst {B : Addr → Prop} {S : Sto} {ρ : List (List Addr)} {H : Hp} {i : Nat} {v : V} {ds : List D} (ok : StOk K mg B S ρ H) (r : RV K mg B S ρ H v (.cl i)) (hs : S[i]? = some (some (.lst ds))) :
    ∃ a vs, v = .ref a ∧ ρ[i]? = some [a] ∧ H a = some (.lst vs) ∧ RDs K mg B H vs ds := by
  obtain ⟨_, h⟩ := r
  obtain ⟨a, t, h1, rfl⟩ := h _ hs
  have c := ok.cell i _ _ h1 hs
  cases t with
  | nil => obtain ⟨vs, h2, h3⟩ := c; exact ⟨a, vs, rfl, h1, h2, h3⟩
  | cons b t => exact c.elim
theorem rds_upd {B : Addr → Prop} {H : Hp} {a : Addr} {o : HO} (ba : B a) : Gr B H B (upd H a o) := fun b x h nb => ⟨by rw [upd_ne (b := b) (a := a) (fun e => nb (by rw [e]; exact ba))]; exact h, nb⟩
theorem write_lst {B : Addr → Prop} {S : Sto} {ρ : List (List Addr)} {H : Hp} {i : Nat} {a : Addr} {vs : List V} {ds es : List D} (ok : StOk K mg B S ρ H) (hr : ρ[i]? = some [a]) (hs : S[i]? = some (some (.lst ds))) (r : RDs K mg B H vs es) :
    StOk K mg B (S.set i (some (.lst es))) ρ (upd H a (.lst vs)) ∧ Ext B S ρ H B (S.set i (some (.lst es))) ρ (upd H a (.lst vs)) :=
  write_cell ok hr hs ⟨vs, upd_same, r.mono (rds_upd (ok.ban a (.inl ⟨i, [a], _, hr, hs, by simp⟩)))⟩
/-- the arguments: data that is kept (b), or only read -/
def argD (b : Bool) (S : Sto) (xs : List Vl) : Option (List D) := if b then ims xs else views S xs
def ArgR (K : PySem.W.Frag) (mg : Str → Option Value) (b : Bool) (B : Addr → Prop) (H : Hp) (us : List V) (as : List D) : Prop := if b then RDs K mg B H us as else RTs K mg B H us as
theorem argD_rt {b : Bool} {B : Addr → Prop} {S : Sto} {ρ : List (List Addr)} {H : Hp} {us : List V} {xs : List Vl} {as : List D} (ok : StOk K mg B S ρ H) (r : Paired (fun v x => RV K mg B S ρ H v x) us xs) (h : argD b S xs = some as) : ArgR K mg b B H us as := by
  cases b with
  | true => exact ims_rd r h
  | false => exact views_rt ok r h
/-- a method that changes a list of one's own: xs.m(args) -/
def mutAt (b : Bool) (g : List D → List D → Option (D × List D)) (i : Nat) (xs : List Vl) (S2 : Sto) : R Vl := match S2[i]?, argD b S2 xs with
  | some (some (.lst ds)), some as => (match g ds as with
    | some (d, es) => .ok (.im d) (S2.set i (some (.lst es)))
    | none => .bad)
  | _, _ => .bad
def fMut (b : Bool) (g : List D → List D → Option (D × List D)) (fo : F) (fa : FA) : F := fun γ S => (fo γ S).bind fun x S1 => match x with
  | .cl i => (match S1[i]? with
    | some (some (.lst _)) => (fa γ S1).bind fun xs S2 => mutAt b g i xs S2
    | _ => .bad)
  | _ => .bad
/-- what a changing method's reading must do -/
def PMut (K : PySem.W.Frag) (mg : Str → Option Value) (b : Bool) (r : V → List V → Hp → VK → Prop) (g : List D → List D → Option (D × List D)) : Prop := ∀ (B : Addr → Prop) (H : Hp) (a : Addr) (vs : List V) (ds : List D) (us : List V) (as : List D) (d : D) (es : List D) (Q : VK), H a = some (.lst vs) → RDs K mg B H vs ds → ArgR K mg b B H us as → g ds as = some (d, es) →
  (∀ v ws, RD K mg B H v d → RDs K mg B H ws es → Q v (upd H a (.lst ws))) → r (.ref a) us H Q
theorem mut_core {b : Bool} {g0 : At} {γ : Gam} {σ : St} {Q : VK} {r : V → List V → Hp → VK → Prop} {g : List D → List D → Option (D × List D)} (hr : PMut K mg b r g) {B : Addr → Prop} {S : Sto} {ρ : List (List Addr)} {H : Hp} {v : V} {i : Nat} {us : List V} {xs : List Vl} {X : PX} (rep : Rep K mg B γ S ρ σ H) (hl : g0.ρ.length = g0.S.length) (e : g0.to B S ρ H)
    (rv : RV K mg B S ρ H v (.cl i)) (ru : Paired (fun v x => RV K mg B S ρ H v x) us xs)
    (h : (mutAt b g i xs S).wp (Okv K mg g0 γ σ Q) X) : r v us H Q := by
  unfold mutAt at h
  cases q1 : S[i]? with
  | none => simp only [q1] at h; exact h.elim
  | some o =>
    cases o with
    | none => simp only [q1] at h; exact h.elim
    | some c =>
      cases c with
      | lst ds =>
        cases q2 : argD b S xs with
        | none => simp only [q1, q2] at h; exact h.elim
        | some as =>
          cases q3 : g ds as with
          | none => simp only [q1, q2, q3] at h; exact h.elim
          | some p =>
            obtain ⟨d, es⟩ := p
            simp only [q1, q2, q3] at h
            obtain ⟨a, vs, rfl, h1, h2, h3⟩ := cell_lst rep.st rv q1
            refine hr B H a vs ds us as d es Q h2 h3 (argD_rt rep.st ru q2) q3 fun v ws rd rs => ?_
            obtain ⟨ok', e'⟩ := write_lst (vs := ws) rep.st h1 q1 rs
            exact h v _ B ρ (rep.step e' ok') (e.trans e' hl rep.st.len) (rd.mono (rds_upd (rep.st.ban a (.inl ⟨i, [a], _, h1, q1, by simp⟩))))
      | dct t kvs => simp only [q1] at h; exact h.elim
      | ins c fs => simp only [q1] at h; exact h.elim
theorem sim_mut {b : Bool} {r : V → List V → Hp → VK → Prop} {g : List D → List D → Option (D × List D)} {to : TE} {ta : TA} {fo : F} {fa : FA} (hr : PMut K mg b r g) (ho : Sim K mg W to fo) (ha : SimA K mg W ta fa) : Sim K mg W (tBM K "list" r to ta) (fMut b g fo fa) := by
  intro γ σ Q g0 rep h
  refine ho.go (X := Exv K mg g0 σ W) rep (fun _ _ _ _ z => z) h fun x S v H B ρ rep1 e1 rv hk => ?_
  cases x with
  | im d => exact hk.elim
  | cl i =>
    cases q : S[i]? with
    | none => simp only [q] at hk; exact hk.elim
    | some o =>
      cases o with
      | none => simp only [q] at hk; exact hk.elim
      | some c =>
        cases c with
        | lst ds =>
          simp only [q] at hk
          obtain ⟨a, vs, rfl, h1, h2, h3⟩ := cell_lst rep1.st rv q
          refine ⟨.inl ⟨rfl, _, SqL.of h2⟩, ?_⟩
          refine ha.go (g := ⟨B, S, ρ, H⟩) (X := Exv K mg g0 σ W) rep1 (fun _ _ _ _ z => z.on rep.st.len rep1.st.len e1) hk fun xs S2 us H2 B2 ρ2 rep2 e2 ru hk2 => ?_
          exact mut_core hr rep2 rep.st.len (e1.trans e2 rep.st.len rep1.st.len) (rv.mono e2 rep1.st) ru hk2
        | dct t kvs => simp only [q] at hk; exact hk.elim
        | ins c fs => simp only [q] at hk; exact hk.elim
theorem sim_mut0 {b : Bool} {r : V → List V → Hp → VK → Prop} {g : List D → List D → Option (D × List D)} {to : TE} {fo : F} (hr : PMut K mg b r g) (ho : Sim K mg W to fo) : Sim K mg W (tBM0 K "list" r to) (fMut b g fo fNil) := by
  intro γ σ Q g0 rep h
  refine ho.go (X := Exv K mg g0 σ W) rep (fun _ _ _ _ z => z) h fun x S v H B ρ rep1 e1 rv hk => ?_
  cases x with
  | im d => exact hk.elim
  | cl i =>
    cases q : S[i]? with
    | none => simp only [q] at hk; exact hk.elim
    | some o =>
      cases o with
      | none => simp only [q] at hk; exact hk.elim
      | some c =>
        cases c with
        | lst ds =>
          simp only [q] at hk
          obtain ⟨a, vs, rfl, h1, h2, h3⟩ := cell_lst rep1.st rv q
          exact ⟨.inl ⟨rfl, _, SqL.of h2⟩, mut_core hr rep1 rep.st.len e1 rv .nil hk⟩
        | dct t kvs => simp only [q] at hk; exact hk.elim
        | ins c fs => simp only [q] at hk; exact hk.elim
def appD (ds as : List D) : Option (D × List D) := match as with
  | [d] => if ds.length < sizeLine then some (.non, ds ++ [d]) else none
  | _ => none
theorem appD_inv {ds as : List D} {d : D} {es : List D} (h : appD ds as = some (d, es)) : ∃ e, as = [e] ∧ ds.length < sizeLine ∧ d = .non ∧ es = ds ++ [e] := by
  cases as with
  | nil => simp [appD] at h
  | cons e t =>
    cases t with
    | cons _ _ => simp [appD] at h
    | nil =>
      simp only [appD] at h
      split at h
      · rename_i hl
        simp only [Option.some.injEq, Prod.mk.injEq] at h
        exact ⟨e, rfl, hl, h.1.symm, h.2.symm⟩
      · cases h
theorem rds_one {B : Addr → Prop} {H : Hp} {us : List V} {e : D} (r : RDs K mg B H us [e]) : ∃ u, us = [u] ∧ RD K mg B H u e := by
  cases r with
  | cons r t => cases t; exact ⟨_, rfl, r⟩
theorem rts_one {B : Addr → Prop} {H : Hp} {us : List V} {e : D} (r : RTs K mg B H us [e]) : ∃ u, us = [u] ∧ RT K mg B H u e := by
  cases r with
  | cons r t => cases t; exact ⟨_, rfl, r⟩
theorem pmut_append : PMut K mg true rAppend appD := by
  intro B H a vs ds us as d es Q h r ra hg hQ
  obtain ⟨e, rfl, hl, rfl, rfl⟩ := appD_inv hg
  have ra' : RDs K mg B H us [e] := ra
  obtain ⟨u, rfl, re⟩ := rds_one ra'
  exact ⟨a, vs, u, rfl, rfl, h, by rw [r.length]; exact hl, hQ _ _ .non (r.append (.cons re .nil))⟩
def extD (ds as : List D) : Option (D × List D) := match as with
  | [.lst es] => if ds.length + es.length ≤ sizeLine then some (.non, ds ++ es) else none
  | _ => none
theorem extD_inv {ds as : List D} {d : D} {es : List D} (h : extD ds as = some (d, es)) : ∃ e, as = [.lst e] ∧ ds.length + e.length ≤ sizeLine ∧ d = .non ∧ es = ds ++ e := by
  cases as with
  | nil => simp [extD] at h
  | cons e t =>
    cases t with
    | cons _ _ => simp [extD] at h
    | nil =>
      cases e <;> simp only [extD, reduceCtorEq] at h
      split at h
      · rename_i hl
        simp only [Option.some.injEq, Prod.mk.injEq] at h
        exact ⟨_, rfl, hl, h.1.symm, h.2.symm⟩
      · cases h
theorem pmut_extend : PMut K mg false rExtend extD := by
  intro B H a vs ds us as d es Q h r ra hg hQ
  obtain ⟨e, rfl, hl, rfl, rfl⟩ := extD_inv hg
  have ra' : RTs K mg B H us [.lst e] := ra
  obtain ⟨u, rfl, re⟩ := rts_one ra'
  obtain ⟨b, ws, rfl, h2, r2⟩ := RT.lst_inv re
  exact ⟨a, b, vs, ws, rfl, rfl, h, h2, by rw [r.length, r2.length]; exact hl, hQ _ _ .non (r.append r2)⟩
def popD (ds as : List D) : Option (D × List D) := match as with
  | [] => ds.getLast?.map fun d => (d, ds.dropLast)
  | _ => none
theorem pmut_pop : PMut K mg true rPop popD := by
  intro B H a vs ds us as d es Q h r ra hg hQ
  have ra' : RDs K mg B H us as := ra
  cases as with
  | cons _ _ => simp [popD] at hg
  | nil =>
    cases ra'
    simp only [popD] at hg
    cases q : ds.getLast? with
    | none => simp [q] at hg
    | some e =>
      simp only [q, Option.map_some, Option.some.injEq, Prod.mk.injEq] at hg
      obtain ⟨rfl, rfl⟩ := hg
      rw [List.getLast?_eq_getElem?] at q
      obtain ⟨v, h1, h2⟩ := r.get q
      exact ⟨a, vs, v, rfl, rfl, h, by rw [r.length]; exact h1, hQ _ _ h2 r.dropLast⟩
/-- the list of one's own becomes data: nobody changes it any more -/
def fFreeze (f : F) : F := fun γ S => (f γ S).bind fun x S1 => match x with
  | .cl i => (match S1[i]? with
    | some (some c) => .ok (.im c.view) (S1.set i none)
    | _ => .bad)
  | x => .ok x S1
end
end DL
namespace DL
open PySem PySem.Spec L2
open PyProof.Rows hiding St
variable [Tbl]
def R.nox {α : Type} : R α → R α
  | .exc _ _ _ _ => .bad
  | r => r
theorem R.nox_wp {α : Type} {r : R α} {P : α → Sto → Prop} {X X' : PX} (h : r.nox.wp P X) : r.wp P X' := by
  cases r with
  | ok a S => exact h
  | exc c fs γ S => exact h.elim
  | bad => exact h
theorem R.noxb {α β : Type} {r : R α} {k : α → Sto → R β} {P : β → Sto → Prop} {X X' : PX} (h : (r.nox.bind k).wp P X) : r.wp (fun a S => (k a S).wp P X) X' := R.nox_wp (R.wp_bind h)
@[simp] theorem R.nox_ok {α : Type} (a : α) (S : Sto) : (R.ok a S).nox = .ok a S := rfl
@[simp] theorem R.nox_bad {α : Type} : (R.bad : R α).nox = .bad := rfl
def wipeG (γ : Gam) : List Nat → Gam
  | [] => γ
  | v :: vs => (wipeG γ vs).set v none
abbrev W0 : WX := fun _ _ _ _ => False
abbrev FB := Gam → List D → Sto → R (List D)
def cloop (its : Sto → Option (List D)) (tg : Tg) (body : FB) : Nat → Nat → Gam → List D → Sto → R (List D)
  | 0, _, _, _, _ => .bad
  | n + 1, i, γ, acc, S => match its S with
    | none => .bad
    | some ds => match ds[i]? with
      | none => .ok acc S
      | some d => match tg.fg (.im d) γ with
        | none => .bad
        | some γ1 => (body γ1 acc S).bind fun acc1 S1 => cloop its tg body n (i + 1) γ acc1 S1
def bElt (fe : F) : FB := fun γ acc S => (fe γ S).nox.bind fun x S1 => match x with
  | .im e => if acc.length < sizeLine then .ok (acc ++ [e]) S1 else .bad
  | _ => .bad
def bIf (ft : FT) (k : FB) : FB := fun γ acc S => (ft γ S).nox.bind fun b S1 => if b then k γ acc S1 else .ok acc S1
def bFor (fi : FI) (tg : Tg) (vs : List Nat) (k : FB) : FB := fun γ acc S => (fi γ S).nox.bind fun its S1 => match its S1 with
  | none => .bad
  | some ds => cloop its tg k (ds.length + 1) 0 (wipeG γ vs) acc S1
def fLc (fi : FI) (tg : Tg) (vs : List Nat) (k : FB) : F := fun γ S => (fi γ S).bind fun its S1 => match its S1 with
  | none => .bad
  | some ds => (cloop its tg k (ds.length + 1) 0 (wipeG γ vs) [] S1).bind fun acc S2 => .ok (.im (.lst acc)) S2
section
variable {K : PySem.W.Frag} {mg : Str → Option Value} {W : WX}
theorem rep_wipe {B : Addr → Prop} {γ : Gam} {S : Sto} {ρ : List (List Addr)} {σ : St} {H : Hp} (rep : Rep K mg B γ S ρ σ H) : ∀ vs : List Nat, Rep K mg B (wipeG γ vs) S ρ (wipe σ vs) H
  | [] => rep
  | v :: vs => by
    have r := rep_wipe rep vs
    refine ⟨r.st, fun i x h => ?_, by unfold wipeG wipe; rw [List.length_set, List.length_set]; exact r.len⟩
    unfold wipeG at h
    unfold wipe
    by_cases hi : i = v
    · subst hi
      by_cases hv : i < (wipeG γ vs).length
      · rw [List.getElem?_set_self hv] at h; cases h
      · rw [List.getElem?_eq_none (by simpa using hv)] at h; cases h
    · rw [List.getElem?_set_ne (Ne.symm hi)] at h
      obtain ⟨u, h1, h2⟩ := r.slot i x h
      exact ⟨u, by rw [List.getElem?_set_ne (Ne.symm hi)]; exact h1, h2⟩
theorem wipe_set {σ : St} {i : Nat} {x : Option V} : ∀ {vs : List Nat}, i ∈ vs → wipe (σ.set i x) vs = wipe σ vs
  | v :: vs, h => by
    unfold wipe
    by_cases hv : i ∈ vs
    · rw [wipe_set hv]
    · have e : i = v := by
        rcases List.mem_cons.mp h with e | e
        · exact e
        · exact absurd e hv
      subst e
      have : ∀ (τ : St) (ws : List Nat), i ∉ ws → wipe (τ.set i x) ws = (wipe τ ws).set i x := fun τ ws => by
        induction ws with
        | nil => intro _; rfl
        | cons u us ih =>
          intro hn
          simp only [List.mem_cons, not_or] at hn
          show (wipe (τ.set i x) us).set u none = ((wipe τ us).set u none).set i x
          rw [ih hn.2, List.set_comm _ _ hn.1]
      rw [this σ vs hv, List.set_set]
mutual
theorem Tg.sim2 {vs : List Nat} : ∀ (t : Tg) (B : Addr → Prop) (γ γ' : Gam) (S : Sto) (ρ : List (List Addr)) (σ : St) (H : Hp) (v : V) (d : D) (Q : St → Hp → Prop), (∀ i ∈ t.slots, i ∈ vs) → Rep K mg B γ S ρ σ H → RD K mg B H v d → t.set d γ = some γ' → (∀ σ', Rep K mg B γ' S ρ σ' H → wipe σ' vs = wipe σ vs → Q σ' H) → t.tg K v σ H Q
  | .name i, B, γ, γ', S, ρ, σ, H, v, d, Q, hv, rep, r, h, hQ => by
    rw [Tg.tg]
    rw [Tg.set] at h
    split at h
    · cases h
      exact hQ _ (rep_set (x := .im d) rep r) (wipe_set (hv i (by simp [Tg.slots])))
    · cases h
  | .tup n ts, B, γ, γ', S, ρ, σ, H, v, d, Q, hv, rep, r, h, hQ => by
    rw [Tg.tg]
    cases d <;> simp only [Tg.set, reduceCtorEq] at h
    split at h
    · rename_i ds hn
      obtain ⟨a, vs, rfl, hs, rs⟩ := RT.tup_inv r.rt
      exact ⟨a, vs, rfl, hs, by rw [rs.length]; exact hn, Tg.sims2 ts B γ γ' S ρ σ H vs ds Q (fun i hi => hv i (by simpa [Tg.slots] using hi)) rep rs h hQ⟩
    · cases h
  | .nil, _, _, _, _, _, _, _, _, d, _, _, _, _, h, _ => by simp [Tg.set] at h
  | .cons _ _, _, _, _, _, _, _, _, _, d, _, _, _, _, h, _ => by simp [Tg.set] at h
theorem Tg.sims2 {ws : List Nat} : ∀ (t : Tg) (B : Addr → Prop) (γ γ' : Gam) (S : Sto) (ρ : List (List Addr)) (σ : St) (H : Hp) (vs : List V) (ds : List D) (Q : St → Hp → Prop), (∀ i ∈ t.slots, i ∈ ws) → Rep K mg B γ S ρ σ H → RDs K mg B H vs ds → t.sets ds γ = some γ' → (∀ σ', Rep K mg B γ' S ρ σ' H → wipe σ' ws = wipe σ ws → Q σ' H) → t.tgs K vs σ H Q
  | .nil, B, γ, γ', S, ρ, σ, H, vs, ds, Q, hv, rep, r, h, hQ => by
    rw [Tg.tgs]
    cases r with
    | nil => simp only [Tg.sets, Option.some.injEq] at h; subst h; exact ⟨rfl, hQ σ rep rfl⟩
    | cons _ _ => simp [Tg.sets] at h
  | .cons t u, B, γ, γ', S, ρ, σ, H, vs, ds, Q, hv, rep, r, h, hQ => by
    rw [Tg.tgs]
    cases r with
    | nil => simp [Tg.sets] at h
    | @cons v d vs ds r rs =>
      simp only [Tg.sets] at h
      cases q : t.set d γ with
      | none => simp [q] at h
      | some γ1 =>
        simp only [q, Option.bind_some] at h
        exact ⟨v, vs, rfl, Tg.sim2 t B γ γ1 S ρ σ H v d _ (fun i hi => hv i (by simp [Tg.slots, hi])) rep r q fun σ' rep' e' => Tg.sims2 u B γ1 γ' S ρ σ' H vs ds Q (fun i hi => hv i (by simp [Tg.slots, hi])) rep' rs h fun σ'' rep'' e'' => hQ σ'' rep'' (e''.trans e')⟩
  | .name _, _, _, _, _, _, _, _, _, ds, _, _, _, _, h, _ => by simp [Tg.sets] at h
  | .tup _ _, _, _, _, _, _, _, _, _, ds, _, _, _, _, h, _ => by simp [Tg.sets] at h
end
theorem Tg.fg_im {t : Tg} {d : D} {γ γ' : Gam} (h : t.fg (.im d) γ = some γ') : t.set d γ = some γ' := by
  cases t with
  | name i => rw [Tg.set]; exact h
  | _ => exact h
structure CInv (K : PySem.W.Frag) (mg : Str → Option Value) (Da : Addr) (B : Addr → Prop) (S : Sto) (ρ : List (List Addr)) (H : Hp) (acc : List D) : Prop where
  ban : B Da
  nf : ¬ Foot S ρ Da
  at_ : ∃ vs, H Da = some (.lst vs) ∧ RDs K mg B H vs acc
theorem CInv.step {Da : Addr} {B B1 : Addr → Prop} {S S1 : Sto} {ρ ρ1 : List (List Addr)} {H H1 : Hp} {acc : List D} (c : CInv K mg Da B S ρ H acc) (ok : StOk K mg B S ρ H) (e : Ext B S ρ H B1 S1 ρ1 H1) : CInv K mg Da B1 S1 ρ1 H1 acc := by
  obtain ⟨vs, h, r⟩ := c.at_
  refine ⟨e.held Da c.ban c.nf, fun z => ?_, vs, e.keep Da _ h c.nf, r.mono (e.gr ok)⟩
  rcases e.foot ok.len z with z | z
  · exact c.nf z
  · rw [h] at z; cases z
theorem CInv.noT {Da : Addr} {B : Addr → Prop} {S : Sto} {ρ : List (List Addr)} {H : Hp} {acc : List D} (c : CInv K mg Da B S ρ H acc) : ∀ u, H Da = some u → NoT u := fun u hu => by
  obtain ⟨vs, h, _⟩ := c.at_
  rw [h] at hu; cases hu; exact noT_lst
theorem StOk.updD {Da : Addr} {B : Addr → Prop} {S : Sto} {ρ : List (List Addr)} {H : Hp} {o : HO} (ok : StOk K mg B S ρ H) (hb : B Da) (nf : ¬ Foot S ρ Da) (hq : ∀ u, H Da = some u → NoT u) : StOk K mg B S ρ (upd H Da o) where
  len := ok.len
  cell := fun i fp c h1 h2 => (ok.cell i fp c h1 h2).mono (rds_upd hb) fun a ha x hx => by
    rw [upd_ne ?_]
    · exact hx
    · intro e; exact nf (.inl ⟨i, fp, c, h1, h2, by rw [← e]; exact ha⟩)
  ban := ok.ban
  disj := ok.disj
  dom := fun a h => by
    by_cases e : a = Da
    · rw [e, upd_same]; simp
    · rw [upd_ne e]; exact ok.dom a h
  tabs := tabs_upd ok.tabs hq
theorem RV.updD {Da : Addr} {B : Addr → Prop} {S : Sto} {ρ : List (List Addr)} {H : Hp} {o : HO} {v : V} {x : Vl} (hb : B Da) (r : RV K mg B S ρ H v x) : RV K mg B S ρ (upd H Da o) v x := by
  cases x with
  | im d => exact RD.mono (rds_upd hb) r
  | cl i => exact r
theorem Rep.updD {Da : Addr} {B : Addr → Prop} {γ : Gam} {S : Sto} {ρ : List (List Addr)} {σ : St} {H : Hp} {o : HO} (rep : Rep K mg B γ S ρ σ H) (hb : B Da) (nf : ¬ Foot S ρ Da) (hq : ∀ u, H Da = some u → NoT u) : Rep K mg B γ S ρ σ (upd H Da o) :=
  ⟨rep.st.updD hb nf hq, fun i x h => let ⟨v, h1, h2⟩ := rep.slot i x h; ⟨v, h1, h2.updD hb⟩, rep.len⟩
theorem Ext.updD {Da : Addr} {B B1 : Addr → Prop} {S S1 : Sto} {ρ ρ1 : List (List Addr)} {H H1 : Hp} {o : HO} (e : Ext B S ρ H B1 S1 ρ1 H1) (hn : H Da = none) : Ext B S ρ H B1 S1 ρ1 (upd H1 Da o) where
  len := e.len
  pre := e.pre
  dead := e.dead
  keep := fun a x h n => by
    rw [upd_ne (ne_of_none h hn)]; exact e.keep a x h n
  ban := e.ban
  new := e.new
  dom := fun a h => by
    by_cases q : a = Da
    · rw [q, upd_same]; simp
    · rw [upd_ne q]; exact e.dom a h
  bdom := e.bdom
  held := e.held
theorem CInv.app {Da : Addr} {B : Addr → Prop} {S : Sto} {ρ : List (List Addr)} {H : Hp} {acc : List D} {y : V} {e : D} (c : CInv K mg Da B S ρ H acc) (r : RD K mg B H y e) : ∃ vs, H Da = some (.lst vs) ∧ vs.length = acc.length ∧ CInv K mg Da B S ρ (upd H Da (.lst (vs ++ [y]))) (acc ++ [e]) := by
  obtain ⟨vs, h, rs⟩ := c.at_
  exact ⟨vs, h, rs.length, c.ban, c.nf, _, upd_same, (rs.append (.cons r .nil)).mono (rds_upd c.ban)⟩
/-- at the start -/
theorem cinv_start {Da : Addr} {B : Addr → Prop} {S : Sto} {ρ : List (List Addr)} {H : Hp} (ok : StOk K mg B S ρ H) (hn : H Da = none) :
    CInv K mg Da (fun a => B a ∨ a = Da) S ρ (upd H Da (.lst [])) [] ∧ StOk K mg (fun a => B a ∨ a = Da) S ρ (upd H Da (.lst [])) ∧ Ext B S ρ H (fun a => B a ∨ a = Da) S ρ (upd H Da (.lst [])) := by
  have nf : ¬ Foot S ρ Da := fun z => ok.dom Da (ok.ban Da z) hn
  refine ⟨⟨.inr rfl, nf, [], upd_same, .nil⟩, ⟨ok.len, fun i fp c h1 h2 => ?_, fun a h => .inl (ok.ban a h), ok.disj, fun a h => ?_, tabs_upd ok.tabs fun u hu => by rw [hn] at hu; cases hu⟩, ⟨Nat.le_refl _, fun _ _ h => h, fun _ h => h, fun a x h _ => Grow.upd hn a x h, fun a x h b => (rds_ban (o := HO.lst []) hn a x h b).2, fun i fp c h1 h2 _ => ?_, fun a h => ?_, ok.dom, fun a h _ => .inl h⟩⟩
  · exact (ok.cell i fp c h1 h2).mono (rds_ban hn) fun a ha x hx => Grow.upd hn a x hx
  · rcases h with h | h
    · intro z
      cases q : H a with
      | none => exact ok.dom a h q
      | some x => rw [Grow.upd hn a x q] at z; cases z
    · subst h; rw [upd_same]; simp
  · have := (List.getElem?_eq_some_iff.mp h2).1
    have := ok.len
    omega
  · intro z
    cases q : H a with
    | none => exact h q
    | some x => rw [Grow.upd hn a x q] at z; cases z
/-- at the end: the list is let go as data -/
theorem cinv_end {Da : Addr} {B0 B : Addr → Prop} {S0 S : Sto} {ρ0 ρ : List (List Addr)} {H0 H : Hp} {acc : List D} (c : CInv K mg Da B S ρ H acc) (ok : StOk K mg B S ρ H) (e : Ext B0 S0 ρ0 H0 B S ρ H) (hn : H0 Da = none) :
    StOk K mg (fun a => B a ∧ a ≠ Da) S ρ H ∧ Ext B0 S0 ρ0 H0 (fun a => B a ∧ a ≠ Da) S ρ H ∧ RD K mg (fun a => B a ∧ a ≠ Da) H (.ref Da) (.lst acc) := by
  have gr : Gr B H (fun a => B a ∧ a ≠ Da) H := fun a o h b => ⟨h, fun z => b z.1⟩
  obtain ⟨vs, h, r⟩ := c.at_
  refine ⟨⟨ok.len, fun i fp d h1 h2 => (ok.cell i fp d h1 h2).mono gr fun _ _ _ hx => hx, fun a f => ⟨ok.ban a f, fun z => c.nf (z ▸ f)⟩, ok.disj, fun a z => ok.dom a z.1, ok.tabs⟩, ⟨e.len, e.pre, e.dead, e.keep, fun a o q b z => e.ban a o q b z.1, e.new, e.dom, e.bdom, fun a b f => ⟨e.held a b f, fun z => e.bdom a b (by rw [z]; exact hn)⟩⟩, .lst h (fun z => z.2 rfl) (r.mono gr)⟩
theorem Rep.stp {B B1 : Addr → Prop} {γ : Gam} {S S1 : Sto} {ρ ρ1 : List (List Addr)} {σ : St} {H H1 : Hp} (rep : Rep K mg B γ S ρ σ H) (s : Stp K mg B S ρ H B1 S1 ρ1 H1) (ok : StOk K mg B1 S1 ρ1 H1) : Rep K mg B1 γ S1 ρ1 σ H1 :=
  ⟨ok, fun i x h => let ⟨v, h1, h2⟩ := rep.slot i x h; ⟨v, h1, s.rv v x h2⟩, rep.len⟩
abbrev TB := St → Hp → (Hp → Prop) → Prop
/-- a part of the body, whose end reaches Nx -/
def SimB (K : PySem.W.Frag) (mg : Str → Option Value) (Da : Addr) (bt : TB) (k : FB) : Prop := ∀ (b : At), b.H Da = none → b.ρ.length = b.S.length → ∀ (γ : Gam) (σ : St) (B : Addr → Prop) (S : Sto) (ρ : List (List Addr)) (H : Hp) (acc : List D) (Nx : Hp → Prop) (P : List D → Sto → Prop) (X : PX),
  Rep K mg B γ S ρ σ H → CInv K mg Da B S ρ H acc → b.to B S ρ H → (k γ acc S).wp P X →
  (∀ acc' S' H' B' ρ', P acc' S' → StOk K mg B' S' ρ' H' → CInv K mg Da B' S' ρ' H' acc' → b.to B' S' ρ' H' → Stp K mg B S ρ H B' S' ρ' H' → Nx H') → bt σ H Nx
theorem simB_elt {Da : Addr} {te : TE} {fe : F} (he : Sim K mg W0 te fe) : SimB K mg Da (fun σ H Nx => te σ H fun y H4 => ∃ acc, H4 Da = some (.lst acc) ∧ acc.length < sizeLine ∧ Nx (upd H4 Da (.lst (acc ++ [y])))) (bElt fe) := by
  intro b hn hl γ σ B S ρ H acc Nx P X rep c e h hNx
  refine he γ σ _ ⟨B, S, ρ, H⟩ rep (R.wp_mono (R.noxb (X' := fun _ _ _ _ => False) h) (fun x S1 hk => ?_) fun _ _ _ _ z => z.elim)
  intro v H1 B1 ρ1 rep1 e1 rv
  cases x with
  | cl i => exact hk.elim
  | im d =>
    simp only at hk
    split at hk
    · rename_i hz
      obtain ⟨vs, h1, h2, c2⟩ := (c.step rep.st e1).app rv
      have c1 := c.step rep.st e1
      refine ⟨vs, h1, by rw [h2]; exact hz, hNx _ S1 _ B1 ρ1 hk (rep1.st.updD c1.ban c1.nf c1.noT) c2 ((e.trans e1 hl rep.st.len).updD hn) ?_⟩
      exact (e1.stp rep.st).trans ⟨fun v x r => r.updD c1.ban, rds_upd c1.ban⟩
    · exact hk.elim
theorem simB_if {Da : Addr} {tt : TT} {ft : FT} {bt : TB} {k : FB} (ht : SimT K mg W0 tt ft) (hb : SimB K mg Da bt k) : SimB K mg Da (fun σ H Nx => tt σ H fun b H3 => if b = true then bt σ H3 Nx else Nx H3) (bIf ft k) := by
  intro b hn hl γ σ B S ρ H acc Nx P X rep c e h hNx
  refine ht γ σ _ ⟨B, S, ρ, H⟩ rep (R.wp_mono (R.noxb (X' := fun _ _ _ _ => False) h) (fun x S1 hk => ?_) fun _ _ _ _ z => z.elim)
  intro H1 B1 ρ1 rep1 e1
  have c1 := c.step rep.st e1
  cases x with
  | true =>
    refine iteT (hb b hn hl γ σ B1 S1 ρ1 H1 acc Nx P X rep1 c1 (e.trans e1 hl rep.st.len) hk fun acc' S' H' B' ρ' p ok' c' e' s' => hNx acc' S' H' B' ρ' p ok' c' e' ((e1.stp rep.st).trans s'))
  | false => exact iteF (hNx acc S1 H1 B1 ρ1 hk rep1.st c1 (e.trans e1 hl rep.st.len) (e1.stp rep.st))
/-- the loop itself -/
theorem cloop_go {Da : Addr} {J : It} {its : Sto → Option (List D)} {tg : Tg} {vs : List Nat} {bt : TB} {k : FB} (hv : ∀ i ∈ tg.slots, i ∈ vs) (hb : SimB K mg Da bt k) (b : At) (hn : b.H Da = none) (hl : b.ρ.length = b.S.length) {γ : Gam} {σ : St} {Stop : Hp → Prop} {P : List D → Sto → Prop} {X : PX} {B0 : Addr → Prop} {S0 : Sto} {ρ0 : List (List Addr)} {H0 : Hp}
    (hStop : ∀ acc S H B ρ, P acc S → StOk K mg B S ρ H → CInv K mg Da B S ρ H acc → b.to B S ρ H → Stp K mg B0 S0 ρ0 H0 B S ρ H → Stop H)
    (ij : ∀ B S ρ H acc, StOk K mg B S ρ H → CInv K mg Da B S ρ H acc → b.to B S ρ H → Stp K mg B0 S0 ρ0 H0 B S ρ H → ∀ (i : Nat) (ds : List D), its S = some ds → (∀ d, ds[i]? = some d → J.go i H ∧ ∀ x H', J.yld i H x H' → Grow H H' ∧ RD K mg B H' x d) ∧ (ds[i]? = none → J.stop i H))
    (n : Nat) (acc : List D) (rep : Rep K mg B0 γ S0 ρ0 σ H0) (c : CInv K mg Da B0 S0 ρ0 H0 acc) (e : b.to B0 S0 ρ0 H0) (h : (cloop its tg k n 0 (wipeG γ vs) acc S0).wp P X) :
    ∃ W : Nat → Nat → Hp → Prop, (∃ m, W 0 m H0) ∧ ∀ i m H, W i m H →
      (J.stop i H ∧ Stop H) ∨ (J.go i H ∧ ∃ Nx : Hp → Prop, (∀ H', Nx H' → ∃ m', m' < m ∧ W (i + 1) m' H') ∧ ∀ x H', J.yld i H x H' → tg.tg K x (wipe σ vs) H' fun σ2 H2 => wipe σ2 vs = wipe σ vs ∧ bt σ2 H2 Nx) := by
  refine ⟨fun i m H => ∃ acc B S ρ, StOk K mg B S ρ H ∧ CInv K mg Da B S ρ H acc ∧ b.to B S ρ H ∧ Stp K mg B0 S0 ρ0 H0 B S ρ H ∧ (cloop its tg k m i (wipeG γ vs) acc S).wp P X, ⟨n, acc, B0, S0, ρ0, rep.st, c, e, ⟨fun _ _ r => r, Gr.refl⟩, h⟩, ?_⟩
  rintro i m H ⟨acc, B, S, ρ, ok, c, e, s, hw⟩
  cases m with
  | zero => exact hw.elim
  | succ m =>
  simp only [cloop] at hw
  cases q1 : its S with
  | none => simp only [q1] at hw; exact hw.elim
  | some ds =>
    simp only [q1] at hw
    have jj := ij B S ρ H acc ok c e s i ds q1
    cases q2 : ds[i]? with
    | none =>
      simp only [q2] at hw
      exact .inl ⟨jj.2 q2, hStop acc S H B ρ hw ok c e s⟩
    | some d =>
      simp only [q2] at hw
      obtain ⟨go, yl⟩ := jj.1 d q2
      cases q3 : tg.fg (.im d) (wipeG γ vs) with
      | none => simp only [q3] at hw; exact hw.elim
      | some γ1 =>
        simp only [q3] at hw
        refine .inr ⟨go, fun H' => ∃ acc B S ρ, StOk K mg B S ρ H' ∧ CInv K mg Da B S ρ H' acc ∧ b.to B S ρ H' ∧ Stp K mg B0 S0 ρ0 H0 B S ρ H' ∧ (cloop its tg k m (i + 1) (wipeG γ vs) acc S).wp P X, fun H' h' => ⟨m, Nat.lt_succ_self m, h'⟩, fun x H4 hy => ?_⟩
        obtain ⟨gr, rd⟩ := yl x H4 hy
        have ex := Ext.grow ok gr
        have ok4 := ok.grow gr
        have c4 := c.step ok ex
        have e4 := e.trans ex hl ok.len
        have s4 := s.trans (ex.stp ok)
        have rep4 : Rep K mg B (wipeG γ vs) S ρ (wipe σ vs) H4 := rep_wipe (rep.stp s4 ok4) vs
        refine Tg.sim2 tg B (wipeG γ vs) γ1 S ρ (wipe σ vs) H4 x d _ hv rep4 rd (Tg.fg_im q3) fun σ5 rep5 ew => ⟨?_, ?_⟩
        · rw [ew]
          have : ∀ (us : List Nat) (τ : St), (∀ i ∈ us, i ∈ vs) → wipe (wipe τ us) vs = wipe τ vs := fun us τ => by
            induction us with
            | nil => intro _; rfl
            | cons u us ih =>
              intro hu
              show wipe ((wipe τ us).set u none) vs = _
              rw [wipe_set (hu u (by simp)), ih fun i hi => hu i (by simp [hi])]
          exact this vs σ fun _ hi => hi
        · refine hb b hn hl γ1 σ5 B S ρ H4 acc _ _ X rep5 c4 e4 (R.wp_bind hw) fun acc' S' H' B' ρ' p ok' c' e' s' => ?_
          exact ⟨acc', B', S', ρ', ok', c', e', s4.trans s', p⟩
theorem sim_lc {wi : TI} {fi : FI} {tg : Tg} {tt : TT} {ft : FT} {te : TE} {fe : F} {vs : List Nat} (hv : ∀ i ∈ tg.slots, i ∈ vs) (hi : SimI K mg W wi fi) (ht : SimT K mg W0 tt ft) (he : Sim K mg W0 te fe) : Sim K mg W (tLc wi (tg.tg K) tt te vs) (fLc fi tg vs (bIf ft (bElt fe))) := by
  intro γ σ Q g rep h
  refine hi γ σ _ g rep (R.wp_mono (R.wp_bind h) (fun its S hk J H B ρ rep1 e1 jo => ?_) fun _ _ _ _ z => z)
  intro Da hDa
  cases q0 : its S with
  | none => simp only [q0] at hk; exact hk.elim
  | some ds0 =>
  simp only [q0] at hk
  obtain ⟨c0, ok0, e0⟩ := cinv_start rep1.st hDa
  have rep0 := rep1.step e0 ok0
  refine cloop_go (Da := Da) (J := J) (its := its) (tg := tg) (vs := vs) (bt := fun σ H Nx => tt σ H fun b H3 => if b = true then te σ H3 (fun y H4 => ∃ acc, H4 Da = some (.lst acc) ∧ acc.length < sizeLine ∧ Nx (upd H4 Da (.lst (acc ++ [y])))) else Nx H3) hv (simB_if ht (simB_elt he)) ⟨B, S, ρ, H⟩ hDa rep1.st.len (P := fun acc S2 => Okv K mg g γ σ Q (.im (.lst acc)) S2) (X := Exv K mg g σ W) (Stop := fun H => Q (.ref Da) H) (fun acc S' H' B' ρ' p ok' c' e' s' => ?_) (fun B' S' ρ' H' acc ok' c' e' s' i ds hds => jo B' S' ρ' H' i ds ok' ((e0.stp rep1.st).trans s') hds) (ds0.length + 1) [] rep0 c0 e0 (R.wp_bind hk)
  obtain ⟨ok2, e2, rd⟩ := cinv_end c' ok' e' hDa
  exact p (.ref Da) H' _ ρ' (rep1.step e2 ok2) (e1.trans e2 rep.st.len rep1.st.len) rd
theorem simB_for {Da : Addr} {wi : TI} {fi : FI} {tg : Tg} {vs : List Nat} {bt : TB} {k : FB} (hv : ∀ i ∈ tg.slots, i ∈ vs) (hi : SimI K mg W0 wi fi) (hb : SimB K mg Da bt k) :
    SimB K mg Da (fun σ H Nx => wi σ H fun J1 H4 => ∃ W1 : Nat → Nat → Hp → Prop, (∃ m, W1 0 m H4) ∧ ∀ j k H, W1 j k H →
      (J1.stop j H ∧ Nx H) ∨ (J1.go j H ∧ ∃ Nx1 : Hp → Prop, (∀ H', Nx1 H' → ∃ k', k' < k ∧ W1 (j + 1) k' H') ∧ ∀ x H', J1.yld j H x H' → tg.tg K x (wipe σ vs) H' fun σ3 H5 => wipe σ3 vs = wipe σ vs ∧ bt σ3 H5 Nx1)) (bFor fi tg vs k) := by
  intro b hn hl γ σ B S ρ H acc Nx P X rep c e h hNx
  refine hi γ σ _ ⟨B, S, ρ, H⟩ rep (R.wp_mono (R.noxb (X' := fun _ _ _ _ => False) h) (fun its S1 hk => ?_) fun _ _ _ _ z => z.elim)
  intro J H1 B1 ρ1 rep1 e1 jo
  cases q0 : its S1 with
  | none => simp only [q0] at hk; exact hk.elim
  | some ds0 =>
  simp only [q0] at hk
  exact cloop_go (Da := Da) (J := J) (its := its) (tg := tg) (vs := vs) (bt := bt) hv hb b hn hl (P := P) (X := X) (Stop := Nx) (fun acc' S' H' B' ρ' p ok' c' e' s' => hNx acc' S' H' B' ρ' p ok' c' e' ((e1.stp rep.st).trans s'))
    (fun B' S' ρ' H' acc ok' c' e' s' i ds hds => jo B' S' ρ' H' i ds ok' s' hds) (ds0.length + 1) acc rep1 (c.step rep.st e1) (e.trans e1 hl rep.st.len) hk
theorem sim_lc2 {wi wi1 : TI} {fi fi1 : FI} {tg tg1 : Tg} {tt tt1 : TT} {ft ft1 : FT} {te : TE} {fe : F} {vs vs1 : List Nat} (hv : ∀ i ∈ tg.slots, i ∈ vs) (hv1 : ∀ i ∈ tg1.slots, i ∈ vs1) (hi : SimI K mg W wi fi) (ht : SimT K mg W0 tt ft) (hi1 : SimI K mg W0 wi1 fi1) (ht1 : SimT K mg W0 tt1 ft1) (he : Sim K mg W0 te fe) :
    Sim K mg W (tLc2 wi (tg.tg K) tt wi1 (tg1.tg K) tt1 te vs vs1) (fLc fi tg vs (bIf ft (bFor fi1 tg1 vs1 (bIf ft1 (bElt fe))))) := by
  intro γ σ Q g rep h
  refine hi γ σ _ g rep (R.wp_mono (R.wp_bind h) (fun its S hk J H B ρ rep1 e1 jo => ?_) fun _ _ _ _ z => z)
  intro Da hDa
  cases q0 : its S with
  | none => simp only [q0] at hk; exact hk.elim
  | some ds0 =>
  simp only [q0] at hk
  obtain ⟨c0, ok0, e0⟩ := cinv_start rep1.st hDa
  have rep0 := rep1.step e0 ok0
  refine cloop_go (Da := Da) (J := J) (its := its) (tg := tg) (vs := vs) (bt := fun σ H Nx => tt σ H fun b H3 => if b = true then wi1 σ H3 (fun J1 H4 => ∃ W1 : Nat → Nat → Hp → Prop, (∃ m, W1 0 m H4) ∧ ∀ j k H, W1 j k H →
      (J1.stop j H ∧ Nx H) ∨ (J1.go j H ∧ ∃ Nx1 : Hp → Prop, (∀ H', Nx1 H' → ∃ k', k' < k ∧ W1 (j + 1) k' H') ∧ ∀ x H', J1.yld j H x H' → tg1.tg K x (wipe σ vs1) H' fun σ3 H5 => wipe σ3 vs1 = wipe σ vs1 ∧ tt1 σ3 H5 fun b H6 =>
        if b = true then te σ3 H6 (fun y H7 => ∃ acc, H7 Da = some (.lst acc) ∧ acc.length < sizeLine ∧ Nx1 (upd H7 Da (.lst (acc ++ [y])))) else Nx1 H6)) else Nx H3) hv (simB_if ht (simB_for hv1 hi1 (simB_if ht1 (simB_elt he)))) ⟨B, S, ρ, H⟩ hDa rep1.st.len
    (P := fun acc S2 => Okv K mg g γ σ Q (.im (.lst acc)) S2) (X := Exv K mg g σ W) (Stop := fun H => Q (.ref Da) H) (fun acc S' H' B' ρ' p ok' c' e' s' => ?_) (fun B' S' ρ' H' acc ok' c' e' s' i ds hds => jo B' S' ρ' H' i ds ok' ((e0.stp rep1.st).trans s') hds) (ds0.length + 1) [] rep0 c0 e0 (R.wp_bind hk)
  obtain ⟨ok2, e2, rd⟩ := cinv_end c' ok' e' hDa
  exact p (.ref Da) H' _ ρ' (rep1.step e2 ok2) (e1.trans e2 rep.st.len rep1.st.len) rd
/-- the cell at a is one no more -/
theorem out_cell {B : Addr → Prop} {S : Sto} {ρ : List (List Addr)} {H H' : Hp} {i : Nat} {a : Addr} {c : Cell} (ok : StOk K mg B S ρ H) (hr : ρ[i]? = some [a]) (hs : S[i]? = some (some c)) (hH : ∀ b, b ≠ a → H' b = H b) (hne : H' a ≠ none) :
    StOk K mg (fun b => B b ∧ b ≠ a) (S.set i none) ρ H' ∧ Ext B S ρ H (fun b => B b ∧ b ≠ a) (S.set i none) ρ H' ∧ Gr B H (fun b => B b ∧ b ≠ a) H' := by
  have hi := (List.getElem?_eq_some_iff.mp hs).1
  have foota : Foot S ρ a := .inl ⟨i, [a], c, hr, hs, by simp⟩
  have gr : Gr B H (fun b => B b ∧ b ≠ a) H' := fun b o h nb => ⟨by rw [hH b fun e => nb (e ▸ ok.ban a foota)]; exact h, fun z => nb z.1⟩
  have live : ∀ {j : Nat} {d : Cell}, (S.set i none)[j]? = some (some d) → j ≠ i ∧ S[j]? = some (some d) := fun {j d} h => by
    by_cases hj : j = i
    · subst hj
      rw [List.getElem?_set_self hi] at h
      cases h
    · rw [List.getElem?_set_ne (Ne.symm hj)] at h
      exact ⟨hj, h⟩
  have foot : ∀ {b : Addr}, Foot (S.set i none) ρ b → Foot S ρ b ∧ b ≠ a := fun {b} hz => by
    rcases hz with ⟨j, fp, d, k1, k2, k3⟩ | hz
    case inr => exact ⟨.inr hz, fun e => by
      obtain ⟨ps, q⟩ := tabs_at ok.tabs hz
      exact ((ok.cell i _ c hr hs).noT (by simp) (.tbl ps) (e ▸ q)).1 ps rfl⟩
    obtain ⟨hj, k2⟩ := live k2
    refine ⟨.inl ⟨j, fp, d, k1, k2, k3⟩, fun e => hj ?_⟩
    exact ok.disj j i fp [a] d c k1 hr k2 hs b k3 (by simp [e])
  have dom : ∀ b, H b ≠ none → H' b ≠ none := fun b h => by
    by_cases e : b = a
    · rw [e]; exact hne
    · rw [hH b e]; exact h
  refine ⟨⟨by simp [ok.len], fun j fp d k1 k2 => (ok.cell j fp d k1 (live k2).2).mono gr fun b hb o ho => ?_, fun b f => ⟨ok.ban b (foot f).1, (foot f).2⟩, fun j k fp fp' d d' k1 k2 k3 k4 => ok.disj j k fp fp' d d' k1 k2 (live k3).2 (live k4).2, fun b z => dom b (ok.dom b z.1), tabs_keep ok.tabs fun b o h => by
      by_cases e : b = a
      · subst e; exact .inl ((ok.cell i _ c hr hs).noT (by simp) o h)
      · exact .inr (by rw [hH b e]; exact h)⟩, ⟨by simp, fun _ _ h => h, fun j h => ?_, fun b o h nf => ?_, fun b o h nb z => nb z.1, fun j fp d hj k1 k2 => ?_, dom, ok.dom, fun b hb nf => ⟨hb, fun e => nf (by rw [e]; exact foota)⟩⟩, gr⟩
  · rw [hH b (foot (.inl ⟨j, fp, d, k1, k2, hb⟩)).2]; exact ho
  · by_cases hj : j = i
    · rw [hj, hs] at h; cases h
    · rw [List.getElem?_set_ne (Ne.symm hj)]; exact h
  · rw [hH b fun e => nf (e ▸ foota)]; exact h
  · have := (List.getElem?_eq_some_iff.mp k2).1
    simp at this
    omega
theorem CellR.one {B : Addr → Prop} {H : Hp} {fp : List Addr} {c : Cell} (r : CellR K mg B H fp c) : ∃ a, fp = [a] := by
  match fp, c with
  | [a], _ => exact ⟨a, rfl⟩
  | [], _ => exact (show False from by cases r).elim
  | _ :: _ :: _, .lst _ => exact r.elim
  | _ :: _ :: _, .dct b _ => cases b <;> exact r.elim
  | _ :: _ :: _, .ins _ _ => exact r.elim
/-- a value that its maker changes no more; a dict is locked for good -/
def tFrz (t : TE) : TE := fun σ H Q => t σ H fun v H1 => Q v H1 ∨ ∃ d u, v = .ref d ∧ H1 d = some u ∧ Mut (some u) ∧ ∀ od, Q v (upd H1 d (.frz od u))
theorem sim_freeze {t : TE} {f : F} (h1 : Sim K mg W t f) : Sim K mg W (tFrz t) (fFreeze f) := by
  intro γ σ Q g rep h
  refine h1.go rep (fun _ _ _ _ z => z) h fun x S v H B ρ rep1 e1 rv hk => ?_
  cases x with
  | im d => exact .inl (hk v H B ρ rep1 e1 rv)
  | cl i =>
    cases q : S[i]? with
    | none => simp only [q] at hk; exact hk.elim
    | some o =>
      cases o with
      | none => simp only [q] at hk; exact hk.elim
      | some c =>
        simp only [q] at hk
        have ok := rep1.st
        obtain ⟨hi, hv⟩ := rv
        obtain ⟨a, t, hr, rfl⟩ := hv c q
        have cr := ok.cell i _ c hr q
        obtain ⟨a', et⟩ := cr.one
        cases et
        have plain : (RD K mg (fun b => B b ∧ b ≠ a) H (.ref a) c.view) → Q (.ref a) H := fun rd => by
          obtain ⟨ok2, e2, _⟩ := out_cell (H' := H) ok hr q (fun _ _ => rfl) (ok.dom a (ok.ban a (.inl ⟨i, [a], c, hr, q, by simp⟩)))
          exact hk (.ref a) H _ ρ (rep1.step e2 ok2) (e1.trans e2 rep.st.len ok.len) rd
        have na : ¬ (fun b => B b ∧ b ≠ a) a := fun z => z.2 rfl
        have gr : Gr B H (fun b => B b ∧ b ≠ a) H := fun b o h nb => ⟨h, fun z => nb z.1⟩
        have frz : ∀ u, H a = some u → Mut (some u) → (∀ od, RD K mg (fun b => B b ∧ b ≠ a) (upd H a (.frz od u)) (.ref a) c.view) → ∃ d u, V.ref a = .ref d ∧ H d = some u ∧ Mut (some u) ∧ ∀ od, Q (.ref a) (upd H d (.frz od u)) := fun u hu mu rd => by
          refine ⟨a, u, rfl, hu, mu, fun od => ?_⟩
          obtain ⟨ok2, e2, _⟩ := out_cell (H' := upd H a (.frz od u)) ok hr q (fun b hb => upd_ne hb) (by rw [upd_same]; simp)
          exact hk (.ref a) _ _ ρ (rep1.step e2 ok2) (e1.trans e2 rep.st.len ok.len) (rd od)
        cases c with
        | lst ds => obtain ⟨vs, h2, r⟩ := cr; exact .inl (plain (.lst h2 na (r.mono gr)))
        | ins c fs => obtain ⟨C, dx, fvs, m, h2, r⟩ := cr; exact .inl (plain (.ins h2 na m (r.mono gr)))
        | dct b kvs =>
          have gr2 : ∀ o, Gr B H (fun b => B b ∧ b ≠ a) (upd H a o) := fun o => (out_cell (H' := upd H a o) ok hr q (fun b hb => upd_ne hb) (by rw [upd_same]; simp)).2.2
          cases b with
          | false => obtain ⟨vs, h2, r⟩ := cr; exact .inr (frz _ h2 True.intro fun od => .dK upd_same na (r.mono (gr2 _)))
          | true => obtain ⟨vs, h2, r⟩ := cr; exact .inr (frz _ h2 True.intro fun od => .dT upd_same na (r.mono (gr2 _)))
end
theorem pe_frz {X : Cx} {e : Expr} {t : TE} (h : PE X e t) : PE X e (tFrz t) := by
  refine ⟨fun pins s σ H Q I hw => ?_⟩
  refine thn (h.run pins s σ H _ I hw) fun v s1 ⟨x, H1, I1, r, q⟩ => ?_
  rcases q with q | ⟨d, u, rfl, hd, mu, q⟩
  · exact ⟨x, H1, I1, r, q⟩
  · obtain ⟨od, I2⟩ := I1.lock hd mu
    exact ⟨.ref d, _, I2, r, q od⟩
end DL
namespace DL
open PySem PySem.Spec L2
open PyProof.Rows hiding St
variable [Tbl]
/-- arguments (the k-th cell that is handed over is cl k), those cells; the value, and the cells behind it -/
abbrev FnS := List Vl → Sto → R Vl
def pack : List Vl → Nat → List Vl × List Nat
  | [], _ => ([], [])
  | .im d :: r, k => ((.im d) :: (pack r k).1, (pack r k).2)
  | .cl i :: r, k => ((.cl k) :: (pack r (k + 1)).1, i :: (pack r (k + 1)).2)
def sub (S : Sto) (is : List Nat) : Sto := is.map fun i => (S[i]?).join
def wb : Sto → List Nat → Sto → Sto
  | S, i :: is, c :: cs => wb (S.set i c) is cs
  | S, _, _ => S
def allLive (S : Sto) (is : List Nat) : Bool := is.all fun i => ((S[i]?).join).isSome
/-- a call -/
def callSem (f : FnS) (xs : List Vl) (γ : Gam) (S : Sto) : R Vl :=
  let is := (pack xs 0).2
  if is.Nodup ∧ allLive S is = true then
    match f (pack xs 0).1 (sub S is) with
    | .ok (.im d) S' => .ok (.im d) (wb S is S')
    | .ok (.cl j) S' => if j < is.length then .ok (.cl (is.getD j 0)) (wb S is S') else (match S'[j]? with
      | some (some c) => .ok (.cl S.length) (wb S is S' ++ [some c])
      | _ => .bad)
    | .exc c fs _ S' => .exc c fs γ (wb S is S')
    | .bad => .bad
  else .bad
/-- no cell is handed over -/
theorem pack_ims : ∀ (ds : List D) (k : Nat), pack (ds.map Vl.im) k = (ds.map Vl.im, [])
  | [], _ => rfl
  | d :: ds, k => by
    rw [List.map_cons]
    show ((Vl.im d) :: (pack (ds.map Vl.im) k).1, (pack (ds.map Vl.im) k).2) = _
    rw [pack_ims ds k]
theorem wb_length : ∀ (is : List Nat) (S cs : Sto), (wb S is cs).length = S.length
  | [], S, cs => by cases cs <;> rfl
  | i :: is, S, [] => rfl
  | i :: is, S, c :: cs => by
    show (wb (S.set i c) is cs).length = _
    rw [wb_length is, List.length_set]
theorem wb_out {j : Nat} : ∀ (is : List Nat) (S cs : Sto), j ∉ is → (wb S is cs)[j]? = S[j]?
  | [], S, cs, _ => by cases cs <;> rfl
  | i :: is, S, [], _ => rfl
  | i :: is, S, c :: cs, h => by
    simp only [List.mem_cons, not_or] at h
    show (wb (S.set i c) is cs)[j]? = _
    rw [wb_out is _ cs h.2, List.getElem?_set_ne (Ne.symm h.1)]
theorem wb_in {j k : Nat} : ∀ (is : List Nat) (S cs : Sto), is.Nodup → is[k]? = some j → j < S.length → k < cs.length → (wb S is cs)[j]? = cs[k]?
  | [], _, _, _, h, _, _ => by simp at h
  | i :: is, S, [], _, _, _, h => by simp at h
  | i :: is, S, c :: cs, nd, h, hj, hk => by
    rw [List.nodup_cons] at nd
    show (wb (S.set i c) is cs)[j]? = _
    cases k with
    | zero =>
      simp at h
      subst h
      rw [wb_out is _ cs nd.1, List.getElem?_set_self hj]
      rfl
    | succ k =>
      rw [List.getElem?_cons_succ]
      exact wb_in is (S.set i c) cs nd.2 (by simpa using h) (by simpa using hj) (by simpa using hk)
section
variable {K : PySem.W.Frag} {mg : Str → Option Value} {W : WX}
abbrev RVs (K : PySem.W.Frag) (mg : Str → Option Value) (B : Addr → Prop) (S : Sto) (ρ : List (List Addr)) (H : Hp) : List V → List Vl → Prop := Paired (fun v x => RV K mg B S ρ H v x)
/-- the promise of a def that does f; n arguments -/
def spOf (K : PySem.W.Frag) (mg : Str → Option Value) (n : Nat) (f : FnS) : Sp := fun vs H Q E => vs.length = n ∧ ∃ (B : Addr → Prop) (S : Sto) (ρ : List (List Addr)) (xs : List Vl), StOk K mg B S ρ H ∧ RVs K mg B S ρ H vs xs ∧
  (f xs S).wp (fun x S' => ∀ v H' B' ρ', StOk K mg B' S' ρ' H' → Ext B S ρ H B' S' ρ' H' → RV K mg B' S' ρ' H' v x → Q v H')
    (fun c fs _ S' => ∀ cls dd H' B' ρ', StOk K mg B' S' ρ' H' → Ext B S ρ H B' S' ρ' H' → RX K mg B' H' cls dd c fs → E cls dd H')
theorem spOf_len {n : Nat} {f : FnS} : ∀ vs H Q E, spOf K mg n f vs H Q E → vs.length = n := fun _ _ _ _ h => h.1
/-- f1 does less or the same -/
def Le (f1 f2 : FnS) : Prop := ∀ xs S, f1 xs S = .bad ∨ f2 xs S = f1 xs S
theorem spOf_le {n : Nat} {f1 f2 : FnS} (h : Le f1 f2) : ∀ vs H Q E, spOf K mg n f1 vs H Q E → spOf K mg n f2 vs H Q E := by
  rintro vs H Q E ⟨hl, B, S, ρ, xs, ok, r, w⟩
  refine ⟨hl, B, S, ρ, xs, ok, r, ?_⟩
  rcases h xs S with e | e
  · rw [e] at w; exact w.elim
  · rw [e]; exact w
def subρ (ρ : List (List Addr)) (is : List Nat) : List (List Addr) := is.map fun i => ρ.getD i []
theorem sub_get {S : Sto} {is : List Nat} {k : Nat} {x : Option Cell} (h : (sub S is)[k]? = some x) : ∃ i, is[k]? = some i ∧ x = (S[i]?).join := by
  unfold sub at h
  rw [List.getElem?_map] at h
  cases q : is[k]? with
  | none => rw [q] at h; cases h
  | some i => rw [q] at h; cases h; exact ⟨i, rfl, rfl⟩
theorem subρ_get {ρ : List (List Addr)} {is : List Nat} {k : Nat} {fp : List Addr} (h : (subρ ρ is)[k]? = some fp) : ∃ i, is[k]? = some i ∧ fp = ρ.getD i [] := by
  unfold subρ at h
  rw [List.getElem?_map] at h
  cases q : is[k]? with
  | none => rw [q] at h; cases h
  | some i => rw [q] at h; cases h; exact ⟨i, rfl, rfl⟩
theorem join_some {S : Sto} {i : Nat} {c : Cell} (h : (S[i]?).join = some c) : S[i]? = some (some c) := by
  cases q : S[i]? with
  | none => rw [q] at h; cases h
  | some o => rw [q] at h; rw [← h]; rfl
theorem live_at {S : Sto} {is : List Nat} (h : allLive S is = true) {i : Nat} (hi : i ∈ is) : ∃ c, S[i]? = some (some c) := by
  unfold allLive at h
  have := List.all_eq_true.mp h i hi
  cases q : (S[i]?).join with
  | none => rw [q] at this; cases this
  | some c => exact ⟨c, join_some q⟩
theorem ρ_at {B : Addr → Prop} {S : Sto} {ρ : List (List Addr)} {H : Hp} (ok : StOk K mg B S ρ H) {i : Nat} (hi : i < S.length) : ρ[i]? = some (ρ.getD i []) := by
  have h : i < ρ.length := by rw [ok.len]; exact hi
  rw [List.getD_eq_getElem?_getD, List.getElem?_eq_getElem h]; rfl
theorem lt_of_some {α : Type} {l : List α} {i : Nat} {x : α} (h : l[i]? = some x) : i < l.length := (List.getElem?_eq_some_iff.mp h).1
theorem StOk.sub {B : Addr → Prop} {S : Sto} {ρ : List (List Addr)} {H : Hp} {is : List Nat} (ok : StOk K mg B S ρ H) (nd : is.Nodup) : StOk K mg B (DL.sub S is) (subρ ρ is) H where
  len := by unfold DL.sub subρ; simp
  cell := fun k fp c h1 h2 => by
    obtain ⟨i, e1, rfl⟩ := subρ_get h1
    obtain ⟨i', e2, e3⟩ := sub_get h2
    rw [e1] at e2
    cases e2
    have h := join_some e3.symm
    exact ok.cell i _ c (ρ_at ok (lt_of_some h)) h
  ban := fun a hz => by
    rcases hz with ⟨k, fp, c, h1, h2, h3⟩ | hz
    case inr => exact ok.ban a (.inr hz)
    obtain ⟨i, e1, rfl⟩ := subρ_get h1
    obtain ⟨i', e2, e3⟩ := sub_get h2
    rw [e1] at e2
    cases e2
    have h := join_some e3.symm
    exact ok.ban a (.inl ⟨i, _, c, ρ_at ok (lt_of_some h), h, h3⟩)
  disj := fun j k fp fp' c c' h1 h2 h3 h4 a ha hb => by
    obtain ⟨i, e1, rfl⟩ := subρ_get h1
    obtain ⟨i2, e2, rfl⟩ := subρ_get h2
    obtain ⟨i3, e3, e3'⟩ := sub_get h3
    obtain ⟨i4, e4, e4'⟩ := sub_get h4
    rw [e1] at e3
    cases e3
    rw [e2] at e4
    cases e4
    have h := join_some e3'.symm
    have h' := join_some e4'.symm
    have := ok.disj i i2 _ _ c c' (ρ_at ok (lt_of_some h)) (ρ_at ok (lt_of_some h')) h h' a ha hb
    subst this
    obtain ⟨l1, g1⟩ := List.getElem?_eq_some_iff.mp e1
    obtain ⟨l2, g2⟩ := List.getElem?_eq_some_iff.mp e2
    exact (List.getElem_inj nd).mp (g1.trans g2.symm)
  dom := ok.dom
  tabs := ok.tabs
theorem foot_sub {B : Addr → Prop} {S : Sto} {ρ : List (List Addr)} {H : Hp} {is : List Nat} (ok : StOk K mg B S ρ H) {a : Addr} (h : Foot (DL.sub S is) (subρ ρ is) a) : (∃ i ∈ is, ∃ c, S[i]? = some (some c) ∧ a ∈ ρ.getD i []) ∨ IsTb a := by
  rcases h with ⟨k, fp, c, h1, h2, h3⟩ | h
  case inr => exact .inr h
  obtain ⟨i, e1, rfl⟩ := subρ_get h1
  obtain ⟨i', e2, e3⟩ := sub_get h2
  rw [e1] at e2
  cases e2
  exact .inl ⟨i, List.mem_of_getElem? e1, c, join_some e3.symm, h3⟩
theorem foot_of_sub {B : Addr → Prop} {S : Sto} {ρ : List (List Addr)} {H : Hp} {is : List Nat} (ok : StOk K mg B S ρ H) {a : Addr} (h : Foot (DL.sub S is) (subρ ρ is) a) : Foot S ρ a := by
  rcases foot_sub ok h with ⟨i, _, c, h1, h2⟩ | h
  · exact .inl ⟨i, _, c, ρ_at ok (lt_of_some h1), h1, h2⟩
  · exact .inr h
/-- behind a call: the caller's cells -/
theorem StOk.back {B B' : Addr → Prop} {S S' : Sto} {ρ ρ' : List (List Addr)} {H H' : Hp} {is : List Nat} (ok : StOk K mg B S ρ H) (nd : is.Nodup) (lv : allLive S is = true) (ok' : StOk K mg B' S' ρ' H') (e : Ext B (DL.sub S is) (subρ ρ is) H B' S' ρ' H') :
    StOk K mg B' (wb S is S') ρ H' ∧ Ext B S ρ H B' (wb S is S') ρ H' := by
  have gr : Gr B H B' H' := fun a o h b => ⟨e.keep a o h fun z => b (ok.ban a (foot_of_sub ok z)), e.ban a o h b⟩
  have hlen : is.length ≤ S'.length := by
    have := e.len
    unfold DL.sub at this
    simpa using this
  have low : ∀ {i : Nat}, i ∈ is → i < S.length := fun {i} hi => by obtain ⟨c, h⟩ := live_at lv hi; exact lt_of_some h
  -- a cell that was handed over
  have inn : ∀ {i : Nat}, i ∈ is → ∃ k, is[k]? = some i ∧ (wb S is S')[i]? = S'[k]? ∧ ρ'[k]? = ρ[i]? := fun {i} hi => by
    obtain ⟨k, hk⟩ := List.mem_iff_getElem?.mp hi
    have hkl := lt_of_some hk
    refine ⟨k, hk, wb_in is S S' nd hk (low hi) (by omega), ?_⟩
    have h1 : (subρ ρ is)[k]? = some (ρ.getD i []) := by unfold subρ; rw [List.getElem?_map, hk]; rfl
    rw [e.pre k _ h1, ρ_at ok (low hi)]
  have live : ∀ {i : Nat} {c : Cell}, (wb S is S')[i]? = some (some c) → ∃ c0, S[i]? = some (some c0) := fun {i c} h => by
    by_cases hi : i ∈ is
    · exact live_at lv hi
    · rw [wb_out is S S' hi] at h; exact ⟨c, h⟩
  -- what was not handed over
  have apart : ∀ {i : Nat} {fp : List Addr} {c : Cell} {a : Addr}, i ∉ is → ρ[i]? = some fp → S[i]? = some (some c) → a ∈ fp → ¬ Foot (DL.sub S is) (subρ ρ is) a := fun {i fp c a} hi h1 h2 h3 z => by
    rcases foot_sub ok z with ⟨j, hj, c', g1, g2⟩ | z
    case inr =>
      obtain ⟨ps, q⟩ := tabs_at ok.tabs z
      exact ((ok.cell i fp c h1 h2).noT h3 _ q).1 ps rfl
    have := ok.disj i j fp _ c c' h1 (ρ_at ok (lt_of_some g1)) h2 g1 a h3 g2
    exact hi (this ▸ hj)
  refine ⟨⟨by rw [wb_length]; exact ok.len, fun i fp c h1 h2 => ?_, fun a hz => ?_, fun i j fp fp' c c' h1 h2 h3 h4 a ha hb => ?_, ok'.dom, ok'.tabs⟩, ⟨by rw [wb_length]; exact Nat.le_refl _, fun _ _ h => h, fun i h => ?_, fun a o h nf => e.keep a o h fun z => nf (foot_of_sub ok z), e.ban, fun i fp c hi h1 h2 => ?_, e.dom, ok.dom, fun a b nf => e.held a b fun z => nf (foot_of_sub ok z)⟩⟩
  · by_cases hi : i ∈ is
    · obtain ⟨k, hk, w1, w2⟩ := inn hi
      exact ok'.cell k fp c (by rw [w2, h1]) (by rw [← w1, h2])
    · rw [wb_out is S S' hi] at h2
      exact (ok.cell i fp c h1 h2).mono gr fun a ha o ho => e.keep a o ho (apart hi h1 h2 ha)
  · rcases hz with ⟨i, fp, c, h1, h2, h3⟩ | hz
    case inr => exact ok'.ban a (.inr hz)
    by_cases hi : i ∈ is
    · obtain ⟨k, hk, w1, w2⟩ := inn hi
      exact ok'.ban a (.inl ⟨k, fp, c, by rw [w2, h1], by rw [← w1, h2], h3⟩)
    · rw [wb_out is S S' hi] at h2
      exact e.held a (ok.ban a (.inl ⟨i, fp, c, h1, h2, h3⟩)) (apart hi h1 h2 h3)
  · obtain ⟨c0, g0⟩ := live h3
    obtain ⟨c1, g1⟩ := live h4
    exact ok.disj i j fp fp' c0 c1 h1 h2 g0 g1 a ha hb
  · by_cases hi : i ∈ is
    · obtain ⟨c, g⟩ := live_at lv hi
      rw [h] at g; cases g
    · rw [wb_out is S S' hi]; exact h
  · have := lt_of_some h2
    rw [wb_length] at this
    omega
/-- .. and a new one -/
theorem StOk.more {B : Addr → Prop} {S S' : Sto} {ρ ρ' : List (List Addr)} {H : Hp} {B0 : Addr → Prop} {S0 : Sto} {ρ0 : List (List Addr)} {H0 : Hp} {j : Nat} {fp : List Addr} {c : Cell} (ok : StOk K mg B S ρ H) (e : Ext B0 S0 ρ0 H0 B S ρ H) (ok' : StOk K mg B S' ρ' H) (h1 : ρ'[j]? = some fp) (h2 : S'[j]? = some (some c)) (hnew : ∀ a ∈ fp, H0 a = none) (hS : S.length = S0.length) (old : ∀ a, Foot S ρ a → H0 a ≠ none) :
    StOk K mg B (S ++ [some c]) (ρ ++ [fp]) H ∧ Ext B0 S0 ρ0 H0 B (S ++ [some c]) (ρ ++ [fp]) H := by
  have hl := ok.len
  have low : ∀ {i : Nat} {fq : List Addr}, (ρ ++ [fp])[i]? = some fq → (i < ρ.length ∧ ρ[i]? = some fq) ∨ (i = ρ.length ∧ fq = fp) := fun {i fq} h => by
    by_cases hi : i < ρ.length
    · rw [List.getElem?_append_left hi] at h; exact .inl ⟨hi, h⟩
    · rw [List.getElem?_append_right (by omega)] at h
      have : i - ρ.length = 0 := by
        have := lt_of_some h
        simp at this; omega
      rw [this] at h
      simp at h
      exact .inr ⟨by omega, h.symm⟩
  have lowS : ∀ {i : Nat} {c' : Cell}, (S ++ [some c])[i]? = some (some c') → (i < S.length ∧ S[i]? = some (some c')) ∨ (i = S.length ∧ c' = c) := fun {i c'} h => by
    by_cases hi : i < S.length
    · rw [List.getElem?_append_left hi] at h; exact .inl ⟨hi, h⟩
    · rw [List.getElem?_append_right (by omega)] at h
      have : i - S.length = 0 := by
        have := lt_of_some h
        simp at this; omega
      rw [this] at h
      simp at h
      exact .inr ⟨by omega, h.symm⟩
  refine ⟨⟨by simp [hl], fun i fq c' k1 k2 => ?_, fun a hz => ?_, fun i i' fq fq' c1 c2 k1 k2 k3 k4 a ha hb => ?_, ok.dom, ok.tabs⟩, ⟨by simp; have := e.len; omega, fun i fq h => ?_, fun i h => ?_, e.keep, e.ban, fun i fq c' hi k1 k2 a ha => ?_, e.dom, e.bdom, e.held⟩⟩
  · rcases low k1 with ⟨q1, q2⟩ | ⟨q1, q2⟩ <;> rcases lowS k2 with ⟨q3, q4⟩ | ⟨q3, q4⟩ <;> try omega
    · exact ok.cell i fq c' q2 q4
    · subst q2 q4; exact ok'.cell j _ _ h1 h2
  · rcases hz with ⟨i, fq, c', k1, k2, k3⟩ | hz
    case inr => exact ok.ban a (.inr hz)
    rcases low k1 with ⟨q1, q2⟩ | ⟨q1, q2⟩ <;> rcases lowS k2 with ⟨q3, q4⟩ | ⟨q3, q4⟩ <;> try omega
    · exact ok.ban a (.inl ⟨i, fq, c', q2, q4, k3⟩)
    · subst q2 q4; exact ok'.ban a (.inl ⟨j, _, _, h1, h2, k3⟩)
  · rcases low k1 with ⟨q1, q2⟩ | ⟨q1, q2⟩ <;> rcases low k2 with ⟨q3, q4⟩ | ⟨q3, q4⟩ <;> rcases lowS k3 with ⟨q5, q6⟩ | ⟨q5, q6⟩ <;> rcases lowS k4 with ⟨q7, q8⟩ | ⟨q7, q8⟩ <;> try omega
    · exact ok.disj i i' fq fq' c1 c2 q2 q4 q6 q8 a ha hb
    · subst q4; exact absurd (hnew a hb) (old a (.inl ⟨i, fq, c1, q2, q6, ha⟩))
    · subst q2; exact absurd (hnew a ha) (old a (.inl ⟨i', fq', c2, q4, q8, hb⟩))
  · have h' := e.pre i fq h
    rw [List.getElem?_append_left (lt_of_some h')]; exact h'
  · have h' := e.dead i h
    rw [List.getElem?_append_left (lt_of_some h')]; exact h'
  · rcases low k1 with ⟨q1, q2⟩ | ⟨q1, q2⟩
    · rcases lowS k2 with ⟨q3, q4⟩ | ⟨q3, q4⟩
      · exact e.new i fq c' hi q2 q4 a ha
      · omega
    · subst q2; exact hnew a ha
theorem pack_rv {B : Addr → Prop} {S : Sto} {ρ : List (List Addr)} {H : Hp} (ok : StOk K mg B S ρ H) {vs : List V} {xs : List Vl} (r : RVs K mg B S ρ H vs xs) (js : List Nat) (lv : allLive S (js ++ (pack xs js.length).2) = true) :
    RVs K mg B (DL.sub S (js ++ (pack xs js.length).2)) (subρ ρ (js ++ (pack xs js.length).2)) H vs (pack xs js.length).1 := by
  induction r generalizing js with
  | nil => exact .nil
  | @cons v x vs xs r _ ih =>
    cases x with
    | im d =>
      exact .cons r (ih js lv)
    | cl i =>
      have e : js ++ (pack (.cl i :: xs) js.length).2 = (js ++ [i]) ++ (pack xs (js ++ [i]).length).2 := by
        show js ++ i :: (pack xs (js.length + 1)).2 = _
        rw [List.append_assoc, List.length_append]; rfl
      have t := ih (js ++ [i]) (by rw [← e]; exact lv)
      rw [← e] at t
      have e1 : (pack xs (js ++ [i]).length).1 = (pack xs (js.length + 1)).1 := by rw [List.length_append]; rfl
      rw [e1] at t
      refine .cons ?_ t
      have hk : (js ++ (pack (.cl i :: xs) js.length).2)[js.length]? = some i := by
        show (js ++ i :: (pack xs (js.length + 1)).2)[js.length]? = some i
        rw [List.getElem?_append_right (Nat.le_refl _)]; simp
      refine ⟨?_, fun c hc => ?_⟩
      · unfold DL.sub; rw [List.length_map]; exact lt_of_some hk
      · obtain ⟨i', g1, g2⟩ := sub_get hc
        rw [hk] at g1
        cases g1
        obtain ⟨a, t', h3, h4⟩ := r.2 c (join_some g2.symm)
        refine ⟨a, t', ?_, h4⟩
        unfold subρ
        rw [List.getElem?_map, hk]
        show some (ρ.getD i []) = _
        rw [← ρ_at ok (lt_of_some (join_some g2.symm)), h3]
/-- THE CALL -/
theorem call_go {n : Nat} {f : FnS} {g : At} {γ : Gam} {σ : St} {Q : VK} {X : PX} {Ex : XK} {B : Addr → Prop} {S : Sto} {ρ : List (List Addr)} {H : Hp} {vs : List V} {xs : List Vl} {P : Vl → Sto → Prop} (rep : Rep K mg B γ S ρ σ H) (hl : g.ρ.length = g.S.length) (e : g.to B S ρ H) (rv : RVs K mg B S ρ H vs xs) (hn : vs.length = n)
    (h : (callSem f xs γ S).wp P X) (hP : ∀ x S' v H' B' ρ', P x S' → Rep K mg B' γ S' ρ' σ H' → g.to B' S' ρ' H' → RV K mg B' S' ρ' H' v x → Q v H')
    (hX : ∀ c fs S' cls dd H' B' ρ', X c fs γ S' → Rep K mg B' γ S' ρ' σ H' → g.to B' S' ρ' H' → RX K mg B' H' cls dd c fs → Ex cls dd H') : spOf K mg n f vs H Q Ex := by
  unfold callSem at h
  simp only at h
  split at h
  · rename_i hc
    obtain ⟨nd, lv⟩ := hc
    have ok := rep.st
    refine ⟨hn, B, sub S (pack xs 0).2, subρ ρ (pack xs 0).2, (pack xs 0).1, ok.sub nd, ?_, ?_⟩
    · have := pack_rv ok rv [] (by simpa using lv)
      simpa using this
    · cases q : f (pack xs 0).1 (sub S (pack xs 0).2) with
      | bad => simp only [q] at h; exact h.elim
      | exc c fs γ' S' =>
        simp only [q] at h
        intro cls dd H' B' ρ' ok' e' rx
        obtain ⟨ok2, e2⟩ := ok.back nd lv ok' e'
        exact hX c fs _ cls dd H' B' ρ h (rep.step e2 ok2) (e.trans e2 hl ok.len) rx
      | ok x S' =>
        intro v H' B' ρ' ok' e' rx
        obtain ⟨ok2, e2⟩ := ok.back nd lv ok' e'
        cases x with
        | im d =>
          simp only [q] at h
          exact hP _ _ v H' B' ρ h (rep.step e2 ok2) (e.trans e2 hl ok.len) rx
        | cl j =>
          simp only [q] at h
          by_cases hj : j < (pack xs 0).2.length
          · rw [if_pos hj] at h
            have hk : (pack xs 0).2[j]? = some ((pack xs 0).2.getD j 0) := by rw [List.getD_eq_getElem?_getD, List.getElem?_eq_getElem hj]; rfl
            generalize (pack xs 0).2.getD j 0 = i at h hk
            have hi : i ∈ (pack xs 0).2 := List.mem_of_getElem? hk
            obtain ⟨c0, hc0⟩ := live_at lv hi
            refine hP _ _ v H' B' ρ h (rep.step e2 ok2) (e.trans e2 hl ok.len) ⟨by rw [wb_length]; exact lt_of_some hc0, fun c hc => ?_⟩
            have hlen : (pack xs 0).2.length ≤ S'.length := by
              have := e'.len
              unfold sub at this
              simpa using this
            rw [wb_in _ S S' nd hk (lt_of_some hc0) (by omega)] at hc
            obtain ⟨a, t, h3, h4⟩ := rx.2 c hc
            refine ⟨a, t, ?_, h4⟩
            have h1 : (subρ ρ (pack xs 0).2)[j]? = some (ρ.getD i []) := by unfold subρ; rw [List.getElem?_map, hk]; rfl
            have := e'.pre j _ h1
            rw [h3] at this
            rw [ρ_at ok (lt_of_some hc0), ← Option.some.inj this]
          · rw [if_neg hj] at h
            cases q2 : S'[j]? with
            | none => simp only [q2] at h; exact h.elim
            | some o =>
              cases o with
              | none => simp only [q2] at h; exact h.elim
              | some c =>
                simp only [q2] at h
                obtain ⟨a, t, h3, h4⟩ := rx.2 c q2
                have hnew : ∀ b ∈ (a :: t), H b = none := e'.new j _ c (by unfold sub; simpa using hj) h3 q2
                have old : ∀ b, Foot (wb S (pack xs 0).2 S') ρ b → H b ≠ none := fun b hb => by
                  rcases e2.foot ok.len hb with z | z
                  · exact ok.dom b (ok.ban b z)
                  · intro _
                    rcases hb with ⟨i, fp, c', k1, k2, k3⟩ | hb
                    case inr => exact ok.dom b (ok.ban b (.inr hb)) z
                    by_cases hi : i ∈ (pack xs 0).2
                    · obtain ⟨c0, hc0⟩ := live_at lv hi
                      exact ok.dom b (ok.ban b (.inl ⟨i, fp, c0, k1, hc0, k3⟩)) z
                    · rw [wb_out _ S S' hi] at k2
                      exact ok.dom b (ok.ban b (.inl ⟨i, fp, c', k1, k2, k3⟩)) z
                obtain ⟨ok3, e3⟩ := StOk.more ok2 e2 ok' h3 q2 hnew (wb_length _ _ _) old
                refine hP _ _ v H' B' _ h (rep.step e3 ok3) (e.trans e3 hl ok.len) ⟨by simp [wb_length], fun c' _ => ⟨a, t, ?_, h4⟩⟩
                rw [List.getElem?_append_right (by rw [ok.len]; exact Nat.le_refl _), ok.len]
                simp
  · exact h.elim
/-- f(args) with the defaults dd behind -/
def fCall (f : FnS) (dd : List D) (fa : FA) : F := fun γ S => (fa γ S).bind fun xs S1 => callSem f (xs ++ dd.map Vl.im) γ S1
theorem rvs_app {B : Addr → Prop} {S : Sto} {ρ : List (List Addr)} {H : Hp} {vs ws : List V} {xs ys : List Vl} (r : RVs K mg B S ρ H vs xs) (s : RVs K mg B S ρ H ws ys) : RVs K mg B S ρ H (vs ++ ws) (xs ++ ys) := by
  induction r with
  | nil => exact s
  | cons r _ ih => exact .cons r ih
theorem rvs_ims {B : Addr → Prop} {S : Sto} {ρ : List (List Addr)} {H : Hp} : ∀ {vs : List V} {ds : List D}, RDs K mg B H vs ds → RVs K mg B S ρ H vs (ds.map Vl.im)
  | _, _, .nil => .nil
  | _, _, .cons r t => .cons r (rvs_ims t)
theorem rvs_len {B : Addr → Prop} {S : Sto} {ρ : List (List Addr)} {H : Hp} {vs : List V} {xs : List Vl} (r : RVs K mg B S ρ H vs xs) : vs.length = xs.length := Paired.length r
/-- the number of arguments is checked by the evaluator -/
def arity (n : Nat) (f : FnS) : FnS := fun xs S => if xs.length = n then f xs S else .bad
theorem pack_len : ∀ (xs : List Vl) (k : Nat), (pack xs k).1.length = xs.length
  | [], _ => rfl
  | .im d :: r, k => by show ((pack r k).1.length + 1) = _; rw [pack_len r k]; rfl
  | .cl i :: r, k => by show ((pack r (k + 1)).1.length + 1) = _; rw [pack_len r (k + 1)]; rfl
theorem callSem_arity {n : Nat} {f : FnS} {xs : List Vl} {γ : Gam} {S : Sto} {P : Vl → Sto → Prop} {X : PX} (h : (callSem (arity n f) xs γ S).wp P X) : xs.length = n := by
  unfold callSem at h
  simp only at h
  split at h
  · unfold arity at h
    by_cases hn : (pack xs 0).1.length = n
    · rw [pack_len] at hn; exact hn
    · simp only [if_neg hn] at h; exact h.elim
  · exact h.elim
theorem sim_call {n : Nat} {f : FnS} {dvs : List V} {dd : List D} {t : TA} {fa : FA} (hd : ∀ B H, RDs K mg B H dvs dd) (ha : SimA K mg W t fa) : Sim K mg W (tCallSD (spOf K mg n (arity n f)) dvs (WE W) t) (fCall (arity n f) dd fa) := by
  intro γ σ Q g rep h
  refine ha.go (X := Exv K mg g σ W) rep (fun _ _ _ _ z => z) h fun xs S vs H B ρ rep1 e1 rv hk => ?_
  have rv2 := rvs_app rv (rvs_ims (hd B H))
  refine call_go rep1 rep.st.len e1 rv2 ?_ hk (fun x S' v H' B' ρ' p r e rv => p v H' B' ρ' r e rv) fun c fs S' cls dd H' B' ρ' p r e rx => p cls dd H' B' ρ' r e rx
  rw [rvs_len rv2]
  exact callSem_arity hk
end
end DL
namespace DL
open PySem PySem.Spec L2
open PyProof.Rows hiding St
variable [Tbl]
def startG (n : Nat) (xs : List Vl) : Gam := xs.map some ++ List.replicate (n - xs.length) none
/-- what a def with that body does; n slots -/
def semOf (n : Nat) (body : FS) : FnS := fun xs S => match body (startG n xs) S with
  | .ok (.nx _) S' => .ok (.im .non) S'
  | .ok (.rt x) S' => .ok x S'
  | .exc c fs _ S' => .exc c fs [] S'
  | _ => .bad
abbrev We (E : XK) : WX := fun c d _ H => E c d H
section
variable {K : PySem.W.Frag} {mg : Str → Option Value}
theorem rep_start {B : Addr → Prop} {S : Sto} {ρ : List (List Addr)} {H : Hp} {N : List Str} {vs : List V} {xs : List Vl} (ok : StOk K mg B S ρ H) (r : RVs K mg B S ρ H vs xs) : Rep K mg B (startG N.length xs) S ρ (L2.start N vs) H := by
  have hl := rvs_len r
  refine ⟨ok, fun i x h => ?_, by unfold startG L2.start; simp [hl]⟩
  unfold startG at h
  unfold L2.start
  by_cases hi : i < xs.length
  · rw [List.getElem?_append_left (by simpa using hi), List.getElem?_map] at h
    have aux : ∀ {vs : List V} {xs : List Vl} {i : Nat} {x : Vl}, RVs K mg B S ρ H vs xs → xs[i]? = some x → ∃ v, vs[i]? = some v ∧ RV K mg B S ρ H v x := by
      intro vs xs i x r
      induction r generalizing i with
      | nil => intro h; simp at h
      | cons r _ ih =>
        intro h
        cases i with
        | zero => simp at h; subst h; exact ⟨_, rfl, r⟩
        | succ i => obtain ⟨v, h1, h2⟩ := ih (i := i) (by simpa using h); exact ⟨v, by simpa using h1, h2⟩
    cases q : xs[i]? with
    | none => rw [q] at h; cases h
    | some y =>
      rw [q] at h
      cases h
      obtain ⟨v, h1, h2⟩ := aux r q
      refine ⟨v, ?_, h2⟩
      rw [List.getElem?_append_left (by rw [List.length_map, hl]; exact hi), List.getElem?_map, h1]; rfl
  · rw [List.getElem?_append_right (by simpa using Nat.le_of_not_lt hi), List.getElem?_replicate] at h
    split at h <;> cases h
/-- A DEF by its body -/
theorem fn_ok {P : Program} {w : World} {base : Heap} {x qual : Str} {params : Arguments} {body : List Stmt} {scope : Scope} {dvs : List V} {kws : List (Str × V)} {f : Addr} {fd : FuncData} {N ps : List Str} {k : Nat} {fb : FS} (F : FunD K x qual params body scope dvs kws f fd) (S : FnScope N ps scope)
    (hbody : ∀ (cdv : Value) (A : Around) (outer : List Env) (s : Shared) (H : Hp) (E : XK), Room k (A.deeper (envOfC qual scope s.heap.objs.size f cdv)) → ∃ t, PSs (cxOf (L2.CX P w) P w K mg base N qual scope f cdv A outer s H E) body t ∧ SimS K mg (We E) t fb) :
    FnOk P w K mg base (L2.CX P w) (k + 1) f fd ps (spOf K mg ps.length (arity ps.length (semOf N.length fb))) := by
  refine F.ok S spOf_len fun cdv A outer s H vs Q E hr hsp => ?_
  obtain ⟨t, ht, hs⟩ := hbody cdv A outer s H E hr
  refine ⟨t, ht, ?_⟩
  obtain ⟨hl, B, S, ρ, xs, ok, rv, w⟩ := hsp
  refine hs (startG N.length xs) (L2.start N vs) _ ⟨B, S, ρ, H⟩ (rep_start ok rv) ?_
  unfold arity at w
  split at w
  · unfold semOf at w
    cases q : fb (startG N.length xs) S with
    | bad => simp only [q] at w; exact w.elim
    | exc c fs γ S' =>
      simp only [q] at w
      exact fun cls dd σ' H' B' ρ' rep e rx => w cls dd H' B' ρ' rep.st e rx
    | ok fl S' =>
      cases fl with
      | nx γ => simp only [q] at w; exact fun σ' H' B' ρ' rep e => w .non H' B' ρ' rep.st e .non
      | rt x => simp only [q] at w; exact fun v H' B' ρ' ok' e rv => w v H' B' ρ' ok' e rv
      | bk γ => simp only [q] at w; exact w.elim
      | ct γ => simp only [q] at w; exact w.elim
  · exact w.elim
theorem fn_le {P : Program} {w : World} {base : Heap} {CX : CXT} {k n : Nat} {f : Addr} {fd : FuncData} {ps : List Str} {f1 f2 : FnS} (F : FnOk P w K mg base CX k f fd ps (spOf K mg n f2)) (h : Le f1 f2) : FnOk P w K mg base CX k f fd ps (spOf K mg n f1) := F.imp (spOf_le h)
end
/-- a def that is called: its address, its data, level, parameters, what it does, the defaults that fill up -/
structure Me where
  f : Addr
  fd : FuncData
  k : Nat
  ps : List Str
  sem : FnS
  dvs : List V
  dd : List D
/-- what is known of it in X -/
structure MeOk (X : Cx) (m : Me) : Prop where
  ok : FnOk X.prog X.w X.K X.mg X.base (L2.CX X.prog X.w) m.k m.f m.fd m.ps (spOf X.K X.mg m.ps.length (arity m.ps.length m.sem))
  room : Room (m.k + 1) X.A
  binds : ∃ ds, Binds X.K m.fd m.ps ds ∧ Vals m.dvs ds
  rd : ∀ B H, RDs X.K X.mg B H m.dvs m.dd
  kp : PySem.W.keepIn X.K (.ref m.f) = true
/-- the method m of the class named c -/
structure MtOk (X : Cx) (m : Str) (C : Addr) (me : Me) : Prop extends MeOk X me where
  cls : Cls X.K C
  mt : Meth X.K C m me.f
def tMethF (mg : Str → Option Value) (sp : Me → Sp) (table : Str → Option Me) (m : Str) (E : XK) (ta : TE) (t : TA) : TE := fun σ H Q => ta σ H fun x H1 => ∃ a C dx fs c me, x = .ref a ∧ H1 a = some (.ins C dx fs) ∧ mg c = some (.ref C) ∧ table c = some me ∧ fs.lookup m = none ∧
  t σ H1 fun vs H2 => sp me (x :: (vs ++ me.dvs)) H2 Q E
abbrev spM (K : PySem.W.Frag) (mg : Str → Option Value) : Me → Sp := fun me => spOf K mg me.ps.length (arity me.ps.length me.sem)
section
variable {X : Cx} {m : Str} {E : XK} {o e : Expr} {es : List Expr} {ta : TE} {t : TA} {apos pos : Pos} {table : Str → Option Me}
theorem pe_methF {pl : Sem Bool} (he : PE X o ta) (hT : ∀ c C me, table c = some me → X.mg c = some (.ref C) → MtOk X m C me) (hx : Passes (L2.CX X.prog X.w) X E) (ha : PA X (e :: es) t)
    (hst : starEach (e :: es) X.env = (false, eval e X.env) :: starEach es X.env) (hpl : (backTo pos (starEach es X.env)).any (·.1) = false)
    (ht : eval (.Call (.Attribute o m apos) (e :: es) [] pos) X.env = (do
      let ov ← eval o X.env
      standAt apos.atName
      let (f, first) ← holding [ov] (getMethod ov m pl)
      callWith pos f first (backTo pos (starEach (e :: es) X.env)) (backToKw pos (keywordEach [] X.env)))) :
    PE X (.Call (.Attribute o m apos) (e :: es) [] pos) (tMethF X.mg (spM X.K X.mg) table m E ta t) := by
  refine ⟨fun pins s σ H Q I h => ?_⟩
  refine PySem.W.methodCall_KW (pl := pl) (thn (he.run pins s σ H _ I h) fun u s1 ⟨x, H1, I1, rx, a, C, dx, fs, c, me, ex, ea, hc, hme, l, q⟩ => ?_) ht
  subst ex
  obtain rfl : u = Value.ref a := rx
  have mt := hT c C me hme hc
  refine getmeth_ok I1 ea mt.cls mt.mt l ?_
  refine PySem.W.callWith_K (first := [.ref a]) (h₀ := X.base) I.ok.mod.kin mt.mt.kp (thn (ha.run pos pins s1 σ H1 _ I1 q) fun us s2 ⟨vs, H2, I2, r, q2⟩ => ⟨I2.kIn, ?_⟩) hst hpl
  obtain ⟨ds, hb, hd⟩ := mt.binds
  exact run_fn (us := .ref a :: us) (vs := .ref a :: vs) mt.ok (mt.room.mono (Nat.le_succ _)) hb hd hx I2 (.cons rfl r) q2
theorem pe_methF0 {pl : Sem Bool} (he : PE X o ta) (hT : ∀ c C me, table c = some me → X.mg c = some (.ref C) → MtOk X m C me) (hx : Passes (L2.CX X.prog X.w) X E)
    (ht : eval (.Call (.Attribute o m apos) [] [] pos) X.env = (do
      let ov ← eval o X.env
      standAt apos.atName
      let (f, first) ← holding [ov] (getMethod ov m pl)
      callWith pos f first (backTo pos (starEach [] X.env)) (backToKw pos (keywordEach [] X.env)))) :
    PE X (.Call (.Attribute o m apos) [] [] pos) (tMethF X.mg (spM X.K X.mg) table m E ta tNil) := by
  refine ⟨fun pins s σ H Q I h => ?_⟩
  refine PySem.W.methodCall_KW (pl := pl) (thn (he.run pins s σ H _ I h) fun u s1 ⟨x, H1, I1, rx, a, C, dx, fs, c, me, ex, ea, hc, hme, l, q⟩ => ?_) ht
  subst ex
  obtain rfl : u = Value.ref a := rx
  have mt := hT c C me hme hc
  refine getmeth_ok I1 ea mt.cls mt.mt l ?_
  obtain ⟨ds, hb, hd⟩ := mt.binds
  exact PySem.W.callWith_K0 (first := [.ref a]) I1.kIn mt.mt.kp (run_fn (us := [.ref a]) (vs := [.ref a]) mt.ok (mt.room.mono (Nat.le_succ _)) hb hd hx I1 (.cons rfl .nil) q)
end
/-- the class of an instance, and that it has no attribute m of its own -/
def D.clsNo (m : Str) : D → Option Str
  | .ins c fs => if (fs.lookup m).isNone then some c else none
  | _ => none
def fMeth (m : Str) (table : Str → Option Me) (fo : F) (fa : FA) : F := fun γ S => (fo γ S).bind fun x S1 => match (x.view S1).bind (D.clsNo m) with
  | none => .bad
  | some c => match table c with
    | none => .bad
    | some me => (fa γ S1).bind fun xs S2 => callSem (arity me.ps.length me.sem) (x :: (xs ++ me.dd.map Vl.im)) γ S2
section
variable {K : PySem.W.Frag} {mg : Str → Option Value} {E : XK}
theorem ins_at {B : Addr → Prop} {S : Sto} {ρ : List (List Addr)} {H : Hp} {v : V} {x : Vl} {c : Str} {fs : List (Str × D)} (ok : StOk K mg B S ρ H) (rv : RV K mg B S ρ H v x) (h : x.view S = some (.ins c fs)) : ∃ a C dx fvs, v = .ref a ∧ H a = some (.ins C dx fvs) ∧ mg c = some (.ref C) ∧ RDf K mg B H fvs fs := by
  have rt := rv.rt ok h
  cases rt with
  | of r => cases r with
    | ins h1 b m r => exact ⟨_, _, _, _, rfl, h1, m, r⟩
  | ins h1 m r => exact ⟨_, _, _, _, rfl, h1, m, r⟩
theorem clsNo_inv {m : Str} {d : D} {c : Str} (h : d.clsNo m = some c) : ∃ fs, d = .ins c fs ∧ fs.lookup m = none := by
  cases d <;> simp only [D.clsNo, reduceCtorEq] at h
  split at h
  · rename_i fs hn
    cases h
    exact ⟨fs, rfl, by simpa using hn⟩
  · cases h
theorem sim_meth {m : Str} {table : Str → Option Me} {ta : TE} {t : TA} {fo : F} {fa : FA} (hT : ∀ c me, table c = some me → ∀ B H, RDs K mg B H me.dvs me.dd) (ho : Sim K mg (We E) ta fo) (ha : SimA K mg (We E) t fa) : Sim K mg (We E) (tMethF mg (spM K mg) table m E ta t) (fMeth m table fo fa) := by
  intro γ σ Q g rep h
  refine ho.go (X := Exv K mg g σ (We E)) rep (fun _ _ _ _ z => z) h fun x S v H B ρ rep1 e1 rv hk => ?_
  cases q0 : x.view S with
  | none => simp only [q0, Option.bind_none] at hk; exact hk.elim
  | some d =>
  cases q1 : d.clsNo m with
  | none => simp only [q0, Option.bind_some, q1] at hk; exact hk.elim
  | some c =>
  cases q2 : table c with
  | none => simp only [q0, Option.bind_some, q1, q2] at hk; exact hk.elim
  | some me =>
  simp only [q0, Option.bind_some, q1, q2] at hk
  obtain ⟨fs, rfl, hn⟩ := clsNo_inv q1
  obtain ⟨a, C, dx, fvs, rfl, h1, hm, r⟩ := ins_at rep1.st rv q0
  refine ⟨a, C, dx, fvs, c, me, rfl, h1, hm, q2, r.lookup_none hn, ?_⟩
  refine ha.go (g := ⟨B, S, ρ, H⟩) (X := Exv K mg g σ (We E)) rep1 (fun _ _ _ _ z => z.on rep.st.len rep1.st.len e1) hk fun xs S2 us H2 B2 ρ2 rep2 e2 ru hk2 => ?_
  have rv2 : RVs K mg B2 S2 ρ2 H2 (.ref a :: (us ++ me.dvs)) (x :: (xs ++ me.dd.map Vl.im)) := .cons (rv.mono e2 rep1.st) (rvs_app ru (rvs_ims (hT c me q2 B2 H2)))
  refine call_go (g := g) rep2 rep.st.len (e1.trans e2 rep.st.len rep1.st.len) rv2 ?_ hk2 (fun x S' v H' B' ρ' p r e rv => p v H' B' ρ' r e rv) fun c fs S' cls dd H' B' ρ' p r e rx => p cls dd H' B' ρ' r e rx
  rw [rvs_len rv2]
  exact callSem_arity hk2
theorem sim_meth0 {m : Str} {table : Str → Option Me} {ta : TE} {fo : F} (hT : ∀ c me, table c = some me → ∀ B H, RDs K mg B H me.dvs me.dd) (ho : Sim K mg (We E) ta fo) : Sim K mg (We E) (tMethF mg (spM K mg) table m E ta tNil) (fMeth m table fo fNil) := sim_meth hT ho simA_nil
end
/-- c(args): the new instance as the cell behind all others, then its __init__; i: it becomes data -/
def fMake (c : Str) (f : FnS) (dd : List D) (fa : FA) (i : Bool) : F := fun γ S => (fa γ S).bind fun xs S1 =>
  match callSem f (.cl S1.length :: (xs ++ dd.map Vl.im)) γ (S1 ++ [some (.ins c [])]) with
  | .ok (.im .non) S2 => if i then (match S2[S1.length]? with
      | some (some (.ins c fs)) => .ok (.im (.ins c fs)) (S2.take S1.length)
      | _ => .bad) else .ok (.cl S1.length) S2
  | .exc e fs γ' S2 => .exc e fs γ' (S2.take S1.length)
  | _ => .bad
section
variable {K : PySem.W.Frag} {mg : Str → Option Value} {E : XK}
/-- the last cells are forgotten -/
theorem StOk.trunc {B : Addr → Prop} {S : Sto} {ρ : List (List Addr)} {H : Hp} {B0 : Addr → Prop} {S0 : Sto} {ρ0 : List (List Addr)} {H0 : Hp} (n : Nat) (ok : StOk K mg B S ρ H) (e : Ext B0 S0 ρ0 H0 B S ρ H) (hn : S0.length = n) (hl : ρ0.length = S0.length) :
    StOk K mg B (S.take n) (ρ.take n) H ∧ Ext B0 S0 ρ0 H0 B (S.take n) (ρ.take n) H := by
  have hS := e.len
  have hρ := ok.len
  have lowS : ∀ {i : Nat} {x : Option Cell}, (S.take n)[i]? = some x → i < n ∧ S[i]? = some x := fun {i x} h => by
    have hi := lt_of_some h
    rw [List.length_take] at hi
    exact ⟨by omega, by rw [List.getElem?_take_of_lt (by omega)] at h; exact h⟩
  have lowR : ∀ {i : Nat} {x : List Addr}, (ρ.take n)[i]? = some x → i < n ∧ ρ[i]? = some x := fun {i x} h => by
    have hi := lt_of_some h
    rw [List.length_take] at hi
    exact ⟨by omega, by rw [List.getElem?_take_of_lt (by omega)] at h; exact h⟩
  refine ⟨⟨by rw [List.length_take, List.length_take, hρ], fun i fp c h1 h2 => ok.cell i fp c (lowR h1).2 (lowS h2).2, fun a hz => hz.elim (fun ⟨i, fp, c, h1, h2, h3⟩ => ok.ban a (.inl ⟨i, fp, c, (lowR h1).2, (lowS h2).2, h3⟩)) (fun hz => ok.ban a (.inr hz)), fun i j fp fp' c c' h1 h2 h3 h4 => ok.disj i j fp fp' c c' (lowR h1).2 (lowR h2).2 (lowS h3).2 (lowS h4).2, ok.dom, ok.tabs⟩, ⟨by rw [List.length_take]; omega, fun i fp h => ?_, fun i h => ?_, e.keep, e.ban, fun i fp c hi h1 h2 => ?_, e.dom, e.bdom, e.held⟩⟩
  · rw [List.getElem?_take_of_lt (by have := lt_of_some h; omega)]; exact e.pre i fp h
  · rw [List.getElem?_take_of_lt (by have := lt_of_some h; omega)]; exact e.dead i h
  · have := (lowS h2).1; omega
theorem view_out {B : Addr → Prop} {S : Sto} {ρ : List (List Addr)} {H : Hp} {i : Nat} {a : Addr} {c : Str} {fs : List (Str × D)} (ok : StOk K mg B S ρ H) (hr : ρ[i]? = some [a]) (hs : S[i]? = some (some (.ins c fs))) :
    StOk K mg (fun b => B b ∧ b ≠ a) (S.set i none) ρ H ∧ Ext B S ρ H (fun b => B b ∧ b ≠ a) (S.set i none) ρ H ∧ RD K mg (fun b => B b ∧ b ≠ a) H (.ref a) (.ins c fs) := by
  obtain ⟨ok2, e2, gr⟩ := out_cell (H' := H) ok hr hs (fun _ _ => rfl) (ok.dom a (ok.ban a (.inl ⟨i, [a], _, hr, hs, by simp⟩)))
  obtain ⟨C, dx, fvs, m, h2, r⟩ := ok.cell i _ _ hr hs
  exact ⟨ok2, e2, .ins h2 (fun z => z.2 rfl) m (r.mono gr)⟩
def tMakeD (C : Addr) (sp : Sp) (dvs : List V) (E : XK) (t : TA) : TE := tMake C sp dvs E t
theorem sim_make {c : Str} {C : Addr} {n : Nat} {f : FnS} {dvs : List V} {dd : List D} {t : TA} {fa : FA} {i : Bool} (hm : mg c = some (.ref C)) (hd : ∀ B H, RDs K mg B H dvs dd) (ha : SimA K mg (We E) t fa) : Sim K mg (We E) (tMake C (spOf K mg n (arity n f)) dvs E t) (fMake c (arity n f) dd fa i) := by
  intro γ σ Q g rep h
  refine ha.go (X := Exv K mg g σ (We E)) rep (fun _ _ _ _ z => z) h fun xs S vs H B ρ rep1 e1 rv hk => ?_
  intro x dx hx hdx hne
  -- the instance's own dict
  have gr0 : Grow H (upd H dx (.own x)) := Grow.upd hdx
  have ok0 := rep1.st.grow gr0
  have ex0 := Ext.grow rep1.st gr0
  have hx0 : (upd H dx (.own x)) x = none := by rw [upd_ne (Ne.symm hne)]; exact hx
  obtain ⟨ok1, ex1⟩ := new_cell (c := .ins c []) (o := .ins C dx []) ok0 hx0 ⟨C, dx, [], hm, upd_same, .nil⟩
  have ex01 := ex0.trans ex1 rep1.st.len ok0.len
  have rep2 := rep1.step ex01 ok1
  have e2 := e1.trans ex01 rep.st.len rep1.st.len
  have hlS : S.length = ρ.length := rep1.st.len.symm
  have rself : RV K mg (fun a => B a ∨ a = x) (S ++ [some (.ins c [])]) (ρ ++ [[x]]) (upd (upd H dx (.own x)) x (.ins C dx [])) (.ref x) (.cl S.length) := ⟨by simp, fun d _ => ⟨x, [], by rw [List.getElem?_append_right (by omega), hlS]; simp, rfl⟩⟩
  have rv2 : RVs K mg (fun a => B a ∨ a = x) (S ++ [some (.ins c [])]) (ρ ++ [[x]]) (upd (upd H dx (.own x)) x (.ins C dx [])) (.ref x :: (vs ++ dvs)) (.cl S.length :: (xs ++ dd.map Vl.im)) := .cons rself (rvs_app (RVs.mono ex01 rep1.st rv) (rvs_ims (hd _ _)))
  -- the call
  have key : (callSem (arity n f) (.cl S.length :: (xs ++ dd.map Vl.im)) γ (S ++ [some (.ins c [])])).wp (fun y S2 => y = .im .non ∧ (if i = true then (match S2[S.length]? with
      | some (some (.ins c fs)) => (.ok (.im (.ins c fs)) (S2.take S.length) : R Vl)
      | _ => .bad) else .ok (.cl S.length) S2).wp (Okv K mg g γ σ Q) (Exv K mg g σ (We E))) (fun e fs γ' S2 => Exv K mg g σ (We E) e fs γ' (S2.take S.length)) := by
    cases q : callSem (arity n f) (.cl S.length :: (xs ++ dd.map Vl.im)) γ (S ++ [some (.ins c [])]) with
    | bad => simp only [q] at hk; exact hk.elim
    | exc e fs γ' S2 => simp only [q] at hk; exact hk
    | ok y S2 =>
      cases y with
      | cl j => simp only [q] at hk; exact hk.elim
      | im d =>
        cases d with
        | non => simp only [q] at hk; exact ⟨rfl, hk⟩
        | _ => simp only [q] at hk; exact hk.elim
  have harity : (Vl.cl S.length :: (xs ++ dd.map Vl.im)).length = n := callSem_arity key
  have hS1 : (S ++ [some (Cell.ins c [])]).length = S.length + 1 := by simp
  have hl1 : (ρ ++ [[x]]).length = (S ++ [some (Cell.ins c [])]).length := ok1.len
  refine call_go (g := ⟨fun a => B a ∨ a = x, S ++ [some (.ins c [])], ρ ++ [[x]], upd (upd H dx (.own x)) x (.ins C dx [])⟩) rep2 hl1 (Ext.refl ok1) rv2 (by rw [rvs_len rv2]; exact harity) key (fun y S2 v H' B' ρ' p r e rv => ?_) fun e fs S2 cls dd' H' B' ρ' p r e' rx => ?_
  · obtain ⟨rfl, p⟩ := p
    refine ⟨by cases rv; rfl, ?_⟩
    have self' : ρ'[S.length]? = some [x] := e.pre S.length [x] (by rw [List.getElem?_append_right (by omega), hlS]; simp)
    have e3 : Ext B S ρ H B' S2 ρ' H' := ex01.trans e rep1.st.len ok1.len
    by_cases hi : i = true
    · rw [if_pos hi] at p
      cases q : S2[S.length]? with
      | none => simp only [q] at p; exact p.elim
      | some o =>
        cases o with
        | none => simp only [q] at p; exact p.elim
        | some d =>
          cases d with
          | lst _ => simp only [q] at p; exact p.elim
          | dct _ _ => simp only [q] at p; exact p.elim
          | ins c' fs =>
          simp only [q] at p
          obtain ⟨ok4, ex4, rd⟩ := view_out r.st self' q
          obtain ⟨ok5, ex5⟩ := StOk.trunc S.length ok4 (e3.trans ex4 rep1.st.len r.st.len) rfl rep1.st.len
          rw [List.take_set_of_le (Nat.le_refl _)] at ok5 ex5
          exact p (.ref x) H' _ _ (rep1.step ex5 ok5) (e1.trans ex5 rep.st.len rep1.st.len) rd
    · rw [if_neg hi] at p
      exact p (.ref x) H' B' ρ' (rep1.step e3 r.st) (e1.trans e3 rep.st.len rep1.st.len) ⟨lt_of_some (show S2[S.length]? = some (S2[S.length]'(by have h9 : (S ++ [some (Cell.ins c [])]).length ≤ S2.length := e.len; omega)) from List.getElem?_eq_getElem _), fun d _ => ⟨x, [], self', rfl⟩⟩
  · have e3 : Ext B S ρ H B' S2 ρ' H' := ex01.trans e' rep1.st.len ok1.len
    obtain ⟨ok5, ex5⟩ := StOk.trunc S.length r.st e3 rfl rep1.st.len
    exact p cls dd' H' _ _ (rep1.step ex5 ok5) (e1.trans ex5 rep.st.len rep1.st.len) rx
end
end DL
namespace PySem.W
open PySem PySem.Calls PyProof.Rows Builtin
section
variable {prog : Program} {w : World} {A : Around} {E : Value → Shared → Prop} {s : Shared} {K : Frag} {x C L f : Addr} {h₀ : Heap} {m : Str → Option Value} {ox : Obj} {od : Option Obj} {b tb : Value}
theorem dl_ne_bind (self : Value) : bindSpecial (.builtin "object.__ne__") self = pure (.builtin "object.__ne__", [self]) :=
  (Slot.of (T := "object") (name := "__ne__") (owner := "object") (n := "__ne__") (by rw [typeLookup_type, builtinLookup_eq_fast]; kernel_rfl) (by decide +kernel) (by decide +kernel) (by decide +kernel)
    (.inl (by decide +kernel)) (by rw [isSubtype_type]; kernel_rfl)).bind self
theorem dl_ne_plain : plainId "object.__ne__" = true := 
  (Slot.of (T := "object") (name := "__ne__") (owner := "object") (n := "__ne__") (by rw [typeLookup_type, builtinLookup_eq_fast]; kernel_rfl) (by decide +kernel) (by decide +kernel) (by decide +kernel)
    (.inl (by decide +kernel)) (by rw [isSubtype_type]; kernel_rfl)).plain
/-- x != b by an own __eq__ -/
theorem dl_ne_K {Q : Value → Shared → Prop} (hu : A.units + 1 < cLine) (Fr0 : Fr h₀ L s.heap m) (X₀ : K.In h₀) (I : InstAt s.heap x ox C od) (hb : Looks (model prog w) s.heap (typeOf b) tb) (hn : notFirst K C tb = true)
    (hne : findIn K (.ref C) "__ne__" = some (some (.builtin "object.__ne__"))) (hob : subIn K (.ref C) (.type "object") = some true)
    (hs : findIn K (.ref C) "__eq__" = some (some (.ref f))) (hf : isFn K (.ref f) = true)
    (h : wpAny (model prog w) A.in1 (call (.ref f) [.ref x, b]) (fun v s' => ∃ c, v = .bool c ∧ Q (.bool (!c)) s') E s) : wpAny (model prog w) A (richCompare .NotEq (.ref x) b) Q E s := by
  have X := X₀.keeps Fr0.keep
  have body : wpAny (model prog w) A.in1 (Builtin.«object.__ne__» ⟨[.ref x, b], []⟩) (fun fin s' => ∃ v, fin = .done (.ret v) ∧ (∃ c, v = .bool c ∧ Q (.bool c) s')) E s := by
    unfold Builtin.«object.__ne__»
    repeat (first
      | with_reducible refine wpAny_cRoomFor hu ?_
      | (refine wpAny_bind (m := callSpecialIfBound? (.ref x) (Str.ofString "__eq__") [b])
          (ifBound_K X I hs hf (wpAny_mono h (fun r s' hr => by
            obtain ⟨c, rfl, hq⟩ := hr
            have fin : ∃ v, (Fin.done (.ret (.bool (!c))) : Fin) = .done (.ret v) ∧ (∃ c, v = .bool c ∧ Q (.bool c) s') := ⟨_, rfl, _, rfl, hq⟩
            repeat (first | exact fin | exact wpAny_pure fin | exact wpAny_truthy_bool fin | (refine wpAny_bind (m := truthy (.bool _)) (wpAny_truthy_bool ?_)) | wp_step)) fun _ _ e => e)))
      | wp_step)
  have hi : Looks (model prog w) s.heap (isInstance (.ref x) (.type "object")) true := I.type.andThen (looks_subIn X hob)
  have hc : wpAny (model prog w) A (call (.builtin "object.__ne__") [.ref x, b]) (fun v s' => ∃ c, v = .bool c ∧ Q (.bool c) s') E s := by
    refine wpAny_call (codeAny_call_builtin dl_ne_plain F.cmpEntry_ne ?_)
    refine check_slot F.cmpKind_ne F.cmpSplit_ne hi (F.cmpArgs_ne _ _) (wpAny_mono body (fun fin s' z => ?_) fun _ _ z => z)
    obtain ⟨v, rfl, hv⟩ := z
    exact hv
  have two : wpAny (model prog w) A (callSpecialIfBound? (.ref x) "__ne__" [b]) (fun r s' => ∃ c, r = some (.bool c) ∧ Q (.bool c) s') E s := by
    simp only [callSpecialIfBound?, bindSpecialIfBound?]
    have fin : wpAny (model prog w) A (call (.builtin "object.__ne__") ([.ref x] ++ [b]) >>= fun v => pure (some v)) (fun r s' => ∃ c, r = some (.bool c) ∧ Q (.bool c) s') E s := by
      refine wpAny_bind (wpAny_mono hc (fun v s' h' => wpAny_pure ?_) fun _ _ h' => h')
      obtain ⟨c, rfl, hq⟩ := h'
      exact ⟨c, rfl, hq⟩
    refine wpAny_holding (wpAny_bind (wpAny_bind (wpAny_bind (I.type.here ((looks_findIn X hne).here ?_)))))
    refine wpAny_bind (wpAny_askSetting (wpAny_ite ?_))
    rw [dl_ne_bind]
    split
    · exact wpAny_bind (wpAny_pure (wpAny_pure (by exact fin)))
    · exact wpAny_tryCatch (wpAny_bind (wpAny_pure (wpAny_pure (by exact fin))))
  have one : wpAny (model prog w) A (tryCompare (.ref x) "__ne__" b) (fun r s' => ∃ v, r = some v ∧ Q v s') E s := by
    unfold tryCompare
    refine wpAny_bind (wpAny_mono two (fun r s' h' => ?_) fun _ _ h' => h')
    obtain ⟨c, rfl, hq⟩ := h'
    exact wpAny_pure ⟨_, rfl, hq⟩
  unfold richCompare
  simp only [oneThing_ref]
  refine wpAny_holding (wpAny_bind (wpAny_cRoomFor (Nat.lt_of_succ_lt hu) ?_))
  refine wpAny_bind (I.type.here (wpAny_bind (hb.here ?_)))
  split
  · rename_i q
    have e : subIn K tb (.ref C) = some false := by
      rcases Bool.or_eq_true_iff.mp hn with e | e
      · rw [beq_iff_eq.mp e] at q; simp at q
      · exact beq_iff_eq.mp e
    refine wpAny_bind ((looks_subIn X e).here ?_)
    simp only [Bool.false_eq_true, if_false]
    refine wpAny_bind (wpAny_mono one (fun r s' z => ?_) fun _ _ e => e)
    obtain ⟨v, rfl, hq⟩ := z
    exact wpAny_pure hq
  · refine wpAny_bind (wpAny_pure ?_)
    simp only [Bool.false_eq_true, if_false]
    refine wpAny_bind (wpAny_mono one (fun r s' z => ?_) fun _ _ e => e)
    obtain ⟨v, rfl, hq⟩ := z
    exact wpAny_pure hq
/-- x op b by an own method, b of a built-in type that has no such slot -/
theorem dl_binop_K {op : Operator} {n : String} {Q : Value → Shared → Prop} (Fr0 : Fr h₀ L s.heap m) (X₀ : K.In h₀) (I : InstAt s.heap x ox C od) (hb : Looks (model prog w) s.heap (typeOf b) (.type n)) (hc : selfFirst K C = true)
    (hr : fillsNumberSlot (.type n) op.info.2 = pure false)
    (hs : findIn K (.ref C) (PySem.dunder op.info.2) = some (some (.ref f))) (hf : isFn K (.ref f) = true)
    (h : wpAny (model prog w) A (call (.ref f) [.ref x, b]) (CmpBack Q) E s) : wpAny (model prog w) A (binaryOp op (.ref x) b) Q E s := by
  have X := X₀.keeps Fr0.keep
  obtain ⟨cd, hcd, hm⟩ := any_some hc
  obtain ⟨rest, hm⟩ : ∃ rest, cd.mro = .ref C :: rest := by
    cases q : cd.mro with
    | nil => rw [q] at hm; cases hm
    | cons a r => rw [q] at hm; exact ⟨r, by rw [List.head?_cons] at hm; cases (beq_iff_eq.mp hm); rfl⟩
  unfold binaryOp
  refine wpAny_holding (wpAny_bind ?_)
  unfold binaryOp1
  refine wpAny_bind (I.type.here (wpAny_bind (hb.here (wpAny_bind ((fills_K X hcd hm hs).here ?_)))))
  rw [show (Value.ref C == Value.type n) = false from by simp]
  simp only [Bool.false_eq_true, if_false]
  refine wpAny_bind (m := fillsNumberSlot (.type n) op.info.2) ?_
  rw [hr]
  refine wpAny_pure ?_
  simp only [Bool.and_false, Bool.false_eq_true, if_false, Bool.false_and]
  refine wpAny_bind (wpAny_pure ?_)
  simp only [Bool.false_eq_true, if_false]
  refine wpAny_bind (m := tryMethod (.ref x) _ b) ?_
  unfold tryMethod
  refine wpAny_bind (special_fn X I hs (beq_iff_eq.mp hf) (wpAny_mono h (fun v s' hv => ?_) fun _ _ e => e))
  cases v <;> first | exact hv.elim | exact wpAny_pure (wpAny_pure (wpAny_pure hv))
end
end PySem.W
namespace DL
open PySem PySem.Spec L2
open PyProof.Rows hiding St
variable [Tbl]
def tyD (mg : Str → Option Value) : D → Option Value
  | .non => some (.type "NoneType")
  | .bl _ => some (.type "bool")
  | .int _ => some (.type "int")
  | .str _ => some (.type "str")
  | .tup _ => some (.type "tuple")
  | .lst _ | .scr _ => some (.type "list")
  | .dct _ _ => some (.type "dict")
  | .ins c _ => mg c
structure ClsK (K : PySem.W.Frag) (C : Addr) : Prop extends Cls K C where
  ha : PySem.W.findIn K (.ref C) "__class__" = some (some (.builtin "object.__class__"))
  hn : PySem.W.specialIn K (.builtin "object.__class__") "__get__" = some (some (.builtin "getset_descriptor.__get__"))
  htk : PySem.W.takesIn K (.builtin "object.__class__") = some true
  hm : PySem.W.mroIn K C (.type "object") = some true
/-- known classes -/
def ClsT (K : PySem.W.Frag) (mg : Str → Option Value) (cs : Str → Bool) : Prop := ∀ c v, cs c = true → mg c = some v → ∃ C, v = .ref C ∧ ClsK K C
def D.known (cs : Str → Bool) : D → Bool
  | .ins c _ => cs c
  | _ => true
section
variable {X : Cx} {pins : List (Addr × Obj)} {σ : St} {H : Hp} {s : Shared} {cs : Str → Bool} {B : Addr → Prop} {v : V} {u t : Value} {d : D}
theorem kit_rt (hc : ClsT X.K X.mg cs) (I : Inv X pins σ H s) (r : RT X.K X.mg B H v d) (rx : RelV v u) (ht : tyD X.mg d = some t) (hk : d.known cs = true) : ∃ P : Heap → Prop, PySem.W.KitX X.K u t P ∧ P s.heap ∧ u ≠ .builtin "__main__.__loader__#opaque" := by
  have dk : ∀ {a : Addr} {kvs : List (Key × V)}, Rd H a (.dK kvs) → RelV (.ref a) u → ∃ P : Heap → Prop, PySem.W.KitX X.K u (.type "dict") P ∧ P s.heap ∧ u ≠ .builtin "__main__.__loader__#opaque" := fun {a kvs} h rx => by
    rcases h with h | ⟨o, h⟩
    · exact kit_of I rx (.base (.dK h))
    · exact kit_of I rx (.fDict h)
  have dt : ∀ {a : Addr} {kvs : List (List Key × V)}, Rd H a (.dT kvs) → RelV (.ref a) u → ∃ P : Heap → Prop, PySem.W.KitX X.K u (.type "dict") P ∧ P s.heap ∧ u ≠ .builtin "__main__.__loader__#opaque" := fun {a kvs} h rx => by
    cases (show u = Value.ref a from rx)
    obtain ⟨_, _, xs, _, o, es, ep, h1, h2, _⟩ := (show ObjOk X.prog X.w H s.heap a (.dT kvs) from h.ok I.hok)
    exact ⟨_, PySem.W.kitx_dict, ⟨o, h1, h2.1⟩, fun z => nomatch z⟩
  have di : ∀ {a C dx : Addr} {fvs : List (Str × V)} {c : Str}, H a = some (.ins C dx fvs) → cs c = true → X.mg c = some (.ref C) → RelV (.ref a) u → ∃ P : Heap → Prop, PySem.W.KitX X.K u (.ref C) P ∧ P s.heap ∧ u ≠ .builtin "__main__.__loader__#opaque" := fun {a C dx fvs c} h hk m rx => by
    obtain ⟨C', e, k⟩ := hc c _ hk m
    cases e
    exact kit_of I rx (.base (.ins h k.toCls k.ha k.hn k.htk k.hm))
  cases r with
  | of r => cases r with
    | non => cases ht; exact kit_of I rx (.base .non)
    | bl b => cases ht; exact kit_of I rx (.base (.bl b))
    | int i => cases ht; exact kit_of I rx (.base (.int i))
    | str x _ => cases ht; exact kit_of I rx (.base (.str x))
    | tup h _ _ => cases ht; exact kit_of I rx (.base (.tup h))
    | wtup w => obtain ⟨o, its, n, h1, h2, _⟩ := w; cases ht; exact kit_of I rx (.kTuple h1 h2)
    | lst h _ _ => cases ht; exact kit_of I rx (.base (.lst h))
    | dK h _ _ => cases ht; exact dk (.inr ⟨_, h⟩) rx
    | dT h _ _ => cases ht; exact dt (.inr ⟨_, h⟩) rx
    | ins h _ m _ => rw [show tyD X.mg (.ins _ _) = X.mg _ from rfl, m] at ht; cases ht; exact di h hk m rx
    | scr h =>
      cases ht
      rcases h with ⟨h | ⟨o, h⟩, _⟩ | ⟨o, its, n, h1, h2, _⟩
      · exact kit_of I rx (.base (.lst h))
      · exact kit_of I rx (.base (.frz h))
      · exact kit_of I rx (.kList h1 h2)
  | lst h _ => cases ht; exact kit_of I rx (.base (.lst h))
  | dK h _ => cases ht; exact dk h rx
  | dT h _ => cases ht; exact dt h rx
  | ins h m _ => rw [show tyD X.mg (.ins _ _) = X.mg _ from rfl, m] at ht; cases ht; exact di h hk m rx
end
theorem run_at {X : Cx} {me : Me} {E : XK} {A : Around} {pins : List (Addr × Obj)} {σ : St} {H : Hp} {s : Shared} {Q : VK} {us : List Value} {vs : List V} (m : MeOk X me) (hr : Room me.k A) (hf : A.frames = X.A.frames) (hx : Passes (L2.CX X.prog X.w) X E) (I : Inv X pins σ H s) (r : Vals vs us)
    (h : spM X.K X.mg me (vs ++ me.dvs) H Q E) : wpAny (model X.prog X.w) A (call (.ref me.f) us) (EP X pins σ Q) X.xe s := by
  obtain ⟨ds, hb, hd⟩ := m.binds
  have r2 : Vals (vs ++ me.dvs) (us ++ ds) := r.append hd
  have hl : (us ++ ds).length = me.ps.length := by rw [← r2.length]; exact m.ok.len _ _ _ _ h
  have e0 : Env0 X.prog X.w X.K X.mg X.base A X.stack s H := by
    have e := I.env0
    exact ⟨by rw [hf]; exact e.frames, e.mod, e.bs, e.bsz, e.funs, e.frf, e.hok, e.bare⟩
  refine wpAny_call (codeAny_mono (m.ok.run A X.stack s H ⟨us, []⟩ (us ++ ds) (vs ++ me.dvs) Q E hr e0 (hb s us I.kIn hl) r2 h) fun r s' hq => ?_)
  cases r with
  | error e => exact hx pins σ H s e s' I hq
  | ok fl =>
    cases fl with
    | ret u => exact I.after hq
    | next => exact False.elim hq
    | brk => exact False.elim hq
    | cont => exact False.elim hq
/-- .. the own method m of the class at C -/
structure SpOk (X : Cx) (m : Str) (C : Addr) (me : Me) : Prop extends MeOk X me where
  find : PySem.W.findIn X.K (.ref C) m = some (some (.ref me.f))
  isfn : PySem.W.isFn X.K (.ref me.f) = true
abbrev MTab := Str → Option Me
def SpT (X : Cx) (m : Str) (tab : MTab) : Prop := ∀ c C me, tab c = some me → X.mg c = some (.ref C) → SpOk X m C me
/-- x is an instance whose class has an own method in the table -/
def OwnAt (mg : Str → Option Value) (tab : MTab) (H : Hp) (x : V) (C : Addr) (me : Me) : Prop := ∃ a dx fs c, x = .ref a ∧ H a = some (.ins C dx fs) ∧ mg c = some (.ref C) ∧ tab c = some me
section
variable {X : Cx} {tab : MTab} {E : XK} {cs : Str → Bool}
theorem OwnAt.inst {pins : List (Addr × Obj)} {σ : St} {H : Hp} {s : Shared} {x : V} {u : Value} {C : Addr} {me : Me} {m : Str} (o : OwnAt X.mg tab H x C me) (hT : SpT X m tab) (I : Inv X pins σ H s) (r : RelV x u) : ∃ a ox od, x = .ref a ∧ u = .ref a ∧ PySem.W.InstAt s.heap a ox C od ∧ SpOk X m C me := by
  obtain ⟨a, dx, fs, c, rfl, h1, h2, h3⟩ := o
  obtain ⟨mA, J, _⟩ := ins_get I.hok h1
  obtain ⟨od, J, _⟩ := J.look
  exact ⟨a, _, _, rfl, r, J, hT c C me h3 h2⟩
/-- the post of a call that gives a truth value -/
def blPost (f : Bool → Bool) (Q : VK) : VK := fun v H => ∃ b, v = .bl b ∧ Q (.bl (f b)) H
theorem ep_bl {pins : List (Addr × Obj)} {σ : St} {f : Bool → Bool} {Q : VK} {u : Value} {s : Shared} (h : EP X pins σ (blPost f Q) u s) : ∃ b, u = .bool b ∧ EP X pins σ Q (.bool (f b)) s := by
  obtain ⟨v, H', I', rv, b, rfl, q⟩ := h
  cases rv
  exact ⟨b, rfl, .bl (f b), H', I', rfl, q⟩
theorem ep_cmp {pins : List (Addr × Obj)} {σ : St} {Q : VK} {u : Value} {s : Shared} (h : EP X pins σ Q u s) : PySem.W.CmpBack (EP X pins σ Q) u s := by
  obtain ⟨v, H', I', rv, q⟩ := id h
  cases u with
  | notImplemented => cases v <;> simp [L2.RelV] at rv
  | _ => exact h
/-- x == y -/
def rOwnEq (K : PySem.W.Frag) (mg : Str → Option Value) (tab : MTab) (cs : Str → Bool) (E : XK) : R2 := fun x y H Q => ∃ C me B d t, OwnAt mg tab H x C me ∧ RT K mg B H y d ∧ d.known cs = true ∧ tyD mg d = some t ∧ PySem.W.notFirst K C t = true ∧ spM K mg me ([x, y] ++ me.dvs) H Q E
theorem op_ownEq (hT : SpT X "__eq__" tab) (hc : ClsT X.K X.mg cs) (hx : Passes (L2.CX X.prog X.w) X E) : OpR X (compareOp .Eq) (rOwnEq X.K X.mg tab cs E) := by
  intro pins s σ H x y v u Q I rx ry ⟨C, me, B, d, t, o, rt, hk, ht, nf, h⟩
  obtain ⟨a, ox, od, rfl, rfl, J, m⟩ := o.inst hT I rx
  obtain ⟨P, Z, p, _⟩ := kit_rt hc I rt ry ht hk
  obtain ⟨m0, hF⟩ := I.fr
  have hr := m.room
  refine PySem.W.cmp_K (op := .Eq) (tb := t) hr.units0 hF I.ok.mod.kin J (Z.ty _ _ I.kIn p) nf m.find m.isfn ?_
  exact wpAny_mono (run_at (us := [.ref a, u]) m.toMeOk (hr.mono (Nat.le_succ _)) rfl hx I (.cons rx (.cons ry .nil)) h) (fun _ _ z => ep_cmp z) fun _ _ z => z
/-- x != y by __eq__ -/
def rOwnNe (K : PySem.W.Frag) (mg : Str → Option Value) (tab : MTab) (cs : Str → Bool) (E : XK) : R2 := fun x y H Q => ∃ C me B d t, OwnAt mg tab H x C me ∧ RT K mg B H y d ∧ d.known cs = true ∧ tyD mg d = some t ∧ PySem.W.notFirst K C t = true ∧ PySem.W.findIn K (.ref C) "__ne__" = some (some (.builtin "object.__ne__")) ∧ PySem.W.subIn K (.ref C) (.type "object") = some true ∧ spM K mg me ([x, y] ++ me.dvs) H (blPost (fun b => !b) Q) E
theorem op_ownNe (hT : SpT X "__eq__" tab) (hc : ClsT X.K X.mg cs) (hx : Passes (L2.CX X.prog X.w) X E) : OpR X (compareOp .NotEq) (rOwnNe X.K X.mg tab cs E) := by
  intro pins s σ H x y v u Q I rx ry ⟨C, me, B, d, t, o, rt, hk, ht, nf, hne, hob, h⟩
  obtain ⟨a, ox, od, rfl, rfl, J, m⟩ := o.inst hT I rx
  obtain ⟨P, Z, p, _⟩ := kit_rt hc I rt ry ht hk
  obtain ⟨m0, hF⟩ := I.fr
  have hr := m.room
  refine PySem.W.dl_ne_K (tb := t) (by have := hr.un; omega) hF I.ok.mod.kin J (Z.ty _ _ I.kIn p) nf hne hob m.find m.isfn ?_
  exact wpAny_mono (run_at (us := [.ref a, u]) m.toMeOk hr.in1 rfl hx I (.cons rx (.cons ry .nil)) h) (fun _ _ z => ep_bl z) fun _ _ z => z
/-- y in x; f: not -/
def rOwnIn (K : PySem.W.Frag) (mg : Str → Option Value) (tab : MTab) (f : Bool → Bool) (E : XK) : R2 := fun y x H Q => ∃ C me, OwnAt mg tab H x C me ∧ spM K mg me ([x, y] ++ me.dvs) H (blPost f Q) E
theorem op_ownIn (hT : SpT X "__contains__" tab) (hx : Passes (L2.CX X.prog X.w) X E) : OpR X (compareOp .In) (rOwnIn X.K X.mg tab id E) := by
  intro pins s σ H y x u v Q I ry rx ⟨C, me, o, h⟩
  obtain ⟨a, ox, od, rfl, rfl, J, m⟩ := o.inst hT I rx
  obtain ⟨m0, hF⟩ := I.fr
  have hr := m.room
  refine PySem.W.in_K hF I.ok.mod.kin J m.find m.isfn ?_
  refine wpAny_mono (run_at (us := [.ref a, u]) m.toMeOk (hr.mono (Nat.le_succ _)) rfl hx I (.cons rx (.cons ry .nil)) h) (fun _ _ z => ?_) fun _ _ z => z
  obtain ⟨b, rfl, z1⟩ := ep_bl (f := id) (Q := Q) z
  exact wpAny_truthy_bool z1
theorem op_ownNotIn (hT : SpT X "__contains__" tab) (hx : Passes (L2.CX X.prog X.w) X E) : OpR X (compareOp .NotIn) (rOwnIn X.K X.mg tab (fun b => !b) E) := by
  intro pins s σ H y x u v Q I ry rx ⟨C, me, o, h⟩
  obtain ⟨a, ox, od, rfl, rfl, J, m⟩ := o.inst hT I rx
  obtain ⟨m0, hF⟩ := I.fr
  have hr := m.room
  refine PySem.W.notIn_K hF I.ok.mod.kin J m.find m.isfn ?_
  refine wpAny_mono (run_at (us := [.ref a, u]) m.toMeOk (hr.mono (Nat.le_succ _)) rfl hx I (.cons rx (.cons ry .nil)) h) (fun _ _ z => ?_) fun _ _ z => z
  obtain ⟨b, rfl, z1⟩ := ep_bl (f := fun b => !b) (Q := Q) z
  exact wpAny_truthy_bool z1
/-- x op y, y of the same class or of a built-in type without that slot -/
def rOwnBin (K : PySem.W.Frag) (mg : Str → Option Value) (tab : MTab) (cs : Str → Bool) (op : Operator) (E : XK) : R2 := fun x y H Q => ∃ C me B d t, OwnAt mg tab H x C me ∧ RT K mg B H y d ∧ d.known cs = true ∧ tyD mg d = some t ∧ PySem.W.selfFirst K C = true ∧ (t = .ref C ∨ ∃ n, t = .type n ∧ fillsNumberSlot (.type n) op.info.2 = pure false) ∧ spM K mg me ([x, y] ++ me.dvs) H Q E
theorem op_ownBin {op : Operator} (hT : SpT X (PySem.dunder op.info.2) tab) (hc : ClsT X.K X.mg cs) (hx : Passes (L2.CX X.prog X.w) X E) : OpR X (binaryOp op) (rOwnBin X.K X.mg tab cs op E) := by
  intro pins s σ H x y v u Q I rx ry ⟨C, me, B, d, t, o, rt, hk, ht, sf, hh, h⟩
  obtain ⟨a, ox, od, rfl, rfl, J, m⟩ := o.inst hT I rx
  obtain ⟨P, Z, p, _⟩ := kit_rt hc I rt ry ht hk
  obtain ⟨m0, hF⟩ := I.fr
  have hr := m.room
  have go : wpAny (model X.prog X.w) X.A (call (.ref me.f) [.ref a, u]) (PySem.W.CmpBack (EP X pins σ Q)) X.xe s := wpAny_mono (run_at (us := [.ref a, u]) m.toMeOk (hr.mono (Nat.le_succ _)) rfl hx I (.cons rx (.cons ry .nil)) h) (fun _ _ z => ep_cmp z) fun _ _ z => z
  rcases hh with rfl | ⟨n, rfl, hn⟩
  · exact PySem.W.binop_K hF I.ok.mod.kin J (Z.ty _ _ I.kIn p) sf m.find m.isfn go
  · exact PySem.W.dl_binop_K hF I.ok.mod.kin J (Z.ty _ _ I.kIn p) sf hn m.find m.isfn go
/-- len(x) -/
def lenPost (Q : VK) : VK := fun v H => ∃ n : Int, v = .int n ∧ 0 ≤ n ∧ n < 2 ^ 63 ∧ Q (.int n) H
def rOwnLen (K : PySem.W.Frag) (mg : Str → Option Value) (tab : MTab) (E : XK) : List V → Hp → VK → Prop := fun xs H Q => ∃ C me x, xs = [x] ∧ OwnAt mg tab H x C me ∧ spM K mg me ([x] ++ me.dvs) H (lenPost Q) E
theorem cr_ownLen (hT : SpT X "__len__" tab) (hx : Passes (L2.CX X.prog X.w) X E) : CallR X (.builtin "len") (rOwnLen X.K X.mg tab E) := by
  intro pins s σ H xs us Q I r ⟨C, me, x, e, o, h⟩
  subst e
  cases r with
  | cons rx r =>
  cases r
  obtain ⟨a, ox, od, rfl, rfl, J, m⟩ := o.inst hT I rx
  obtain ⟨m0, hF⟩ := I.fr
  have hr := m.room
  refine PySem.W.len_K hF I.ok.mod.kin J m.find m.isfn ?_
  refine wpAny_mono (run_at (us := [.ref a]) m.toMeOk hr.in1 rfl hx I (.cons rx .nil) h) (fun u s' z => ?_) fun _ _ z => z
  obtain ⟨v, H', I', rv, n, rfl, h0, h1, q⟩ := z
  obtain ⟨t, rfl⟩ := (show ∃ t, u = Value.int n t from rv)
  exact ⟨⟨h0, h1⟩, .int n, H', I'.tok _, ⟨_, rfl⟩, q⟩
/-- its truth -/
def rOwnBool (K : PySem.W.Frag) (mg : Str → Option Value) (tab : MTab) (E : XK) : V → Hp → (Bool → Hp → Prop) → Prop := fun x H Q => ∃ C me, OwnAt mg tab H x C me ∧ spM K mg me ([x] ++ me.dvs) H (fun v H' => ∃ b, v = .bl b ∧ Q b H') E
theorem tr_ownBool (hT : SpT X "__bool__" tab) (hx : Passes (L2.CX X.prog X.w) X E) : TruR X (rOwnBool X.K X.mg tab E) := by
  intro pins s σ H x v Q I rx ⟨C, me, o, h⟩
  obtain ⟨a, ox, od, rfl, rfl, J, m⟩ := o.inst hT I rx
  obtain ⟨m0, hF⟩ := I.fr
  have hr := m.room
  refine PySem.W.truthy_K hF I.ok.mod.kin J m.find m.isfn ?_
  refine wpAny_mono (run_at (us := [.ref a]) m.toMeOk (hr.mono (Nat.le_succ _)) rfl hx I (.cons rx .nil) h) (fun u s' z => ?_) fun _ _ z => z
  obtain ⟨v, H', I', rv, b, rfl, q⟩ := z
  cases rv
  exact ⟨H', I', q⟩
/-- x[y] -/
def rOwnIx (K : PySem.W.Frag) (mg : Str → Option Value) (tab : MTab) (E : XK) : R2 := fun x y H Q => ∃ C me, OwnAt mg tab H x C me ∧ PySem.W.fnIn K me.f = true ∧ spM K mg me ([x, y] ++ me.dvs) H Q E
end
end DL
namespace DL
open PySem PySem.Spec L2
open PyProof.Rows hiding St
variable [Tbl]
abbrev F2X := Vl → Vl → Gam → Sto → R Vl
abbrev F1X := List Vl → Gam → Sto → R Vl
def fOpX (op : F2X) (fa fb : F) : F := fun γ S => (fa γ S).bind fun x S1 => (fb γ S1).bind fun y S2 => op x y γ S2
def fCBX (op : F1X) (f : FA) : F := fun γ S => (f γ S).bind fun xs S1 => op xs γ S1
def lift2X (op : D → D → Option D) : F2X := fun x y _ S => lift2 op x y S
def liftCX (op : List D → Option D) : F1X := fun xs _ S => R.ofO ((views S xs).bind op) S
def clsV (x : Vl) (S : Sto) : Option Str := match x.view S with
  | some (.ins c _) => some c
  | _ => none
def postR (post : Vl → Option Vl) : R Vl → R Vl
  | .ok x S => match post x with
    | some y => .ok y S
    | none => .bad
  | .exc c fs γ S => .exc c fs γ S
  | .bad => .bad
def postB (f : Bool → Bool) : Vl → Option Vl
  | .im (.bl b) => some (.im (.bl (f b)))
  | _ => none
def postN : Vl → Option Vl
  | .im (.int n) => if 0 ≤ n ∧ n < 2 ^ 63 then some (.im (.int n)) else none
  | _ => none
/-- an own method of x, if its class has one in the table -/
def fOwn (tab : MTab) (post : Vl → Option Vl) (x : Vl) (xs : List Vl) (ok : Str → Bool) (els : R Vl) : Gam → Sto → R Vl := fun γ S => match clsV x S with
  | some c => match tab c with
    | some me => if ok c then postR post (callSem (arity me.ps.length me.sem) (x :: (xs ++ me.dd.map Vl.im)) γ S) else .bad
    | none => els
  | none => els
def chkEq (cs : Str → Bool) (y : Vl) (S : Sto) : Str → Bool := fun _ => match y.view S with
  | some d => d.known cs
  | none => false
def chkBin (cs : Str → Bool) (y : Vl) (S : Sto) : Str → Bool := fun c => match y.view S with
  | some (.lst _) => true
  | some (.tup _) => true
  | some (.ins c' _) => c' == c && cs c
  | _ => false
def fOwnEq (tab : MTab) (cs : Str → Bool) (f : Bool → Bool) (els : F2X) : F2X := fun x y γ S => fOwn tab (postB f) x [y] (chkEq cs y S) (els x y γ S) γ S
def fOwnIn (tab : MTab) (f : Bool → Bool) (els : F2X) : F2X := fun y x γ S => fOwn tab (postB f) x [y] (fun _ => true) (els y x γ S) γ S
def fOwnBin (tab : MTab) (cs : Str → Bool) (els : F2X) : F2X := fun x y γ S => fOwn tab some x [y] (chkBin cs y S) (els x y γ S) γ S
def fOwnLen (tab : MTab) (els : F1X) : F1X := fun xs γ S => match xs with
  | [x] => fOwn tab postN x [] (fun _ => true) (els xs γ S) γ S
  | _ => els xs γ S
section
variable {K : PySem.W.Frag} {mg : Str → Option Value} {E : XK} {tab : MTab} {cs : Str → Bool}
def P2X (K : PySem.W.Frag) (mg : Str → Option Value) (E : XK) (r : R2) (op : F2X) : Prop := ∀ (g : At) (γ : Gam) (σ : St) (Q : VK) (B : Addr → Prop) (S : Sto) (ρ : List (List Addr)) (H : Hp) (v u : V) (x y : Vl), g.ρ.length = g.S.length → Rep K mg B γ S ρ σ H → g.to B S ρ H → RV K mg B S ρ H v x → RV K mg B S ρ H u y →
  (op x y γ S).wp (Okv K mg g γ σ Q) (Exv K mg g σ (We E)) → r v u H Q
def PCX (K : PySem.W.Frag) (mg : Str → Option Value) (E : XK) (r : List V → Hp → VK → Prop) (op : F1X) : Prop := ∀ (g : At) (γ : Gam) (σ : St) (Q : VK) (B : Addr → Prop) (S : Sto) (ρ : List (List Addr)) (H : Hp) (vs : List V) (xs : List Vl), g.ρ.length = g.S.length → Rep K mg B γ S ρ σ H → g.to B S ρ H → RVs K mg B S ρ H vs xs →
  (op xs γ S).wp (Okv K mg g γ σ Q) (Exv K mg g σ (We E)) → r vs H Q
theorem sim_opX {r : R2} {op : F2X} {ta tb : TE} {fa fb : F} (hr : P2X K mg E r op) (ha : Sim K mg (We E) ta fa) (hb : Sim K mg (We E) tb fb) : Sim K mg (We E) (tOp r ta tb) (fOpX op fa fb) := by
  intro γ σ Q g rep h
  refine ha.go rep (fun _ _ _ _ z => z) h fun x S v H B ρ rep1 e1 rv hk => ?_
  refine hb.go (g := ⟨B, S, ρ, H⟩) rep1 (fun _ _ _ _ z => z.on rep.st.len rep1.st.len e1) hk fun y S2 u H2 B2 ρ2 rep2 e2 ru hk2 => ?_
  exact hr g γ σ Q B2 S2 ρ2 H2 v u x y rep.st.len rep2 (e1.trans e2 rep.st.len rep1.st.len) (rv.mono e2 rep1.st) ru hk2
theorem sim_CBX {r : List V → Hp → VK → Prop} {op : F1X} {t : TA} {f : FA} (hr : PCX K mg E r op) (h1 : SimA K mg (We E) t f) : Sim K mg (We E) (tCB r t) (fCBX op f) := by
  intro γ σ Q g rep h
  refine h1.go rep (fun _ _ _ _ z => z) h fun xs S vs H B ρ rep1 e1 rv hk => ?_
  exact hr g γ σ Q B S ρ H vs xs rep.st.len rep1 e1 rv hk
theorem P2.x {r : R2} {op : D → D → Option D} (h : P2 K mg r op) : P2X K mg E r (lift2X op) := by
  intro g γ σ Q B S ρ H v u x y hl rep e rx ry hw
  exact lift2_go (g := g) h rep rx ry hw fun d v' H' q gr rd => okv_im q rep hl e gr rd
theorem PCall.x {r : List V → Hp → VK → Prop} {op : List D → Option D} (h : PCall K mg r op) : PCX K mg E r (liftCX op) := by
  intro g γ σ Q B S ρ H vs xs hl rep e rv hk
  obtain ⟨d, hd, q⟩ := R.ofO_wp hk
  cases q1 : views S xs with
  | none => rw [q1] at hd; cases hd
  | some ds =>
    rw [q1] at hd
    exact h B H vs ds d Q (views_rt rep.st rv q1) hd rep.st.dom fun v' H' gr rd => okv_im q rep hl e gr rd
theorem RT.ty {B : Addr → Prop} {H : Hp} {v : V} {d : D} (r : RT K mg B H v d) : ∃ t, tyD mg d = some t := by
  cases r with
  | of r => cases r <;> first | exact ⟨_, rfl⟩ | exact ⟨_, ‹mg _ = some _›⟩
  | ins _ m _ => exact ⟨_, m⟩
  | _ => exact ⟨_, rfl⟩
/-- the defaults of the table's defs -/
def TabD (K : PySem.W.Frag) (mg : Str → Option Value) (tab : MTab) : Prop := ∀ c me, tab c = some me → ∀ B H, RDs K mg B H me.dvs me.dd
theorem clsV_inv {x : Vl} {S : Sto} {c : Str} (h : clsV x S = some c) : ∃ fs, x.view S = some (.ins c fs) := by
  unfold clsV at h
  split at h
  · rename_i e; cases h; exact ⟨_, e⟩
  · cases h
theorem own_go {post : Vl → Option Vl} {g : At} {γ : Gam} {σ : St} {Q Q' : VK} {B : Addr → Prop} {S : Sto} {ρ : List (List Addr)} {H : Hp} {v : V} {vs : List V} {x : Vl} {xs : List Vl} {c : Str} {me : Me} (hD : TabD K mg tab) (hl : g.ρ.length = g.S.length) (rep : Rep K mg B γ S ρ σ H) (e : g.to B S ρ H) (rv : RV K mg B S ρ H v x) (rvs : RVs K mg B S ρ H vs xs)
    (hc : clsV x S = some c) (ht : tab c = some me) (h : (postR post (callSem (arity me.ps.length me.sem) (x :: (xs ++ me.dd.map Vl.im)) γ S)).wp (Okv K mg g γ σ Q) (Exv K mg g σ (We E)))
    (hp : ∀ x' y' v' H' B' S' ρ', post x' = some y' → RV K mg B' S' ρ' H' v' x' → (∀ v'', RV K mg B' S' ρ' H' v'' y' → Q v'' H') → Q' v' H') : ∃ C, OwnAt mg tab H v C me ∧ mg c = some (.ref C) ∧ spM K mg me ((v :: vs) ++ me.dvs) H Q' E := by
  obtain ⟨fs, hv⟩ := clsV_inv hc
  obtain ⟨a, C, dx, fvs, rfl, h1, hm, r⟩ := ins_at rep.st rv hv
  refine ⟨C, ⟨a, dx, fvs, c, rfl, h1, hm, ht⟩, hm, ?_⟩
  have rv2 : RVs K mg B S ρ H (.ref a :: (vs ++ me.dvs)) (x :: (xs ++ me.dd.map Vl.im)) := .cons rv (rvs_app rvs (rvs_ims (hD c me ht B H)))
  have hw : (callSem (arity me.ps.length me.sem) (x :: (xs ++ me.dd.map Vl.im)) γ S).wp (fun x' S' => ∃ y', post x' = some y' ∧ Okv K mg g γ σ Q y' S') (Exv K mg g σ (We E)) := by
    cases q : callSem (arity me.ps.length me.sem) (x :: (xs ++ me.dd.map Vl.im)) γ S with
    | bad => simp only [q, postR] at h; exact h.elim
    | exc c fs γ' S' => simp only [q, postR] at h; exact h
    | ok y S' =>
      simp only [q, postR] at h
      cases q2 : post y with
      | none => simp only [q2] at h; exact h.elim
      | some z => simp only [q2] at h; exact ⟨z, q2, h⟩
  refine call_go (g := g) rep hl e rv2 ?_ hw (fun x' S' v' H' B' ρ' p r e' rv' => ?_) fun c fs S' cls dd H' B' ρ' p r e' rx => p cls dd H' B' ρ' r e' rx
  · rw [List.cons_append, rvs_len rv2]
    exact callSem_arity hw
  · obtain ⟨y', p1, p2⟩ := p
    exact hp x' y' v' H' B' S' ρ' p1 rv' fun v'' r'' => p2 v'' H' B' ρ' r e' r''
theorem postB_ok {f : Bool → Bool} {Q : VK} : ∀ x' y' v' H' B' S' ρ', postB f x' = some y' → RV K mg B' S' ρ' H' v' x' → (∀ v'', RV K mg B' S' ρ' H' v'' y' → Q v'' H') → blPost f Q v' H' := by
  intro x' y' v' H' B' S' ρ' hp rv h
  unfold postB at hp
  split at hp
  · cases hp
    cases rv
    exact ⟨_, rfl, h _ (.bl _)⟩
  · cases hp
theorem postN_ok {Q : VK} : ∀ x' y' v' H' B' S' ρ', postN x' = some y' → RV K mg B' S' ρ' H' v' x' → (∀ v'', RV K mg B' S' ρ' H' v'' y' → Q v'' H') → lenPost Q v' H' := by
  intro x' y' v' H' B' S' ρ' hp rv h
  unfold postN at hp
  split at hp
  · split at hp
    · rename_i hn
      cases hp
      cases rv
      exact ⟨_, rfl, hn.1, hn.2, h _ (.int _)⟩
    · cases hp
  · cases hp
theorem postI_ok {Q : VK} : ∀ x' y' v' H' B' S' ρ', (some x' : Option Vl) = some y' → RV K mg B' S' ρ' H' v' x' → (∀ v'', RV K mg B' S' ρ' H' v'' y' → Q v'' H') → Q v' H' := by
  intro x' y' v' H' B' S' ρ' hp rv h
  cases hp
  exact h _ rv
/-- the two ways of fOwn -/
theorem fOwn_cases {post : Vl → Option Vl} {x : Vl} {xs : List Vl} {ok : Str → Bool} {els : R Vl} {γ : Gam} {S : Sto} {P : Vl → Sto → Prop} {Xx : PX} (h : (fOwn tab post x xs ok els γ S).wp P Xx) :
    (∃ c me, clsV x S = some c ∧ tab c = some me ∧ ok c = true ∧ (postR post (callSem (arity me.ps.length me.sem) (x :: (xs ++ me.dd.map Vl.im)) γ S)).wp P Xx) ∨ els.wp P Xx := by
  unfold fOwn at h
  cases q : clsV x S with
  | none => simp only [q] at h; exact .inr h
  | some c =>
    cases q2 : tab c with
    | none => simp only [q, q2] at h; exact .inr h
    | some me =>
      simp only [q, q2] at h
      split at h
      · rename_i hk
        exact .inl ⟨c, me, rfl, q2, hk, h⟩
      · exact h.elim
/-- no other type of ours comes first -/
def NoF (K : PySem.W.Frag) (mg : Str → Option Value) (tab : MTab) (cs : Str → Bool) : Prop := ∀ c me C d t, tab c = some me → mg c = some (.ref C) → D.known cs d = true → tyD mg d = some t → PySem.W.notFirst K C t = true
theorem p2_ownEq {r : R2} {els : F2X} (hD : TabD K mg tab) (nf : NoF K mg tab cs) (h : P2X K mg E r els) : P2X K mg E (fun x y H Q => rOwnEq K mg tab cs E x y H Q ∨ r x y H Q) (fOwnEq tab cs id els) := by
  intro g γ σ Q B S ρ H v u x y hl rep e rx ry hw
  rcases fOwn_cases hw with ⟨c, me, hc, ht, hk, hw⟩ | hw
  · left
    obtain ⟨C, o, hm, sp⟩ := own_go hD hl rep e rx (.cons ry .nil) hc ht hw postB_ok
    unfold chkEq at hk
    split at hk
    · rename_i d hd
      have rt := ry.rt rep.st hd
      obtain ⟨t, hty⟩ := rt.ty
      refine ⟨C, me, B, d, t, o, rt, hk, hty, nf c me C d t ht hm hk hty, ?_⟩
      have : ∀ v' H', blPost id Q v' H' → Q v' H' := fun v' H' ⟨b, e1, q⟩ => by subst e1; exact q
      obtain ⟨hlen, B1, S1, ρ1, xs1, ok1, rv1, w1⟩ := sp
      exact ⟨hlen, B1, S1, ρ1, xs1, ok1, rv1, R.wp_mono w1 (fun x S' p v' H' B' ρ' k1 k2 k3 => this _ _ (p v' H' B' ρ' k1 k2 k3)) fun _ _ _ _ z => z⟩
    · cases hk
  · exact .inr (h g γ σ Q B S ρ H v u x y hl rep e rx ry hw)
def NeOk (K : PySem.W.Frag) (mg : Str → Option Value) (tab : MTab) : Prop := ∀ c me C, tab c = some me → mg c = some (.ref C) → PySem.W.findIn K (.ref C) "__ne__" = some (some (.builtin "object.__ne__")) ∧ PySem.W.subIn K (.ref C) (.type "object") = some true
theorem p2_ownNe {r : R2} {els : F2X} (hD : TabD K mg tab) (nf : NoF K mg tab cs) (hn : NeOk K mg tab) (h : P2X K mg E r els) : P2X K mg E (fun x y H Q => rOwnNe K mg tab cs E x y H Q ∨ r x y H Q) (fOwnEq tab cs (fun b => !b) els) := by
  intro g γ σ Q B S ρ H v u x y hl rep e rx ry hw
  rcases fOwn_cases hw with ⟨c, me, hc, ht, hk, hw⟩ | hw
  · left
    obtain ⟨C, o, hm, sp⟩ := own_go hD hl rep e rx (.cons ry .nil) hc ht hw postB_ok
    unfold chkEq at hk
    split at hk
    · rename_i d hd
      have rt := ry.rt rep.st hd
      obtain ⟨t, hty⟩ := rt.ty
      obtain ⟨n1, n2⟩ := hn c me C ht hm
      exact ⟨C, me, B, d, t, o, rt, hk, hty, nf c me C d t ht hm hk hty, n1, n2, sp⟩
    · cases hk
  · exact .inr (h g γ σ Q B S ρ H v u x y hl rep e rx ry hw)
theorem p2_ownIn {f : Bool → Bool} {r : R2} {els : F2X} (hD : TabD K mg tab) (h : P2X K mg E r els) : P2X K mg E (fun x y H Q => rOwnIn K mg tab f E x y H Q ∨ r x y H Q) (fOwnIn tab f els) := by
  intro g γ σ Q B S ρ H v u x y hl rep e rx ry hw
  rcases fOwn_cases hw with ⟨c, me, hc, ht, hk, hw⟩ | hw
  · left
    obtain ⟨C, o, hm, sp⟩ := own_go hD hl rep e ry (.cons rx .nil) hc ht hw postB_ok
    exact ⟨C, me, o, sp⟩
  · exact .inr (h g γ σ Q B S ρ H v u x y hl rep e rx ry hw)
def SfOk (K : PySem.W.Frag) (mg : Str → Option Value) (tab : MTab) : Prop := ∀ c me C, tab c = some me → mg c = some (.ref C) → PySem.W.selfFirst K C = true
def FillOk (op : Operator) : Prop := fillsNumberSlot (.type "list") op.info.2 = pure false ∧ fillsNumberSlot (.type "tuple") op.info.2 = pure false
theorem p2_ownBin {op : Operator} {r : R2} {els : F2X} (hD : TabD K mg tab) (sf : SfOk K mg tab) (hf : FillOk op) (h : P2X K mg E r els) : P2X K mg E (fun x y H Q => rOwnBin K mg tab cs op E x y H Q ∨ r x y H Q) (fOwnBin tab cs els) := by
  intro g γ σ Q B S ρ H v u x y hl rep e rx ry hw
  rcases fOwn_cases hw with ⟨c, me, hc, ht, hk, hw⟩ | hw
  · left
    obtain ⟨C, o, hm, sp⟩ := own_go hD hl rep e rx (.cons ry .nil) hc ht hw postI_ok
    unfold chkBin at hk
    split at hk
    · rename_i ds hd
      exact ⟨C, me, B, .lst ds, _, o, ry.rt rep.st hd, rfl, rfl, sf c me C ht hm, .inr ⟨_, rfl, hf.1⟩, sp⟩
    · rename_i ds hd
      exact ⟨C, me, B, .tup ds, _, o, ry.rt rep.st hd, rfl, rfl, sf c me C ht hm, .inr ⟨_, rfl, hf.2⟩, sp⟩
    · rename_i c' fs hd
      rw [Bool.and_eq_true] at hk
      obtain ⟨h1, h2⟩ := hk
      have h1 := beq_iff_eq.mp h1
      subst h1
      exact ⟨C, me, B, .ins c' fs, .ref C, o, ry.rt rep.st hd, h2, hm, sf c' me C ht hm, .inl rfl, sp⟩
    · cases hk
  · exact .inr (h g γ σ Q B S ρ H v u x y hl rep e rx ry hw)
theorem pc_ownLen {r : List V → Hp → VK → Prop} {els : F1X} (hD : TabD K mg tab) (h : PCX K mg E r els) : PCX K mg E (fun xs H Q => rOwnLen K mg tab E xs H Q ∨ r xs H Q) (fOwnLen tab els) := by
  intro g γ σ Q B S ρ H vs xs hl rep e rv hw
  unfold fOwnLen at hw
  split at hw
  · rename_i x
    rcases fOwn_cases hw with ⟨c, me, hc, ht, hk, hw⟩ | hw
    · left
      cases rv with
      | cons rx rr =>
      cases rr
      obtain ⟨C, o, hm, sp⟩ := own_go (vs := []) (xs := []) hD hl rep e rx .nil hc ht hw postN_ok
      exact ⟨C, me, _, rfl, o, sp⟩
    · exact .inr (h g γ σ Q B S ρ H vs _ hl rep e rv hw)
  · exact .inr (h g γ σ Q B S ρ H vs _ hl rep e rv hw)
end
theorem fill_add : FillOk .Add := ⟨by unfold fillsNumberSlot; simp only [typeLookup_type, builtinLookup_eq_fast]; kernel_rfl, by unfold fillsNumberSlot; simp only [typeLookup_type, builtinLookup_eq_fast]; kernel_rfl⟩
theorem fill_sub : FillOk .Sub := ⟨by unfold fillsNumberSlot; simp only [typeLookup_type, builtinLookup_eq_fast]; kernel_rfl, by unfold fillsNumberSlot; simp only [typeLookup_type, builtinLookup_eq_fast]; kernel_rfl⟩
theorem OpR.or {X : Cx} {f : Value → Value → Sem Value} {r r' : R2} (h : OpR X f r) (h' : OpR X f r') : OpR X f (fun x y H Q => r x y H Q ∨ r' x y H Q) := by
  intro pins s σ H x y v u Q I rx ry q
  rcases q with q | q
  · exact h pins s σ H x y v u Q I rx ry q
  · exact h' pins s σ H x y v u Q I rx ry q
theorem CallR.or {X : Cx} {f : Value} {r r' : List V → Hp → VK → Prop} (h : CallR X f r) (h' : CallR X f r') : CallR X f (fun xs H Q => r xs H Q ∨ r' xs H Q) := by
  intro pins s σ H xs us Q I rx q
  rcases q with q | q
  · exact h pins s σ H xs us Q I rx q
  · exact h' pins s σ H xs us Q I rx q
end DL
namespace DL
open PySem PySem.Spec L2
open PyProof.Rows hiding St
variable [Tbl]
abbrev newSetO (w : World) : Obj := { cls := .type "set", dict := none, data := .set #[] 0 (.fresh 0 0 (!w.params.followText "set-order")) }
/-- a kind of elements: what an element is, what a set of such is, how one is added -/
structure SKind (P : Program) (w : World) (κ : Type) where
  is : Heap → κ → Value → Prop
  set : Heap → Addr → List (κ × Value) → Prop
  grow : ∀ {h h' : Heap} {k : κ} {v : Value}, is h k v → (∀ c o, h.get? c = some o → h'.get? c = some o) → is h' k v
  fresh : ∀ {h : Heap} {a : Addr}, h.get? a = some (newSetO w) → set h a []
  keep : ∀ {h h' : Heap} {a : Addr} {L : List (κ × Value)}, set h a L → (∀ o, h.get? a = some o → h'.get? a = some o) → (∀ p ∈ L, is h' p.1 p.2) → set h' a L
  elem : ∀ {h : Heap} {a : Addr} {L : List (κ × Value)}, set h a L → ∀ p ∈ L, is h p.1 p.2
  nd : ∀ {h : Heap} {a : Addr} {L : List (κ × Value)}, set h a L → (L.map (·.1)).Nodup
  inj : ∀ {h : Heap} {k k' : κ} {v : Value}, is h k v → is h k' v → k = k'
  off : Heap → Addr → List (κ × Value) → Prop
  offOf : ∀ {h : Heap} {a : Addr} {L : List (κ × Value)}, set h a L → off h a L
  full : ∀ {h : Heap} {a : Addr} {L : List (κ × Value)}, off h a L → (∀ p ∈ L, is h p.1 p.2) → set h a L
  offAt : ∀ {h h' : Heap} {a : Addr} {L : List (κ × Value)}, off h a L → (∀ o, h.get? a = some o → h'.get? a = some o) → off h' a L
  offOb : ∀ {h : Heap} {a : Addr} {L : List (κ × Value)}, off h a L → ∃ o, h.get? a = some o
  out : ∀ {h : Heap} {a : Addr} {L : List (κ × Value)}, set h a L → ∃ o es ep t, h.get? a = some o ∧ o.ExactSet ∧ o.data = .set es ep t ∧ t.fits es.size = true ∧ es.size < scanBound ∧ Ris t.place.toList ∧ (w.params.followText "set-order" = true ∨ t.led = true) ∧ es.toList.map (·.2) = L.map (·.2)
  add : ∀ {A : Around} {E : Value → Shared → Prop} {s : Shared} {a : Addr} {L : List (κ × Value)} {k : κ} {v : Value} {Q : Bool → Shared → Prop}, A.units < cLine → set s.heap a L → is s.heap k v → L.length + 1 < 64 →
    (∀ b h' L' tk, s.toks ≤ tk → Heap.SameBut a s.heap h' → set h' a L' → (k ∈ L.map (·.1) → L' = L) → (k ∉ L.map (·.1) → L'.Perm ((k, v) :: L)) → Q b { s with heap := h', toks := tk }) → wpAny (model P w) A (setAdd a v) Q E s
/-- what the set has got of the first i elements -/
structure GotK {κ : Type} (ks : List (κ × Value)) (i : Nat) (L : List (κ × Value)) : Prop where
  sub : ∀ p ∈ L, p ∈ ks.take i
  all : ∀ p ∈ ks.take i, p.1 ∈ L.map (·.1)
  len : L.length ≤ i
section
variable {κ : Type}
theorem GotK.zero (ks : List (κ × Value)) : GotK ks 0 [] := ⟨by simp, by simp, Nat.le_refl _⟩
theorem GotK.next {ks L L' : List (κ × Value)} {i : Nat} {x : κ × Value} (g : GotK ks i L) (h : ks[i]? = some x) (c1 : x.1 ∈ L.map (·.1) → L' = L) (c2 : x.1 ∉ L.map (·.1) → L'.Perm (x :: L)) : GotK ks (i + 1) L' := by
  have ht : ks.take (i + 1) = ks.take i ++ [x] := by rw [List.take_succ, h]; rfl
  by_cases c : x.1 ∈ L.map (·.1)
  · rw [c1 c]
    refine ⟨fun p hp => ?_, fun p hp => ?_, Nat.le_succ_of_le g.len⟩
    · rw [ht]; exact List.mem_append_left _ (g.sub p hp)
    · rw [ht, List.mem_append, List.mem_singleton] at hp
      rcases hp with z | z
      · exact g.all p z
      · rw [z]; exact c
  · have pm := c2 c
    refine ⟨fun p hp => ?_, fun p hp => ?_, ?_⟩
    · rw [ht, List.mem_append, List.mem_singleton]
      rcases List.mem_cons.mp (pm.mem_iff.mp hp) with z | z
      · exact .inr z
      · exact .inl (g.sub p z)
    · rw [(pm.map (·.1)).mem_iff, List.map_cons, List.mem_cons]
      rw [ht, List.mem_append, List.mem_singleton] at hp
      rcases hp with z | z
      · exact .inr (g.all p z)
      · exact .inl (by rw [z])
    · rw [pm.length_eq, List.length_cons]; have := g.len; omega
end
section
variable {κ : Type} {P : Program} {w : World} {A : Around} {E : Value → Shared → Prop} {s : Shared} (K : SKind P w κ)
/-- the loop that fills a new set -/
theorem fill_loop {I : Addr} {fp wr : List Addr} {G : Array GenState → Array GenState → Prop} {n : Nat} {Pv : Nat → Value → Prop} {Sx : Nat → Shared → Prop} {R : Result → Shared → Prop}
    (W : WalksS P w A.in1 I fp wr G n Pv Sx) (S : Addr) (hSf : S ∉ fp) (ks : List (κ × Value)) (hn : n = ks.length) (hfew : ks.length < 64) (hval : ∀ i v, Pv i v → ∃ k, ks[i]? = some (k, v))
    (h0 : Heap) (hk : ∀ p ∈ ks, K.is h0 p.1 p.2) (hS0 : h0.get? S = none) (hw0 : ∀ b ∈ wr, h0.get? b = none) (hu : A.in1.units < cLine) :
    ∀ (m i : Nat) (s : Shared), n - i = m → i ≤ n → Sx i s → (∀ b o, h0.get? b = some o → s.heap.get? b = some o) → (∃ L, K.set s.heap S L ∧ GotK ks i L) →
      (∀ s' L, Moved (S :: wr) G s s' → K.set s'.heap S L → GotK ks n L → (∀ b o, h0.get? b = some o → s'.heap.get? b = some o) → R (.ok (.ret .none)) s') →
      codeAny (model P w) A (.builtin "set.update.loop" ⟨[.ref S, .ref I], []⟩) R s := by
  have hSw : S ∉ wr := fun h => hSf (W.sub _ h)
  have hsub : ∀ b ∈ wr, b ∈ S :: wr := fun b hb => List.mem_cons_of_mem _ hb
  have keepM : ∀ {s s' : Shared}, Moved wr G s s' → (∀ b o, h0.get? b = some o → s.heap.get? b = some o) → ∀ b o, h0.get? b = some o → s'.heap.get? b = some o := fun hm hkp b o e =>
    hm.heap b o (fun hb => by rw [hw0 b hb] at e; cases e) (hkp b o e)
  intro m
  induction m with
  | zero =>
    intro i s hm' hi hst hkp ⟨L, hS, g⟩ hR
    have hin : i = n := by omega
    subst hin
    refine codeAny_builtin F.entry_set_update_loop ?_
    rw [Around.under_plainId F.plain_set_update_loop _]
    show wpAny _ A.in1 (pyNext (.ref I) >>= _) _ _ s
    refine wpAny_bind (W.done s _ _ hst fun s' hm => ?_)
    show wpAny _ A.in1 (ret Value.none) _ _ s'
    have hkp' := keepM hm hkp
    exact wpAny_pure (hR s' L (hm.mono hsub) (K.keep hS (fun o e => hm.heap S o hSw e) fun p hp => K.grow (hk p (List.mem_of_mem_take (g.sub p hp))) hkp') g hkp')
  | succ m ih =>
    intro i s hm' hi hst hkp ⟨L, hS, g⟩ hR
    have hlt : i < n := by omega
    refine codeAny_builtin F.entry_set_update_loop ?_
    rw [Around.under_plainId F.plain_set_update_loop _]
    show wpAny _ A.in1 (pyNext (.ref I) >>= _) _ _ s
    refine wpAny_bind (W.item i s _ _ hlt hst fun v s' hP hst' hm => ?_)
    obtain ⟨k, hp⟩ := hval i v hP
    have hkp' := keepM hm hkp
    have hS' : K.set s'.heap S L := K.keep hS (fun o e => hm.heap S o hSw e) fun q hq => K.grow (hk q (List.mem_of_mem_take (g.sub q hq))) hkp'
    have hx : K.is s'.heap k v := K.grow (hk (k, v) (List.mem_of_getElem? hp)) hkp'
    show wpAny _ A.in1 (holding [v] (setAdd S v) >>= _) _ _ s'
    refine wpAny_bind (wpAny_holding ?_)
    refine K.add hu hS' hx (by have := g.len; omega) fun b h' L' tk htk hsb hS2 c1 c2 => ?_
    have g' : GotK ks (i + 1) L' := g.next hp c1 c2
    have hkp2 : ∀ b o, h0.get? b = some o → h'.get? b = some o := fun b o e => (hsb.2 b (fun z => by rw [z, hS0] at e; cases e)).trans (hkp' b o e)
    refine wpAny_pure ⟨plainId_quiet F.plain_set_update_loop _, ih (i + 1) _ (by omega) hlt (W.frame _ s' _ _ hst' htk fun b hb o e => ?_) hkp2 ⟨L', hS2, g'⟩ fun s'' L2 hm'' hS'' g'' hkp'' => ?_⟩
    · rw [hsb.2 b (fun h : b = S => hSf (by rw [← h]; exact hb))]; exact e
    · refine hR s'' L2 (Moved.trans W.gtrans ((hm.mono hsub).then_heap htk fun b o hb e => ?_) hm'') hS'' g'' hkp''
      rw [hsb.2 b (fun h : b = S => hb (by rw [h]; exact List.mem_cons_self))]; exact e
/-- set(xs), xs a list -/
theorem set_of_list {l : Addr} {items : Array Value} (ks : List (κ × Value)) {Q : Value → Shared → Prop} (hh : A.handled = none) (hl : s.heap.IsList l items) (hit : items.toList = ks.map (·.2))
    (hk : ∀ p ∈ ks, K.is s.heap p.1 p.2) (hfew : ks.length < 64) (hu : A.units + 3 < cLine)
    (h : ∀ (h' : Heap) (tk : Nat) L, K.set h' s.heap.objs.size L → GotK ks ks.length L → (∀ b o, s.heap.get? b = some o → h'.get? b = some o) → Q (.ref s.heap.objs.size) { s with heap := h', toks := tk }) :
    wpAny (model P w) A (call (.type "set") [.ref l]) Q E s := by
  have hisz : items.size = ks.length := by
    have q := congrArg List.length hit
    rw [Array.length_toList, List.length_map] at q
    exact q
  obtain ⟨c, tl, hmro⟩ := F.called_set.mro
  have hmade := F.called_set.made
  have hsub := F.called_set.sub
  refine wpAny_call (codeAny_of_tree ?_)
  show wpAny _ _ (callAny (.type "set") _) _ _ _
  refine wpAny_pure ⟨Code.quiet_builtin _ (by decide +kernel), codeAny_builtin F.entry_type_call ?_⟩
  rw [Around.under_plain (weight_type_call_type "set" [.ref l] []) rfl]
  have h1 := F.called_set.notType
  have h2 := F.called_set.canCreate
  have hct := F.typeCall_set_1 (.ref l)
  repeat (any_goals (first | assumption | wp_step))
  refine codeAny_mono (code_set_led1 (.ref l) (E := E) (Q₁ := fun obj s₁ => obj = .ref s.heap.objs.size ∧ s₁ = { s with heap := s.heap.push (newSetO w) }) ⟨rfl, rfl⟩) fun r s₁ hr => ?_
  cases r with
  | error e => exact hr
  | ok fl =>
    cases fl with
    | ret obj =>
      obtain ⟨rfl, rfl⟩ := hr
      have hS : (s.heap.push (newSetO w)).get? s.heap.objs.size = some (newSetO w) := Heap.get?_push_size _ rfl
      have hT : Shared.TypeIs { s with heap := s.heap.push (newSetO w) } (.ref s.heap.objs.size) "set" := ⟨_, hS, rfl⟩
      have hli := F.called_set.init.lookup
      have hbi := F.called_set.init.bind (.ref s.heap.objs.size)
      repeat (any_goals (first | assumption | wp_step))
      refine codeAny_mono (codeAny_call_builtin (R := wants (fun r s₂ => r = .none ∧ ∃ h' tk L, s₂ = { s with heap := h', toks := tk } ∧ K.set h' s.heap.objs.size L ∧ GotK ks ks.length L ∧
          (∀ b o, s.heap.get? b = some o → h'.get? b = some o)) E) F.called_set.init.plain F.entry_set_init (check_set_init_1 hT ?_)) fun r₂ s₂ hr₂ => ?_
      · obtain ⟨ol, hol, hcl, nl, hdl⟩ := hl
        obtain ⟨ocls, odict, odata, oslots⟩ := ol
        simp only at hcl hdl
        subst hcl; subst hdl
        have hol' : (s.heap.push (newSetO w)).get? l = some { cls := .type "list", dict := odict, data := .seq items nl, slots := oslots } := Heap.get?_push_of_some _ hol
        have hsls := F.sub_list_set
        have hslf := F.sub_list_frozenset
        have hne : (Value.type "list" == Value.type "dict") = false := by decide
        have hl1 : (s.heap.push (newSetO w)).IsList l items := ⟨_, hol', rfl, nl, rfl⟩
        unfold Builtin.«set.__init__» noKeywords Builtin.Frozenset.updateFrom
        generalize hPI : pyIter = PI
        wp_walk
        subst hPI
        refine wpAny_pyIter_list hl1 ?_
        refine wpAny_bind (wpAny_runValue ?_)
        have hlS : l < s.heap.objs.size := Heap.lt_size hol
        have hh3 : A.in1.in1.in1.handled = none := by simp [hh]
        have hz1 : (s.heap.push (newSetO w)).objs.size = s.heap.objs.size + 1 := Heap.size_push ..
        have hneI : l ≠ (s.heap.push (newSetO w)).objs.size := by rw [hz1]; exact Nat.ne_of_lt (Nat.lt_succ_of_lt hlS)
        have hSf : s.heap.objs.size ∉ [(s.heap.push (newSetO w)).objs.size, l] := by
          rw [hz1]; simp only [List.mem_cons, List.mem_singleton, List.not_mem_nil, or_false, not_or]
          exact ⟨Nat.ne_of_lt (Nat.lt_succ_self _), Nat.ne_of_gt hlS⟩
        have hval : ∀ (i : Nat) (v : Value), items[i]? = some v → ∃ k, ks[i]? = some (k, v) := fun i v hv => by
          have q : items.toList[i]? = some v := by rw [Array.getElem?_toList]; exact hv
          rw [hit, List.getElem?_map] at q
          cases hq : ks[i]? with
          | none => rw [hq] at q; cases q
          | some p =>
            rw [hq] at q
            obtain ⟨k, u⟩ := p
            cases q
            exact ⟨k, rfl⟩
        have none_of : ∀ b, s.heap.objs.size ≤ b → s.heap.get? b = none := fun b hb => by
          cases q : s.heap.get? b with
          | none => rfl
          | some o => exact absurd (Nat.lt_of_lt_of_le (Heap.lt_size q) hb) (Nat.lt_irrefl _)
        refine fill_loop K ((Walks.list hh3 _ l hneI items).toS) s.heap.objs.size
          hSf ks hisz hfew hval s.heap hk (none_of _ (Nat.le_refl _)) (fun b hb => none_of b (by rw [List.mem_singleton.mp hb, hz1]; omega)) hu (items.size - 0) 0 _ (by omega) (Nat.zero_le _)
          ⟨⟨_, Heap.get?_push_size _ rfl, rfl, rfl⟩, (hl1.push _)⟩ (fun b o e => Heap.get?_push_of_some _ (Heap.get?_push_of_some _ e)) ?hS0 ?hR
        case hS0 => exact ⟨[], K.fresh (Heap.get?_push_of_some _ hS), GotK.zero ks⟩
        case hR =>
          intro s' L hm hS' g' hkp
          obtain ⟨h', g2, d', tk', os'⟩ := s'
          have eg : g2 = s.gens := hm.gens
          have ed : d' = s.drawn := hm.drawn
          have eo : os' = s.os := hm.os
          subst eg; subst ed; subst eo
          show wpAny _ _ _ _ _ _
          refine wpAny_pure ?_
          show wpAny _ _ (ret Value.none) _ _ _
          rw [hisz] at g'
          exact wpAny_pure ⟨rfl, h', tk', L, rfl, hS', g', hkp⟩
      · cases r₂ with
        | error e => exact hr₂
        | ok fl₂ =>
          cases fl₂ with
          | ret r =>
            obtain ⟨rfl, h', tk, L, rfl, hS', g', hk'⟩ := hr₂
            repeat (any_goals (first | assumption | wp_step))
            exact h _ _ _ hS' g' hk'
          | _ => exact hr₂.elim
    | _ => exact hr.elim
/-- set(xs), xs a tuple -/
theorem set_of_tuple {l : Addr} {items : Array Value} (ks : List (κ × Value)) {Q : Value → Shared → Prop} (hh : A.handled = none) (hl : s.heap.IsTuple l items) (hit : items.toList = ks.map (·.2))
    (hk : ∀ p ∈ ks, K.is s.heap p.1 p.2) (hfew : ks.length < 64) (hu : A.units + 3 < cLine)
    (h : ∀ (h' : Heap) (tk : Nat) L, K.set h' s.heap.objs.size L → GotK ks ks.length L → (∀ b o, s.heap.get? b = some o → h'.get? b = some o) → Q (.ref s.heap.objs.size) { s with heap := h', toks := tk }) :
    wpAny (model P w) A (call (.type "set") [.ref l]) Q E s := by
  have hisz : items.size = ks.length := by
    have q := congrArg List.length hit
    rw [Array.length_toList, List.length_map] at q
    exact q
  obtain ⟨c, tl, hmro⟩ := F.called_set.mro
  have hmade := F.called_set.made
  have hsub := F.called_set.sub
  refine wpAny_call (codeAny_of_tree ?_)
  show wpAny _ _ (callAny (.type "set") _) _ _ _
  refine wpAny_pure ⟨Code.quiet_builtin _ (by decide +kernel), codeAny_builtin F.entry_type_call ?_⟩
  rw [Around.under_plain (weight_type_call_type "set" [.ref l] []) rfl]
  have h1 := F.called_set.notType
  have h2 := F.called_set.canCreate
  have hct := F.typeCall_set_1 (.ref l)
  repeat (any_goals (first | assumption | wp_step))
  refine codeAny_mono (code_set_led1 (.ref l) (E := E) (Q₁ := fun obj s₁ => obj = .ref s.heap.objs.size ∧ s₁ = { s with heap := s.heap.push (newSetO w) }) ⟨rfl, rfl⟩) fun r s₁ hr => ?_
  cases r with
  | error e => exact hr
  | ok fl =>
    cases fl with
    | ret obj =>
      obtain ⟨rfl, rfl⟩ := hr
      have hS : (s.heap.push (newSetO w)).get? s.heap.objs.size = some (newSetO w) := Heap.get?_push_size _ rfl
      have hT : Shared.TypeIs { s with heap := s.heap.push (newSetO w) } (.ref s.heap.objs.size) "set" := ⟨_, hS, rfl⟩
      have hli := F.called_set.init.lookup
      have hbi := F.called_set.init.bind (.ref s.heap.objs.size)
      repeat (any_goals (first | assumption | wp_step))
      refine codeAny_mono (codeAny_call_builtin (R := wants (fun r s₂ => r = .none ∧ ∃ h' tk L, s₂ = { s with heap := h', toks := tk } ∧ K.set h' s.heap.objs.size L ∧ GotK ks ks.length L ∧
          (∀ b o, s.heap.get? b = some o → h'.get? b = some o)) E) F.called_set.init.plain F.entry_set_init (check_set_init_1 hT ?_)) fun r₂ s₂ hr₂ => ?_
      · obtain ⟨ol, hol, hcl, nl, hdl⟩ := hl
        obtain ⟨ocls, odict, odata, oslots⟩ := ol
        simp only at hcl hdl
        subst hcl; subst hdl
        have hol' : (s.heap.push (newSetO w)).get? l = some { cls := .type "tuple", dict := odict, data := .seq items nl, slots := oslots } := Heap.get?_push_of_some _ hol
        have hsls := F.sub_tuple_set
        have hslf := F.sub_tuple_frozenset
        have hne : (Value.type "tuple" == Value.type "dict") = false := by decide
        have hl1 : (s.heap.push (newSetO w)).IsTuple l items := ⟨_, hol', rfl, nl, rfl⟩
        unfold Builtin.«set.__init__» noKeywords Builtin.Frozenset.updateFrom
        generalize hPI : pyIter = PI
        wp_walk
        subst hPI
        refine wpAny_pyIter_tuple hl1 ?_
        refine wpAny_bind (wpAny_runValue ?_)
        have hlS : l < s.heap.objs.size := Heap.lt_size hol
        have hh3 : A.in1.in1.in1.handled = none := by simp [hh]
        have hz1 : (s.heap.push (newSetO w)).objs.size = s.heap.objs.size + 1 := Heap.size_push ..
        have hneI : l ≠ (s.heap.push (newSetO w)).objs.size := by rw [hz1]; exact Nat.ne_of_lt (Nat.lt_succ_of_lt hlS)
        have hSf : s.heap.objs.size ∉ [(s.heap.push (newSetO w)).objs.size, l] := by
          rw [hz1]; simp only [List.mem_cons, List.mem_singleton, List.not_mem_nil, or_false, not_or]
          exact ⟨Nat.ne_of_lt (Nat.lt_succ_self _), Nat.ne_of_gt hlS⟩
        have hval : ∀ (i : Nat) (v : Value), items[i]? = some v → ∃ k, ks[i]? = some (k, v) := fun i v hv => by
          have q : items.toList[i]? = some v := by rw [Array.getElem?_toList]; exact hv
          rw [hit, List.getElem?_map] at q
          cases hq : ks[i]? with
          | none => rw [hq] at q; cases q
          | some p =>
            rw [hq] at q
            obtain ⟨k, u⟩ := p
            cases q
            exact ⟨k, rfl⟩
        have none_of : ∀ b, s.heap.objs.size ≤ b → s.heap.get? b = none := fun b hb => by
          cases q : s.heap.get? b with
          | none => rfl
          | some o => exact absurd (Nat.lt_of_lt_of_le (Heap.lt_size q) hb) (Nat.lt_irrefl _)
        refine fill_loop K ((Walks.tuple hh3 _ l hneI items).toS) s.heap.objs.size
          hSf ks hisz hfew hval s.heap hk (none_of _ (Nat.le_refl _)) (fun b hb => none_of b (by rw [List.mem_singleton.mp hb, hz1]; omega)) hu (items.size - 0) 0 _ (by omega) (Nat.zero_le _)
          ⟨⟨_, Heap.get?_push_size _ rfl, rfl, rfl⟩, (hl1.push _)⟩ (fun b o e => Heap.get?_push_of_some _ (Heap.get?_push_of_some _ e)) ?hS0 ?hR
        case hS0 => exact ⟨[], K.fresh (Heap.get?_push_of_some _ hS), GotK.zero ks⟩
        case hR =>
          intro s' L hm hS' g' hkp
          obtain ⟨h', g2, d', tk', os'⟩ := s'
          have eg : g2 = s.gens := hm.gens
          have ed : d' = s.drawn := hm.drawn
          have eo : os' = s.os := hm.os
          subst eg; subst ed; subst eo
          show wpAny _ _ _ _ _ _
          refine wpAny_pure ?_
          show wpAny _ _ (ret Value.none) _ _ _
          rw [hisz] at g'
          exact wpAny_pure ⟨rfl, h', tk', L, rfl, hS', g', hkp⟩
      · cases r₂ with
        | error e => exact hr₂
        | ok fl₂ =>
          cases fl₂ with
          | ret r =>
            obtain ⟨rfl, h', tk, L, rfl, hS', g', hk'⟩ := hr₂
            repeat (any_goals (first | assumption | wp_step))
            exact h _ _ _ hS' g' hk'
          | _ => exact hr₂.elim
    | _ => exact hr.elim
end
end DL
namespace DL
open PySem PySem.Spec L2
open PyProof.Rows hiding St
variable [Tbl]
/-- objects with a key -/
structure UKind (P : Program) (w : World) (κ : Type) [DecidableEq κ] where
  ob : Heap → κ → Addr → Prop
  hash : κ → Int
  grow : ∀ {h h' : Heap} {k : κ} {b : Addr}, ob h k b → (∀ c o, h.get? c = some o → h'.get? c = some o) → ob h' k b
  same : ∀ {h h' : Heap} {k : κ} {a b : Addr} {o : Obj} {es : Array (Int × Value)} {ep : Nat} {t : SetTable}, ob h k b → h.get? a = some o → o.data = .set es ep t → Heap.SameBut a h h' → ob h' k b
  inj : ∀ {h : Heap} {k k' : κ} {b : Addr}, ob h k b → ob h k' b → k = k'
  pyHash : ∀ {A : Around} {E : Value → Shared → Prop} {s : Shared} {k : κ} {b : Addr} {Q : Int → Shared → Prop}, A.units < cLine → ob s.heap k b → (∀ tk, s.toks ≤ tk → Q (hash k) { s with toks := tk }) → wpAny (model P w) A (PySem.pyHash (.ref b)) Q E s
  eqBool : ∀ {A : Around} {E : Value → Shared → Prop} {s : Shared} {x y : κ} {a b : Addr} {Q : Bool → Shared → Prop}, A.units < cLine → ob s.heap x a → ob s.heap y b → Q (decide (x = y)) s → wpAny (model P w) A (PySem.eqBool (.ref a) (.ref b)) Q E s
  hashBy : ∀ {A : Around} {E : Value → Shared → Prop} {s : Shared} {k : κ} {b : Addr} {Q : Bool → Shared → Prop}, ob s.heap k b → (∀ c, Q c s) → wpAny (model P w) A (hashByValue 8 (.ref b)) Q E s
  seen : ∀ {A : Around} {E : Value → Shared → Prop} {s : Shared} {k : κ} {b : Addr} {ys : List Value} {Q : Bool → Shared → Prop}, ob s.heap k b → (∀ y ∈ ys, ∃ k' c, y = Value.ref c ∧ ob s.heap k' c) → Q false s → wpAny (model P w) A (searchCouldBeSeen (.ref b) ys) Q E s
section
variable {κ : Type} [DecidableEq κ] {P : Program} {w : World} {A : Around} {E : Value → Shared → Prop} {s : Shared} (U : UKind P w κ)
def UKind.isV (h : Heap) (k : κ) (v : Value) : Prop := ∃ b, v = .ref b ∧ U.ob h k b
def uRows (L : List (κ × Value)) : List (Int × Value) := L.map fun p => (U.hash p.1, p.2)
structure UTab (t : SetTable) (L : List (κ × Value)) : Prop where
  tab : TabOk t (L.map fun p => U.hash p.1)
  nd : (L.map (·.1)).Nodup
  led : w.params.followText "set-order" = true ∨ t.led = true
  room : L.length * 5 < t.mask * 3
  few : L.length < 64
structure USet (h : Heap) (a : Addr) (L : List (κ × Value)) (es : Array (Int × Value)) (ep : Nat) (t : SetTable) : Prop extends UTab U t L where
  at_ : ∃ o, h.get? a = some o ∧ o.ExactSet ∧ o.data = .set es ep t
  rows : es.toList = uRows U L
  elem : ∀ p ∈ L, U.isV h p.1 p.2
variable {U} {a : Addr} {L : List (κ × Value)} {es : Array (Int × Value)} {ep : Nat} {t : SetTable}
theorem rows_size (e : es.toList = uRows U L) : es.size = L.length := by
  have h := congrArg List.length e
  simpa [uRows] using h
theorem USet.fits {h : Heap} (R : USet U h a L es ep t) : t.fits es.size = true := by
  have h1 := R.tab.sz
  rw [List.length_map] at h1
  have h2 := rows_size R.rows
  have h3 := R.room
  unfold SetTable.fits SetTable.fill
  rw [R.tab.dm, Bool.and_eq_true, beq_iff_eq, decide_eq_true_eq]
  show t.place.size = es.size ∧ t.place.size + 0 ≤ t.mask
  omega
theorem rows_at (e : es.toList = uRows U L) {i : Nat} {p : κ × Value} (h : L[i]? = some p) : es[i]? = some (U.hash p.1, p.2) := by
  rw [← Array.getElem?_toList, e]
  unfold uRows
  rw [List.getElem?_map, h] <;> rfl
theorem USet.gw {h : Heap} (R : USet U h a L es ep t) : ¬ t.gaveWay = true := by
  unfold SetTable.gaveWay
  rw [mask_odd R.tab.mok]
  decide
/-- the search, from the c-th step of its way on -/
theorem uSearch_from (R : USet U s.heap a L es ep t) {x : Addr} {k : κ} (hx : U.ob s.heap k x) (hu : A.units < cLine) {N : Nat} (hNf : N < 10 * SetTable.turns t.mask)
    (hN : way t.mask (U.hash k) N ∉ t.place.toList) (hNb : ∀ c, c < N → way t.mask (U.hash k) c ∈ t.place.toList) {Q : SetFound → Shared → Prop}
    (hin : k ∈ L.map (·.1) → Q (.there none) s) (hout : k ∉ L.map (·.1) → Q (.free (way t.mask (U.hash k) N) false) s) :
    ∀ (f c : Nat) (stand : Option SetTable.Probe), stand.getD (t.probeStart (U.hash k)) = nth t.mask (runAt t.mask (SetTable.bits (U.hash k) % (t.mask + 1)) (SetTable.bits (U.hash k))) c → c ≤ N → N - c < f →
      (∀ (i : Nat) p, L[i]? = some p → p.1 = k → ∃ c', c ≤ c' ∧ c' < N ∧ t.place.toList[i]? = some (way t.mask (U.hash k) c')) →
      wpAny (model P w) A (setSearchFrom a (.ref x) (U.hash k) true f stand) Q E s
  | 0, c, stand, _, _, hf, _ => absurd hf (Nat.not_lt_zero _)
  | f + 1, c, stand, hst, hc, hf, hre => by
    obtain ⟨o, ho, hex, hd⟩ := R.at_
    rw [setSearchFrom_succ]
    refine wpAny_bind (wpAny_setState_of ho hd R.fits ?_)
    dsimp only
    refine wp_if_neg R.gw ?_
    try refine wpAny_bind (wpAny_pure ?_)
    generalize hh : U.hash k = hv at *
    generalize hp0 : runAt t.mask (SetTable.bits hv % (t.mask + 1)) (SetTable.bits hv) = p0 at *
    have hwj : ∀ c, way t.mask hv c = (nth t.mask p0 c).j := fun c => by rw [← hp0]
    have hnd : (nth t.mask p0 c).dummy = none := by
      have key : ∀ (n : Nat) (p : SetTable.Probe), p.dummy = none → (nth t.mask p n).dummy = none := by
        intro n
        induction n with
        | zero => intro p h; exact h
        | succ n ih =>
          intro p h
          refine ih (adv t.mask p) ?_
          unfold adv
          split <;> exact h
      exact key c _ (by rw [← hp0]; rfl)
    have e1 : ∀ q, (nth t.mask (nth t.mask p0 c) q).j = way t.mask hv (c + q) := fun q => by rw [hwj, nth_add]
    have spec := go_spec t R.tab.ris R.tab.dm (fun i => (es[i]?.map (·.1)).getD 0) hv (10 * SetTable.turns t.mask) (N - c) _ hnd (by omega)
      (fun q hq => by rw [e1]; exact hNb (c + q) (by omega)) (by rw [e1, show c + (N - c) = N by omega]; exact hN)
    have hashAt : ∀ (i : Nat) p, L[i]? = some p → (fun i => (es[i]?.map (·.1)).getD 0) i = U.hash p.1 := fun i p hp => by
      show (es[i]?.map (·.1)).getD 0 = _
      rw [rows_at R.rows hp] <;> rfl
    rcases spec with ⟨q, i, hq, hi, hhq, hno, hpr⟩ | ⟨hno, hpr⟩
    · have hpr' : t.probe (fun i => (es[i]?.map (·.1)).getD 0) hv (stand.getD (t.probeStart hv)) = some (.candidate (way t.mask hv (c + q)) i (nth t.mask p0 (c + (q + 1)))) := by
        rw [hst, ← e1, nth_add t.mask c p0]
        exact hpr
      rw [hpr']
      dsimp only
      rw [e1] at hi
      have hil : i < L.length := by
        have h1 : i < t.place.toList.length := (List.getElem?_eq_some_iff.mp hi).1
        have h2 := R.tab.sz
        rw [List.length_map] at h2
        rw [Array.length_toList] at h1
        omega
      have hp : L[i]? = some L[i] := List.getElem?_eq_getElem hil
      generalize hpe : L[i] = p at hp
      have hmem : p ∈ L := List.mem_of_getElem? hp
      obtain ⟨pb, hpv, hpt⟩ := R.elem p hmem
      have rest : wpAny (model P w) A (searchRest a (.ref x) hv true f es t (way t.mask hv (c + q)) i (nth t.mask p0 (c + (q + 1)))) Q E s := by
        unfold searchRest
        rw [rows_at R.rows hp]
        dsimp only
        rw [hpv]
        refine wpAny_bind (wpAny_holding (U.eqBool hu hpt hx ?_))
        refine wpAny_bind (wpAny_setState_of ho hd R.fits ?_)
        dsimp only
        by_cases hkk : p.1 = k
        · refine wp_if_pos (by simp [hkk]) ?_
          exact wpAny_pure (hin (List.mem_map.mpr ⟨p, hmem, hkk⟩))
        · refine wp_if_neg (by simp [hkk]) ?_
          try refine wpAny_bind (wpAny_pure ?_)
          rw [sameMem]
          dsimp only
          have hsl : t.slot (way t.mask hv (c + q)) = .live i := slot_live R.tab.ris hi
          simp only [if_true, hsl, rows_at R.rows hp, hpv]
          refine wpAny_bind (wpAny_isSame_ref_self (wpAny_bind (wpAny_pure ?_)))
          simp only [if_true]
          refine wp_if_neg (by simp [hkk]) ?_
          have again := uSearch_from R hx hu (N := N) hNf (by rw [hh]; exact hN) (by rw [hh]; exact hNb) hin (by rw [hh]; exact hout) f (c + (q + 1)) (some (nth t.mask p0 (c + (q + 1)))) (by rw [hh, hp0]; rfl) (by omega) (by omega)
          rw [hh] at again
          refine again fun i0 q0 h0 hk0 => ?_
          obtain ⟨c', a1, a2, a3⟩ := hre i0 q0 h0 hk0
          refine ⟨c', ?_, a2, a3⟩
          rcases Nat.lt_or_ge c' (c + q) with z | z
          · exfalso
            refine hno (c' - c) i0 (by omega) (by rw [e1, show c + (c' - c) = c' by omega]; exact a3) ?_
            exact (hashAt i0 q0 h0).trans ((congrArg U.hash hk0).trans hh)
          · rcases Nat.lt_or_ge (c + q) c' with y | y
            · omega
            · exfalso
              have ec : c' = c + q := Nat.le_antisymm y z
              rw [ec] at a3
              have s0 := slot_live R.tab.ris a3
              rw [hsl] at s0
              injection s0 with s0
              rw [← s0, hp] at h0
              exact hkk ((congrArg Prod.fst (Option.some.inj h0)).trans hk0)
      by_cases hl : t.led = true
      · refine wp_if_neg (by simp [hl]) ?_
        try refine wpAny_bind (wpAny_pure ?_)
        exact rest
      · refine wp_if_pos (by simp [hl]) ?_
        refine wpAny_bind (U.seen hx (fun y hy => ?_) ?_)
        · obtain ⟨e, he, ee⟩ := List.mem_map.mp hy
          have he2 : e ∈ es.toList := by
            have he1 : e ∈ es ∧ e.1 = hv := by simpa using he
            simpa using he1.1
          rw [R.rows] at he2
          obtain ⟨p2, hp2, e2⟩ := List.mem_map.mp he2
          obtain ⟨b2, hv2, ht2⟩ := R.elem p2 hp2
          exact ⟨p2.1, b2, by rw [← ee, ← e2]; exact hv2, ht2⟩
        · refine wp_if_neg (by decide) ?_
          try refine wpAny_bind (wpAny_pure ?_)
          exact rest
    · have hpr' : t.probe (fun i => (es[i]?.map (·.1)).getD 0) hv (stand.getD (t.probeStart hv)) = some (.empty (way t.mask hv N) none) := by
        have e2 : way t.mask hv N = (nth t.mask (nth t.mask p0 c) (N - c)).j := by rw [e1, show c + (N - c) = N by omega]
        rw [hst, e2]
        exact hpr
      rw [hpr']
      dsimp only
      refine wpAny_pure (hout fun hm => ?_)
      obtain ⟨q0, h0, hk0⟩ := List.mem_map.mp hm
      obtain ⟨i0, hi0, e0⟩ := List.getElem_of_mem h0
      have h00 : L[i0]? = some q0 := by rw [List.getElem?_eq_getElem hi0, e0]
      obtain ⟨c', a1, a2, a3⟩ := hre i0 q0 h00 hk0
      refine hno (c' - c) i0 (by omega) (by rw [e1, show c + (c' - c) = c' by omega]; exact a3) ?_
      exact (hashAt i0 q0 h00).trans ((congrArg U.hash hk0).trans hh)
theorem uSearch (R : USet U s.heap a L es ep t) {x : Addr} {k : κ} (hx : U.ob s.heap k x) (hu : A.units < cLine) {Q : SetFound → Shared → Prop}
    (hin : k ∈ L.map (·.1) → Q (.there none) s)
    (hout : ∀ N, k ∉ L.map (·.1) → way t.mask (U.hash k) N ∉ t.place.toList → (∀ c, c < N → way t.mask (U.hash k) c ∈ t.place.toList) → Q (.free (way t.mask (U.hash k) N) false) s) :
    wpAny (model P w) A (setSearch a (.ref x) (U.hash k) true) Q E s := by
  have hroom := R.room
  obtain ⟨N, hNf, hN, hNb⟩ := R.tab.first (by rw [List.length_map]; omega) (U.hash k)
  have hbig : N < 100000 := by
    have : 10 * SetTable.turns t.mask ≤ 1420 := by
      unfold SetTable.turns
      rcases R.tab.mok with e | e | e <;> omega
    omega
  unfold setSearch
  refine uSearch_from R hx hu hNf hN hNb hin (fun hn => hout N hn hN hNb) 100000 0 none rfl (Nat.zero_le _) (by omega) fun i p hp hk => ?_
  have hi : (L.map fun p => U.hash p.1)[i]? = some (U.hash k) := by rw [List.getElem?_map, hp, ← hk] <;> rfl
  have hil : i < t.place.toList.length := by
    have h1 : i < L.length := (List.getElem?_eq_some_iff.mp hp).1
    have h2 := R.tab.sz
    rw [List.length_map] at h2
    rw [Array.length_toList]
    omega
  have hj := List.getElem?_eq_getElem hil
  obtain ⟨c, hc, e⟩ := R.tab.before hN hi hj
  exact ⟨c, Nat.zero_le _, hc, by rw [hj, e]⟩
theorem isV_same {h h' : Heap} {k : κ} {v : Value} {o : Obj} (hb : U.isV h k v) (ho : h.get? a = some o) (hd : o.data = .set es ep t) (hs : Heap.SameBut a h h') : U.isV h' k v := by
  obtain ⟨b, e, hb⟩ := hb
  exact ⟨b, e, U.same hb ho hd hs⟩
theorem uOrder (es : Array (Int × Value)) (order : Array Nat) (hr : es.toList = uRows U L) (hp : order.toList.Perm (List.range L.length)) :
    ∃ M, (order.filterMap (es[·]?)).toList = uRows U M ∧ M.Perm L ∧ (M.map fun p => U.hash p.1) = order.toList.map fun i => (es.map (·.1)).getD i 0 := by
  have hsz := rows_size hr
  have ent : ∀ (i : Nat) (h : i < L.length), es[i]? = some (U.hash (L[i]).1, (L[i]).2) := fun i h => rows_at hr (List.getElem?_eq_getElem h)
  have key : ∀ l : List Nat, (∀ i ∈ l, i < L.length) → ∃ M : List (κ × Value), l.filterMap (fun i => es[i]?) = uRows U M ∧ M = l.filterMap (fun i => L[i]?) ∧ (M.map fun p => U.hash p.1) = l.map fun i => (es.map (·.1)).getD i 0 := by
    intro l
    induction l with
    | nil => intro _; exact ⟨[], rfl, rfl, rfl⟩
    | cons i l ih =>
      intro hl
      have hi := hl i List.mem_cons_self
      obtain ⟨M, e1, e2, e3⟩ := ih fun j hj => hl j (List.mem_cons_of_mem _ hj)
      refine ⟨L[i] :: M, ?_, ?_, ?_⟩
      · rw [List.filterMap_cons_some (ent i hi), e1] <;> rfl
      · rw [List.filterMap_cons_some (List.getElem?_eq_getElem hi), e2]
      · rw [List.map_cons, List.map_cons, e3]
        have e5 : (es.map (·.1))[i]? = some (U.hash (L[i]).1) := by rw [Array.getElem?_map, ent i hi] <;> rfl
        rw [show (es.map (·.1)).getD i 0 = U.hash (L[i]).1 from by simp [Array.getD_eq_getD_getElem?, e5]]
  obtain ⟨M, e1, e2, e3⟩ := key order.toList fun i hi => List.mem_range.mp (hp.mem_iff.mp hi)
  refine ⟨M, by first | (rw [Array.toList_filterMap]; exact e1) | simpa using e1, ?_, e3⟩
  have h1 : M.Perm ((List.range L.length).filterMap fun i => L[i]?) := by
    rw [e2]
    exact hp.filterMap _
  have key2 : ∀ n, n ≤ L.length → (List.range n).filterMap (fun i => L[i]?) = L.take n := by
    intro n
    induction n with
    | zero => intro _; rfl
    | succ n ih =>
      intro hn
      have hlt : n < L.length := hn
      rw [List.range_succ, List.filterMap_append, ih (Nat.le_of_lt hlt), List.take_succ, List.getElem?_eq_getElem hlt, List.filterMap_cons_some (List.getElem?_eq_getElem hlt)] <;> rfl
  rw [key2 L.length (Nat.le_refl _), List.take_length] at h1
  exact h1
/-- the table laid anew -/
theorem uRelay {o : Obj} (ho : s.heap.get? a = some o) (hex : o.ExactSet) (hd : o.data = .set es ep t) (hrows : es.toList = uRows U L) (hsz : t.place.size = es.size) (hdm : t.dummies = #[]) (hfl : es.size ≤ t.mask)
    (nd : (L.map (·.1)).Nodup) (el : ∀ p ∈ L, U.isV s.heap p.1 p.2) (ld : w.params.followText "set-order" = true ∨ t.led = true) (few : L.length < 64) {wanted M : Nat}
    (hw : SetTable.sizeAbove wanted - 1 = M) (hM : MaskOk M) (hw2 : SetTable.sizeAbove wanted ≤ 128) (hn : L.length * 5 < M * 3) {Q : Unit → Shared → Prop}
    (hQ : ∀ h' L' es' ep' t', Heap.SameBut a s.heap h' → USet U h' a L' es' ep' t' → L'.Perm L → Q () { s with heap := h' }) : wpAny (model P w) A (setRelay a wanted) Q E s := by
  have hsl := rows_size hrows
  have hfits : t.fits es.size = true := by
    unfold SetTable.fits SetTable.fill
    rw [hdm, Bool.and_eq_true, beq_iff_eq, decide_eq_true_eq]
    show t.place.size = es.size ∧ t.place.size + 0 ≤ t.mask
    omega
  obtain ⟨t', order, e, hp, T, em, eld, ep', ed⟩ := relaid_ok t (hs := es.map (·.1)) (wanted := wanted) hw hM (by rw [Array.size_map, hsl]; omega)
  rw [Array.size_map, hsl] at hp
  obtain ⟨L2, r1, r2, r3⟩ := uOrder es order hrows hp
  rw [← r3] at T
  have hs2 : (order.filterMap (es[·]?)).size = es.size := by rw [rows_size r1, r2.length_eq, hsl]
  rw [setRelay_eq]
  refine wpAny_bind (wpAny_setState_of ho hd hfits ?_)
  dsimp only
  refine wp_if_neg (by rw [sizeLine_eq]; omega) ?_
  try refine wpAny_bind (wpAny_pure ?_)
  rw [e]
  dsimp only
  refine wpAny_bind ?_
  refine wp_if_neg (by rw [hs2]; simp) ?_
  try refine wpAny_bind (wpAny_pure ?_)
  refine wpAny_pure ?_
  dsimp only
  refine wpAny_storeSet_of ho hd ?_ (by rw [hs2, hsl, sizeLine_eq]; omega)
  have sb : Heap.SameBut a s.heap (s.heap.update a (Obj.putSet (order.filterMap (es[·]?)) t')) := Heap.SameBut.update ..
  refine hQ _ L2 (order.filterMap (es[·]?)) (ep + 1) t' sb ⟨⟨T, (r2.map (·.1)).nodup_iff.mpr nd, by rw [eld]; exact ld, by rw [r2.length_eq, em]; exact hn, by rw [r2.length_eq]; exact few⟩, ⟨_, store_at ho hd, ⟨hex.1, hex.2.1, hex.2.2⟩, rfl⟩, r1, fun p hpm => isV_same (el p (r2.mem_iff.mp hpm)) ho hd sb⟩ r2
theorem uByValue {x : Addr} {k : κ} {t0 : SetTable} {α : Type} {kk : Bool → Sem α} (hx : U.ob s.heap k x) {Q : α → Shared → Prop} (h : ∀ c, wpAny (model P w) A (kk c) Q E s) :
    wpAny (model P w) A (if t0.plain = true then (hashByValue 8 (.ref x) >>= kk) else (pure true >>= kk)) Q E s := by
  split
  · exact wpAny_bind (U.hashBy hx h)
  · exact wpAny_bind (wpAny_pure (h true))
/-- adding -/
theorem uAdd (R : USet U s.heap a L es ep t) {x : Addr} {k : κ} (hx : U.ob s.heap k x) (hu : A.units < cLine) (hfew : L.length + 1 < 64) {Q : Bool → Shared → Prop}
    (hQ : ∀ b h' L' es' ep' t', Heap.SameBut a s.heap h' → USet U h' a L' es' ep' t' → (k ∈ L.map (·.1) → L' = L) → (k ∉ L.map (·.1) → L'.Perm ((k, .ref x) :: L)) → Q b { s with heap := h' }) :
    wpAny (model P w) A (setAddHashed a (.ref x) (U.hash k)) Q E s := by
  obtain ⟨o, ho, hex, hd⟩ := R.at_
  have hsl := rows_size R.rows
  have hroom := R.room
  unfold setAddHashed
  refine wpAny_holding ?_
  rw [show (100000 : Nat) = 99999 + 1 from rfl, setAddHashedIn_succ]
  refine wpAny_bind (wpAny_setState_of ho hd R.fits ?_)
  dsimp only
  refine wp_if_neg (by simp [byScan, Value.scannable]) ?_
  try refine wpAny_bind (wpAny_pure ?_)
  refine wpAny_bind (uSearch R hx hu (fun hm => ?_) fun N hm hN hb => ?_)
  · dsimp only
    exact wpAny_pure (hQ false s.heap L es ep t (Heap.SameBut.refl a s.heap) R (fun _ => rfl) fun z => absurd hm z)
  · dsimp only
    refine wpAny_bind (wpAny_setState_of ho hd R.fits ?_)
    dsimp only
    obtain ⟨q1, q2, q3, q4, q5, q6, q7, q8, q9⟩ := R.tab.put hN hb
    generalize hpt : t.put (way t.mask (U.hash k) N) = pt at q1 q3 q4 q5 q6 q7 q8 q9 ⊢
    obtain ⟨t0, p⟩ := pt
    dsimp only at q1 q3 q4 q5 q6 q7 q8 q9 ⊢
    subst q1
    refine uByValue hx fun bv => ?_
    generalize ht1 : (if bv = true then t0 else { t0 with plain := false }) = t1
    have mv : ∀ {l : List Int}, TabOk t0 l → TabOk t1 l := fun {l} q => by rw [← ht1]; cases bv <;> exact ⟨q.1, q.2, q.3, q.4, q.5, q.6⟩
    have q3 := mv q3
    have q4 : t1.mask = t.mask := by rw [← ht1]; cases bv <;> exact q4
    have q5 : t1.led = t.led := by rw [← ht1]; cases bv <;> exact q5
    have q9 : t1.fill = (List.map (fun p => U.hash p.1) L).length + 1 := by rw [← ht1]; cases bv <;> exact q9
    generalize hpp : SetTable.below t.place (way t.mask (U.hash k) N) = p at *
    have hin : (SetTable.insertAt es p (U.hash k, Value.ref x)).toList = uRows U (L.take p ++ (k, Value.ref x) :: L.drop p) := by
      rw [SetTable.toList_insertAt, R.rows]
      unfold uRows
      rw [List.map_append, List.map_cons, List.map_take, List.map_drop]
    have pm := put_perm L p (k, Value.ref x)
    have hlen : (L.take p ++ (k, Value.ref x) :: L.drop p).length = L.length + 1 := pm.length_eq
    have hhs : (L.take p ++ (k, Value.ref x) :: L.drop p).map (fun p => U.hash p.1) = (L.map fun p => U.hash p.1).take p ++ U.hash k :: (L.map fun p => U.hash p.1).drop p := by
      rw [List.map_append, List.map_cons, List.map_take, List.map_drop]
    rw [← hhs] at q3
    have nd1 : ((L.take p ++ (k, Value.ref x) :: L.drop p).map (·.1)).Nodup := by
      refine (pm.map (·.1)).nodup_iff.mpr ?_
      rw [List.map_cons]
      exact List.nodup_cons.mpr ⟨hm, R.nd⟩
    have hes := rows_size hin
    rw [hlen] at hes
    generalize SetTable.insertAt es p (U.hash k, Value.ref x) = es1 at hin hes ⊢
    generalize L.take p ++ (k, Value.ref x) :: L.drop p = L1 at pm hlen q3 nd1 hin
    refine wpAny_bind (wpAny_storeSet_of ho hd ?_ (by rw [hes, sizeLine_eq]; omega))
    have sb : Heap.SameBut a s.heap (s.heap.update a (Obj.putSet es1 t1)) := Heap.SameBut.update ..
    have ho1 := store_at (es' := es1) (t' := t1) ho hd
    generalize s.heap.update a (Obj.putSet es1 t1) = h1 at sb ho1 ⊢
    have el1 : ∀ p ∈ L1, U.isV h1 p.1 p.2 := fun p hp => by
      rcases List.mem_cons.mp (pm.mem_iff.mp hp) with e | hp
      · rw [e]; exact isV_same ⟨x, rfl, hx⟩ ho hd sb
      · exact isV_same (R.elem p hp) ho hd sb
    have ld1 : w.params.followText "set-order" = true ∨ t1.led = true := by rw [q5]; exact R.led
    by_cases hf : t1.tooFull = true
    · first
        | (refine wpAny_bind ?_; refine wp_if_pos (by simp [hf]) ?_)
        | (refine wp_if_pos (by simp [hf]) ?_; refine wpAny_bind ?_)
      have hfull : (L.length + 1) * 5 ≥ t1.mask * 3 := by
        have h := hf
        unfold SetTable.tooFull at h
        rw [decide_eq_true_eq, q9, List.length_map] at h
        exact h
      rw [hsl]
      have hsz1 : t1.place.size = es1.size := by
        have h := q3.sz
        rw [List.length_map, hlen] at h
        rw [h, hes]
      have cases2 : (t.mask = 7 ∧ L.length = 4) ∨ (t.mask = 31 ∧ L.length = 18) := by
        rcases R.tab.mok with e | e | e
        · left; rw [q4, e] at hfull; rw [e] at hroom; exact ⟨e, by omega⟩
        · right; rw [q4, e] at hfull; rw [e] at hroom; exact ⟨e, by omega⟩
        · exfalso; rw [q4, e] at hfull; omega
      have go : ∀ M, SetTable.sizeAbove (SetTable.grown (L.length + 1)) - 1 = M → MaskOk M → SetTable.sizeAbove (SetTable.grown (L.length + 1)) ≤ 128 → (L.length + 1) * 5 < M * 3 →
          wpAny (model P w) A (setRelay a (SetTable.grown (L.length + 1))) (fun _ s' => wpAny (model P w) A (pure true) Q E s') E { s with heap := h1 } := fun M h1' h2' h3' h4' => by
        refine uRelay (s := { s with heap := h1 }) ho1 ⟨hex.1, hex.2.1, hex.2.2⟩ rfl hin hsz1 q3.dm (by rw [hes, q4]; rcases cases2 with ⟨e, e2⟩ | ⟨e, e2⟩ <;> omega) nd1 el1 ld1 (by rw [hlen]; exact hfew) h1' h2' h3' (by rw [hlen]; exact h4') ?_
        intro h2 L2 es2 ep2 t2 sb2 R2 pm2
        exact wpAny_pure (hQ true h2 L2 es2 ep2 t2 (sb.trans sb2) R2 (fun z => absurd z hm) fun _ => pm2.trans pm)
      rcases cases2 with ⟨_, e2⟩ | ⟨_, e2⟩
      · exact go 31 (by rw [e2, size_20]) (.inr (.inl rfl)) (by rw [e2, size_20]; decide) (by omega)
      · exact go 127 (by rw [e2, size_76]) (.inr (.inr rfl)) (by rw [e2, size_76]; decide) (by omega)
    · first
        | refine wp_if_neg (by simp [hf]) ?_
        | (refine wpAny_bind ?_; refine wp_if_neg (by simp [hf]) ?_; refine wpAny_pure ?_)
      refine wpAny_pure (hQ true h1 L1 es1 (ep + 1) t1 sb ⟨⟨q3, nd1, ld1, ?_, by rw [hlen]; exact hfew⟩, ⟨_, ho1, ⟨hex.1, hex.2.1, hex.2.2⟩, rfl⟩, hin, el1⟩ (fun z => absurd z hm) fun _ => pm)
      have h := hf
      unfold SetTable.tooFull at h
      rw [decide_eq_true_eq, q9, List.length_map] at h
      rw [hlen]
      omega
/-- a kind of elements -/
def UKind.kind (U : UKind P w κ) : SKind P w κ where
  is := U.isV
  set := fun h a L => ∃ es ep t, USet U h a L es ep t
  grow := fun ⟨b, e, hb⟩ g => ⟨b, e, U.grow hb g⟩
  fresh := fun {h a} ho => ⟨#[], 0, .fresh 0 0 (!w.params.followText "set-order"), ⟨⟨⟨List.Pairwise.nil, rfl, rfl, .inl rfl, fun x hx => (by cases hx), fun i h j hi => (by simp at hi)⟩, List.nodup_nil, by
    show _ ∨ (!w.params.followText "set-order") = true
    cases w.params.followText "set-order"
    · exact .inr rfl
    · exact .inl rfl, by
    show 0 * 5 < 7 * 3
    decide, by
    show 0 < 64
    decide⟩, ⟨_, ho, ⟨rfl, rfl, rfl⟩, rfl⟩, rfl, fun p hp => (by cases hp)⟩⟩
  keep := fun ⟨es, ep, t, R⟩ ha hk => by
    obtain ⟨o, ho, r⟩ := R.at_
    exact ⟨es, ep, t, ⟨R.toUTab, ⟨o, ha o ho, r⟩, R.rows, hk⟩⟩
  elem := fun ⟨_, _, _, R⟩ => R.elem
  nd := fun ⟨_, _, _, R⟩ => R.nd
  off := fun h a L => ∃ es ep t, UTab U t L ∧ (∃ o, h.get? a = some o ∧ o.ExactSet ∧ o.data = .set es ep t) ∧ es.toList = uRows U L
  offOf := fun ⟨es, ep, t, R⟩ => ⟨es, ep, t, R.toUTab, R.at_, R.rows⟩
  full := fun ⟨es, ep, t, h1, h2, h3⟩ el => ⟨es, ep, t, ⟨h1, h2, h3, el⟩⟩
  offAt := fun ⟨es, ep, t, h1, ⟨o, ho, r⟩, h3⟩ k => ⟨es, ep, t, h1, ⟨o, k o ho, r⟩, h3⟩
  offOb := fun ⟨es, ep, t, h1, ⟨o, ho, r⟩, h3⟩ => ⟨o, ho⟩
  inj := fun {h k k' v} ⟨b, e, hb⟩ ⟨b', e', hb'⟩ => by
    subst e
    cases e'
    exact U.inj hb hb'
  out := fun ⟨es, ep, t, R⟩ => by
    obtain ⟨o, ho, hex, hd⟩ := R.at_
    refine ⟨o, es, ep, t, ho, hex, hd, R.fits, ?_, R.tab.ris, R.led, ?_⟩
    · have := rows_size R.rows
      have := R.few
      unfold scanBound
      omega
    · rw [R.rows]
      unfold uRows
      rw [List.map_map] <;> rfl
  add := fun {A E s a L k v Q} hu ⟨es, ep, t, R⟩ ⟨b, e, hx⟩ hf h => by
    subst e
    unfold setAdd
    refine wpAny_holding (wpAny_bind (U.pyHash hu hx fun tk htk => ?_))
    exact uAdd (s := { s with toks := tk }) R hx hu hf fun b h' L' es' ep' t' sb R' c1 c2 => h b h' L' tk htk sb ⟨es', ep', t', R'⟩ c1 c2
end
end DL
namespace DL
open PySem PySem.Spec L2
open PyProof.Rows hiding St
variable [Tbl]
section
variable {P : Program} {w : World} {A : Around} {E : Value → Shared → Prop} {s : Shared}
abbrev IsTM (P : Program) (w : World) (h : Heap) (k : List Key) (b : Addr) : Prop := IsTupleKey (mixKind P w) h k b
theorem items_key {k : List Key} {vs : List Value} (h : ItemsAre (mixKind P w) k vs) : ∀ v ∈ vs, ∃ x, keyIs x v = true := by
  induction h with
  | nil => intro v hv; cases hv
  | @cons k0 v' ks vs h1 _ ih =>
    intro v hv
    rcases List.mem_cons.mp hv with e | hv
    · exact ⟨k0, by rw [e]; exact h1⟩
    · exact ih v hv
theorem ofAClass_key (n : Nat) {x : Key} {v : Value} (h : keyIs x v = true) : ofAClassStatement n v = pure false := by
  rcases keyIs_shape h with ⟨i, t, rfl, rfl⟩ | ⟨x, t, rfl, rfl⟩ <;> cases n <;> rfl
theorem hashBy_key (n : Nat) {x : Key} {v : Value} (h : keyIs x v = true) : ∃ c, hashByValue n v = pure c := ⟨_, hashByValue_scannable n (by rcases keyIs_shape h with ⟨i, t, rfl, rfl⟩ | ⟨x, t, rfl, rfl⟩ <;> rfl)⟩
theorem ofAClass_tm {k : List Key} {b : Addr} {Q : Bool → Shared → Prop} (hk : IsTM P w s.heap k b) (h : Q false s) : wpAny (model P w) A (ofAClassStatement 8 (.ref b)) Q E s := by
  have hT := hk.typeIs
  obtain ⟨o, items, n, ho, _, hd, hi⟩ := hk
  unfold ofAClassStatement
  refine wpAny_bind (wpAny_typeOf hT ?_)
  dsimp only
  have e : (("tuple" : String) == "tuple") = true := by decide
  simp only [e, if_true, Bool.not_true, Bool.false_eq_true, if_false]
  try refine wpAny_bind (wpAny_pure ?_)
  try simp only [Bool.not_true, Bool.false_eq_true, if_false]
  show wpAny _ _ (seqItems? (.ref b) >>= _) _ _ s
  refine wpAny_bind (wpAny_seqItems ho hd ?_)
  dsimp only
  refine wpAny_bind ?_
  show wpAny _ _ (forIn items _ _) _ _ s
  rw [← Array.forIn_toList]
  refine wpAny_forIn_list _ (fun rest r s' => r.1 = none ∧ s' = s ∧ ∀ v ∈ rest, ∃ x, keyIs x v = true) _ ?_ ?_ _ _ ⟨rfl, rfl, items_key hi⟩
  · rintro v rest r s' ⟨hr, rfl, hall⟩
    obtain ⟨x, hx⟩ := hall v List.mem_cons_self
    rw [ofAClass_key _ hx]
    refine wpAny_bind (wpAny_pure ?_)
    simp only [Bool.false_eq_true, if_false]
    exact wpAny_pure ⟨rfl, rfl, fun u hu' => hall u (List.mem_cons_of_mem _ hu')⟩
  · rintro ⟨r1, r2⟩ s' ⟨hr, rfl, _⟩
    simp only at hr
    subst hr
    exact wpAny_pure h
theorem hashBy_tm {k : List Key} {b : Addr} {Q : Bool → Shared → Prop} (hk : IsTM P w s.heap k b) (h : ∀ c, Q c s) : wpAny (model P w) A (hashByValue 8 (.ref b)) Q E s := by
  have hT := hk.typeIs
  obtain ⟨o, items, n, ho, _, hd, hi⟩ := hk
  unfold hashByValue
  refine wpAny_bind (wpAny_specialOf hT F.slot_tuple_hash.lookup ?_)
  show wpAny _ _ (seqItems? (.ref b) >>= _) _ _ s
  refine wpAny_bind (wpAny_seqItems ho hd ?_)
  refine wpAny_bind ?_
  show wpAny _ _ (forIn items _ _) _ _ s
  rw [← Array.forIn_toList]
  refine wpAny_forIn_list _ (fun rest r s' => s' = s ∧ ∀ v ∈ rest, ∃ x, keyIs x v = true) _ ?_ ?_ _ _ ⟨rfl, items_key hi⟩
  · rintro v rest r s' ⟨rfl, hall⟩
    obtain ⟨x, hx⟩ := hall v List.mem_cons_self
    obtain ⟨c, hc⟩ := hashBy_key 7 hx
    rw [hc]
    refine wpAny_bind (wpAny_pure ?_)
    cases c with
    | true =>
      simp only [Bool.not_true, Bool.false_eq_true, if_false]
      exact wpAny_pure ⟨rfl, fun u hu' => hall u (List.mem_cons_of_mem _ hu')⟩
    | false =>
      simp only [Bool.not_false, if_true]
      refine wpAny_pure ?_
      exact wpAny_pure (h false)
  · rintro ⟨r1, r2⟩ s' ⟨rfl, _⟩
    cases r1 with
    | none => exact wpAny_pure (h true)
    | some c => exact wpAny_pure (h c)
theorem seen_tm {k : List Key} {b : Addr} {Q : Bool → Shared → Prop} (hk : IsTM P w s.heap k b) {ys : List Value} (hy : ∀ y ∈ ys, ∃ k' c, y = Value.ref c ∧ IsTM P w s.heap k' c) (h : Q false s) :
    wpAny (model P w) A (searchCouldBeSeen (.ref b) ys) Q E s := by
  unfold searchCouldBeSeen
  refine wpAny_bind ?_
  refine wpAny_forIn_list _ (fun rest r s' => r.1 = none ∧ s' = s ∧ ∀ y ∈ rest, ∃ k' c, y = Value.ref c ∧ IsTM P w s.heap k' c) _ ?_ ?_ _ _ ⟨rfl, rfl, hy⟩
  · rintro v rest r s' ⟨hr, rfl, hall⟩
    obtain ⟨k', c, rfl, hc⟩ := hall v List.mem_cons_self
    have rest' : ∀ y ∈ rest, ∃ k' c, y = Value.ref c ∧ IsTM P w s'.heap k' c := fun u hu' => hall u (List.mem_cons_of_mem _ hu')
    dsimp only
    by_cases hv : (b == c || (carriedByValue (.ref b) && carriedByValue (.ref c))) = true
    · refine wp_if_pos hv ?_
      exact wpAny_pure ⟨rfl, rfl, rest'⟩
    · refine wp_if_neg hv ?_
      refine wpAny_bind (wpAny_eqIsQuiet_tuple hk ?_)
      simp only [Bool.not_true, Bool.false_eq_true, if_false]
      refine wpAny_bind (wpAny_eqIsQuiet_tuple hc ?_)
      simp only [Bool.not_true, Bool.false_eq_true, if_false]
      refine wpAny_bind (ofAClass_tm hk ?_)
      simp only [Bool.false_eq_true, if_false]
      refine wpAny_bind (ofAClass_tm hc ?_)
      simp only [Bool.false_eq_true, if_false]
      exact wpAny_pure ⟨rfl, rfl, rest'⟩
  · rintro ⟨r1, r2⟩ s' ⟨hr, rfl, _⟩
    simp only at hr
    subst hr
    exact wpAny_pure h
end
def tmKind (P : Program) (w : World) : UKind P w (List Key) where
  ob := IsTM P w
  hash := tupleKeyHash (mixKind P w)
  grow := fun ⟨o, items, n, ho, r⟩ g => ⟨o, items, n, g _ o ho, r⟩
  same := fun {h h' k a b o es ep t} hb ho hd hs => by
    obtain ⟨o', items, n, ho', hc, hd', hi⟩ := hb
    have hne : b ≠ a := by
      rintro rfl
      obtain rfl : o' = o := Option.some.inj (ho'.symm.trans ho)
      rw [hd] at hd'
      exact nomatch hd'
    exact ⟨o', items, n, (hs.2 b hne).trans ho', hc, hd', hi⟩
  inj := fun hx hy => hx.inj hy
  pyHash := fun {A E s k b Q} hu hk h => wpAny_pyHash_tuple hu hk (h _ (Nat.le_add_right _ _))
  eqBool := fun hu hx hy h => wpAny_eqBool_tuple hu hx hy h
  hashBy := fun hk h => hashBy_tm hk h
  seen := fun hk hy h => seen_tm hk hy h
section
variable {P : Program} {w : World} {A : Around} {E : Value → Shared → Prop} {s : Shared}
structure KSet (P : Program) (w : World) (h : Heap) (a : Addr) (L : List (Key × Value)) (es : Array (Int × Value)) (ep : Nat) (t : SetTable) : Prop where
  at_ : ∃ o, h.get? a = some o ∧ o.ExactSet ∧ o.data = .set es ep t
  rows : es.toList = L.map fun p => (keyH w p.1, p.2)
  elem : ∀ p ∈ L, keyIs p.1 p.2 = true
  nd : (L.map (·.1)).Nodup
  fits : t.fits es.size = true
  few : L.length < 64
  ris : Ris t.place.toList
  led : w.params.followText "set-order" = true ∨ t.led = true
theorem KSet.size {h : Heap} {a : Addr} {L : List (Key × Value)} {es : Array (Int × Value)} {ep : Nat} {t : SetTable} (R : KSet P w h a L es ep t) : es.size = L.length := by
  have := congrArg List.length R.rows
  simpa using this
theorem key_scannable {k : Key} {v : Value} (h : keyIs k v = true) : v.scannable = true := by
  rcases keyIs_shape h with ⟨i, t, rfl, rfl⟩ | ⟨x, t, rfl, rfl⟩ <;> rfl
theorem KSet.elems {h : Heap} {a : Addr} {L : List (Key × Value)} {es : Array (Int × Value)} {ep : Nat} {t : SetTable} (R : KSet P w h a L es ep t) : ElemsOf (mixKind P w) es.toList := by
  intro e he
  rw [R.rows] at he
  obtain ⟨p, hp, rfl⟩ := List.mem_map.mp he
  exact ⟨⟨p.1, R.elem p hp, rfl⟩, key_scannable (R.elem p hp)⟩
def keyOfV : Value → Key
  | .int i _ => .inl i
  | .str x _ => .inr x
  | _ => .inl 0
theorem keyOfV_eq {k : Key} {v : Value} (h : keyIs k v = true) : keyOfV v = k := by
  rcases keyIs_shape h with ⟨i, t, rfl, rfl⟩ | ⟨x, t, rfl, rfl⟩ <;> rfl
/-- rows, rearranged -/
theorem rows_perm {w : World} {L : List (Key × Value)} {l : List (Int × Value)} (p : l.Perm (L.map fun p : Key × Value => (keyH w p.1, p.2))) (hL : ∀ p ∈ L, keyIs p.1 p.2 = true) : ∃ M : List (Key × Value), l = M.map (fun p => (keyH w p.1, p.2)) ∧ M.Perm L := by
  refine ⟨l.map fun e => (keyOfV e.2, e.2), ?_, ?_⟩
  · rw [List.map_map]
    refine (List.map_id l).symm.trans (List.map_congr_left fun e he => ?_)
    obtain ⟨q, hq, e1⟩ := List.mem_map.mp (p.mem_iff.mp he)
    subst e1
    show (keyH w q.1, q.2) = (keyH w (keyOfV q.2), q.2)
    rw [keyOfV_eq (hL q hq)]
  · have p2 := p.map fun e : Int × Value => (keyOfV e.2, e.2)
    rw [List.map_map] at p2
    have e : L.map ((fun e : Int × Value => (keyOfV e.2, e.2)) ∘ fun p : Key × Value => (keyH w p.1, p.2)) = L := by
      refine (List.map_congr_left fun q hq => ?_).trans (List.map_id L)
      show (keyOfV q.2, q.2) = q
      rw [keyOfV_eq (hL q hq)]
    rw [e] at p2
    exact p2
theorem kTail {g : Bool → Sem Unit} (hg : ∀ (b : Bool) (s₁ : Shared) (Q' : Unit → Shared → Prop), Q' () s₁ → wpAny (model P w) A (g b) Q' E s₁)
    {a : Addr} {o : Obj} {es : Array (Int × Value)} {ep : Nat} {t : SetTable} (ho : s.heap.get? a = some o) (hex : o.ExactSet) (hd : o.data = .set es ep t)
    {es1 : Array (Int × Value)} {t2 : SetTable} {L : List (Key × Value)} (r1 : es1.toList = L.map fun p => (keyH w p.1, p.2)) (el : ∀ p ∈ L, keyIs p.1 p.2 = true) (nd : (L.map (·.1)).Nodup) (few : L.length < 64)
    (hf2 : t2.fits es1.size = true) (hr : Ris t2.place.toList) (hl : w.params.followText "set-order" = true ∨ t2.led = true) {wasDummy : Bool} {R : Option Bool → Shared → Prop}
    (hR : ∀ h' L' es' ep' t', Heap.SameBut a s.heap h' → KSet P w h' a L' es' ep' t' → L'.Perm L → R (some true) { s with heap := h' }) :
    wpAny (model P w) A (do
        storeSet a es1 t2
        if (!wasDummy && t2.tooFull) = true then do
            g (relayAll t2 es1 (SetTable.grown es1.size)).2.2
            storeSet a (relayAll t2 es1 (SetTable.grown es1.size)).1 (relayAll t2 es1 (SetTable.grown es1.size)).2.1
            pure (some true)
          else pure (some true)) R E s := by
  have hz1 : es1.size = L.length := by have := congrArg List.length r1; simpa using this
  have hb1 : es1.size < scanBound := by rw [hz1]; unfold scanBound; omega
  refine wpAny_bind (wpAny_storeSet_of ho hd ?_ (fits_of_scanBound hb1))
  have ho1 := store_at (es' := es1) (t' := t2) ho hd
  have sb1 := Heap.SameBut.update s.heap a (Obj.putSet es1 t2)
  split
  · have pm := relayAll_perm t2 es1 (SetTable.grown es1.size)
    have hf3 := relayAll_fits t2 es1 (SetTable.grown es1.size)
    have hr3 := relayAll_ris t2 es1 (SetTable.grown es1.size)
    have hl3 := relayAll_led t2 es1 (SetTable.grown es1.size)
    generalize relayAll t2 es1 (SetTable.grown es1.size) = Z at pm hf3 hr3 hl3 ⊢
    obtain ⟨es2, t3, gave⟩ := Z
    dsimp only at pm hf3 hr3 hl3 ⊢
    rw [r1] at pm
    obtain ⟨M, e2, pM⟩ := rows_perm pm el
    have hsz : es2.size = es1.size := by
      rw [hz1, ← pM.length_eq]
      have := congrArg List.length e2
      simpa using this
    refine wpAny_bind (hg _ _ _ ?_)
    refine wpAny_bind (wpAny_storeSet_of ho1 rfl ?_ (fits_of_scanBound (by rw [hsz]; exact hb1)))
    have ho2 := store_at (es' := es2) (t' := t3) ho1 rfl
    refine wpAny_pure (hR _ M es2 _ t3 (sb1.trans (Heap.SameBut.update _ a _)) ⟨⟨_, ho2, ⟨hex.1, hex.2.1, hex.2.2⟩, rfl⟩, e2, fun p hp => el p (pM.mem_iff.mp hp), (pM.map (·.1)).nodup_iff.mpr nd, hf3, by rw [pM.length_eq]; exact few, hr3, hl.imp id fun z => by rw [hl3]; exact z⟩ pM)
  · exact wpAny_pure (hR _ L es1 _ t2 sb1 ⟨⟨_, ho1, ⟨hex.1, hex.2.1, hex.2.2⟩, rfl⟩, r1, el, nd, hf2, few, hr, hl⟩ (List.Perm.refl _))
theorem kAdd {a : Addr} {L : List (Key × Value)} {es : Array (Int × Value)} {ep : Nat} {t : SetTable} {k : Key} {v : Value} (R : KSet P w s.heap a L es ep t) (hk : keyIs k v = true) (hfew : L.length + 1 < 64) {Q : Bool → Shared → Prop}
    (hQ : ∀ b h' L' es' ep' t', Heap.SameBut a s.heap h' → KSet P w h' a L' es' ep' t' → (k ∈ L.map (·.1) → L' = L) → (k ∉ L.map (·.1) → L'.Perm ((k, v) :: L)) → Q b { s with heap := h' }) :
    wpAny (model P w) A (setAddHashed a v (keyH w k)) Q E s := by
  obtain ⟨o, ho, hex, hd⟩ := R.at_
  have hsz := R.size
  have hb : es.size < scanBound := by rw [hsz]; unfold scanBound; omega
  have hel := R.elems
  have hsc := key_scannable hk
  have hkey : (mixKind P w).is k v = true := hk
  unfold setAddHashed setAddHashedIn
  refine wpAny_holding (wpAny_bind (wpAny_setState_of ho hd R.fits ?_))
  dsimp only
  rw [byScan_of hsc hb hel]
  simp only [↓reduceIte]
  unfold setAddByScan
  refine wpAny_bind ?_
  refine wpAny_bind (wpAny_rule ?_)
  refine wpAny_bind (wpAny_setScan_of (knd := mixKind P w) (k := k) hkey ho hd R.fits hel ?_)
  cases hfi : List.findIdx? (fun e => (mixKind P w).is k e.2) es.toList with
  | some j =>
    dsimp only
    obtain ⟨hj, pj, _⟩ := List.findIdx?_eq_some_iff_getElem.mp hfi
    have hm : k ∈ L.map (·.1) := by
      have hin : es.toList[j] ∈ L.map fun p : Key × Value => (keyH w p.1, p.2) := R.rows ▸ List.getElem_mem hj
      obtain ⟨p, hp, e⟩ := List.mem_map.mp hin
      rw [← e] at pj
      refine List.mem_map.mpr ⟨p, hp, ?_⟩
      exact (mixKind P w).inj p.2 p.1 k (R.elem p hp) pj
    exact wpAny_pure (wpAny_pure (hQ false s.heap L es ep t (Heap.SameBut.refl a s.heap) R (fun _ => rfl) fun z => absurd hm z))
  | none =>
    dsimp only
    have hm : k ∉ L.map (·.1) := fun z => by
      obtain ⟨p, hp, e⟩ := List.mem_map.mp z
      have hin : (keyH w p.1, p.2) ∈ es.toList := by rw [R.rows]; exact List.mem_map.mpr ⟨p, hp, rfl⟩
      have c := List.findIdx?_eq_none_iff.mp hfi _ hin
      rw [← e] at c
      rw [show (mixKind P w).is p.1 p.2 = true from R.elem p hp] at c
      cases c
    have hgw : ∀ (b : Bool) {s₁ : Shared} {Q' : Unit → Shared → Prop}, Q' () s₁ → wpAny (model P w) A (match b with | true => rule "set.scan.the-table-gave-way" | false => pure ()) Q' E s₁ :=
      fun b s₁ Q' q => by cases b <;> first | exact wpAny_pure q | exact wpAny_rule q
    have pm := layNew_perm t es (keyH w k) v
    have hf1 := layNew_fits t es (keyH w k) v
    have hr1 := layNew_ris t es (keyH w k) v R.ris
    have hl1 := layNew_led t es (keyH w k) v
    generalize layNew t es (keyH w k) v = Z at pm hf1 hr1 hl1 ⊢
    obtain ⟨es1, t1, wasDummy, gave⟩ := Z
    dsimp only at pm hf1 hr1 hl1 ⊢
    rw [Array.toList_push] at pm
    have pc : es1.toList.Perm (((k, v) :: L).map fun p : Key × Value => (keyH w p.1, p.2)) := by
      rw [List.map_cons, ← R.rows]
      exact pm.trans (List.perm_append_singleton _ _)
    obtain ⟨M, e1, pM⟩ := rows_perm pc fun p hp => by
      rcases List.mem_cons.mp hp with z | z
      · rw [z]; exact hk
      · exact R.elem p z
    have elM : ∀ p ∈ M, keyIs p.1 p.2 = true := fun p hp => by
      rcases List.mem_cons.mp (pM.mem_iff.mp hp) with z | z
      · rw [z]; exact hk
      · exact R.elem p z
    have ndM : (M.map (·.1)).Nodup := by
      refine (pM.map (·.1)).nodup_iff.mpr ?_
      rw [List.map_cons]
      exact List.nodup_cons.mpr ⟨hm, R.nd⟩
    have fewM : M.length < 64 := by rw [pM.length_eq]; exact hfew
    have hled : w.params.followText "set-order" = true ∨ t1.led = true := R.led.imp id fun z => by rw [hl1]; exact z
    refine wpAny_bind (hgw _ ?_)
    split
    · refine wpAny_bind ?_
      rw [hashByValue_scannable 8 hsc]
      refine wpAny_pure ?_
      refine kTail (P := P) ?_ ho hex hd e1 elM ndM fewM ?_ ?_ ?_ ?_
      · intro b s₁ Q' q; cases b <;> first | exact wpAny_pure q | exact wpAny_rule q
      · first | (split <;> first | exact hf1 | exact SetTable.fits_plain_off hf1) | exact hf1
      · first | (split <;> exact hr1) | exact hr1
      · first | (split <;> exact hled) | exact hled
      · intro h' L' es' ep' t' sb r pl; dsimp only; exact wpAny_pure (hQ true h' L' es' ep' t' sb r (fun z => absurd z hm) fun _ => pl.trans pM)
    · refine wpAny_bind (wpAny_pure ?_)
      simp only [↓reduceIte]
      refine kTail (P := P) ?_ ho hex hd e1 elM ndM fewM hf1 hr1 hled ?_
      · intro b s₁ Q' q; cases b <;> first | exact wpAny_pure q | exact wpAny_rule q
      · intro h' L' es' ep' t' sb r pl; dsimp only; exact wpAny_pure (hQ true h' L' es' ep' t' sb r (fun z => absurd z hm) fun _ => pl.trans pM)
end
/-- texts and ints as elements -/
def keyKind (P : Program) (w : World) : SKind P w Key where
  is := fun _ k v => keyIs k v = true
  set := fun h a L => ∃ es ep t, KSet P w h a L es ep t
  grow := fun h _ => h
  fresh := fun {h a} ho => ⟨#[], 0, .fresh 0 0 (!w.params.followText "set-order"), ⟨⟨_, ho, ⟨rfl, rfl, rfl⟩, rfl⟩, rfl, fun p hp => (by cases hp), List.nodup_nil, rfl, by show 0 < 64; decide, List.Pairwise.nil, by
    show _ ∨ (!w.params.followText "set-order") = true
    cases w.params.followText "set-order"
    · exact .inr rfl
    · exact .inl rfl⟩⟩
  keep := fun ⟨es, ep, t, R⟩ ha hk => by
    obtain ⟨o, ho, r⟩ := R.at_
    exact ⟨es, ep, t, ⟨⟨o, ha o ho, r⟩, R.rows, hk, R.nd, R.fits, R.few, R.ris, R.led⟩⟩
  elem := fun ⟨_, _, _, R⟩ => R.elem
  nd := fun ⟨_, _, _, R⟩ => R.nd
  off := fun h a L => ∃ es ep t, KSet P w h a L es ep t
  offOf := fun R => R
  full := fun R _ => R
  offAt := fun ⟨es, ep, t, R⟩ k => by
    obtain ⟨o, ho, r⟩ := R.at_
    exact ⟨es, ep, t, ⟨⟨o, k o ho, r⟩, R.rows, R.elem, R.nd, R.fits, R.few, R.ris, R.led⟩⟩
  offOb := fun ⟨es, ep, t, R⟩ => let ⟨o, ho, _⟩ := R.at_; ⟨o, ho⟩
  inj := fun {h k k' v} h1 h2 => (mixKind P w).inj v k k' h1 h2
  out := fun ⟨es, ep, t, R⟩ => by
    obtain ⟨o, ho, hex, hd⟩ := R.at_
    refine ⟨o, es, ep, t, ho, hex, hd, R.fits, ?_, R.ris, R.led, ?_⟩
    · rw [R.size]
      have := R.few
      unfold scanBound
      omega
    · rw [R.rows, List.map_map] <;> rfl
  add := fun {A E s a L k v Q} hu ⟨es, ep, t, R⟩ hx hf h => by
    unfold setAdd
    refine wpAny_holding (wpAny_bind ((mixKind P w).pyHash hx ?_))
    exact kAdd (s := { s with toks := s.toks + 1 }) R hx hf fun b h' L' es' ep' t' sb R' c1 c2 => h b h' L' (s.toks + 1) (Nat.le_succ _) sb ⟨es', ep', t', R'⟩ c1 c2
end DL
namespace DL
open PySem PySem.Spec L2
open PyProof.Rows hiding St
variable [Tbl]
structure LinB {α : Type} (lt : α → α → Bool) : Prop where
  irr : ∀ x, lt x x = false
  tr : ∀ x y z, lt x y = true → lt y z = true → lt x z = true
  tot : ∀ x y, lt x y = false → lt y x = false → x = y
theorem LinB.asym {α : Type} {lt : α → α → Bool} (O : LinB lt) {x y : α} (h : lt x y = true) : lt y x = false := by
  cases q : lt y x with
  | false => rfl
  | true =>
    have := O.tr x y x h q
    rw [O.irr] at this; cases this
theorem LinB.swo {α : Type} {lt : α → α → Bool} (O : LinB lt) : SrtO.Swo lt := ⟨fun x y h => O.asym h, fun x y z h1 h2 => by
  cases q : lt z x with
  | false => rfl
  | true =>
    cases p : lt x y with
    | true =>
      have := O.tr z x y q p
      rw [h2] at this; cases this
    | false =>
      have e := O.tot x y p h1
      subst e
      rw [h2] at q; cases q⟩
def kLt : Key → Key → Bool
  | .inl i, .inl j => decide (i < j)
  | .inr x, .inr y => decide (x.cps.toList < y.cps.toList)
  | .inl _, .inr _ => true
  | .inr _, .inl _ => false
theorem str_ext {x y : Str} (h : x.cps.toList = y.cps.toList) : x = y := by
  cases x; cases y
  congr
  exact Array.toList_inj.mp h
theorem kLt_lin : LinB kLt where
  irr := fun x => by
    cases x with
    | inl i => simp [kLt]
    | inr x => exact decide_eq_false (List.lt_irrefl _)
  tr := fun x y z h1 h2 => by
    cases x <;> cases y <;> cases z <;> simp only [kLt, decide_eq_true_eq, reduceCtorEq] at h1 h2 ⊢
    · omega
    · exact List.lt_trans h1 h2
  tot := fun x y h1 h2 => by
    cases x <;> cases y <;> simp only [kLt, decide_eq_false_iff_not, reduceCtorEq] at h1 h2
    · congr 1; omega
    · exact congrArg Sum.inr (str_ext (List.le_antisymm (List.not_lt.mp h2) (List.not_lt.mp h1)))
def lexLt {α : Type} [DecidableEq α] (lt : α → α → Bool) : List α → List α → Bool
  | [], [] => false
  | [], _ :: _ => true
  | _ :: _, [] => false
  | a :: as, b :: bs => if a = b then lexLt lt as bs else lt a b
theorem lexLt_lin {α : Type} [DecidableEq α] {lt : α → α → Bool} (O : LinB lt) : LinB (lexLt lt) where
  irr := fun x => by
    induction x with
    | nil => rfl
    | cons a as ih => simp [lexLt, ih]
  tr := fun x => by
    induction x with
    | nil =>
      intro y z h1 h2
      cases y with
      | nil => cases h1
      | cons b bs =>
        cases z with
        | nil => cases h2
        | cons c cs => rfl
    | cons a as ih =>
      intro y z h1 h2
      cases y with
      | nil => cases h1
      | cons b bs =>
        cases z with
        | nil => cases h2
        | cons c cs =>
          simp only [lexLt] at h1 h2 ⊢
          by_cases e1 : a = b
          · subst e1
            rw [if_pos rfl] at h1
            by_cases e2 : a = c
            · subst e2
              rw [if_pos rfl] at h2 ⊢
              exact ih bs cs h1 h2
            · rw [if_neg e2] at h2 ⊢
              exact h2
          · rw [if_neg e1] at h1
            by_cases e2 : b = c
            · subst e2
              rw [if_pos rfl] at h2
              rw [if_neg e1]
              exact h1
            · rw [if_neg e2] at h2
              have h3 := O.tr a b c h1 h2
              by_cases e3 : a = c
              · subst e3
                rw [O.irr] at h3; cases h3
              · rw [if_neg e3]; exact h3
  tot := fun x => by
    induction x with
    | nil =>
      intro y h1 h2
      cases y with
      | nil => rfl
      | cons b bs => cases h1
    | cons a as ih =>
      intro y h1 h2
      cases y with
      | nil => cases h2
      | cons b bs =>
        simp only [lexLt] at h1 h2
        by_cases e : a = b
        · subst e
          rw [if_pos rfl] at h1 h2
          rw [ih bs h1 h2]
        · rw [if_neg e] at h1
          rw [if_neg (Ne.symm e)] at h2
          exact absurd (O.tot a b h1 h2) e
abbrev tLt : List Key → List Key → Bool := lexLt kLt
/-- both texts or both ints -/
def sameT : Key → Key → Bool
  | .inl _, .inl _ => true
  | .inr _, .inr _ => true
  | _, _ => false
def lexOk : List Key → List Key → Bool
  | a :: as, b :: bs => if a = b then lexOk as bs else sameT a b
  | _, _ => true
def firstOk : List Key → List Key → Bool
  | a :: _, b :: _ => sameT a b
  | _, _ => false
def tOk (k k' : List Key) : Bool := lexOk k k' && firstOk k k'
structure SSort (P : Program) (w : World) {κ : Type} (is : Heap → κ → Value → Prop) where
  lt : κ → κ → Bool
  ok : κ → κ → Bool
  lin : LinB lt
  stab : ∀ {h h' : Heap} {k : κ} {v : Value}, is h k v → (∀ b o, o.cls = .type "tuple" → h.get? b = some o → h'.get? b = some o) → is h' k v
  srt : ∀ {A : Around} {s : Shared} {vs : List Value} {kk : Value → κ}, 2 ≤ vs.length → (∀ v ∈ vs, is s.heap (kk v) v) → (∀ v ∈ vs, ∀ u ∈ vs, ok (kk v) (kk u) = true) →
    ∃ κ', (∀ (Q : SortKind → Shared → Prop) (E : Value → Shared → Prop), Q κ' s → wpAny (model P w) A (keyKind' vs.toArray) Q E s) ∧ SrtO.Cmp P w A s κ' (fun p => p.1 ∈ vs) (SrtO.lt2 fun v u => lt (kk v) (kk u))
section
variable {P : Program} {w : World} {A : Around} {E : Value → Shared → Prop} {s : Shared}
theorem sameT_shape {k k' : Key} {v v' : Value} (h : keyIs k v = true) (h' : keyIs k' v' = true) (hs : sameT k k' = true) : (∃ i j t u, k = .inl i ∧ k' = .inl j ∧ v = .int i t ∧ v' = .int j u) ∨ (∃ x y t u, k = .inr x ∧ k' = .inr y ∧ v = .str x t ∧ v' = .str y u) := by
  rcases keyIs_shape h with ⟨i, t, rfl, rfl⟩ | ⟨x, t, rfl, rfl⟩ <;> rcases keyIs_shape h' with ⟨j, u, rfl, rfl⟩ | ⟨y, u, rfl, rfl⟩ <;> simp only [sameT, reduceCtorEq] at hs
  · exact .inl ⟨i, j, t, u, rfl, rfl, rfl, rfl⟩
  · exact .inr ⟨x, y, t, u, rfl, rfl, rfl, rfl⟩
theorem oneLt_key {k k' : Key} {v v' : Value} {b : Bool} {Q : Bool → Shared → Prop} (h : keyIs k v = true) (h' : keyIs k' v' = true) (hs : sameT k k' = true) (q : Q (kLt k k') s) : wpAny (model P w) A (oneLt' b v v') Q E s := by
  rcases sameT_shape h h' hs with ⟨i, j, t, u, rfl, rfl, rfl, rfl⟩ | ⟨x, y, t, u, rfl, rfl, rfl, rfl⟩
  · cases b with
    | true => exact oneLt_int q
    | false => exact PySem.W.kat_one _ _ (PyProof.Rows.lt_int q)
  · cases b with
    | true => exact oneLt_str q
    | false => exact PySem.W.kat_one _ _ (PyProof.Rows.lt_str q)
theorem strs_all : ∀ {l : List Value}, (∀ v ∈ l, ∃ y u, v = Value.str y u) → ∃ ss, StrsAre l ss
  | [], _ => ⟨[], .nil⟩
  | v :: l, all => by
    obtain ⟨y, u, rfl⟩ := all v (by simp)
    obtain ⟨ss, hs⟩ := strs_all (l := l) fun x hx => all x (by simp [hx])
    exact ⟨y :: ss, .cons y u hs⟩
/-- texts, ints -/
theorem key_srt {vs : List Value} {kk : Value → Key} (h2 : 2 ≤ vs.length) (hi : ∀ v ∈ vs, keyIs (kk v) v = true) (hok : ∀ v ∈ vs, ∀ u ∈ vs, sameT (kk v) (kk u) = true) :
    ∃ κ', (∀ (Q : SortKind → Shared → Prop) (E : Value → Shared → Prop), Q κ' s → wpAny (model P w) A (keyKind' vs.toArray) Q E s) ∧ SrtO.Cmp P w A s κ' (fun p => p.1 ∈ vs) (SrtO.lt2 fun v u => kLt (kk v) (kk u)) := by
  refine ⟨oneType', fun Q E q => ?_, fun p q hp hq => ?_⟩
  · obtain ⟨v₁, v₂, r, rfl⟩ : ∃ v₁ v₂ r, vs = v₁ :: v₂ :: r := by
      match vs, h2 with
      | v₁ :: v₂ :: r, _ => exact ⟨v₁, v₂, r, rfl⟩
    rcases keyIs_shape (hi v₁ (by simp)) with ⟨i, t, e1, e2⟩ | ⟨x, t, e1, e2⟩
    · have : ∃ ns, IntsAre (v₁ :: v₂ :: r) ns := by
        refine ⟨_, intsAre_map _ fun v hv => ?_⟩
        rcases sameT_shape (hi v₁ (by simp)) (hi v hv) (hok v₁ (by simp) v hv) with ⟨_, j, _, u, _, _, _, e⟩ | ⟨_, _, _, _, e, _⟩
        · exact ⟨j, u, e⟩
        · rw [e1] at e; cases e
      obtain ⟨ns, hn⟩ := this
      rw [keyKind_ints hn]
      exact wpAny_pure q
    · have : ∃ ss, StrsAre (v₁ :: v₂ :: r) ss := by
        have all : ∀ v ∈ v₁ :: v₂ :: r, ∃ y u, v = Value.str y u := fun v hv => by
          rcases sameT_shape (hi v₁ (by simp)) (hi v hv) (hok v₁ (by simp) v hv) with ⟨_, _, _, _, e, _⟩ | ⟨_, y, _, u, _, _, _, e⟩
          · rw [e1] at e; cases e
          · exact ⟨y, u, e⟩
        exact strs_all all
      obtain ⟨ss, hn⟩ := this
      rw [keyKind_strs hn]
      exact wpAny_pure q
  · show wpAny (model P w) A (oneLt' true p.1 q.1) _ _ s
    exact oneLt_key (hi _ hp) (hi _ hq) (hok _ hp _ hq) ⟨rfl, rfl⟩
end
def keySort (P : Program) (w : World) : SSort P w (keyKind P w).is where
  lt := kLt
  ok := sameT
  lin := kLt_lin
  stab := fun h _ => h
  srt := fun h2 hi hok => key_srt h2 hi hok
section
variable {P : Program} {w : World} {A : Around} {E : Value → Shared → Prop} {s : Shared}
theorem katlex_tm {Q : Bool → Shared → Prop} : ∀ {k k' : List Key} {vs vs' : List Value} {i : Nat} {fin : Bool}, ItemsAre (mixKind P w) k vs → ItemsAre (mixKind P w) k' vs' → lexOk k k' = true → fin = decide (k.length < k'.length) → Q (tLt k k') s → PySem.W.KatLex P w A true fin Q (vs.zip vs') i s
  | [], [], _, _, _, _, .nil, .nil, _, hf, q => by
    subst hf
    exact PySem.W.kat_nil q
  | [], _ :: _, _, _, _, _, .nil, .cons _ _, _, hf, q => by
    subst hf
    exact PySem.W.kat_nil q
  | _ :: _, [], _, _, _, _, .cons _ _, .nil, _, hf, q => by
    subst hf
    exact PySem.W.kat_nil q
  | a :: as, b :: bs, _, _, i, fin, .cons h1 t1, .cons h2 t2, ok, hf, q => by
    refine PySem.W.kat_cons ((mixKind P w).eqBool h1 h2 ?_)
    refine PySem.W.kat_go (fun e => ?_) fun e => ?_
    · have e := of_decide_eq_true e
      subst e
      simp only [lexOk, if_true] at ok
      simp only [tLt, lexLt, if_true] at q
      refine PySem.W.kat_yes (katlex_tm t1 t2 ok ?_ q)
      rw [hf]
      simp
    · have e := of_decide_eq_false e
      simp only [lexOk, if_neg e] at ok
      simp only [tLt, lexLt, if_neg e] at q
      exact PySem.W.kat_no (oneLt_key h1 h2 ok q)
theorem firsts_tm {h : Heap} : ∀ {vs : List Value} {kk : Value → List Key}, (∀ v ∈ vs, (tmKind P w).isV h (kk v) v) → (∀ v ∈ vs, kk v ≠ []) → ∃ fs : List Value, PySem.W.KatTups h vs fs ∧ fs.length = vs.length ∧ ∀ f ∈ fs, ∃ v ∈ vs, ∃ a r, kk v = a :: r ∧ keyIs a f = true
  | [], _, _, _ => ⟨[], PySem.W.KatTups.nil, rfl, fun _ hm => by simp at hm⟩
  | v :: vs, kk, hp, hne => by
    obtain ⟨fs, h1, h2, h3⟩ := firsts_tm (vs := vs) (kk := kk) (fun v' hm => hp v' (List.mem_cons_of_mem _ hm)) fun v' hm => hne v' (List.mem_cons_of_mem _ hm)
    obtain ⟨b, e, o, items, n, ho, hc, hd, hi⟩ := hp v (by simp)
    have hn := hne v (by simp)
    generalize hk : kk v = k at hi hn
    generalize hit : items.toList = l at hi
    cases hi with
    | nil => exact absurd rfl hn
    | @cons a f as fs' hf t =>
      subst e
      refine ⟨f :: fs, PySem.W.KatTups.cons ho hc hd ?_ h1, by simp [h2], fun g hg => ?_⟩
      · rw [← Array.getElem?_toList, hit]; rfl
      · rcases List.mem_cons.mp hg with rfl | hg
        · exact ⟨_, by simp, a, as, hk, hf⟩
        · obtain ⟨v', hv', r⟩ := h3 g hg
          exact ⟨v', by simp [hv'], r⟩
theorem tm_srt {vs : List Value} {kk : Value → List Key} (h2 : 2 ≤ vs.length) (hi : ∀ v ∈ vs, (tmKind P w).isV s.heap (kk v) v) (hok : ∀ v ∈ vs, ∀ u ∈ vs, tOk (kk v) (kk u) = true) :
    ∃ κ', (∀ (Q : SortKind → Shared → Prop) (E : Value → Shared → Prop), Q κ' s → wpAny (model P w) A (keyKind' vs.toArray) Q E s) ∧ SrtO.Cmp P w A s κ' (fun p => p.1 ∈ vs) (SrtO.lt2 fun v u => tLt (kk v) (kk u)) := by
  have ok1 : ∀ v ∈ vs, ∀ u ∈ vs, lexOk (kk v) (kk u) = true ∧ firstOk (kk v) (kk u) = true := fun v hv u hu => by
    have := hok v hv u hu
    unfold tOk at this
    exact Bool.and_eq_true_iff.mp this
  obtain ⟨v0, hv0⟩ : ∃ v, v ∈ vs := by
    match vs, h2 with
    | v :: _, _ => exact ⟨v, by simp⟩
  have hne : ∀ v ∈ vs, kk v ≠ [] := fun v hv e => by
    have := (ok1 v hv v hv).2
    rw [e] at this
    cases this
  obtain ⟨fs, k1, k2, k3⟩ := firsts_tm hi hne
  -- the firsts are of one type
  have hT : ∃ T : String, T ≠ "tuple" ∧ ∀ f ∈ fs, PySem.W.Looks (model P w) s.heap (typeOf f) (.type T) := by
    cases q : kk v0 with
    | nil => exact absurd q (hne v0 hv0)
    | cons a0 r0 =>
      have st : ∀ f ∈ fs, ∃ a, keyIs a f = true ∧ sameT a0 a = true := fun f hf => by
        obtain ⟨v, hv, a, r, e, ha⟩ := k3 f hf
        refine ⟨a, ha, ?_⟩
        have := (ok1 v0 hv0 v hv).2
        rw [q, e] at this
        exact this
      cases a0 with
      | inl i =>
        refine ⟨"int", by decide, fun f hf => ?_⟩
        obtain ⟨a, ha, hs⟩ := st f hf
        rcases keyIs_shape ha with ⟨j, u, rfl, rfl⟩ | ⟨y, u, rfl, rfl⟩
        · exact PySem.W.Looks.now
        · cases hs
      | inr x =>
        refine ⟨"str", by decide, fun f hf => ?_⟩
        obtain ⟨a, ha, hs⟩ := st f hf
        rcases keyIs_shape ha with ⟨j, u, rfl, rfl⟩ | ⟨y, u, rfl, rfl⟩
        · cases hs
        · exact PySem.W.Looks.now
  obtain ⟨T, hTn, hT⟩ := hT
  refine ⟨tuples' true, fun Q E hq => ?_, fun p q hp hq => ?_⟩
  · refine PySem.W.kat_kind (T := .type T) k1 (by omega) hT (by simp) ?_
    rw [show (Value.type T != Value.type "tuple") = true from by simp [hTn]]
    exact hq
  · obtain ⟨b, e, o, items, n, ho, hc, hd, hit⟩ := hi _ hp
    obtain ⟨b', e', o', items', n', ho', hc', hd', hit'⟩ := hi _ hq
    rw [e, e']
    rw [e] at hit
    rw [e'] at hit'
    refine PySem.W.kat_lt ho hd ho' hd' ?_
    have l1 := hit.length
    have l2 := hit'.length
    have ok2 := (ok1 _ hp _ hq).1
    rw [e, e'] at ok2
    refine katlex_tm hit hit' ok2 (by rw [l1, l2]; simp) ⟨rfl, ?_⟩
    show tLt (kk (.ref b)) (kk (.ref b')) = tLt (kk p.1) (kk q.1)
    rw [e, e']
end
def tmSort (P : Program) (w : World) : SSort P w (tmKind P w).kind.is where
  lt := tLt
  ok := tOk
  lin := lexLt_lin kLt_lin
  stab := fun ⟨b, e, o, items, n, ho, hc, r⟩ g => ⟨b, e, o, items, n, g b o hc ho, hc, r⟩
  srt := fun h2 hi hok => tm_srt h2 hi hok
end DL
namespace DL
open PySem PySem.Spec L2
open PyProof.Rows hiding St
variable [Tbl]
section
variable {P : Program} {w : World} {A : Around} {E : Value → Shared → Prop} {s : Shared}
theorem collect_seq {l : Addr} {o : Obj} {T : String} {vs : List Value} {n : Nat} {Q : List Value → Shared → Prop} (ho : s.heap.get? l = some o) (hc : o.cls = .type T) (hT : T = "list" ∨ T = "tuple") (hd : o.data = .seq vs.toArray n)
    (h : Q vs { s with heap := (s.heap.push (seqObj "list" #[] 0)).update s.heap.objs.size (Obj.mapSeq (· ++ vs.toArray)) }) (hsz : vs.length ≤ sizeLine) :
    wpAny (model P w) A (collect (.ref l)) Q E s := by
  unfold collect
  refine wpAny_bind (wpAny_runValue (codeAny_builtin entry_proto_collect' ?_))
  show wpAny _ _ (do again (.builtin "list.__iadd__" ⟨[← newList [], .ref l], []⟩)) _ _ s
  refine wpAny_bind (wpAny_newList (wpAny_pure ⟨Code.quiet_builtin _ (by decide +kernel), codeAny_builtin entry_list_iadd' ?_⟩))
  show wpAny _ _ (Builtin.List.listExtendWith (.ref s.heap.objs.size) (.ref l) (.ref s.heap.objs.size)) _ _ { s with heap := s.heap.push (seqObj "list" #[] 0) }
  unfold Builtin.List.listExtendWith
  have ho' : (s.heap.push (seqObj "list" #[] 0)).get? l = some o := Heap.get?_push_of_some _ ho
  refine wpAny_bind (wpAny_typeOf (T := T) ⟨o, ho', hc⟩ ?_)
  rw [if_pos (by rcases hT with rfl | rfl <;> simp)]
  refine wpAny_bind (listItems_at ho' hd ?_)
  refine wpAny_bind (listItems_at (xs := #[]) (n := 0) (Heap.get?_push_size _ rfl) rfl ?_)
  rw [if_neg (by simp)]
  refine wpAny_bind (listUpdate_at (xs := #[]) (n := 0) (Heap.get?_push_size _ rfl) rfl ?_ (Nat.zero_le _) (by show (#[] ++ vs.toArray).size ≤ sizeLine + 1; simp only [Array.size_append, List.size_toArray, List.length_nil]; omega))
  refine wpAny_pure ?_
  show wpAny (model P w) A (do
      let o ← load s.heap.objs.size
      match o.data with
      | .seq xs _ => pure xs.toList
      | _ => unsupported "internal:collect") Q E { s with heap := (s.heap.push (seqObj "list" #[] 0)).update s.heap.objs.size (Obj.mapSeq (· ++ vs.toArray)) }
  refine wpAny_bind (wpAny_load (get?_update_seq (Heap.get?_push_size _ rfl) _) ?_)
  show wpAny _ _ (pure ((#[] : Array Value) ++ vs.toArray).toList) Q E _
  rw [show ((#[] : Array Value) ++ vs.toArray).toList = vs by simp]
  exact wpAny_pure h
/-- sorted(x), whatever is walked: behind the walk's collecting -/
theorem sorted_go {κ : Type} {is : Heap → κ → Value → Prop} (S : SSort P w is) {x : Value} {kk : Value → κ} {Q : Value → Shared → Prop}
    (hcol : ∀ {Q' : List Value → Shared → Prop}, (∀ s1 (vs : List Value), (∀ b o, s.heap.get? b = some o → s1.heap.get? b = some o) → s.heap.objs.size ≤ s1.heap.objs.size → s1.gens = s.gens → s1.os = s.os → vs.length ≤ sizeLine → (∀ v ∈ vs, is s1.heap (kk v) v) → (2 ≤ vs.length → ∀ v ∈ vs, ∀ u ∈ vs, S.ok (kk v) (kk u) = true) →
      (∀ out : List Value, ∀ s2 p c, (∀ b o, s.heap.get? b = some o → s2.heap.get? b = some o) → s2.gens = s.gens → s2.os = s.os → s.heap.objs.size ≤ p → s2.heap.get? p = some (seqObj "list" out.toArray c) → out.Perm vs → out.Pairwise (fun v u => S.lt (kk u) (kk v) = false) → SrtO.Stb (fun v u => S.lt (kk v) (kk u)) out vs → Q (.ref p) s2) → Q' vs s1) → wpAny (model P w) A.in1 (collect x) Q' E s) :
    wpAny (model P w) A (call (.builtin "sorted") [x]) Q E s := by
  refine Calls.call_function_entry kind_sorted plain_sorted entry_sorted (args_sorted1 _) ?_
  unfold Builtin.«sorted»
  refine wpAny_bind (m := checkCount "sorted" 1 1 _) (wpAny_pure ?_)
  refine wpAny_bind (hcol fun s1 vs k1 hz1 g1 o1 hz hi hok hQ => ?_)
  refine wpAny_bind (wpAny_newList ?_ hz)
  have hoL : (s1.heap.push (seqObj "list" vs.toArray 0)).get? s1.heap.objs.size = some (seqObj "list" vs.toArray 0) := Heap.get?_push_size _ rfl
  have O : SrtO.Swo (fun v u : Value => S.lt (kk v) (kk u)) := ⟨fun v u h => S.lin.swo.asym _ _ h, fun v u z h1 h2 => S.lin.swo.tr _ _ _ h1 h2⟩
  have hS : 2 ≤ vs.length → SrtO.SortableO P w A.in1.in1 { s1 with heap := s1.heap.push (seqObj "list" vs.toArray 0) } s1.heap.objs.size vs (fun v u => S.lt (kk v) (kk u)) := fun h2 h' keep => by
    have hi' : ∀ v ∈ vs, is h' (kk v) v := fun v hv => S.stab (hi v hv) fun b o hcls e => keep b o (fun z => by
      subst z
      exact absurd (Heap.lt_size e) (Nat.lt_irrefl _)) (Heap.get?_push_of_some _ e)
    exact S.srt (s := { s1 with heap := h' }) h2 hi' (hok h2)
  refine wpAny_bind (wpAny_holding (wpAny_call_entry slot_list_sort ⟨_, hoL, rfl⟩ entry_list_sort (SrtO.list_sort_ord O hoL hz hS fun out hs hb => ⟨_, rfl, ?_⟩) (args_list_sort _)))
  obtain ⟨c, hcO⟩ := sortedHeap_at (vs := vs) (out := out.toArray) hoL
  refine wpAny_pure ⟨_, rfl, hQ out _ s1.heap.objs.size c (fun b u e => ?_) g1 o1 hz1 hcO hb.perm hs hb⟩
  have q := k1 b u e
  have hlt := Heap.lt_size q
  show (sortedHeap (s1.heap.push (seqObj "list" vs.toArray 0)) s1.heap.objs.size vs out.toArray).get? b = some u
  rw [sortedHeap_old (Nat.ne_of_lt hlt) (by rw [size_push']; exact Nat.lt_succ_of_lt hlt)]
  exact Heap.get?_push_of_some _ q
end
structure DKind (X : Cx) (κ : Type) where
  knd : SKind X.prog X.w κ
  srt : SSort X.prog X.w knd.is
  at_ : Hp → V → κ → Prop
  sound : ∀ {pins : List (Addr × Obj)} {σ : St} {H : Hp} {s : Shared} {v : V} {u : Value} {k : κ}, Inv X pins σ H s → at_ H v k → L2.RelV v u → knd.is s.heap k u
  one : ∀ {H : Hp} {v : V} {k : κ}, at_ H v k → (∃ a, v = .ref a) ∨ (∃ i, v = .int i) ∨ ∃ x, v = .str x
def bkD : Value → V
  | .ref a => .ref a
  | .int i _ => .int i
  | .str x _ => .str x
  | _ => .non
section
variable {X : Cx} {κ : Type} (D : DKind X κ)
theorem bk_eq {H : Hp} {v : V} {k : κ} {u : Value} (h : D.at_ H v k) (r : L2.RelV v u) : v = bkD u ∧ L2.RelV (bkD u) u := by
  rcases D.one h with ⟨a, rfl⟩ | ⟨i, rfl⟩ | ⟨x, rfl⟩
  · cases (show u = Value.ref a from r); exact ⟨rfl, rfl⟩
  · obtain ⟨t, rfl⟩ := (show ∃ t, u = Value.int i t from r); exact ⟨rfl, t, rfl⟩
  · obtain ⟨t, rfl⟩ := (show ∃ t, u = Value.str x t from r); exact ⟨rfl, t, rfl⟩
/-- a set that was just made: its elements with their keys -/
def SetH (a : Addr) (L : List (κ × V)) : HO := .ext fun h => ∃ us : List Value, Vals (L.map (·.2)) us ∧ D.knd.off h a ((L.map (·.1)).zip us)
theorem setH_new {H : Hp} {h : Heap} {a : Addr} {L : List (κ × V)} {us : List Value} (r : Vals (L.map (·.2)) us) (o : D.knd.off h a ((L.map (·.1)).zip us)) : ObjOk X.prog X.w H h a (SetH D a L) := by
  refine ⟨⟨us, r, o⟩, D.knd.offOb o, fun h1 h2 p k => ?_⟩
  have ⟨us', r', o'⟩ := (show ∃ us : List Value, Vals (L.map (·.2)) us ∧ D.knd.off h1 a ((L.map (·.1)).zip us) from p)
  exact ⟨us', r', D.knd.offAt o' k⟩
def rSetK (K : PySem.W.Frag) : List V → Hp → VK → Prop := fun xs H Q => ∃ (l : Addr) (L0 : List (κ × V)), xs = [V.ref l] ∧ (SqL K H l (L0.map (·.2)) ∨ SqT K H l (L0.map (·.2))) ∧ (∀ p ∈ L0, D.at_ H p.2 p.1) ∧ L0.length < 64 ∧
  ∀ a L, H a = none → (∀ p ∈ L, p ∈ L0) → (∀ p ∈ L0, p.1 ∈ L.map (·.1)) → (L.map (·.1)).Nodup → Q (.ref a) (upd H a (SetH D a L))
theorem vals_get {xs : List V} {us : List Value} (r : Vals xs us) : ∀ {i : Nat} {u : Value}, us[i]? = some u → ∃ v, xs[i]? = some v ∧ L2.RelV v u := by
  induction r with
  | nil => intro i u h; simp at h
  | cons r _ ih =>
    intro i u h
    cases i with
    | zero => simp at h; subst h; exact ⟨_, rfl, r⟩
    | succ i => obtain ⟨v, h1, h2⟩ := ih (i := i) (by simpa using h); exact ⟨v, by simpa using h1, h2⟩
theorem vals_bk : ∀ {us : List Value}, (∀ u ∈ us, L2.RelV (bkD u) u) → Vals (us.map bkD) us
  | [], _ => .nil
  | u :: us, h => .cons (h u (by simp)) (vals_bk fun x hx => h x (by simp [hx]))
theorem zip_pairs {α β : Type} : ∀ L : List (α × β), (L.map (·.1)).zip (L.map (·.2)) = L
  | [] => rfl
  | x :: L => by simp [zip_pairs L]
theorem cr_setK (hc : X.calm = true) (hu : X.A.units + 64 < cLine) : CallR X (.type "set") (rSetK D X.K) := by
  intro pins s σ H xs us Q I r ⟨l, L0, e, hl, hk, hf, q⟩
  subst e
  rw [Vals.ref1 r]
  -- the items
  have go : ∀ its : List Value, Vals (L0.map (·.2)) its → (∀ (ks : List (κ × Value)) {Q' : Value → Shared → Prop}, its = ks.map (·.2) → (∀ p ∈ ks, D.knd.is s.heap p.1 p.2) → ks.length < 64 →
      (∀ (h' : Heap) (tk : Nat) L, D.knd.set h' s.heap.objs.size L → GotK ks ks.length L → (∀ b o, s.heap.get? b = some o → h'.get? b = some o) → Q' (.ref s.heap.objs.size) { s with heap := h', toks := tk }) → wpAny (model X.prog X.w) X.A (call (.type "set") [.ref l]) Q' X.xe s) →
      wpAny (model X.prog X.w) X.A (call (.type "set") [.ref l]) (EP X pins σ Q) X.xe s := by
    intro its rv run
    have hlen : its.length = L0.length := by have := rv.length; simpa using this.symm
    have hz : ∀ p ∈ (L0.map (·.1)).zip its, ∃ v, (p.1, v) ∈ L0 ∧ L2.RelV v p.2 := by
      intro p hp
      obtain ⟨i, hi⟩ := List.mem_iff_getElem?.mp hp
      rw [List.getElem?_zip_eq_some] at hi
      obtain ⟨h1, h2⟩ := hi
      obtain ⟨v, h3, h4⟩ := vals_get rv h2
      rw [List.getElem?_map] at h1 h3
      cases q0 : L0[i]? with
      | none => rw [q0] at h1; cases h1
      | some x =>
        rw [q0] at h1 h3
        simp only [Option.map_some, Option.some.injEq] at h1 h3
        subst h3
        rw [← h1]
        exact ⟨x.2, List.mem_of_getElem? q0, h4⟩
    refine run ((L0.map (·.1)).zip its) (by rw [List.map_snd_zip (by simp [hlen])]) (fun p hp => ?_) (by simp [hlen]; exact hf) fun h' tk L hS g k => ?_
    · obtain ⟨v, h1, h2⟩ := hz p hp
      exact D.sound I (hk _ h1) h2
    · have hn : H s.heap.objs.size = none := I.hok.fresh (Nat.le_refl _)
      have mem : ∀ p ∈ L, ∃ v, (p.1, v) ∈ L0 ∧ v = bkD p.2 ∧ L2.RelV (bkD p.2) p.2 := fun p hp => by
        obtain ⟨v, h1, h2⟩ := hz p (List.mem_of_mem_take (g.sub p hp))
        exact ⟨v, h1, bk_eq D (hk _ h1) h2⟩
      have e1 : (L.map fun p => (p.1, bkD p.2)).map (·.1) = L.map (·.1) := by rw [List.map_map]; rfl
      have e2 : (L.map fun p => (p.1, bkD p.2)).map (·.2) = (L.map (·.2)).map bkD := by rw [List.map_map, List.map_map]; rfl
      have rv2 : Vals ((L.map fun p => (p.1, bkD p.2)).map (·.2)) (L.map (·.2)) := by
        rw [e2]
        refine vals_bk fun u hu => ?_
        obtain ⟨p, hp, rfl⟩ := List.mem_map.mp hu
        obtain ⟨_, _, _, h⟩ := mem p hp
        exact h
      have off : D.knd.off h' s.heap.objs.size (((L.map fun p => (p.1, bkD p.2)).map (·.1)).zip (L.map (·.2))) := by
        rw [e1]
        rw [zip_pairs]
        exact D.knd.offOf hS
      refine ⟨.ref s.heap.objs.size, upd H s.heap.objs.size (SetH D s.heap.objs.size (L.map fun p => (p.1, bkD p.2))), I.laid (t' := tk) k (Nat.le_refl _) (setH_new D rv2 off), rfl, q _ _ hn (fun p hp => ?_) (fun p hp => ?_) ?_⟩
      · obtain ⟨x, hx, rfl⟩ := List.mem_map.mp hp
        obtain ⟨v, h1, h2, _⟩ := mem x hx
        rw [← h2]; exact h1
      · rw [e1]
        obtain ⟨i, hi⟩ := List.mem_iff_getElem?.mp hp
        have hi2 : i < its.length := by rw [hlen]; exact lt_of_some hi
        have hz2 : ((L0.map (·.1)).zip its)[i]? = some (p.1, its[i]) := by
          rw [List.getElem?_zip_eq_some]
          exact ⟨by rw [List.getElem?_map, hi]; rfl, List.getElem?_eq_getElem hi2⟩
        exact g.all (p.1, its[i]) (by rw [List.take_length]; exact List.mem_of_getElem? hz2)
      · rw [e1]; exact D.knd.nd hS
  rcases hl with hl | hl
  · obtain ⟨its, rv, pl, hz⟩ := I.list hl
    exact go its rv fun ks Q' e1 h1 h2 h3 => set_of_list D.knd ks (I.ok.hd hc) pl.isList (by simpa using e1) h1 h2 (by omega) h3
  · obtain ⟨its, rv, ⟨o, ho, hcl, n, hd⟩, hz⟩ := I.tuple hl
    exact go its rv fun ks Q' e1 h1 h2 h3 => set_of_tuple D.knd ks (I.ok.hd hc) ⟨o, ho, hcl, n, hd⟩ (by simpa using e1) h1 h2 (by omega) h3
/-- the set at a -/
theorem setH_at {pins : List (Addr × Obj)} {σ : St} {H : Hp} {s : Shared} {a : Addr} {L : List (κ × V)} (I : Inv X pins σ H s) (ha : H a = some (SetH D a L)) (hk : ∀ p ∈ L, D.at_ H p.2 p.1) :
    ∃ us : List Value, Vals (L.map (·.2)) us ∧ us.length = L.length ∧ D.knd.set s.heap a ((L.map (·.1)).zip us) := by
  obtain ⟨us, rv, off⟩ := (show ∃ us : List Value, Vals (L.map (·.2)) us ∧ D.knd.off s.heap a ((L.map (·.1)).zip us) from (I.hok a _ ha).1)
  have hl : us.length = L.length := by have := rv.length; simpa using this.symm
  refine ⟨us, rv, hl, D.knd.full off fun p hp => ?_⟩
  obtain ⟨i, hi⟩ := List.mem_iff_getElem?.mp hp
  rw [List.getElem?_zip_eq_some] at hi
  obtain ⟨h1, h2⟩ := hi
  obtain ⟨v, h3, h4⟩ := vals_get rv h2
  rw [List.getElem?_map] at h1 h3
  cases q0 : L[i]? with
  | none => rw [q0] at h1; cases h1
  | some x =>
    rw [q0] at h1 h3
    simp only [Option.map_some, Option.some.injEq] at h1 h3
    subst h3
    rw [← h1]
    exact D.sound I (hk x (List.mem_of_getElem? q0)) h4
def rLenK : List V → Hp → VK → Prop := fun xs H Q => ∃ (a : Addr) (L : List (κ × V)), xs = [V.ref a] ∧ H a = some (SetH D a L) ∧ (∀ p ∈ L, D.at_ H p.2 p.1) ∧ Q (.int L.length) H
theorem cr_lenK : CallR X (.builtin "len") (rLenK D) := by
  intro pins s σ H xs us Q I r ⟨a, L, e, ha, hk, q⟩
  subst e
  rw [Vals.ref1 r]
  obtain ⟨ws, rv, hl, hs⟩ := setH_at D I ha hk
  obtain ⟨o, es, ep, t, ho, hex, hd, hf, hb, _, _, hes⟩ := D.knd.out hs
  have hz : es.size = L.length := by
    have := congrArg List.length hes
    rw [List.length_map, Array.length_toList, List.length_map, List.length_zip, List.length_map, hl, Nat.min_self] at this
    exact this
  refine Calls.call_function_entry kind_len plain_len entry_len (args_len1 _) ?_
  refine wpAny_len_body_set ho hex hd hf ?_ ?_
  · unfold scanBound at hb; omega
  · rw [hz]
    exact ⟨.int L.length, H, I.tok _, ⟨_, rfl⟩, q⟩
/-- sorted(set) -/
def rSortedK : List V → Hp → VK → Prop := fun xs H Q => ∃ (a : Addr) (L : List (κ × V)), xs = [V.ref a] ∧ H a = some (SetH D a L) ∧ (∀ p ∈ L, D.at_ H p.2 p.1) ∧ (∀ p ∈ L, ∀ q ∈ L, D.srt.ok p.1 q.1 = true) ∧ L.length ≤ sizeLine ∧
  ∀ (M : List (κ × V)) b, M.Perm L → (M.map (·.1)).Pairwise (fun k k' => D.srt.lt k' k = false) → H b = none → Q (.ref b) (upd H b (.lst (M.map (·.2))))
open Classical in
/-- the key of a value, by a list of pairs -/
noncomputable def kkOf {α : Type} [Inhabited α] (ks : List (α × Value)) (v : Value) : α := if h : ∃ k, (k, v) ∈ ks then h.choose else default
theorem kkOf_mem {α : Type} [Inhabited α] {ks : List (α × Value)} {v : Value} (h : ∃ k, (k, v) ∈ ks) : (kkOf ks v, v) ∈ ks := by
  unfold kkOf
  rw [dif_pos h]
  exact h.choose_spec
/-- sorted(x), x walked as the pairs ks stand -/
theorem sorted_ks [Inhabited κ] {pins : List (Addr × Obj)} {σ : St} {H : Hp} {s : Shared} {x : Value} {Q : VK} (I : Inv X pins σ H s) (L : List (κ × V)) (us : List Value) (rv : Vals (L.map (·.2)) us) (hl : us.length = L.length) (hk : ∀ p ∈ L, D.at_ H p.2 p.1)
    (hok : 2 ≤ L.length → ∀ p ∈ L, ∀ q ∈ L, D.srt.ok p.1 q.1 = true) (hz : L.length ≤ sizeLine)
    (hcol : ∀ {Q' : List Value → Shared → Prop}, (∀ s1 (vs : List Value), (∀ b o, s.heap.get? b = some o → s1.heap.get? b = some o) → s.heap.objs.size ≤ s1.heap.objs.size → s1.gens = s.gens → s1.os = s.os → vs.Perm us → Q' vs s1) → wpAny (model X.prog X.w) X.A.in1 (collect x) Q' X.xe s)
    (hQ : ∀ (M : List (κ × V)) b, M.Perm L → (M.map (·.1)).Pairwise (fun k k' => D.srt.lt k' k = false) → H b = none → Q (.ref b) (upd H b (.lst (M.map (·.2))))) :
    wpAny (model X.prog X.w) X.A (call (.builtin "sorted") [x]) (EP X pins σ Q) X.xe s := by
  -- the pairs
  have ex : ∃ ks : List (κ × Value), ks = (L.map (·.1)).zip us := ⟨_, rfl⟩
  obtain ⟨ks, hks⟩ := ex
  have k1 : ks.map (·.2) = us := by rw [hks]; exact List.map_snd_zip (by simp [hl])
  have k2 : ks.map (·.1) = L.map (·.1) := by rw [hks]; exact List.map_fst_zip (by simp [hl])
  have kin : ∀ p ∈ ks, ∃ v, (p.1, v) ∈ L ∧ v = bkD p.2 ∧ L2.RelV (bkD p.2) p.2 ∧ D.knd.is s.heap p.1 p.2 := fun p hp => by
    rw [hks] at hp
    obtain ⟨i, hi⟩ := List.mem_iff_getElem?.mp hp
    rw [List.getElem?_zip_eq_some] at hi
    obtain ⟨h1, h2⟩ := hi
    obtain ⟨v, h3, h4⟩ := vals_get rv h2
    rw [List.getElem?_map] at h1 h3
    cases q0 : L[i]? with
    | none => rw [q0] at h1; cases h1
    | some y =>
      rw [q0] at h1 h3
      simp only [Option.map_some, Option.some.injEq] at h1 h3
      subst h3
      have hy := List.mem_of_getElem? q0
      rw [← h1]
      obtain ⟨b1, b2⟩ := bk_eq D (hk y hy) h4
      exact ⟨y.2, hy, b1, b2, D.sound I (hk y hy) h4⟩
  have kL : L = ks.map fun p => (p.1, bkD p.2) := by
    refine List.ext_getElem? fun i => ?_
    rw [List.getElem?_map, hks]
    cases q0 : L[i]? with
    | none =>
      have : ((L.map (·.1)).zip us)[i]? = none := by
        rw [List.getElem?_eq_none_iff] at q0 ⊢
        simp [hl]; exact q0
      rw [this]; rfl
    | some y =>
      have hi := lt_of_some q0
      have h2 : us[i]? = some us[i] := List.getElem?_eq_getElem (by omega)
      obtain ⟨v, h3, h4⟩ := vals_get rv h2
      rw [List.getElem?_map, q0] at h3
      simp only [Option.map_some, Option.some.injEq] at h3
      subst h3
      have : ((L.map (·.1)).zip us)[i]? = some (y.1, us[i]) := by
        rw [List.getElem?_zip_eq_some]
        exact ⟨by rw [List.getElem?_map, q0]; rfl, h2⟩
      rw [this]
      obtain ⟨b1, b2⟩ := bk_eq D (hk y (List.mem_of_getElem? q0)) h4
      show some y = some (y.1, bkD us[i])
      rw [← b1]
  have kk1 : ∀ v ∈ us, (kkOf ks v, v) ∈ ks := fun v hv => kkOf_mem (by
    rw [← k1] at hv
    obtain ⟨p, hp, rfl⟩ := List.mem_map.mp hv
    exact ⟨p.1, hp⟩)
  have kk2 : ∀ p ∈ ks, kkOf ks p.2 = p.1 := fun p hp => by
    obtain ⟨_, _, _, _, i1⟩ := kin _ (kk1 p.2 (by rw [← k1]; exact List.mem_map.mpr ⟨p, hp, rfl⟩))
    obtain ⟨_, _, _, _, i2⟩ := kin p hp
    exact D.knd.inj i1 i2
  refine sorted_go D.srt (kk := kkOf ks) fun {Q'} h => hcol fun s1 vs g1 g2 g3 g4 pm => ?_
  have hvs : ∀ v ∈ vs, v ∈ us := fun v hv => pm.mem_iff.mp hv
  refine h s1 vs g1 g2 g3 g4 (by rw [pm.length_eq, hl]; exact hz) (fun v hv => ?_) (fun h2 v hv u hu => ?_) fun out s2 p c e1 e2 e3 e4 e5 pm2 pw st => ?_
  · obtain ⟨_, _, _, _, i1⟩ := kin _ (kk1 v (hvs v hv))
    exact D.knd.grow i1 g1
  · obtain ⟨a, ha, _⟩ := kin _ (kk1 v (hvs v hv))
    obtain ⟨b, hb, _⟩ := kin _ (kk1 u (hvs u hu))
    exact hok (by rw [← hl, ← pm.length_eq]; exact h2) _ ha _ hb
  · have hp : H p = none := I.hok.fresh e4
    have mo : ∀ v ∈ out, v ∈ us := fun v hv => hvs v (pm2.mem_iff.mp hv)
    have pM : (out.map fun v => (kkOf ks v, bkD v)).Perm L := by
      have q1 := (pm2.trans pm).map fun v => (kkOf ks v, bkD v)
      have q2 : us.map (fun v => (kkOf ks v, bkD v)) = L := by
        rw [kL, ← k1, List.map_map]
        refine List.map_congr_left fun p hp => ?_
        show (kkOf ks p.2, bkD p.2) = (p.1, bkD p.2)
        rw [kk2 p hp]
      rw [q2] at q1
      exact q1
    have m2 : (out.map fun v => (kkOf ks v, bkD v)).map (·.2) = out.map bkD := by rw [List.map_map]; rfl
    have hv : Vals (out.map bkD) out := vals_bk fun u hu => by
      obtain ⟨_, _, _, r, _⟩ := kin _ (kk1 u (mo u hu))
      exact r
    have hlen : (out.map bkD).length ≤ sizeLine := by rw [List.length_map, (pm2.trans pm).length_eq, hl]; exact hz
    have J : Inv X pins σ (upd H p (.lst (out.map bkD))) { s with heap := s2.heap, gens := s2.gens, drawn := s2.drawn, toks := s2.toks } :=
      I.call (ch := []) (Un.laid e1 e4 hp) (I.hok.laid e1 e4 ⟨hlen, out, c, hv, e5⟩) (by rw [e2]; exact I.bare) (fun _ z => nomatch z)
    have e : s2 = { s with heap := s2.heap, gens := s2.gens, drawn := s2.drawn, toks := s2.toks } := by
      cases s2
      cases s
      cases e3
      rfl
    rw [e]
    refine ⟨.ref p, _, J, rfl, ?_⟩
    have := hQ (out.map fun v => (kkOf ks v, bkD v)) p pM (by rw [List.map_map]; exact List.pairwise_map.mpr pw) hp
    rw [m2] at this
    exact this
theorem cr_sortedK [Inhabited κ] (hc : X.calm = true) : CallR X (.builtin "sorted") (rSortedK D) := by
  intro pins s σ H xs us Q I r ⟨a, L, e, ha, hk, hok, hz, q⟩
  subst e
  rw [Vals.ref1 r]
  obtain ⟨ws, rv, hl, hs⟩ := setH_at D I ha hk
  obtain ⟨o, es, ep, t, ho, hex, hd, hf, hb, ris, led, hes⟩ := D.knd.out hs
  refine sorted_ks D I L ws rv hl hk (fun _ => hok) hz (fun {Q'} h => ?_) q
  refine collect_set (A := X.A.in1) (I.ok.hd hc) ⟨o, ho, hex.1, hd⟩ hf hb ris led fun s1 vs k1 hz1 g1 o1 pm => h s1 vs k1 hz1 g1 o1 ?_
  rw [hes, List.map_snd_zip (by simp [hl])] at pm
  exact pm
/-- sorted(list or tuple) -/
def rSortedQ (K : PySem.W.Frag) : List V → Hp → VK → Prop := fun xs H Q => ∃ (l : Addr) (L : List (κ × V)), xs = [V.ref l] ∧ (SqL K H l (L.map (·.2)) ∨ SqT K H l (L.map (·.2))) ∧ (∀ p ∈ L, D.at_ H p.2 p.1) ∧ (∀ p ∈ L, ∀ q ∈ L, D.srt.ok p.1 q.1 = true) ∧ L.length ≤ sizeLine ∧
  ∀ (M : List (κ × V)) b, M.Perm L → (M.map (·.1)).Pairwise (fun k k' => D.srt.lt k' k = false) → H b = none → Q (.ref b) (upd H b (.lst (M.map (·.2))))
theorem cr_sortedQ [Inhabited κ] : CallR X (.builtin "sorted") (rSortedQ D X.K) := by
  intro pins s σ H xs us Q I r ⟨l, L, e, hl, hk, hok, hz, q⟩
  subst e
  rw [Vals.ref1 r]
  have go : ∀ (its : List Value) (o : Obj) (T : String) (n : Nat), Vals (L.map (·.2)) its → s.heap.get? l = some o → o.cls = .type T → (T = "list" ∨ T = "tuple") → o.data = .seq its.toArray n → wpAny (model X.prog X.w) X.A (call (.builtin "sorted") [.ref l]) (EP X pins σ Q) X.xe s := by
    intro its o T n rv ho hc hT hd
    have hlen : its.length = L.length := by have := rv.length; simpa using this.symm
    refine sorted_ks D I L its rv hlen hk (fun _ => hok) hz (fun {Q'} h => ?_) q
    refine collect_seq (A := X.A.in1) ho hc hT hd (h _ its (fun b u e => ?_) ?_ rfl rfl (List.Perm.refl _)) (by rw [hlen]; exact hz)
    · have hlt := Heap.lt_size e
      show ((s.heap.push (seqObj "list" #[] 0)).update s.heap.objs.size (Obj.mapSeq (· ++ its.toArray))).get? b = some u
      rw [Heap.get?_update_ne _ _ _ _ (Nat.ne_of_lt hlt)]
      exact Heap.get?_push_of_some _ e
    · show s.heap.objs.size ≤ ((s.heap.push (seqObj "list" #[] 0)).update s.heap.objs.size (Obj.mapSeq (· ++ its.toArray))).objs.size
      rw [Heap.size_update, size_push']
      exact Nat.le_succ _
  rcases hl with hl | hl
  · obtain ⟨its, rv, ⟨o, n, ho, hc, hdn, hd⟩, _⟩ := I.list hl
    exact go its o "list" n rv ho hc (.inl rfl) hd
  · obtain ⟨its, rv, ⟨o, ho, hcl, n, hd⟩, hz⟩ := I.tuple hl
    exact go its o "tuple" n rv ho hcl (.inr rfl) hd
end
end DL
namespace DL
open PySem PySem.Spec L2
open PyProof.Rows hiding St
variable [Tbl]
def insL {α : Type} (lt : α → α → Bool) (x : α) : List α → List α
  | [] => [x]
  | y :: r => if lt y x then y :: insL lt x r else x :: y :: r
def isort {α : Type} (lt : α → α → Bool) : List α → List α
  | [] => []
  | x :: r => insL lt x (isort lt r)
def dedup {α : Type} [DecidableEq α] : List α → List α
  | [] => []
  | x :: r => if x ∈ dedup r then dedup r else x :: dedup r
abbrev Rising {α : Type} (lt : α → α → Bool) (l : List α) : Prop := l.Pairwise fun k k' => lt k' k = false
section
variable {α : Type} {lt : α → α → Bool}
theorem insL_perm (x : α) : ∀ l : List α, (insL lt x l).Perm (x :: l)
  | [] => List.Perm.refl _
  | y :: r => by
    unfold insL
    split
    · exact ((insL_perm x r).cons y).trans (List.Perm.swap x y r)
    · exact List.Perm.refl _
theorem isort_perm : ∀ l : List α, (isort lt l).Perm l
  | [] => List.Perm.refl _
  | x :: r => (insL_perm x _).trans ((isort_perm r).cons x)
theorem insL_rising (O : LinB lt) (x : α) : ∀ {l : List α}, Rising lt l → Rising lt (insL lt x l)
  | [], _ => List.pairwise_singleton _ _
  | y :: r, h => by
    obtain ⟨h1, h2⟩ := List.pairwise_cons.mp h
    unfold insL
    split
    · rename_i c
      refine List.pairwise_cons.mpr ⟨fun z hz => ?_, insL_rising O x h2⟩
      rcases List.mem_cons.mp ((insL_perm x r).mem_iff.mp hz) with e | hz
      · subst e; exact O.asym c
      · exact h1 z hz
    · rename_i c
      have c : lt y x = false := by cases q : lt y x with
        | true => exact absurd q c
        | false => rfl
      refine List.pairwise_cons.mpr ⟨fun z hz => ?_, h⟩
      rcases List.mem_cons.mp hz with e | hz
      · subst e; exact c
      · exact O.swo.tr x y z c (h1 z hz)
theorem isort_rising (O : LinB lt) : ∀ l : List α, Rising lt (isort lt l)
  | [] => List.Pairwise.nil
  | x :: r => insL_rising O x (isort_rising O r)
theorem rising_uniq (O : LinB lt) : ∀ {l m : List α}, Rising lt l → Rising lt m → l.Perm m → l = m
  | [], m, _, _, h => (List.Perm.eq_nil h.symm).symm
  | x :: l, [], _, _, h => absurd h.length_eq (by simp)
  | x :: l, y :: m, hl, hm, h => by
    obtain ⟨l1, l2⟩ := List.pairwise_cons.mp hl
    obtain ⟨m1, m2⟩ := List.pairwise_cons.mp hm
    have e : x = y := by
      rcases List.mem_cons.mp (h.mem_iff.mp List.mem_cons_self) with e | hx
      · exact e
      · rcases List.mem_cons.mp (h.mem_iff.mpr (List.mem_cons_self (a := y) (l := m))) with e | hy
        · exact e.symm
        · exact O.tot x y (m1 x hx) (l1 y hy)
    subst e
    rw [rising_uniq O l2 m2 h.cons_inv]
variable [DecidableEq α]
theorem dedup_mem {x : α} : ∀ {l : List α}, x ∈ dedup l ↔ x ∈ l
  | [] => Iff.rfl
  | y :: r => by
    unfold dedup
    split
    · rename_i c
      rw [dedup_mem, List.mem_cons]
      exact ⟨.inr, fun h => h.elim (fun e => by rw [e]; exact dedup_mem.mp c) id⟩
    · rw [List.mem_cons, List.mem_cons, dedup_mem]
theorem dedup_nodup : ∀ l : List α, (dedup l).Nodup
  | [] => List.nodup_nil
  | y :: r => by
    unfold dedup
    split
    · exact dedup_nodup r
    · rename_i c
      exact List.nodup_cons.mpr ⟨c, dedup_nodup r⟩
theorem dedup_len : ∀ l : List α, (dedup l).length ≤ l.length
  | [] => Nat.le_refl _
  | y :: r => by
    have := dedup_len r
    unfold dedup
    split
    · rw [List.length_cons]; omega
    · rw [List.length_cons, List.length_cons]; omega
theorem dedup_perm {l m : List α} (nd : m.Nodup) (h : ∀ x, x ∈ m ↔ x ∈ l) : m.Perm (dedup l) :=
  (List.perm_ext_iff_of_nodup nd (dedup_nodup l)).mpr fun x => (h x).trans dedup_mem.symm
end
def keyOfD : D → Option Key
  | .int i => some (.inl i)
  | .str x => some (.inr x)
  | _ => none
def allK {α β : Type} (f : α → Option β) : List α → Option (List β)
  | [] => some []
  | x :: r => (f x).bind fun k => (allK f r).map (k :: ·)
def keysOfD : D → Option (List Key)
  | .tup ds => allK keyOfD ds
  | _ => none
def tD (k : List Key) : D := .tup (k.map kD)
theorem keyOfD_eq {d : D} {k : Key} (h : keyOfD d = some k) : d = kD k := by
  cases d <;> simp [keyOfD] at h <;> subst h <;> rfl
theorem allK_eq {α β : Type} {f : α → Option β} {g : β → α} (hg : ∀ a b, f a = some b → a = g b) : ∀ {l : List α} {m : List β}, allK f l = some m → l = m.map g
  | [], m, h => by cases h; rfl
  | x :: r, m, h => by
    unfold allK at h
    cases q : f x with
    | none => rw [q] at h; cases h
    | some k =>
      rw [q] at h
      cases q2 : allK f r with
      | none => rw [q2] at h; cases h
      | some n =>
        rw [q2] at h
        cases h
        rw [List.map_cons, ← hg x k q, ← allK_eq hg q2]
theorem keysOfD_eq {d : D} {k : List Key} (h : keysOfD d = some k) : d = tD k := by
  cases d <;> simp only [keysOfD, reduceCtorEq] at h
  unfold tD
  rw [← allK_eq (fun a b => keyOfD_eq) h]
def pairsOk {α : Type} (ok : α → α → Bool) (l : List α) : Bool := l.all fun x => l.all fun y => ok x y
theorem pairsOk_at {α : Type} {ok : α → α → Bool} {l : List α} (h : pairsOk ok l = true) : ∀ x ∈ l, ∀ y ∈ l, ok x y = true := fun x hx y hy => List.all_eq_true.mp (List.all_eq_true.mp h x hx) y hy
def seqD : D → Option (List D)
  | .lst ds => some ds
  | .tup ds => some ds
  | _ => none
/-- sorted(set(x)) -/
def sortSetD (d : D) : Option D := (seqD d).bind fun ds => if ds.length < 64 then
    match allK keyOfD ds with
    | some ks => if pairsOk sameT ks then some (.lst ((isort kLt (dedup ks)).map kD)) else none
    | none => match allK keysOfD ds with
      | some ks => if pairsOk tOk ks then some (.lst ((isort tLt (dedup ks)).map tD)) else none
      | none => none
  else none
/-- len(set(x)) -/
def lenSetD (d : D) : Option D := (seqD d).bind fun ds => if ds.length < 64 then
    match allK keyOfD ds with
    | some ks => some (.int (dedup ks).length)
    | none => match allK keysOfD ds with
      | some ks => some (.int (dedup ks).length)
      | none => none
  else none
/-- sorted(x) -/
def sortD (d : D) : Option D := (seqD d).bind fun ds => if ds.length ≤ sizeLine then
    match allK keyOfD ds with
    | some ks => if pairsOk sameT ks then some (.lst ((isort kLt ks).map kD)) else none
    | none => match allK keysOfD ds with
      | some ks => if pairsOk tOk ks then some (.lst ((isort tLt ks).map tD)) else none
      | none => none
  else none
theorem keyIs_of {k : Key} {u : Value} (r : L2.RelV (kV k) u) : keyIs k u = true := by
  cases k with
  | inl i => obtain ⟨t, rfl⟩ := (show ∃ t, u = Value.int i t from r); simp [keyIs, Value.isInt]
  | inr x => obtain ⟨t, rfl⟩ := (show ∃ t, u = Value.str x t from r); simp [keyIs, Value.isStrOf]
theorem items_of {P : Program} {w : World} : ∀ {k : List Key} {us : List Value}, Vals (k.map kV) us → ItemsAre (mixKind P w) k us
  | [], _, .nil => .nil
  | _ :: _, _, .cons r t => .cons (keyIs_of r) (items_of t)
def keyDK (X : Cx) : DKind X Key where
  knd := keyKind X.prog X.w
  srt := keySort X.prog X.w
  at_ := fun _ v k => v = kV k
  sound := fun {pins σ H s v u k} I h r => by subst h; exact keyIs_of r
  one := fun {H v k} h => by
    subst h
    cases k with
    | inl i => exact .inr (.inl ⟨i, rfl⟩)
    | inr x => exact .inr (.inr ⟨x, rfl⟩)
def tmDK (X : Cx) : DKind X (List Key) where
  knd := (tmKind X.prog X.w).kind
  srt := tmSort X.prog X.w
  at_ := fun H v k => ∃ b, v = .ref b ∧ SqT X.K H b (k.map kV)
  sound := fun {pins σ H s v u k} I ⟨b, e, h⟩ r => by
    subst e
    cases (show u = Value.ref b from r)
    obtain ⟨its, rv, ⟨o, ho, hc, n, hd⟩, _⟩ := I.tuple h
    exact ⟨b, rfl, o, its.toArray, n, ho, hc, hd, by simpa using items_of rv⟩
  one := fun ⟨b, e, _⟩ => .inl ⟨b, e⟩
section
variable {X : Cx} {B : Addr → Prop} {H : Hp}
/-- data of a kind: at and back -/
structure Ready {κ : Type} (Dk : DKind X κ) (dOf : κ → DL.D) : Prop where
  at_ : ∀ {B : Addr → Prop} {H : Hp} {v : V} {k : κ}, RD X.K X.mg B H v (dOf k) → Dk.at_ H v k
  up : ∀ {H H' : Hp} {v : V} {k : κ}, Dk.at_ H v k → Grow H H' → Dk.at_ H' v k
theorem kD_V {v : V} {k : Key} (r : RD X.K X.mg B H v (kD k)) : v = kV k := by
  cases k with
  | inl i => cases r; rfl
  | inr x => cases r; rfl
theorem kD_Vs : ∀ {vs : List V} {k : List Key}, RDs X.K X.mg B H vs (k.map kD) → vs = k.map kV
  | [], [], _ => rfl
  | [], _ :: _, r => by cases r
  | _ :: _, [], r => by cases r
  | v :: vs, k :: ks, .cons r t => by rw [List.map_cons, kD_V r, kD_Vs t]
theorem ready_key : Ready (keyDK X) kD := ⟨fun r => kD_V r, fun h _ => h⟩
theorem sqT_of {a : Addr} {ds : List D} (r : RD X.K X.mg B H (.ref a) (.tup ds)) : ∃ vs, SqT X.K H a vs ∧ RDs X.K X.mg B H vs ds := by
  cases r with
  | tup h _ r => exact ⟨_, .inl (.inl h), r⟩
  | wtup w => exact ⟨[], .inr w, .nil⟩
theorem ready_tm : Ready (tmDK X) tD := ⟨fun {B H v k} r => by
  have : ∃ a, v = .ref a := by
    unfold tD at r
    generalize hk : k.map kD = ds at r
    cases r <;> exact ⟨_, rfl⟩
  obtain ⟨a, rfl⟩ := this
  obtain ⟨vs, h, r⟩ := sqT_of r
  refine ⟨a, rfl, ?_⟩
  rw [← kD_Vs r]
  exact h, fun ⟨b, e, h⟩ g => ⟨b, e, by
  rcases h with h | h
  · refine .inl ?_
    rcases h with h | ⟨o, h⟩
    · exact .inl (g _ _ h)
    · exact .inr ⟨o, g _ _ h⟩
  · exact .inr h⟩⟩
/-- items with their keys -/
theorem pair_up {κ : Type} {dOf : κ → D} : ∀ {vs : List V} {ks : List κ}, RDs X.K X.mg B H vs (ks.map dOf) → ∃ L : List (κ × V), L.map (·.2) = vs ∧ L.map (·.1) = ks ∧ ∀ p ∈ L, RD X.K X.mg B H p.2 (dOf p.1)
  | [], [], _ => ⟨[], rfl, rfl, fun p hp => by cases hp⟩
  | [], _ :: _, r => by cases r
  | _ :: _, [], r => by cases r
  | v :: vs, k :: ks, .cons r t => by
    obtain ⟨L, h1, h2, h3⟩ := pair_up t
    refine ⟨(k, v) :: L, by rw [List.map_cons, h1], by rw [List.map_cons, h2], fun p hp => ?_⟩
    rcases List.mem_cons.mp hp with e | hp
    · rw [e]; exact r
    · exact h3 p hp
theorem rds_of {κ : Type} {dOf : κ → D} : ∀ {L : List (κ × V)}, (∀ p ∈ L, RD X.K X.mg B H p.2 (dOf p.1)) → RDs X.K X.mg B H (L.map (·.2)) ((L.map (·.1)).map dOf)
  | [], _ => .nil
  | p :: L, h => .cons (h p (by simp)) (rds_of fun q hq => h q (by simp [hq]))
theorem seq_inv {v : V} {d : D} {ds : List D} (r : RT X.K X.mg B H v d) (h : seqD d = some ds) : ∃ l vs, v = .ref l ∧ (SqL X.K H l vs ∨ SqT X.K H l vs) ∧ RDs X.K X.mg B H vs ds := by
  cases d <;> simp only [seqD, reduceCtorEq, Option.some.injEq] at h
  · subst h
    obtain ⟨a, vs, rfl, h, r⟩ := r.tup_inv
    exact ⟨a, vs, rfl, .inr h, r⟩
  · subst h
    obtain ⟨a, vs, rfl, h, r⟩ := r.lst_inv
    exact ⟨a, vs, rfl, .inl (SqL.of h), r⟩
/-- one kind: sorted(set(x)) -/
theorem sortSet_k {κ : Type} [DecidableEq κ] {Dk : DKind X κ} {dOf : κ → D} (R : Ready Dk dOf) {v : V} {vs : List V} {ks : List κ} {l : Addr} {Q : VK} (hl : SqL X.K H l vs ∨ SqT X.K H l vs) (r : RDs X.K X.mg B H vs (ks.map dOf)) (h64 : ks.length < 64) (hok : pairsOk Dk.srt.ok ks = true) (hB : ∀ a, B a → H a ≠ none)
    (hQ : ∀ v' H', Grow H H' → RD X.K X.mg B H' v' (.lst ((isort Dk.srt.lt (dedup ks)).map dOf)) → Q v' H') : rSetK Dk X.K [.ref l] H fun y H1 => rSortedK Dk [y] H1 Q := by
  obtain ⟨L0, h1, h2, h3⟩ := pair_up r
  have hlen : L0.length = ks.length := by rw [← h2, List.length_map]
  refine ⟨l, L0, rfl, by rw [h1]; exact hl, fun p hp => R.at_ (h3 p hp), by rw [hlen]; exact h64, fun a L ha hsub hall nd => ?_⟩
  have g1 : Grow H (upd H a (SetH Dk a L)) := Grow.upd ha
  have okk := pairsOk_at hok
  have mem : ∀ p ∈ L, p.1 ∈ ks := fun p hp => by rw [← h2]; exact List.mem_map.mpr ⟨p, hsub p hp, rfl⟩
  have hsz : L.length ≤ 64 := by
    have : (L.map (·.1)).Perm (dedup ks) := dedup_perm nd fun x => ⟨fun hx => by
      obtain ⟨p, hp, rfl⟩ := List.mem_map.mp hx
      exact mem p hp, fun hx => by
      rw [← h2] at hx
      obtain ⟨p, hp, rfl⟩ := List.mem_map.mp hx
      exact hall p hp⟩
    have e := this.length_eq
    rw [List.length_map] at e
    have le : (dedup ks).length ≤ ks.length := by
      exact dedup_len ks
    omega
  refine ⟨a, L, rfl, upd_same, fun p hp => R.up (R.at_ (h3 p (hsub p hp))) g1, fun p hp q hq => okk _ (mem p hp) _ (mem q hq), by rw [sizeLine_eq]; omega, fun M b pM pw hb => ?_⟩
  have pk : (M.map (·.1)).Perm (dedup ks) := (pM.map (·.1)).trans (dedup_perm nd fun x => ⟨fun hx => by
      obtain ⟨p, hp, rfl⟩ := List.mem_map.mp hx
      exact mem p hp, fun hx => by
      rw [← h2] at hx
      obtain ⟨p, hp, rfl⟩ := List.mem_map.mp hx
      exact hall p hp⟩)
  have e : M.map (·.1) = isort Dk.srt.lt (dedup ks) := rising_uniq Dk.srt.lin pw (isort_rising Dk.srt.lin _) (pk.trans (isort_perm _).symm)
  refine hQ _ _ (g1.trans (Grow.upd hb)) ?_
  have r2 : RDs X.K X.mg B (upd H a (SetH Dk a L)) (M.map (·.2)) ((M.map (·.1)).map dOf) := rds_of fun p hp => (h3 p (hsub p (pM.mem_iff.mp hp))).mono g1.gr
  rw [e] at r2
  refine rd_newL hb (fun x hx z => ?_) r2
  cases q : H x with
  | none => exact hB x hx q
  | some o => rw [g1 x o q] at z; cases z
/-- one kind: len(set(x)) -/
theorem lenSet_k {κ : Type} [DecidableEq κ] {Dk : DKind X κ} {dOf : κ → D} (R : Ready Dk dOf) {v : V} {vs : List V} {ks : List κ} {l : Addr} {Q : VK} (hl : SqL X.K H l vs ∨ SqT X.K H l vs) (r : RDs X.K X.mg B H vs (ks.map dOf)) (h64 : ks.length < 64)
    (hQ : ∀ v' H', Grow H H' → RD X.K X.mg B H' v' (.int (dedup ks).length) → Q v' H') : rSetK Dk X.K [.ref l] H fun y H1 => rLenK Dk [y] H1 Q := by
  obtain ⟨L0, h1, h2, h3⟩ := pair_up r
  have hlen : L0.length = ks.length := by rw [← h2, List.length_map]
  refine ⟨l, L0, rfl, by rw [h1]; exact hl, fun p hp => R.at_ (h3 p hp), by rw [hlen]; exact h64, fun a L ha hsub hall nd => ?_⟩
  have g1 : Grow H (upd H a (SetH Dk a L)) := Grow.upd ha
  have mem : ∀ p ∈ L, p.1 ∈ ks := fun p hp => by rw [← h2]; exact List.mem_map.mpr ⟨p, hsub p hp, rfl⟩
  have pk : (L.map (·.1)).Perm (dedup ks) := dedup_perm nd fun x => ⟨fun hx => by
      obtain ⟨p, hp, rfl⟩ := List.mem_map.mp hx
      exact mem p hp, fun hx => by
      rw [← h2] at hx
      obtain ⟨p, hp, rfl⟩ := List.mem_map.mp hx
      exact hall p hp⟩
  have e := pk.length_eq
  rw [List.length_map] at e
  refine ⟨a, L, rfl, upd_same, fun p hp => R.up (R.at_ (h3 p (hsub p hp))) g1, hQ _ _ g1 ?_⟩
  rw [e]
  exact .int _
/-- one kind: sorted(x) -/
theorem sort_k {κ : Type} [DecidableEq κ] {Dk : DKind X κ} {dOf : κ → D} (R : Ready Dk dOf) {v : V} {vs : List V} {ks : List κ} {l : Addr} {Q : VK} (hl : SqL X.K H l vs ∨ SqT X.K H l vs) (r : RDs X.K X.mg B H vs (ks.map dOf)) (hz : ks.length ≤ sizeLine) (hok : pairsOk Dk.srt.ok ks = true) (hB : ∀ a, B a → H a ≠ none)
    (hQ : ∀ v' H', Grow H H' → RD X.K X.mg B H' v' (.lst ((isort Dk.srt.lt ks).map dOf)) → Q v' H') : rSortedQ Dk X.K [.ref l] H Q := by
  obtain ⟨L0, h1, h2, h3⟩ := pair_up r
  have hlen : L0.length = ks.length := by rw [← h2, List.length_map]
  have okk := pairsOk_at hok
  have mem : ∀ p ∈ L0, p.1 ∈ ks := fun p hp => by rw [← h2]; exact List.mem_map.mpr ⟨p, hp, rfl⟩
  refine ⟨l, L0, rfl, by rw [h1]; exact hl, fun p hp => R.at_ (h3 p hp), fun p hp q hq => okk _ (mem p hp) _ (mem q hq), by rw [hlen]; exact hz, fun M b pM pw hb => ?_⟩
  have pk : (M.map (·.1)).Perm ks := by rw [← h2]; exact pM.map (·.1)
  have e : M.map (·.1) = isort Dk.srt.lt ks := rising_uniq Dk.srt.lin pw (isort_rising Dk.srt.lin _) (pk.trans (isort_perm _).symm)
  refine hQ _ _ (Grow.upd hb) ?_
  have r2 : RDs X.K X.mg B H (M.map (·.2)) ((M.map (·.1)).map dOf) := rds_of fun p hp => h3 p (pM.mem_iff.mp hp)
  rw [e] at r2
  exact rd_newL hb hB r2
end
abbrev rSet2 (X : Cx) : List V → Hp → VK → Prop := fun xs H Q => rSetK (keyDK X) X.K xs H Q ∨ rSetK (tmDK X) X.K xs H Q
abbrev rSortSet2 (X : Cx) : List V → Hp → VK → Prop := fun xs H Q => rSortedK (keyDK X) xs H Q ∨ rSortedK (tmDK X) xs H Q
abbrev rLenSet2 (X : Cx) : List V → Hp → VK → Prop := fun xs H Q => rLenK (keyDK X) xs H Q ∨ rLenK (tmDK X) xs H Q
abbrev rSort2 (X : Cx) : List V → Hp → VK → Prop := fun xs H Q => rSortedQ (keyDK X) X.K xs H Q ∨ rSortedQ (tmDK X) X.K xs H Q
section
variable {X : Cx}
instance : Inhabited Key := ⟨.inl 0⟩
theorem cr_set2 (hc : X.calm = true) (hu : X.A.units + 64 < cLine) : CallR X (.type "set") (rSet2 X) := (cr_setK (keyDK X) hc hu).or (cr_setK (tmDK X) hc hu)
theorem cr_sortSet2 (hc : X.calm = true) : CallR X (.builtin "sorted") (rSortSet2 X) := (cr_sortedK (keyDK X) hc).or (cr_sortedK (tmDK X) hc)
theorem cr_lenSet2 : CallR X (.builtin "len") (rLenSet2 X) := (cr_lenK (keyDK X)).or (cr_lenK (tmDK X))
theorem cr_sort2 : CallR X (.builtin "sorted") (rSort2 X) := (cr_sortedQ (keyDK X)).or (cr_sortedQ (tmDK X))
theorem pc_sort : PCall X.K X.mg (rSort2 X) (fun ds => match ds with
    | [d] => sortD d
    | _ => none) := by
  intro B H xs ds d Q rx e hB hQ
  match xs, ds, rx with
  | [v], [d0], .cons r .nil =>
    simp only [sortD] at e
    cases q : seqD d0 with
    | none => rw [q] at e; cases e
    | some es =>
      simp only [q, Option.bind_some] at e
      obtain ⟨l, vs, rfl, hl, rs⟩ := seq_inv r q
      split at e
      · rename_i hz
        cases q1 : allK keyOfD es with
        | some ks =>
          simp only [q1] at e
          split at e
          · rename_i hok
            cases e
            have e1 := allK_eq (fun a b => keyOfD_eq) q1
            rw [e1] at rs
            have hlen : ks.length = es.length := by rw [e1, List.length_map]
            exact .inl (sort_k (v := .non) ready_key hl rs (by rw [hlen]; exact hz) hok hB fun v' H' g rd => hQ v' H' g rd)
          · cases e
        | none =>
          simp only [q1] at e
          cases q2 : allK keysOfD es with
          | none => simp only [q2] at e; cases e
          | some ks =>
            simp only [q2] at e
            split at e
            · rename_i hok
              cases e
              have e1 := allK_eq (fun a b => keysOfD_eq) q2
              rw [e1] at rs
              have hlen : ks.length = es.length := by rw [e1, List.length_map]
              exact .inr (sort_k (v := .non) ready_tm hl rs (by rw [hlen]; exact hz) hok hB fun v' H' g rd => hQ v' H' g rd)
            · cases e
      · cases e
  | [], [], _ => simp at e
  | _ :: _ :: _, _ :: _ :: _, _ => simp at e
theorem sim_sortSet {W : WX} {ta : TE} {fa : F} (ha : Sim X.K X.mg W ta fa) : Sim X.K X.mg W (tCB (rSortSet2 X) (tCons (tCB (rSet2 X) (tCons ta tNil)) tNil)) (fUn sortSetD fa) := by
  intro γ σ Q g rep h
  show ta σ g.H fun x H1 => rSet2 X [x] H1 fun y H2 => rSortSet2 X [y] H2 Q
  refine ha.go rep (fun _ _ _ _ z => z) h fun x S v H B ρ rep1 e1 rv hk => ?_
  obtain ⟨d, hd, q⟩ := R.ofO_wp hk
  cases q1 : x.view S with
  | none => rw [q1] at hd; cases hd
  | some a =>
    simp only [q1, Option.bind_some, sortSetD] at hd
    cases q2 : seqD a with
    | none => rw [q2] at hd; cases hd
    | some es =>
      simp only [q2, Option.bind_some] at hd
      obtain ⟨l, vs, rfl, hl, rs⟩ := seq_inv (rv.rt rep1.st q1) q2
      have fin : ∀ v' H', Grow H H' → RD X.K X.mg B H' v' d → Q v' H' := fun v' H' gr rd => okv_im q rep1 rep.st.len e1 gr rd
      split at hd
      · rename_i hz
        cases q3 : allK keyOfD es with
        | some ks =>
          simp only [q3] at hd
          split at hd
          · rename_i hok
            cases hd
            have e1 := allK_eq (fun a b => keyOfD_eq) q3
            rw [e1] at rs hz
            have := sortSet_k (v := .non) ready_key hl rs (by simpa using hz) hok rep1.st.dom fin
            obtain ⟨l', L0, k1, k2, k3, k4, k5⟩ := this
            exact .inl ⟨l', L0, k1, k2, k3, k4, fun a L n1 n2 n3 n4 => .inl (k5 a L n1 n2 n3 n4)⟩
          · cases hd
        | none =>
          simp only [q3] at hd
          cases q4 : allK keysOfD es with
          | none => simp only [q4] at hd; cases hd
          | some ks =>
            simp only [q4] at hd
            split at hd
            · rename_i hok
              cases hd
              have e1 := allK_eq (fun a b => keysOfD_eq) q4
              rw [e1] at rs hz
              have := sortSet_k (v := .non) ready_tm hl rs (by simpa using hz) hok rep1.st.dom fin
              obtain ⟨l', L0, k1, k2, k3, k4, k5⟩ := this
              exact .inr ⟨l', L0, k1, k2, k3, k4, fun a L n1 n2 n3 n4 => .inr (k5 a L n1 n2 n3 n4)⟩
            · cases hd
      · cases hd
theorem sim_lenSet {W : WX} {ta : TE} {fa : F} (ha : Sim X.K X.mg W ta fa) : Sim X.K X.mg W (tCB (rLenSet2 X) (tCons (tCB (rSet2 X) (tCons ta tNil)) tNil)) (fUn lenSetD fa) := by
  intro γ σ Q g rep h
  show ta σ g.H fun x H1 => rSet2 X [x] H1 fun y H2 => rLenSet2 X [y] H2 Q
  refine ha.go rep (fun _ _ _ _ z => z) h fun x S v H B ρ rep1 e1 rv hk => ?_
  obtain ⟨d, hd, q⟩ := R.ofO_wp hk
  cases q1 : x.view S with
  | none => rw [q1] at hd; cases hd
  | some a =>
    simp only [q1, Option.bind_some, lenSetD] at hd
    cases q2 : seqD a with
    | none => rw [q2] at hd; cases hd
    | some es =>
      simp only [q2, Option.bind_some] at hd
      obtain ⟨l, vs, rfl, hl, rs⟩ := seq_inv (rv.rt rep1.st q1) q2
      have fin : ∀ v' H', Grow H H' → RD X.K X.mg B H' v' d → Q v' H' := fun v' H' gr rd => okv_im q rep1 rep.st.len e1 gr rd
      split at hd
      · rename_i hz
        cases q3 : allK keyOfD es with
        | some ks =>
          simp only [q3] at hd
          cases hd
          have e1 := allK_eq (fun a b => keyOfD_eq) q3
          rw [e1] at rs hz
          have := lenSet_k (v := .non) ready_key hl rs (by simpa using hz) fin
          obtain ⟨l', L0, k1, k2, k3, k4, k5⟩ := this
          exact .inl ⟨l', L0, k1, k2, k3, k4, fun a L n1 n2 n3 n4 => .inl (k5 a L n1 n2 n3 n4)⟩
        | none =>
          simp only [q3] at hd
          cases q4 : allK keysOfD es with
          | none => simp only [q4] at hd; cases hd
          | some ks =>
            simp only [q4] at hd
            cases hd
            have e1 := allK_eq (fun a b => keysOfD_eq) q4
            rw [e1] at rs hz
            have := lenSet_k (v := .non) ready_tm hl rs (by simpa using hz) fin
            obtain ⟨l', L0, k1, k2, k3, k4, k5⟩ := this
            exact .inr ⟨l', L0, k1, k2, k3, k4, fun a L n1 n2 n3 n4 => .inr (k5 a L n1 n2 n3 n4)⟩
      · cases hd
end
end DL
namespace DL
open PySem PySem.Spec L2
open PyProof.Rows hiding St
variable [Tbl]
def bOf : D → Option Bool
  | .bl b => some b
  | _ => none
def allD : List D → Option D
  | [.lst ds] => (allK bOf ds).map fun bs => .bl (bs.all id)
  | _ => none
def anyD : List D → Option D
  | [.lst ds] => (allK bOf ds).map fun bs => .bl (bs.any id)
  | _ => none
def lenD : List D → Option D
  | [.lst ds] => some (.int ds.length)
  | [.tup ds] => some (.int ds.length)
  | [.str x] => some (.int x.length)
  | [.dct false kvs] => some (.int kvs.length)
  | _ => none
def intD : List D → Option D
  | [.int i] => some (.int i)
  | [.bl b] => some (.int (if b then 1 else 0))
  | _ => none
def boolD : List D → Option D
  | [.int i] => some (.bl (i != 0))
  | [.bl b] => some (.bl b)
  | _ => none
def listD : List D → Option D
  | [.lst ds] => some (.lst ds)
  | [.tup ds] => some (.lst ds)
  | _ => none
def tupD : List D → Option D
  | [.lst ds] => some (.tup ds)
  | [.tup ds] => some (.tup ds)
  | _ => none
section
variable {K : PySem.W.Frag} {mg : Str → Option Value} {B : Addr → Prop} {H : Hp}
theorem bOf_eq {d : D} {b : Bool} (h : bOf d = some b) : d = .bl b := by
  cases d <;> simp [bOf] at h; rw [h]
theorem rds_bl : ∀ {vs : List V} {bs : List Bool}, RDs K mg B H vs (bs.map D.bl) → vs = bs.map V.bl
  | [], [], _ => rfl
  | [], _ :: _, r => by cases r
  | _ :: _, [], r => by cases r
  | v :: vs, b :: bs, .cons r t => by cases r; rw [List.map_cons, rds_bl t]
theorem rtsOne1 {xs : List V} {d : D} (r : RTs K mg B H xs [d]) : ∃ v, xs = [v] ∧ RT K mg B H v d := by
  cases r with
  | cons r t => cases t; exact ⟨_, rfl, r⟩
theorem pc_all : PCall K mg (rAll K) allD := by
  intro B H xs ds d Q rx e hB hQ
  unfold allD at e
  split at e
  · rename_i es
    obtain ⟨v, rfl, r⟩ := rtsOne1 rx
    cases q : allK bOf es with
    | none => rw [q] at e; cases e
    | some bs =>
      rw [q] at e
      cases e
      obtain ⟨a, vs, rfl, h, rs⟩ := r.lst_inv
      rw [allK_eq (fun a b => bOf_eq) q] at rs
      have := rds_bl rs
      subst this
      exact ⟨a, bs, rfl, SqL.of h, hQ _ _ (Grow.refl _) (.bl _)⟩
  · cases e
theorem pc_any : PCall K mg (rAny K) anyD := by
  intro B H xs ds d Q rx e hB hQ
  unfold anyD at e
  split at e
  · rename_i es
    obtain ⟨v, rfl, r⟩ := rtsOne1 rx
    cases q : allK bOf es with
    | none => rw [q] at e; cases e
    | some bs =>
      rw [q] at e
      cases e
      obtain ⟨a, vs, rfl, h, rs⟩ := r.lst_inv
      rw [allK_eq (fun a b => bOf_eq) q] at rs
      have := rds_bl rs
      subst this
      exact ⟨a, bs, rfl, SqL.of h, hQ _ _ (Grow.refl _) (.bl _)⟩
  · cases e
/-- len -/
def rLenA (K : PySem.W.Frag) : List V → Hp → VK → Prop := fun xs H Q => (∃ p ys, xs = [.ref p] ∧ (SqL K H p ys ∨ SqT K H p ys) ∧ Q (.int ys.length) H) ∨ (∃ z, xs = [.str z] ∧ z.length ≤ sizeLine ∧ Q (.int z.length) H) ∨ ∃ a kvs, xs = [V.ref a] ∧ Rd H a (.dK kvs) ∧ Q (.int kvs.length) H
theorem cr_lenA {X : Cx} : CallR X (.builtin "len") (rLenA X.K) := by
  refine call_len_seq.or (call_len_str.or ?_)
  intro pins s σ H xs us Q I r ⟨a, kvs, e, h, q⟩
  subst e
  rw [Vals.ref1 r]
  exact d_len I h fun t s' I' => ⟨.int kvs.length, H, I', ⟨_, rfl⟩, q⟩
theorem pc_len : PCall K mg (rLenA K) lenD := by
  intro B H xs ds d Q rx e hB hQ
  unfold lenD at e
  split at e
  · obtain ⟨v, rfl, r⟩ := rtsOne1 rx
    cases e
    obtain ⟨a, vs, rfl, h, rs⟩ := r.lst_inv
    exact .inl ⟨a, vs, rfl, .inl (SqL.of h), by rw [rs.length]; exact hQ _ _ (Grow.refl _) (.int _)⟩
  · obtain ⟨v, rfl, r⟩ := rtsOne1 rx
    cases e
    obtain ⟨a, vs, rfl, h, rs⟩ := r.tup_inv
    exact .inl ⟨a, vs, rfl, .inr h, by rw [rs.length]; exact hQ _ _ (Grow.refl _) (.int _)⟩
  · obtain ⟨v, rfl, r⟩ := rtsOne1 rx
    cases e
    obtain ⟨rfl, h⟩ := r.str_inv
    exact .inr (.inl ⟨_, rfl, h.2, hQ _ _ (Grow.refl _) (.int _)⟩)
  · obtain ⟨v, rfl, r⟩ := rtsOne1 rx
    cases e
    refine .inr (.inr ?_)
    cases r with
    | of r => cases r with
      | dK h _ r => exact ⟨_, _, rfl, .inr ⟨_, h⟩, by rw [r.length]; exact hQ _ _ (Grow.refl _) (.int _)⟩
    | dK h r => exact ⟨_, _, rfl, h, by rw [r.length]; exact hQ _ _ (Grow.refl _) (.int _)⟩
  · cases e
abbrev rInt1 : List V → Hp → VK → Prop := fun xs H Q => (∃ i, xs = [.int i] ∧ Q (.int i) H) ∨ ∃ k, xs = [.bl k] ∧ Q (.int (if k then 1 else 0)) H
abbrev rBool1 : List V → Hp → VK → Prop := fun xs H Q => (∃ i, xs = [.int i] ∧ Q (.bl (i != 0)) H) ∨ ∃ k, xs = [.bl k] ∧ Q (.bl k) H
theorem pc_int : PCall K mg rInt1 intD := by
  intro B H xs ds d Q rx e hB hQ
  unfold intD at e
  split at e
  · obtain ⟨v, rfl, r⟩ := rtsOne1 rx
    cases e
    rw [r.int_inv]
    exact .inl ⟨_, rfl, hQ _ _ (Grow.refl _) (.int _)⟩
  · obtain ⟨v, rfl, r⟩ := rtsOne1 rx
    cases e
    rw [r.bl_inv]
    exact .inr ⟨_, rfl, hQ _ _ (Grow.refl _) (.int _)⟩
  · cases e
theorem pc_bool : PCall K mg rBool1 boolD := by
  intro B H xs ds d Q rx e hB hQ
  unfold boolD at e
  split at e
  · obtain ⟨v, rfl, r⟩ := rtsOne1 rx
    cases e
    rw [r.int_inv]
    exact .inl ⟨_, rfl, hQ _ _ (Grow.refl _) (.bl _)⟩
  · obtain ⟨v, rfl, r⟩ := rtsOne1 rx
    cases e
    rw [r.bl_inv]
    exact .inr ⟨_, rfl, hQ _ _ (Grow.refl _) (.bl _)⟩
  · cases e
abbrev rListA (K : PySem.W.Frag) : List V → Hp → VK → Prop := fun xs H Q => ∃ p ys, xs = [.ref p] ∧ (SqL K H p ys ∨ SqT K H p ys) ∧ ∀ l, H l = none → Q (.ref l) (upd H l (.lst ys))
abbrev rTupA (K : PySem.W.Frag) : List V → Hp → VK → Prop := fun xs H Q => ∃ p ys, xs = [.ref p] ∧ ((SqL K H p ys ∧ ∀ l, H l = none → Q (.ref l) (upd H l (.tup ys))) ∨ (SqT K H p ys ∧ Q (.ref p) H))
theorem pc_list : PCall K mg (rListA K) listD := by
  intro B H xs ds d Q rx e hB hQ
  unfold listD at e
  split at e
  · obtain ⟨v, rfl, r⟩ := rtsOne1 rx
    cases e
    obtain ⟨a, vs, rfl, h, rs⟩ := r.lst_inv
    exact ⟨a, vs, rfl, .inl (SqL.of h), fun p hp => hQ _ _ (Grow.upd hp) (rd_newL hp hB rs)⟩
  · obtain ⟨v, rfl, r⟩ := rtsOne1 rx
    cases e
    obtain ⟨a, vs, rfl, h, rs⟩ := r.tup_inv
    exact ⟨a, vs, rfl, .inr h, fun p hp => hQ _ _ (Grow.upd hp) (rd_newL hp hB rs)⟩
  · cases e
theorem pc_tup : PCall K mg (rTupA K) tupD := by
  intro B H xs ds d Q rx e hB hQ
  unfold tupD at e
  split at e
  · obtain ⟨v, rfl, r⟩ := rtsOne1 rx
    cases e
    obtain ⟨a, vs, rfl, h, rs⟩ := r.lst_inv
    exact ⟨a, vs, rfl, .inl ⟨SqL.of h, fun p hp => hQ _ _ (Grow.upd hp) (rd_newT hp hB rs)⟩⟩
  · obtain ⟨v, rfl, r⟩ := rtsOne1 rx
    cases e
    have rd := r.tup_rd
    obtain ⟨a, vs, rfl, h, rs⟩ := r.tup_inv
    exact ⟨a, vs, rfl, .inr ⟨h, hQ _ _ (Grow.refl _) rd⟩⟩
  · cases e
end
/-- a class as it stands in the text: a built-in type, an own class -/
inductive CV where
  | bt (n : String) | own (c : Str)
  deriving DecidableEq
def tyC : D → CV
  | .non => .bt "NoneType"
  | .bl _ => .bt "bool"
  | .int _ => .bt "int"
  | .str _ => .bt "str"
  | .tup _ => .bt "tuple"
  | .lst _ | .scr _ => .bt "list"
  | .dct _ _ => .bt "dict"
  | .ins c _ => .own c
def cvV (mg : Str → Option Value) : CV → Option Value
  | .bt n => some (.type n)
  | .own c => mg c
theorem tyD_C (mg : Str → Option Value) (d : D) : tyD mg d = cvV mg (tyC d) := by cases d <;> rfl
/-- whether a value of that type is an instance -/
abbrev IsTab := CV → CV → Option Bool
def IsOk (K : PySem.W.Frag) (mg : Str → Option Value) (is : IsTab) : Prop := ∀ a c b t u, is a c = some b → cvV mg a = some t → cvV mg c = some u → PySem.W.kitOne K t u = some b
def isAny (is : IsTab) (a : CV) : List CV → Option Bool
  | [] => some false
  | c :: cs => match is a c with
    | some true => some true
    | some false => isAny is a cs
    | none => none
def isD (is : IsTab) (cs : Str → Bool) (c : CV) : D → Option D := fun d => if d.known cs then (is (tyC d) c).map .bl else none
def isTD (is : IsTab) (cs : Str → Bool) (l : List CV) : D → Option D := fun d => if d.known cs then (isAny is (tyC d) l).map .bl else none
def rIsi1 (K : PySem.W.Frag) (mg : Str → Option Value) (cs : Str → Bool) (c : V) : V → Hp → VK → Prop := fun x H Q => ∃ B d t u b, RT K mg B H x d ∧ d.known cs = true ∧ tyD mg d = some t ∧ ClsV c u ∧ PySem.W.kitOne K t u = some b ∧ Q (.bl b) H
def rIsiC (K : PySem.W.Frag) (mg : Str → Option Value) (cs : Str → Bool) : List V → Hp → VK → Prop := fun xs H Q => ∃ x c, xs = [x, c] ∧ rIsi1 K mg cs c x H Q
def rIsiTC (K : PySem.W.Frag) (mg : Str → Option Value) (cs : Str → Bool) : List V → Hp → VK → Prop := fun xs H Q => ∃ x tp vs us B d t b, xs = [x, .ref tp] ∧ H tp = some (.tup vs) ∧ Paired ClsV vs us ∧ RT K mg B H x d ∧ d.known cs = true ∧ tyD mg d = some t ∧ PySem.W.kitAny K t us = some b ∧ Q (.bl b) H
section
variable {X : Cx} {cs : Str → Bool}
theorem cr_isiC (hc : ClsT X.K X.mg cs) : CallR X (.builtin "isinstance") (rIsiC X.K X.mg cs) := by
  intro pins s σ H xs us Q I r h
  obtain ⟨x, c, rfl, B, d, t, u, b, rt, hk, ht, k, e, q⟩ := h
  obtain ⟨u1, u2, rfl, r1, r2⟩ := vals2 r
  have e2 := k.eq r2
  subst e2
  obtain ⟨P, Z, p, hx⟩ := kit_rt hc I rt r1 ht hk
  exact PySem.W.kia_one Z I.kIn p e hx fun tk => ⟨.bl b, H, I.tok tk, rfl, q⟩
theorem cr_isiTC (hc : ClsT X.K X.mg cs) : CallR X (.builtin "isinstance") (rIsiTC X.K X.mg cs) := by
  intro pins s σ H xs us Q I r h
  obtain ⟨x, tp, vs, ws, B, d, t, b, rfl, hT, k, rt, hk, ht, e, q⟩ := h
  obtain ⟨u1, u2, rfl, r1, r2⟩ := vals2 r
  cases (show u2 = Value.ref tp from r2)
  obtain ⟨P, Z, p, hx⟩ := kit_rt hc I rt r1 ht hk
  obtain ⟨_, its, rv, o, h1, h2, n, h3⟩ := (show ObjOk X.prog X.w H s.heap tp (.tup vs) from I.hok tp _ hT)
  have e3 := ClsV.all k rv
  subst e3
  obtain ⟨oc, od, dt, sl⟩ := o
  simp only at h2 h3
  subst h2 h3
  exact PySem.W.kia_tup Z I.kIn p h1 e hx fun tk => ⟨.bl b, H, I.tok tk, rfl, q⟩
end
/-- the value of a class's name -/
def CV.at (mg : Str → Option Value) (c : CV) (v : V) : Prop := ∃ u, cvV mg c = some u ∧ ClsV v u
section
variable {K : PySem.W.Frag} {mg : Str → Option Value} {W : WX} {is : IsTab} {cs : Str → Bool}
theorem sim_isi {c : CV} {v : V} {ta : TE} {fa : F} (hI : IsOk K mg is) (hv : c.at mg v) (ha : Sim K mg W ta fa) : Sim K mg W (tCB (rIsiC K mg cs) (tCons ta (tCons (tC v) tNil))) (fUn (isD is cs c) fa) := by
  intro γ σ Q g rep h
  show ta σ g.H fun x H1 => rIsiC K mg cs [x, v] H1 Q
  refine ha.go rep (fun _ _ _ _ z => z) h fun x S u H B ρ rep1 e1 rv hk => ?_
  obtain ⟨d, hd, q⟩ := R.ofO_wp hk
  cases q1 : x.view S with
  | none => rw [q1] at hd; cases hd
  | some a =>
    simp only [q1, Option.bind_some, isD] at hd
    split at hd
    · rename_i hkn
      cases q2 : is (tyC a) c with
      | none => rw [q2] at hd; cases hd
      | some b =>
        rw [q2] at hd
        cases hd
        obtain ⟨w, hw, kw⟩ := hv
        have rt := rv.rt rep1.st q1
        obtain ⟨t, ht⟩ := rt.ty
        exact ⟨u, v, rfl, B, a, t, w, b, rt, hkn, ht, kw, hI _ _ _ _ _ q2 (by rw [← tyD_C]; exact ht) hw, okv_im q rep1 rep.st.len e1 (Grow.refl _) (.bl b)⟩
    · cases hd
/-- (c1, c2, ..) in the text -/
def tCls : List V → TA
  | [] => tNil
  | v :: vs => tCons (tC v) (tCls vs)
theorem tCls_run : ∀ (vs : List V) (σ : St) (H : Hp) (Q : List V → Hp → Prop), Q vs H → tCls vs σ H Q
  | [], _, _, _, h => h
  | v :: vs, σ, H, Q, h => tCls_run vs σ H (fun us H2 => Q (v :: us) H2) h
theorem isAny_kit (hI : IsOk K mg is) {a : CV} {t : Value} (ht : cvV mg a = some t) : ∀ {l : List CV} {us : List Value} {b : Bool}, Paired (fun c u => cvV mg c = some u) l us → isAny is a l = some b → PySem.W.kitAny K t us = some b
  | [], _, b, .nil, h => by cases h; rfl
  | c :: l, _, b, .cons h1 t1, h => by
    unfold isAny at h
    cases q : is a c with
    | none => rw [q] at h; cases h
    | some x =>
      rw [q] at h
      refine kitAny_cons (hI _ _ _ _ _ q ht h1) (fun e => ?_) fun e => ?_
      · subst e; exact isAny_kit hI ht t1 h
      · subst e; cases h; rfl
theorem sim_isiT {l : List CV} {vs : List V} {us : List Value} {ta : TE} {fa : F} (hI : IsOk K mg is) (h1 : Paired (fun c u => cvV mg c = some u) l us) (h2 : Paired ClsV vs us) (hz : vs.length ≤ sizeLine) (ha : Sim K mg W ta fa) :
    Sim K mg W (tCB (rIsiTC K mg cs) (tCons ta (tCons (tTup (tCls vs)) tNil))) (fUn (isTD is cs l) fa) := by
  intro γ σ Q g rep h
  refine ha.go (Q1 := fun x H1 => tTup (tCls vs) σ H1 fun y H2 => rIsiTC K mg cs [x, y] H2 Q) rep (fun _ _ _ _ z => z) h fun x S u H B ρ rep1 e1 rv hk => ?_
  obtain ⟨d, hd, q⟩ := R.ofO_wp hk
  cases q1 : x.view S with
  | none => rw [q1] at hd; cases hd
  | some a =>
    simp only [q1, Option.bind_some, isTD] at hd
    split at hd
    · rename_i hkn
      cases q2 : isAny is (tyC a) l with
      | none => rw [q2] at hd; cases hd
      | some b =>
        rw [q2] at hd
        cases hd
        refine tCls_run vs σ H _ ⟨hz, fun p hp => ?_⟩
        have gr : Grow H (upd H p (.tup vs)) := Grow.upd hp
        have ex := Ext.grow rep1.st gr
        have rt := (rv.mono ex rep1.st).rt (rep1.st.grow gr) q1
        obtain ⟨t, ht⟩ := rt.ty
        exact ⟨u, p, vs, us, B, a, t, b, rfl, upd_same, h2, rt, hkn, ht, isAny_kit hI (by rw [← tyD_C]; exact ht) h1 q2, okv_im q rep1 rep.st.len e1 gr (.bl b)⟩
    · cases hd
end
end DL
namespace DL
open PySem PySem.Spec L2
open PyProof.Rows hiding St
variable [Tbl]
structure FnOkN (P : Program) (w : World) (K : PySem.W.Frag) (mg : Str → Option Value) (base : Heap) (CX : CXT) (k : Nat) (f : Addr) (fd : FuncData) (ps : List Str) (sp : Nat → Sp) : Prop where
  len : ∀ n vs H Q E, sp n vs H Q E → vs.length = ps.length
  run : ∀ (A : Around) (outer : List Env) (s : Shared) (H : Hp) (args : Args) (us : List Value) (vs : List V) (Q : VK) (E : XK), Room k A → Env0 P w K mg base A outer s H → BindsTo s fd args (ps.zip us) → Vals vs us → sp s.heap.objs.size vs H Q E →
    codeAny (model P w) A (.call (.ref f) args) (CR CX outer P w H s Q E) s
section
variable {P : Program} {w : World} {K : PySem.W.Frag} {mg : Str → Option Value} {base : Heap}
theorem fnN_of {CX : CXT} {x qual : Str} {params : Arguments} {body : List Stmt} {scope : Scope} {dvs : List V} {kws : List (Str × V)} {f : Addr} {fd : FuncData} {N ps : List Str} {k : Nat} {sp : Nat → Sp} (F : FunD K x qual params body scope dvs kws f fd) (S : FnScope N ps scope) (len : ∀ n vs H Q E, sp n vs H Q E → vs.length = ps.length)
    (hbody : ∀ (cdv : Value) (A : Around) (outer : List Env) (s : Shared) (H : Hp) (vs : List V) (Q : VK) (E : XK), Room k (A.deeper (envOfC qual scope s.heap.objs.size f cdv)) → sp s.heap.objs.size vs H Q E →
      ∃ t, PSs (cxOf CX P w K mg base N qual scope f cdv A outer s H E) body t ∧ t { nx := fun _ H' => Q .non H', rt := Q } (L2.start N vs) H) : FnOkN P w K mg base CX (k + 1) f fd ps sp := by
  obtain ⟨oc, od, dV, kV, doc, pm, an, cdv, ct, osl, rfl, lk, hcd, _, _⟩ := F.ex
  refine ⟨len, fun A outer s H args us vs Q E hr e0 hb r hsp => ?_⟩
  have hl := len _ _ _ _ _ hsp
  have KX : K.In s.heap := e0.mod.kin.keeps fun b o e => (e0.bs b o e).1
  have lim : s.heap.NoLimit := e0.mod.nolimit.keeps fun b o e => (e0.bs b o e).1
  have hkind : ∀ y ∈ ps.zip us, scope.names.lookup y.1 = some .local ∨ (scope.names.lookup y.1 = some .cell ∧ ((cellsFrom (s.heap.objs.size + 1) scope.names []).lookup y.1).isSome = true) := fun ⟨n, v⟩ hy => by
    rcases S.par n (List.of_mem_zip hy).1 with q | q
    · exact .inl q
    · exact .inr ⟨q, PySem.W.cellsFrom_some _ _ _ (.inl q)⟩
  refine codeAny_call_function hr.depth (KX _ _ lk) rfl S.co S.gen rfl (PySem.W.codeRec_of KX hcd) (hb _ _ _ _ ?_)
  refine wpAny_newFunctionEnv_cells S.kind hkind fun env he s1 x => ?_
  subst he
  refine ⟨lim.keeps x.toInCall.keep, codeAny_func ?_⟩
  obtain ⟨t, ht, hq⟩ := hbody cdv A outer s H vs Q E (hr.deeper _) hsp
  have I : Inv (cxOf CX P w K mg base N qual scope f cdv A outer s H E) [] (L2.start N vs) H s1 := inv_start S hr.hd e0 hl r x
  refine wpAny_mono (ht.run [] s1 (L2.start N vs) H _ I hq) (fun fl s' hs => ?_) fun e s' hs => hs
  have fin : ∀ {σ' : St} {H' : Hp} {v : V} {u : Value}, Inv (cxOf CX P w K mg base N qual scope f cdv A outer s H E) [] σ' H' s' → L2.RelV v u → Q v H' → CE outer P w H s Q u s' :=
    fun {σ' H' v u} J rv q => ⟨v, H', J.os, J.bare, J.base, J.hok, rv, q⟩
  cases fl with
  | ret u =>
    obtain ⟨v, σ', H', J, rv, q⟩ := hs
    exact fin J rv q
  | next =>
    obtain ⟨σ', H', J, q⟩ := hs
    exact fin (v := V.non) (u := Value.none) J rfl q
  | brk =>
    obtain ⟨_, _, _, q⟩ := hs
    exact False.elim q
  | cont =>
    obtain ⟨_, _, _, q⟩ := hs
    exact False.elim q
end
/-- an iterator over a tuple (b) or a list that was not turned yet -/
def TItO (l it : Addr) : HO := .ext fun h => h.get? it = some { cls := .type "tuple_iterator", data := .fields #[.ref l, .int 0 0] }
def ItB (b : Bool) (l it : Addr) : HO := match b with
  | true => TItO l it
  | false => ItO l it 0
def dB (b : Bool) (ds : List D) : D := match b with
  | true => .tup ds
  | false => .lst ds
def SqB (b : Bool) (K : PySem.W.Frag) (H : Hp) (l : Addr) (vs : List V) : Prop := match b with
  | true => SqT K H l vs
  | false => SqL K H l vs
def IterB (b : Bool) (h : Heap) (it l : Addr) (i : Nat) : Prop := match b with
  | true => h.IsTupleIter it l i
  | false => h.IsListIter it l i
def ItlB (b : Bool) (K : PySem.W.Frag) (l : Addr) : It := match b with
  | true => Itt K l
  | false => Itl K l
theorem titO_ok {P : Program} {w : World} {H : Hp} {h : Heap} {l it : Addr} (e : h.get? it = some { cls := .type "tuple_iterator", data := .fields #[.ref l, .int 0 0] }) : ObjOk P w H h it (TItO l it) := ⟨e, ⟨_, e⟩, fun h1 h2 q k => k _ q⟩
theorem call_iterT0 {prog : Program} {w : World} {A : Around} {E : Value → Shared → Prop} {s : Shared} {l : Addr} {items : Array Value} {Q : Value → Shared → Prop} (hl : s.heap.IsTuple l items) (h : Q (.ref s.heap.objs.size) { s with heap := s.heap.push { cls := .type "tuple_iterator", data := .fields #[.ref l, .int 0 0] } }) : wpAny (model prog w) A (call (.builtin "iter") [.ref l]) Q E s := by
  refine Calls.call_function_entry (by decide +kernel) (by decide +kernel) PySem.W.kdk_entry_iter (PySem.W.kdk_args_iter _) ?_
  unfold Builtin.«iter»
  refine wpAny_bind (m := someArgs "iter" 1 2 _) (wpAny_of_eq (a := [Value.ref l]) (by first | rfl | kernel_rfl!) ?_)
  show wpAny _ _ (pyIter (.ref l) >>= _) _ _ _
  exact wpAny_bind (wpAny_pyIter_tuple hl (wpAny_pure ⟨_, rfl, h⟩))
def rIterB (K : PySem.W.Frag) (n : Nat) : List V → Hp → VK → Prop := fun xs H Q => ∃ (b : Bool) (l : Addr) (zs : List V), xs = [.ref l] ∧ SqB b K H l zs ∧ ∀ it, H it = none → n ≤ it → Q (.ref it) (upd H it (ItB b l it))
theorem call_iterB {X : Cx} : CallR X (.builtin "iter") (rIterB X.K X.s_0.heap.objs.size) := by
  intro pins s σ H xs us Q I r h
  obtain ⟨b, l, zs, rfl, hq, q⟩ := h
  cases b with
  | false => exact ItX.call_iterN pins s σ H _ us Q I r ⟨l, zs, rfl, hq, q⟩
  | true =>
    obtain ⟨u, rfl, ru⟩ := r.one
    cases ru
    obtain ⟨its, rv, pl, hz⟩ := I.tuple hq
    refine call_iterT0 pl ?_
    exact ⟨.ref s.heap.objs.size, _, I.laid (t' := s.toks) (fun b u e => Heap.get?_push_of_some _ e) (Nat.le_refl _) (titO_ok (Heap.get?_push_size _ rfl)), rfl, q _ (I.hok.fresh (Nat.le_refl _)) I.sz⟩
/-- the promise of an own __iter__: an iterator over a list or a tuple of data, younger than n -/
def spIt (K : PySem.W.Frag) (mg : Str → Option Value) (f : FnS) (n : Nat) : Sp := fun vs H Q E => vs.length = 1 ∧ ∃ (B : Addr → Prop) (S : Sto) (ρ : List (List Addr)) (xs : List Vl), StOk K mg B S ρ H ∧ RVs K mg B S ρ H vs xs ∧
  (f xs S).wp (fun x S' => ∃ b ds, x = .im (dB b ds) ∧ ∀ l H' B' ρ', StOk K mg B' S' ρ' H' → Ext B S ρ H B' S' ρ' H' → RD K mg B' H' (.ref l) (dB b ds) → ∀ it, H' it = none → n ≤ it → Q (.ref it) (upd H' it (ItB b l it)))
    (fun _ _ _ _ => False)
structure IMe where
  f : Addr
  fd : FuncData
  k : Nat
  ps : List Str
  sem : FnS
structure IMeOk (X : Cx) (C : Addr) (me : IMe) : Prop where
  ok : FnOkN X.prog X.w X.K X.mg X.base (L2.CX X.prog X.w) me.k me.f me.fd me.ps (spIt X.K X.mg me.sem)
  one : me.ps.length = 1
  room : Room (me.k + 2) X.A
  binds : Binds X.K me.fd me.ps []
  find : PySem.W.findIn X.K (.ref C) "__iter__" = some (some (.ref me.f))
  isfn : PySem.W.isFn X.K (.ref me.f) = true
abbrev ITab := Str → Option IMe
def IT (X : Cx) (tab : ITab) : Prop := ∀ c C me, tab c = some me → X.mg c = some (.ref C) → IMeOk X C me
theorem sqB_of {K : PySem.W.Frag} {mg : Str → Option Value} {B : Addr → Prop} {H : Hp} {x : V} {b : Bool} {ds : List D} (r : RT K mg B H x (dB b ds)) : ∃ l vs, x = .ref l ∧ SqB b K H l vs ∧ RDs K mg B H vs ds := by
  cases b with
  | true => exact r.tup_inv
  | false =>
    obtain ⟨l, vs, e, h, r⟩ := r.lst_inv
    exact ⟨l, vs, e, SqL.of h, r⟩
/-- the def: return iter(e) -/
theorem it_ok {P : Program} {w : World} {K : PySem.W.Frag} {mg : Str → Option Value} {base : Heap} {x qual : Str} {params : Arguments} {scope : Scope} {dvs : List V} {kws : List (Str × V)} {f : Addr} {fd : FuncData} {N ps : List Str} {k : Nat} {fe : F} {body : List Stmt} (F : FunD K x qual params body scope dvs kws f fd) (S : FnScope N ps scope) (h1 : ps.length = 1)
    (hbody : ∀ (cdv : Value) (A : Around) (outer : List Env) (s : Shared) (H : Hp) (E : XK), Room k (A.deeper (envOfC qual scope s.heap.objs.size f cdv)) → ∃ te, PSs (cxOf (L2.CX P w) P w K mg base N qual scope f cdv A outer s H E) body (tRet (tCB (rIterB K s.heap.objs.size) (tCons te tNil))) ∧ Sim K mg (We E) te fe) :
    FnOkN P w K mg base (L2.CX P w) (k + 1) f fd ps (spIt K mg (semOf N.length (fRet fe))) := by
  refine fnN_of F S (fun n vs H Q E h => h.1.trans h1.symm) fun cdv A outer s H vs Q E hr hsp => ?_
  obtain ⟨te, ht, hs⟩ := hbody cdv A outer s H E hr
  refine ⟨_, ht, ?_⟩
  obtain ⟨hl, B, S0, ρ, xs, ok, rv, w⟩ := hsp
  show te (L2.start N vs) H fun x H1 => rIterB K s.heap.objs.size [x] H1 Q
  refine hs (startG N.length xs) (L2.start N vs) _ ⟨B, S0, ρ, H⟩ (rep_start ok rv) ?_
  unfold semOf fRet at w
  cases q : fe (startG N.length xs) S0 with
  | bad => simp only [q, R.bind_bad] at w; exact w.elim
  | exc c fs γ S' => simp only [q, R.bind_exc] at w; exact w.elim
  | ok y S' =>
    simp only [q, R.bind_ok] at w
    obtain ⟨b, ds, rfl, w⟩ := w
    intro v H' B' ρ' rep e rv'
    obtain ⟨l, zs, rfl, hz, rz⟩ := sqB_of (RD.rt rv')
    exact ⟨b, l, zs, rfl, hz, fun it hit hn => w l H' B' ρ' rep.st e rv' it hit hn⟩
/-- x in a walk, x an instance -/
def OwnItAt (mg : Str → Option Value) (tab : ITab) (H : Hp) (x : V) (C : Addr) (me : IMe) : Prop := ∃ a dx fs c, x = .ref a ∧ H a = some (.ins C dx fs) ∧ mg c = some (.ref C) ∧ tab c = some me
def itPost (K : PySem.W.Frag) (N : Nat) (R : Bool → Addr → Hp → Prop) : VK := fun v H2 => ∃ it b l vs H3, v = .ref it ∧ H2 = upd H3 it (ItB b l it) ∧ H3 it = none ∧ N ≤ it ∧ SqB b K H3 l vs ∧ R b l H3
def iOwn (K : PySem.W.Frag) (mg : Str → Option Value) (tab : ITab) (E : XK) (te : TE) : TI := fun σ H R => te σ H fun x H1 => ∃ C me, OwnItAt mg tab H1 x C me ∧ ∀ N, spIt K mg me.sem N [x] H1 (itPost K N fun b l H3 => R (ItlB b K l) H3) E
section
variable {X : Cx} {tab : ITab} {E : XK}
/-- the call of __iter__, anywhere -/
theorem run_it {A : Around} {pins : List (Addr × Obj)} {σ : St} {H : Hp} {s : Shared} {Q : VK} {C a : Addr} {me : IMe} (m : IMeOk X C me) (hr : Room me.k A) (hf : A.frames = X.A.frames) (hx : Passes (L2.CX X.prog X.w) X E) (I : Inv X pins σ H s)
    (h : spIt X.K X.mg me.sem s.heap.objs.size [.ref a] H Q E) : wpAny (model X.prog X.w) A (call (.ref me.f) [.ref a]) (EP X pins σ Q) X.xe s := by
  have r2 : Vals [V.ref a] [Value.ref a] := .cons rfl .nil
  have e0 : Env0 X.prog X.w X.K X.mg X.base A X.stack s H := by
    have e := I.env0
    exact ⟨by rw [hf]; exact e.frames, e.mod, e.bs, e.bsz, e.funs, e.frf, e.hok, e.bare⟩
  refine wpAny_call (codeAny_mono (m.ok.run A X.stack s H ⟨[.ref a], []⟩ [.ref a] [.ref a] Q E hr e0 (by
    have := m.binds s [.ref a] I.kIn (by simp [m.one])
    simpa using this) r2 h) fun r s' hq => ?_)
  cases r with
  | error e => exact hx pins σ H s e s' I hq
  | ok fl =>
    cases fl with
    | ret u => exact I.after hq
    | next => exact False.elim hq
    | brk => exact False.elim hq
    | cont => exact False.elim hq
/-- behind it: the iterator is forgotten as a thing of H -/
theorem it_after {pins : List (Addr × Obj)} {σ : St} {s' : Shared} {N : Nat} {R : Bool → Addr → Hp → Prop} {u : Value} (hN : X.s_0.heap.objs.size ≤ N) (h : EP X pins σ (itPost X.K N R) u s') :
    ∃ it b l vs H3, u = .ref it ∧ Inv X pins σ H3 s' ∧ IterB b s'.heap it l 0 ∧ FpOk X pins H3 it ∧ SqB b X.K H3 l vs ∧ R b l H3 := by
  obtain ⟨v, H', I', rv, it, b, l, vs, H3, rfl, rfl, hn, hle, hs, hR⟩ := h
  cases (show u = Value.ref it from rv)
  cases b with
  | false =>
    have hat : (upd H3 it (ItO l it 0)) it = some (ItO l it 0) := upd_same
    have g := itO_get I' hat
    have I3 := ItX.inv_drop I' hat
    have fp := ItX.inv_fp I' hat (Nat.le_trans hN hle)
    rw [ItX.dropH_upd hn] at I3 fp
    exact ⟨it, false, l, vs, H3, rfl, I3, ⟨_, g, rfl, rfl⟩, fp, hs, hR⟩
  | true =>
    have hat : (upd H3 it (TItO l it)) it = some (TItO l it) := upd_same
    have g : s'.heap.get? it = some { cls := .type "tuple_iterator", data := .fields #[.ref l, .int 0 0] } := (I'.hok it _ hat).1
    have I3 := ItX.inv_drop I' hat
    have fp := ItX.inv_fp I' hat (Nat.le_trans hN hle)
    rw [ItX.dropH_upd hn] at I3 fp
    exact ⟨it, true, l, vs, H3, rfl, I3, ⟨_, g, rfl, rfl⟩, fp, hs, hR⟩
theorem pi_own {tg e : Expr} {te : TE} (hT : IT X tab) (hx : Passes (L2.CX X.prog X.w) X E) (he : PE X e te) : PI X tg e (iOwn X.K X.mg tab E te) := by
  refine ⟨fun pins s σ H R I h => ?_⟩
  refine thn (he.run pins s σ H _ I h) fun v s1 ⟨x, H1, I1, r1, C, me, ⟨a, dx, fs, c, ex, h1, h2, h3⟩, q⟩ => ?_
  subst ex
  cases (show v = Value.ref a from r1)
  have m := hT c C me h3 h2
  obtain ⟨mA, J, _⟩ := ins_get I1.hok h1
  obtain ⟨od, J, _⟩ := J.look
  obtain ⟨m0, hF⟩ := I1.fr
  refine PySem.W.owit_iter hF I1.ok.mod.kin J m.find m.isfn ?_
  refine wpAny_mono (run_it m (m.room.mono (by omega)) rfl hx I1 (q s1.heap.objs.size)) (fun u s2 hq => ?_) fun _ _ z => z
  obtain ⟨it, b, l, vs, H3, rfl, I3, hit, fp, hs, hR⟩ := it_after I1.sz hq
  unfold PySem.W.OwitIt
  have hfp : ∀ b ∈ [it], FpOk X pins H3 b := fun b hb => by
    have e : b = it := by simpa using hb
    subst e
    exact fp
  cases b with
  | false =>
    have hit : s2.heap.IsListIter it l 0 := hit
    exact wpAny_specialOf hit.typeIs slot_listiter_next.lookup ⟨it, [it], _, _, H3, rfl, I3, turn_list l it, hit, hfp, hR⟩
  | true =>
    have hit : s2.heap.IsTupleIter it l 0 := hit
    exact wpAny_specialOf hit.typeIs PySem.F.slot_tuple_iterator_next.lookup ⟨it, [it], _, _, H3, rfl, I3, turn_tuple l it, hit, hfp, hR⟩
end
def ownI (tab : ITab) (f : F) : FI := fun γ S => (f γ S).bind fun x S1 => match clsV x S1 with
  | none => .bad
  | some c => match tab c with
    | none => .bad
    | some me => (callSem (arity 1 me.sem) [x] γ S1).nox.bind fun y S2 => match y with
      | .im (.lst ds) => .ok (fun _ => some ds) S2
      | .im (.tup ds) => .ok (fun _ => some ds) S2
      | _ => .bad
section
variable {K : PySem.W.Frag} {mg : Str → Option Value} {E : XK} {tab : ITab}
theorem jok_data {B : Addr → Prop} {S : Sto} {ρ : List (List Addr)} {H : Hp} {l : Addr} {ds : List D} (r : RD K mg B H (.ref l) (.lst ds)) : JOk K mg ⟨B, S, ρ, H⟩ (Itl K l) (fun _ => some ds) := by
  intro B' S' ρ' H' i ds' ok' e' hi
  cases hi
  have r' : RD K mg B' H' (.ref l) (.lst ds) := e'.rv (.ref l) (.im (.lst ds)) r
  obtain ⟨a', vs', ea, ha', rs⟩ := RT.lst_inv (RD.rt r')
  cases ea
  refine ⟨fun d' hd => ?_, fun hn => ⟨vs', SqL.of ha', ?_⟩⟩
  · obtain ⟨u, h1, h2⟩ := rs.get hd
    exact ⟨⟨vs', u, SqL.of ha', h1⟩, fun y H'' hy => by
      obtain ⟨rfl, hy⟩ := hy
      have := hy vs' (SqL.of ha')
      rw [h1] at this
      cases this
      exact ⟨Grow.refl _, h2⟩⟩
  · have := rs.length
    rw [List.getElem?_eq_none_iff] at hn
    first | omega | (rw [List.getElem?_eq_none_iff]; omega)
theorem jok_dataT {B : Addr → Prop} {S : Sto} {ρ : List (List Addr)} {H : Hp} {l : Addr} {ds : List D} (r : RD K mg B H (.ref l) (.tup ds)) : JOk K mg ⟨B, S, ρ, H⟩ (Itt K l) (fun _ => some ds) := by
  intro B' S' ρ' H' i ds' ok' e' hi
  cases hi
  have r' : RD K mg B' H' (.ref l) (.tup ds) := e'.rv (.ref l) (.im (.tup ds)) r
  obtain ⟨a', vs', ea, ha', rs⟩ := RT.tup_inv (RD.rt r')
  cases ea
  refine ⟨fun d' hd => ?_, fun hn => ⟨vs', ha', ?_⟩⟩
  · obtain ⟨u, h1, h2⟩ := rs.get hd
    exact ⟨⟨vs', u, ha', h1⟩, fun y H'' hy => by
      obtain ⟨rfl, hy⟩ := hy
      have := hy vs' ha'
      rw [h1] at this
      cases this
      exact ⟨Grow.refl _, h2⟩⟩
  · have := rs.length
    rw [List.getElem?_eq_none_iff] at hn
    first | omega | (rw [List.getElem?_eq_none_iff]; omega)
theorem jok_dataB {B : Addr → Prop} {S : Sto} {ρ : List (List Addr)} {H : Hp} {l : Addr} {b : Bool} {ds : List D} (r : RD K mg B H (.ref l) (dB b ds)) : JOk K mg ⟨B, S, ρ, H⟩ (ItlB b K l) (fun _ => some ds) := by
  cases b with
  | true => exact jok_dataT r
  | false => exact jok_data r
/-- the call of an own __iter__ by its evaluator -/
theorem it_go {me : IMe} {g : At} {γ : Gam} {σ : St} {B : Addr → Prop} {S : Sto} {ρ : List (List Addr)} {H : Hp} {v : V} {x : Vl} {P : Vl → Sto → Prop} {N : Nat} {R : Bool → Addr → Hp → Prop} (hl : g.ρ.length = g.S.length) (rep : Rep K mg B γ S ρ σ H) (e : g.to B S ρ H) (rv : RV K mg B S ρ H v x)
    (h : (callSem (arity 1 me.sem) [x] γ S).wp P (fun _ _ _ _ => False)) (hP : ∀ y S', P y S' → ∃ b ds, y = .im (dB b ds) ∧ ∀ l H' B' ρ', Rep K mg B' γ S' ρ' σ H' → g.to B' S' ρ' H' → RD K mg B' H' (.ref l) (dB b ds) → R b l H') : spIt K mg me.sem N [v] H (itPost K N R) E := by
  unfold callSem at h
  simp only at h
  split at h
  · rename_i hc
    obtain ⟨nd, lv⟩ := hc
    have ok := rep.st
    have rv1 : RVs K mg B S ρ H [v] [x] := .cons rv .nil
    have har : arity 1 me.sem (pack [x] 0).1 (sub S (pack [x] 0).2) = me.sem (pack [x] 0).1 (sub S (pack [x] 0).2) := by
      unfold arity
      rw [if_pos (by rw [pack_len]; rfl)]
    rw [har] at h
    refine ⟨rfl, B, sub S (pack [x] 0).2, subρ ρ (pack [x] 0).2, (pack [x] 0).1, ok.sub nd, ?_, ?_⟩
    · have := pack_rv ok rv1 [] (by simpa using lv)
      simpa using this
    · cases q : me.sem (pack [x] 0).1 (sub S (pack [x] 0).2) with
      | bad => simp only [q] at h; exact h.elim
      | exc c fs γ' S' => simp only [q] at h; exact h.elim
      | ok y S' =>
        cases y with
        | im d =>
          simp only [q] at h
          obtain ⟨b, ds, e1, hR⟩ := hP _ _ h
          cases e1
          refine ⟨b, ds, rfl, fun l H' B' ρ' ok' e' rd it hit hn => ?_⟩
          obtain ⟨ok2, e2⟩ := ok.back nd lv ok' e'
          obtain ⟨l', zs, el, hz, rz⟩ := sqB_of (RD.rt rd)
          exact ⟨it, b, l, zs, H', rfl, rfl, hit, hn, by cases el; exact hz, hR l H' B' ρ (rep.step e2 ok2) (e.trans e2 hl ok.len) rd⟩
        | cl j =>
          simp only [q] at h
          split at h
          · obtain ⟨b, ds, e1, _⟩ := hP _ _ h
            cases b <;> cases e1
          · split at h
            · obtain ⟨b, ds, e1, _⟩ := hP _ _ h
              cases b <;> cases e1
            · exact h.elim
  · exact h.elim
theorem simI_own {te : TE} {fe : F} (h1 : Sim K mg (We E) te fe) : SimI K mg (We E) (iOwn K mg tab E te) (ownI tab fe) := by
  intro γ σ Q g rep h
  refine h1.go (X := Exv K mg g σ (We E)) rep (fun _ _ _ _ z => z) h fun x S v H B ρ rep1 e1 rv hk => ?_
  cases q0 : clsV x S with
  | none => simp only [q0] at hk; exact hk.elim
  | some c =>
  cases q1 : tab c with
  | none => simp only [q0, q1] at hk; exact hk.elim
  | some me =>
  simp only [q0, q1] at hk
  obtain ⟨fs, hv⟩ := clsV_inv q0
  obtain ⟨a, C, dx, fvs, rfl, h1', hm, r⟩ := ins_at rep1.st rv hv
  refine ⟨C, me, ⟨a, dx, fvs, c, rfl, h1', hm, q1⟩, fun N => ?_⟩
  have hno : (callSem (arity 1 me.sem) [x] γ S).wp (fun y S2 => ∃ b ds, y = .im (dB b ds) ∧ ∀ J H B ρ, Rep K mg B γ S2 ρ σ H → g.to B S2 ρ H → JOk K mg ⟨B, S2, ρ, H⟩ J (fun _ => some ds) → Q J H) (fun _ _ _ _ => False) := by
    cases q : callSem (arity 1 me.sem) [x] γ S with
    | bad => simp only [q] at hk; exact hk.elim
    | exc c fs γ' S' => simp only [q] at hk; exact hk.elim
    | ok y S2 =>
      simp only [q, R.nox_ok, R.bind_ok] at hk
      cases y with
      | cl j => exact hk.elim
      | im d =>
        cases d <;> first | exact hk.elim | exact ⟨false, _, rfl, hk⟩ | exact ⟨true, _, rfl, hk⟩
  exact it_go rep.st.len rep1 e1 rv hno fun y S' ⟨b, ds, e2, hJ⟩ => ⟨b, ds, e2, fun l H' B' ρ' rep' e' rd => hJ (ItlB b K l) H' B' ρ' rep' e' (jok_dataB rd)⟩
end
end DL
namespace DL
open PySem PySem.Spec L2
open PyProof.Rows hiding St
variable [Tbl]
section
variable {X : Cx} {pins : List (Addr × Obj)} {σ : St}
/-- a def that raises nothing runs, at whichever place -/
theorem run_at0 {me : Me} {A : Around} {H : Hp} {s : Shared} {Q : VK} {us : List Value} {vs : List V} {Ex : Value → Shared → Prop} {pins : List (Addr × Obj)} (m : MeOk X me) (hr : Room me.k A) (hf : A.frames = X.A.frames) (I : Inv X pins σ H s) (r : Vals vs us)
    (h : spM X.K X.mg me (vs ++ me.dvs) H Q (fun _ _ _ => False)) : wpAny (model X.prog X.w) A (call (.ref me.f) us) (EP X pins σ Q) Ex s := by
  obtain ⟨ds, hb, hd⟩ := m.binds
  have r2 : Vals (vs ++ me.dvs) (us ++ ds) := r.append hd
  have hl : (us ++ ds).length = me.ps.length := by rw [← r2.length]; exact m.ok.len _ _ _ _ h
  have e0 : Env0 X.prog X.w X.K X.mg X.base A X.stack s H := by
    have e := I.env0
    exact ⟨by rw [hf]; exact e.frames, e.mod, e.bs, e.bsz, e.funs, e.frf, e.hok, e.bare⟩
  refine wpAny_call (codeAny_mono (m.ok.run A X.stack s H ⟨us, []⟩ (us ++ ds) (vs ++ me.dvs) Q _ hr e0 (hb s us I.kIn hl) r2 h) fun r s' hq => ?_)
  cases r with
  | error e =>
    obtain ⟨a, B, H', cls, d, _, fl, hok, ub, na, os, ag, hE⟩ := hq
    exact hE.elim
  | ok fl =>
    cases fl with
    | ret u => exact I.after hq
    | next => exact False.elim hq
    | brk => exact False.elim hq
    | cont => exact False.elim hq
/-- the list at q is filled from the iterator -/
theorem ext_loop {A1 : Around} {it l q : Addr} {vs : List V} {Rs : Result → Shared → Prop} (hh : A1.in1.handled = none) (hql : q ≠ l) (hz : vs.length ≤ sizeLine) {H0 : Hp} (hfin : ∀ s', Inv X pins σ (upd H0 q (.lst vs)) s' → Rs (.ok (.ret .none)) s') :
    ∀ (k i : Nat) (s : Shared), vs.length - i = k → i ≤ vs.length → Inv X pins σ (upd H0 q (.lst (vs.take i))) s → SqL X.K (upd H0 q (.lst (vs.take i))) l vs → s.heap.IsListIter it l i → FpOk X pins (upd H0 q (.lst (vs.take i))) it →
      codeAny (model X.prog X.w) A1 (.builtin "list.extend.loop" ⟨[.ref q, .ref it, .none], []⟩) Rs s := by
  intro k
  induction k with
  | zero =>
    intro i s hk hi I hs hit hf
    refine codeAny_builtin PySem.F.entry_extend_loop ?_
    rw [Around.under_plainId PySem.F.plain_extend_loop _]
    show wpAny _ A1.in1 (pyNext (.ref it) >>= _) _ _ s
    obtain ⟨its, rv, p, _⟩ := I.list hs
    obtain ⟨f0, f1, f2, f3, f4, f5⟩ := hf
    have hl := rv.length
    refine wpAny_bind (wpAny_pyNext_list_end hh hit p.isList (by simp; omega) fun h' eb => ?_)
    have I1 : Inv X pins σ (upd H0 q (.lst (vs.take i))) { s with heap := h' } := I.turned (t' := s.toks) (fun b o hb e => eb b o hb e) f0 f1 f3 f4 f5
    rw [List.take_of_length_le (by omega)] at I1
    exact wpAny_pure (hfin _ I1)
  | succ k ih =>
    intro i s hk hi I hs hit hf
    have hlt : i < vs.length := by omega
    refine codeAny_builtin PySem.F.entry_extend_loop ?_
    rw [Around.under_plainId PySem.F.plain_extend_loop _]
    show wpAny _ A1.in1 (pyNext (.ref it) >>= _) _ _ s
    obtain ⟨its, rv, p, _⟩ := I.list hs
    have hx : vs[i]? = some vs[i] := List.getElem?_eq_getElem hlt
    obtain ⟨u, hu, ru⟩ := rv.get hx
    obtain ⟨f0, f1, f2, f3, f4, f5⟩ := id hf
    refine wpAny_bind (wpAny_pyNext_list_item hit p.isList (x := u) (by simpa using hu) fun h' st' sb => ?_)
    have I1 : Inv X pins σ (upd H0 q (.lst (vs.take i))) { s with heap := h' } := I.turned (t' := s.toks) (fun b o hb e => (sb.2 b hb).trans e) f0 f1 f3 f4 f5
    show wpAny _ A1.in1 (updateSeq q (·.push u) >>= _) _ _ _
    obtain ⟨z, its2, c, r2, hl2, e2⟩ := I1.lstM (l := q) upd_same
    have hl3 : its2.length = i := by rw [← hl2, List.length_take]; omega
    have hne : q ≠ it := fun e => by rw [← e, upd_same] at f0; cases f0
    refine wpAny_bind (wpAny_updateSeq e2 rfl (wpAny_pure ⟨plainId_quiet PySem.F.plain_extend_loop _, ?_⟩) (by rw [List.size_toArray]; omega) (by show (its2.toArray.push u).size ≤ sizeLine + 1; rw [Array.size_push, List.size_toArray]; omega))
    have tk : vs.take (i + 1) = vs.take i ++ [vs[i]] := by rw [List.take_succ, hx]; rfl
    have I2 := I1.lset (l := q) (f := (·.push u)) (its' := its2 ++ [u]) (ys := vs.take (i + 1)) (t' := s.toks) upd_same e2 (by simp) (by rw [tk]; exact r2.append (.cons ru .nil)) (by rw [List.length_take]; omega)
    rw [upd_upd] at I2
    have hs2 : SqL X.K (upd H0 q (.lst (vs.take (i + 1)))) l vs := by
      rcases hs with hs | hs
      · refine .inl ?_
        rcases hs with hs | ⟨o, hs⟩
        · rw [upd_ne (Ne.symm hql)] at hs
          exact .inl (by rw [upd_ne (Ne.symm hql)]; exact hs)
        · rw [upd_ne (Ne.symm hql)] at hs
          exact .inr ⟨o, by rw [upd_ne (Ne.symm hql)]; exact hs⟩
      · exact .inr hs
    exact ih (i + 1) _ (by omega) hlt I2 hs2 (st'.at fun o e => (Heap.get?_update_other h' (Obj.mapSeq fun x => x.push u) hne).trans e) ⟨by rw [upd_ne (Ne.symm hne)]; rw [upd_ne (Ne.symm hne)] at f0; exact f0, f1, f2, f3, f4, f5⟩
/-- .. over a tuple -/
theorem ext_loopT {A1 : Around} {it l q : Addr} {vs : List V} {Rs : Result → Shared → Prop} (hh : A1.in1.handled = none) (hql : q ≠ l) (hz : vs.length ≤ sizeLine) {H0 : Hp} (hfin : ∀ s', Inv X pins σ (upd H0 q (.lst vs)) s' → Rs (.ok (.ret .none)) s') :
    ∀ (k i : Nat) (s : Shared), vs.length - i = k → i ≤ vs.length → Inv X pins σ (upd H0 q (.lst (vs.take i))) s → SqT X.K (upd H0 q (.lst (vs.take i))) l vs → s.heap.IsTupleIter it l i → FpOk X pins (upd H0 q (.lst (vs.take i))) it →
      codeAny (model X.prog X.w) A1 (.builtin "list.extend.loop" ⟨[.ref q, .ref it, .none], []⟩) Rs s := by
  intro k
  induction k with
  | zero =>
    intro i s hk hi I hs hit hf
    refine codeAny_builtin PySem.F.entry_extend_loop ?_
    rw [Around.under_plainId PySem.F.plain_extend_loop _]
    show wpAny _ A1.in1 (pyNext (.ref it) >>= _) _ _ s
    obtain ⟨its, rv, p, _⟩ := I.tuple hs
    obtain ⟨f0, f1, f2, f3, f4, f5⟩ := hf
    have hl := rv.length
    refine wpAny_bind (wpAny_pyNext_tuple_end hh hit p (by simp; omega) fun h' eb => ?_)
    have I1 : Inv X pins σ (upd H0 q (.lst (vs.take i))) { s with heap := h' } := I.turned (t' := s.toks) (fun b o hb e => eb b o hb e) f0 f1 f3 f4 f5
    rw [List.take_of_length_le (by omega)] at I1
    exact wpAny_pure (hfin _ I1)
  | succ k ih =>
    intro i s hk hi I hs hit hf
    have hlt : i < vs.length := by omega
    refine codeAny_builtin PySem.F.entry_extend_loop ?_
    rw [Around.under_plainId PySem.F.plain_extend_loop _]
    show wpAny _ A1.in1 (pyNext (.ref it) >>= _) _ _ s
    obtain ⟨its, rv, p, _⟩ := I.tuple hs
    have hx : vs[i]? = some vs[i] := List.getElem?_eq_getElem hlt
    obtain ⟨u, hu, ru⟩ := rv.get hx
    obtain ⟨f0, f1, f2, f3, f4, f5⟩ := id hf
    refine wpAny_bind (wpAny_pyNext_tuple_item hit p (x := u) (by simpa using hu) fun h' st' sb => ?_)
    have I1 : Inv X pins σ (upd H0 q (.lst (vs.take i))) { s with heap := h' } := I.turned (t' := s.toks) (fun b o hb e => (sb.2 b hb).trans e) f0 f1 f3 f4 f5
    show wpAny _ A1.in1 (updateSeq q (·.push u) >>= _) _ _ _
    obtain ⟨z, its2, c, r2, hl2, e2⟩ := I1.lstM (l := q) upd_same
    have hl3 : its2.length = i := by rw [← hl2, List.length_take]; omega
    have hne : q ≠ it := fun e => by rw [← e, upd_same] at f0; cases f0
    refine wpAny_bind (wpAny_updateSeq e2 rfl (wpAny_pure ⟨plainId_quiet PySem.F.plain_extend_loop _, ?_⟩) (by rw [List.size_toArray]; omega) (by show (its2.toArray.push u).size ≤ sizeLine + 1; rw [Array.size_push, List.size_toArray]; omega))
    have tk : vs.take (i + 1) = vs.take i ++ [vs[i]] := by rw [List.take_succ, hx]; rfl
    have I2 := I1.lset (l := q) (f := (·.push u)) (its' := its2 ++ [u]) (ys := vs.take (i + 1)) (t' := s.toks) upd_same e2 (by simp) (by rw [tk]; exact r2.append (.cons ru .nil)) (by rw [List.length_take]; omega)
    rw [upd_upd] at I2
    have hs2 : SqT X.K (upd H0 q (.lst (vs.take (i + 1)))) l vs := by
      rcases hs with hs | hs
      · refine .inl ?_
        rcases hs with hs | ⟨o, hs⟩
        · rw [upd_ne (Ne.symm hql)] at hs
          exact .inl (by rw [upd_ne (Ne.symm hql)]; exact hs)
        · rw [upd_ne (Ne.symm hql)] at hs
          exact .inr ⟨o, by rw [upd_ne (Ne.symm hql)]; exact hs⟩
      · exact .inr hs
    exact ih (i + 1) _ (by omega) hlt I2 hs2 (st'.at fun o e => (Heap.get?_update_other h' (Obj.mapSeq fun x => x.push u) hne).trans e) ⟨by rw [upd_ne (Ne.symm hne)]; rw [upd_ne (Ne.symm hne)] at f0; exact f0, f1, f2, f3, f4, f5⟩
theorem ext_loopB {A1 : Around} {it l q : Addr} {vs : List V} {Rs : Result → Shared → Prop} (b : Bool) (hh : A1.in1.handled = none) (hql : q ≠ l) (hz : vs.length ≤ sizeLine) {H0 : Hp} (hfin : ∀ s', Inv X pins σ (upd H0 q (.lst vs)) s' → Rs (.ok (.ret .none)) s') :
    ∀ (k i : Nat) (s : Shared), vs.length - i = k → i ≤ vs.length → Inv X pins σ (upd H0 q (.lst (vs.take i))) s → SqB b X.K (upd H0 q (.lst (vs.take i))) l vs → IterB b s.heap it l i → FpOk X pins (upd H0 q (.lst (vs.take i))) it →
      codeAny (model X.prog X.w) A1 (.builtin "list.extend.loop" ⟨[.ref q, .ref it, .none], []⟩) Rs s := by
  cases b with
  | false => exact ext_loop hh hql hz hfin
  | true => exact ext_loopT hh hql hz hfin
theorem sqB_len {b : Bool} {H : Hp} {l : Addr} {vs : List V} {s : Shared} (I : Inv X pins σ H s) (h : SqB b X.K H l vs) : vs.length ≤ sizeLine := by
  cases b with
  | false => obtain ⟨its, rv, pl, hz⟩ := I.list h; exact hz
  | true => obtain ⟨its, rv, pl, hz⟩ := I.tuple h; exact hz
def rListOwn (K : PySem.W.Frag) (mg : Str → Option Value) (itab : ITab) (ltab : MTab) (E : XK) : List V → Hp → VK → Prop := fun xs H Q => ∃ x C mi ml, xs = [x] ∧ OwnItAt mg itab H x C mi ∧ ∀ q, H q = none → ∀ N,
  spIt K mg mi.sem N [x] (upd H q (.lst [])) (itPost K N fun b l H3 => OwnAt mg ltab H3 x C ml ∧ spM K mg ml ([x] ++ ml.dvs) H3 (fun v H4 => ∃ n : Int, v = .int n ∧ 0 ≤ n ∧ n ≤ 16777216 ∧ H4 q = some (.lst []) ∧ (b = false → q ≠ l) ∧ ∃ vs, SqB b K H4 l vs ∧ Q (.ref q) (upd H4 q (.lst vs))) (fun _ _ _ => False)) E
theorem cr_listOwn {itab : ITab} {ltab : MTab} {E : XK} (hcalm : X.calm = true) (hI : IT X itab) (hL : SpT X "__len__" ltab) (hx : Passes (L2.CX X.prog X.w) X E) (hroom : ∀ c C me, ltab c = some me → X.mg c = some (.ref C) → Room (me.k + 4) X.A) (hroomI : ∀ c C me, itab c = some me → X.mg c = some (.ref C) → Room (me.k + 4) X.A) : CallR X (.type "list") (rListOwn X.K X.mg itab ltab E) := by
  intro pins s σ H xs us Q I rv ⟨x, C, mi, ml, e, ⟨a, dx, fs, c, ex, h1, h2, h3⟩, hq⟩
  subst e ex
  obtain ⟨u, rfl, ru⟩ := rv.one
  cases ru
  have mI := hI c C mi h3 h2
  have rI := hroomI c C mi h3 h2
  refine callType_codes (Q₁ := fun obj s₁ => obj = .ref s.heap.objs.size ∧ s₁ = { s with heap := s.heap.push { cls := .type "list", data := .seq #[] } }) PySem.F.called_list (PySem.F.typeCall_list_1 _) PySem.F.entry_list_init
    (code_list_new _ ⟨rfl, rfl⟩) fun obj s₁ h₁ => ?_
  obtain ⟨rfl, rfl⟩ := h₁
  have hS : (s.heap.push { cls := .type "list", data := .seq #[] }).get? s.heap.objs.size = some { cls := .type "list", data := .seq #[] } := Heap.get?_push_size _ rfl
  refine ⟨⟨_, hS, rfl⟩, PySem.F.args_list_init_2 _ _, ?_⟩
  have fr : H s.heap.objs.size = none := I.hok.fresh (Nat.le_refl _)
  have I1 : Inv X pins σ (upd H s.heap.objs.size (.lst [])) { s with heap := s.heap.push { cls := .type "list", data := .seq #[] } } := I.lnew (its := []) (t' := s.toks) .nil (Nat.zero_le _)
  show wpAny _ _ (do let old ← Builtin.List.listItems (.ref s.heap.objs.size); Builtin.List.listUpdate (.ref s.heap.objs.size) (fun _ => #[]); letGo old.toList.reverse; Builtin.List.listExtendWith (.ref s.heap.objs.size) (.ref a) .none) _ _ _
  refine wpAny_bind ?_
  unfold Builtin.List.listItems
  refine wpAny_bind (wpAny_seqItems hS rfl (wpAny_pure ?_))
  show wpAny _ _ (updateSeq s.heap.objs.size (fun _ => #[]) >>= fun _ => letGo (#[] : Array Value).toList.reverse >>= fun _ => Builtin.List.listExtendWith (.ref s.heap.objs.size) (.ref a) .none) _ _ _
  refine wpAny_bind (wpAny_updateSeq hS rfl ?_)
  have I2 := I1.lset (f := fun _ => #[]) (its := []) (its' := []) (ys := []) (t' := s.toks) upd_same hS rfl .nil (Nat.zero_le _)
  rw [upd_upd] at I2
  refine wpAny_bind (wpAny_letGo ?_)
  generalize hqq : s.heap.objs.size = q at *
  have ha2 : upd H q (.lst []) a = some (.ins C dx fs) := by rw [upd_ne (ne_of_none h1 fr)]; exact h1
  have hne : q ≠ a := Ne.symm (ne_of_none h1 fr)
  obtain ⟨mA, J, _⟩ := ins_get I2.hok ha2
  obtain ⟨od, J, _⟩ := J.look
  obtain ⟨m0, hF⟩ := I2.fr
  unfold Builtin.List.listExtendWith
  refine wpAny_bind (J.type.here ?_)
  have h1' : Builtin.List.listSameRef (.ref q) (.ref a) = false := by simp [Builtin.List.listSameRef, hne]
  have h2' : (Value.ref C == Value.type "list") = false := rfl
  have h3' : (Value.ref C == Value.type "tuple") = false := rfl
  simp only [h1', h2', h3', Bool.or_false, Bool.false_eq_true, if_false]
  refine wpAny_bind (PySem.W.owit_iter hF I2.ok.mod.kin J mI.find mI.isfn ?_)
  refine wpAny_mono (run_it (A := X.A.in1.in1) mI ((rI.mono (by omega : mi.k + 2 ≤ mi.k + 4)).in1.in1) rfl hx I2 (hq q fr _)) (fun u s2 hq2 => ?_) fun _ _ z => z
  obtain ⟨it, b, l, vs0, H3, rfl, I3, hit, fp, hs, hOwn, hlen⟩ := it_after (by
    have := I2.sz
    exact this) hq2
  unfold PySem.W.OwitIt
  obtain ⟨T, id0, hT, hS⟩ : ∃ T id0, s2.TypeIs (.ref it) T ∧ typeLookup (.type T) "__next__" = pure (some (.builtin id0)) := by
    cases b with
    | false => exact ⟨_, _, Heap.IsListIter.typeIs hit, slot_listiter_next.lookup⟩
    | true => exact ⟨_, _, Heap.IsTupleIter.typeIs hit, PySem.F.slot_tuple_iterator_next.lookup⟩
  refine wpAny_specialOf hT hS ?_
  -- the length
  obtain ⟨a', ox3, od3, ea, eu, J3, mL⟩ := hOwn.inst hL I3 rfl
  cases ea
  have rL : Room (ml.k + 4) X.A := by
    obtain ⟨a9, dx9, fs9, c9, e9, k1, k2, k3⟩ := hOwn
    exact hroom c9 C ml k3 k2
  obtain ⟨m3, hF3⟩ := I3.fr
  have ob : ∃ o, s2.heap.get? it = some o ∧ ∀ v, o.data ≠ .cell v := by
    cases b <;> (obtain ⟨o, e1, e2, e3⟩ := id hit; exact ⟨o, e1, fun v z => by rw [e3] at z; cases z⟩)
  have I3p := I3.pinned (fp := [it]) (fun b hb => by
    have e : b = it := by simpa using hb
    subst e
    exact fp) (fun b hb => by
    have e : b = it := by simpa using hb
    subst e
    exact ob)
  have lenRun : ∀ Ex : Value → Shared → Prop, wpAny (model X.prog X.w) X.A.in1.in1 (call (.builtin "len") [.ref a]) (fun r s' => ∃ n t, r = .int n t ∧ 0 ≤ n ∧ n ≤ 16777216 ∧ ∃ H4 vs, Inv X (pins ++ pinsAt [it] s2.heap) σ H4 s' ∧ H4 q = some (.lst []) ∧ (b = false → q ≠ l) ∧ SqB b X.K H4 l vs ∧ Q (.ref q) (upd H4 q (.lst vs))) Ex s2 := fun Ex => by
    refine PySem.W.len_K hF3 I3.ok.mod.kin J3 mL.find mL.isfn ?_
    refine wpAny_mono (run_at0 (us := [.ref a]) (vs := [.ref a]) mL.toMeOk ((rL.mono (by omega : ml.k + 3 ≤ ml.k + 4)).in1.in1.in1) rfl I3p (.cons rfl .nil) hlen) (fun u s' z => ?_) fun _ _ z => z
    obtain ⟨v, H', I', rv', n, rfl, n0, n1, hq4, hql, vs, hsv, hQ⟩ := z
    obtain ⟨t, rfl⟩ := (show ∃ t, u = Value.int n t from rv')
    exact ⟨⟨n0, by omega⟩, n, _, rfl, n0, n1, H', vs, I'.tok _, hq4, hql, hsv, hQ⟩
  have fin : ∀ (s' : Shared) (H4 : Hp) (vs : List V), Inv X (pins ++ pinsAt [it] s2.heap) σ H4 s' → H4 q = some (.lst []) → (b = false → q ≠ l) → SqB b X.K H4 l vs → Q (.ref q) (upd H4 q (.lst vs)) → codeAny (model X.prog X.w) X.A.in1 (.builtin "list.extend.loop" ⟨[.ref q, .ref it, .none], []⟩) (wants (fun r s₂ => r = .none ∧ EP X pins σ Q (.ref q) s₂) X.xe) s' := fun s' H4 vs I4 hq4 hql hsv hQ => by
    have hz4 := sqB_len I4 hsv
    have hql : q ≠ l := by
      cases b with
      | false => exact hql rfl
      | true =>
        intro z
        subst z
        obtain ⟨its, rv, pl, hz⟩ := I4.tuple hsv
        obtain ⟨o, e1, e2, _⟩ := pl
        obtain ⟨z, its2, c, r2, hl2, e3⟩ := I4.lstM hq4
        rw [e3] at e1
        cases e1
        exact absurd e2 (by simp)
    have hH : upd H4 q (.lst (vs.take 0)) = H4 := by
      funext b
      by_cases hb : b = q
      · rw [hb, upd_same, hq4]; rfl
      · rw [upd_ne hb]
    obtain ⟨o, e1, _⟩ := id ob
    have pn := I4.pin (it, o) (List.mem_append_right _ (List.mem_append_right _ (mem_pinsAt (by simp) e1)))
    have hit4 : IterB b s'.heap it l 0 := by
      cases b <;> (obtain ⟨o', e1', e2, e3⟩ := id hit; rw [e1] at e1'; cases e1'; exact ⟨o, pn.1, e2, e3⟩)
    refine ext_loopB b (A1 := X.A.in1) (Rs := wants (fun r s₂ => r = .none ∧ EP X pins σ Q (.ref q) s₂) X.xe) (vs := vs) (it := it) (l := l) (I.ok.hd hcalm) hql hz4 (H0 := H4) (fun s'' I5 => ⟨rfl, .ref q, _, I5, rfl, hQ⟩) vs.length 0 s' (by omega) (Nat.zero_le _) (by rw [hH]; exact I4.unpinned) (by rw [hH]; exact hsv) hit4 ?_
    rw [hH]
    exact ⟨pn.2.1, fp.2⟩
  have hint : wpAny (model X.prog X.w) X.A.in1.in1 (Builtin.List.listLengthHint (.ref a)) (fun _ s' => ∃ H4 vs, Inv X (pins ++ pinsAt [it] s2.heap) σ H4 s' ∧ H4 q = some (.lst []) ∧ (b = false → q ≠ l) ∧ SqB b X.K H4 l vs ∧ Q (.ref q) (upd H4 q (.lst vs))) X.xe s2 := by
    unfold Builtin.List.listLengthHint
    refine wpAny_bind (wpAny_bind (J3.type.here ((PySem.W.looks_findIn I3.kIn mL.find).here ?_)))
    refine PySem.W.KFB.if_not rfl ?_
    refine wpAny_ite_split (fun _ => ?_) fun h => absurd rfl h
    refine wpAny_bind (wpAny_rule (wpAny_bind (wpAny_attempt (wpAny_mono (lenRun _) (fun r s' z => ?_) fun _ _ z => z))))
    obtain ⟨n, t, rfl, n0, n1, rest⟩ := z
    refine wpAny_bind (m := asInt? (.int n t)) (wpAny_pure ?_)
    refine wpAny_ite_split (fun h => ?_) fun _ => wpAny_pure rest
    rw [notLongL (by rw [sizeLine_eq]; omega)] at h
    cases h
  refine wpAny_bind (wpAny_holding (wpAny_mono hint (fun b s3 z => ?_) fun _ _ z => z))
  obtain ⟨H4, vs, I4, hq4, hql, hsv, hQ⟩ := z
  have tail : ∀ s4, Inv X (pins ++ pinsAt [it] s2.heap) σ H4 s4 → wpAny (model X.prog X.w) X.A.in1.in1 (again (.builtin "list.extend.loop" ⟨[.ref q, .ref it, .none], []⟩)) (fun fin s' => match fin with
      | .done f => wants (fun r s₂ => r = .none ∧ EP X pins σ Q (.ref q) s₂) X.xe (.ok f) s'
      | .again c' => c'.quiet = true ∧ codeAny (model X.prog X.w) X.A.in1 c' (wants (fun r s₂ => r = .none ∧ EP X pins σ Q (.ref q) s₂) X.xe) s') (fun e s' => wants (fun r s₂ => r = .none ∧ EP X pins σ Q (.ref q) s₂) X.xe (.error e) s') s4 := fun s4 I4 =>
    wpAny_pure ⟨plainId_quiet PySem.F.plain_extend_loop _, fin s4 H4 vs I4 hq4 hql hsv hQ⟩
  refine wpAny_ite_split (fun _ => ?_) (fun _ => tail _ I4)
  refine wpAny_bind (wpAny_rule ?_)
  refine wpAny_bind ?_
  show wpAny _ _ (updateSeq q (·.push .none) >>= fun _ => updateSeq q (·.pop)) _ _ _
  obtain ⟨z3, its3, k3, r3, hl3, e3⟩ := I4.lstM hq4
  cases r3
  refine wpAny_bind (wpAny_updateSeq e3 rfl ?_)
  have I5 := I4.lset (f := (·.push Value.none)) (its' := [Value.none]) (ys := [.non]) (t' := s3.toks) hq4 e3 (by simp) (.cons rfl .nil) (by rw [List.length_singleton, sizeLine_eq]; decide)
  obtain ⟨z4, its4, k4, r4, hl4, e4⟩ := I5.lstM upd_same
  obtain ⟨u4, rfl, ru4⟩ := r4.one
  refine wpAny_updateSeq e4 rfl ?_ (by show 1 ≤ sizeLine; rw [sizeLine_eq]; decide) (by show 0 ≤ sizeLine + 1; exact Nat.zero_le _)
  have I6 := I5.lset (f := (·.pop)) (its := [u4]) (its' := []) (ys := []) (t' := s3.toks) upd_same e4 (by rfl) .nil (Nat.zero_le _)
  rw [upd_upd] at I6
  have hH : upd H4 q (.lst []) = H4 := by
    funext b
    by_cases hb : b = q
    · rw [hb, upd_same, hq4]
    · rw [upd_ne hb]
  rw [hH] at I6
  exact tail _ I6
end
def fListOwn (itab : ITab) (ltab : MTab) (els : F1X) : F1X := fun xs γ S => match xs with
  | [x] => match clsV x S with
    | some c => match itab c, ltab c with
      | some mi, some ml => (callSem (arity 1 mi.sem) [x] γ S).nox.bind fun y S1 => match y with
        | .im (.lst ds) => if clsV x S1 = some c then (callSem (arity ml.ps.length ml.sem) (x :: ([] ++ ml.dd.map Vl.im)) γ S1).nox.bind fun n S2 => match n with
            | .im (.int k) => if 0 ≤ k ∧ k ≤ 16777216 then .ok (.im (.lst ds)) S2 else .bad
            | _ => .bad
          else .bad
        | .im (.tup ds) => if clsV x S1 = some c then (callSem (arity ml.ps.length ml.sem) (x :: ([] ++ ml.dd.map Vl.im)) γ S1).nox.bind fun n S2 => match n with
            | .im (.int k) => if 0 ≤ k ∧ k ≤ 16777216 then .ok (.im (.lst ds)) S2 else .bad
            | _ => .bad
          else .bad
        | _ => .bad
      | _, _ => els xs γ S
    | none => els xs γ S
  | _ => els xs γ S
section
variable {K : PySem.W.Frag} {mg : Str → Option Value} {E : XK} {itab : ITab} {ltab : MTab}
theorem nox_wp0 {α : Type} {r : R α} {P : α → Sto → Prop} {X : PX} (h : r.nox.wp P X) : r.wp P (fun _ _ _ _ => False) := by
  cases r with
  | ok a S => exact h
  | exc c fs γ S => exact h.elim
  | bad => exact h
theorem pc_listOwn {r : List V → Hp → VK → Prop} {els : F1X} (hD : TabD K mg ltab) (h : PCX K mg E r els) : PCX K mg E (fun xs H Q => rListOwn K mg itab ltab E xs H Q ∨ r xs H Q) (fListOwn itab ltab els) := by
  intro g γ σ Q B S ρ H vs xs hl rep e rv hw
  unfold fListOwn at hw
  split at hw
  · rename_i x
    cases q0 : clsV x S with
    | none => simp only [q0] at hw; exact .inr (h g γ σ Q B S ρ H vs _ hl rep e rv hw)
    | some c =>
    cases q1 : itab c with
    | none => simp only [q0, q1] at hw; exact .inr (h g γ σ Q B S ρ H vs _ hl rep e rv hw)
    | some mi =>
    cases q2 : ltab c with
    | none => simp only [q0, q1, q2] at hw; exact .inr (h g γ σ Q B S ρ H vs _ hl rep e rv hw)
    | some ml =>
    simp only [q0, q1, q2] at hw
    left
    cases rv with
    | cons rx rr =>
    cases rr
    obtain ⟨fs, hv⟩ := clsV_inv q0
    obtain ⟨a, C, dx, fvs, rfl, h1, hm, r0⟩ := ins_at rep.st rx hv
    refine ⟨.ref a, C, mi, ml, rfl, ⟨a, dx, fvs, c, rfl, h1, hm, q1⟩, fun q hq N => ?_⟩
    obtain ⟨c0, ok0, e0⟩ := cinv_start rep.st hq
    have rep0 := rep.step e0 ok0
    have rx0 := rx.mono e0 rep.st
    have hw0 := nox_wp0 (R.wp_bind (show ((callSem (arity 1 mi.sem) [x] γ S).nox.bind _).wp _ _ from hw))
    refine it_go (g := ⟨_, S, ρ, _⟩) rep.st.len rep0 (Ext.refl ok0) rx0 hw0 fun y S1 hy => ?_
    cases y with
    | cl j => exact hy.elim
    | im d =>
    have hb : ∃ b ds, d = dB b ds ∧ (if clsV x S1 = some c then (callSem (arity ml.ps.length ml.sem) (x :: ([] ++ ml.dd.map Vl.im)) γ S1).nox.bind fun n S2 => match n with
            | .im (.int k) => if 0 ≤ k ∧ k ≤ 16777216 then .ok (.im (.lst ds)) S2 else .bad
            | _ => .bad
          else (.bad : R Vl)).wp (Okv K mg g γ σ Q) (Exv K mg g σ (We E)) := by
      cases d <;> first | exact hy.elim | exact ⟨false, _, rfl, hy⟩ | exact ⟨true, _, rfl, hy⟩
    clear hy
    obtain ⟨b, ds, rfl, hy⟩ := hb
    refine ⟨b, ds, rfl, fun l H' B' ρ' rep1 e1 rd => ?_⟩
    have e1 : Ext (fun a => B a ∨ a = q) S ρ (upd H q (.lst [])) B' S1 ρ' H' := e1
    split at hy
    · rename_i hc1
      have rx1 := rx0.mono e1 ok0
      obtain ⟨fs2, hv2⟩ := clsV_inv hc1
      obtain ⟨a2, C2, dx2, fvs2, ea2, k1, km, kr⟩ := ins_at rep1.st rx1 hv2
      cases ea2
      rw [hm] at km
      cases km
      refine ⟨⟨a, dx2, fvs2, c, rfl, k1, hm, q2⟩, ?_⟩
      have rv2 : RVs K mg B' S1 ρ' H' (.ref a :: ([] ++ ml.dvs)) (x :: ([] ++ ml.dd.map Vl.im)) := .cons rx1 (rvs_app .nil (rvs_ims (hD c ml q2 B' H')))
      have hcall := nox_wp0 (R.wp_bind hy)
      refine call_go (n := ml.ps.length) (f := arity ml.ps.length ml.sem) (g := ⟨B', S1, ρ', H'⟩) rep1 rep1.st.len (Ext.refl rep1.st) rv2 ?_ hcall (fun n S2 v' H4 B4 ρ4 p rep2 e2 rvn => ?_) fun _ _ _ _ _ _ _ _ p _ _ _ => p.elim
      · rw [List.cons_append, rvs_len rv2]
        exact callSem_arity hcall
      · have e2 : Ext B' S1 ρ' H' B4 S2 ρ4 H4 := e2
        cases n with
        | cl j => exact p.elim
        | im dn =>
        cases dn <;> first | exact p.elim | skip
        rename_i k
        simp only at p
        split at p
        · rename_i hk
          cases rvn
          have c1 := c0.step ok0 e1
          have c2 := c1.step rep1.st e2
          obtain ⟨vs0, hq4, rs0⟩ := id c2.at_
          cases rs0
          have rd4 : RD K mg B4 H4 (.ref l) (dB b ds) := rd.mono (e2.gr rep1.st)
          have hql : b = false → q ≠ l := fun hb z => by
            subst hb z
            cases rd4 with
            | lst _ nb _ => exact nb c2.ban
          obtain ⟨l', zs, el, hz, rz⟩ := sqB_of (RD.rt rd4)
          cases el
          refine ⟨k, rfl, hk.1, hk.2, hq4, hql, zs, hz, ?_⟩
          -- the new list, let go as data
          have e04 : Ext (fun a => B a ∨ a = q) S ρ (upd H q (.lst [])) B4 S2 ρ4 H4 := e1.trans e2 ok0.len rep1.st.len
          have e4 : Ext B S ρ H B4 S2 ρ4 H4 := e0.trans e04 rep.st.len ok0.len
          have c3 : CInv K mg q B4 S2 ρ4 (upd H4 q (.lst zs)) ds := ⟨c2.ban, c2.nf, zs, upd_same, rz.mono (rds_upd c2.ban)⟩
          have ok3 := rep2.st.updD (o := .lst zs) c2.ban c2.nf c2.noT
          obtain ⟨ok5, e5, rd5⟩ := cinv_end c3 ok3 (e4.updD (o := .lst zs) hq) hq
          exact p (.ref q) _ _ ρ4 (rep.step e5 ok5) (e.trans e5 hl rep.st.len) rd5
        · exact p.elim
    · exact hy.elim
  · exact .inr (h g γ σ Q B S ρ H vs _ hl rep e rv hw)
end
end DL
namespace DL
open PySem PySem.Spec L2
open PyProof.Rows hiding St
variable [Tbl]
def fStar (f : F) (k : FA) : FA := fun γ S => (f γ S).bind fun x S1 => match (x.view S1).bind seqD with
  | some ds => (k γ S1).bind fun xs S2 => .ok (ds.map Vl.im ++ xs) S2
  | none => .bad
section
variable {X : Cx} {W : WX}
theorem simA_star {t : TE} {u : TA} {f : F} {k : FA} (h1 : Sim X.K X.mg W t f) (h2 : SimA X.K X.mg W u k) : SimA X.K X.mg W (StX.tStar X.K t u) (fStar f k) := by
  intro γ σ Q g rep h
  refine h1.go rep (fun _ _ _ _ z => z) h fun x S v H B ρ rep1 e1 rv hk => ?_
  cases q : x.view S with
  | none => simp only [q, Option.bind_none] at hk; exact hk.elim
  | some d =>
    simp only [q, Option.bind_some] at hk
    cases q2 : seqD d with
    | none => simp only [q2] at hk; exact hk.elim
    | some ds =>
      simp only [q2] at hk
      obtain ⟨l, vs, rfl, hl, rs⟩ := seq_inv (rv.rt rep1.st q) q2
      refine ⟨l, vs, rfl, hl.symm, ?_⟩
      refine h2.go (g := ⟨B, S, ρ, H⟩) rep1 (fun _ _ _ _ z => z.on rep.st.len rep1.st.len e1) hk fun xs S2 us H2 B2 ρ2 rep2 e2 rvs hk2 => ?_
      exact hk2 (vs ++ us) H2 B2 ρ2 rep2 (e1.trans e2 rep.st.len rep1.st.len) (rvs_app (RVs.mono e2 rep1.st (rvs_ims rs)) rvs)
end
def cutL {α : Type} (xs : List α) (lo hi : Option Int) : List α := (xs.drop (HT.sIx xs.length 0 lo)).take (HT.sIx xs.length xs.length hi - HT.sIx xs.length 0 lo)
def slD (d : D) (lo hi : Option Int) : Option D := match d with
  | .lst ds => some (.lst (cutL ds lo hi))
  | .tup ds => some (.tup (cutL ds lo hi))
  | .str z => some (.str (cutS z lo hi))
  | .scr ns => some (.lst (cutL (ns.map D.int) lo hi))
  | _ => none
abbrev FO := Gam → Sto → R (Option Int)
def fNoPart : FO := fun _ S => .ok none S
def fPart (f : F) : FO := fun γ S => (f γ S).bind fun x S1 => match x with
  | .im (.int i) => .ok (some i) S1
  | _ => .bad
def fSl (f : F) (l u : FO) : F := fun γ S => (f γ S).bind fun x S1 => (l γ S1).bind fun lo S2 => (u γ S2).bind fun hi S3 => R.ofO ((x.view S3).bind fun d => slD d lo hi) S3
def rSlAll (K : PySem.W.Frag) : V → Option Int → Option Int → Hp → VK → Prop := fun x lo hi H Q => rSlL K x lo hi H Q ∨ rSlA K x lo hi H Q ∨ rSlS x lo hi H Q
theorem sl_all {X : Cx} : SlR X (rSlAll X.K) := SlR.or sl_list (SlR.or sl_tupA sl_str)
section
variable {K : PySem.W.Frag} {mg : Str → Option Value} {W : WX} {B : Addr → Prop} {H : Hp}
def SimO (K : PySem.W.Frag) (mg : Str → Option Value) (W : WX) (t : TO) (f : FO) : Prop := ∀ (γ : Gam) (σ : St) (Q : Option Int → Hp → Prop) (g : At), Rep K mg g.B γ g.S g.ρ σ g.H →
  (f γ g.S).wp (fun o S => ∀ H B ρ, Rep K mg B γ S ρ σ H → g.to B S ρ H → Q o H) (Exv K mg g σ W) → t σ g.H Q
theorem simO_no : SimO K mg W tNoPart fNoPart := fun γ σ Q g rep h => h g.H g.B g.ρ rep (Ext.refl rep.st)
theorem simO_part {t : TE} {f : F} (h1 : Sim K mg W t f) : SimO K mg W (tPart t) (fPart f) := by
  intro γ σ Q g rep h
  refine h1.go rep (fun _ _ _ _ z => z) h fun x S v H B ρ rep1 e1 rv hk => ?_
  cases x with
  | cl i => exact hk.elim
  | im d =>
    cases d <;> first | exact hk.elim | skip
    cases rv
    exact ⟨_, rfl, hk H B ρ rep1 e1⟩
theorem rds_cut {vs : List V} {ds : List D} (r : RDs K mg B H vs ds) (lo hi : Option Int) : RDs K mg B H (cutV vs lo hi) (cutL ds lo hi) := by
  unfold cutV cutL
  rw [r.length]
  exact (r.drop _).take _
theorem cut_whole {α : Type} {xs : List α} {lo hi : Option Int} (h : HT.sIx xs.length 0 lo = 0 ∧ HT.sIx xs.length xs.length hi = xs.length) : cutL xs lo hi = xs := by
  unfold cutL
  rw [h.1, h.2]
  simp
theorem strOk_cut {z : Str} (h : SOk z) (lo hi : Option Int) : SOk (cutS z lo hi) := by
  obtain ⟨h1, h2⟩ := h
  constructor
  · unfold PyData.strOk at h1 ⊢
    unfold cutS
    rw [Array.all_eq_true_iff_forall_mem] at h1 ⊢
    intro x hx
    refine h1 x ?_
    rw [List.mem_toArray] at hx
    exact Array.mem_toList_iff.mp (List.mem_of_mem_drop (List.mem_of_mem_take hx))
  · unfold cutS
    show (List.toArray _).size ≤ _
    rw [List.size_toArray, List.length_take, List.length_drop]
    have : z.cps.toList.length = z.length := by simp [Str.length]
    omega
theorem rds_ints : ∀ ns : List Int, RDs K mg B H (ns.map V.int) (ns.map D.int)
  | [] => .nil
  | n :: ns => .cons (.int n) (rds_ints ns)
theorem RT.scr_inv {v : V} {ns : List Int} (r : RT K mg B H v (.scr ns)) : ∃ a, v = .ref a ∧ ScrAt K B H a ns := by
  cases r with
  | of r => cases r with
    | scr h => exact ⟨_, rfl, h⟩
theorem sim_sl {t : TE} {f : F} {tl tu : TO} {l u : FO} (h1 : Sim K mg W t f) (hl : SimO K mg W tl l) (hu : SimO K mg W tu u) : Sim K mg W (tSl (rSlAll K) t tl tu) (fSl f l u) := by
  intro γ σ Q g rep h
  refine h1.go rep (fun _ _ _ _ z => z) h fun x S v H B ρ rep1 e1 rv hk => ?_
  refine hl γ σ _ ⟨B, S, ρ, H⟩ rep1 (R.wp_mono (R.wp_bind hk) (fun lo S2 hk2 => ?_) fun _ _ _ _ z => z.on rep.st.len rep1.st.len e1)
  intro H2 B2 ρ2 rep2 e2
  have e12 := e1.trans e2 rep.st.len rep1.st.len
  refine hu γ σ _ ⟨B2, S2, ρ2, H2⟩ rep2 (R.wp_mono (R.wp_bind hk2) (fun hi S3 hk3 => ?_) fun _ _ _ _ z => z.on rep.st.len rep2.st.len e12)
  intro H3 B3 ρ3 rep3 e3
  have e123 := e12.trans e3 rep.st.len rep2.st.len
  have rv3 := (rv.mono e2 rep1.st).mono e3 rep2.st
  obtain ⟨d, hd, q⟩ := R.ofO_wp hk3
  cases q1 : x.view S3 with
  | none => rw [q1] at hd; cases hd
  | some a =>
    simp only [q1, Option.bind_some] at hd
    have rt := rv3.rt rep3.st q1
    cases a <;> simp only [slD, reduceCtorEq, Option.some.injEq] at hd
    · subst hd
      obtain ⟨rfl, ok⟩ := rt.str_inv
      exact .inr (.inr ⟨_, rfl, ok.2, okv_im q rep3 rep.st.len e123 (Grow.refl _) (.str _ (strOk_cut ok lo hi))⟩)
    · subst hd
      rename_i ds
      have rd := rt.tup_rd
      obtain ⟨b, vs, rfl, hs, rs⟩ := rt.tup_inv
      refine .inr (.inl ⟨b, vs, rfl, hs, fun hw => ?_, fun hw p hp => ?_⟩)
      · have : cutL ds lo hi = ds := cut_whole (by rw [← rs.length]; exact hw)
        rw [this] at q
        exact okv_im q rep3 rep.st.len e123 (Grow.refl _) rd
      · exact okv_im q rep3 rep.st.len e123 (Grow.upd hp) (rd_newT hp rep3.st.dom (rds_cut rs lo hi))
    · subst hd
      obtain ⟨b, vs, rfl, hs, rs⟩ := rt.lst_inv
      exact .inl ⟨b, vs, rfl, SqL.of hs, fun p hp => okv_im q rep3 rep.st.len e123 (Grow.upd hp) (rd_newL hp rep3.st.dom (rds_cut rs lo hi))⟩
    · subst hd
      obtain ⟨b, rfl, hs⟩ := rt.scr_inv
      exact .inl ⟨b, _, rfl, hs.sq, fun p hp => okv_im q rep3 rep.st.len e123 (Grow.upd hp) (rd_newL hp rep3.st.dom (rds_cut (rds_ints _) lo hi))⟩
/-- x[::-1] -/
def revLD : D → Option D
  | .lst ds => some (.lst ds.reverse)
  | _ => none
theorem sim_revL {t : TE} {f : F} (h1 : Sim K mg W t f) : Sim K mg W (tRevL K t) (fUn revLD f) := by
  intro γ σ Q g rep h
  refine h1.go rep (fun _ _ _ _ z => z) h fun x S v H B ρ rep1 e1 rv hk => ?_
  obtain ⟨d, hd, q⟩ := R.ofO_wp hk
  cases q1 : x.view S with
  | none => rw [q1] at hd; cases hd
  | some a =>
    simp only [q1, Option.bind_some] at hd
    cases a <;> simp only [revLD, reduceCtorEq, Option.some.injEq] at hd
    subst hd
    obtain ⟨b, vs, rfl, hs, rs⟩ := (rv.rt rep1.st q1).lst_inv
    exact ⟨b, vs, rfl, SqL.of hs, fun p hp => okv_im q rep1 rep.st.len e1 (Grow.upd hp) (rd_newL hp rep1.st.dom rs.reverse)⟩
def ixD (a i : D) : Option D := match a, i with
  | .lst ds, .int i => atI ds i
  | .tup ds, .int i => atI ds i
  | .str z, .int i => (atI z.cps.toList i).map fun c => .str ⟨#[c]⟩
  | _, _ => none
theorem rds_at {vs : List V} {ds : List D} (r : RDs K mg B H vs ds) {i : Int} {d : D} (h : atI ds i = some d) : ∃ v, atI vs i = some v ∧ RD K mg B H v d := by
  unfold atI at h ⊢
  rw [r.length]
  cases q : ixN ds.length i with
  | none => rw [q] at h; cases h
  | some j =>
    rw [q] at h
    exact r.get h
theorem p2_ix : P2 K mg (rIx K) ixD := by
  intro B H x y dx dy d Q rx ry e hB hQ
  unfold ixD at e
  split at e
  · obtain ⟨a, vs, rfl, h, r⟩ := rx.lst_inv
    rw [ry.int_inv]
    obtain ⟨u, h1, h2⟩ := rds_at r e
    exact .inl ⟨a, vs, _, u, rfl, rfl, SqL.of h, h1, hQ _ _ (Grow.refl _) h2⟩
  · obtain ⟨a, vs, rfl, h, r⟩ := rx.tup_inv
    rw [ry.int_inv]
    obtain ⟨u, h1, h2⟩ := rds_at r e
    exact .inr (.inl ⟨a, vs, _, u, rfl, rfl, h, h1, hQ _ _ (Grow.refl _) h2⟩)
  · rename_i z i
    obtain ⟨rfl, ok⟩ := rx.str_inv
    rw [ry.int_inv]
    cases q : atI z.cps.toList i with
    | none => rw [q] at e; cases e
    | some c =>
      rw [q] at e
      cases e
      refine .inr (.inr ⟨_, _, c, rfl, rfl, ok.2, q, hQ _ _ (Grow.refl _) (.str _ ⟨?_, by rw [sizeLine_eq]; show 1 ≤ _; decide⟩)⟩)
      have h1 := ok.1
      unfold PyData.strOk at h1 ⊢
      rw [Array.all_eq_true_iff_forall_mem] at h1 ⊢
      intro w hw
      have : w = c := by simpa using hw
      subst this
      refine h1 w ?_
      unfold atI at q
      cases q3 : ixN z.cps.toList.length i with
      | none => rw [q3] at q; cases q
      | some j => rw [q3] at q; exact Array.mem_toList_iff.mp (List.mem_of_getElem? q)
  · cases e
end
def mulD : D → D → Option D := intOp (fun i j => decide (i.natAbs.log2 + j.natAbs.log2 < 1000000)) fun i j => .int (i * j)
def fdivD : D → D → Option D := intOp (fun _ j => decide (0 < j ∧ j.natAbs.log2 < 9000)) fun i j => .int (i / j)
def modD : D → D → Option D := intOp (fun _ j => decide (0 < j)) fun i j => .int (i % j)
def powD : D → D → Option D := intOp (fun i j => decide (0 ≤ j ∧ j ≤ 1000000 ∧ i.natAbs < 2 ^ 64)) fun i j => .int (i ^ j.toNat)
section
variable {K : PySem.W.Frag} {mg : Str → Option Value}
theorem p2_mul : P2 K mg (rI CMulW fun i j => .int (i * j)) mulD := p2_int fun i j h => by first | exact of_decide_eq_true h | simpa [CMulW, CDivW, CPow] using h
theorem p2_fdiv : P2 K mg (rI CDivW fun i j => .int (i / j)) fdivD := p2_int fun i j h => by first | exact of_decide_eq_true h | simpa [CMulW, CDivW, CPow] using h
theorem p2_mod : P2 K mg (rI (fun _ j => 0 < j) fun i j => .int (i % j)) modD := p2_int fun i j h => by first | exact of_decide_eq_true h | simpa [CMulW, CDivW, CPow] using h
theorem p2_pow : P2 K mg (rI CPow fun i j => .int (i ^ j.toNat)) powD := p2_int fun i j h => by first | exact of_decide_eq_true h | simpa [CMulW, CDivW, CPow] using h
end
end DL
namespace DL
open PySem PySem.Spec L2
open PyProof.Rows hiding St
variable [Tbl]
def valKD (kvs : List (D × D)) (k : Key) : Option D := (kvs.find? fun p => decide (keyOfD p.1 = some k)).map (·.2)
def putKD (kvs : List (D × D)) (k : Key) (v : D) : List (D × D) :=
  if (kvs.any fun p => decide (keyOfD p.1 = some k)) = true then kvs.map (fun p => if keyOfD p.1 = some k then (p.1, v) else p) else kvs ++ [(kD k, v)]
@[simp] theorem keyOfD_kD (k : Key) : keyOfD (kD k) = some k := by cases k <;> rfl
section
variable {K : PySem.W.Frag} {mg : Str → Option Value} {B : Addr → Prop} {H : Hp}
theorem dec_key (k k' : Key) : decide (keyOfD (kD k') = some k) = decide (k' = k) := by
  rw [keyOfD_kD]
  by_cases h : k' = k
  · simp [h]
  · simp [h]
theorem RDk.val : ∀ {vs : List (Key × V)} {kvs : List (D × D)} (k : Key), RDk K mg B H vs kvs → (valKD kvs k = none ∧ valV vs k = none) ∨ ∃ d v, valKD kvs k = some d ∧ valV vs k = some v ∧ RD K mg B H v d
  | [], _, k, .nil => .inl ⟨rfl, rfl⟩
  | (k', v) :: vs, (_, d) :: kvs, k, .cons r t => by
    by_cases h : k' = k
    · refine .inr ⟨d, v, ?_, valV_pos h, r⟩
      unfold valKD
      rw [List.find?_cons_of_pos (by rw [dec_key]; simp [h])]
      rfl
    · rw [valV_neg h]
      have : valKD ((kD k', d) :: kvs) k = valKD kvs k := by
        unfold valKD
        rw [List.find?_cons_of_neg (by rw [dec_key]; simp [h])]
      rw [this]
      exact RDk.val k t
theorem RDk.any : ∀ {vs : List (Key × V)} {kvs : List (D × D)} (k : Key), RDk K mg B H vs kvs → (kvs.any fun p => decide (keyOfD p.1 = some k)) = vs.any fun kv => decide (kv.1 = k)
  | [], _, k, .nil => rfl
  | (k', v) :: vs, (_, d) :: kvs, k, .cons r t => by
    rw [List.any_cons, List.any_cons, RDk.any k t]
    show (decide (keyOfD (kD k') = some k) || _) = _
    rw [dec_key]
theorem RDk.app : ∀ {vs : List (Key × V)} {kvs : List (D × D)} {k : Key} {v : V} {d : D}, RDk K mg B H vs kvs → RD K mg B H v d → RDk K mg B H (vs ++ [(k, v)]) (kvs ++ [(kD k, d)])
  | [], _, _, _, _, .nil, r => .cons r .nil
  | _ :: _, _ :: _, _, _, _, .cons r t, r2 => .cons r (RDk.app t r2)
theorem RDk.mapPut {k : Key} {v : V} {d : D} (r2 : RD K mg B H v d) : ∀ {vs : List (Key × V)} {kvs : List (D × D)}, RDk K mg B H vs kvs → RDk K mg B H (vs.map fun kv => if kv.1 = k then (kv.1, v) else kv) (kvs.map fun p => if keyOfD p.1 = some k then (p.1, d) else p)
  | [], _, .nil => .nil
  | (k', v') :: vs, (_, d') :: kvs, .cons r t => by
    rw [List.map_cons, List.map_cons]
    by_cases h : k' = k
    · rw [if_pos h, if_pos (by rw [keyOfD_kD, h])]
      exact .cons r2 (RDk.mapPut r2 t)
    · rw [if_neg h, if_neg (by rw [keyOfD_kD]; simpa using h)]
      exact .cons r (RDk.mapPut r2 t)
theorem RDk.put {vs : List (Key × V)} {kvs : List (D × D)} {k : Key} {v : V} {d : D} (r : RDk K mg B H vs kvs) (r2 : RD K mg B H v d) : RDk K mg B H (putK vs k v) (putKD kvs k d) := by
  unfold putK putKD
  rw [r.any k]
  split
  · exact r.mapPut r2
  · exact r.app r2
/-- a dict that is read -/
theorem dctK_inv {v : V} {kvs : List (D × D)} (r : RT K mg B H v (.dct false kvs)) : ∃ a vs, v = .ref a ∧ Rd H a (.dK vs) ∧ RDk K mg B H vs kvs := by
  cases r with
  | of r => cases r with
    | dK h _ r => exact ⟨_, _, rfl, .inr ⟨_, h⟩, r⟩
  | dK h r => exact ⟨_, _, rfl, h, r⟩
theorem keyD_V {v : V} {d : D} {k : Key} (r : RT K mg B H v d) (h : keyOfD d = some k) : v = kV k := by
  have e := keyOfD_eq h
  subst e
  cases k with
  | inl i => exact r.int_inv
  | inr x => exact r.str_inv.1
end
def dgetD (a y : D) : Option D := match a with
  | .dct false kvs => (keyOfD y).bind fun k => valKD kvs k
  | _ => none
def dinD (y a : D) : Option Bool := match a with
  | .dct false kvs => (keyOfD y).map fun k => (valKD kvs k).isSome
  | _ => none
/-- two ways to read one text -/
def tOr (t u : TE) : TE := fun σ H Q => t σ H Q ∨ u σ H Q
theorem pe_or {X : Cx} {e : Expr} {t u : TE} (h : PE X e t) (k : PE X e u) : PE X e (tOr t u) :=
  ⟨fun pins s σ H Q I hw => hw.elim (fun z => h.run pins s σ H Q I z) fun z => k.run pins s σ H Q I z⟩
section
variable {K : PySem.W.Frag} {mg : Str → Option Value} {W : WX}
/-- x[y]: a dict, or by another way -/
def fSub (op : D → D → Option D) (fa fb : F) : F := fOp (fun a y => (dgetD a y).or (op a y)) fa fb
theorem sim_dget {ta tb : TE} {fa fb : F} (ha : Sim K mg W ta fa) (hb : Sim K mg W tb fb) : Sim K mg W (tDGet ta tb) (fOp dgetD fa fb) := by
  intro γ σ Q g rep h
  refine ha.go rep (fun _ _ _ _ z => z) h fun x S v H B ρ rep1 e1 rv hk => ?_
  refine hb.go (g := ⟨B, S, ρ, H⟩) rep1 (fun _ _ _ _ z => z.on rep.st.len rep1.st.len e1) hk fun y S2 u H2 B2 ρ2 rep2 e2 ru hk2 => ?_
  have e12 := e1.trans e2 rep.st.len rep1.st.len
  obtain ⟨d, hd, q⟩ := R.ofO_wp hk2
  cases q1 : x.view S2 with
  | none => rw [q1] at hd; cases hd
  | some a =>
  cases q2 : y.view S2 with
  | none => rw [q1, q2] at hd; cases hd
  | some b =>
    simp only [q1, q2, Option.bind_some] at hd
    have rt := (rv.mono e2 rep1.st).rt rep2.st q1
    unfold dgetD at hd
    split at hd
    · rename_i kvs
      cases q3 : keyOfD b with
      | none => rw [q3] at hd; cases hd
      | some k =>
        simp only [q3, Option.bind_some] at hd
        obtain ⟨p, vs, rfl, hr, rk⟩ := dctK_inv rt
        have ek := keyD_V (ru.rt rep2.st q2) q3
        rcases rk.val k with ⟨z, _⟩ | ⟨d', w, z1, z2, z3⟩
        · rw [z] at hd; cases hd
        · rw [z1] at hd
          cases hd
          exact ⟨p, w, rfl, .inl ⟨vs, k, hr, ek, z2.symm⟩, okv_im q rep2 rep.st.len e12 (Grow.refl _) z3⟩
    · cases hd
/-- the choice is made by what the evaluator gives -/
theorem sim_or {t u : TE} {f : F} (h : ∀ γ S, (∃ f1, f γ S = f1 γ S ∧ Sim K mg W t f1) ∨ ∃ f2, f γ S = f2 γ S ∧ Sim K mg W u f2) : Sim K mg W (tOr t u) f := by
  intro γ σ Q g rep hw
  rcases h γ g.S with ⟨f1, e, s⟩ | ⟨f2, e, s⟩
  · rw [e] at hw; exact .inl (s γ σ Q g rep hw)
  · rw [e] at hw; exact .inr (s γ σ Q g rep hw)
theorem sim_sub {r : R2} {op : D → D → Option D} {ta tb : TE} {fa fb : F} (hr : P2 K mg r op) (ha : Sim K mg W ta fa) (hb : Sim K mg W tb fb) : Sim K mg W (tOr (tDGet ta tb) (tOp r ta tb)) (fSub op fa fb) := by
  refine sim_or fun γ S => ?_
  have key : ∀ (p : D → D → Option D), (∀ x S1 y S2, fa γ S = .ok x S1 → fb γ S1 = .ok y S2 → lift2 (fun a y => (dgetD a y).or (op a y)) x y S2 = lift2 p x y S2) → fSub op fa fb γ S = fOp p fa fb γ S := fun p hp => by
    unfold fSub fOp
    cases q : fa γ S with
    | bad => rfl
    | exc c fs γ' S' => rfl
    | ok x S1 =>
      simp only [R.bind_ok]
      cases q2 : fb γ S1 with
      | bad => rfl
      | exc c fs γ' S' => rfl
      | ok y S2 => simp only [R.bind_ok]; exact hp x S1 y S2 q q2
  by_cases h : ∃ x S1 y S2 a b d, fa γ S = .ok x S1 ∧ fb γ S1 = .ok y S2 ∧ x.view S2 = some a ∧ y.view S2 = some b ∧ dgetD a b = some d
  · obtain ⟨x, S1, y, S2, a, b, d, h1, h2, h3, h4, h5⟩ := h
    refine .inl ⟨fOp dgetD fa fb, key dgetD fun x' S1' y' S2' k1 k2 => ?_, sim_dget ha hb⟩
    rw [h1] at k1
    cases k1
    rw [h2] at k2
    cases k2
    unfold lift2
    rw [h3, h4]
    simp only [Option.bind_some, h5, Option.some_or]
  · refine .inr ⟨fOp op fa fb, key op fun x' S1' y' S2' k1 k2 => ?_, sim_op hr ha hb⟩
    unfold lift2
    cases q1 : x'.view S2' with
    | none => rfl
    | some a =>
      cases q2 : y'.view S2' with
      | none => rfl
      | some b =>
        simp only [Option.bind_some]
        cases q3 : dgetD a b with
        | none => rfl
        | some d => exact absurd ⟨x', S1', y', S2', a, b, d, k1, k2, q1, q2, q3⟩ h
/-- d.get(y, z) -/
def fGet2 (fa fb fc : F) : F := fun γ S => (fa γ S).bind fun x S1 => match x.view S1 with
  | some (.dct false _) => (fb γ S1).bind fun y S2 => (fc γ S2).bind fun z S3 => match x.view S3, (y.view S3).bind keyOfD, z with
    | some (.dct false kvs), some k, .im d => .ok (.im ((valKD kvs k).getD d)) S3
    | _, _, _ => .bad
  | _ => .bad
theorem sim_get2 {ta tb tc : TE} {fa fb fc : F} (ha : Sim K mg W ta fa) (hb : Sim K mg W tb fb) (hc : Sim K mg W tc fc) : Sim K mg W (tDGet2 ta tb tc) (fGet2 fa fb fc) := by
  intro γ σ Q g rep h
  refine ha.go (X := Exv K mg g σ W) rep (fun _ _ _ _ z => z) h fun x S v H B ρ rep1 e1 rv hk => ?_
  split at hk
  · rename_i kvs0 q0
    obtain ⟨p, vs, rfl, hr, rk⟩ := dctK_inv (rv.rt rep1.st q0)
    refine ⟨p, rfl, .inl ⟨vs, hr⟩, ?_⟩
    refine hb.go (g := ⟨B, S, ρ, H⟩) rep1 (fun _ _ _ _ z => z.on rep.st.len rep1.st.len e1) hk fun y S2 u H2 B2 ρ2 rep2 e2 ru hk2 => ?_
    have e12 := e1.trans e2 rep.st.len rep1.st.len
    refine hc.go (g := ⟨B2, S2, ρ2, H2⟩) rep2 (fun _ _ _ _ z => z.on rep.st.len rep2.st.len e12) hk2 fun z S3 w H3 B3 ρ3 rep3 e3 rw' hk3 => ?_
    have e123 := e12.trans e3 rep.st.len rep2.st.len
    split at hk3
    · rename_i kvs k d q1 q2
      obtain ⟨p', vs', ep, hr', rk'⟩ := dctK_inv (((rv.mono e2 rep1.st).mono e3 rep2.st).rt rep3.st q1)
      cases ep
      cases qy : y.view S3 with
      | none => rw [qy] at q2; cases q2
      | some b =>
      rw [qy] at q2
      have ek := keyD_V ((ru.mono e3 rep2.st).rt rep3.st qy) q2
      refine ⟨_, .inl ⟨vs', k, hr', ek, rfl⟩, ?_⟩
      rcases rk'.val k with ⟨z1, z2⟩ | ⟨d', w', z1, z2, z3⟩
      · rw [z2]
        rw [z1] at hk3
        exact hk3 w H3 B3 ρ3 rep3 e123 rw'
      · rw [z2]
        rw [z1] at hk3
        exact hk3 w' H3 B3 ρ3 rep3 e123 z3
    · exact hk3.elim
  · exact hk.elim
def keysI (f : F) : FI := fun γ S => (f γ S).bind fun x S1 => match x with
  | .im (.dct false kvs) => .ok (fun _ => some (kvs.map (·.1))) S1
  | _ => .bad
theorem RDk.key {B : Addr → Prop} {H : Hp} : ∀ {vs : List (Key × V)} {kvs : List (D × D)} {i : Nat} {d : D}, RDk K mg B H vs kvs → (kvs.map (·.1))[i]? = some d → ∃ k v, vs[i]? = some (k, v) ∧ d = kD k
  | _, _, _, _, .nil, h => by simp at h
  | _, _, 0, _, .cons r t, h => by simp at h; exact ⟨_, _, rfl, h.symm⟩
  | _, _, i + 1, d, .cons r t, h => by
    obtain ⟨k, v, h1, h2⟩ := RDk.key (i := i) (d := d) t (by simpa using h)
    exact ⟨k, v, by simpa using h1, h2⟩
theorem kD_rd {B : Addr → Prop} {H : Hp} {k : Key} (h : match k with
    | .inl _ => True
    | .inr x => SOk x) : RD K mg B H (kV k) (kD k) := by
  cases k with
  | inl i => exact .int i
  | inr x => exact .str x h
/-- the keys of such a dict are texts that may lie in a heap -/
def keysOk (kvs : List (D × D)) : Bool := kvs.all fun p => match p.1 with
  | .str x => decide (SOk x)
  | _ => true
def keysI' (f : F) : FI := fun γ S => (f γ S).bind fun x S1 => match x with
  | .im (.dct false kvs) => if keysOk kvs then .ok (fun _ => some (kvs.map (·.1))) S1 else .bad
  | _ => .bad
theorem simI_keys {t : TE} {f : F} (h1 : Sim K mg W t f) : SimI K mg W (iKeys t) (keysI' f) := by
  intro γ σ Q g rep h
  refine h1.go (X := Exv K mg g σ W) rep (fun _ _ _ _ z => z) h fun x S v H B ρ rep1 e1 rv hk => ?_
  cases x with
  | cl i => exact hk.elim
  | im d =>
  cases d <;> first | exact hk.elim | skip
  rename_i b kvs
  cases b with
  | true => exact hk.elim
  | false =>
  simp only at hk
  split at hk
  · rename_i hko
    have rv' : RD K mg B H v (.dct false kvs) := rv
    cases rv' with
    | dK hh nb rk =>
    rename_i a o vs
    refine ⟨a, o, rfl, .inl ⟨vs, hh, hk _ H B ρ rep1 e1 fun B' S' ρ' H' i ds ok' e' hi => ?_⟩⟩
    cases hi
    obtain ⟨hh', nb'⟩ := e'.gr _ _ hh nb
    refine ⟨fun d hd => ?_, fun hn => ⟨hh', ?_⟩⟩
    · obtain ⟨k, w, h1, rfl⟩ := RDk.key rk hd
      refine ⟨⟨hh', (List.getElem?_eq_some_iff.mp h1).1⟩, fun y H'' ⟨e1, k', w', h2, e2⟩ => ?_⟩
      subst e1 e2
      rw [h1] at h2
      cases h2
      refine ⟨Grow.refl _, kD_rd ?_⟩
      cases k with
      | inl i => exact True.intro
      | inr x =>
        have hm : D.str x ∈ kvs.map (·.1) := List.mem_of_getElem? hd
        obtain ⟨p, hp, ep⟩ := List.mem_map.mp hm
        have := List.all_eq_true.mp hko p hp
        rw [ep] at this
        exact of_decide_eq_true this
    · rw [List.getElem?_eq_none_iff, List.length_map] at hn
      rw [rk.length]
      exact hn
  · exact hk.elim
structure KInv (K : PySem.W.Frag) (mg : Str → Option Value) (Da : Addr) (B : Addr → Prop) (S : Sto) (ρ : List (List Addr)) (H : Hp) (acc : List (D × D)) : Prop where
  ban : B Da
  nf : ¬ Foot S ρ Da
  at_ : ∃ vs, H Da = some (.dK vs) ∧ RDk K mg B H vs acc
theorem KInv.step {Da : Addr} {B B1 : Addr → Prop} {S S1 : Sto} {ρ ρ1 : List (List Addr)} {H H1 : Hp} {acc : List (D × D)} (c : KInv K mg Da B S ρ H acc) (ok : StOk K mg B S ρ H) (e : Ext B S ρ H B1 S1 ρ1 H1) : KInv K mg Da B1 S1 ρ1 H1 acc := by
  obtain ⟨vs, h, r⟩ := c.at_
  refine ⟨e.held Da c.ban c.nf, fun z => ?_, vs, e.keep Da _ h c.nf, r.mono (e.gr ok)⟩
  rcases e.foot ok.len z with z | z
  · exact c.nf z
  · rw [h] at z; cases z
theorem KInv.noT {Da : Addr} {B : Addr → Prop} {S : Sto} {ρ : List (List Addr)} {H : Hp} {acc : List (D × D)} (c : KInv K mg Da B S ρ H acc) : ∀ u, H Da = some u → NoT u := fun u hu => by
  obtain ⟨vs, h, _⟩ := c.at_
  rw [h] at hu; cases hu; exact noT_dK
theorem kinv_start {Da : Addr} {B : Addr → Prop} {S : Sto} {ρ : List (List Addr)} {H : Hp} (ok : StOk K mg B S ρ H) (hn : H Da = none) :
    KInv K mg Da (fun a => B a ∨ a = Da) S ρ (upd H Da (.dK [])) [] ∧ StOk K mg (fun a => B a ∨ a = Da) S ρ (upd H Da (.dK [])) ∧ Ext B S ρ H (fun a => B a ∨ a = Da) S ρ (upd H Da (.dK [])) := by
  have nf : ¬ Foot S ρ Da := fun z => ok.dom Da (ok.ban Da z) hn
  obtain ⟨c, ok1, e1⟩ := cinv_start ok hn
  have c2 := c.ban
  have ok2 := ok1.updD (o := .dK []) c2 nf c.noT
  have e2 := e1.updD (o := .dK []) hn
  rw [upd_upd] at ok2 e2
  exact ⟨⟨c2, nf, [], upd_same, .nil⟩, ok2, e2⟩
theorem KInv.put {Da : Addr} {B : Addr → Prop} {S : Sto} {ρ : List (List Addr)} {H : Hp} {acc : List (D × D)} {k : Key} {y : V} {e : D} (c : KInv K mg Da B S ρ H acc) (r : RD K mg B H y e) : ∃ vs, H Da = some (.dK vs) ∧ vs.length = acc.length ∧ KInv K mg Da B S ρ (upd H Da (.dK (putK vs k y))) (putKD acc k e) := by
  obtain ⟨vs, h, rs⟩ := c.at_
  exact ⟨vs, h, rs.length, c.ban, c.nf, _, upd_same, (rs.put r).mono (rds_upd c.ban)⟩
/-- at the end: it is locked for good, and is data -/
theorem kinv_end {Da : Addr} {B0 B : Addr → Prop} {S0 S : Sto} {ρ0 ρ : List (List Addr)} {H0 H : Hp} {acc : List (D × D)} (c : KInv K mg Da B S ρ H acc) (ok : StOk K mg B S ρ H) (e : Ext B0 S0 ρ0 H0 B S ρ H) (hn : H0 Da = none) :
    ∃ u, H Da = some u ∧ Mut (some u) ∧ ∀ od, StOk K mg (fun a => B a ∧ a ≠ Da) S ρ (upd H Da (.frz od u)) ∧ Ext B0 S0 ρ0 H0 (fun a => B a ∧ a ≠ Da) S ρ (upd H Da (.frz od u)) ∧ RD K mg (fun a => B a ∧ a ≠ Da) (upd H Da (.frz od u)) (.ref Da) (.dct false acc) := by
  obtain ⟨vs, h, r⟩ := c.at_
  refine ⟨.dK vs, h, True.intro, fun od => ?_⟩
  have ok1 := ok.updD (o := .frz od (.dK vs)) c.ban c.nf c.noT
  have e1 := e.updD (o := .frz od (.dK vs)) hn
  have gr : Gr B (upd H Da (.frz od (.dK vs))) (fun a => B a ∧ a ≠ Da) (upd H Da (.frz od (.dK vs))) := fun a o h b => ⟨h, fun z => b z.1⟩
  have r1 : RDk K mg B (upd H Da (.frz od (.dK vs))) vs acc := r.mono (rds_upd c.ban)
  exact ⟨⟨ok1.len, fun i fp d h1 h2 => (ok1.cell i fp d h1 h2).mono gr fun _ _ _ hx => hx, fun a f => ⟨ok1.ban a f, fun z => c.nf (z ▸ f)⟩, ok1.disj, fun a z => ok1.dom a z.1, ok1.tabs⟩, ⟨e1.len, e1.pre, e1.dead, e1.keep, fun a o q b z => e1.ban a o q b z.1, e1.new, e1.dom, e1.bdom, fun a b f => ⟨e1.held a b f, fun z => e1.bdom a b (by rw [z]; exact hn)⟩⟩, .dK upd_same (fun z => z.2 rfl) (r1.mono gr)⟩
def mergeKD (kvs more : List (D × D)) : Option (List (D × D)) := match more with
  | [] => some kvs
  | (k, v) :: r => (keyOfD k).bind fun k => mergeKD (putKD kvs k v) r
abbrev FP := Gam → Sto → R (List (D × D))
def fPNil : FP := fun _ S => .ok [] S
def fPCons (fk fv : F) (r : FP) : FP := fun γ S => (fk γ S).bind fun x S1 => (fv γ S1).bind fun y S2 => (r γ S2).bind fun ps S3 => match x, y with
  | .im k, .im v => .ok ((k, v) :: ps) S3
  | _, _ => .bad
def fDisp (fp : FP) : F := fun γ S => (fp γ S).bind fun ps S1 => if ps.length ≤ 15 then R.ofO ((mergeKD [] ps).map (.dct false)) S1 else .bad
def SimP (K : PySem.W.Frag) (mg : Str → Option Value) (W : WX) (trs : List (TE × TE)) (f : FP) : Prop := ∀ (γ : Gam) (σ : St) (Q : List (V × V) → Hp → Prop) (g : At), Rep K mg g.B γ g.S g.ρ σ g.H →
  (f γ g.S).wp (fun ps S => ∀ vs H B ρ, Rep K mg B γ S ρ σ H → g.to B S ρ H → Paired (fun p d => RD K mg B H p.1 d.1 ∧ RD K mg B H p.2 d.2) vs ps → Q vs H) (Exv K mg g σ W) → tPairs trs σ g.H Q
theorem simP_nil : SimP K mg W [] fPNil := fun γ σ Q g rep h => h [] g.H g.B g.ρ rep (Ext.refl rep.st) .nil
theorem simP_cons {tk tv : TE} {trs : List (TE × TE)} {fk fv : F} {r : FP} (hk : Sim K mg W tk fk) (hv : Sim K mg W tv fv) (hr : SimP K mg W trs r) : SimP K mg W ((tk, tv) :: trs) (fPCons fk fv r) := by
  intro γ σ Q g rep h
  refine hk.go (X := Exv K mg g σ W) rep (fun _ _ _ _ z => z) h fun x S v H B ρ rep1 e1 rv hk1 => ?_
  refine hv.go (g := ⟨B, S, ρ, H⟩) rep1 (fun _ _ _ _ z => z.on rep.st.len rep1.st.len e1) hk1 fun y S2 u H2 B2 ρ2 rep2 e2 ru hk2 => ?_
  have e12 := e1.trans e2 rep.st.len rep1.st.len
  refine hr γ σ _ ⟨B2, S2, ρ2, H2⟩ rep2 (R.wp_mono (R.wp_bind hk2) (fun ps S3 hk3 => ?_) fun _ _ _ _ z => z.on rep.st.len rep2.st.len e12)
  intro vs H3 B3 ρ3 rep3 e3 pr
  cases x with
  | cl i => exact hk3.elim
  | im k =>
  cases y with
  | cl i => exact hk3.elim
  | im d =>
  exact hk3 ((v, u) :: vs) H3 B3 ρ3 rep3 (e12.trans e3 rep.st.len rep2.st.len) (.cons ⟨(rv.mono e2 rep1.st).mono e3 rep2.st, ru.mono e3 rep2.st⟩ pr)
theorem merge_go {B : Addr → Prop} {H : Hp} : ∀ {vs : List (V × V)} {ps : List (D × D)} {ws : List (Key × V)} {acc out : List (D × D)}, Paired (fun p d => RD K mg B H p.1 d.1 ∧ RD K mg B H p.2 d.2) vs ps → RDk K mg B H ws acc → mergeKD acc ps = some out → ∃ kvs : List (Key × V), vs = kvs.map (fun kv => (kV kv.1, kv.2)) ∧ kvs.length = ps.length ∧ RDk K mg B H (mergeK ws kvs) out
  | _, _, ws, acc, out, .nil, r, h => by
    cases h
    exact ⟨[], rfl, rfl, r⟩
  | _, _, ws, acc, out, @Paired.cons _ _ _ (v, u) (k, d) vs ps ⟨r1, r2⟩ t, r, h => by
    unfold mergeKD at h
    cases q : keyOfD k with
    | none => rw [q] at h; cases h
    | some key =>
      simp only [q, Option.bind_some] at h
      obtain ⟨kvs, e1, e2, r3⟩ := merge_go t (r.put (k := key) r2) h
      have ek : v = kV key := keyD_V (RD.rt r1) q
      refine ⟨(key, u) :: kvs, by rw [List.map_cons, ← e1, ek], by rw [List.length_cons, List.length_cons, e2], r3⟩
theorem sim_disp {trs : List (TE × TE)} {fp : FP} (hp : SimP K mg W trs fp) : Sim K mg W (tFrz (tDisp trs)) (fDisp fp) := by
  intro γ σ Q g rep h
  intro Da hDa
  obtain ⟨c0, ok0, e0⟩ := kinv_start rep.st hDa
  have rep0 := rep.step e0 ok0
  refine hp γ σ _ ⟨_, g.S, g.ρ, _⟩ rep0 (R.wp_mono (R.wp_bind h) (fun ps S hk => ?_) fun _ _ _ _ z => z.on rep.st.len rep0.st.len e0)
  intro vs H B ρ rep1 e1 pr
  have e1 : Ext (fun a => g.B a ∨ a = Da) g.S g.ρ (upd g.H Da (.dK [])) B S ρ H := e1
  split at hk
  · rename_i h15
    obtain ⟨d, hd, q⟩ := R.ofO_wp hk
    cases qm : mergeKD [] ps with
    | none => rw [qm] at hd; cases hd
    | some out =>
      rw [qm] at hd
      cases hd
      have c1 := c0.step ok0 e1
      obtain ⟨ws, hw, rw0⟩ := id c1.at_
      cases rw0
      obtain ⟨kvs, ev, el, rk⟩ := merge_go pr .nil qm
      refine ⟨hw, kvs, ev, by rw [el]; exact h15, .inr ⟨Da, .dK (mergeK [] kvs), rfl, upd_same, True.intro, fun od => ?_⟩⟩
      have e01 : Ext g.B g.S g.ρ g.H B S ρ H := e0.trans e1 rep.st.len ok0.len
      have c2 : KInv K mg Da B S ρ (upd H Da (.dK (mergeK [] kvs))) out := ⟨c1.ban, c1.nf, _, upd_same, rk.mono (rds_upd c1.ban)⟩
      obtain ⟨u, hu, mu, fin⟩ := kinv_end c2 (rep1.st.updD c1.ban c1.nf c1.noT) (e01.updD hDa) hDa
      rw [upd_same] at hu
      cases hu
      obtain ⟨ok3, e3, rd⟩ := fin od
      exact q (.ref Da) _ _ ρ (rep.step e3 ok3) e3 rd
  · exact hk.elim
/-- {} as data -/
theorem sim_dnew : Sim K mg W (tFrz tDNewK) (fC (.dct false [])) := by
  intro γ σ Q g rep h
  intro p hp
  refine .inr ⟨p, .dK [], rfl, upd_same, True.intro, fun od => ?_⟩
  rw [upd_upd]
  exact okv_im h rep rep.st.len (Ext.refl rep.st) (Grow.upd hp) (.dK upd_same (rep.st.notB hp) .nil)
def pairD : D → Option (D × D)
  | .tup [k, v] => some (k, v)
  | _ => none
def fDictP (f : F) : F := fUn (fun d => match d with
  | .lst ds => ((allK pairD ds).bind fun ps => mergeKD [] ps).map (.dct false)
  | _ => none) f
abbrev rDictP (K : PySem.W.Frag) : List V → Hp → VK → Prop := fun xs H Q => ∃ (a : Addr) (ps : List Addr) (kvs : List (Key × V)), xs = [.ref a] ∧ SqL K H a (ps.map V.ref) ∧ Paired (fun p kv => SqT K H p [kV kv.1, kv.2]) ps kvs ∧
    ∀ p, H p = none → Q (.ref p) (upd H p (.dK (mergeK [] kvs)))
theorem dictP_go {B : Addr → Prop} {H : Hp} : ∀ {vs : List V} {ds : List D} {ps acc out : List (D × D)} {ws : List (Key × V)}, RDs K mg B H vs ds → allK pairD ds = some ps → RDk K mg B H ws acc → mergeKD acc ps = some out → ∃ (as : List Addr) (kvs : List (Key × V)), vs = as.map V.ref ∧ Paired (fun p kv => SqT K H p [kV kv.1, kv.2]) as kvs ∧ RDk K mg B H (mergeK ws kvs) out
  | _, _, ps, acc, out, ws, .nil, h1, r, h => by
    cases h1
    cases h
    exact ⟨[], [], rfl, .nil, r⟩
  | _, _, ps, acc, out, ws, @RDs.cons _ _ _ _ v d vs ds rd t, h1, r, h => by
    unfold allK at h1
    cases q : pairD d with
    | none => rw [q] at h1; cases h1
    | some p =>
      rw [q] at h1
      cases q2 : allK pairD ds with
      | none => rw [q2] at h1; cases h1
      | some ps' =>
        rw [q2] at h1
        cases h1
        obtain ⟨k, e⟩ := p
        unfold mergeKD at h
        cases q3 : keyOfD k with
        | none => rw [q3] at h; cases h
        | some key =>
          simp only [q3, Option.bind_some] at h
          have hd : d = .tup [k, e] := by
            unfold pairD at q
            split at q
            · cases q; rfl
            · cases q
          subst hd
          obtain ⟨a, us, rfl, hs, rs⟩ := RT.tup_inv (RD.rt rd)
          cases rs with
          | cons r1 rs =>
          cases rs with
          | cons r2 rs =>
          cases rs
          obtain ⟨as, kvs, e1, e2, e3⟩ := dictP_go t q2 (r.put (k := key) r2) h
          have ek := keyD_V (RD.rt r1) q3
          subst ek
          exact ⟨a :: as, (key, _) :: kvs, by rw [List.map_cons, ← e1], .cons hs e2, e3⟩
theorem sim_dictP {t : TE} {f : F} (h1 : Sim K mg W t f) : Sim K mg W (tFrz (tCB (rDictP K) (tCons t tNil))) (fDictP f) := by
  intro γ σ Q g rep h
  show t σ g.H fun x H1 => rDictP K [x] H1 (fun v H2 => Q v H2 ∨ ∃ d u, v = .ref d ∧ H2 d = some u ∧ Mut (some u) ∧ ∀ od, Q v (upd H2 d (.frz od u)))
  refine h1.go rep (fun _ _ _ _ z => z) h fun x S v H B ρ rep1 e1 rv hk => ?_
  obtain ⟨d, hd, q⟩ := R.ofO_wp hk
  cases q1 : x.view S with
  | none => rw [q1] at hd; cases hd
  | some a =>
    simp only [q1, Option.bind_some] at hd
    cases a <;> simp only [reduceCtorEq] at hd
    rename_i ds
    cases q2 : allK pairD ds with
    | none => rw [q2] at hd; cases hd
    | some ps =>
      simp only [q2, Option.bind_some] at hd
      cases q3 : mergeKD [] ps with
      | none => rw [q3] at hd; cases hd
      | some out =>
        rw [q3] at hd
        cases hd
        obtain ⟨l, vs, rfl, hl, rs⟩ := (rv.rt rep1.st q1).lst_inv
        obtain ⟨as, kvs, ev, pr, rk⟩ := dictP_go rs q2 .nil q3
        subst ev
        refine ⟨l, as, kvs, rfl, SqL.of hl, pr, fun p hp => .inr ⟨p, _, rfl, upd_same, True.intro, fun od => ?_⟩⟩
        rw [upd_upd]
        have gr : Grow H (upd H p (.frz od (.dK (mergeK [] kvs)))) := Grow.upd hp
        exact okv_im q rep1 rep.st.len e1 gr (.dK upd_same (rep1.st.notB hp) (rk.mono gr.gr))
end
end DL
namespace DL
open PySem PySem.Spec L2
open PyProof.Rows hiding St
variable [Tbl]
abbrev FK := Gam → List (D × D) → Sto → R (List (D × D))
def kloop (its : Sto → Option (List D)) (tg : Tg) (body : FK) : Nat → Nat → Gam → List (D × D) → Sto → R (List (D × D))
  | 0, _, _, _, _ => .bad
  | n + 1, i, γ, acc, S => match its S with
    | none => .bad
    | some ds => match ds[i]? with
      | none => .ok acc S
      | some d => match tg.fg (.im d) γ with
        | none => .bad
        | some γ1 => (body γ1 acc S).bind fun acc1 S1 => kloop its tg body n (i + 1) γ acc1 S1
def kElt (fk fv : F) : FK := fun γ acc S => (fk γ S).nox.bind fun x S1 => (fv γ S1).nox.bind fun y S2 => match x, y with
  | .im k, .im v => match keyOfD k with
    | some key => if acc.length < sizeLine then .ok (putKD acc key v) S2 else .bad
    | none => .bad
  | _, _ => .bad
def kIf (ft : FT) (k : FK) : FK := fun γ acc S => (ft γ S).nox.bind fun b S1 => if b then k γ acc S1 else .ok acc S1
def fDc (fi : FI) (tg : Tg) (vs : List Nat) (k : FK) : F := fun γ S => (fi γ S).bind fun its S1 => match its S1 with
  | none => .bad
  | some ds => (kloop its tg k (ds.length + 1) 0 (wipeG γ vs) [] S1).bind fun acc S2 => .ok (.im (.dct false acc)) S2
section
variable {K : PySem.W.Frag} {mg : Str → Option Value} {W : WX}
/-- a part of the body, whose end reaches Nx -/
def SimK (K : PySem.W.Frag) (mg : Str → Option Value) (Da : Addr) (bt : TB) (k : FK) : Prop := ∀ (b : At), b.H Da = none → b.ρ.length = b.S.length → ∀ (γ : Gam) (σ : St) (B : Addr → Prop) (S : Sto) (ρ : List (List Addr)) (H : Hp) (acc : List (D × D)) (Nx : Hp → Prop) (P : List (D × D) → Sto → Prop) (X : PX),
  Rep K mg B γ S ρ σ H → KInv K mg Da B S ρ H acc → b.to B S ρ H → (k γ acc S).wp P X →
  (∀ acc' S' H' B' ρ', P acc' S' → StOk K mg B' S' ρ' H' → KInv K mg Da B' S' ρ' H' acc' → b.to B' S' ρ' H' → Stp K mg B S ρ H B' S' ρ' H' → Nx H') → bt σ H Nx
theorem simK_elt {Da : Addr} {tk tv : TE} {fk fv : F} (hk0 : Sim K mg W0 tk fk) (hv0 : Sim K mg W0 tv fv) : SimK K mg Da (fun σ H Nx => tk σ H fun y H4 => tv σ H4 fun z H5 => ∃ kvs k, y = kV k ∧ H5 Da = some (.dK kvs) ∧ kvs.length < sizeLine ∧ Nx (upd H5 Da (.dK (putK kvs k z)))) (kElt fk fv) := by
  intro b hn hl γ σ B S ρ H acc Nx P X rep c e h hNx
  refine hk0 γ σ _ ⟨B, S, ρ, H⟩ rep (R.wp_mono (R.noxb (X' := fun _ _ _ _ => False) h) (fun x S1 hk => ?_) fun _ _ _ _ z => z.elim)
  intro v H1 B1 ρ1 rep1 e1 rv
  refine hv0 γ σ _ ⟨B1, S1, ρ1, H1⟩ rep1 (R.wp_mono (R.noxb (X' := fun _ _ _ _ => False) hk) (fun y S2 hk2 => ?_) fun _ _ _ _ z => z.elim)
  intro u H2 B2 ρ2 rep2 e2 ru
  cases x with
  | cl i => exact hk2.elim
  | im k =>
  cases y with
  | cl i => exact hk2.elim
  | im d =>
    simp only at hk2
    cases q : keyOfD k with
    | none => simp only [q] at hk2; exact hk2.elim
    | some key =>
      simp only [q] at hk2
      split at hk2
      · rename_i hz
        have c1 := c.step rep.st e1
        have c2 := c1.step rep1.st e2
        obtain ⟨vs, h1, h2, c3⟩ := c2.put (k := key) ru
        have ek : v = kV key := keyD_V (RD.rt rv) q
        have e12 : Ext B S ρ H B2 S2 ρ2 H2 := Ext.trans e1 e2 rep.st.len rep1.st.len
        refine ⟨vs, key, ek, h1, by rw [h2]; exact hz, hNx _ S2 _ B2 ρ2 hk2 (rep2.st.updD c2.ban c2.nf c2.noT) c3 ((e.trans e12 hl rep.st.len).updD hn) ?_⟩
        exact (e12.stp rep.st).trans ⟨fun v x r => r.updD c2.ban, rds_upd c2.ban⟩
      · exact hk2.elim
theorem simK_if {Da : Addr} {tt : TT} {ft : FT} {bt : TB} {k : FK} (ht : SimT K mg W0 tt ft) (hb : SimK K mg Da bt k) : SimK K mg Da (fun σ H Nx => tt σ H fun b H3 => if b = true then bt σ H3 Nx else Nx H3) (kIf ft k) := by
  intro b hn hl γ σ B S ρ H acc Nx P X rep c e h hNx
  refine ht γ σ _ ⟨B, S, ρ, H⟩ rep (R.wp_mono (R.noxb (X' := fun _ _ _ _ => False) h) (fun x S1 hk => ?_) fun _ _ _ _ z => z.elim)
  intro H1 B1 ρ1 rep1 e1
  have c1 := c.step rep.st e1
  cases x with
  | true =>
    refine iteT (hb b hn hl γ σ B1 S1 ρ1 H1 acc Nx P X rep1 c1 (e.trans e1 hl rep.st.len) hk fun acc' S' H' B' ρ' p ok' c' e' s' => hNx acc' S' H' B' ρ' p ok' c' e' ((e1.stp rep.st).trans s'))
  | false => exact iteF (hNx acc S1 H1 B1 ρ1 hk rep1.st c1 (e.trans e1 hl rep.st.len) (e1.stp rep.st))
/-- the loop itself -/
theorem kloop_go {Da : Addr} {J : It} {its : Sto → Option (List D)} {tg : Tg} {vs : List Nat} {bt : TB} {k : FK} (hv : ∀ i ∈ tg.slots, i ∈ vs) (hb : SimK K mg Da bt k) (b : At) (hn : b.H Da = none) (hl : b.ρ.length = b.S.length) {γ : Gam} {σ : St} {Stop : Hp → Prop} {P : List (D × D) → Sto → Prop} {X : PX} {B0 : Addr → Prop} {S0 : Sto} {ρ0 : List (List Addr)} {H0 : Hp}
    (hStop : ∀ acc S H B ρ, P acc S → StOk K mg B S ρ H → KInv K mg Da B S ρ H acc → b.to B S ρ H → Stp K mg B0 S0 ρ0 H0 B S ρ H → Stop H)
    (ij : ∀ B S ρ H acc, StOk K mg B S ρ H → KInv K mg Da B S ρ H acc → b.to B S ρ H → Stp K mg B0 S0 ρ0 H0 B S ρ H → ∀ (i : Nat) (ds : List D), its S = some ds → (∀ d, ds[i]? = some d → J.go i H ∧ ∀ x H', J.yld i H x H' → Grow H H' ∧ RD K mg B H' x d) ∧ (ds[i]? = none → J.stop i H))
    (n : Nat) (acc : List (D × D)) (rep : Rep K mg B0 γ S0 ρ0 σ H0) (c : KInv K mg Da B0 S0 ρ0 H0 acc) (e : b.to B0 S0 ρ0 H0) (h : (kloop its tg k n 0 (wipeG γ vs) acc S0).wp P X) :
    ∃ W : Nat → Nat → Hp → Prop, (∃ m, W 0 m H0) ∧ ∀ i m H, W i m H →
      (J.stop i H ∧ Stop H) ∨ (J.go i H ∧ ∃ Nx : Hp → Prop, (∀ H', Nx H' → ∃ m', m' < m ∧ W (i + 1) m' H') ∧ ∀ x H', J.yld i H x H' → tg.tg K x (wipe σ vs) H' fun σ2 H2 => wipe σ2 vs = wipe σ vs ∧ bt σ2 H2 Nx) := by
  refine ⟨fun i m H => ∃ acc B S ρ, StOk K mg B S ρ H ∧ KInv K mg Da B S ρ H acc ∧ b.to B S ρ H ∧ Stp K mg B0 S0 ρ0 H0 B S ρ H ∧ (kloop its tg k m i (wipeG γ vs) acc S).wp P X, ⟨n, acc, B0, S0, ρ0, rep.st, c, e, ⟨fun _ _ r => r, Gr.refl⟩, h⟩, ?_⟩
  rintro i m H ⟨acc, B, S, ρ, ok, c, e, s, hw⟩
  cases m with
  | zero => exact hw.elim
  | succ m =>
  simp only [kloop] at hw
  cases q1 : its S with
  | none => simp only [q1] at hw; exact hw.elim
  | some ds =>
    simp only [q1] at hw
    have jj := ij B S ρ H acc ok c e s i ds q1
    cases q2 : ds[i]? with
    | none =>
      simp only [q2] at hw
      exact .inl ⟨jj.2 q2, hStop acc S H B ρ hw ok c e s⟩
    | some d =>
      simp only [q2] at hw
      obtain ⟨go, yl⟩ := jj.1 d q2
      cases q3 : tg.fg (.im d) (wipeG γ vs) with
      | none => simp only [q3] at hw; exact hw.elim
      | some γ1 =>
        simp only [q3] at hw
        refine .inr ⟨go, fun H' => ∃ acc B S ρ, StOk K mg B S ρ H' ∧ KInv K mg Da B S ρ H' acc ∧ b.to B S ρ H' ∧ Stp K mg B0 S0 ρ0 H0 B S ρ H' ∧ (kloop its tg k m (i + 1) (wipeG γ vs) acc S).wp P X, fun H' h' => ⟨m, Nat.lt_succ_self m, h'⟩, fun x H4 hy => ?_⟩
        obtain ⟨gr, rd⟩ := yl x H4 hy
        have ex := Ext.grow ok gr
        have ok4 := ok.grow gr
        have c4 := c.step ok ex
        have e4 := e.trans ex hl ok.len
        have s4 := s.trans (ex.stp ok)
        have rep4 : Rep K mg B (wipeG γ vs) S ρ (wipe σ vs) H4 := rep_wipe (rep.stp s4 ok4) vs
        refine Tg.sim2 tg B (wipeG γ vs) γ1 S ρ (wipe σ vs) H4 x d _ hv rep4 rd (Tg.fg_im q3) fun σ5 rep5 ew => ⟨?_, ?_⟩
        · rw [ew]
          have : ∀ (us : List Nat) (τ : St), (∀ i ∈ us, i ∈ vs) → wipe (wipe τ us) vs = wipe τ vs := fun us τ => by
            induction us with
            | nil => intro _; rfl
            | cons u us ih =>
              intro hu
              show wipe ((wipe τ us).set u none) vs = _
              rw [wipe_set (hu u (by simp)), ih fun i hi => hu i (by simp [hi])]
          exact this vs σ fun _ hi => hi
        · refine hb b hn hl γ1 σ5 B S ρ H4 acc _ _ X rep5 c4 e4 (R.wp_bind hw) fun acc' S' H' B' ρ' p ok' c' e' s' => ?_
          exact ⟨acc', B', S', ρ', ok', c', e', s4.trans s', p⟩
theorem sim_dc {wi : TI} {fi : FI} {tg : Tg} {tt : TT} {ft : FT} {tk tv : TE} {fk fv : F} {vs : List Nat} (hv : ∀ i ∈ tg.slots, i ∈ vs) (hi : SimI K mg W wi fi) (ht : SimT K mg W0 tt ft) (hk0 : Sim K mg W0 tk fk) (hv0 : Sim K mg W0 tv fv) : Sim K mg W (tFrz (tDc wi (tg.tg K) tt tk tv vs)) (fDc fi tg vs (kIf ft (kElt fk fv))) := by
  intro γ σ Q g rep h
  refine hi γ σ _ g rep (R.wp_mono (R.wp_bind h) (fun its S hk J H B ρ rep1 e1 jo => ?_) fun _ _ _ _ z => z)
  intro Da hDa
  cases q0 : its S with
  | none => simp only [q0] at hk; exact hk.elim
  | some ds0 =>
  simp only [q0] at hk
  obtain ⟨c0, ok0, e0⟩ := kinv_start rep1.st hDa
  have rep0 := rep1.step e0 ok0
  refine kloop_go (Da := Da) (J := J) (its := its) (tg := tg) (vs := vs) (bt := fun σ H Nx => tt σ H fun b H3 => if b = true then tk σ H3 (fun y H4 => tv σ H4 fun z H5 => ∃ kvs k, y = kV k ∧ H5 Da = some (.dK kvs) ∧ kvs.length < sizeLine ∧ Nx (upd H5 Da (.dK (putK kvs k z)))) else Nx H3) hv (simK_if ht (simK_elt hk0 hv0)) ⟨B, S, ρ, H⟩ hDa rep1.st.len (P := fun acc S2 => Okv K mg g γ σ Q (.im (.dct false acc)) S2) (X := Exv K mg g σ W)
    (Stop := fun H => Q (.ref Da) H ∨ ∃ d u, V.ref Da = .ref d ∧ H d = some u ∧ Mut (some u) ∧ ∀ od, Q (.ref Da) (upd H d (.frz od u))) (fun acc S' H' B' ρ' p ok' c' e' s' => ?_) (fun B' S' ρ' H' acc ok' c' e' s' i ds hds => jo B' S' ρ' H' i ds ok' ((e0.stp rep1.st).trans s') hds) (ds0.length + 1) [] rep0 c0 e0 (R.wp_bind hk)
  obtain ⟨u, hu, mu, fin⟩ := kinv_end c' ok' e' hDa
  refine .inr ⟨Da, u, rfl, hu, mu, fun od => ?_⟩
  obtain ⟨ok2, e2, rd⟩ := fin od
  exact p (.ref Da) _ _ ρ' (rep1.step e2 ok2) (e1.trans e2 rep.st.len rep1.st.len) rd
end
end DL
namespace DL
open PySem PySem.Spec L2
open PyProof.Rows hiding St
variable [Tbl]
/-- self.f = y, .. in the __init__ of an exception that is being made; fs in the order of the parameters -/
def spX (K : PySem.W.Frag) (fs : List Str) : Sp := fun vs H Q _ => ∃ (e C : Addr) (ys : List V), vs = .ref e :: ys ∧ ys.length = fs.length ∧ OexC K C ∧ (∀ f ∈ fs, PySem.W.findIn K (.ref C) f = some none) ∧ H e = some (exo e C none) ∧
  ∀ (dx : Addr) (H2 : Hp), H dx = none → dx ≠ e → (∀ b, b ≠ e → b ≠ dx → H2 b = H b) → H2 e = some (exo e C (some dx)) → H2 dx = some (exd dx (fs.zip ys).reverse) → Q .non H2
section
variable {P : Program} {w : World} {K : PySem.W.Frag} {mg : Str → Option Value} {base : Heap} {CX : CXT}
theorem spX_len {fs : List Str} (vs : List V) (H : Hp) (Q : VK) (E : XK) (h : spX K fs vs H Q E) : vs.length = fs.length + 1 := by
  obtain ⟨e, C, ys, rfl, hl, _⟩ := h
  simp [hl]
/-- def __init__(self, a): self.f = a -/
theorem fnX1 {x qual s0 a f : Str} {params : Arguments} {body : List Stmt} {scope : Scope} {g : Addr} {fd : FuncData} {p1 p2 p3 p4 : Pos} (F : FunD K x qual params body scope [] [] g fd) (S : FnScope [s0, a] [s0, a] scope)
    (hb : body = [.Assign [.Attribute (.Name s0 p1) f p2] (.Name a p3) p4]) (ds : (s0 == ("__debug__" : Str)) = false := by decide) (dc : (s0 == ("__classdict__" : Str)) = false := by decide) (da : (a == ("__debug__" : Str)) = false := by decide) (dd : (a == ("__classdict__" : Str)) = false := by decide) :
    FnOk P w K mg base CX 1 g fd [s0, a] (spX K [f]) := by
  refine F.ok S (fun vs H Q E h => (by have z := spX_len (fs := [f]) vs H Q E h; exact z)) fun cdv A outer s H vs Q E hr hsp => ?_
  refine ⟨tOst K f (tVar 0) (tVar 1), ?_, ?_⟩
  · rw [hb]
    have v0 : Vis scope s0 := vis_par S List.mem_cons_self
    have v1 : Vis scope a := vis_par S (List.mem_cons_of_mem _ List.mem_cons_self)
    exact pss_one (ps_ost (pe_var (i := 0) rfl v0 ds dc) (pe_var (i := 1) rfl v1 da dd))
  · obtain ⟨e, C, ys, rfl, hl, T, hno, he, q⟩ := hsp
    match ys, hl with
    | [y], _ =>
      refine ⟨y, rfl, .ref e, rfl, e, C, rfl, T, hno f (by simp), .inl ⟨he, fun dx hd hne => ?_⟩⟩
      refine q dx _ hd hne (fun b h1 h2 => ?_) upd_same ?_
      · rw [upd_ne h1, upd_ne h2]
      · rw [upd_ne hne, upd_same]; rfl
/-- def __init__(self, a, b): self.f = a; self.g = b -/
theorem fnX2 {x qual s0 a a2 f f2 : Str} {params : Arguments} {body : List Stmt} {scope : Scope} {g : Addr} {fd : FuncData} {p1 p2 p3 p4 p5 p6 p7 p8 : Pos} (F : FunD K x qual params body scope [] [] g fd) (S : FnScope [s0, a, a2] [s0, a, a2] scope)
    (hb : body = [.Assign [.Attribute (.Name s0 p1) f p2] (.Name a p3) p4, .Assign [.Attribute (.Name s0 p5) f2 p6] (.Name a2 p7) p8]) (ds : (s0 == ("__debug__" : Str)) = false := by decide) (dc : (s0 == ("__classdict__" : Str)) = false := by decide) (da : (a == ("__debug__" : Str)) = false := by decide) (dd : (a == ("__classdict__" : Str)) = false := by decide)
    (da2 : (a2 == ("__debug__" : Str)) = false := by decide) (dd2 : (a2 == ("__classdict__" : Str)) = false := by decide) :
    FnOk P w K mg base CX 1 g fd [s0, a, a2] (spX K [f, f2]) := by
  refine F.ok S (fun vs H Q E h => (by have z := spX_len (fs := [f, f2]) vs H Q E h; exact z)) fun cdv A outer s H vs Q E hr hsp => ?_
  refine ⟨tSeq (tOst K f (tVar 0) (tVar 1)) (tOst K f2 (tVar 0) (tVar 2)), ?_, ?_⟩
  · rw [hb]
    have v0 : Vis scope s0 := vis_par S List.mem_cons_self
    have v1 : Vis scope a := vis_par S (List.mem_cons_of_mem _ List.mem_cons_self)
    have v2 : Vis scope a2 := vis_par S (List.mem_cons_of_mem _ (List.mem_cons_of_mem _ List.mem_cons_self))
    exact pss_cons (ps_ost (pe_var (i := 0) rfl v0 ds dc) (pe_var (i := 1) rfl v1 da dd)) (pss_one (ps_ost (pe_var (i := 0) rfl v0 ds dc) (pe_var (i := 2) rfl v2 da2 dd2)))
  · obtain ⟨e, C, ys, rfl, hl, T, hno, he, q⟩ := hsp
    match ys, hl with
    | [y, z], _ =>
      refine ⟨y, rfl, .ref e, rfl, e, C, rfl, T, hno f (by simp), .inl ⟨he, fun dx hd hne => ?_⟩⟩
      refine ⟨z, rfl, .ref e, rfl, e, C, rfl, T, hno f2 (by simp), .inr ⟨dx, _, upd_same, by rw [upd_ne hne, upd_same], by simp, ?_⟩⟩
      refine q dx _ hd hne (fun b h1 h2 => ?_) ?_ ?_
      · rw [upd_ne h2, upd_ne h1, upd_ne h2]
      · rw [upd_ne (Ne.symm hne), upd_same]
      · rw [upd_same]; rfl
end
def fRaise (c : Str) (fs : List Str) (fa : FA) : FS := fun γ S => (fa γ S).bind fun xs S1 => match ims xs with
  | none => .bad
  | some ds => if ds.length = fs.length then .exc c (fs.zip ds).reverse γ S1 else .bad
def fRaise0 (c : Str) : FS := fun γ S => .exc c [] γ S
abbrev tRaise (W : WX) (t : St → Hp → XK → Prop) : TS := fun _ σ H => t σ H fun cls d H' => W cls d σ H'
section
variable {K : PySem.W.Frag} {mg : Str → Option Value} {W : WX}
theorem RDf.app {B : Addr → Prop} {H : Hp} : ∀ {vs ws : List (Str × V)} {ds es : List (Str × D)}, RDf K mg B H vs ds → RDf K mg B H ws es → RDf K mg B H (vs ++ ws) (ds ++ es)
  | _, _, _, _, .nil, h => h
  | _, _, _, _, .cons r t, h => .cons r (RDf.app t h)
theorem RDf.rev {B : Addr → Prop} {H : Hp} : ∀ {vs : List (Str × V)} {ds : List (Str × D)}, RDf K mg B H vs ds → RDf K mg B H vs.reverse ds.reverse
  | _, _, .nil => .nil
  | _, _, .cons r t => by
    rw [List.reverse_cons, List.reverse_cons]
    exact RDf.app (RDf.rev t) (.cons r .nil)
theorem rdf_zip {B : Addr → Prop} {H : Hp} : ∀ (fs : List Str) {vs : List V} {ds : List D}, RDs K mg B H vs ds → RDf K mg B H (fs.zip vs) (fs.zip ds)
  | [], _, _, _ => by rw [List.zip_nil_left, List.zip_nil_left]; exact .nil
  | _ :: _, _, _, .nil => by rw [List.zip_nil_right, List.zip_nil_right]; exact .nil
  | f :: fs, _, _, .cons r t => .cons r (rdf_zip fs t)
theorem simS_raise {c : Str} {C : Addr} {fs : List Str} {ta : TA} {fa : FA} (hm : mg c = some (.ref C)) (T : OexC K C) (hno : ∀ f ∈ fs, PySem.W.findIn K (.ref C) f = some none) (h0 : fs ≠ []) (h8 : fs.length ≤ 8) (ha : SimA K mg W ta fa) :
    SimS K mg W (tRaise W (tMkO C (spX K fs) [] ta)) (fRaise c fs fa) := by
  intro γ σ D g rep h
  refine ha.go (X := Exw K mg g W) rep (fun c fs γ' S z => z.v) h fun xs S1 vs H B ρ rep1 e1 rv hk => ?_
  cases q : ims xs with
  | none => simp only [q] at hk; exact hk.elim
  | some ds =>
  simp only [q] at hk
  by_cases hl : ds.length = fs.length
  · rw [if_pos hl] at hk
    have rd := ims_rd rv q
    have hv : vs.length = fs.length := rd.length.trans hl
    refine ⟨by omega, fun a hna => ⟨a, C, vs, by rw [List.append_nil], hv, T, hno, upd_same, fun dx H2 hdx hne hb he hd => ⟨rfl, dx, _, he, hd, ?_, ?_⟩⟩⟩
    · rw [upd_ne hne] at hdx; exact hdx
    · rw [upd_ne hne] at hdx
      have eH : upd (del H2 a) dx (.xd (fs.zip vs).reverse) = upd H dx (.xd (fs.zip vs).reverse) := by
        funext b
        by_cases h1 : b = dx
        · rw [h1, upd_same, upd_same]
        · rw [upd_ne h1, upd_ne h1]
          by_cases h2 : b = a
          · rw [h2, del_same, hna]
          · rw [del_ne h2, hb b h2 h1, upd_ne h2]
      rw [eH]
      have gr : Grow H (upd H dx (.xd (fs.zip vs).reverse)) := Grow.upd hdx
      refine hk (.ref C) (some dx) σ _ B ρ (rep1.step (Ext.grow rep1.st gr) (rep1.st.grow gr)) (e1.trans (Ext.grow rep1.st gr) rep.st.len rep1.st.len) ⟨C, hm, rfl, ?_⟩
      have rf : RDf K mg B (upd H dx (.xd (fs.zip vs).reverse)) (fs.zip vs).reverse (fs.zip ds).reverse := (rdf_zip fs (rd.mono gr.gr)).rev
      cases q2 : (fs.zip ds).reverse with
      | nil =>
        have z : (fs.zip ds).reverse.length = 0 := by rw [q2]; rfl
        rw [List.length_reverse, List.length_zip, hl, Nat.min_self] at z
        exact absurd (List.eq_nil_of_length_eq_zero z) h0
      | cons p r => rw [q2] at rf; exact ⟨dx, _, rfl, upd_same, rf⟩
  · rw [if_neg hl] at hk; exact hk.elim
theorem simS_raise0 {c : Str} {C : Addr} (hm : mg c = some (.ref C)) : SimS K mg W (tRaise W (fun _ H Q => Q (.ref C) none H)) (fRaise0 c) :=
  fun γ σ D g rep h => h (.ref C) none σ g.H g.B g.ρ rep (Ext.refl rep.st) ⟨C, hm, rfl, rfl⟩
end
end DL
namespace DL
open PySem PySem.Spec L2
open PyProof.Rows hiding St
variable [Tbl]
section
variable {K : PySem.W.Frag} {mg : Str → Option Value} {W : WX}
def fldPut (f : Str) (cs : Str → Bool) (d : D) : Cell → Option Cell
  | .ins c fs => if cs c = true ∧ fs.length < 1000 then some (.ins c (putD f d fs)) else none
  | _ => none
def fFldS (f : Str) (cs : Str → Bool) (fo fv : F) : FS := fun γ S => (fv γ S).bind fun y S1 => (fo γ S1).bind fun x S2 => match y, x with
  | .im d, .cl i => (match (S2[i]?).join.bind (fldPut f cs d) with
    | some c => .ok (.nx γ) (S2.set i (some c))
    | none => .bad)
  | _, _ => .bad
theorem join_at {α : Type} {S : List (Option α)} {i : Nat} {c : α} (h : (S[i]?).join = some c) : S[i]? = some (some c) := by
  cases q : S[i]? with
  | none => rw [q] at h; cases h
  | some o =>
    cases o with
    | none => rw [q] at h; cases h
    | some c' => rw [q] at h; exact congrArg (fun x => some x) h
theorem rdf_len {B : Addr → Prop} {H : Hp} : ∀ {vs : List (Str × V)} {ds : List (Str × D)}, RDf K mg B H vs ds → vs.length = ds.length := RDf.length
theorem simS_fld {f : Str} {cs : Str → Bool} {ta tv : TE} {fo fv : F} (hk : FldOk K mg f cs) (ho : Sim K mg W ta fo) (hv : Sim K mg W tv fv) : SimS K mg W (sFld K ta tv f) (fFldS f cs fo fv) := by
  intro γ σ D g rep h
  refine hv.goS rep (fun _ _ _ _ z => z) h fun y S1 u H1 B1 ρ1 rep1 e1 rv1 h1 => ?_
  refine ho.goS (g := ⟨B1, S1, ρ1, H1⟩) rep1 (fun _ _ _ _ z => z.on rep.st.len rep1.st.len e1) h1 fun x S2 v H2 B2 ρ2 rep2 e2 rv2 h2 => ?_
  have e12 := e1.trans e2 rep.st.len rep1.st.len
  cases y with
  | cl i => exact h2.elim
  | im d =>
    cases x with
    | im d' => exact h2.elim
    | cl i =>
      cases q : (S2[i]?).join with
      | none => simp only [q, Option.bind_none] at h2; exact h2.elim
      | some c =>
        have q1 := join_at q
        cases c with
        | lst ds => simp only [q, Option.bind_some, fldPut] at h2; exact h2.elim
        | dct t kvs => simp only [q, Option.bind_some, fldPut] at h2; exact h2.elim
        | ins c fs =>
          simp only [q, Option.bind_some, fldPut] at h2
          split at h2
          rotate_left
          · exact h2.elim
          rename_i c' hc'
          split at hc'
          rotate_left
          · cases hc'
          rename_i hc
          cases hc'
          obtain ⟨a, r, hr, rfl⟩ := rv2.2 _ q1
          obtain ⟨a', e'⟩ := (rep2.st.cell i _ _ hr q1).one
          cases e'
          obtain ⟨C, dx, fvs, hm, hH, rf⟩ := rep2.st.cell i _ _ hr q1
          obtain ⟨k1, k2⟩ := hk c C hc.1 hm
          have ba : B2 a := rep2.st.ban a (.inl ⟨i, [a], _, hr, q1, by simp⟩)
          have rd : RD K mg B2 H2 u d := RV.mono e2 rep1.st rv1
          refine ⟨a, C, dx, fvs, rfl, hH, k1, k2, by rw [rf.length]; exact hc.2, ?_⟩
          obtain ⟨ok', ex'⟩ := write_cell (o := .ins C dx (putF f u fvs)) (c' := .ins c (putD f d fs)) rep2.st hr q1 ⟨C, dx, _, hm, upd_same, (RDf.put rd rf).mono (rds_upd ba)⟩
          exact h2 σ _ B2 ρ2 (rep2.step ex' ok') (e12.trans ex' rep.st.len rep2.st.len)
def fSubS (fv fo fi : F) : FS := fun γ S => (fv γ S).bind fun y S1 => (fo γ S1).bind fun x S2 => (fi γ S2).bind fun z S3 => match y, x, z with
  | .im d, .cl i, .im (.int k) => (match (S3[i]?).join with
    | some (.lst ds) => (match ixN ds.length k with
      | some j => .ok (.nx γ) (S3.set i (some (.lst (ds.set j d))))
      | none => .bad)
    | _ => .bad)
  | _, _, _ => .bad
theorem simS_sub {tv to ti : TE} {fv fo fi : F} (hv : Sim K mg W tv fv) (ho : Sim K mg W to fo) (hi : Sim K mg W ti fi) : SimS K mg W (tAsg tv (gSub to ti rSetL)) (fSubS fv fo fi) := by
  intro γ σ D g rep h
  refine hv.goS rep (fun _ _ _ _ z => z) h fun y S1 u H1 B1 ρ1 rep1 e1 rv1 h1 => ?_
  refine ho.goS (g := ⟨B1, S1, ρ1, H1⟩) rep1 (fun _ _ _ _ z => z.on rep.st.len rep1.st.len e1) h1 fun x S2 v H2 B2 ρ2 rep2 e2 rv2 h2 => ?_
  have e12 := e1.trans e2 rep.st.len rep1.st.len
  refine hi.goS (g := ⟨B2, S2, ρ2, H2⟩) rep2 (fun _ _ _ _ z => z.on rep.st.len rep2.st.len e12) h2 fun z S3 w H3 B3 ρ3 rep3 e3 rv3 h3 => ?_
  have e13 := e12.trans e3 rep.st.len rep2.st.len
  have rv1' := RV.mono e3 rep2.st (RV.mono e2 rep1.st rv1)
  have rv2' := RV.mono e3 rep2.st rv2
  cases y with
  | cl i => exact h3.elim
  | im d =>
    cases x with
    | im d' => exact h3.elim
    | cl i =>
      cases z with
      | cl j => exact h3.elim
      | im d' =>
        cases d' <;> simp only at h3 <;> first | exact h3.elim | skip
        rename_i k
        cases q : (S3[i]?).join with
        | none => simp only [q] at h3; exact h3.elim
        | some c =>
          have q1 := join_at q
          cases c <;> simp only [q] at h3 <;> first | exact h3.elim | skip
          rename_i ds
          cases q2 : ixN ds.length k with
          | none => simp only [q2] at h3; exact h3.elim
          | some j =>
            simp only [q2] at h3
            obtain ⟨a, vs, rfl, k1, k2, k3⟩ := cell_lst rep3.st rv2' q1
            have rd : RD K mg B3 H3 u d := rv1'
            obtain ⟨ok', ex'⟩ := write_lst (vs := vs.set j u) rep3.st k1 q1 (k3.set j rd)
            have ew : w = .int k := by
              have rw3 : RD K mg B3 H3 w (.int k) := rv3
              exact RT.int_inv (RD.rt rw3)
            refine ⟨a, vs, k, j, rfl, ew, k2, by rw [k3.length]; exact q2, ?_⟩
            exact h3 σ _ B3 ρ3 (rep3.step ex' ok') (e13.trans ex' rep.st.len rep3.st.len)
def strItems (x : Str) : List D := x.cps.toList.map fun c => .str ⟨#[c]⟩
def strI (f : F) : FI := fun γ S => (f γ S).bind fun x S1 => match x with
  | .im (.str x) => .ok (fun _ => some (strItems x)) S1
  | _ => .bad
theorem sok_one {x : Str} (h : SOk x) {i : Nat} {c : Nat} (hi : x.cps[i]? = some c) : SOk ⟨#[c]⟩ := by
  have := strOk_cut h (some (i : Int)) (some ((i : Int) + 1))
  refine ⟨?_, ?_⟩
  · have h1 := h.1
    unfold PyData.strOk at h1 ⊢
    simp only [Array.all_eq_true] at h1 ⊢
    intro j hj
    obtain ⟨hlt, he⟩ := Array.getElem?_eq_some_iff.mp hi
    have := h1 i hlt
    simp at hj
    subst hj
    simpa [he] using this
  · show 1 ≤ sizeLine
    decide
theorem jok_str {g : At} {x : Str} (hx : SOk x) : JOk K mg g (Its x) (fun _ => some (strItems x)) := by
  intro B S ρ H i ds ok st hds
  cases hds
  refine ⟨fun d hd => ?_, fun hn => ?_⟩
  · unfold strItems at hd
    rw [List.getElem?_map] at hd
    cases q : x.cps.toList[i]? with
    | none => rw [q] at hd; cases hd
    | some c =>
      rw [q] at hd
      have hd : D.str ⟨#[c]⟩ = d := by simpa using hd
      subst hd
      have hc : x.cps[i]? = some c := by simpa using q
      refine ⟨(Array.getElem?_eq_some_iff.mp hc).1, fun y H' ⟨e1, c', e2, e3⟩ => ?_⟩
      subst e1 e3
      rw [hc] at e2
      cases e2
      exact ⟨Grow.refl _, .str _ (sok_one hx hc)⟩
  · unfold strItems at hn
    rw [List.getElem?_map] at hn
    have := List.getElem?_eq_none_iff.mp (Option.map_eq_none_iff.mp hn)
    exact (by simpa using this : x.cps.size ≤ i)
theorem simI_str {t : TE} {f : F} (h1 : Sim K mg W t f) : SimI K mg W (iStr t) (strI f) := by
  intro γ σ Q g rep h
  refine h1.go (X := Exv K mg g σ W) rep (fun _ _ _ _ z => z) h fun x S v H B ρ rep1 e1 rv hk => ?_
  cases x with
  | cl i => exact hk.elim
  | im d =>
    cases d <;> simp only at hk <;> first | exact hk.elim | skip
    rename_i z
    have rd : RD K mg B H v (.str z) := rv
    obtain ⟨rfl, hz⟩ := RT.str_inv (RD.rt rd)
    exact ⟨z, rfl, hk (Its z) H B ρ rep1 e1 (jok_str hz)⟩
def rngI1 (fa : FA) : FI := fun γ S => (fa γ S).bind fun xs S1 => match xs with
  | [.im (.int j)] => if -(2 ^ 62) ≤ j ∧ j < 2 ^ 62 then .ok (fun _ => some (rangeD 0 j.toNat)) S1 else .bad
  | _ => .bad
theorem simI_rng1 {t : TA} {f : FA} (h1 : SimA K mg W t f) : SimI K mg W (iRng1 t) (rngI1 f) := by
  intro γ σ Q g rep h
  refine h1.go (X := Exv K mg g σ W) rep (fun _ _ _ _ z => z) h fun xs S vs H B ρ rep1 e1 rv hk => ?_
  split at hk
  · rename_i j
    split at hk
    · rename_i hj
      cases rv with
      | cons r t =>
        cases t
        have rd : RD K mg B H _ (.int j) := r
        have := RT.int_inv (RD.rt rd)
        subst this
        exact ⟨j, rfl, hj.1, hj.2, hk _ H B ρ rep1 e1 jok_range⟩
    · exact hk.elim
  · exact hk.elim
def rngI2 (fa : FA) : FI := fun γ S => (fa γ S).bind fun xs S1 => match xs with
  | [.im (.int i), .im (.int j)] => if -(2 ^ 62) ≤ i ∧ i < 2 ^ 62 ∧ -(2 ^ 62) ≤ j ∧ j < 2 ^ 62 then .ok (fun _ => some (rangeD i (j - i).toNat)) S1 else .bad
  | _ => .bad
theorem simI_rng2 {t : TA} {f : FA} (h1 : SimA K mg W t f) : SimI K mg W (iRng2 t) (rngI2 f) := by
  intro γ σ Q g rep h
  refine h1.go (X := Exv K mg g σ W) rep (fun _ _ _ _ z => z) h fun xs S vs H B ρ rep1 e1 rv hk => ?_
  split at hk
  · rename_i i j
    split at hk
    · rename_i hj
      cases rv with
      | cons r t =>
        cases t with
        | cons r2 t2 =>
        cases t2
        have rd : RD K mg B H _ (.int i) := r
        have := RT.int_inv (RD.rt rd)
        subst this
        have rd2 : RD K mg B H _ (.int j) := r2
        have := RT.int_inv (RD.rt rd2)
        subst this
        exact ⟨i, j, rfl, hj, hk _ H B ρ rep1 e1 jok_range⟩
    · exact hk.elim
  · exact hk.elim
/-- anything that can be walked -/
inductive WK where
  | lst | tup | str | key | own
def wkOf (x : Vl) (S : Sto) : WK := match x.view S with
  | some (.tup _) => .tup
  | some (.str _) => .str
  | some (.dct _ _) => .key
  | some (.ins _ _) => .own
  | _ => .lst
def anyI (tab : ITab) (f : F) : FI := fun γ S => (f γ S).bind fun x S1 => match wkOf x S1 with
  | .lst => lstI f γ S
  | .tup => tupI f γ S
  | .str => strI f γ S
  | .key => keysI' f γ S
  | .own => ownI tab f γ S
def iAny (K : PySem.W.Frag) (mg : Str → Option Value) (tab : ITab) (E : XK) (t : TE) : TI := fun σ H R => iList K t σ H R ∨ iTup K t σ H R ∨ iStr t σ H R ∨ iKeys t σ H R ∨ iOwn K mg tab E t σ H R
theorem simI_any {tab : ITab} {E : XK} {t : TE} {f : F} (h1 : Sim K mg (We E) t f) : SimI K mg (We E) (iAny K mg tab E t) (anyI tab f) := by
  intro γ σ Q g rep h
  unfold anyI at h
  cases q : f γ g.S with
  | bad => rw [q] at h; exact h.elim
  | exc c fs γ' S' =>
    refine .inl (simI_list h1 γ σ Q g rep ?_)
    unfold lstI
    rw [q] at h ⊢
    exact h
  | ok x S1 =>
    rw [q, R.bind_ok] at h
    cases k : wkOf x S1 with
    | lst => simp only [k] at h; exact .inl (simI_list h1 γ σ Q g rep h)
    | tup => simp only [k] at h; exact .inr (.inl (simI_tup h1 γ σ Q g rep h))
    | str => simp only [k] at h; exact .inr (.inr (.inl (simI_str h1 γ σ Q g rep h)))
    | key => simp only [k] at h; exact .inr (.inr (.inr (.inl (simI_keys h1 γ σ Q g rep h))))
    | own => simp only [k] at h; exact .inr (.inr (.inr (.inr (simI_own h1 γ σ Q g rep h))))
def fPar (is : List Nat) (fa : FA) : FS := fun γ S => (fa γ S).bind fun xs S1 => match is, xs with
  | [i, j], [x, y] => if i < γ.length ∧ j < γ.length then .ok (.nx ((γ.set i (some x)).set j (some y))) S1 else .bad
  | [i, j, k], [x, y, z] => if i < γ.length ∧ j < γ.length ∧ k < γ.length then .ok (.nx (((γ.set i (some x)).set j (some y)).set k (some z))) S1 else .bad
  | _, _ => .bad
theorem SimA.goS {t : TA} {f : FA} {g : At} {γ : Gam} {σ : St} {Q1 : List V → Hp → Prop} (hs : SimA K mg W t f) (rep : Rep K mg g.B γ g.S g.ρ σ g.H) {g0 : At} (hX : ∀ c fs γ' S, Exw K mg g0 W c fs γ' S → Exw K mg g W c fs γ' S) {β : Type} {k : List Vl → Sto → R β} {P : β → Sto → Prop}
    (h : ((f γ g.S).bind k).wp P (Exw K mg g0 W))
    (nx : ∀ xs S vs H B ρ, Rep K mg B γ S ρ σ H → g.to B S ρ H → Paired (fun v x => RV K mg B S ρ H v x) vs xs → (k xs S).wp P (Exw K mg g0 W) → Q1 vs H) : t σ g.H Q1 :=
  hs.go (X := Exw K mg g0 W) rep (fun c fs γ' S z => (hX c fs γ' S z).v) h nx
theorem simS_par {i j : Nat} {t : TA} {f : FA} (h1 : SimA K mg W t f) : SimS K mg W (tPar i j t) (fPar [i, j] f) := by
  intro γ σ D g rep h
  refine h1.goS rep (fun _ _ _ _ z => z) h fun xs S vs H B ρ rep1 e1 rv hk => ?_
  match xs, rv, hk with
  | [x, y], .cons r (.cons r2 .nil), hk =>
    simp only at hk
    split at hk
    · rename_i hl
      exact ⟨_, _, rfl, hk _ H B ρ (rep_set (rep_set rep1 r) r2) e1⟩
    · exact hk.elim
  | [], _, hk => exact hk.elim
  | [_], _, hk => exact hk.elim
  | _ :: _ :: _ :: _, _, hk => exact hk.elim
theorem simS_par3 {i j k : Nat} {t : TA} {f : FA} (h1 : SimA K mg W t f) : SimS K mg W (tPar3 i j k t) (fPar [i, j, k] f) := by
  intro γ σ D g rep h
  refine h1.goS rep (fun _ _ _ _ z => z) h fun xs S vs H B ρ rep1 e1 rv hk => ?_
  match xs, rv, hk with
  | [x, y, z], .cons r (.cons r2 (.cons r3 .nil)), hk =>
    simp only at hk
    split at hk
    · rename_i hl
      exact ⟨_, _, _, rfl, hk _ H B ρ (rep_set (rep_set (rep_set rep1 r) r2) r3) e1⟩
    · exact hk.elim
  | [], _, hk => exact hk.elim
  | [_], _, hk => exact hk.elim
  | [_, _], _, hk => exact hk.elim
  | _ :: _ :: _ :: _ :: _, _, hk => exact hk.elim
end
end DL
namespace DL
open PySem PySem.Spec L2
open PyProof.Rows hiding St
variable [Tbl]
def tPat (r : R2) : List Str → V → TT
  | [], _ => fun _ H Q => Q false H
  | p :: ps, v => fun σ H Q => r v (.str p) H fun z H1 => ∃ b, z = .bl b ∧ if b = true then Q true H1 else tPat r ps v σ H1 Q
def tMat (te : TE) (tm : V → TS) : TS := fun D σ H => te σ H fun v H1 => tm v D σ H1
def tMNil : V → TS := fun _ D σ H => D.nx σ H
def tMCons (r : R2) (ps : List Str) (tb : TS) (tm : V → TS) : V → TS := fun v D σ H => tPat r ps v σ H fun c H1 => if c = true then tb D σ H1 else tm v D σ H1
def fPat (op : F2X) : List Str → Vl → FT
  | [], _ => fun _ S => .ok false S
  | p :: ps, x => fun γ S => (op x (.im (.str p)) γ S).bind fun y S1 => match y.bl? with
    | some b => if b = true then .ok true S1 else fPat op ps x γ S1
    | none => .bad
def fMat (fe : F) (fm : Vl → FS) : FS := fun γ S => (fe γ S).bind fun x S1 => fm x γ S1
def fMNil : Vl → FS := fun _ => fSkip
def fMCons (op : F2X) (ps : List Str) (fb : FS) (fm : Vl → FS) : Vl → FS := fun x γ S => (fPat op ps x γ S).bind fun c S1 => if c = true then fb γ S1 else fm x γ S1
section
variable {K : PySem.W.Frag} {mg : Str → Option Value} {E : XK}
def SimM (K : PySem.W.Frag) (mg : Str → Option Value) (W : WX) (tm : V → TS) (fm : Vl → FS) : Prop := ∀ (γ : Gam) (σ : St) (D : Ends) (g : At) (v : V) (x : Vl), Rep K mg g.B γ g.S g.ρ σ g.H → RV K mg g.B g.S g.ρ g.H v x → (fm x γ g.S).wp (Okf K mg g D) (Exw K mg g W) → tm v D σ g.H
theorem pat_sim {r : R2} {op : F2X} (hr : P2X K mg E r op) : ∀ (ps : List Str), (∀ p ∈ ps, SOk p) → ∀ (g : At) (γ : Gam) (σ : St) (Q : Bool → Hp → Prop) (B : Addr → Prop) (S : Sto) (ρ : List (List Addr)) (H : Hp) (v : V) (x : Vl), g.ρ.length = g.S.length → Rep K mg B γ S ρ σ H → g.to B S ρ H → RV K mg B S ρ H v x →
    (fPat op ps x γ S).wp (Okb K mg g γ σ Q) (Exv K mg g σ (We E)) → tPat r ps v σ H Q
  | [], _, g, γ, σ, Q, B, S, ρ, H, v, x, hl, rep, e, rv, h => h H B ρ rep e
  | p :: ps, hs, g, γ, σ, Q, B, S, ρ, H, v, x, hl, rep, e, rv, h => by
    refine hr ⟨B, S, ρ, H⟩ γ σ _ B S ρ H v (.str p) x (.im (.str p)) rep.st.len rep (Ext.refl rep.st) rv (.str p (hs p List.mem_cons_self)) (R.wp_mono (R.wp_bind h) (fun y S1 hk v' H1 B1 ρ1 rep1 e1 rv1 => ?_) fun _ _ _ _ z => z.on hl rep.st.len e)
    cases y with
    | cl i => exact hk.elim
    | im d =>
      cases d <;> try exact hk.elim
      rename_i b
      cases rv1
      refine ⟨b, rfl, ?_⟩
      cases b with
      | true => exact iteT (hk H1 B1 ρ1 rep1 (e.trans e1 hl rep.st.len))
      | false => exact iteF (pat_sim hr ps (fun q hq => hs q (List.mem_cons_of_mem _ hq)) g γ σ Q B1 S1 ρ1 H1 v x hl rep1 (e.trans e1 hl rep.st.len) (rv.mono e1 rep.st) hk)
theorem simS_mat {te : TE} {fe : F} {tm : V → TS} {fm : Vl → FS} (h1 : Sim K mg (We E) te fe) (h2 : SimM K mg (We E) tm fm) : SimS K mg (We E) (tMat te tm) (fMat fe fm) := by
  intro γ σ D g rep h
  refine h1.goS rep (fun _ _ _ _ z => z) h fun x S v H B ρ rep1 e1 rv hk => ?_
  exact h2 γ σ D ⟨B, S, ρ, H⟩ v x rep1 rv (R.wp_mono hk (fun _ _ z => z.on rep.st.len rep1.st.len e1) fun _ _ _ _ z => z.on rep.st.len rep1.st.len e1)
theorem simM_nil : SimM K mg (We E) tMNil fMNil := fun γ σ D g v x rep rv h => h σ g.H g.B g.ρ rep (Ext.refl rep.st)
theorem simM_cons {r : R2} {op : F2X} (hr : P2X K mg E r op) {ps : List Str} (hs : ∀ p ∈ ps, SOk p) {tb : TS} {fb : FS} (h1 : SimS K mg (We E) tb fb) {tm : V → TS} {fm : Vl → FS} (h2 : SimM K mg (We E) tm fm) : SimM K mg (We E) (tMCons r ps tb tm) (fMCons op ps fb fm) := by
  intro γ σ D g v x rep rv h
  refine pat_sim hr ps hs g γ σ _ g.B g.S g.ρ g.H v x rep.st.len rep (Ext.refl rep.st) rv (R.wp_mono (R.wp_bind h) (fun c S1 hk H1 B1 ρ1 rep1 e1 => ?_) fun c fs γ' S z => z.v)
  cases c with
  | true => exact iteT (h1 γ σ D ⟨B1, S1, ρ1, H1⟩ rep1 (R.wp_mono hk (fun _ _ z => z.on rep.st.len rep1.st.len e1) fun _ _ _ _ z => z.on rep.st.len rep1.st.len e1))
  | false => exact iteF (h2 γ σ D ⟨B1, S1, ρ1, H1⟩ v x rep1 (rv.mono e1 rep.st) (R.wp_mono hk (fun _ _ z => z.on rep.st.len rep1.st.len e1) fun _ _ _ _ z => z.on rep.st.len rep1.st.len e1))
end
section
variable {X : Cx}
/-- patterns that are texts -/
def isPat : List Str → Pattern → Bool
  | [p], .MatchValue (.Constant (.str q) _ _) _ => decide (p = q)
  | _, _ => false
inductive PatV : Str → Pattern → Prop
  | mk {p : Str} {k pos pos'} : PatV p (.MatchValue (.Constant (.str p) k pos) pos')
inductive Pats : List Str → List Pattern → Prop
  | nil : Pats [] []
  | cons {p : Str} {q : Pattern} {ps : List Str} {qs : List Pattern} : PatV p q → Pats ps qs → Pats (p :: ps) (q :: qs)
inductive PatO : List Str → Pattern → Prop
  | one {p : Str} {q : Pattern} : PatV p q → PatO [p] q
  | or {p : Str} {ps : List Str} {qs : List Pattern} {pos} : Pats (p :: ps) qs → PatO (p :: ps) (.MatchOr qs pos)
theorem patV_go {r : R2} (hr : OpR X (compareOp .Eq) r) {p : Str} {q : Pattern} (hp : PatV p q) {pins : List (Addr × Obj)} {s : Shared} {σ : St} {H : Hp} {v : V} {u : Value} {Q : Bool → Hp → Prop} (I : Inv X pins σ H s) (rv : RelV v u) (h : r v (.str p) H fun z H1 => ∃ b, z = .bl b ∧ Q b H1) :
    wpAny (model X.prog X.w) X.A (matchPattern q X.env u) (fun o s' => ∃ b H', Inv X pins σ H' s' ∧ Q b H' ∧ o = if b = true then some [] else none) X.xe s := by
  cases hp
  refine wpAny_matchPattern_Value (thn (pe_str.run pins s σ H (fun z H1 => z = .str p ∧ H1 = H) I ⟨rfl, rfl⟩) fun y s1 ⟨z, H1, I1, ry, e1, e2⟩ => ?_)
  subst e1 e2
  refine thn (hr pins s1 σ H1 v (.str p) u y _ I1 rv ry h) fun c s2 ⟨z, H2, I2, r2, b, e, q⟩ => ?_
  subst e
  cases r2
  refine wpAny_truthy_bool ?_
  cases b with
  | true => exact ⟨true, H2, I2, q, rfl⟩
  | false => exact ⟨false, H2, I2, q, rfl⟩
theorem pats_go {r : R2} (hr : OpR X (compareOp .Eq) r) : ∀ {ps : List Str} {qs : List Pattern}, Pats ps qs → ∀ {pins : List (Addr × Obj)} {s : Shared} {σ : St} {H : Hp} {v : V} {u : Value} {Q : Bool → Hp → Prop}, Inv X pins σ H s → RelV v u → tPat r ps v σ H Q →
    wpAny (model X.prog X.w) X.A (matchFirst qs X.env u) (fun o s' => ∃ b H', Inv X pins σ H' s' ∧ Q b H' ∧ o = if b = true then some [] else none) X.xe s
  | [], [], _, pins, s, σ, H, v, u, Q, I, rv, h => wpAny_matchFirst_nil ⟨false, H, I, h, rfl⟩
  | p :: ps, q :: qs, .cons h1 h2, pins, s, σ, H, v, u, Q, I, rv, h => by
    refine wpAny_matchFirst_cons (thn (patV_go hr h1 (Q := fun b H1 => if b = true then Q true H1 else tPat r ps v σ H1 Q) I rv h) fun o s1 ⟨b, H1, I1, q1, e⟩ => ?_)
    subst e
    cases b with
    | true => exact ⟨true, H1, I1, q1, rfl⟩
    | false => exact pats_go hr h2 I1 rv q1
theorem patV_names {p : Str} {q : Pattern} (h : PatV p q) : q.names = [] := by cases h; rfl
theorem patO_go {r : R2} (hr : OpR X (compareOp .Eq) r) {ps : List Str} {q : Pattern} (hp : PatO ps q) {pins : List (Addr × Obj)} {s : Shared} {σ : St} {H : Hp} {v : V} {u : Value} {Q : Bool → Hp → Prop} (I : Inv X pins σ H s) (rv : RelV v u) (h : tPat r ps v σ H Q) :
    wpAny (model X.prog X.w) X.A (matchPattern q X.env u) (fun o s' => ∃ b H', Inv X pins σ H' s' ∧ Q b H' ∧ o = if b = true then some [] else none) X.xe s := by
  cases hp with
  | one h1 =>
    rename_i p
    refine thn (patV_go hr h1 (Q := fun b H1 => if b = true then Q true H1 else tPat r [] v σ H1 Q) I rv h) fun o s1 ⟨b, H1, I1, q1, e⟩ => ?_
    cases b with
    | true => exact ⟨true, H1, I1, q1, e⟩
    | false => exact ⟨false, H1, I1, q1, e⟩
  | or h1 =>
    refine wpAny_matchPattern_Or (thn (pats_go hr h1 I rv h) fun o s1 ⟨b, H1, I1, q1, e⟩ => ?_)
    subst e
    cases h1 with
    | cons hv hr' =>
      cases b with
      | true =>
        refine ⟨true, H1, I1, q1, ?_⟩
        show some ((namesOfAll [_]).filterMap _) = some []
        rw [show ∀ q : Pattern, namesOfAll [q] = q.names ++ [] from fun _ => rfl, patV_names hv]; rfl
      | false => exact ⟨false, H1, I1, q1, rfl⟩
def PCs (X : Cx) (cs : List MatchCase) (tm : V → TS) : Prop := ∀ (pins : List (Addr × Obj)) (s : Shared) (σ : St) (H : Hp) (v : V) (u : Value) (D : Ends) (first : Bool), Inv X pins σ H s → RelV v u → tm v D σ H → wpAny (model X.prog X.w) X.A (matchCases cs X.env u first) (SP X pins D) X.xe s
theorem pcs_nil : PCs X [] tMNil := fun pins s σ H v u D first I rv h => wpAny_matchCases_nil ⟨σ, H, I, h⟩
theorem pcs_cons {r : R2} (hr : OpR X (compareOp .Eq) r) {ps : List Str} {q : Pattern} (hp : PatO ps q) {b : List Stmt} {tb : TS} (hb : PSs X b tb) {rest : List MatchCase} {tm : V → TS} (ht : PCs X rest tm) : PCs X (⟨q, none, b⟩ :: rest) (tMCons r ps tb tm) := by
  intro pins s σ H v u D first I rv h
  refine wpAny_matchCases_cons (thn (patO_go hr hp I rv h) fun o s1 ⟨c, H1, I1, q1, e⟩ => ?_)
  subst e
  cases c with
  | true => exact wpAny_assignInOrder_none (hb.run pins s1 σ H1 D I1 q1)
  | false => exact ht pins s1 σ H1 v u D false I1 rv q1
theorem ps_mat {e : Expr} {te : TE} (he : PE X e te) {cs : List MatchCase} {tm : V → TS} (hc : PCs X cs tm) {pos} : PS X (.Match e cs pos) (tMat te tm) := by
  refine ⟨fun pins s σ H D I h => ?_⟩
  exact wpAny_Match (thn (he.run pins s σ H _ I h) fun u s1 ⟨v, H1, I1, rv, q⟩ => hc pins s1 σ H1 v u D true I1 rv q)
end
end DL
namespace PySem
open AutoSeq1 (wpAny_loadPart')
theorem enuT_new (l : Addr) (items : Array Value) (n : Nat) (dct : Option Addr) (sl : Array (Option Value)) :
    Meets (Builtin.«enumerate.__new__» ⟨[.type "enumerate", .ref l], []⟩) (fun _ R s => s.heap.get? l = some { cls := .type "tuple", dict := dct, data := .seq items n, slots := sl } ∧ R (.ok (.ret (.ref (s.heap.push { cls := .type "tuple_iterator", data := .fields #[.ref l, .int 0 0] }).objs.size)))
        { s with heap := (s.heap.push { cls := .type "tuple_iterator", data := .fields #[.ref l, .int 0 0] }).push { cls := .type "enumerate", data := .fields #[.none, .bool false, .ref s.heap.objs.size, rawInt 0, .none, .none] } }) :=
  .of_wp fun prog w A R s h => by
    obtain ⟨hp, g, d, tk, os⟩ := s; obtain ⟨hl, h⟩ := h; have hsub := sub_enumerate
    have hL : Heap.IsTuple (Shared.heap ⟨hp, g, d, tk, os⟩) l items := ⟨_, hl, rfl, n, rfl⟩
    wp_walk using wpAny_loadPart' hl
    refine wpAny_stack_any fun st => wpAny_pure ?_
    split
    · rename_i c _ _ _ _ _
      cases (c == Value.type "enumerate") <;> (wp_walk using wpAny_loadPart' hl, wpAny_pyIter_tuple hL; exact ⟨_, rfl, h⟩)
    · wp_walk using wpAny_loadPart' hl, wpAny_pyIter_tuple hL
      exact ⟨_, rfl, h⟩
section
variable {prog : Program} {w : World} {A : Around} {E : Value → Shared → Prop} {s : Shared}
theorem enuT_call {l : Addr} {items : Array Value} {Q : Value → Shared → Prop} (hL : s.heap.IsTuple l items)
    (h : ∀ h', IsEnum h' (s.heap.objs.size + 1) s.heap.objs.size 0 .none → h'.IsTupleIter s.heap.objs.size l 0 → h'.objs.size = s.heap.objs.size + 2 → (∀ b o, s.heap.get? b = some o → h'.get? b = some o) → Q (.ref (s.heap.objs.size + 1)) { s with heap := h' }) :
    wpAny (model prog w) A (call (.type "enumerate") [.ref l]) Q E s := by
  obtain ⟨⟨c, dct, dt, sl⟩, hl, hc, n, hd⟩ := hL
  have hc : c = .type "tuple" := hc
  have hd : dt = .seq items n := hd
  subst hc hd
  refine callType_new F.called_enumerate (by decide) (F.typeCall_enumerate_1 _) (F.newCall_enumerate_1 _) (fun obj => F.args_object_init_2 obj _) F.entry_enumerate_new (enuT_new l items n dct sl) ⟨hl, ?_⟩
  generalize ho1 : ({ cls := .type "tuple_iterator", data := .fields #[.ref l, .int 0 0] } : Obj) = o1
  have hz : (s.heap.push o1).objs.size = s.heap.objs.size + 1 := Heap.size_push ..
  show _ ∧ _
  rw [hz]
  have he : IsEnum ((s.heap.push o1).push { cls := .type "enumerate", data := .fields #[.none, .bool false, .ref s.heap.objs.size, rawInt 0, .none, .none] }) (s.heap.objs.size + 1) s.heap.objs.size 0 .none := hz ▸ Heap.get?_push_size (s.heap.push o1) (o := { cls := .type "enumerate", data := .fields #[.none, .bool false, .ref s.heap.objs.size, rawInt 0, .none, .none] }) rfl
  refine ⟨⟨_, he, rfl⟩, h _ he ⟨o1, Heap.get?_push_of_some _ (Heap.get?_push_size _ (by rw [← ho1]; rfl)), by rw [← ho1], by rw [← ho1]; rfl⟩ (by rw [Heap.size_push, hz]) fun b o x => Heap.get?_push_of_some _ (Heap.get?_push_of_some _ x)⟩
theorem draws_tup {it l : Addr} {items : Array Value} (hh : A.handled = none) (hne : l ≠ it) : Draws prog w A it [it, l] items.size (fun i x => items[i]? = some x) (fun i h => h.IsTupleIter it l i ∧ h.IsTuple l items) where
  live := fun i h ⟨⟨o, ho, _⟩, _⟩ => ⟨o, ho⟩
  frame := fun i h h' ⟨a, b⟩ k => ⟨a.at fun o e => k it (by simp) o e, b.at fun o e => k l (by simp) o e⟩
  item := fun i s Q E hi st hQ => RZ.nextOf_tuple_item st.1 st.2 (x := items[i]) (by simp [hi]) fun h' a sb => hQ _ h' s.toks (by simp [hi]) ⟨a, st.2.extBut sb.extBut hne⟩ sb
  done := fun s Q E st hE => RZ.nextOf_tuple_end hh st.1 st.2 (by simp) hE
theorem draws_over {it l : Addr} {items : Array Value} {k : Nat} (hh : A.handled = none) (hk : items.size ≤ k) : Draws prog w A it [it, l] 0 (fun _ _ => True) (fun _ h => h.IsTupleIter it l k ∧ h.IsTuple l items) where
  live := fun i h ⟨⟨o, ho, _⟩, _⟩ => ⟨o, ho⟩
  frame := fun i h h' ⟨a, b⟩ q => ⟨a.at fun o e => q it (by simp) o e, b.at fun o e => q l (by simp) o e⟩
  item := fun i s Q E hi st hQ => absurd hi (Nat.not_lt_zero i)
  done := fun s Q E st hE => RZ.nextOf_tuple_end hh st.1 st.2 (by simp [hk]) hE
end
end PySem
namespace DL
open PySem PySem.Spec L2
open PyProof.Rows hiding St
variable [Tbl]
/-- the tuple at a as it stands at each turn, each item in a new pair -/
def Itet (K : PySem.W.Frag) (a : Addr) : It := ⟨fun i H => ∃ (xs : List V) (x : V), SqT K H a xs ∧ xs[i]? = some x, fun i H v H' => ∃ T x, v = .ref T ∧ H T = none ∧ H' = upd H T (.tup [.int (i : Nat), x]) ∧ ∀ xs, SqT K H a xs → xs[i]? = some x, fun i H => ∃ xs : List V, SqT K H a xs ∧ xs.length ≤ i⟩
theorem turn_enumT {P : Program} {w : World} {K : PySem.W.Frag} {elts : List Expr} {kk : Nat} {tpos : Pos} (a e it : Addr) :
    Turn P w K (.Tuple elts kk tpos) (Itet K a) [e, it] e (fun i h => (∃ old, IsEnum h e it ((i : Nat) : Int) old) ∧ h.IsTupleIter it a i ∧ e ≠ it) where
  mem := by simp
  obj := fun i h st b hb => by
    obtain ⟨⟨old, he⟩, ⟨o, ho, hc, hd⟩, _⟩ := st
    rcases (show b = e ∨ b = it by simpa using hb) with z | z
    · rw [z]; exact ⟨_, he, fun v q => nomatch q⟩
    · rw [z]; exact ⟨o, ho, fun v q => by rw [hd] at q; cases q⟩
  keep := fun i h h' st k => let ⟨⟨old, he⟩, hi, hne⟩ := st; ⟨⟨old, k e (by simp) _ he⟩, hi.at fun o q => k it (by simp) o q, hne⟩
  item := by
    intro X hP hw hK hc i pins s σ H E I hf st hg
    subst hP hw hK
    obtain ⟨⟨old, he⟩, hit, hne⟩ := st
    obtain ⟨xs, x, hq, hx⟩ := hg
    obtain ⟨its, rv, p, hz⟩ := I.tuple hq
    have p' : s.heap.IsTuple a its.toArray := p
    obtain ⟨u, hu, ru⟩ := rv.get hx
    have hel : e < s.heap.objs.size := Heap.lt_size he
    have hil : it < s.heap.objs.size := let ⟨_, q, _⟩ := hit; Heap.lt_size q
    have hat : a ≠ it := fun z => by
      obtain ⟨o1, q1, c1, _⟩ := hit
      obtain ⟨o2, q2, c2, _⟩ := p'
      rw [z, q1] at q2
      cases q2
      rw [c1] at c2
      exact absurd c2 (by decide)
    have hae : e ≠ a := fun z => by
      obtain ⟨o2, q2, c2, _⟩ := p'
      have he' : s.heap.get? e = some _ := he
      rw [z, q2] at he'
      cases he'
      exact absurd (show (Value.type "enumerate") = .type "tuple" from c2) (by decide)
    have hlt : i < its.toArray.size := by
      have := (List.getElem?_eq_some_iff.mp hu).1
      simpa using this
    refine wpAny_pyNext_enum_itemD (draws_tup (it := it) (l := a) (items := its.toArray) (I.ok.hd hc) hat) he ⟨hit, p'⟩ hlt hne (by simp [hne, hae]) fun x' h' tk hP ho hst' hT hsz hk => ?_
    have ex : x' = u := by
      have hP : its.toArray[i]? = some x' := hP
      rw [List.getElem?_toArray, hu] at hP
      exact (Option.some.inj hP).symm
    subst ex
    refine ⟨_, rfl, wpAny_letOwnedTupleGo_enum (s := { s with heap := h', toks := tk + 1 }) ho fun h'' he' sb => ?_⟩
    have hT2 : h''.get? s.heap.objs.size = some { cls := .type "tuple", data := .seq #[.int i tk, x'] } := (sb.2 _ (Nat.ne_of_gt hel)).trans hT
    have new : ObjOk X.prog X.w (upd H s.heap.objs.size (.tup [.int (i : Nat), x])) h'' s.heap.objs.size (.tup [.int (i : Nat), x]) := ⟨by show 2 ≤ sizeLine; decide, [.int i tk, x'], .cons ⟨_, rfl⟩ (.cons ru .nil), ⟨_, hT2, rfl, _, rfl⟩⟩
    have I1 : Inv X pins σ (upd H s.heap.objs.size (.tup [.int (i : Nat), x])) { s with heap := h'', toks := tk + 1 } := I.turnedNew (ch := [e, it]) (fun b ob hb q => (sb.2 b (fun z => hb (by simp [z]))).trans (hk b ob (fun z => hb (by simp [z])) (fun z => hb (by simp [z])) q)) hf (Nat.le_refl _) new
    refine ⟨.ref s.heap.objs.size, _, I1, rfl, ⟨_, x, rfl, I.hok.fresh (Nat.le_refl _), rfl, fun ys hy => by rw [I.tuple_inj hy hq]; exact hx⟩, ⟨⟨x', ?_⟩, hst'.1.at fun o q => (sb.2 it (Ne.symm hne)).trans q, hne⟩, fun b hb => ?_⟩
    · rw [show ((i + 1 : Nat) : Int) = (i : Int) + 1 by omega]; exact he'
    · have hb' : b < s.heap.objs.size := by
        rcases (show b = e ∨ b = it by simpa using hb) with z | z
        · rw [z]; exact hel
        · rw [z]; exact hil
      rw [upd_ne (Nat.ne_of_lt hb')]
      exact (hf b hb).1
  done := by
    intro X hP hw hK hc i pins s σ H E I hf st hg
    subst hP hw hK
    obtain ⟨⟨old, he⟩, hit, hne⟩ := st
    obtain ⟨xs, hq, hx⟩ := hg
    obtain ⟨its, rv, p, hz⟩ := I.tuple hq
    have p' : s.heap.IsTuple a its.toArray := p
    have hl := rv.length
    obtain ⟨f0, f1, f2, f3, f4, f5⟩ := hf it (by simp)
    exact wpAny_pyNext_enum_endD (draws_over (it := it) (l := a) (items := its.toArray) (k := i) (I.ok.hd hc) (by simp; omega)) he ⟨hit, p'⟩ fun h' eb => ⟨rfl, I.turned (t' := s.toks) (fun b o hb q => eb b o hb q) f0 f1 f3 f4 f5⟩
  self := fun A i s Q E st h => let ⟨⟨_, he⟩, _⟩ := st; wpAny_pyIter_enum he h
def iEnumS (K : PySem.W.Frag) (ta : TA) : TI := fun σ H R => ta σ H fun vs H1 => ∃ a xs, vs = [.ref a] ∧ ((SqL K H1 a xs ∧ R (Ite K a) H1) ∨ (SqT K H1 a xs ∧ R (Itet K a) H1))
theorem pi_enumS {X : Cx} {e : Expr} {ta : TA} {p pos tpos : Pos} {elts : List Expr} {kk : Nat} (hg : Gl X "enumerate") (hm : X.mg "enumerate" = none) (ha : PA X [e] ta) (hs : starEach [e] X.env = [(false, eval e X.env)]) : PI X (.Tuple elts kk tpos) (.Call (.Name "enumerate" p) [e] [] pos) (iEnumS X.K ta) := by
  refine ⟨fun pins s σ H R I h => Call_ (ld_blt I hg hm boot_enumerate (PyProof.Rows.callWith_type1 (thn (ha.run pos pins s σ H _ I h) fun us s1 ⟨vs, H1, I1, r1, q1⟩ => ?_) hs rfl))⟩
  obtain ⟨a, xs, ex, hq⟩ := q1
  subst ex
  cases r1 with
  | cons r rr =>
    cases rr
    cases r
    have fp : ∀ h' : Heap, (∀ b o, s1.heap.get? b = some o → h'.get? b = some o) → ∀ b ∈ [s1.heap.objs.size + 1, s1.heap.objs.size], FpOk X pins H1 b := fun h' hk b hb => by
      have hle : s1.heap.objs.size ≤ b := by
        rcases (show b = s1.heap.objs.size + 1 ∨ b = s1.heap.objs.size by simpa using hb) with z | z
        · rw [z]; exact Nat.le_add_right _ _
        · rw [z]; exact Nat.le_refl _
      exact I1.fpOk hle (I1.hok.fresh hle)
    rcases hq with ⟨hq, q⟩ | ⟨hq, q⟩
    · obtain ⟨its, rv, p', hz⟩ := I1.list hq
      exact call_enumerate_list p'.isList fun h' he hit hsz hk => wpAny_pyIter_enum he ⟨s1.heap.objs.size + 1, [s1.heap.objs.size + 1, s1.heap.objs.size], _, _, H1, rfl, I1.kept (t' := s1.toks) hk, turn_enum a (s1.heap.objs.size + 1) s1.heap.objs.size, ⟨⟨.none, he⟩, hit, Nat.succ_ne_self _⟩, fp h' hk, q⟩
    · obtain ⟨its, rv, p', hz⟩ := I1.tuple hq
      exact enuT_call (show s1.heap.IsTuple a its.toArray from p') fun h' he hit hsz hk => wpAny_pyIter_enum he ⟨s1.heap.objs.size + 1, [s1.heap.objs.size + 1, s1.heap.objs.size], _, _, H1, rfl, I1.kept (t' := s1.toks) hk, turn_enumT a (s1.heap.objs.size + 1) s1.heap.objs.size, ⟨⟨.none, he⟩, hit, Nat.succ_ne_self _⟩, fp h' hk, q⟩
def enumD (ds : List D) : List D := ds.zipIdx.map fun p => .tup [.int p.2, p.1]
theorem enumD_get (ds : List D) (i : Nat) : (enumD ds)[i]? = (ds[i]?).map fun d => .tup [.int i, d] := by
  unfold enumD
  rw [List.getElem?_map, List.getElem?_zipIdx]
  cases ds[i]? <;> simp
def enumI (f : FA) : FI := fun γ S => (f γ S).bind fun xs S1 => match xs with
  | [x] => (match x.view S1 with
    | some (.lst _) => .ok (fun S => match x.view S with
      | some (.lst ds) => some (enumD ds)
      | _ => none) S1
    | some (.tup _) => .ok (fun S => match x.view S with
      | some (.tup ds) => some (enumD ds)
      | _ => none) S1
    | _ => .bad)
  | _ => .bad
section
variable {K : PySem.W.Frag} {mg : Str → Option Value} {W : WX}
theorem enum_new {B : Addr → Prop} {H : Hp} {T : Addr} {i : Nat} {x : V} {d : D} (hd : ∀ a, B a → H a ≠ none) (hT : H T = none) (r : RD K mg B H x d) : RD K mg B (upd H T (.tup [.int (i : Nat), x])) (.ref T) (.tup [.int i, d]) := rd_newT hT hd (.cons (.int _) (.cons r .nil))
theorem simI_enum {t : TA} {f : FA} (h1 : SimA K mg W t f) : SimI K mg W (iEnumS K t) (enumI f) := by
  intro γ σ Q g rep h
  refine h1.go (X := Exv K mg g σ W) rep (fun _ _ _ _ z => z) h fun xs S vs H B ρ rep1 e1 rv hk => ?_
  match xs, vs, rv, hk with
  | [x], [v], .cons rx .nil, hk =>
    cases q : x.view S with
    | none => simp only [q] at hk; exact hk.elim
    | some d =>
      cases d <;> simp only [q] at hk <;> first | exact hk.elim | skip
      · rename_i ds
        have rv : RV K mg B S ρ H v x := rx
        obtain ⟨a, vs, rfl, ha, r⟩ := RT.tup_inv (rv.rt rep1.st q)
        refine ⟨a, vs, rfl, .inr ⟨ha, hk (Itet K a) H B ρ rep1 e1 fun B' S' ρ' H' i ds' ok' e' hi => ?_⟩⟩
        have rv' := e'.rv _ _ rv
        cases q2 : x.view S' with
        | none => simp [q2] at hi
        | some d' =>
          cases d' <;> simp only [q2, reduceCtorEq, Option.some.injEq] at hi
          subst hi
          obtain ⟨a', vs', ea, ha', r'⟩ := RT.tup_inv (rv'.rt ok' q2)
          cases ea
          rw [enumD_get]
          refine ⟨fun d' hd => ?_, fun hn => ⟨vs', ha', ?_⟩⟩
          · obtain ⟨d0, hd0, rfl⟩ := Option.map_eq_some_iff.mp hd
            obtain ⟨u, h1, h2⟩ := r'.get hd0
            refine ⟨⟨vs', u, ha', h1⟩, fun y H'' ⟨T, x0, ey, hT, eH, hx⟩ => ?_⟩
            have := hx vs' ha'
            rw [h1] at this
            cases this
            subst ey eH
            exact ⟨Grow.upd hT, enum_new ok'.dom hT h2⟩
          · have hn := List.getElem?_eq_none_iff.mp (Option.map_eq_none_iff.mp hn)
            rw [r'.length]; exact hn
      · rename_i ds
        have rv : RV K mg B S ρ H v x := rx
        obtain ⟨a, vs, rfl, ha, r⟩ := (rv.rt rep1.st q).lst_inv
        refine ⟨a, vs, rfl, .inl ⟨SqL.of ha, hk (Ite K a) H B ρ rep1 e1 fun B' S' ρ' H' i ds' ok' e' hi => ?_⟩⟩
        have rv' := e'.rv _ _ rv
        cases q2 : x.view S' with
        | none => simp [q2] at hi
        | some d' =>
          cases d' <;> simp only [q2, reduceCtorEq, Option.some.injEq] at hi
          subst hi
          obtain ⟨a', vs', ea, ha', r'⟩ := (rv'.rt ok' q2).lst_inv
          cases ea
          rw [enumD_get]
          refine ⟨fun d' hd => ?_, fun hn => ⟨vs', SqL.of ha', ?_⟩⟩
          · obtain ⟨d0, hd0, rfl⟩ := Option.map_eq_some_iff.mp hd
            obtain ⟨u, h1, h2⟩ := r'.get hd0
            refine ⟨⟨vs', u, SqL.of ha', h1⟩, fun y H'' ⟨T, x0, ey, hT, eH, hx⟩ => ?_⟩
            have := hx vs' (SqL.of ha')
            rw [h1] at this
            cases this
            subst ey eH
            exact ⟨Grow.upd hT, enum_new ok'.dom hT h2⟩
          · have hn := List.getElem?_eq_none_iff.mp (Option.map_eq_none_iff.mp hn)
            rw [r'.length]; exact hn
  | [], _, _, hk => exact hk.elim
  | _ :: _ :: _, _, _, hk => exact hk.elim
end
end DL
namespace DL
open PySem PySem.Spec L2
open PyProof.Rows hiding St
variable [Tbl]
/-- a def whose last parameter takes what is left over: n parameters ahead of it -/
structure StR where
  n : Nat
  sem : FnS
structure MeS where
  f : Addr
  k : Nat
  n : Nat
  sem : FnS
def MeS.r (m : MeS) : StR := ⟨m.n, m.sem⟩
abbrev STab := List (Str × StR)
def imsOf : List Vl → Option (List D)
  | [] => some []
  | .im d :: r => (imsOf r).map (d :: ·)
  | .cl _ :: _ => none
def StR.go (r : StR) (xs : List Vl) (γ : Gam) (S : Sto) : R Vl := if r.n ≤ xs.length then (match imsOf (xs.drop r.n) with
  | some ds => if ds.length ≤ sizeLine then callSem (arity (r.n + 1) r.sem) (xs.take r.n ++ [.im (.tup ds)]) γ S else .bad
  | none => .bad) else .bad
def fMethS (m : Str) (T : STab) (fo : F) (fa : FA) : F := fun γ S => (fo γ S).bind fun x S1 => match (x.view S1).bind (D.clsNo m) with
  | none => .bad
  | some c => match T.lookup c with
    | none => .bad
    | some r => (fa γ S1).bind fun xs S2 => r.go (x :: xs) γ S2
def spS (K : PySem.W.Frag) (mg : Str → Option Value) (m : MeS) : Sp := fun vs H Q E => ∃ ws rest, vs = ws ++ rest ∧ ws.length = m.n ∧ rest.length ≤ sizeLine ∧ ∀ p, H p = none → spOf K mg (m.n + 1) (arity (m.n + 1) m.sem) (ws ++ [V.ref p]) (upd H p (.tup rest)) Q E
def tMethS (mg : Str → Option Value) (sp : MeS → Sp) (table : Str → Option MeS) (m : Str) (E : XK) (ta : TE) (t : TA) : TE := fun σ H Q => ta σ H fun x H1 => ∃ a C dx fs c me, x = .ref a ∧ H1 a = some (.ins C dx fs) ∧ mg c = some (.ref C) ∧ table c = some me ∧ fs.lookup m = none ∧
  t σ H1 fun vs H2 => sp me (x :: vs) H2 Q E
/-- what is known of it in X -/
structure MtS (X : Cx) (m : Str) (C : Addr) (me : MeS) : Prop where
  ok : FnR X.prog X.w X.K X.mg X.base (L2.CX X.prog X.w) me.k me.f (spS X.K X.mg me)
  room : Room (me.k + 1) X.A
  kp : PySem.W.keepIn X.K (.ref me.f) = true
  cls : Cls X.K C
  mt : Meth X.K C m me.f
section
variable {X : Cx} {m : Str} {E : XK} {o e : Expr} {es : List Expr} {ta : TE} {t : TA} {apos pos : Pos} {table : Str → Option MeS}
theorem pe_methS {pl : Sem Bool} (he : PE X o ta) (hT : ∀ c C me, table c = some me → X.mg c = some (.ref C) → MtS X m C me) (hx : Passes (L2.CX X.prog X.w) X E) (ha : PA X (e :: es) t)
    (hst : starEach (e :: es) X.env = (false, eval e X.env) :: starEach es X.env) (hpl : (backTo pos (starEach es X.env)).any (·.1) = false)
    (ht : eval (.Call (.Attribute o m apos) (e :: es) [] pos) X.env = (do
      let ov ← eval o X.env
      standAt apos.atName
      let (f, first) ← holding [ov] (getMethod ov m pl)
      callWith pos f first (backTo pos (starEach (e :: es) X.env)) (backToKw pos (keywordEach [] X.env)))) :
    PE X (.Call (.Attribute o m apos) (e :: es) [] pos) (tMethS X.mg (spS X.K X.mg) table m E ta t) := by
  refine ⟨fun pins s σ H Q I h => ?_⟩
  refine PySem.W.methodCall_KW (pl := pl) (thn (he.run pins s σ H _ I h) fun u s1 ⟨x, H1, I1, rx, a, C, dx, fs, c, me, ex, ea, hc, hme, l, q⟩ => ?_) ht
  subst ex
  obtain rfl : u = Value.ref a := rx
  have mt := hT c C me hme hc
  refine getmeth_ok I1 ea mt.cls mt.mt l ?_
  refine PySem.W.callWith_K (first := [.ref a]) (h₀ := X.base) I.ok.mod.kin mt.kp (thn (ha.run pos pins s1 σ H1 _ I1 q) fun us s2 ⟨vs, H2, I2, r, q2⟩ => ⟨I2.kIn, ?_⟩) hst hpl
  exact wpAny_call (run_fnR (us := .ref a :: us) (vs := .ref a :: vs) mt.ok (mt.room.mono (Nat.le_succ _)) hx I2 (.cons rfl r) q2)
theorem pe_methS0 {pl : Sem Bool} (he : PE X o ta) (hT : ∀ c C me, table c = some me → X.mg c = some (.ref C) → MtS X m C me) (hx : Passes (L2.CX X.prog X.w) X E)
    (ht : eval (.Call (.Attribute o m apos) [] [] pos) X.env = (do
      let ov ← eval o X.env
      standAt apos.atName
      let (f, first) ← holding [ov] (getMethod ov m pl)
      callWith pos f first (backTo pos (starEach [] X.env)) (backToKw pos (keywordEach [] X.env)))) :
    PE X (.Call (.Attribute o m apos) [] [] pos) (tMethS X.mg (spS X.K X.mg) table m E ta tNil) := by
  refine ⟨fun pins s σ H Q I h => ?_⟩
  refine PySem.W.methodCall_KW (pl := pl) (thn (he.run pins s σ H _ I h) fun u s1 ⟨x, H1, I1, rx, a, C, dx, fs, c, me, ex, ea, hc, hme, l, q⟩ => ?_) ht
  subst ex
  obtain rfl : u = Value.ref a := rx
  have mt := hT c C me hme hc
  refine getmeth_ok I1 ea mt.cls mt.mt l ?_
  exact PySem.W.callWith_K0 (first := [.ref a]) I1.kIn mt.kp (wpAny_call (run_fnR (us := [.ref a]) (vs := [.ref a]) mt.ok (mt.room.mono (Nat.le_succ _)) hx I1 (.cons rfl .nil) q))
end
section
variable {K : PySem.W.Frag} {mg : Str → Option Value} {E : XK}
theorem rvs_imsOf {B : Addr → Prop} {S : Sto} {ρ : List (List Addr)} {H : Hp} : ∀ {vs : List V} {xs : List Vl} {ds : List D}, RVs K mg B S ρ H vs xs → imsOf xs = some ds → RDs K mg B H vs ds
  | _, _, _, .nil, h => by cases h; exact .nil
  | _, .cl i :: xs, ds, .cons r1 r, h => by cases h
  | _, .im d :: xs, ds, .cons r1 r, h => by
    have h : (imsOf xs).map (d :: ·) = some ds := h
    cases q : imsOf xs with
    | none => rw [q] at h; cases h
    | some es =>
      rw [q] at h
      cases h
      exact .cons r1 (rvs_imsOf r q)
theorem rvs_cut {B : Addr → Prop} {S : Sto} {ρ : List (List Addr)} {H : Hp} : ∀ {n : Nat} {vs : List V} {xs : List Vl} {ds : List D}, RVs K mg B S ρ H vs xs → n ≤ xs.length → imsOf (xs.drop n) = some ds →
    RVs K mg B S ρ H (vs.take n) (xs.take n) ∧ RDs K mg B H (vs.drop n) ds ∧ (vs.take n).length = n
  | 0, vs, xs, ds, r, _, h => by
    rw [List.drop_zero] at h ⊢
    exact ⟨by rw [List.take_zero, List.take_zero]; exact .nil, rvs_imsOf r h, rfl⟩
  | n + 1, _, _, ds, .nil, hl, h => by simp at hl
  | n + 1, _ :: vs, _ :: xs, ds, .cons r1 r, hl, h => by
    obtain ⟨a, b, c⟩ := rvs_cut (n := n) r (by simpa using hl) (by simpa using h)
    refine ⟨.cons r1 a, b, ?_⟩
    rw [List.take_succ_cons, List.length_cons, c]
/-- the call by the record -/
theorem star_go {me : MeS} {g : At} {γ : Gam} {σ : St} {Q : VK} {B : Addr → Prop} {S : Sto} {ρ : List (List Addr)} {H : Hp} {vs : List V} {xs : List Vl} (rep : Rep K mg B γ S ρ σ H) (hl : g.ρ.length = g.S.length) (e : g.to B S ρ H) (rv : RVs K mg B S ρ H vs xs)
    (h : (me.r.go xs γ S).wp (Okv K mg g γ σ Q) (Exv K mg g σ (We E))) : spS K mg me vs H Q E := by
  unfold StR.go at h
  split at h
  · rename_i hn
    split at h
    · rename_i ds hd
      split at h
      · rename_i hz
        obtain ⟨r1, r2, h3⟩ := rvs_cut rv hn hd
        refine ⟨vs.take me.r.n, vs.drop me.r.n, (List.take_append_drop _ _).symm, h3, by rw [r2.length]; exact hz, fun p hp => ?_⟩
        have gr : Grow H (upd H p (.tup (vs.drop me.r.n))) := Grow.upd hp
        have ok0 := rep.st.grow gr
        have ex0 := Ext.grow rep.st gr
        have rep1 := rep.step ex0 ok0
        have rt : RD K mg B (upd H p (.tup (vs.drop me.r.n))) (.ref p) (.tup ds) := rd_newT hp rep.st.dom r2
        have rv2 : RVs K mg B S ρ (upd H p (.tup (vs.drop me.r.n))) (vs.take me.r.n ++ [.ref p]) (xs.take me.r.n ++ [.im (.tup ds)]) := rvs_app (RVs.mono ex0 rep.st r1) (.cons rt .nil)
        refine call_go (g := g) rep1 hl (e.trans ex0 hl rep.st.len) rv2 (by rw [List.length_append, h3]; rfl) h (fun x S' v H' B' ρ' p r e rv => p v H' B' ρ' r e rv) fun c fs S' cls dd H' B' ρ' p r e rx => p cls dd H' B' ρ' r e rx
      · exact h.elim
    · exact h.elim
  · exact h.elim
theorem sim_methS {m : Str} {table : Str → Option MeS} {T : STab} (hT : ∀ c, (table c).map MeS.r = T.lookup c) {ta : TE} {t : TA} {fo : F} {fa : FA} (ho : Sim K mg (We E) ta fo) (ha : SimA K mg (We E) t fa) : Sim K mg (We E) (tMethS mg (spS K mg) table m E ta t) (fMethS m T fo fa) := by
  intro γ σ Q g rep h
  refine ho.go (X := Exv K mg g σ (We E)) rep (fun _ _ _ _ z => z) h fun x S v H B ρ rep1 e1 rv hk => ?_
  cases q0 : x.view S with
  | none => simp only [q0, Option.bind_none] at hk; exact hk.elim
  | some d =>
  cases q1 : d.clsNo m with
  | none => simp only [q0, Option.bind_some, q1] at hk; exact hk.elim
  | some c =>
  simp only [q0, Option.bind_some, q1, ← hT c] at hk
  cases q2 : table c with
  | none => simp only [q2, Option.map_none] at hk; exact hk.elim
  | some me =>
  simp only [q2, Option.map_some] at hk
  obtain ⟨fs, rfl, hn⟩ := clsNo_inv q1
  obtain ⟨a, C, dx, fvs, rfl, h1, hm, r⟩ := ins_at rep1.st rv q0
  refine ⟨a, C, dx, fvs, c, me, rfl, h1, hm, q2, r.lookup_none hn, ?_⟩
  refine ha.go (g := ⟨B, S, ρ, H⟩) (X := Exv K mg g σ (We E)) rep1 (fun _ _ _ _ z => z.on rep.st.len rep1.st.len e1) hk fun xs S2 us H2 B2 ρ2 rep2 e2 ru hk2 => ?_
  exact star_go (g := g) rep2 rep.st.len (e1.trans e2 rep.st.len rep1.st.len) (.cons (rv.mono e2 rep1.st) ru) hk2
end
end DL
namespace DL
open PySem PySem.Spec L2
open PyProof.Rows hiding St
variable [Tbl]
/-- what is left of the walk; the sum so far stands at p, and is held by the list at q -/
def sumH (K : PySem.W.Frag) (l : Addr) (all : List V) (q : Addr) (Q : VK) : List V → Addr → Hp → Prop
  | [], p, H => SqL K H l all ∧ Q (.ref p) H
  | v :: r, p, H => SqL K H l all ∧ ∃ b xs zs, v = .ref b ∧ H p = some (.lst xs) ∧ H b = some (.lst zs) ∧ xs.length + zs.length ≤ sizeLine ∧ ∀ p', H p' = none → sumH K l all q Q r p' (upd (upd H p' (.lst (xs ++ zs))) q (.lst [.ref p']))
def rSumL (K : PySem.W.Frag) : List V → Hp → VK → Prop := fun xs H Q => ∃ l p all ws, xs = [.ref l, .ref p] ∧ SqL K H l all ∧ H p = some (.lst ws) ∧ ∀ q, H q = none → q ≠ l → sumH K l all q Q all p (upd H q (.lst [.ref p]))
theorem args_sum2 (a b : Value) : argsOk "sum" ⟨[a, b], []⟩ := by unfold argsOk; kernel_rfl
theorem sub_list_bytearray0 : isSubtype (.type "list") (.type "bytearray") = pure false := by rw [isSubtype_type]; kernel_rfl
section
variable {X : Cx} {pins : List (Addr × Obj)} {σ : St}
theorem suml_loop {A1 : Around} {it l q : Addr} {all : List V} {Q : VK} {Xe : Value → Shared → Prop} (hh : A1.in1.handled = none) (hql : q ≠ l) : ∀ (r : List V) (i : Nat) (p : Addr) (s : Shared) (H : Hp), all.drop i = r → Inv X pins σ H s → s.heap.IsListIter it l i → FpOk X pins H it → H q = some (.lst [.ref p]) → sumH X.K l all q Q r p H →
    codeAny (model X.prog X.w) A1 (.builtin "sum.loop" ⟨[.ref it, .ref q, rawInt 2, rawInt 0], []⟩) (wants (EP X pins σ Q) Xe) s
  | [], i, p, s, H, hr, I, hit, hf, hq, h => by
    refine codeAny_builtin PySem.F.entry_sum_loop ?_
    rw [Around.under_plainId PySem.F.plain_sum_loop _]
    obtain ⟨z, its2, c, r2, hl2, e2⟩ := I.lstM hq
    obtain ⟨u, rfl, ru⟩ := r2.one
    cases ru
    show wpAny _ A1.in1 (seqItems? (.ref q) >>= _) _ _ s
    refine wpAny_bind (wpAny_seqItems e2 rfl ?_)
    show wpAny _ A1.in1 (tryCatch (pyNext (.ref it)) _ >>= _) _ _ s
    obtain ⟨hs, hQ⟩ := h
    obtain ⟨its, rv, pl, _⟩ := I.list hs
    obtain ⟨f0, f1, f2, f3, f4, f5⟩ := id hf
    have hl := rv.length
    have hi : all.length ≤ i := List.drop_eq_nil_iff.mp hr
    refine wpAny_bind (wpAny_tryCatch (wpAny_pyNext_list_end hh hit pl.isList (by simp; omega) fun h' eb => ?_))
    have I1 : Inv X pins σ H { s with heap := h' } := I.turned (t' := s.toks) (fun b o hb e => eb b o hb e) f0 f1 f3 f4 f5
    exact wpAny_pure ⟨.ref p, H, I1, rfl, hQ⟩
  | v :: r, i, p, s, H, hr, I, hit, hf, hq, h => by
    refine codeAny_builtin PySem.F.entry_sum_loop ?_
    rw [Around.under_plainId PySem.F.plain_sum_loop _]
    obtain ⟨z, its2, c, r2, hl2, e2⟩ := I.lstM hq
    obtain ⟨u, rfl, ru⟩ := r2.one
    cases ru
    show wpAny _ A1.in1 (seqItems? (.ref q) >>= _) _ _ s
    refine wpAny_bind (wpAny_seqItems e2 rfl ?_)
    show wpAny _ A1.in1 (tryCatch (pyNext (.ref it)) _ >>= _) _ _ s
    obtain ⟨hs, b, xs, zs, rfl, hp, hb, hz, hn⟩ := h
    obtain ⟨its, rv, pl, _⟩ := I.list hs
    obtain ⟨f0, f1, f2, f3, f4, f5⟩ := id hf
    have hx : all[i]? = some (.ref b) := by
      have : (all.drop i)[0]? = some (.ref b) := by rw [hr]; rfl
      rwa [List.getElem?_drop, Nat.add_zero] at this
    obtain ⟨u, hu, ru⟩ := rv.get hx
    cases ru
    refine wpAny_bind (wpAny_tryCatch (wpAny_pyNext_list_item hit pl.isList (x := .ref b) (by simpa using hu) fun h' st' sb => ?_))
    have I1 : Inv X pins σ H { s with heap := h' } := I.turned (t' := s.toks) (fun b o hb e => (sb.2 b hb).trans e) f0 f1 f3 f4 f5
    show wpAny _ A1.in1 ((holding [Value.ref b] (binaryOp .Add (.ref p) (.ref b))).attempt >>= _) _ _ _
    refine wpAny_bind (wpAny_attempt (wpAny_holding ?_))
    obtain ⟨z1, is1, n1, r1, hl1, e1⟩ := I1.lstM hp
    obtain ⟨z3, is3, n3, r3, hl3, e3⟩ := I1.lstM hb
    refine PySem.P.add_list e1 e3 ?_ (by rw [List.size_toArray, List.size_toArray]; omega)
    rw [show is1.toArray ++ is3.toArray = (is1 ++ is3).toArray by simp]
    have I2 := I1.lnew (t' := s.toks) (r1.append r3) (by rw [List.length_append]; omega)
    have hfr := I1.fresh
    have hne : q ≠ h'.objs.size := ne_of_none hq hfr
    have hni : it ≠ h'.objs.size := by
      obtain ⟨o, ho, _⟩ := id st'
      exact Nat.ne_of_lt (Heap.lt_size ho)
    have hq2 : (upd H h'.objs.size (.lst (xs ++ zs))) q = some (.lst [.ref p]) := by rw [upd_ne hne]; exact hq
    obtain ⟨z4, its4, c4, r4, hl4, e4⟩ := I2.lstM hq2
    obtain ⟨u4, rfl, ru4⟩ := r4.one
    show wpAny _ A1.in1 (updateSeq q (fun _ => #[Value.ref h'.objs.size]) >>= _) _ _ _
    refine wpAny_bind (wpAny_updateSeq e4 rfl ?_)
    have I3 := I2.lset (f := fun _ => #[Value.ref h'.objs.size]) (its' := [Value.ref h'.objs.size]) (ys := [.ref h'.objs.size]) (t' := s.toks) hq2 e4 rfl (.cons rfl .nil) (by show 1 ≤ sizeLine; decide)
    refine wpAny_bind (wpAny_letGo ?_)
    obtain ⟨z5, its5, c5, r5, hl5, e5⟩ := I3.lstM (l := q) upd_same
    obtain ⟨u5, rfl, ru5⟩ := r5.one
    refine wpAny_bind (wpAny_updateSeq e5 rfl ?_)
    have I4 := I3.lset (l := q) (f := fun _ => #[Value.ref h'.objs.size]) (its' := [Value.ref h'.objs.size]) (ys := [.ref h'.objs.size]) (t' := s.toks) upd_same e5 rfl (.cons rfl .nil) (by show 1 ≤ sizeLine; decide)
    rw [upd_upd] at I4
    have hqi : q ≠ it := fun z => by rw [z, f0] at hq; cases hq
    refine wpAny_pure ⟨plainId_quiet PySem.F.plain_sum_loop _, suml_loop hh hql r (i + 1) h'.objs.size _ _ ?_ I4 ?_ ⟨?_, f1, f2, f3, f4, f5⟩ upd_same (hn _ hfr)⟩
    · have : (all.drop i).tail = r := by rw [hr]; rfl
      rw [List.tail_drop] at this
      exact this
    · exact st'.at fun o e => (Heap.get?_update_other _ _ hqi).trans ((Heap.get?_update_other _ _ hqi).trans (Heap.get?_push_of_some _ e))
    · rw [upd_ne (Ne.symm hqi), upd_ne hni]; exact f0
theorem cr_sumL (hc : X.calm = true) : CallR X (.builtin "sum") (rSumL X.K) := by
  intro pins s σ H xs us Q I r h
  obtain ⟨l, p, all, ws, rfl, hs, hp, hq⟩ := h
  match us, r with
  | [_, _], .cons r1 (.cons r2 .nil) =>
  cases r1
  cases r2
  obtain ⟨its, rv, pl, hz⟩ := I.list hs
  refine call_function_tree PySem.F.kind_sum PySem.F.plain_sum PySem.F.entry_sum (args_sum2 _ _) ?_
  unfold Builtin.«sum»
  simp only [List.length_cons, List.length_nil]
  rw [if_neg (by decide)]
  refine wpAny_bind (wpAny_of_eq (show Builtin.Builtins.bindParams "sum" ["start"] 0 ⟨[Value.ref p], []⟩ = pure [some (Value.ref p)] from rfl) ?_)
  refine wpAny_bind (wpAny_pyIter_list pl.isList ?_)
  refine wpAny_bind (wpAny_pure ?_)
  obtain ⟨z2, its2, c2, r2, hl2, e2⟩ := I.lstM hp
  have hT : Shared.TypeIs { s with heap := s.heap.push (GNX.itObj l 0) } (.ref p) "list" := ⟨_, Heap.get?_push_of_some _ e2, rfl⟩
  simp only [List.forIn_cons, List.forIn_nil]
  refine wpAny_bind (wpAny_bind (wpAny_bind (wpAny_isInstance (T := "list") (b := false) hT PySem.F.sub_list_str ?_)))
  simp only [Bool.false_eq_true, if_false]
  refine wpAny_pure (wpAny_bind (wpAny_bind (wpAny_isInstance (T := "list") (b := false) hT PySem.F.sub_list_bytes ?_)))
  simp only [Bool.false_eq_true, if_false]
  refine wpAny_pure (wpAny_bind (wpAny_bind (wpAny_isInstance (T := "list") (b := false) hT sub_list_bytearray0 ?_)))
  simp only [Bool.false_eq_true, if_false]
  refine wpAny_pure (wpAny_pure ?_)
  refine wpAny_bind (wpAny_newObj_type ?_)
  have I1 : Inv X pins σ H { s with heap := s.heap.push (GNX.itObj l 0) } := I.kept (t' := s.toks) fun b o e => Heap.get?_push_of_some _ e
  have fp := I.fpOk (b := s.heap.objs.size) (Nat.le_refl _) I.fresh
  have I2 := I1.lnew (its := [Value.ref p]) (ys := [.ref p]) (t' := s.toks) (.cons rfl .nil) (by show 1 ≤ sizeLine; decide)
  have hfr := I1.fresh
  have hsz : (s.heap.push (GNX.itObj l 0)).objs.size = s.heap.objs.size + 1 := Heap.size_push _ _
  have hlz : l < s.heap.objs.size := by
    obtain ⟨o, ho, _⟩ := pl.isList
    exact Heap.lt_size ho
  have hnl : (s.heap.push (GNX.itObj l 0)).objs.size ≠ l := Nat.ne_of_gt (Nat.lt_of_lt_of_le hlz (by rw [hsz]; exact Nat.le_succ _))
  refine wpAny_pure ⟨plainId_quiet PySem.F.plain_sum_loop _, suml_loop (I.ok.hd hc) hnl all 0 p _ _ rfl I2 ?_ ⟨?_, fp.2⟩ upd_same (hq _ hfr hnl)⟩
  · exact ⟨_, Heap.get?_push_of_some _ (Heap.get?_push_size _ rfl), rfl, rfl⟩
  · rw [upd_ne (by show s.heap.objs.size ≠ (s.heap.push (GNX.itObj l 0)).objs.size; omega)]; exact I.fresh
end
/-- xs + ys of tuples -/
def catT : D → D → Option D
  | .tup xs, .tup ys => if xs.length + ys.length ≤ sizeLine then some (.tup (xs ++ ys)) else none
  | _, _ => none
section
variable {K : PySem.W.Frag} {mg : Str → Option Value}
theorem p2_catT : P2 K mg (rCatA K) catT := by
  intro B H x y dx dy d Q rx ry e hB hQ
  cases dx <;> cases dy <;> simp only [catT, reduceCtorEq] at e
  split at e
  · rename_i h
    cases e
    have tx := rx.tup_rd
    have ty := ry.tup_rd
    obtain ⟨a, vs, rfl, ha, r1⟩ := rx.tup_inv
    obtain ⟨b, ws, rfl, hb, r2⟩ := ry.tup_inv
    refine ⟨a, b, vs, ws, rfl, rfl, ha, hb, by rw [r1.length, r2.length]; exact h, fun z => ?_, fun _ z => ?_, fun _ _ p hp => hQ _ _ (Grow.upd hp) (rd_newT hp hB (r1.append r2))⟩
    · subst z
      cases r1
      exact hQ _ _ (Grow.refl _) ty
    · subst z
      cases r2
      exact hQ _ _ (Grow.refl _) (by rw [List.append_nil]; exact tx)
  · cases e
/-- all lists put together -/
def sumF : List D → List D → Option (List D)
  | [], acc => some acc
  | .lst xs :: r, acc => if acc.length + xs.length ≤ sizeLine then sumF r (acc ++ xs) else none
  | _ :: _, _ => none
def sumLD : D → Option D
  | .lst ds => (sumF ds []).map .lst
  | _ => none
theorem sqL_grow {K : PySem.W.Frag} {H H' : Hp} {l : Addr} {vs : List V} (h : SqL K H l vs) (g : Grow H H') : SqL K H' l vs := by
  rcases h with (h | ⟨o, h⟩) | h
  · exact .inl (.inl (g _ _ h))
  · exact .inl (.inr ⟨o, g _ _ h⟩)
  · exact .inr h
theorem sum_run {B : Addr → Prop} {l q : Addr} {all : List V} {Q : VK} {H0 : Hp} (hq : H0 q = none) (hs : SqL K H0 l all) (hB : ∀ a, B a → H0 a ≠ none) : ∀ (r : List V) (ds : List D) (p : Addr) (H : Hp) (ws : List V) (acc out : List D), RDs K mg B H0 r ds → Grow H0 H → (∀ a, H a = none → a ≠ q) → H p = some (.lst ws) → p ≠ q → RDs K mg B H0 ws acc → H0 p = none → sumF ds acc = some out →
    (∀ p H, Grow H0 H → H0 p = none → RD K mg B H (.ref p) (.lst out) → Q (.ref p) H) → sumH K l all q Q r p H
  | [], ds, p, H, ws, acc, out, r1, gr, hz, hp, hpq, r2, h0, e, hQ => by
    cases r1
    cases e
    exact ⟨sqL_grow hs gr, hQ p H gr h0 (.lst hp (fun b => hB p b h0) (r2.mono gr.gr))⟩
  | v :: r, _, p, H, ws, acc, out, .cons (d := d) r0 r1, gr, hz, hp, hpq, r2, h0, e, hQ => by
    cases d <;> first | (cases e; done) | skip
    rename_i xs
    unfold sumF at e
    split at e
    · rename_i hl
      obtain ⟨b, zs, rfl, hb, rz⟩ := (RD.rt r0).lst_inv
      refine ⟨sqL_grow hs gr, b, ws, zs, rfl, hp, gr _ _ hb, by rw [r2.length, rz.length]; exact hl, fun p' hp' => ?_⟩
      have hpq' := hz p' hp'
      have h0' : H0 p' = none := by
        cases z : H0 p' with
        | none => rfl
        | some o => rw [gr _ _ z] at hp'; cases hp'
      refine sum_run hq hs hB r _ p' _ (ws ++ zs) (acc ++ xs) out r1 (fun a o ha => ?_) (fun a ha => ?_) (by rw [upd_ne hpq', upd_same]) hpq' (r2.append rz) h0' e hQ
      · rw [upd_ne (fun z => by rw [z, hq] at ha; cases ha), upd_ne (fun z => by rw [z, h0'] at ha; cases ha)]
        exact gr _ _ ha
      · intro z
        rw [z, upd_same] at ha
        cases ha
    · cases e
theorem sim_sumL {W : WX} {t : TE} {f : F} (h1 : Sim K mg W t f) : Sim K mg W (tCB (rSumL K) (tCons t (tCons (tLst tNil) tNil))) (fUn sumLD f) := by
  intro γ σ Q g rep h
  refine h1.go rep (fun _ _ _ _ z => z) h fun x S v H B ρ rep1 e1 rv hk => ?_
  obtain ⟨d, hd, q⟩ := R.ofO_wp hk
  cases q1 : x.view S with
  | none => rw [q1] at hd; cases hd
  | some a =>
    simp only [q1, Option.bind_some] at hd
    cases a <;> simp only [sumLD, reduceCtorEq] at hd
    obtain ⟨out, ho, rfl⟩ := Option.map_eq_some_iff.mp hd
    obtain ⟨b, vs, rfl, hs, rs⟩ := (rv.rt rep1.st q1).lst_inv
    refine ⟨(by decide : 0 ≤ sizeLine), fun p hp => ⟨b, p, vs, [], rfl, SqL.of (by rw [upd_ne (ne_of_none hs hp)]; exact hs), upd_same, fun q' hq' hne => ?_⟩⟩
    have gr : Grow H (upd H p (.lst [])) := Grow.upd hp
    have hq0 : H q' = none := by
      cases z : H q' with
      | none => rfl
      | some o => rw [gr _ _ z] at hq'; cases hq'
    have hpq : p ≠ q' := fun z => by rw [← z, upd_same] at hq'; cases hq'
    refine sum_run (H0 := H) hq0 (SqL.of hs) rep1.st.dom vs _ p _ [] [] out rs (fun a o ha => ?_) (fun a ha z => ?_) (by rw [upd_ne hpq, upd_same]) hpq .nil hp ho fun p' H' gr' h0' rd => okv_im q rep1 rep.st.len e1 gr' rd
    · rw [upd_ne (fun z => by rw [z, hq0] at ha; cases ha)]
      exact gr _ _ ha
    · rw [z, upd_same] at ha; cases ha
end
end DL
namespace DL
open PySem PySem.Spec L2
open PyProof.Rows hiding St
variable [Tbl]
structure FnR where
  n : Nat
  sem : FnS
  dd : List D
def Me.r (m : Me) : FnR := ⟨m.ps.length, m.sem, m.dd⟩
def FnR.go (r : FnR) (xs : List Vl) (γ : Gam) (S : Sto) : R Vl := callSem (arity r.n r.sem) (xs ++ r.dd.map Vl.im) γ S
abbrev RTab := List (Str × FnR)
/-- one row of a def that tells errors: the class, what is told, the field that is told with it -/
structure EN where
  cls : Str
  tag : Str
  fld : Option Str
  alone : Bool := false
structure ErR where
  ens : List EN
  known : List Str
/-- the surroundings -/
structure GE where
  cls : List Str := []
  is : IsTab := fun _ _ => none
  cons : List (Str × D) := []
  blt : List Str := []
  fns : List (Str × FnR) := []
  mks : List (Str × FnR) := []
  mts : List (Str × RTab) := []
  eqT : RTab := []
  inT : RTab := []
  addT : RTab := []
  subT : RTab := []
  lenT : RTab := []
  ixT : RTab := []
  smts : List (Str × STab) := []
  itT : List (Str × FnS) := []
  exs : List (Str × List Str) := []
  errs : List (Str × ErR) := []
  mkrs : List Str := []
def GE.known (Γ : GE) : Str → Bool := fun c => decide (c ∈ Γ.cls)
def TabR (tab : MTab) (T : RTab) : Prop := ∀ c, (tab c).map Me.r = T.lookup c
def fOwnP (tab : RTab) (post : Vl → Option Vl) (x : Vl) (xs : List Vl) (ok : Str → Bool) (els : R Vl) : Gam → Sto → R Vl := fun γ S => match clsV x S with
  | some c => match tab.lookup c with
    | some r => if ok c then postR post (r.go (x :: xs) γ S) else .bad
    | none => els
  | none => els
theorem fOwn_eq {tab : MTab} {T : RTab} (h : TabR tab T) (post : Vl → Option Vl) (x : Vl) (xs : List Vl) (ok : Str → Bool) (els : R Vl) : fOwn tab post x xs ok els = fOwnP T post x xs ok els := by
  funext γ S
  unfold fOwn fOwnP
  cases clsV x S with
  | none => rfl
  | some c =>
    simp only [← h c]
    cases tab c with
    | none => rfl
    | some me => rfl
def fOwnEqP (T : RTab) (cs : Str → Bool) (f : Bool → Bool) (els : F2X) : F2X := fun x y γ S => fOwnP T (postB f) x [y] (chkEq cs y S) (els x y γ S) γ S
def fOwnInP (T : RTab) (f : Bool → Bool) (els : F2X) : F2X := fun y x γ S => fOwnP T (postB f) x [y] (fun _ => true) (els y x γ S) γ S
def fOwnBinP (T : RTab) (cs : Str → Bool) (els : F2X) : F2X := fun x y γ S => fOwnP T some x [y] (chkBin cs y S) (els x y γ S) γ S
def fOwnLenP (T : RTab) (els : F1X) : F1X := fun xs γ S => match xs with
  | [x] => fOwnP T postN x [] (fun _ => true) (els xs γ S) γ S
  | _ => els xs γ S
theorem fOwnEq_eq {tab : MTab} {T : RTab} (h : TabR tab T) (cs : Str → Bool) (f : Bool → Bool) (els : F2X) : fOwnEq tab cs f els = fOwnEqP T cs f els := by
  funext x y γ S; unfold fOwnEq fOwnEqP; rw [fOwn_eq h]
theorem fOwnIn_eq {tab : MTab} {T : RTab} (h : TabR tab T) (f : Bool → Bool) (els : F2X) : fOwnIn tab f els = fOwnInP T f els := by
  funext x y γ S; unfold fOwnIn fOwnInP; rw [fOwn_eq h]
theorem fOwnBin_eq {tab : MTab} {T : RTab} (h : TabR tab T) (cs : Str → Bool) (els : F2X) : fOwnBin tab cs els = fOwnBinP T cs els := by
  funext x y γ S; unfold fOwnBin fOwnBinP; rw [fOwn_eq h]
theorem fOwnLen_eq {tab : MTab} {T : RTab} (h : TabR tab T) (els : F1X) : fOwnLen tab els = fOwnLenP T els := by
  funext xs γ S; unfold fOwnLen fOwnLenP
  match xs with
  | [x] => simp only; rw [fOwn_eq h]
  | [] => rfl
  | _ :: _ :: _ => rfl
def addD (a b : D) : Option D := (intOp0 (fun i j => .int (i + j)) a b).or ((catS a b).or ((catL a b).or (catT a b)))
def subD (a b : D) : Option D := intOp0 (fun i j => .int (i - j)) a b
def mulAD (a b : D) : Option D := (mulD a b).or (repL a b)
def evBin (Γ : GE) : Operator → F2X
  | .Add => fOwnBinP Γ.addT Γ.known (lift2X addD)
  | .Sub => fOwnBinP Γ.subT Γ.known (lift2X subD)
  | .Mult => lift2X mulAD
  | .FloorDiv => lift2X fdivD
  | .Mod => lift2X modD
  | .Pow => lift2X powD
  | _ => fun _ _ _ _ => .bad
def inAD (a b : D) : Option D := (((lstOnly inD a b).map D.bl).or ((tupOnly inD a b).map D.bl)).or ((inS a b).map D.bl)
def ninAD (a b : D) : Option D := (((lstOnly inD a b).map fun c => D.bl (!c)).or ((tupOnly inD a b).map fun c => D.bl (!c))).or ((inS a b).map fun c => D.bl (!c))
def evCmp (Γ : GE) : CmpOp → F2X
  | .Eq => fOwnEqP Γ.eqT Γ.known id (lift2X fun a b => (eqD a b).map D.bl)
  | .NotEq => fOwnEqP Γ.eqT Γ.known (fun b => !b) (lift2X fun a b => (eqD a b).map fun c => D.bl (!c))
  | .In => fOwnInP Γ.inT id (lift2X inAD)
  | .NotIn => fOwnInP Γ.inT (fun b => !b) (lift2X ninAD)
  | .Lt => lift2X (intOp0 fun i j => .bl (decide (i < j)))
  | .LtE => lift2X (intOp0 fun i j => .bl (decide (i ≤ j)))
  | .Gt => lift2X (intOp0 fun i j => .bl (decide (j < i)))
  | .GtE => lift2X (intOp0 fun i j => .bl (decide (j ≤ i)))
  | .Is => lift2X fun a b => (isND a b).map D.bl
  | .IsNot => lift2X fun a b => (isND a b).map fun c => D.bl (!c)
structure MeF (P : Program) (w : World) (K : PySem.W.Frag) (mg : Str → Option Value) (base : Heap) (L : Nat) (m : Me) : Prop where
  ok : FnOk P w K mg base (L2.CX P w) m.k m.f m.fd m.ps (spM K mg m)
  lv : m.k + 5 ≤ L
  binds : ∃ ds, Binds K m.fd m.ps ds ∧ Vals m.dvs ds
  rd : ∀ B H, RDs K mg B H m.dvs m.dd
  kp : PySem.W.keepIn K (.ref m.f) = true
structure SpF (P : Program) (w : World) (K : PySem.W.Frag) (mg : Str → Option Value) (base : Heap) (L : Nat) (m : Str) (T : RTab) (tab : MTab) : Prop where
  tr : TabR tab T
  me : ∀ c C me, tab c = some me → mg c = some (.ref C) → MeF P w K mg base L me ∧ PySem.W.findIn K (.ref C) m = some (some (.ref me.f)) ∧ PySem.W.isFn K (.ref me.f) = true
  rd : TabD K mg tab
structure ItF (P : Program) (w : World) (K : PySem.W.Frag) (mg : Str → Option Value) (base : Heap) (L : Nat) (C : Addr) (me : IMe) : Prop where
  ok : FnOkN P w K mg base (L2.CX P w) me.k me.f me.fd me.ps (spIt K mg me.sem)
  lv : me.k + 5 ≤ L
  one : me.ps.length = 1
  binds : Binds K me.fd me.ps []
  find : PySem.W.findIn K (.ref C) "__iter__" = some (some (.ref me.f))
  isfn : PySem.W.isFn K (.ref me.f) = true
def ExF (K : PySem.W.Frag) (mg : Str → Option Value) (P : Program) (w : World) (base : Heap) (L : Nat) (c : Str) (fs : List Str) : Prop := ∃ C, mg c = some (.ref C) ∧
  match fs with
  | [] => PySem.W.excIn K C [.type "ValueError", .type "Exception", .type "BaseException", .type "object"] "ValueError.__new__" = true ∨ True
  | fs => OexC K C ∧ (∀ f ∈ fs, PySem.W.findIn K (.ref C) f = some none) ∧ fs.length ≤ 8
def IxOk (K : PySem.W.Frag) (tab : MTab) : Prop := ∀ c me, tab c = some me → PySem.W.fnIn K me.f = true
structure MsF (P : Program) (w : World) (K : PySem.W.Frag) (mg : Str → Option Value) (base : Heap) (L : Nat) (m : MeS) : Prop where
  ok : L2.FnR P w K mg base (L2.CX P w) m.k m.f (spS K mg m)
  lv : m.k + 5 ≤ L
  kp : PySem.W.keepIn K (.ref m.f) = true
structure GF (Γ : GE) (L : Nat) (P : Program) (w : World) (K : PySem.W.Frag) (mg : Str → Option Value) (base : Heap) : Prop where
  big : 6 ≤ L
  cls : ClsT K mg Γ.known
  is : IsOk K mg Γ.is
  cons : ∀ (i : Nat) x d, Γ.cons[i]? = some (x, d) → ∃ v u, mg x = some u ∧ RelV v u ∧ ∀ B H, RD K mg B H v d
  blt : ∀ x ∈ Γ.blt, mg x = none
  fns : ∀ (i : Nat) x r, Γ.fns[i]? = some (x, r) → ∃ m : Me, m.r = r ∧ mg x = some (.ref m.f) ∧ MeF P w K mg base L m
  mks : ∀ (i : Nat) c r, Γ.mks[i]? = some (c, r) → ∃ (m : Me) (C : Addr), m.r = r ∧ mg c = some (.ref C) ∧ MeF P w K mg base L m ∧ Mk K C m.f
  mts : ∀ (i : Nat) m T, Γ.mts[i]? = some (m, T) → ∃ tab : MTab, TabR tab T ∧ TabD K mg tab ∧ ∀ c C me, tab c = some me → mg c = some (.ref C) → MeF P w K mg base L me ∧ Cls K C ∧ Meth K C m me.f
  eq : ∃ tab, SpF P w K mg base L "__eq__" Γ.eqT tab ∧ NoF K mg tab Γ.known ∧ NeOk K mg tab
  inn : ∃ tab, SpF P w K mg base L "__contains__" Γ.inT tab
  add : ∃ tab, SpF P w K mg base L "__add__" Γ.addT tab ∧ SfOk K mg tab
  sub : ∃ tab, SpF P w K mg base L "__sub__" Γ.subT tab ∧ SfOk K mg tab
  len : ∃ tab, SpF P w K mg base L "__len__" Γ.lenT tab
  ix : ∃ tab, SpF P w K mg base L "__getitem__" Γ.ixT tab ∧ IxOk K tab
  smts : ∀ (i : Nat) m T, Γ.smts[i]? = some (m, T) → ∃ tab : Str → Option MeS, (∀ c, (tab c).map MeS.r = T.lookup c) ∧ ∀ c C me, tab c = some me → mg c = some (.ref C) → MsF P w K mg base L me ∧ Cls K C ∧ Meth K C m me.f
  it : ∃ itab : ITab, (∀ c, (itab c).map (·.sem) = Γ.itT.lookup c) ∧ ∀ c C me, itab c = some me → mg c = some (.ref C) → ItF P w K mg base L C me
/-- a place in the program's text -/
structure Ct (Γ : GE) (L : Nat) (X : Cx) (E : XK) : Prop where
  gf : GF Γ L X.prog X.w X.K X.mg X.base
  room : Room L X.A
  calm : X.calm = true
  nd : X.N.Nodup
  ps : Passes (L2.CX X.prog X.w) X E
  tk : Takes X (We E)
  po : PassesOwn (model X.prog X.w) X.A X.env X.xe
theorem MeF.at {P : Program} {w : World} {K : PySem.W.Frag} {mg : Str → Option Value} {base : Heap} {L : Nat} {m : Me} (h : MeF P w K mg base L m) {X : Cx} (e1 : X.prog = P) (e2 : X.w = w) (e3 : X.K = K) (e4 : X.mg = mg) (e5 : X.base = base) (r : Room L X.A) : MeOk X m := by
  subst e1 e2 e3 e4 e5
  exact ⟨h.ok, r.mono (by have := h.lv; omega), h.binds, h.rd, h.kp⟩
section
variable {Γ : GE} {L : Nat} {X : Cx} {E : XK}
theorem SpF.at (c : Ct Γ L X E) {m : Str} {T : RTab} {tab : MTab} (h : SpF X.prog X.w X.K X.mg X.base L m T tab) : SpT X m tab := fun cc C me a b =>
  let ⟨h1, h2, h3⟩ := h.me cc C me a b
  ⟨h1.at rfl rfl rfl rfl rfl c.room, h2, h3⟩
theorem Ct.blk (c : Ct Γ L X E) (s : Shared) (H : Hp) (scope : Scope) (cl : List (Str × Addr)) (C : Addr) (fp : List Addr) : Ct Γ L (X.blk s H scope (compEnvC scope cl C X.env) fp) C8.E0 :=
  ⟨c.gf, c.room, c.calm, c.nd, passes_call takes0 (fun _ _ _ _ h => h), takes0, PassesOwn.never⟩
theorem Ct.body {P : Program} {w : World} {K : PySem.W.Frag} {mg : Str → Option Value} {base : Heap} {N : List Str} {qual : Str} {scope : Scope} {f : Addr} {cdv : Value} {A : Around} {outer : List Env} {s : Shared} {H : Hp} (gf : GF Γ L P w K mg base) (nd : N.Nodup) (r : Room L (A.deeper (envOfC qual scope s.heap.objs.size f cdv))) :
    Ct Γ L (cxOf (L2.CX P w) P w K mg base N qual scope f cdv A outer s H E) E :=
  ⟨gf, r, rfl, nd, passes_call (takes_of rfl rfl rfl rfl) (fun _ _ _ _ h => h), takes_of rfl rfl rfl rfl, passes_of rfl⟩
def OpOk (X : Cx) (E : XK) (op : Value → Value → Sem Value) (f : F2X) : Prop := ∃ r, OpR X op r ∧ P2X X.K X.mg E r f
theorem or_map {a b : Option Bool} {f : Bool → D} : (a.or b).map f = (a.map f).or (b.map f) := by cases a <;> rfl
theorem Ct.u64 (c : Ct Γ L X E) : X.A.units + 64 < cLine := c.room.units
theorem Ct.u65 (c : Ct Γ L X E) : X.A.units + 65 < cLine := by have := c.room.un; omega
theorem p2x_bad {r : R2} : P2X X.K X.mg E r (fun _ _ _ _ => .bad) := fun _ _ _ _ _ _ _ _ _ _ _ _ _ _ _ _ _ h => h.elim
theorem opr_no {f : Value → Value → Sem Value} : OpR X f (fun _ _ _ _ => False) := fun _ _ _ _ _ _ _ _ _ _ _ _ h => h.elim
theorem bin_ok (c : Ct Γ L X E) (op : Operator) : OpOk X E (binaryOp op) (evBin Γ op) := by
  cases op
  case Add =>
    obtain ⟨tab, h, sf⟩ := c.gf.add
    refine ⟨_, (op_ownBin (op := .Add) (E := E) (cs := Γ.known) (SpF.at c h) c.gf.cls c.ps).or (op_add.or (op_add_str.or (op_cat.or op_catA))), ?_⟩
    show P2X _ _ _ _ (fOwnBinP Γ.addT Γ.known (lift2X addD))
    rw [← fOwnBin_eq h.tr]
    exact p2_ownBin h.rd sf fill_add ((p2_int0.or (p2_catS.or (p2_catL.or p2_catT))).x)
  case Sub =>
    obtain ⟨tab, h, sf⟩ := c.gf.sub
    refine ⟨_, (op_ownBin (op := .Sub) (E := E) (cs := Γ.known) (SpF.at c h) c.gf.cls c.ps).or op_sub, ?_⟩
    show P2X _ _ _ _ (fOwnBinP Γ.subT Γ.known (lift2X subD))
    rw [← fOwnBin_eq h.tr]
    exact p2_ownBin h.rd sf fill_sub p2_int0.x
  case Mult => exact ⟨_, op_mulW.or op_rep, (p2_mul.or p2_repL).x⟩
  case FloorDiv => exact ⟨_, op_fdivW, p2_fdiv.x⟩
  case Mod => exact ⟨_, op_mod, p2_mod.x⟩
  case Pow => exact ⟨_, op_pow, p2_pow.x⟩
  all_goals exact ⟨_, opr_no, p2x_bad⟩
theorem cmp_ok (c : Ct Γ L X E) (op : CmpOp) : OpOk X E (compareOp op) (evCmp Γ op) := by
  cases op
  case Eq =>
    obtain ⟨tab, h, nf, ne⟩ := c.gf.eq
    refine ⟨_, (op_ownEq (E := E) (cs := Γ.known) (SpF.at c h) c.gf.cls c.ps).or (op_eqD c.u64), ?_⟩
    show P2X _ _ _ _ (fOwnEqP Γ.eqT Γ.known id _)
    rw [← fOwnEq_eq h.tr]
    exact p2_ownEq h.rd nf p2_eqD.x
  case NotEq =>
    obtain ⟨tab, h, nf, ne⟩ := c.gf.eq
    refine ⟨_, (op_ownNe (E := E) (cs := Γ.known) (SpF.at c h) c.gf.cls c.ps).or (op_neD c.u64), ?_⟩
    show P2X _ _ _ _ (fOwnEqP Γ.eqT Γ.known _ _)
    rw [← fOwnEq_eq h.tr]
    exact p2_ownNe h.rd nf ne p2_neD.x
  case In =>
    obtain ⟨tab, h⟩ := c.gf.inn
    refine ⟨_, (op_ownIn (E := E) (SpF.at c h) c.ps).or (((op_inD c.u65).or (op_inT c.u65)).or op_in_str), ?_⟩
    show P2X _ _ _ _ (fOwnInP Γ.inT _ _)
    rw [← fOwnIn_eq h.tr]
    exact p2_ownIn h.rd ((p2_inL.or (p2_inT (neg := false))).or p2_inS).x
  case NotIn =>
    obtain ⟨tab, h⟩ := c.gf.inn
    refine ⟨_, (op_ownNotIn (E := E) (SpF.at c h) c.ps).or (((op_notInD c.u65).or (op_notInT c.u65)).or op_notin_str), ?_⟩
    show P2X _ _ _ _ (fOwnInP Γ.inT _ _)
    rw [← fOwnIn_eq h.tr]
    exact p2_ownIn h.rd ((p2_notInL.or (p2_inT (neg := true))).or p2_notInS).x
  case Lt => exact ⟨_, op_lt, p2_intB.x⟩
  case LtE => exact ⟨_, op_le, p2_intB.x⟩
  case Gt => exact ⟨_, op_gt, (p2_intB (g := fun i j => decide (j < i))).x⟩
  case GtE => exact ⟨_, op_ge, (p2_intB (g := fun i j => decide (j ≤ i))).x⟩
  case Is => exact ⟨_, op_isN, p2_isN.x⟩
  case IsNot => exact ⟨_, op_notN, p2_notN.x⟩
end
end DL
namespace DL
open PySem PySem.Spec L2
open PyProof.Rows hiding St
variable [Tbl]
/-- what stands as an index where an own method may be asked -/
def OwnSl (b : Expr) : Prop := ∀ o i, subscripted b true o i = runValue (.builtin "lifetime.subscript" ⟨[o, i], []⟩)
section
variable {X : Cx} {E : XK} {a b : Expr} {ta tb : TE} {pos : Pos} {tab : MTab}
theorem pe_ownIx (hT : SpT X "__getitem__" tab) (hx : Passes (L2.CX X.prog X.w) X E) (ha : PE X a ta) (hb : PE X b tb) (hs : OwnSl b) : PE X (.Subscript a b pos) (tOp (rOwnIx X.K X.mg tab E) ta tb) := by
  refine ⟨fun pins s σ H Q I h => ?_⟩
  refine Subscript_ (binT ha hb I h fun v u s2 x y H2 I2 rx ry ⟨C, me, o, hf, q⟩ => ?_)
  obtain ⟨p, ox, od, rfl, rfl, J, m⟩ := o.inst hT I2 rx
  obtain ⟨m0, hF⟩ := I2.fr
  have hr := m.room
  exact PySem.W.sub_K hF I2.ok.mod.kin J m.find hf m.isfn (run_at (us := [.ref p, u]) m.toMeOk hr.in1 rfl hx I2 (.cons rx (.cons ry .nil)) q) (hs _ _)
end
def fOwnIxP (T : RTab) : F2X := fun x y γ S => fOwnP T some x [y] (fun _ => true) .bad γ S
/-- x[y]: an own method where the class has one in the table -/
def fSubX (T : RTab) (fa fb : F) : F := fun γ S => match fa γ S with
  | .ok x S1 => (match clsV x S1 with
    | some _ => fOpX (fOwnIxP T) fa fb γ S
    | none => fSub ixD fa fb γ S)
  | .exc c fs γ' S' => .exc c fs γ' S'
  | .bad => .bad
section
variable {K : PySem.W.Frag} {mg : Str → Option Value} {E : XK} {tab : MTab} {T : RTab}
theorem p2_ownIx (ht : TabR tab T) (hD : TabD K mg tab) (hI : IxOk K tab) : P2X K mg E (rOwnIx K mg tab E) (fOwnIxP T) := by
  intro g γ σ Q B S ρ H v u x y hl rep e rx ry hw
  unfold fOwnIxP at hw
  rw [← fOwn_eq ht] at hw
  rcases fOwn_cases hw with ⟨c, me, hc, ht, hk, hw⟩ | hw
  · obtain ⟨C, o, hm, sp⟩ := own_go hD hl rep e rx (.cons ry .nil) hc ht hw postI_ok
    exact ⟨C, me, o, hI c me ht, sp⟩
  · exact hw.elim
theorem sim_subX (ht : TabR tab T) (hD : TabD K mg tab) (hI : IxOk K tab) {r : R2} (hr : P2 K mg r ixD) {ta tb : TE} {fa fb : F} (ha : Sim K mg (We E) ta fa) (hb : Sim K mg (We E) tb fb) :
    Sim K mg (We E) (tOr (tOp (rOwnIx K mg tab E) ta tb) (tOr (tDGet ta tb) (tOp r ta tb))) (fSubX T fa fb) := by
  refine sim_or fun γ S => ?_
  cases q : fa γ S with
  | ok x S1 =>
    cases q2 : clsV x S1 with
    | some c => exact .inl ⟨fOpX (fOwnIxP T) fa fb, (by unfold fSubX; rw [q]; simp only [q2]), sim_opX (p2_ownIx ht hD hI) ha hb⟩
    | none => exact .inr ⟨fSub ixD fa fb, (by unfold fSubX; rw [q]; simp only [q2]), sim_sub hr ha hb⟩
  | exc c fs γ' S' =>
    refine .inr ⟨fSub ixD fa fb, ?_, sim_sub hr ha hb⟩
    unfold fSubX fSub fOp; rw [q]; rfl
  | bad =>
    refine .inr ⟨fSub ixD fa fb, ?_, sim_sub hr ha hb⟩
    unfold fSubX fSub fOp; rw [q]; rfl
end
end DL
namespace DL
open PySem PySem.Spec L2
open PyProof.Rows hiding St
variable [Tbl]
inductive Ty where
  | E | T | A | I | S | B | P | O | C | M
inductive BI where
  | len | all | any | int | bool | list | tup | sort
  deriving DecidableEq
inductive MK where
  | app | ext | pop
  deriving DecidableEq
inductive ME : Ty → Type where
  | var (i : Nat) : ME .E
  | con (d : D) : ME .E
  | glob (i : Nat) : ME .E
  | bin (op : Operator) (a b : ME .E) : ME .E
  | cmp (op : CmpOp) (a b : ME .E) : ME .E
  | chn (o1 o2 : CmpOp) (a b c : ME .E) : ME .E
  | ofT (t : ME .T) : ME .E
  | ite (t : ME .T) (a b : ME .E) : ME .E
  | tup (as : ME .A) : ME .E
  | lst (as : ME .A) : ME .E
  | lstC (as : ME .A) : ME .E
  | callF (i : Nat) (as : ME .A) : ME .E
  | callB (b : BI) (as : ME .A) : ME .E
  | make (i : Nat) (im : Bool) (as : ME .A) : ME .E
  | meth (i : Nat) (o : ME .E) (as : ME .A) : ME .E
  | mutL (k : MK) (o : ME .E) (as : ME .A) : ME .E
  | get2 (o a b : ME .E) : ME .E
  | isi (e : ME .E) (c : CV) : ME .E
  | isiT (e : ME .E) (cs : List CV) : ME .E
  | sortS (a : ME .E) : ME .E
  | lenS (a : ME .E) : ME .E
  | dictP (a : ME .E) : ME .E
  | fld (i : Nat) (e : ME .E) : ME .E
  | sub (a b : ME .E) : ME .E
  | sl (a : ME .E) (l u : ME .O) : ME .E
  | revL (a : ME .E) : ME .E
  | lc (tg : Tg) (vs : List Nat) (i : ME .I) (c : ME .C) (e : ME .E) : ME .E
  | lc2 (tg : Tg) (vs : List Nat) (i : ME .I) (c : ME .C) (tg1 : Tg) (vs1 : List Nat) (i1 : ME .I) (c1 : ME .C) (e : ME .E) : ME .E
  | dc (tg : Tg) (vs : List Nat) (i : ME .I) (c : ME .C) (k v : ME .E) : ME .E
  | disp (ps : ME .P) : ME .E
  | dnew : ME .E
  | frz (e : ME .E) : ME .E
  | lerr (i : Nat) (e : ME .E) : ME .E
  | nev : ME .E
  | val (e : ME .E) : ME .T
  | and (a b : ME .T) : ME .T
  | or (a b : ME .T) : ME .T
  | not (a : ME .T) : ME .T
  | cnil : ME .C
  | cone (t : ME .T) : ME .C
  | anil : ME .A
  | acons (e : ME .E) (r : ME .A) : ME .A
  | astar (e : ME .E) (r : ME .A) : ME .A
  | any (e : ME .E) : ME .I
  | rng1 (as : ME .A) : ME .I
  | rng2 (as : ME .A) : ME .I
  | onone : ME .O
  | osome (e : ME .E) : ME .O
  | pnil : ME .P
  | pcons (k v : ME .E) (r : ME .P) : ME .P
  | expr (e : ME .E) : ME .S
  | ret (e : ME .E) : ME .S
  | retN : ME .S
  | asg (tg : Tg) (e : ME .E) : ME .S
  | asgLc (i : Nat) (tg : Tg) (vs : List Nat) (it : ME .I) (c : ME .C) (e : ME .E) : ME .S
  | par (is : List Nat) (as : ME .A) : ME .S
  | iff (c : ME .T) (b1 b2 : ME .B) : ME .S
  | forr (tg : Tg) (i : ME .I) (b : ME .B) : ME .S
  | whil (n : Nat) (c : ME .T) (b : ME .B) : ME .S
  | pass : ME .S
  | brk : ME .S
  | cont : ME .S
  | fldS (i : Nat) (o v : ME .E) : ME .S
  | subS (v o i : ME .E) : ME .S
  | rai (i : Nat) (as : ME .A) : ME .S
  | nevS : ME .S
  | bnil : ME .B
  | bcons (s : ME .S) (b : ME .B) : ME .B
  | bnev : ME .B
  | neg (e : ME .E) : ME .E
  | subX (a b : ME .E) : ME .E
  | methS (i : Nat) (o : ME .E) (as : ME .A) : ME .E
  | sumL (a : ME .E) : ME .E
  | mat (e : ME .E) (m : ME .M) : ME .S
  | enum (as : ME .A) : ME .I
  | mnil : ME .M
  | mcons (ps : List Str) (b : ME .B) (m : ME .M) : ME .M
def Den : Ty → Type
  | .E => F
  | .T => FT
  | .A => FA
  | .I => FI
  | .S => FS
  | .B => FS
  | .P => FP
  | .O => FO
  | .C => FT
  | .M => Vl → FS
def fBad : F := fun _ _ => .bad
def fYes : FT := fun _ S => .ok true S
def negD : D → Option D
  | .int i => some (.int (-i))
  | _ => none
def cmpD : CmpOp → D → D → Option D
  | .Eq => fun a b => (eqD a b).map D.bl
  | .NotEq => fun a b => (eqD a b).map fun c => D.bl (!c)
  | .Lt => intOp0 fun i j => .bl (decide (i < j))
  | .LtE => intOp0 fun i j => .bl (decide (i ≤ j))
  | .Gt => intOp0 fun i j => .bl (decide (j < i))
  | .GtE => intOp0 fun i j => .bl (decide (j ≤ i))
  | _ => fun _ _ => none
def fListOwnP (itT : List (Str × FnS)) (lenT : RTab) (els : F1X) : F1X := fun xs γ S => match xs with
  | [x] => match clsV x S with
    | some c => match itT.lookup c, lenT.lookup c with
      | some mi, some ml => (callSem (arity 1 mi) [x] γ S).nox.bind fun y S1 => match y with
        | .im (.lst ds) => if clsV x S1 = some c then (ml.go [x] γ S1).nox.bind fun n S2 => match n with
            | .im (.int k) => if 0 ≤ k ∧ k ≤ 16777216 then .ok (.im (.lst ds)) S2 else .bad
            | _ => .bad
          else .bad
        | .im (.tup ds) => if clsV x S1 = some c then (ml.go [x] γ S1).nox.bind fun n S2 => match n with
            | .im (.int k) => if 0 ≤ k ∧ k ≤ 16777216 then .ok (.im (.lst ds)) S2 else .bad
            | _ => .bad
          else .bad
        | _ => .bad
      | _, _ => els xs γ S
    | none => els xs γ S
  | _ => els xs γ S
def ownIP (itT : List (Str × FnS)) (f : F) : FI := fun γ S => (f γ S).bind fun x S1 => match clsV x S1 with
  | none => .bad
  | some c => match itT.lookup c with
    | none => .bad
    | some me => (callSem (arity 1 me) [x] γ S1).nox.bind fun y S2 => match y with
      | .im (.lst ds) => .ok (fun _ => some ds) S2
      | .im (.tup ds) => .ok (fun _ => some ds) S2
      | _ => .bad
def anyIP (itT : List (Str × FnS)) (f : F) : FI := fun γ S => (f γ S).bind fun x S1 => match wkOf x S1 with
  | .lst => lstI f γ S
  | .tup => tupI f γ S
  | .str => strI f γ S
  | .key => keysI' f γ S
  | .own => ownIP itT f γ S
def one (g : D → Option D) : List D → Option D := fun ds => match ds with
  | [d] => g d
  | _ => none
def evB (Γ : GE) : BI → F1X
  | .len => fOwnLenP Γ.lenT (liftCX lenD)
  | .all => liftCX allD
  | .any => liftCX anyD
  | .int => liftCX intD
  | .bool => liftCX boolD
  | .list => fListOwnP Γ.itT Γ.lenT (liftCX listD)
  | .tup => liftCX tupD
  | .sort => liftCX (one sortD)
def MK.b : MK → Bool
  | .ext => false
  | _ => true
def MK.g : MK → List D → List D → Option (D × List D)
  | .app => appD
  | .ext => extD
  | .pop => popD
def fMethP (m : Str) (T : RTab) (fo : F) (fa : FA) : F := fun γ S => (fo γ S).bind fun x S1 => match (x.view S1).bind (D.clsNo m) with
  | none => .bad
  | some c => match T.lookup c with
    | none => .bad
    | some r => (fa γ S1).bind fun xs S2 => r.go (x :: xs) γ S2
def fRaiseE (c : Str) (fs : List Str) (fa : FA) : FS := match fs with
  | [] => fRaise0 c
  | f :: fs => fRaise c (f :: fs) fa
def inB (l : List Str) : Str → Bool := fun c => decide (c ∈ l)
def errD : List EN → Str → List (Str × D) → Option (List D)
  | [], _, _ => some []
  | en :: r, c, fs => if c = en.cls then (if SOk en.tag then (match en.fld with
      | some f => (fs.lookup f).bind fun d => (errD r c fs).map ((if en.alone = true then d else D.tup [.str en.tag, d]) :: ·)
      | none => (errD r c fs).map (D.str en.tag :: ·)) else none)
    else errD r c fs
/-- the error of a call, told as a list -/
def fErr (ens : List EN) (known : List Str) (f : F) : F := fun γ S => match f γ S with
  | .ok _ S1 => .ok (.im (.lst [])) S1
  | .exc c fs _ S1 => if c ∈ known then R.ofO ((errD ens c fs).map .lst) S1 else .bad
  | .bad => .bad
structure GX where
  flds : List (Str × List Str) := []
def ev (Γ : GE) (G : GX) : {τ : Ty} → ME τ → Den τ
  | _, .var i => fVar i
  | _, .con d => fC d
  | _, .glob i => match Γ.cons[i]? with
    | some p => fC p.2
    | none => fBad
  | _, .bin op a b => fOpX (evBin Γ op) (ev Γ G a) (ev Γ G b)
  | _, .cmp op a b => fOpX (evCmp Γ op) (ev Γ G a) (ev Γ G b)
  | _, .chn o1 o2 a b c => fChain (cmpD o1) (cmpD o2) (ev Γ G a) (ev Γ G b) (ev Γ G c)
  | _, .ofT t => fOfT (ev Γ G t)
  | _, .ite t a b => fIf (ev Γ G t) (ev Γ G a) (ev Γ G b)
  | _, .tup as => fTup (ev Γ G as)
  | _, .lst as => fLst (ev Γ G as)
  | _, .lstC as => fLstC (ev Γ G as)
  | _, .callF i as => match Γ.fns[i]? with
    | some p => fCall (arity p.2.n p.2.sem) p.2.dd (ev Γ G as)
    | none => fBad
  | _, .callB b as => fCBX (evB Γ b) (ev Γ G as)
  | _, .make i im as => match Γ.mks[i]? with
    | some p => fMake p.1 (arity p.2.n p.2.sem) p.2.dd (ev Γ G as) im
    | none => fBad
  | _, .meth i o as => match Γ.mts[i]? with
    | some p => fMethP p.1 p.2 (ev Γ G o) (ev Γ G as)
    | none => fBad
  | _, .mutL k o as => fMut k.b k.g (ev Γ G o) (ev Γ G as)
  | _, .get2 o a b => fGet2 (ev Γ G o) (ev Γ G a) (ev Γ G b)
  | _, .isi e c => fUn (isD Γ.is Γ.known c) (ev Γ G e)
  | _, .isiT e cs => fUn (isTD Γ.is Γ.known cs) (ev Γ G e)
  | _, .sortS a => fUn sortSetD (ev Γ G a)
  | _, .lenS a => fUn lenSetD (ev Γ G a)
  | _, .dictP a => fDictP (ev Γ G a)
  | _, .fld i e => match G.flds[i]? with
    | some p => fUn (D.fldIn p.1 (inB p.2)) (ev Γ G e)
    | none => fBad
  | _, .sub a b => fSub ixD (ev Γ G a) (ev Γ G b)
  | _, .sl a l u => fSl (ev Γ G a) (ev Γ G l) (ev Γ G u)
  | _, .revL a => fUn revLD (ev Γ G a)
  | _, .lc tg vs i c e => fLc (ev Γ G i) tg vs (bIf (ev Γ G c) (bElt (ev Γ G e)))
  | _, .lc2 tg vs i c tg1 vs1 i1 c1 e => fLc (ev Γ G i) tg vs (bIf (ev Γ G c) (bFor (ev Γ G i1) tg1 vs1 (bIf (ev Γ G c1) (bElt (ev Γ G e)))))
  | _, .dc tg vs i c k v => fDc (ev Γ G i) tg vs (kIf (ev Γ G c) (kElt (ev Γ G k) (ev Γ G v)))
  | _, .disp ps => fDisp (ev Γ G ps)
  | _, .dnew => fC (.dct false [])
  | _, .frz e => fFreeze (ev Γ G e)
  | _, .lerr i e => match Γ.errs[i]? with
    | some p => fErr p.2.ens p.2.known (ev Γ G e)
    | none => fBad
  | _, .nev => fBad
  | _, .val e => fTest (ev Γ G e)
  | _, .and a b => fAnd (ev Γ G a) (ev Γ G b)
  | _, .or a b => fOr (ev Γ G a) (ev Γ G b)
  | _, .not a => fNot (ev Γ G a)
  | _, .cnil => fYes
  | _, .cone t => @ev Γ G .T t
  | _, .anil => fNil
  | _, .acons e r => fCons (ev Γ G e) (ev Γ G r)
  | _, .astar e r => fStar (ev Γ G e) (ev Γ G r)
  | _, .any e => anyIP Γ.itT (ev Γ G e)
  | _, .rng1 as => rngI1 (ev Γ G as)
  | _, .rng2 as => rngI2 (ev Γ G as)
  | _, .onone => fNoPart
  | _, .osome e => fPart (ev Γ G e)
  | _, .pnil => fPNil
  | _, .pcons k v r => fPCons (ev Γ G k) (ev Γ G v) (ev Γ G r)
  | _, .expr e => fExpr (ev Γ G e)
  | _, .ret e => fRet (ev Γ G e)
  | _, .retN => fRetN
  | _, .asg tg e => fAsg (ev Γ G e) tg.fg
  | _, .asgLc i tg vs it c e => fAsg (fLc (ev Γ G it) tg vs (bIf (ev Γ G c) (bElt (ev Γ G e)))) (gSet i)
  | _, .par is as => fPar is (ev Γ G as)
  | _, .iff c b1 b2 => fIfS (ev Γ G c) (ev Γ G b1) (ev Γ G b2)
  | _, .forr tg i b => fFor (ev Γ G i) tg (ev Γ G b)
  | _, .whil n c b => fwhile (ev Γ G c) (ev Γ G b) n
  | _, .pass => fSkip
  | _, .brk => fBreak
  | _, .cont => fCont
  | _, .fldS i o v => match G.flds[i]? with
    | some p => fFldS p.1 (inB p.2) (ev Γ G o) (ev Γ G v)
    | none => fNever
  | _, .subS v o i => fSubS (ev Γ G v) (ev Γ G o) (ev Γ G i)
  | _, .rai i as => match Γ.exs[i]? with
    | some p => fRaiseE p.1 p.2 (ev Γ G as)
    | none => fNever
  | _, .nevS => fNever
  | _, .bnil => fSkip
  | _, .bcons s b => fSeq (ev Γ G s) (ev Γ G b)
  | _, .bnev => fNever
  | _, .neg e => fUn negD (ev Γ G e)
  | _, .subX a b => fSubX Γ.ixT (ev Γ G a) (ev Γ G b)
  | _, .methS i o as => match Γ.smts[i]? with
    | some p => fMethS p.1 p.2 (ev Γ G o) (ev Γ G as)
    | none => fBad
  | _, .sumL a => fUn sumLD (ev Γ G a)
  | _, .mat e m => fMat (ev Γ G e) (ev Γ G m)
  | _, .mnil => fMNil
  | _, .enum as => enumI (ev Γ G as)
  | _, .mcons ps b m => fMCons (evCmp Γ .Eq) ps (ev Γ G b) (ev Γ G m)
structure SC where
  N : List Str
  sc : Scope
  fn : Str → Bool
  qual : Str
@[reducible] def Syn : Ty → Type
  | .E => Expr
  | .T => Expr
  | .A => List Expr
  | .I => Expr
  | .S => Stmt
  | .B => List Stmt
  | .P => List (Option Expr) × List Expr
  | .O => Option Expr
  | .C => List Expr
  | .M => List MatchCase
def strB (a b : Str) : Bool := decide (a = b)
def SC.kind (s : SC) (x : Str) : Option NameKind := s.sc.names.lookup x
def visB (s : SC) (x : Str) : Bool := match s.kind x with
  | some .local => true
  | some .cell => true
  | some .free => true
  | _ => false
def dunB (x : Str) : Bool := !(x == ("__debug__" : Str)) && !(x == ("__classdict__" : Str))
def glB (s : SC) (x : Str) : Bool := (match s.kind x with
  | some .globalImplicit => true
  | _ => false) && !(x == ("__debug__" : Str)) && !strB x "__name__"
def atB (s : SC) (i : Nat) (x : Str) : Bool := match s.N[i]? with
  | some y => strB y x
  | none => false
def stoB (s : SC) (x : Str) : Bool := match s.kind x with
  | some .local => true
  | some .cell => s.fn x
  | _ => false
def conB : D → Const → Bool
  | .non, .none => true
  | .bl a, .bool b => a == b
  | .int a, .int b => decide (a = b)
  | .str a, .str b => strB a b && decide (SOk a)
  | _, _ => false
def nsup : Expr → Bool
  | .Call (.Name _ _) [] [] _ => false
  | _ => true
def nstar : Expr → Bool
  | .Starred _ _ => false
  | _ => true
def nset : Expr → Bool
  | .Set _ _ _ => false
  | _ => true
def nsl : Expr → Bool
  | .Slice _ _ _ _ => false
  | _ => true
def ncomp : Expr → Bool
  | .ListComp _ _ _ _ => false
  | .SetComp _ _ _ _ => false
  | .DictComp _ _ _ _ _ => false
  | _ => true
/-- an expression whose test is its value's truth -/
def ptest : Expr → Bool
  | .BoolOp _ _ _ => false
  | .UnaryOp .Not _ _ => false
  | .Compare _ _ _ _ => false
  | .IfExp _ _ _ _ => false
  | .NamedExpr _ _ _ => false
  | _ => true
def relS (scope outer : Scope) : Scope :=
  { scope with names := scope.names.map fun (n, k) => if (k == .free && outer.kind == .function && outer.names.lookup n == some .cell) then (n, .cell) else (n, k) }
def SC.blk (s : SC) (scope : Scope) : SC := ⟨s.N, relS scope s.sc, fun x => scope.names.lookup x == some .cell, s.qual⟩
def ownOf (s : SC) (vs : List Nat) : List (Str × Nat) := vs.map fun i => (s.N.getD i Str.empty, i)
mutual
def chkG (s : SC) : Tg → Expr → Bool
  | .name i, .Name x _ => atB s i x && stoB s x
  | .tup n ts, .Tuple es _ _ => chkGs s ts es && decide (es.length = n)
  | _, _ => false
def chkGs (s : SC) : Tg → List Expr → Bool
  | .nil, [] => true
  | .cons h t, e :: es => chkG s h e && nstar e && chkGs s t es
  | _, _ => false
end
def biName : BI → Str
  | .len => "len"
  | .all => "all"
  | .any => "any"
  | .int => "int"
  | .bool => "bool"
  | .list => "list"
  | .tup => "tuple"
  | .sort => "sorted"
def mkName : MK → Str
  | .app => "append"
  | .ext => "extend"
  | .pop => "pop"
def bltB (Γ : GE) (s : SC) (x y : Str) : Bool := strB x y && glB s x && decide (x ∈ Γ.blt)
def cvB (Γ : GE) (s : SC) : CV → Expr → Bool
  | .bt n, .Name x _ => bltB Γ s x (Str.ofString n) && decide (n ∈ (["int", "bool", "str", "list", "tuple", "dict"] : List String))
  | .own c, .Name x _ => strB x c && glB s x && decide (c ∈ Γ.cls)
  | _, _ => false
def cvsB (Γ : GE) (s : SC) : List CV → List Expr → Bool
  | [], [] => true
  | c :: cs, e :: es => cvB Γ s c e && nstar e && cvsB Γ s cs es
  | _, _ => false
def nameAt {α : Type} (l : List (Str × α)) (i : Nat) (x : Str) : Bool := match l[i]? with
  | some p => strB p.1 x
  | none => false
def lineB (apos pos : Pos) : Bool := apos.endLine == pos.line
/-- the statement [x] = e is stored as it stands -/
def plainAsg (s : SC) (tg : Expr) (e : Expr) : Bool := ncomp e || (match tg with
  | .Name t pos => !(s.kind t == some .local && pos.line == e.pos.line)
  | _ => true)
def notSwapped (s : SC) (tg : Expr) (e : Expr) : Bool := match tg, e with
  | .Tuple ts _ _, .Tuple vs _ _ => !(ts.length == 2 || ts.length == 3) || vs.length != ts.length || ts.any fun t => match t with
    | .Name id _ => !(s.kind id == some .local)
    | _ => true
  | .List _ _, .Tuple _ _ _ => false
  | _, _ => true
/-- a, b = x, y stored from the right -/
def swapped (s : SC) (is : List Nat) (ts vs : List Expr) : Bool :=
  (match is, ts with
    | [i, j], [.Name x p, .Name y q] => atB s i x && atB s j y && s.kind x == some .local && s.kind y == some .local && !strB x y && decide (i ≠ j) && p.line == q.line
    | [i, j, k], [.Name x p, .Name y q, .Name z r] => atB s i x && atB s j y && atB s k z && s.kind x == some .local && s.kind y == some .local && s.kind z == some .local && !strB x y && !strB x z && !strB y z && decide (i ≠ j) && decide (i ≠ k) && decide (j ≠ k) && p.line == q.line && p.line == r.line
    | _, _ => false) && decide (vs.length = ts.length) && vs.all nstar && decide (s.sc.kind = .function) && !(vs.all (foldedForSure 8)) && !(vs.all (constantsAlone 8))
def tgB : ME .I → Expr → Bool
  | .enum _, .Tuple _ _ _ => true
  | .enum _, _ => false
  | _, _ => true
def nsetT (i : ME .I) (tg it : Expr) : Bool := nset it && tgB i tg
def patV1 (p : Str) : Pattern → Bool
  | .MatchValue (.Constant (.str q) _ _) _ => strB p q && decide (SOk p)
  | _ => false
def patsB : List Str → List Pattern → Bool
  | [], [] => true
  | p :: ps, q :: qs => patV1 p q && patsB ps qs
  | _, _ => false
def patB : List Str → Pattern → Bool
  | [p], .MatchValue (.Constant (.str q) _ _) _ => strB p q && decide (SOk p)
  | p :: ps, .MatchOr qs _ => patsB (p :: ps) qs
  | _, _ => false
def raiB (Γ : GE) (i : Nat) (es : List Expr) : Bool := match Γ.exs[i]? with
  | some (_, []) => (match es with
    | [.Constant (.str _) _ _] => true
    | _ => false)
  | some (_, _ :: _) => (match es with
    | [] => false
    | _ => true)
  | none => false
def chk (Γ : GE) (G : GX) : {τ : Ty} → ME τ → SC → Syn τ → Bool
  | _, .var i, s, oo => match oo with
    | .Name x _ => atB s i x && visB s x && dunB x
    | _ => false
  | _, .con d, s, oo => match oo with
    | .Constant c _ _ => conB d c
    | _ => false
  | _, .glob i, s, oo => match oo with
    | .Name x _ => nameAt Γ.cons i x && glB s x
    | _ => false
  | _, .bin op a b, s, oo => match oo with
    | .BinOp x op' y _ => decide (op = op') && chk Γ G a s x && chk Γ G b s y
    | _ => false
  | _, .cmp op a b, s, oo => match oo with
    | .Compare x [op'] [y] _ => decide (op = op') && !behindInMarks op' y && chk Γ G a s x && chk Γ G b s y
    | _ => false
  | _, .chn o1 o2 a b c, s, oo => match oo with
    | .Compare x [p1, p2] [y, z] _ => decide (o1 = p1) && decide (o2 = p2) && !lastMarks [p1, p2] [y, z] && chk Γ G a s x && chk Γ G b s y && chk Γ G c s z
    | _ => false
  | _, .ofT t, s, e => chk Γ G t s e
  | _, .ite t a b, s, oo => match oo with
    | .IfExp x y z _ => chk Γ G t s x && chk Γ G a s y && chk Γ G b s z
    | _ => false
  | _, .tup as, s, oo => match oo with
    | .Tuple es _ _ => chk Γ G as s es
    | _ => false
  | _, .lst as, s, oo => match oo with
    | .List es _ => chk Γ G as s es
    | _ => false
  | _, .lstC as, s, oo => match oo with
    | .List es _ => chk Γ G as s es
    | _ => false
  | _, .callF i as, s, oo => match oo with
    | .Call (.Name x _) (e :: es) [] _ => nameAt Γ.fns i x && glB s x && (e :: es).all nstar && chk Γ G as s (e :: es)
    | _ => false
  | _, .callB b as, s, oo => match oo with
    | .Call (.Name x _) (e :: es) [] _ => bltB Γ s x (biName b) && (e :: es).all nstar && chk Γ G as s (e :: es)
    | _ => false
  | _, .make i _ as, s, oo => match oo with
    | .Call (.Name x _) (e :: es) [] _ => nameAt Γ.mks i x && glB s x && (e :: es).all nstar && chk Γ G as s (e :: es)
    | _ => false
  | _, .meth i o as, s, oo => match oo with
    | .Call (.Attribute eo m apos) es [] pos => nameAt Γ.mts i m && nsup eo && es.all nstar && decide (es.length < 20) && lineB apos pos && chk Γ G o s eo && chk Γ G as s es
    | _ => false
  | _, .mutL k o as, s, oo => match oo with
    | .Call (.Attribute eo m apos) es [] pos => strB m (mkName k) && nsup eo && es.all nstar && decide (es.length < 20) && decide (es.length = if k = .pop then 0 else 1) && lineB apos pos && chk Γ G o s eo && chk Γ G as s es
    | _ => false
  | _, .get2 o a b, s, oo => match oo with
    | .Call (.Attribute eo m apos) [ea, eb] [] pos => strB m "get" && nsup eo && nstar ea && nstar eb && lineB apos pos && chk Γ G o s eo && chk Γ G a s ea && chk Γ G b s eb
    | _ => false
  | _, .isi e c, s, oo => match oo with
    | .Call (.Name x _) [ee, ec] [] _ => bltB Γ s x "isinstance" && nstar ee && nstar ec && chk Γ G e s ee && cvB Γ s c ec
    | _ => false
  | _, .isiT e cs, s, oo => match oo with
    | .Call (.Name x _) [ee, .Tuple ts _ _] [] _ => bltB Γ s x "isinstance" && nstar ee && decide (ts.length ≤ 20) && chk Γ G e s ee && cvsB Γ s cs ts
    | _ => false
  | _, .sortS a, s, oo => match oo with
    | .Call (.Name x _) [.Call (.Name y _) [e] [] _] [] _ => bltB Γ s x "sorted" && bltB Γ s y "set" && nstar e && chk Γ G a s e
    | _ => false
  | _, .lenS a, s, oo => match oo with
    | .Call (.Name x _) [.Call (.Name y _) [e] [] _] [] _ => bltB Γ s x "len" && bltB Γ s y "set" && nstar e && chk Γ G a s e
    | _ => false
  | _, .dictP a, s, oo => match oo with
    | .Call (.Name x _) [e] [] _ => bltB Γ s x "dict" && nstar e && chk Γ G a s e
    | _ => false
  | _, .fld i e, s, oo => match oo with
    | .Attribute eo f _ => nameAt G.flds i f && nsup eo && chk Γ G e s eo
    | _ => false
  | _, .sub a b, s, oo => match oo with
    | .Subscript x y _ => nsl y && chk Γ G a s x && chk Γ G b s y
    | _ => false
  | _, .sl a l u, s, oo => match oo with
    | .Subscript x (.Slice lo hi none _) _ => chk Γ G a s x && chk Γ G l s lo && chk Γ G u s hi
    | _ => false
  | _, .revL a, s, oo => match oo with
    | .Subscript x (.Slice none none (some (.UnaryOp .USub (.Constant (.int k) _ _) _)) _) _ => decide (k = 1) && chk Γ G a s x
    | _ => false
  | _, .lc tg vs i c e, s, oo => match oo with
    | .ListComp elt [⟨etg, iter, ifs, az⟩] scope _ => decide (az = 0) && nsetT i etg iter && blkC s.N s.sc scope (ownOf s vs) && tg.slots.all (fun j => decide (j ∈ vs)) && chk Γ G i s iter && chkG (s.blk scope) tg etg && chk Γ G c (s.blk scope) ifs && chk Γ G e (s.blk scope) elt
    | _ => false
  | _, .lc2 tg vs i c tg1 vs1 i1 c1 e, s, oo => match oo with
    | .ListComp elt [⟨etg, iter, ifs, az⟩, ⟨etg1, iter1, ifs1, az1⟩] scope _ => decide (az = 0) && decide (az1 = 0) && nsetT i etg iter && nsetT i1 etg1 iter1 && blkC s.N s.sc scope (ownOf s vs) && tg.slots.all (fun j => decide (j ∈ vs)) && tg1.slots.all (fun j => decide (j ∈ vs1)) && vs1.all (fun j => decide (j ∈ vs)) && chk Γ G i s iter && chkG (s.blk scope) tg etg && chk Γ G c (s.blk scope) ifs && chk Γ G i1 (s.blk scope) iter1 && chkG (s.blk scope) tg1 etg1 && chk Γ G c1 (s.blk scope) ifs1 && chk Γ G e (s.blk scope) elt
    | _ => false
  | _, .dc tg vs i c k v, s, oo => match oo with
    | .DictComp ek ev [⟨etg, iter, ifs, az⟩] scope _ => decide (az = 0) && nsetT i etg iter && blkC s.N s.sc scope (ownOf s vs) && tg.slots.all (fun j => decide (j ∈ vs)) && chk Γ G i s iter && chkG (s.blk scope) tg etg && chk Γ G c (s.blk scope) ifs && chk Γ G k (s.blk scope) ek && chk Γ G v (s.blk scope) ev
    | _ => false
  | _, .disp ps, s, oo => match oo with
    | .Dict ks vs _ => !ks.isEmpty && decide (ks.length ≤ 15) && decide (ks.length = vs.length) && chk Γ G ps s (ks, vs)
    | _ => false
  | _, .dnew, s, oo => match oo with
    | .Dict [] [] _ => true
    | _ => false
  | _, .lerr i e, s, oo => match oo with
    | .Call (.Name x _) [.Lambda ⟨[], [], none, [], [], none, []⟩ bd sc _] [] _ => nameAt Γ.errs i x && glB s x && decide (s.qual ∈ Γ.mkrs) && LamX.lamSB s.sc sc && chk Γ G e ⟨s.N, sc, fun _ => false, s.qual ++ "<lambda>" ++ ".<locals>."⟩ bd
    | _ => false
  | _, .frz e, s, x => chk Γ G e s x
  | _, .nev, s, _ => true
  | _, .val e, s, x => ptest x && chk Γ G e s x || (match x with
    | .Compare _ _ _ _ => (match e with
      | .cmp _ _ _ => chk Γ G e s x
      | .chn _ _ _ _ _ => chk Γ G e s x
      | _ => false)
    | _ => false)
  | _, .and a b, s, oo => match oo with
    | .BoolOp .And [x, y] _ => chk Γ G a s x && chk Γ G b s y
    | .BoolOp .And (x :: y :: z :: r) p => chk Γ G a s x && chk Γ G b s (.BoolOp .And (y :: z :: r) p)
    | _ => false
  | _, .or a b, s, oo => match oo with
    | .BoolOp .Or [x, y] _ => chk Γ G a s x && chk Γ G b s y
    | .BoolOp .Or (x :: y :: z :: r) p => chk Γ G a s x && chk Γ G b s (.BoolOp .Or (y :: z :: r) p)
    | _ => false
  | _, .not a, s, oo => match oo with
    | .UnaryOp .Not x _ => chk Γ G a s x
    | _ => false
  | _, .cnil, s, oo => match oo with
    | [] => true
    | _ => false
  | _, .cone t, s, oo => match oo with
    | [x] => chk Γ G t s x
    | _ => false
  | _, .anil, s, oo => match oo with
    | [] => true
    | _ => false
  | _, .acons e r, s, oo => match oo with
    | x :: xs => nstar x && chk Γ G e s x && chk Γ G r s xs
    | _ => false
  | _, .astar e r, s, oo => match oo with
    | .Starred x _ :: xs => chk Γ G e s x && chk Γ G r s xs
    | _ => false
  | _, .any e, s, x => nset x && chk Γ G e s x
  | _, .rng1 as, s, oo => match oo with
    | .Call (.Name x _) [a] [] _ => bltB Γ s x "range" && nstar a && chk Γ G as s [a]
    | _ => false
  | _, .rng2 as, s, oo => match oo with
    | .Call (.Name x _) [a, b] [] _ => bltB Γ s x "range" && nstar a && nstar b && chk Γ G as s [a, b]
    | _ => false
  | _, .onone, _, oo => match oo with
    | none => true
    | _ => false
  | _, .osome e, s, oo => match oo with
    | some x => chk Γ G e s x
    | _ => false
  | _, .pnil, s, oo => match oo with
    | ([], []) => true
    | _ => false
  | _, .pcons k v r, s, oo => match oo with
    | (some x :: xs, y :: ys) => chk Γ G k s x && chk Γ G v s y && chk Γ G r s (xs, ys)
    | _ => false
  | _, .expr e, s, oo => match oo with
    | .Expr x _ => ncomp x && chk Γ G e s x
    | _ => false
  | _, .ret e, s, oo => match oo with
    | .Return (some x) _ => chk Γ G e s x
    | _ => false
  | _, .retN, s, oo => match oo with
    | .Return none _ => true
    | _ => false
  | _, .asg tg e, s, oo => match oo with
    | .Assign [etg] x _ => plainAsg s etg x && notSwapped s etg x && nstar etg && chkG s tg etg && chk Γ G e s x
    | _ => false
  | _, .asgLc i tg vs it c e, s, oo => match oo with
    | .Assign [.Name y py] (.ListComp elt [⟨etg, iter, ifs, az⟩] scope pos) _ => decide (az = 0) && nsetT it etg iter && blkC s.N s.sc scope (ownOf s vs) && tg.slots.all (fun j => decide (j ∈ vs)) && decide (s.sc.kind = .function) && (s.kind y == some .local) && (py.line == pos.line) && !(scope.names.any fun (n, k) => n == y && (k == .local || k == .cell)) && atB s i y && chk Γ G it s iter && chkG (s.blk scope) tg etg && chk Γ G c (s.blk scope) ifs && chk Γ G e (s.blk scope) elt
    | _ => false
  | _, .par is as, s, oo => match oo with
    | .Assign [.Tuple ts _ _] (.Tuple vs _ _) _ => swapped s is ts vs && chk Γ G as s vs
    | _ => false
  | _, .iff c b1 b2, s, oo => match oo with
    | .If x xs ys _ => chk Γ G c s x && chk Γ G b1 s xs && chk Γ G b2 s ys
    | _ => false
  | _, .forr tg i b, s, oo => match oo with
    | .For etg iter body [] _ => nsetT i etg iter && chkG s tg etg && chk Γ G i s iter && chk Γ G b s body
    | _ => false
  | _, .whil _ c b, s, oo => match oo with
    | .While x body [] _ => chk Γ G c s x && chk Γ G b s body
    | _ => false
  | _, .pass, s, oo => match oo with
    | .Pass _ => true
    | _ => false
  | _, .brk, s, oo => match oo with
    | .Break _ => true
    | _ => false
  | _, .cont, s, oo => match oo with
    | .Continue _ => true
    | _ => false
  | _, .fldS i o v, s, oo => match oo with
    | .Assign [.Attribute eo f _] x _ => nameAt G.flds i f && ncomp x && chk Γ G o s eo && chk Γ G v s x
    | _ => false
  | _, .subS v o i, s, oo => match oo with
    | .Assign [.Subscript eo ei _] x _ => ncomp x && nsl ei && chk Γ G v s x && chk Γ G o s eo && chk Γ G i s ei
    | _ => false
  | _, .rai i as, s, oo => match oo with
    | .Raise (some (.Call (.Name x _) es [] _)) none _ => nameAt Γ.exs i x && glB s x && es.all nstar && raiB Γ i es && chk Γ G as s es
    | _ => false
  | _, .nevS, s, _ => true
  | _, .bnil, s, oo => match oo with
    | [] => true
    | _ => false
  | _, .bcons st b, s, oo => match oo with
    | x :: xs => chk Γ G st s x && chk Γ G b s xs
    | _ => false
  | _, .bnev, s, _ => true
  | _, .neg e, s, oo => match oo with
    | .UnaryOp .USub x _ => chk Γ G e s x
    | _ => false
  | _, .subX a b, s, oo => match oo with
    | .Subscript x y _ => nsl y && chk Γ G a s x && chk Γ G b s y
    | _ => false
  | _, .methS i o as, s, oo => match oo with
    | .Call (.Attribute eo m apos) es [] pos => nameAt Γ.smts i m && nsup eo && es.all nstar && decide (es.length < 20) && lineB apos pos && chk Γ G o s eo && chk Γ G as s es
    | _ => false
  | _, .sumL a, s, oo => match oo with
    | .Call (.Name x _) [e, .List [] _] [] _ => bltB Γ s x "sum" && nstar e && chk Γ G a s e
    | _ => false
  | _, .mat e m, s, oo => match oo with
    | .Match x cs _ => chk Γ G e s x && chk Γ G m s cs
    | _ => false
  | _, .enum as, s, oo => match oo with
    | .Call (.Name x _) [a] [] _ => bltB Γ s x "enumerate" && nstar a && chk Γ G as s [a]
    | _ => false
  | _, .mnil, s, oo => match oo with
    | [] => true
    | _ => false
  | _, .mcons ps b m, s, oo => match oo with
    | ⟨q, none, xs⟩ :: cs => patB ps q && chk Γ G b s xs && chk Γ G m s cs
    | _ => false
end DL
namespace DL
open PySem PySem.Spec L2
open PyProof.Rows hiding St
variable [Tbl]
section
variable {Γ : GE} {G : GX} {L : Nat} {X : Cx} {E : XK}
theorem strB_eq {a b : Str} (h : strB a b = true) : a = b := of_decide_eq_true h
theorem nameAt_get {α : Type} {l : List (Str × α)} {i : Nat} {x : Str} (h : nameAt l i x = true) : ∃ r, l[i]? = some (x, r) := by
  unfold nameAt at h
  cases q : l[i]? with
  | none => rw [q] at h; cases h
  | some p =>
    rw [q] at h
    obtain rfl := strB_eq h
    exact ⟨p.2, rfl⟩
def scX (X : Cx) : SC := ⟨X.N, X.env.scope, X.fn, X.env.qual⟩
theorem atB_get {s : SC} {i : Nat} {x : Str} (h : atB s i x = true) : s.N[i]? = some x := by
  unfold atB at h
  cases q : s.N[i]? with
  | none => rw [q] at h; cases h
  | some p =>
    rw [q] at h
    rw [strB_eq h]
theorem visB_vis {x : Str} (h : visB (scX X) x = true) : Vis X.env.scope x := by
  unfold visB SC.kind scX at h
  simp only at h
  split at h
  · rename_i q; exact .inl q
  · rename_i q; exact .inr (.inl q)
  · rename_i q; exact .inr (.inr q)
  · cases h
theorem dunB_1 {x : Str} (h : dunB x = true) : (x == ("__debug__" : Str)) = false := by
  unfold dunB at h
  simp only [Bool.and_eq_true, Bool.not_eq_true'] at h
  exact h.1
theorem dunB_2 {x : Str} (h : dunB x = true) : (x == ("__classdict__" : Str)) = false := by
  unfold dunB at h
  simp only [Bool.and_eq_true, Bool.not_eq_true'] at h
  exact h.2
theorem glB_gl {x : Str} (h : glB (scX X) x = true) : Gl X x ∧ (x == ("__debug__" : Str)) = false ∧ x ≠ "__name__" := by
  unfold glB SC.kind scX at h
  simp only [Bool.and_eq_true, Bool.not_eq_true'] at h
  obtain ⟨⟨h1, h2⟩, h3⟩ := h
  refine ⟨?_, h2, fun e => ?_⟩
  · split at h1
    · rename_i q; exact q
    · cases h1
  · subst e
    rw [show strB ("__name__" : Str) "__name__" = true from decide_eq_true rfl] at h3
    cases h3
theorem bltB_at {x y : Str} (h : bltB Γ (scX X) x y = true) : x = y ∧ Gl X x ∧ (x == ("__debug__" : Str)) = false ∧ x ≠ "__name__" ∧ x ∈ Γ.blt := by
  unfold bltB at h
  simp only [Bool.and_eq_true, decide_eq_true_eq] at h
  obtain ⟨⟨h1, h2⟩, h3⟩ := h
  obtain ⟨a, b, c⟩ := glB_gl h2
  exact ⟨strB_eq h1, a, b, c, h3⟩
theorem relS_eq (scope : Scope) (env : Env) : relabel scope env = relS scope env.scope := rfl
theorem blk_sc (s : Shared) (H : Hp) (scope : Scope) (cl : List (Str × Addr)) (C : Addr) (fp : List Addr) : scX (X.blk s H scope (compEnvC scope cl C X.env) fp) = (scX X).blk scope := rfl
theorem starEach_ns {e : Expr} {es : List Expr} {env : Env} (h : nstar e = true) : starEach (e :: es) env = (false, eval e env) :: starEach es env := by
  cases e <;> first | rfl | cases h
theorem starAll {pos : Pos} {env : Env} : ∀ {es : List Expr}, es.all nstar = true → (backTo pos (starEach es env)).any (·.1) = false
  | [], _ => by unfold starEach backTo; rfl
  | e :: es, h => by
    rw [List.all_cons, Bool.and_eq_true] at h
    rw [starEach_ns h.1]
    show (false || (backTo pos (starEach es env)).any (·.1)) = false
    rw [starAll h.2]; rfl
theorem starNot {pos : Pos} {env : Env} : ∀ {es : List Expr}, es.all nstar = true → (backTo pos (starEach es env)).all (fun x => !x.1) = true
  | [], _ => by unfold starEach backTo; rfl
  | e :: es, h => by
    rw [List.all_cons, Bool.and_eq_true] at h
    rw [starEach_ns h.1]
    show (true && (backTo pos (starEach es env)).all (fun x => !x.1)) = true
    rw [starNot h.2]; rfl
theorem nsup_base {o : Expr} {m : Str} {env : Env} {whole : Sem Value} (h : nsup o = true) : attributeBase o m env whole = whole := by
  unfold attributeBase
  split
  · rename_i id p q
    cases h
  · rfl
theorem fset {iter : Expr} {env : Env} (h : nset iter = true) : ∀ x, foldedSetIterable iter env x = pure x := by
  intro x
  cases iter <;> first | rfl | cases h
theorem nsT_1 {i : ME .I} {tg it : Expr} (h : nsetT i tg it = true) : nset it = true := (Bool.and_eq_true_iff.mp h).1
theorem nsT_2 {i : ME .I} {tg it : Expr} (h : nsetT i tg it = true) : tgB i tg = true := (Bool.and_eq_true_iff.mp h).2
theorem nsl_plain {b : Expr} (h : nsl b = true) : ∀ o i, subscripted b false o i = operate [o, i] (getItem o i) := by
  intro o i
  cases b <;> first | rfl | cases h
theorem ptest_true {a : Expr} {env : Env} (h : ptest a = true) : ∀ whole, isTrue a env whole = (do let v ← whole; standAt a.pos; holding [v] (truthy v)) := by
  intro whole
  cases a
  case UnaryOp op x p => cases op <;> first | rfl | cases h
  all_goals first | rfl | cases h
theorem sw_none {e : Expr} {t : Option Expr} {l : Nat} {env : Env} (h : ncomp e = true) : swapsWith e t l env = pure false := by
  cases e <;> first | rfl | cases h
theorem kwNil {pos : Pos} {env : Env} : (backToKw pos (keywordEach [] env)).all (fun x => x.1.isSome) = true := by unfold keywordEach backToKw; rfl
theorem form_ok {n : Nat} {pos : Pos} {env : Env} {es : List Expr} (h : es.all nstar = true) (hn : n < 20) : methodCallForm n (backTo pos (starEach es env)) (backToKw pos (keywordEach [] env)) = true := by
  unfold methodCallForm
  rw [starNot h, kwNil]
  have : decide (n + (if (backToKw pos (keywordEach [] env)).isEmpty = true then 0 else 1) < 30) = true := decide_eq_true (by split <;> omega)
  rw [this]; rfl
theorem meth_eval {o : Expr} {m : Str} {apos pos : Pos} {es : List Expr} {env : Env} (h1 : nsup o = true) (h2 : es.all nstar = true) (h3 : es.length < 20) (h4 : lineB apos pos = true) :
    eval (.Call (.Attribute o m apos) es [] pos) env = (do
      let ov ← eval o env
      standAt apos.atName
      let (f, first) ← holding [ov] (getMethod ov m (plainOf o env))
      callWith pos f first (backTo pos (starEach es env)) (backToKw pos (keywordEach [] env))) := by
  show (do
    let ov ← attributeBase o m env (eval o env)
    standAt apos.atName
    methodCall o m apos pos env ov (es.length + ([] : List Keyword).length) (backTo pos (starEach es env)) (backToKw pos (keywordEach [] env))) = _
  rw [nsup_base h1]
  congr 1
  funext ov
  congr 1
  funext _
  exact mcall_line (form_ok h2 (by simpa using h3)) h4
theorem few_ok {pos : Pos} {env : Env} {es : List Expr} (h : es.all nstar = true) (hn : es.length < 20) : ((backTo pos (starEach es env)).all (fun x => !x.1) && (backToKw pos (keywordEach [] env)).all (fun x => x.1.isSome)
      && decide (es.length + ([] : List Keyword).length + (if ([] : List Keyword).isEmpty then 0 else 1) < 30)) = true := by
  rw [starNot h, kwNil]
  have : decide (es.length + ([] : List Keyword).length + (if ([] : List Keyword).isEmpty = true then 0 else 1) < 30) = true := decide_eq_true (by simp; omega)
  rw [this]; rfl
theorem boot_ty {n : String} (h : n ∈ (["int", "bool", "str", "list", "tuple", "dict"] : List String)) : bootBuiltins (Str.ofString n) = some (.type n) := by
  simp only [List.mem_cons, List.not_mem_nil, or_false] at h
  rcases h with rfl | rfl | rfl | rfl | rfl | rfl <;> rfl
theorem con_ok {d : D} {k : Const} {j : Nat} {p : Pos} (h : conB d k = true) : ∃ v, PE X (.Constant k j p) (tC v) ∧ ∀ B H, RD X.K X.mg B H v d := by
  cases d <;> cases k <;> simp only [conB, Bool.and_eq_true, beq_iff_eq, decide_eq_true_eq, Bool.false_eq_true] at h
  · exact ⟨_, pe_non, fun _ _ => .non⟩
  · subst h; exact ⟨_, pe_bl, fun _ _ => .bl _⟩
  · subst h; exact ⟨_, pe_int, fun _ _ => .int _⟩
  · obtain ⟨h1, h2⟩ := h
    obtain rfl := strB_eq h1
    exact ⟨_, pe_str, fun _ _ => .str _ h2⟩
theorem chkG_ok (hc : X.calm = true) (hN : X.N.Nodup) : ∀ {t : Tg}, (∀ {e : Expr}, chkG (scX X) t e = true → PG X e (t.tg X.K)) ∧ (∀ {es : List Expr}, chkGs (scX X) t es = true → PGs X es (t.tgs X.K) ∧ es.all nstar = true) := by
  intro t
  induction t with
  | name i =>
    refine ⟨fun {e} h => ?_, fun {es} h => by cases es <;> cases h⟩
    cases e with
    | Name x p =>
      have h : (atB (scX X) i x && stoB (scX X) x) = true := h
      rw [Bool.and_eq_true] at h
      have h2 := h.2
      unfold stoB SC.kind scX at h2
      simp only at h2
      rw [Tg.tg]
      split at h2
      · rename_i q; exact pg_name hN (atB_get h.1) (.inl q) (.inr q)
      · rename_i q; exact pg_name hN (atB_get h.1) (.inr q) (.inl h2)
      · cases h2
    | _ => cases h
  | tup n ts ih =>
    refine ⟨fun {e} h => ?_, fun {es} h => by cases es <;> cases h⟩
    cases e with
    | Tuple es k p =>
      have h : (chkGs (scX X) ts es && decide (es.length = n)) = true := h
      rw [Bool.and_eq_true, decide_eq_true_eq] at h
      obtain ⟨h1, h2⟩ := h
      obtain ⟨p1, p2⟩ := ih.2 h1
      rw [Tg.tg]
      have key : ∀ {es : List Expr}, es.all nstar = true → (assignEach es X.env).length = es.length ∧ (assignEach es X.env).findIdx? (·.1) = none := by
        intro es
        induction es with
        | nil => intro _; exact ⟨rfl, rfl⟩
        | cons e es ih2 =>
          intro hs
          rw [List.all_cons, Bool.and_eq_true] at hs
          have e1 : assignEach (e :: es) X.env = (false, assign e X.env) :: assignEach es X.env := by
            cases e <;> first | rfl | cases hs.1
          rw [e1]
          obtain ⟨a, b⟩ := ih2 hs.2
          exact ⟨by rw [List.length_cons, List.length_cons, a], by rw [List.findIdx?_cons]; simp [b]⟩
      exact pg_tup hc p1 (by rw [(key p2).1, h2]) (key p2).2
    | _ => cases h
  | nil =>
    refine ⟨(fun {e} h => by cases e <;> cases h), fun {es} h => ?_⟩
    cases es with
    | nil => rw [Tg.tgs]; exact ⟨pgs_nil, rfl⟩
    | cons _ _ => cases h
  | cons a b iha ihb =>
    refine ⟨(fun {e} h => by cases e <;> cases h), fun {es} h => ?_⟩
    cases es with
    | nil => cases h
    | cons e es =>
      have h : (chkG (scX X) a e && nstar e && chkGs (scX X) b es) = true := h
      simp only [Bool.and_eq_true] at h
      obtain ⟨⟨h1, h2⟩, h3⟩ := h
      obtain ⟨q1, q2⟩ := ihb.2 h3
      rw [Tg.tgs]
      refine ⟨pgs_cons (iha.1 h1) q1 ?_, by rw [List.all_cons, h2, q2]; rfl⟩
      cases e <;> first | rfl | cases h2
end
section
variable (K : PySem.W.Frag) (mg : Str → Option Value) (W : WX)
def rdE (f : F) : TE := fun σ H Q => ∃ (γ : Gam) (g : At), g.H = H ∧ Rep K mg g.B γ g.S g.ρ σ g.H ∧ (f γ g.S).wp (Okv K mg g γ σ Q) (Exv K mg g σ W)
def rdT (f : FT) : TT := fun σ H Q => ∃ (γ : Gam) (g : At), g.H = H ∧ Rep K mg g.B γ g.S g.ρ σ g.H ∧ (f γ g.S).wp (Okb K mg g γ σ Q) (Exv K mg g σ W)
def rdA (f : FA) : TA := fun σ H Q => ∃ (γ : Gam) (g : At), g.H = H ∧ Rep K mg g.B γ g.S g.ρ σ g.H ∧ (f γ g.S).wp (Oks K mg g γ σ Q) (Exv K mg g σ W)
def rdS (f : FS) : TS := fun D σ H => ∃ (γ : Gam) (g : At), g.H = H ∧ Rep K mg g.B γ g.S g.ρ σ g.H ∧ (f γ g.S).wp (Okf K mg g D) (Exw K mg g W)
def rdM (fm : Vl → FS) : V → TS := fun v D σ H => ∃ (γ : Gam) (g : At) (x : Vl), g.H = H ∧ Rep K mg g.B γ g.S g.ρ σ g.H ∧ RV K mg g.B g.S g.ρ g.H v x ∧ (fm x γ g.S).wp (Okf K mg g D) (Exw K mg g W)
def rdI (f : FI) : TI := fun σ H Q => ∃ (γ : Gam) (g : At), g.H = H ∧ Rep K mg g.B γ g.S g.ρ σ g.H ∧
  (f γ g.S).wp (fun its S => ∀ J H B ρ, Rep K mg B γ S ρ σ H → g.to B S ρ H → JOk K mg ⟨B, S, ρ, H⟩ J its → Q J H) (Exv K mg g σ W)
def rdO (f : FO) : TO := fun σ H Q => ∃ (γ : Gam) (g : At), g.H = H ∧ Rep K mg g.B γ g.S g.ρ σ g.H ∧
  (f γ g.S).wp (fun o S => ∀ H B ρ, Rep K mg B γ S ρ σ H → g.to B S ρ H → Q o H) (Exv K mg g σ W)
end
section
variable {K : PySem.W.Frag} {mg : Str → Option Value} {W : WX}
theorem sim_rd (f : F) : Sim K mg W (rdE K mg W f) f := fun γ _ _ g rep h => ⟨γ, g, rfl, rep, h⟩
theorem simT_rd (f : FT) : SimT K mg W (rdT K mg W f) f := fun γ _ _ g rep h => ⟨γ, g, rfl, rep, h⟩
theorem simA_rd (f : FA) : SimA K mg W (rdA K mg W f) f := fun γ _ _ g rep h => ⟨γ, g, rfl, rep, h⟩
theorem simS_rd (f : FS) : SimS K mg W (rdS K mg W f) f := fun γ _ _ g rep h => ⟨γ, g, rfl, rep, h⟩
theorem simM_rd (f : Vl → FS) : SimM K mg W (rdM K mg W f) f := fun γ _ _ g v x rep rv h => ⟨γ, g, x, rfl, rep, rv, h⟩
theorem simI_rd (f : FI) : SimI K mg W (rdI K mg W f) f := fun γ _ _ g rep h => ⟨γ, g, rfl, rep, h⟩
theorem simO_rd (f : FO) : SimO K mg W (rdO K mg W f) f := fun γ _ _ g rep h => ⟨γ, g, rfl, rep, h⟩
end
section
variable {X : Cx} {W : WX}
theorem pe_rd {e : Expr} {t : TE} {f : F} (h : PE X e t) (s : Sim X.K X.mg W t f) : PE X e (rdE X.K X.mg W f) :=
  ⟨fun pins sh σ H Q I ⟨γ, g, e1, rep, w⟩ => h.run pins sh σ H Q I (e1 ▸ s γ σ Q g rep w)⟩
theorem pt_rd {e : Expr} {t : TT} {f : FT} (h : PT X e t) (s : SimT X.K X.mg W t f) : PT X e (rdT X.K X.mg W f) :=
  ⟨fun pins sh σ H Q I ⟨γ, g, e1, rep, w⟩ => h.run pins sh σ H Q I (e1 ▸ s γ σ Q g rep w)⟩
theorem pw_rd {e : Expr} {t : TT} {f : FT} (h : PW X e t) (s : SimT X.K X.mg W t f) : PW X e (rdT X.K X.mg W f) :=
  ⟨fun wh pins sh σ H Q I ⟨γ, g, e1, rep, w⟩ => h.run wh pins sh σ H Q I (e1 ▸ s γ σ Q g rep w)⟩
theorem pa_rd {e : List Expr} {t : TA} {f : FA} (h : PA X e t) (s : SimA X.K X.mg W t f) : PA X e (rdA X.K X.mg W f) :=
  ⟨fun pos pins sh σ H Q I ⟨γ, g, e1, rep, w⟩ => h.run pos pins sh σ H Q I (e1 ▸ s γ σ Q g rep w)⟩
theorem ps_rd {e : Stmt} {t : TS} {f : FS} (h : PS X e t) (s : SimS X.K X.mg W t f) : PS X e (rdS X.K X.mg W f) :=
  ⟨fun pins sh σ H D I ⟨γ, g, e1, rep, w⟩ => h.run pins sh σ H D I (e1 ▸ s γ σ D g rep w)⟩
theorem pss_rd {e : List Stmt} {t : TS} {f : FS} (h : PSs X e t) (s : SimS X.K X.mg W t f) : PSs X e (rdS X.K X.mg W f) :=
  ⟨fun pins sh σ H D I ⟨γ, g, e1, rep, w⟩ => h.run pins sh σ H D I (e1 ▸ s γ σ D g rep w)⟩
theorem pcs_rd {cs : List MatchCase} {t : V → TS} {f : Vl → FS} (h : PCs X cs t) (s : SimM X.K X.mg W t f) : PCs X cs (rdM X.K X.mg W f) :=
  fun pins sh σ H v u D first I rv ⟨γ, g, x, e1, rep, rx, w⟩ => h pins sh σ H v u D first I rv (e1 ▸ s γ σ D g v x rep rx w)
theorem pi_rd {tg e : Expr} {t : TI} {f : FI} (h : PI X tg e t) (s : SimI X.K X.mg W t f) : PI X tg e (rdI X.K X.mg W f) :=
  ⟨fun pins sh σ H R I ⟨γ, g, e1, rep, w⟩ => h.run pins sh σ H R I (e1 ▸ s γ σ R g rep w)⟩
theorem po_rd {e : Option Expr} {t : TO} {f : FO} (h : PO X e t) (s : SimO X.K X.mg W t f) : PO X e (rdO X.K X.mg W f) :=
  ⟨fun pins sh σ H Q I ⟨γ, g, e1, rep, w⟩ => h.run pins sh σ H Q I (e1 ▸ s γ σ Q g rep w)⟩
theorem pts_rd {e : List Expr} {t : TT} {f : FT} (h : PTs X e t) (s : SimT X.K X.mg W t f) : PTs X e (rdT X.K X.mg W f) :=
  ⟨fun pins sh σ H Q I ⟨γ, g, e1, rep, w⟩ => h.run pins sh σ H Q I (e1 ▸ s γ σ Q g rep w)⟩
theorem pe_bad {e : Expr} : PE X e (rdE X.K X.mg W fBad) := ⟨fun _ _ _ _ _ _ ⟨_, _, _, _, w⟩ => w.elim⟩
theorem ps_bad {e : Stmt} : PS X e (rdS X.K X.mg W fNever) := ⟨fun _ _ _ _ _ _ ⟨_, _, _, _, w⟩ => w.elim⟩
theorem pss_bad {e : List Stmt} : PSs X e (rdS X.K X.mg W fNever) := ⟨fun _ _ _ _ _ _ ⟨_, _, _, _, w⟩ => w.elim⟩
end
end DL
namespace DL
open PySem PySem.Spec L2
open PyProof.Rows hiding St
open LamX hiding ExtN
variable [Tbl]
/-- all but the tables stay -/
def TStep (H H1 : Hp) : Prop := ∀ b o, H b = some o → ¬ IsTb b → H1 b = some o
section
variable {X : Cx} {pins : List (Addr × Obj)} {σ : L2.St} {H : Hp} {s : Shared}
theorem frs_far (I : Inv X pins σ H s) {n : Nat} (hn : s.heap.objs.size ≤ n) : n ∉ frs X.stack := fun z => by
  rcases List.mem_cons.mp (I.stkSub _ z) with e | e
  · have lt := I.lt
    rw [← e] at lt
    exact Nat.lt_irrefl _ (Nat.lt_of_lt_of_le lt hn)
  · exact I.nofs hn e
theorem lam_new {c P : Addr} {ar : Arguments} {bd : Expr} {sc : Scope} {at_ : Pos} {Er : Value → Shared → Prop} {Q : Value → Shared → Prop} (I : Inv X pins σ H s) (B : TabB X.base X.mg c P) (hc : X.env.code = .ref c)
    (hp : (P, X.env.qual ++ "<lambda>") ∈ Tbl.T) (uq : ∀ p ∈ Tbl.T, p.1 = P → p.2 = X.env.qual ++ "<lambda>") (T0 : TabsAt H) (nd : defaultsOf ar X.env = ([], [])) (fr : ∀ y ∈ sc.names, y.2 = .free → ∃ c, X.env.cells.lookup y.1 = some c)
    (k : ∀ (f d : Addr) (pm ct : Value) (H1 : Hp) (s1 : Shared), Inv X pins σ H1 s1 → TStep H H1 → TabsAt H1 →
      s1.heap.get? f = some (PySem.W.kla_obj "<lambda>" (X.env.qual ++ "<lambda>") ar bd sc (cloFrom X.env.cells sc.names []) pm d ct) → H1 f = none → f ∉ frs X.stack → H1 d = some (CodeO d (X.env.qual ++ "<lambda>")) → Q (.ref f) s1) :
    wpAny (model X.prog X.w) X.A (eval (.Lambda ar bd sc at_) X.env) Q Er s := by
  obtain ⟨tb, tP, tok, tq⟩ := T0 _ hp
  have isP : IsTb P := ⟨_, hp, rfl⟩
  have mP : s.heap.BuiltinsAt X.mg P := B.bm.keeps I.bk
  have oP : s.heap.get? P = some { cls := .none, data := .fields tb } := I.hok P _ tP
  refine PySem.W.kla_eval nd ?_
  cases hit : codeAmong at_ tb.toList with
  | some v =>
    obtain ⟨d, rfl, hd⟩ := tq at_ v hit
    refine PySem.W.kla_makeFunctionHit (mg := X.mg) (c := c) (P := P) (ps := tb) (closure_ok fr) I.ok.glob (I.mod.glob.keeps I.bk) hc (B.code.keeps I.bk) oP tok hit mP fun ct h1 tk kp big => ?_
    exact k h1.objs.size d ((X.mg "__name__").getD .none) ct H _ (I.kept fun b o e => Heap.get?_push_of_some _ (kp b o e)) (fun _ _ e _ => e) T0 (Heap.get?_push_size _ rfl) (I.hok.fresh big) (frs_far I big) hd
  | none =>
    refine PySem.W.kla_makeFunction (mg := X.mg) (c := c) (P := P) (ps := tb) (closure_ok fr) I.ok.glob (I.mod.glob.keeps I.bk) hc (B.code.keeps I.bk) oP tok hit B.gP mP fun d ct h1 tk kp dge dlt rec new => ?_
    obtain ⟨d2, od, vs, t, ed, g1, g2, g3⟩ := rec
    cases ed
    have big : s.heap.objs.size ≤ h1.objs.size := Nat.le_trans dge (Nat.le_of_lt dlt)
    have nd0 : H d = none := I.hok.fresh dge
    have J := inv_table (t' := tk) (more := #[rawInt at_.line, rawInt at_.col, .ref d]) (h' := h1.push (PySem.W.kla_obj "<lambda>" (X.env.qual ++ "<lambda>") ar bd sc (cloFrom X.env.cells sc.names []) ((X.mg "__name__").getD .none) d ct)) I tP
      (fun b o nb e => Heap.get?_push_of_some _ (kp b o nb e)) (Heap.get?_push_of_some _ new) dge ⟨od, vs, t, Heap.get?_push_of_some _ g1, g2, g3⟩
    have Pd : P ≠ d := ne_of_none tP nd0
    have low : ∀ {b o}, H b = some o → b ≠ P → (upd (upd H P (.tbl (tb ++ #[rawInt at_.line, rawInt at_.col, .ref d]))) d (CodeO d (X.env.qual ++ "<lambda>"))) b = some o := fun {b o} e n => by
      rw [upd_ne (ne_of_none e nd0), upd_ne n]; exact e
    have codeLow : ∀ {b q}, H b = some (CodeO b q) → (upd (upd H P (.tbl (tb ++ #[rawInt at_.line, rawInt at_.col, .ref d]))) d (CodeO d (X.env.qual ++ "<lambda>"))) b = some (CodeO b q) := fun {b q} e =>
      low e fun z => by rw [z, tP] at e; exact absurd (Option.some.inj e) (fun z => by cases z)
    have far : ∀ n, h1.objs.size = n → n ≠ d ∧ n ≠ P := fun n e => by subst e; exact ⟨Nat.ne_of_gt dlt, Nat.ne_of_gt (Nat.lt_of_lt_of_le (Heap.lt_size oP) big)⟩
    refine k h1.objs.size d ((X.mg "__name__").getD .none) ct _ _ J (fun b o e n => low e fun z => n (z ▸ isP)) (fun p mem => ?_) (Heap.get?_push_size _ rfl) ?_ (frs_far I big) upd_same
    · by_cases z : p.1 = P
      · rw [uq p mem z, z]
        have el : (tb ++ #[rawInt at_.line, rawInt at_.col, .ref d]).toList = tb.toList ++ [rawInt at_.line, rawInt at_.col, .ref d] := by simp
        refine ⟨_, by rw [upd_ne Pd, upd_same], by rw [el]; exact PySem.TriplesOk_snoc _ _ _ _ tok, fun p2 v hv => ?_⟩
        rw [el] at hv
        rcases among_app _ tok hv with y | y
        · obtain ⟨d0, a1, a2⟩ := tq p2 v y
          exact ⟨d0, a1, codeLow a2⟩
        · exact ⟨d, y, upd_same⟩
      · obtain ⟨tb2, b1, b2, b3⟩ := T0 p mem
        refine ⟨tb2, low b1 z, b2, fun p2 v hv => ?_⟩
        obtain ⟨d0, a1, a2⟩ := b3 p2 v hv
        exact ⟨d0, a1, codeLow a2⟩
    · rw [upd_ne (far _ rfl).1, upd_ne (far _ rfl).2]
      exact I.hok.fresh big
end
/-- a(), in the def that got the lambda: its wish may look at the slots -/
theorem pe_actS {X : Cx} {pins : List (Addr × Obj)} {σ : L2.St} {H : Hp} {s : Shared} {CG : CXT} {EG : XK} {NG : List Str} {qg : Str} {sg : Scope} {g f d : Addr} {cdg pm ct : Value} {ar : Arguments} {bd : Expr} {sc : Scope} {k i : Nat} {a : Str} {pn : List (Addr × Obj)} {xe : Value → Shared → Prop} {W : WX} {t : XK → TE} {p1 p2 : Pos}
    (I : Inv X pins σ H s) (L : LamS X.env.scope sc) (of_ : s.heap.get? f = some (PySem.W.kla_obj "<lambda>" (X.env.qual ++ "<lambda>") ar bd sc (cloFrom X.env.cells sc.names []) pm d ct)) (hn : H f = none) (hr : f ∉ frs X.stack)
    (hb : bindArgs (PySem.W.kla_fn "<lambda>" (X.env.qual ++ "<lambda>") ar bd sc (cloFrom X.env.cells sc.names []) pm (.ref d) ct) ⟨[], []⟩ = pure [])
    (tk : Takes ((cxOf CG X.prog X.w X.K X.mg X.base NG qg sg g cdg X.A X.stack s H EG).tr pn xe) W) (r : Room (k + 1) (X.A.deeper (envOfC qg sg s.heap.objs.size g cdg)))
    (body : ∀ (A : Around) (outer : List Env) (s : Shared) (H : Hp) (E : XK), Room k (A.deeper (lamEnv X sc s.heap.objs.size f d)) → PE (lamCx X A outer s H E sc f d) bd (t E))
    (hN : NG[i]? = some a) (hv : Vis sg a) (d2 : (a == ("__debug__" : Str)) = false) (d3 : (a == ("__classdict__" : Str)) = false) :
    PE ((cxOf CG X.prog X.w X.K X.mg X.base NG qg sg g cdg X.A X.stack s H EG).tr pn xe) (.Call (.Name a p1) [] [] p2)
      (fun σZ HZ Q => ∃ E : XK, (∀ cls dd H2, E cls dd H2 → W cls dd σZ H2) ∧ σZ[i]? = some (some (.ref f)) ∧ HZ d = some (CodeO d (X.env.qual ++ "<lambda>")) ∧ t E σ HZ Q) := by
  refine ⟨fun pz sz σZ HZ Q J hq => ?_⟩
  obtain ⟨E, hW, at_, hd, ht⟩ := hq
  refine wpAny_Call_Name_kw (thn ((pe_var (pos := p1) (i := i) hN hv d2 d3).run pz sz σZ HZ (fun v H1 => v = .ref f ∧ H1 = HZ) J ⟨.ref f, at_, rfl, rfl⟩) fun u s1 ⟨v, H1, J1, ru, e1, e2⟩ => ?_)
  subst e1
  subst e2
  obtain rfl : u = Value.ref f := ru
  have o1 := J1.base.keep f _ of_ hn hr (fun z => nomatch (show f ∈ ([] : List Addr) from z))
  refine PySem.W.callWith_F0 ⟨_, _, _, _, o1⟩ ?_
  have far : Un (frs X.stack) [] H H1 s.heap s1.heap := J1.base
  obtain ⟨⟨od, vs, tt, g1, g2, g3⟩, _, _⟩ := J1.hok d _ hd
  have run : codeAny (model X.prog X.w) (X.A.deeper (envOfC qg sg s.heap.objs.size g cdg)) (.call (.ref f) ⟨[], []⟩) (CR (L2.CX X.prog X.w) (envOfC qg sg s.heap.objs.size g cdg :: X.stack) X.prog X.w H1 s1 Q E) s1 := by
    refine PySem.W.kla_callFunE r.depth o1 rfl L.co L.gen rfl ⟨d, od, vs, tt, rfl, g1, g2, g3⟩ ?_
    rw [hb]
    refine wpAny_pure (wpAny_newFunctionEnv (fun y hy => (L.own y hy).2) (fun y hy => absurd hy (by simp)) (fun h1 ns sb => ⟨J1.nolimit.fresh _ sb, ?_⟩) L.kind)
    show codeAny _ _ (.expr bd (lamEnv X sc s1.heap.objs.size f d)) _ _
    have J2 : Inv (lamCx X (X.A.deeper (envOfC qg sg s.heap.objs.size g cdg)) (envOfC qg sg s.heap.objs.size g cdg :: X.stack) s1 H1 E sc f d) [] σ H1 { s1 with heap := h1, toks := s1.toks + ([] : List (Str × Value)).length } :=
      lam_start2 I L J1.env0 r.hd far ns fun b o e => sb.extBut b o (Nat.ne_of_lt (Heap.lt_size e)) (Heap.get?_push_of_some _ e)
    exact PySem.W.kla_codeExpr (wpAny_mono ((body _ _ s1 H1 E (r.deeper _)).run [] _ _ H1 Q J2 ht) (fun v s2 ⟨w2, H2, J3, rv, q2⟩ => ⟨w2, H2, J3.os, J3.bare, J3.base, J3.hok, rv, q2⟩) fun e s2 z => z)
  have out : PassesAt (L2.CX X.prog X.w) ((cxOf CG X.prog X.w X.K X.mg X.base NG qg sg g cdg X.A X.stack s H EG).tr pn xe) σZ E := fun pz H s e s' I c => tk e s' (XE.of_call I (fun cls dd H2 z => hW cls dd H2 z) c)
  refine wpAny_call (codeAny_mono run fun r s2 z => ?_)
  match r, z with
  | .ok (.ret u), z => exact J1.after z
  | .ok .next, z => exact False.elim z
  | .ok .brk, z => exact False.elim z
  | .ok .cont, z => exact False.elim z
  | .error e, z => exact out pz H1 s1 e s2 J1 z
/-- the def that calls what it got: TT tells what it makes of the lambda's reading -/
def GivesD (X : Cx) (NG : List Str) (x : Str) (sg : Scope) (g : Addr) (cdg : Value) (bg : List Stmt) (a : Str) (q : Str) (TT : (XK → Hp → VK → Prop) → Hp → VK → Prop) : Prop :=
  ∀ (f d : Addr) (s : Shared) (H : Hp) (Q : VK) (tl : XK → Hp → VK → Prop),
    (∀ (W : WX) (pn : List (Addr × Obj)) (xe : Value → Shared → Prop) (p1 p2 : Pos), Takes ((cxOf C8.CX0 X.prog X.w X.K X.mg X.base NG x sg g cdg X.A X.stack s H C8.E0).tr pn xe) W →
      PE ((cxOf C8.CX0 X.prog X.w X.K X.mg X.base NG x sg g cdg X.A X.stack s H C8.E0).tr pn xe) (.Call (.Name a p1) [] [] p2) (fun σZ HZ Q => ∃ E : XK, (∀ cls dd H2, E cls dd H2 → W cls dd σZ H2) ∧ σZ[0]? = some (some (.ref f)) ∧ HZ d = some (CodeO d q) ∧ tl E HZ Q)) →
    H d = some (CodeO d q) → TT tl H Q →
    ∃ t, PSs (cxOf C8.CX0 X.prog X.w X.K X.mg X.base NG x sg g cdg X.A X.stack s H C8.E0).nox bg t ∧ t { nx := fun _ H' => Q .non H', rt := Q } (L2.start NG [.ref f]) H
/-- the reading: TT tells what the def makes of the lambda's reading -/
def tLamD (TT : (XK → Hp → VK → Prop) → Hp → VK → Prop) (t : XK → TE) : TE := fun σ H Q => TabsAt H ∧ ∀ H1, TStep H H1 → TabsAt H1 → TT (fun E H' Q' => t E σ H' Q') H1 Q
section
variable {X : Cx}
/-- g(lambda: bd) -/
theorem pe_lamD {TT : (XK → Hp → VK → Prop) → Hp → VK → Prop} {x a : Str} {g c P : Addr} {k : Nat} {pg : Arguments} {bg : List Stmt} {sg : Scope} {dV kV doc pm cdv ct oc : Value} {an od : Option Addr} {osl : Array (Option Value)} {Ng : List Str}
    {ar : Arguments} {bd : Expr} {sc : Scope} {t : XK → TE} {p lp pos : Pos} (gl : Gl X x) (mx : X.mg x = some (.ref g)) (kx : PySem.W.keepIn X.K (.ref g) = true)
    (lk : X.K.lookup g = some ⟨oc, od, .func (PySem.W.fnOf x x pg bg sg dV kV doc pm an cdv ct), osl⟩) (cg : PySem.W.codeIn X.K cdv x = true) (bi : L2.Binds X.K (PySem.W.fnOf x x pg bg sg dV kV doc pm an cdv ct) [a] []) (Sg : FnScope Ng [a] sg) (n0 : Ng[0]? = some a) (va : Vis sg a)
    (hG : GivesD X Ng x sg g cdv bg a (X.env.qual ++ "<lambda>") TT)
    (B : TabB X.base X.mg c P) (hc : X.env.code = .ref c) (mT : (P, X.env.qual ++ "<lambda>") ∈ Tbl.T) (uq : ∀ p ∈ Tbl.T, p.1 = P → p.2 = X.env.qual ++ "<lambda>") (r : Room (k + 2) X.A) (L : LamS X.env.scope sc) (nd : defaultsOf ar X.env = ([], []))
    (hb : ∀ (q : Str) (cl : List (Str × Addr)) (pm cv ctv : Value), bindArgs (PySem.W.kla_fn "<lambda>" q ar bd sc cl pm cv ctv) ⟨[], []⟩ = pure [])
    (body : ∀ (A : Around) (outer : List Env) (s : Shared) (H : Hp) (E : XK) (f d : Addr), Room k (A.deeper (lamEnv X sc s.heap.objs.size f d)) → PE (lamCx X A outer s H E sc f d) bd (t E))
    (d1 : (x == ("__debug__" : Str)) = false) (d2 : (a == ("__debug__" : Str)) = false) (d3 : (a == ("__classdict__" : Str)) = false) :
    PE X (.Call (.Name x p) [.Lambda ar bd sc lp] [] pos) (tLamD TT t) := by
  refine ⟨fun pins s σ H Q I hq => ?_⟩
  obtain ⟨T0, hq⟩ := hq
  refine wpAny_Call_Name_kw (ld_glob I gl mx (PySem.W.callWith_K (h₀ := X.base) I.ok.mod.kin kx ?_ (by rfl) (by rfl)) d1)
  show wpAny (model X.prog X.w) X.A (spliced ([(false, eval (.Lambda ar bd sc lp) X.env)] ++ backTo pos (starEach [] X.env))) _ X.xe s
  refine Calls.spliced_cons (lam_new I B hc mT uq T0 nd (L.has I.ok) fun f d pm2 ct2 H1 s1 I1 st T1 hf hn hr hd => Calls.spliced_nil ⟨I1.kIn, ?_⟩)
  have run : codeAny (model X.prog X.w) X.A (.call (.ref g) ⟨[.ref f], []⟩) (CR C8.CX0 X.stack X.prog X.w H1 s1 Q C8.E0) s1 :=
    run_ofS (N := Ng) (ps := [a]) (us := [.ref f]) (vs := [.ref f]) lk cg Sg r I1.env0 (bi s1 [.ref f] I1.kIn rfl) (.cons rfl .nil) rfl fun r2 =>
      let ⟨t2, h2, q2⟩ := hG f d s1 H1 Q (fun E H2 Q2 => t E σ H2 Q2) (fun W pn xe p1 p2 tk => pe_actS (i := 0) I1 L hf hn hr (hb _ _ _ _ _) tk r2 (fun A outer s H E r3 => body A outer s H E f d r3) n0 va d2 d3) hd (hq H1 st T1)
      ⟨t2, h2.nox, q2⟩
  refine wpAny_call (codeAny_mono run fun r s2 z => ?_)
  match r, z with
  | .ok (.ret u), z => exact I1.after z
  | .ok .next, z => exact False.elim z
  | .ok .brk, z => exact False.elim z
  | .ok .cont, z => exact False.elim z
  | .error e, z => exact (show False from z).elim
end
end DL
namespace DL
open PySem PySem.Spec L2
open PyProof.Rows hiding St
open LamX hiding ExtN
variable [Tbl]
def DictAt (H : Hp) (d : Option Addr) : Prop := d = none ∨ ∃ dd fs, d = some dd ∧ H dd = some (.xd fs)
/-- isinstance(e, c) of the error that the suite holds -/
def rIsX (K : PySem.W.Frag) (cls : Value) (d : Option Addr) (a : Addr) : List V → Hp → VK → Prop := fun xs H Q => ∃ (D : Addr) (c : V) (cv : Value) (b : Bool), cls = .ref D ∧ ExcC K D ∧ DictAt H d ∧ xs = [.ref a, c] ∧ (∀ u, RelV c u → u = cv) ∧ PySem.W.kitOne K (.ref D) cv = some b ∧ Q (.bl b) H
theorem call_isX {X : Cx} {a : Addr} {oe : Obj} {cls : Value} {d : Option Addr} {pn : List (Addr × Obj)} (hz : Zc cls d oe) (hf : ∃ vs, oe.data = .fields vs) : CallR (X.suite a ((a, oe) :: pn)) (.builtin "isinstance") (rIsX X.K cls d a) := by
  intro pins s σ H xs us Q I r h
  obtain ⟨D, c, cv, b, rfl, C, hd, rfl, hcv, e, q⟩ := h
  match us, r with
  | [_, u], .cons rx (.cons rt .nil) =>
    cases rx
    have ec := hcv _ rt
    subst ec
    obtain ⟨hget, _⟩ := I.pin (a, oe) (List.mem_append.mpr (.inl List.mem_cons_self))
    obtain ⟨fv, hv⟩ := hf
    have at_ : ∃ od, PySem.W.InstAt s.heap a oe D od := by
      have nc : PySem.W.notCls oe := by unfold PySem.W.notCls; rw [hv] <;> trivial
      rcases hd with rfl | ⟨dd, fs, rfl, hH⟩
      · exact ⟨none, hget, hz.1, nc, by rw [hz.2]; trivial⟩
      · have hx : ObjOk X.prog X.w H s.heap dd (.xd fs) := I.hok dd _ hH
        obtain ⟨mA, hns, _⟩ := hx
        obtain ⟨od, ho, _⟩ := lookIn_ns hns
        exact ⟨some od, hget, hz.1, nc, by rw [hz.2]; exact ho⟩
    obtain ⟨od, J⟩ := at_
    have cl : (PySem.W.clsIn X.K D).isSome = true := by
      obtain ⟨cd, hc, _⟩ := PySem.W.any_some C.hd
      rw [hc]; rfl
    exact PySem.W.kia_one (PySem.W.kitx_exc cl C.hg C.hk C.hs C.ha C.hn C.ht C.hm) I.kIn J e (fun z => nomatch z) fun tk => ⟨.bl b, H, I.kept (t' := tk) fun _ _ z => z, rfl, q⟩
def tEnt (K : PySem.W.Frag) (en : EN) (C a : Addr) (cls : Value) (d : Option Addr) : TS :=
  tIfS (tB (tCB (rIsX K cls d a) (tCons (tVar 2) (tCons (tC (.ref C)) tNil)))) (tDrop (tBM K "list" rAppend (tVar 1) (tCons (match en.fld with
    | some f => if en.alone = true then tXf a cls d C f (tVar 2) else tTup (tCons (tC (.str en.tag)) (tCons (tXf a cls d C f (tVar 2)) tNil))
    | none => tC (.str en.tag)) tNil))) tNext
def tErrS (K : PySem.W.Frag) (a : Addr) (cls : Value) (d : Option Addr) : List (EN × Addr) → TS
  | [] => tNext
  | p :: r => tSeq (tEnt K p.1 p.2 a cls d) (tErrS K a cls d r)
/-- the suite, told of heaps: l the list that is made, vs its items -/
def ErrH (K : PySem.W.Frag) (cls : Value) (d : Option Addr) (l : Addr) : List (EN × Addr) → Hp → List V → VK → Prop
  | [], H, _, Q => Q (.ref l) H
  | p :: r, H, vs, Q => ∃ (D : Addr) (b : Bool), cls = .ref D ∧ ExcC K D ∧ DictAt H d ∧ PySem.W.kitOne K (.ref D) (.ref p.2) = some b ∧ H l = some (.lst vs) ∧ vs.length < 20 ∧
    if b = true then (match p.1.fld with
      | some f => ∃ (dd : Addr) (fs : List (Str × V)) (v : V), cls = .ref p.2 ∧ d = some dd ∧ H dd = some (.xd fs) ∧ fs.lookup f = some v ∧ if p.1.alone = true then ErrH K cls d l r (upd H l (.lst (vs ++ [v]))) (vs ++ [v]) Q else ∀ t, H t = none → ErrH K cls d l r (upd (upd H t (.tup [.str p.1.tag, v])) l (.lst (vs ++ [.ref t]))) (vs ++ [.ref t]) Q
      | none => ErrH K cls d l r (upd H l (.lst (vs ++ [.str p.1.tag]))) (vs ++ [.str p.1.tag]) Q)
    else ErrH K cls d l r H vs Q
theorem err_run {K : PySem.W.Frag} {cls : Value} {d : Option Addr} {l a : Addr} {Q : VK} {D : Ends} {σ : L2.St} (h1 : σ[1]? = some (some (.ref l))) (h2 : σ[2]? = some (some (.ref a))) (hD : ∀ H, Q (.ref l) H → D.nx σ H) : ∀ (ens : List (EN × Addr)) (H : Hp) (vs : List V), ErrH K cls d l ens H vs Q → tErrS K a cls d ens D σ H
  | [], H, vs, h => hD H h
  | p :: r, H, vs, h => by
    obtain ⟨D0, b, e1, C, hd, hk, hl, hz, h⟩ := h
    refine ⟨_, h2, _, _, _, _, e1, C, hd, rfl, (fun u z => z), hk, b, rfl, ?_⟩
    cases b with
    | false => exact err_run h1 h2 hD r H vs h
    | true =>
      have h20 : 20 < sizeLine := by decide
      rw [if_pos rfl] at h ⊢
      refine ⟨.ref l, h1, .inl ⟨rfl, vs, SqL.of hl⟩, ?_⟩
      cases q : p.1.fld with
      | none =>
        simp only [q] at h ⊢
        exact ⟨l, vs, _, rfl, rfl, hl, by omega, err_run h1 h2 hD r _ _ h⟩
      | some f =>
        simp only [q] at h ⊢
        obtain ⟨dd, fs, v, e2, e3, e4, e5, h⟩ := h
        by_cases ha : p.1.alone = true
        · rw [if_pos ha] at h ⊢
          exact ⟨_, h2, rfl, e2, dd, fs, v, e3, e4, e5, ⟨l, vs, _, rfl, rfl, hl, by omega, err_run h1 h2 hD r _ _ h⟩⟩
        rw [if_neg ha] at h ⊢
        refine ⟨_, h2, rfl, e2, dd, fs, v, e3, e4, e5, (by show 2 ≤ sizeLine; decide), fun t ht => ?_⟩
        exact ⟨l, vs, _, rfl, rfl, (by rw [upd_ne (ne_of_none hl ht)]; exact hl), by omega, err_run h1 h2 hD r _ _ (h t ht)⟩
/-- what the def makes of a call's reading: CS the class that is caught -/
def TTerr (K : PySem.W.Frag) (CS : Addr) (ens : List (EN × Addr)) : (XK → Hp → VK → Prop) → Hp → VK → Prop := fun tl H Q => ∀ l, H l = none →
  tl (fun cls d H2 => ∃ b, PySem.W.exmOne K cls (.ref CS) = some b ∧ (b = true → ErrH K cls d l ens H2 [] Q) ∧ (b = false → False)) (upd H l (.lst [])) (fun _ H2 => tVar 0 [some (.ref l)] H2 Q)
end DL
namespace DL
open PySem PySem.Spec L2
open PyProof.Rows hiding St
open LamX hiding ExtN
variable [Tbl]
def argB (s : SC) (en : EN) : Expr → Bool
  | .Constant (.str t) _ _ => strB t en.tag && en.fld.isNone
  | .Attribute (.Name e _) f _ => en.alone && atB s 2 e && visB s e && dunB e && (match en.fld with
    | some g => strB f g
    | none => false)
  | .Tuple [.Constant (.str t) _ _, .Attribute (.Name e _) f _] _ _ => !en.alone && strB t en.tag && atB s 2 e && visB s e && dunB e && (match en.fld with
    | some g => strB f g
    | none => false)
  | _ => false
def entB (s : SC) (en : EN) : Stmt → Bool
  | .If (.Call (.Name i _) [.Name e _, .Name c _] [] _) [.Expr (.Call (.Attribute (.Name f _) m apos) [arg] [] pos) _] [] _ =>
    strB i "isinstance" && glB s i && atB s 2 e && visB s e && dunB e && strB c en.cls && glB s c && atB s 1 f && visB s f && dunB f && strB m "append" && lineB apos pos && argB s en arg
  | _ => false
def entsB (s : SC) : List EN → List Stmt → Bool
  | [], [] => true
  | en :: r, st :: ss => entB s en st && entsB s r ss
  | _, _ => false
section
variable {X : Cx}
structure EnOk (K : PySem.W.Frag) (mg : Str → Option Value) (p : EN × Addr) : Prop where
  m : mg p.1.cls = some (.ref p.2)
  f : ∀ f, p.1.fld = some f → XfC K p.2 ∧ PySem.W.findIn K (.ref p.2) f = some none
theorem arg_ok {a : Addr} {oe : Obj} {cls : Value} {d : Option Addr} {pn : List (Addr × Obj)} {s : SC} (hs : s = scX X) {p : EN × Addr} {arg : Expr} (ho : EnOk X.K X.mg p) (hz : Zc cls d oe) (hf : ∃ vs, oe.data = .fields vs) (h : argB s p.1 arg = true) :
    nstar arg = true ∧ PE (X.suite a ((a, oe) :: pn)) arg (match p.1.fld with
      | some f => if p.1.alone = true then tXf a cls d p.2 f (tVar 2) else tTup (tCons (tC (.str p.1.tag)) (tCons (tXf a cls d p.2 f (tVar 2)) tNil))
      | none => tC (.str p.1.tag)) := by
  subst hs
  unfold argB at h
  split at h
  · simp only [Bool.and_eq_true] at h
    obtain ⟨h1, h2⟩ := h
    have e : p.1.fld = none := by
      cases q : p.1.fld with
      | none => rfl
      | some f => rw [q] at h2; cases h2
    rw [e, ← strB_eq h1]
    exact ⟨rfl, pe_str⟩
  · simp only [Bool.and_eq_true] at h
    obtain ⟨⟨⟨⟨h0, h2⟩, h3⟩, h4⟩, h5⟩ := h
    split at h5
    · rename_i g hg
      obtain ⟨T, no⟩ := ho.f _ hg
      rw [if_pos h0, ← strB_eq h5]
      rw [← strB_eq h5] at no
      exact ⟨rfl, pe_xf T no hz hf (pe_var (X := X.suite a ((a, oe) :: pn)) (atB_get h2) (visB_vis (X := X) h3) (dunB_1 h4) (dunB_2 h4)) (nsup_base rfl)⟩
    · cases h5
  · simp only [Bool.and_eq_true, Bool.not_eq_true'] at h
    obtain ⟨⟨⟨⟨⟨h0, h1⟩, h2⟩, h3⟩, h4⟩, h5⟩ := h
    split at h5
    · rename_i g hg
      rw [if_neg (by rw [h0]; decide), ← strB_eq h1, ← strB_eq h5]
      obtain ⟨T, no⟩ := ho.f _ hg
      rw [← strB_eq h5] at no
      refine ⟨rfl, pe_tup (pa_cons pe_str (pa_cons (pe_xf T no hz hf (pe_var (X := X.suite a ((a, oe) :: pn)) (atB_get h2) (visB_vis (X := X) h3) (dunB_1 h4) (dunB_2 h4)) (nsup_base rfl)) pa_nil))⟩
    · cases h5
  · cases h
theorem ent_ok {a : Addr} {oe : Obj} {cls : Value} {d : Option Addr} {pn : List (Addr × Obj)} {s : SC} (hs : s = scX X) (hi : X.mg "isinstance" = none) {p : EN × Addr} {st : Stmt} (ho : EnOk X.K X.mg p) (hz : Zc cls d oe) (hf : ∃ vs, oe.data = .fields vs) (h : entB s p.1 st = true) :
    PS (X.suite a ((a, oe) :: pn)) st (tEnt X.K p.1 p.2 a cls d) := by
  subst hs
  unfold entB at h
  split at h
  · rename_i i q1 e q2 c q3 q4 f q5 m apos arg pos q6 q7
    simp only [Bool.and_eq_true] at h
    obtain ⟨⟨⟨⟨⟨⟨⟨⟨⟨⟨⟨⟨h1, h2⟩, h3⟩, h4⟩, h5⟩, h6⟩, h7⟩, h8⟩, h9⟩, h10⟩, h11⟩, h12⟩, h13⟩ := h
    obtain rfl := strB_eq h1
    obtain rfl := strB_eq h6
    obtain rfl := strB_eq h11
    obtain ⟨g1, d1, n1⟩ := glB_gl (X := X) h2
    obtain ⟨g2, d2, n2⟩ := glB_gl (X := X) h7
    obtain ⟨w, pa⟩ := arg_ok (a := a) (pn := pn) rfl ho hz hf h13
    have pe1 : PE (X.suite a ((a, oe) :: pn)) (.Name e q2) (tVar 2) := pe_var (X := X.suite a ((a, oe) :: pn)) (atB_get h3) (visB_vis (X := X) h4) (dunB_1 h5) (dunB_2 h5)
    have pe2 : PE (X.suite a ((a, oe) :: pn)) (.Name _ q3) (tC (.ref p.2)) := pe_glob (X := X.suite a ((a, oe) :: pn)) g2 ho.m rfl d2
    have pc := pe_callB (p := q1) (pos := q4) (X := X.suite a ((a, oe) :: pn)) (call_isX (X := X) hz hf) g1 hi (by rfl) (pa_cons pe1 (pa_cons pe2 pa_nil)) n1 d1 rfl rfl
    have pv1 : PE (X.suite a ((a, oe) :: pn)) (.Name f q5) (tVar 1) := pe_var (X := X.suite a ((a, oe) :: pn)) (atB_get h8) (visB_vis (X := X) h9) (dunB_1 h10) (dunB_2 h10)
    exact ps_if (pt_val pc (ptest_true rfl)) (pss_one (ps_expr (pe_bm PySem.F.plainAttrs_list PySem.F.slot_list_append PySem.F.type_list_append mt_append pv1 (pa_cons pa pa_nil (starEach_ns w)) (nsup_base rfl) (few_ok (by rw [List.all_cons, w]; rfl) (by show 1 < 20; decide)) h12 (starEach_ns w) rfl) (sw_none rfl))) pss_nil
  · cases h
theorem ents_ok {a : Addr} {oe : Obj} {cls : Value} {d : Option Addr} {pn : List (Addr × Obj)} (hi : X.mg "isinstance" = none) (hz : Zc cls d oe) (hf : ∃ vs, oe.data = .fields vs) : ∀ {ens : List (EN × Addr)} {sts : List Stmt}, (∀ p ∈ ens, EnOk X.K X.mg p) → entsB (scX X) (ens.map (·.1)) sts = true → PSs (X.suite a ((a, oe) :: pn)) sts (tErrS X.K a cls d ens)
  | [], [], _, _ => pss_nil
  | [], _ :: _, _, h => by cases h
  | _ :: _, [], _, h => by cases h
  | p :: r, st :: ss, ho, h => by
    have h : (entB (scX X) p.1 st && entsB (scX X) (r.map (·.1)) ss) = true := h
    rw [Bool.and_eq_true] at h
    exact pss_cons (ent_ok rfl hi (ho p List.mem_cons_self) hz hf h.1) (ents_ok hi hz hf (fun q hq => ho q (List.mem_cons_of_mem _ hq)) h.2)
/-- the def's text -/
def errB (s : SC) (ens : List EN) (cs : Str) (body : List Stmt) : Bool := match body with
  | [.Assign [.Name f1 _] (.List [] _) _, .Try [.Expr (.Call (.Name a1 _) [] [] _) _] [.ExceptHandler (some (.Name c1 _)) (some e1) (s0 :: ss) _] [] [] _, .Return (some (.Name f2 _)) _] =>
    atB s 1 f1 && stoB s f1 && atB s 1 f2 && visB s f2 && dunB f2 && strB c1 cs && glB s c1 && atB s 2 e1 && (match s.kind e1 with
      | some .local => true
      | _ => false) && atB s 0 a1 && visB s a1 && dunB a1 && entsB s ens (s0 :: ss)
  | _ => false
theorem err_gives {Ng : List Str} {x a q cs : Str} {sg : Scope} {g CS : Addr} {cdg : Value} {body : List Stmt} {ens : List (EN × Addr)} (nd : Ng.Nodup) (h3 : Ng.length = 3) (h0 : Ng[0]? = some a) (hcs : X.mg cs = some (.ref CS)) (hi : X.mg "isinstance" = none) (ho : ∀ p ∈ ens, EnOk X.K X.mg p)
    (hb : errB ⟨Ng, sg, fun _ => true, x ++ ".<locals>."⟩ (ens.map (·.1)) cs body = true) : GivesD X Ng x sg g cdg body a q (TTerr X.K CS ens) := by
  intro f c' s H Q tl act hc h
  unfold errB at hb
  split at hb
  · rename_i f1 p1 p2 p3 a1 p4 p5 p6 c1 p7 e1 s0 ss p8 p9 f2 p10 p11
    simp only [Bool.and_eq_true] at hb
    obtain ⟨⟨⟨⟨⟨⟨⟨⟨⟨⟨⟨⟨b1, b2⟩, b3⟩, b4⟩, b5⟩, b6⟩, b7⟩, b8⟩, b9⟩, b10⟩, b11⟩, b12⟩, b13⟩ := hb
    obtain rfl := strB_eq b6
    have ea : a1 = a := by
      have := atB_get b10
      have : Ng[0]? = some a1 := this
      rw [h0] at this
      exact (Option.some.inj this).symm
    subst ea
    generalize hX0 : (cxOf C8.CX0 X.prog X.w X.K X.mg X.base Ng x sg g cdg X.A X.stack s H C8.E0) = X0
    have k1 : X0.nox.N = Ng := by subst hX0; rfl
    have k2 : X0.nox.env.scope = sg := by subst hX0; rfl
    have k3 : X0.nox.mg = X.mg := by subst hX0; rfl
    have k4 : X0.nox.K = X.K := by subst hX0; rfl
    have ksc : (⟨Ng, sg, fun _ => true, x ++ ".<locals>."⟩ : SC) = scX X0.nox := by subst hX0; rfl
    have kst : X0.nox.stack = X0.nox.env :: X0.nox.outer := by subst hX0; rfl
    have kfr : X0.nox.env.frame = some X0.nox.env.locals := by subst hX0; rfl
    have kcl : X0.nox.calm = true := by subst hX0; rfl
    rw [ksc] at b1 b2 b3 b4 b7 b8 b9 b10 b11 b13
    have nd' : X0.nox.N.Nodup := by rw [k1]; exact nd
    obtain ⟨gc, dc, nc⟩ := glB_gl b7
    have ps1 : PS X0.nox (.Assign [.Name f1 p1] (.List [] p2) p3) (tAsg (tLst tNil) (gName 1)) := by
      have z := (chkG_ok (X := X0.nox) kcl nd' (t := .name 1)).1 (e := .Name f1 p1) (by show (atB (scX X0.nox) 1 f1 && stoB (scX X0.nox) f1) = true; rw [b1, b2]; rfl)
      rw [Tg.tg] at z
      exact ps_asg (pe_lst pa_nil) z rfl rfl rfl
    have loc : X0.nox.env.kindOf e1 = some .local := by
      show X0.nox.env.scope.names.lookup e1 = some .local
      have b9' : (match X0.nox.env.scope.names.lookup e1 with
        | some .local => true
        | _ => false) = true := b9
      split at b9'
      · rename_i z; exact z
      · cases b9'
    have ps2 := ps_try_as (X := X0.nox) (c := .ref CS) (Wout := fun _ _ _ _ => False) (i := 2) (n := e1) (x := c1) (np := p7) (pos := p9) (pos' := p8) (b₀ := s0) (suite := ss) (body := [.Expr (.Call (.Name a1 p4) [] [] p5) p6])
      (tb := fun W D σ H => ∃ Ech : XK, (∀ cls d H', Ech cls d H' → W cls d σ H') ∧ σ[0]? = some (some (.ref f)) ∧ H c' = some (CodeO c' q) ∧ tl Ech H (fun _ H2 => D.nx σ H2))
      (ts := fun a cls d => tErrS X0.nox.K a cls d ens)
      kst kfr nd' (atB_get b8) loc ⟨gc, dc, .inl (by rw [k3]; exact hcs)⟩ L2.takes0 (fun W pn xe tk _ => ?_) (fun a oe cls d pn hz hf => ents_ok (X := X0.nox) (by rw [k3]; exact hi) hz hf (fun p hp => by rw [k3, k4]; exact ho p hp) b13)
    · have pr : PE X0.nox (.Name f2 p10) (tVar 1) := pe_var (atB_get b3) (visB_vis b4) (dunB_1 b5) (dunB_2 b5)
      have hN : Ng = [a1, f1, e1] := by
        have z1 : X0.nox.N[1]? = some f1 := atB_get b1
        have z2 : X0.nox.N[2]? = some e1 := atB_get b8
        rw [k1] at z1 z2
        match Ng, h3, h0, z1, z2 with
        | [u, v, w], _, h0, z1, z2 => simp at h0 z1 z2; rw [h0, z1, z2]
      refine ⟨_, pss_cons ps1 (pss_cons ps2 (pss_one (ps_ret pr))), ?_⟩
      subst hN
      refine ⟨(by decide : 0 ≤ sizeLine), fun l hl => ?_⟩
      refine ⟨fun cls d H2 => ∃ b, PySem.W.exmOne X.K cls (.ref CS) = some b ∧ (b = true → ErrH X.K cls d l ens H2 [] Q) ∧ (b = false → False), fun cls d H' hE => ?_, rfl, (by rw [upd_ne (ne_of_none hc hl)]; exact hc), ?_⟩
      rotate_left
      · exact h l hl
      · obtain ⟨b, w1, w2, w3⟩ := hE
        refine ⟨b, by rw [k4]; exact w1, fun z a0 ha => ?_, fun z => w3 z⟩
        rw [k4]
        refine err_run ?_ ?_ ?_ ens H' [] (w2 z)
        · rfl
        · rfl
        · exact fun H3 q3 => ⟨_, rfl, q3⟩
    · refine ⟨fun pins s' σ H' D I h' => ?_⟩
      obtain ⟨Ech, w1, w2, w3, w4⟩ := h'
      subst hX0
      exact (pss_one (ps_expr (pos := p6) (act W pn xe p4 p5 tk) (sw_none rfl))).run pins s' σ H' D I ⟨Ech, w1, w2, w3, w4⟩
  · cases hb
end
end DL
namespace DL
open PySem PySem.Spec L2
open PyProof.Rows hiding St
open LamX hiding ExtN
variable [Tbl]
structure XcF (K : PySem.W.Frag) (mg : Str → Option Value) (CS : Addr) (ens : List (EN × Addr)) (known : List Str) : Prop where
  at_ : ∀ c ∈ known, ∀ D, mg c = some (.ref D) → ExcC K D ∧ PySem.W.exmOne K (.ref D) (.ref CS) = some true ∧ ∀ p ∈ ens, PySem.W.kitOne K (.ref D) (.ref p.2) = some (decide (c = p.1.cls)) ∧ mg p.1.cls = some (.ref p.2)
section
variable {K : PySem.W.Frag} {mg : Str → Option Value}
theorem tstep_ok {B : Addr → Prop} {S : Sto} {ρ : List (List Addr)} {H H1 : Hp} (ok : StOk K mg B S ρ H) (st : TStep H H1) (T1 : TabsAt H1) : StOk K mg B S ρ H1 ∧ Ext B S ρ H B S ρ H1 := by
  have tb : ∀ {a}, IsTb a → B a := fun z => ok.ban _ (.inr z)
  have gr : Gr B H B H1 := fun a o h b => ⟨st a o h fun z => b (tb z), b⟩
  have dom : ∀ a, H a ≠ none → H1 a ≠ none := fun a h z => by
    by_cases t : IsTb a
    · obtain ⟨ps, e⟩ := tabs_at T1 t
      rw [e] at z; cases z
    · cases q : H a with
      | none => exact h q
      | some o => rw [st a o q t] at z; cases z
  have notT : ∀ {i fp c a}, ρ[i]? = some fp → S[i]? = some (some c) → a ∈ fp → ¬ IsTb a := fun {i fp c a} h1 h2 h3 z => by
    obtain ⟨ps, e⟩ := tabs_at ok.tabs z
    exact ((ok.cell i fp c h1 h2).noT h3 _ e).1 ps rfl
  refine ⟨⟨ok.len, fun i fp c h1 h2 => (ok.cell i fp c h1 h2).mono gr fun a ha o ho => st a o ho (notT h1 h2 ha), ok.ban, ok.disj, fun a h => dom a (ok.dom a h), T1⟩,
    ⟨Nat.le_refl _, fun _ _ h => h, fun _ h => h, fun a o h n => st a o h fun z => n (.inr z), fun _ _ _ h => h, fun i fp c h1 h2 h3 => ?_, dom, ok.dom, fun _ h _ => h⟩⟩
  have := (List.getElem?_eq_some_iff.mp h3).1
  omega
/-- the error's own dict -/
def RXd (K : PySem.W.Frag) (mg : Str → Option Value) (B : Addr → Prop) (H : Hp) (d : Option Addr) (fs : List (Str × D)) : Prop := match fs with
  | [] => d = none
  | fs => ∃ a fvs, d = some a ∧ H a = some (.xd fvs) ∧ RDf K mg B H fvs fs
theorem RXd.dict {B : Addr → Prop} {H : Hp} {d : Option Addr} {fs : List (Str × D)} (r : RXd K mg B H d fs) : DictAt H d := by
  cases fs with
  | nil => exact .inl r
  | cons f fs =>
    obtain ⟨a, fvs, e1, e2, _⟩ := r
    exact .inr ⟨a, fvs, e1, e2⟩
theorem RXd.get {B : Addr → Prop} {H : Hp} {d : Option Addr} {fs : List (Str × D)} {f : Str} {x : D} (r : RXd K mg B H d fs) (h : fs.lookup f = some x) : ∃ dd fvs v, d = some dd ∧ H dd = some (.xd fvs) ∧ fvs.lookup f = some v ∧ RD K mg B H v x := by
  cases fs with
  | nil => cases h
  | cons g fs =>
    obtain ⟨a, fvs, e1, e2, r⟩ := r
    obtain ⟨v, e3, e4⟩ := r.lookup h
    exact ⟨a, fvs, v, e1, e2, e3, e4⟩
theorem RXd.mono {B B' : Addr → Prop} {H H' : Hp} {d : Option Addr} {fs : List (Str × D)} (r : RXd K mg B H d fs) (g : Gr B H B' H') (k : ∀ a fvs, H a = some (.xd fvs) → H' a = some (.xd fvs)) : RXd K mg B' H' d fs := by
  cases fs with
  | nil => exact r
  | cons f fs =>
    obtain ⟨a, fvs, e1, e2, r⟩ := r
    exact ⟨a, fvs, e1, k a fvs e2, r.mono g⟩
theorem err_sim {l : Addr} {cls D0 : Addr} {d : Option Addr} {c : Str} {fs : List (Str × D)} {known : List Str} {CS : Addr} {all : List (EN × Addr)} (F : XcF K mg CS all known) (hc : c ∈ known) (hm : mg c = some (.ref cls)) {g0 : At} (hl : g0.ρ.length = g0.S.length) (hn : g0.H l = none) {Q : VK} {S : Sto} {ρ : List (List Addr)}
    {fin : List D} (hQ : ∀ H B, StOk K mg B S ρ H → g0.to B S ρ H → RD K mg B H (.ref l) (.lst fin) → Q (.ref l) H) : ∀ (ens : List (EN × Addr)) (B : Addr → Prop) (H : Hp) (acc ds : List D) (vs : List V), (∀ p ∈ ens, p ∈ all) → acc.length + ens.length < 20 → StOk K mg B S ρ H → CInv K mg l B S ρ H acc → H l = some (.lst vs) → g0.to B S ρ H → RXd K mg B H d fs →
      errD (ens.map (·.1)) c fs = some ds → acc ++ ds = fin → ErrH K (.ref cls) d l ens H vs Q
  | [], B, H, acc, ds, vs, _, _, ok, ci, hv, e, rx, he, hf => by
    cases he
    rw [List.append_nil] at hf
    subst hf
    obtain ⟨ok2, e2, rd⟩ := cinv_end ci ok e hn
    exact hQ H _ ok2 e2 rd
  | p :: r, B, H, acc, ds, vs, hsub, hz, ok, ci, hv, e, rx, he, hf => by
    obtain ⟨C, _, hk⟩ := F.at_ c hc cls hm
    obtain ⟨k1, k2⟩ := hk p (hsub p List.mem_cons_self)
    have lenv : vs.length = acc.length := by
      obtain ⟨ws, h1, h2⟩ := ci.at_
      rw [hv] at h1
      cases h1
      exact h2.length
    rw [List.length_cons] at hz
    refine ⟨cls, _, rfl, C, rx.dict, k1, hv, by omega, ?_⟩
    have he : (if c = p.1.cls then (if SOk p.1.tag then (match p.1.fld with
      | some f => (fs.lookup f).bind fun d => (errD (r.map (·.1)) c fs).map ((if p.1.alone = true then d else D.tup [.str p.1.tag, d]) :: ·)
      | none => (errD (r.map (·.1)) c fs).map (D.str p.1.tag :: ·)) else none) else errD (r.map (·.1)) c fs) = some ds := he
    have nxt : ∀ {B1 : Addr → Prop} {H1 : Hp} {v : V} {x : D} {ds' : List D}, StOk K mg B1 S ρ H1 → CInv K mg l B1 S ρ H1 acc → H1 l = some (.lst vs) → g0.to B1 S ρ H1 → RXd K mg B1 H1 d fs → RD K mg B1 H1 v x → errD (r.map (·.1)) c fs = some ds' → x :: ds' = ds →
        ErrH K (.ref cls) d l r (upd H1 l (.lst (vs ++ [v]))) (vs ++ [v]) Q := fun {B1 H1 v x ds'} ok1 ci1 hv1 e1 rx1 rv q1 q2 => by
      obtain ⟨ws, w1, w2, w3⟩ := ci1.app rv
      rw [hv1] at w1
      cases w1
      refine err_sim F hc hm (D0 := D0) hl hn hQ r B1 _ (acc ++ [x]) ds' (vs ++ [v]) (fun q hq => hsub q (List.mem_cons_of_mem _ hq)) (by rw [List.length_append]; simp; omega) (ok1.updD ci1.ban ci1.nf ci1.noT) w3 upd_same (e1.updD hn) (rx1.mono (rds_upd ci1.ban) fun a fvs ha => ?_) q1 (by rw [List.append_assoc, List.singleton_append, q2]; exact hf)
      rw [upd_ne (ne_of ha hv1 (by intro z; cases z))]; exact ha
    by_cases h1 : c = p.1.cls
    · rw [if_pos h1] at he
      rw [if_pos (decide_eq_true h1)]
      split at he
      · rename_i ht
        cases q : p.1.fld with
        | none =>
          simp only [q] at he ⊢
          obtain ⟨ds', q1, q2⟩ := Option.map_eq_some_iff.mp he
          exact nxt ok ci hv e rx (.str _ ht) q1 q2
        | some f =>
          simp only [q] at he ⊢
          obtain ⟨x, q0, q1⟩ := Option.bind_eq_some_iff.mp he
          obtain ⟨ds', q1, q2⟩ := Option.map_eq_some_iff.mp q1
          obtain ⟨dd, fvs, v, w1, w2, w3, w4⟩ := rx.get q0
          have ec : p.2 = cls := by
            rw [h1, k2] at hm
            exact Value.ref.inj (Option.some.inj hm)
          refine ⟨dd, fvs, v, by rw [ec], w1, w2, w3, ?_⟩
          by_cases ha : p.1.alone = true
          · rw [if_pos ha] at q2 ⊢
            exact nxt ok ci hv e rx w4 q1 q2
          rw [if_neg ha] at q2 ⊢
          intro t ht2
          have gr : Grow H (upd H t (.tup [.str p.1.tag, v])) := Grow.upd ht2
          have rt : RD K mg B (upd H t (.tup [.str p.1.tag, v])) (.ref t) (.tup [.str p.1.tag, x]) := rd_newT ht2 ok.dom (.cons (.str _ ht) (.cons w4 .nil))
          exact nxt (ok.grow gr) (ci.step ok (Ext.grow ok gr)) (gr _ _ hv) (e.trans (Ext.grow ok gr) hl ok.len) (rx.mono gr.gr fun a fvs ha => gr _ _ ha) rt q1 q2
      · cases he
    · rw [if_neg h1] at he
      rw [if_neg (by simpa using h1)]
      exact err_sim F hc hm (D0 := D0) hl hn hQ r B H acc ds vs (fun q hq => hsub q (List.mem_cons_of_mem _ hq)) (by omega) ok ci hv e rx he hf
theorem sim_err {W : WX} {CS : Addr} {ens : List (EN × Addr)} {known : List Str} {f : F} (F : XcF K mg CS ens known) (h20 : ens.length < 20) : Sim K mg W (tLamD (TTerr K CS ens) (fun E => rdE K mg (We E) f)) (fErr (ens.map (·.1)) known f) := by
  intro γ σ Q g rep h
  refine ⟨rep.st.tabs, fun H1 st T1 l hl => ?_⟩
  obtain ⟨ok1, e1⟩ := tstep_ok rep.st st T1
  have hn : g.H l = none := by
    cases q : g.H l with
    | none => rfl
    | some o =>
      exact absurd hl (e1.dom l (by rw [q]; simp))
  obtain ⟨ci, ok2, e2⟩ := cinv_start ok1 hl
  have e12 := e1.trans e2 rep.st.len ok1.len
  have rep2 : Rep K mg (fun a => g.B a ∨ a = l) γ g.S g.ρ σ (upd H1 l (.lst [])) := (rep.step e1 ok1).step e2 ok2
  refine ⟨γ, ⟨_, g.S, g.ρ, _⟩, rfl, rep2, ?_⟩
  unfold fErr at h
  show (f γ g.S).wp _ _
  cases q : f γ g.S with
  | bad => rw [q] at h; exact h.elim
  | ok x S1 =>
    rw [q] at h
    intro v H2 B2 ρ2 rep3 e3 rv
    refine ⟨.ref l, rfl, ?_⟩
    have ci3 := ci.step ok2 e3
    obtain ⟨ok4, e4, rd⟩ := cinv_end ci3 rep3.st (e12.trans e3 rep.st.len ok2.len) hn
    have r4 : Rep K mg (fun a => B2 a ∧ a ≠ l) γ S1 ρ2 σ H2 := ⟨ok4, fun i y hy => by
      obtain ⟨w, w1, w2⟩ := rep3.slot i y hy
      refine ⟨w, w1, ?_⟩
      cases y with
      | im dd => exact RD.mono (fun a o ha b => ⟨ha, fun z => b z.1⟩) w2
      | cl j => exact w2, rep3.len⟩
    exact h (.ref l) H2 _ ρ2 r4 e4 rd
  | exc c fs γ' S1 =>
    rw [q] at h
    simp only at h
    split at h
    · rename_i hk
      obtain ⟨dl, hd, hq⟩ := R.ofO_wp h
      obtain ⟨ds, hds, rfl⟩ := Option.map_eq_some_iff.mp hd
      intro cls dd H2 B2 ρ2 rep3 e3 rx
      obtain ⟨C, hm, ecls, rx⟩ := rx
      subst ecls
      obtain ⟨X1, X2, _⟩ := F.at_ c hk C hm
      refine ⟨true, X2, fun _ => ?_, fun z => by cases z⟩
      have ci3 := ci.step ok2 e3
      have hv : H2 l = some (.lst []) := by
        obtain ⟨ws, w1, w2⟩ := ci3.at_
        cases w2
        exact w1
      have rx' : RXd K mg B2 H2 dd fs := by cases fs <;> exact rx
      refine err_sim (D0 := C) (S := S1) (ρ := ρ2) F hk hm (g0 := g) rep.st.len hn (fin := ds) (fun H B ok e rd => ?_) ens B2 H2 [] ds [] (fun _ z => z) (by simpa using h20) rep3.st ci3 hv (e12.trans e3 rep.st.len ok2.len) rx' hds (by simp)
      exact hq (.ref l) H B ρ2 ⟨ok, fun i y hy => by
        obtain ⟨w, w1, w2⟩ := rep.slot i y hy
        exact ⟨w, w1, RV.mono e rep.st w2⟩, rep.len⟩ e rd
    · exact h.elim
end
end DL
namespace DL
open PySem PySem.Spec L2
open PyProof.Rows hiding St
variable [Tbl]
/-- a def that tells errors -/
def ErF (K : PySem.W.Frag) (mg : Str → Option Value) (x : Str) (er : ErR) : Prop := ∃ (g : Addr) (a cs : Str) (CS : Addr) (pg : Arguments) (bg : List Stmt) (sg : Scope) (dV kV doc pm cdv ct oc : Value) (an od : Option Addr) (osl : Array (Option Value)) (Ng : List Str) (ens : List (EN × Addr)),
  ens.map (·.1) = er.ens ∧ mg x = some (.ref g) ∧ PySem.W.keepIn K (.ref g) = true ∧ K.lookup g = some ⟨oc, od, .func (PySem.W.fnOf x x pg bg sg dV kV doc pm an cdv ct), osl⟩ ∧ PySem.W.codeIn K cdv x = true ∧ L2.Binds K (PySem.W.fnOf x x pg bg sg dV kV doc pm an cdv ct) [a] [] ∧ FnScope Ng [a] sg ∧
  Ng.length = 3 ∧ Ng[0]? = some a ∧ Vis sg a ∧ (a == ("__debug__" : Str)) = false ∧ (a == ("__classdict__" : Str)) = false ∧ mg cs = some (.ref CS) ∧ mg "isinstance" = none ∧ (∀ p ∈ ens, EnOk K mg p) ∧ errB ⟨Ng, sg, fun _ => true, x ++ ".<locals>."⟩ er.ens cs bg = true ∧ XcF K mg CS ens er.known ∧ ens.length < 20
structure GFX (Γ : GE) (G : GX) (L : Nat) (P : Program) (w : World) (K : PySem.W.Frag) (mg : Str → Option Value) (base : Heap) : Prop where
  clsv : ∀ c ∈ Γ.cls, ∃ C, mg c = some (.ref C)
  flds : ∀ (i : Nat) f cs, G.flds[i]? = some (f, cs) → FldOk K mg f (inB cs)
  ex0 : ∀ (i : Nat) c, Γ.exs[i]? = some (c, []) → ∃ C B newId initId bmB, mg c = some (.ref C) ∧ ExcBaseFacts B newId initId bmB ∧ PySem.W.excIn K C bmB newId = true ∧ PySem.W.keepIn K (.ref C) = true ∧ PySem.W.subIn K (.ref C) (.type "BaseException") = some true ∧ PySem.W.typeIn K (.ref C) = some (.type "type")
  ex1 : ∀ (i : Nat) c f fs, Γ.exs[i]? = some (c, f :: fs) → ∃ C fI fd ps, mg c = some (.ref C) ∧ OexC K C ∧ PySem.W.findIn K (.ref C) "__init__" = some (some (.ref fI)) ∧ PySem.W.typeIn K (.ref fI) = some (.type "function") ∧ FnOk P w K mg base (L2.CX P w) 1 fI fd ps (spX K (f :: fs)) ∧ Binds K fd ps [] ∧ (∀ g ∈ f :: fs, PySem.W.findIn K (.ref C) g = some none) ∧ (f :: fs).length ≤ 8
  errs : ∀ (i : Nat) x er, Γ.errs[i]? = some (x, er) → ErF K mg x er
  mkrs : ∀ q ∈ Γ.mkrs, (q ++ "<lambda>" ++ ".<locals>.") ∉ Γ.mkrs
structure CtX (Γ : GE) (G : GX) (L : Nat) (X : Cx) (E : XK) : Prop extends Ct Γ L X E where
  gx : GFX Γ G L X.prog X.w X.K X.mg X.base
  lam : X.env.qual ∈ Γ.mkrs → ∃ c P, X.env.code = .ref c ∧ LamX.TabB X.base X.mg c P ∧ (P, X.env.qual ++ "<lambda>") ∈ Tbl.T ∧ (∀ p ∈ Tbl.T, p.1 = P → p.2 = X.env.qual ++ "<lambda>") ∧ 2 ≤ L ∧ GF Γ (L - 2) X.prog X.w X.K X.mg X.base ∧ GFX Γ G (L - 2) X.prog X.w X.K X.mg X.base
section
variable {Γ : GE} {G : GX} {L : Nat} {X : Cx} {E : XK}
theorem CtX.blk (c : CtX Γ G L X E) (s : Shared) (H : Hp) (scope : Scope) (cl : List (Str × Addr)) (C : Addr) (fp : List Addr) : CtX Γ G L (X.blk s H scope (compEnvC scope cl C X.env) fp) C8.E0 :=
  ⟨c.toCt.blk s H scope cl C fp, c.gx, c.lam⟩
theorem cv_ok (c : CtX Γ G L X E) {v : CV} {e : Expr} (h : cvB Γ (scX X) v e = true) : ∃ u, PE X e (tC u) ∧ v.at X.mg u := by
  cases v with
  | bt n =>
    cases e with
    | Name x p =>
      have h : (bltB Γ (scX X) x (Str.ofString n) && decide (n ∈ (["int", "bool", "str", "list", "tuple", "dict"] : List String))) = true := h
      simp only [Bool.and_eq_true, decide_eq_true_eq] at h
      obtain ⟨h1, h2⟩ := h
      obtain ⟨rfl, g, d, nn, b⟩ := bltB_at h1
      exact ⟨.ty n, pe_bltn g (c.gf.blt _ b) (boot_ty h2) rfl nn d, _, rfl, .ty n⟩
    | _ => cases h
  | own k =>
    cases e with
    | Name x p =>
      have h : (strB x k && glB (scX X) x && decide (k ∈ Γ.cls)) = true := h
      simp only [Bool.and_eq_true, decide_eq_true_eq] at h
      obtain ⟨⟨h1, h2⟩, h3⟩ := h
      obtain rfl := strB_eq h1
      obtain ⟨g, d, _⟩ := glB_gl h2
      obtain ⟨C, hC⟩ := c.gx.clsv _ h3
      exact ⟨.ref C, pe_glob g hC rfl d, .ref C, hC, .own C⟩
    | _ => cases h
theorem cvs_ok (c : CtX Γ G L X E) : ∀ {l : List CV} {es : List Expr}, cvsB Γ (scX X) l es = true → ∃ vs us, PA X es (tCls vs) ∧ Paired (fun c u => cvV X.mg c = some u) l us ∧ Paired ClsV vs us ∧ vs.length = es.length
  | [], [], _ => ⟨[], [], pa_nil, .nil, .nil, rfl⟩
  | [], _ :: _, h => by cases h
  | _ :: _, [], h => by cases h
  | v :: l, e :: es, h => by
    have h : (cvB Γ (scX X) v e && nstar e && cvsB Γ (scX X) l es) = true := h
    simp only [Bool.and_eq_true] at h
    obtain ⟨⟨h1, h2⟩, h3⟩ := h
    obtain ⟨u, p1, w, p2, p3⟩ := cv_ok c h1
    obtain ⟨vs, us, q1, q2, q3, q4⟩ := cvs_ok c h3
    exact ⟨u :: vs, w :: us, pa_cons p1 q1 (starEach_ns h2), .cons p2 q2, .cons p3 q3, by rw [List.length_cons, List.length_cons, q4]⟩
end
section
variable {K : PySem.W.Frag} {mg : Str → Option Value} {W : WX}
theorem sim_ofTest {t : TE} {f : F} (h : Sim K mg W t f) : Sim K mg W t (fOfT (fTest f)) := fun γ σ Q g rep w => h γ σ Q g rep (by
  unfold fOfT fTest at w
  cases q : f γ g.S with
  | bad => rw [q] at w; exact w.elim
  | exc c fs γ' S => rw [q] at w; exact w
  | ok x S =>
    rw [q] at w
    simp only [R.bind_ok] at w
    cases q2 : x.bl? with
    | none => simp only [q2] at w; exact w.elim
    | some b =>
      simp only [q2, R.bind_ok] at w
      rw [bl_inv q2]
      exact w)
theorem sim_T {t : TE} {f : FT} (h : Sim K mg W t (fOfT f)) : SimT K mg W (tTest t) f := by
  have := simT_test h
  rw [fTest_ofT] at this
  exact this
theorem sim_orR {t u : TE} {f : F} (h : Sim K mg W t f) : Sim K mg W (tOr t u) f := fun γ σ Q g rep w => .inl (h γ σ Q g rep w)
theorem simT_yes : SimT K mg W tYes fYes := fun γ σ Q g rep h => h g.H g.B g.ρ rep (Ext.refl rep.st)
end
def isC : ME .E → Bool
  | .cmp _ _ _ => true
  | .chn _ _ _ _ _ => true
  | _ => false
def isBo : Expr → Bool
  | .BoolOp _ _ _ => true
  | _ => false
section
variable (Γ : GE) (G : GX) (X : Cx) (E : XK)
def rdP (K : PySem.W.Frag) (mg : Str → Option Value) (W : WX) : {τ : Ty} → ME τ → List (TE × TE)
  | _, .pcons k v r => (rdE K mg W (ev Γ G k), rdE K mg W (ev Γ G v)) :: rdP K mg W r
  | _, _ => []
def Good : (τ : Ty) → ME τ → Syn τ → Prop
  | .E, m, e => PE X e (rdE X.K X.mg (We E) (ev Γ G m)) ∧ (isC m = true → PT X e (rdT X.K X.mg (We E) (fTest (ev Γ G m))))
  | .T, m, e => PT X e (rdT X.K X.mg (We E) (ev Γ G m)) ∧ (isBo e = true → PW X e (rdT X.K X.mg (We E) (ev Γ G m))) ∧ PE X e (rdE X.K X.mg (We E) (fOfT (ev Γ G m)))
  | .A, m, es => PA X es (rdA X.K X.mg (We E) (ev Γ G m))
  | .I, m, e => ∀ tg, tgB m tg = true → PI X tg e (rdI X.K X.mg (We E) (ev Γ G m))
  | .S, m, s => PS X s (rdS X.K X.mg (We E) (ev Γ G m))
  | .B, m, b => PSs X b (rdS X.K X.mg (We E) (ev Γ G m))
  | .P, m, p => (∀ pos, PPs X pos p.1 p.2 (rdP Γ G X.K X.mg (We E) m)) ∧ SimP X.K X.mg (We E) (rdP Γ G X.K X.mg (We E) m) (ev Γ G m) ∧ p.1.all (·.isSome) = true
  | .O, m, o => PO X o (rdO X.K X.mg (We E) (ev Γ G m))
  | .C, m, es => PTs X es (rdT X.K X.mg (We E) (ev Γ G m))
  | .M, m, cs => PCs X cs (rdM X.K X.mg (We E) (ev Γ G m))
end
section
variable {Γ : GE} {G : GX} {L : Nat} {X : Cx} {E : XK}
theorem good_E {m : ME .E} {e : Expr} {t : TE} (hm : isC m = false) (h : PE X e t) (s : Sim X.K X.mg (We E) t (ev Γ G m)) : Good Γ G X E .E m e := ⟨pe_rd h s, fun z => by rw [hm] at z; cases z⟩
theorem good_C {m : ME .E} {e : Expr} {t : TE} (h : PE X e t) (h2 : PT X e (tTest t)) (s : Sim X.K X.mg (We E) t (ev Γ G m)) : Good Γ G X E .E m e := ⟨pe_rd h s, fun _ => pt_rd h2 (simT_test s)⟩
theorem good_bad {m : ME .E} {e : Expr} (hm : isC m = false) (h : ev Γ G m = fBad) : Good Γ G X E .E m e := ⟨by rw [h]; exact pe_bad, fun z => by rw [hm] at z; cases z⟩
theorem bi_ok (c : CtX Γ G L X E) (b : BI) : ∃ r, (∀ {x : Str} {e : Expr} {es : List Expr} {t : TA} {p pos : Pos}, bltB Γ (scX X) x (biName b) = true → (e :: es).all nstar = true → PA X (e :: es) t → PE X (.Call (.Name x p) (e :: es) [] pos) (tCB r t)) ∧ PCX X.K X.mg E r (evB Γ b) := by
  have bu : ∀ {id : String} {r : List V → Hp → VK → Prop} {y : Str}, CallR X (.builtin id) r → bootBuiltins y = some (.builtin id) → ∀ {x : Str} {e : Expr} {es : List Expr} {t : TA} {p pos : Pos}, bltB Γ (scX X) x y = true → (e :: es).all nstar = true → PA X (e :: es) t → PE X (.Call (.Name x p) (e :: es) [] pos) (tCB r t) := by
    intro id r y h1 h2 x e es t p pos h3 h4 h5
    obtain ⟨rfl, g, d, nn, b⟩ := bltB_at h3
    rw [List.all_cons, Bool.and_eq_true] at h4
    exact pe_callB h1 g (c.gf.blt _ b) h2 h5 nn d (starEach_ns h4.1) (starAll h4.2)
  have ty : ∀ {T : String} {r : List V → Hp → VK → Prop} {y : Str}, CallR X (.type T) r → bootBuiltins y = some (.type T) → ∀ {x : Str} {e : Expr} {es : List Expr} {t : TA} {p pos : Pos}, bltB Γ (scX X) x y = true → (e :: es).all nstar = true → PA X (e :: es) t → PE X (.Call (.Name x p) (e :: es) [] pos) (tCB r t) := by
    intro id r y h1 h2 x e es t p pos h3 h4 h5
    obtain ⟨rfl, g, d, nn, b⟩ := bltB_at h3
    rw [List.all_cons, Bool.and_eq_true] at h4
    exact pe_callTy h1 g (c.gf.blt _ b) h2 h5 nn d (starEach_ns h4.1) (starAll h4.2)
  cases b
  case len =>
    obtain ⟨tab, h⟩ := c.gf.len
    refine ⟨_, bu ((cr_ownLen (E := E) (SpF.at c.toCt h) c.ps).or cr_lenA) PySem.boot_len, ?_⟩
    show PCX _ _ _ _ (fOwnLenP Γ.lenT (liftCX lenD))
    rw [← fOwnLen_eq h.tr]
    exact pc_ownLen h.rd pc_len.x
  case all => exact ⟨_, bu (cr_all c.calm) (by rfl), pc_all.x⟩
  case any => exact ⟨_, bu (cr_any c.calm) (by rfl), pc_any.x⟩
  case int => exact ⟨_, ty call_int1 (by rfl), pc_int.x⟩
  case bool => exact ⟨_, ty call_bool1 (by rfl), pc_bool.x⟩
  case list =>
    obtain ⟨ltab, h⟩ := c.gf.len
    obtain ⟨itab, h1, h2⟩ := c.gf.it
    have hI : IT X itab := fun cc C me a b =>
      let z := h2 cc C me a b
      ⟨z.ok, z.one, c.room.mono (by have := z.lv; omega), z.binds, z.find, z.isfn⟩
    refine ⟨_, ty ((cr_listOwn (E := E) c.calm hI (SpF.at c.toCt h) c.ps (fun cc C me a b => c.room.mono (by have := (h.me cc C me a b).1.lv; omega)) (fun cc C me a b => c.room.mono (by have := (h2 cc C me a b).lv; omega))).or call_list_of) (by rfl), ?_⟩
    show PCX _ _ _ _ (fListOwnP Γ.itT Γ.lenT (liftCX listD))
    have e : fListOwnP Γ.itT Γ.lenT (liftCX listD) = fListOwn itab ltab (liftCX listD) := by
      funext xs γ S
      unfold fListOwnP fListOwn
      match xs with
      | [] => rfl
      | _ :: _ :: _ => rfl
      | [x] =>
        simp only
        cases clsV x S with
        | none => rfl
        | some cc =>
          simp only [← h1 cc, ← h.tr cc]
          cases itab cc with
          | none => rfl
          | some mi =>
            cases ltab cc with
            | none => rfl
            | some ml => rfl
    rw [e]
    exact pc_listOwn h.rd pc_list.x
  case tup => exact ⟨_, ty call_tuple_of (by rfl), pc_tup.x⟩
  case sort => exact ⟨_, bu cr_sort2 (by rfl), pc_sort.x⟩
theorem fBadF {f : F} {e : Expr} (h : f = fBad) : PE X e (rdE X.K X.mg (We E) f) := by rw [h]; exact pe_bad
theorem callF_ok (c : CtX Γ G L X E) {i : Nat} {x : Str} {e : Expr} {es : List Expr} {t : TA} {fa : FA} {p pos : Pos} (h1 : nameAt Γ.fns i x = true) (h2 : glB (scX X) x = true) (h3 : (e :: es).all nstar = true) (ha : PA X (e :: es) t) (hs : SimA X.K X.mg (We E) t fa) :
    ∃ u r, Γ.fns[i]? = some (x, r) ∧ PE X (.Call (.Name x p) (e :: es) [] pos) u ∧ Sim X.K X.mg (We E) u (fCall (arity r.n r.sem) r.dd fa) := by
  obtain ⟨r, hr⟩ := nameAt_get h1
  obtain ⟨g, d, _⟩ := glB_gl h2
  obtain ⟨m, rfl, hm, F⟩ := c.gf.fns i x r hr
  obtain ⟨ds, hb, hd⟩ := F.binds
  rw [List.all_cons, Bool.and_eq_true] at h3
  exact ⟨_, _, hr, pe_callSD F.ok (c.room.mono (by have := F.lv; omega)) g hm F.kp hb hd (fun σ => passAt c.tk σ) ha d (starEach_ns h3.1) (starAll h3.2), sim_call F.rd hs⟩
theorem make_ok (c : CtX Γ G L X E) {i : Nat} {im : Bool} {x : Str} {e : Expr} {es : List Expr} {t : TA} {fa : FA} {p pos : Pos} (h1 : nameAt Γ.mks i x = true) (h2 : glB (scX X) x = true) (h3 : (e :: es).all nstar = true) (ha : PA X (e :: es) t) (hs : SimA X.K X.mg (We E) t fa) :
    ∃ u r, Γ.mks[i]? = some (x, r) ∧ PE X (.Call (.Name x p) (e :: es) [] pos) u ∧ Sim X.K X.mg (We E) u (fMake x (arity r.n r.sem) r.dd fa im) := by
  obtain ⟨r, hr⟩ := nameAt_get h1
  obtain ⟨g, d, _⟩ := glB_gl h2
  obtain ⟨m, C, rfl, hm, F, M⟩ := c.gf.mks i x r hr
  obtain ⟨ds, hb, hd⟩ := F.binds
  rw [List.all_cons, Bool.and_eq_true] at h3
  exact ⟨_, _, hr, pe_make M F.ok (c.room.mono (by have := F.lv; omega)) g hm hb hd c.ps ha d (starEach_ns h3.1) (starAll h3.2), sim_make hm F.rd hs⟩
theorem meth_ok (c : CtX Γ G L X E) {i : Nat} {m : Str} {o : Expr} {es : List Expr} {to : TE} {t : TA} {fo : F} {fa : FA} {apos pos : Pos} (h1 : nameAt Γ.mts i m = true) (h2 : nsup o = true) (h3 : es.all nstar = true) (h4 : es.length < 20) (h5 : lineB apos pos = true)
    (ho : PE X o to) (hso : Sim X.K X.mg (We E) to fo) (ha : PA X es t) (hs : SimA X.K X.mg (We E) t fa) (he : es = [] → fa = fNil) :
    ∃ u T, Γ.mts[i]? = some (m, T) ∧ PE X (.Call (.Attribute o m apos) es [] pos) u ∧ Sim X.K X.mg (We E) u (fMethP m T fo fa) := by
  obtain ⟨T, hT⟩ := nameAt_get h1
  obtain ⟨tab, h6, h7, h8⟩ := c.gf.mts i m T hT
  have hM : ∀ cc C me, tab cc = some me → X.mg cc = some (.ref C) → MtOk X m C me := fun cc C me a b =>
    let ⟨z1, z2, z3⟩ := h8 cc C me a b
    ⟨z1.at rfl rfl rfl rfl rfl c.room, z2, z3⟩
  have e : ∀ fa : FA, fMethP m T fo fa = fMeth m tab fo fa := fun fa => by
    funext γ S
    unfold fMethP fMeth
    congr 1
    funext x S1
    cases (x.view S1).bind (D.clsNo m) with
    | none => rfl
    | some cc =>
      simp only [← h6 cc]
      cases tab cc with
      | none => rfl
      | some me => rfl
  cases es with
  | nil =>
    refine ⟨_, T, hT, pe_methF0 ho hM c.ps (meth_eval h2 h3 h4 h5), ?_⟩
    rw [he rfl, e]
    exact sim_meth0 h7 hso
  | cons a as =>
    have h3' := h3
    rw [List.all_cons, Bool.and_eq_true] at h3
    refine ⟨_, T, hT, pe_methF ho hM c.ps ha (starEach_ns h3.1) (starAll h3.2) (meth_eval h2 h3' h4 h5), ?_⟩
    rw [e]
    exact sim_meth h7 hso hs
theorem methS_ok (c : CtX Γ G L X E) {i : Nat} {m : Str} {o : Expr} {es : List Expr} {to : TE} {t : TA} {fo : F} {fa : FA} {apos pos : Pos} (h1 : nameAt Γ.smts i m = true) (h2 : nsup o = true) (h3 : es.all nstar = true) (h4 : es.length < 20) (h5 : lineB apos pos = true)
    (ho : PE X o to) (hso : Sim X.K X.mg (We E) to fo) (ha : PA X es t) (hs : SimA X.K X.mg (We E) t fa) (he : es = [] → fa = fNil) :
    ∃ u T, Γ.smts[i]? = some (m, T) ∧ PE X (.Call (.Attribute o m apos) es [] pos) u ∧ Sim X.K X.mg (We E) u (fMethS m T fo fa) := by
  obtain ⟨T, hT⟩ := nameAt_get h1
  obtain ⟨tab, h6, h8⟩ := c.gf.smts i m T hT
  have hM : ∀ cc C me, tab cc = some me → X.mg cc = some (.ref C) → MtS X m C me := fun cc C me a b =>
    let ⟨z1, z2, z3⟩ := h8 cc C me a b
    ⟨z1.ok, c.room.mono (by have := z1.lv; omega), z1.kp, z2, z3⟩
  cases es with
  | nil =>
    refine ⟨_, T, hT, pe_methS0 ho hM c.ps (meth_eval h2 h3 h4 h5), ?_⟩
    rw [he rfl]
    exact sim_methS h6 hso simA_nil
  | cons a as =>
    have h3' := h3
    rw [List.all_cons, Bool.and_eq_true] at h3
    exact ⟨_, T, hT, pe_methS ho hM c.ps ha (starEach_ns h3.1) (starAll h3.2) (meth_eval h2 h3' h4 h5), sim_methS h6 hso hs⟩
theorem any_ok (c : CtX Γ G L X E) {e : Expr} {te : TE} {fe : F} (he : PE X e te) (hs : Sim X.K X.mg (We E) te fe) (tg : Expr) : PI X tg e (rdI X.K X.mg (We E) (anyIP Γ.itT fe)) := by
  obtain ⟨itab, h1, h2⟩ := c.gf.it
  have hI : IT X itab := fun cc C me a b =>
    let z := h2 cc C me a b
    ⟨z.ok, z.one, c.room.mono (by have := z.lv; omega), z.binds, z.find, z.isfn⟩
  have e1 : anyIP Γ.itT fe = anyI itab fe := by
    funext γ S
    unfold anyIP anyI
    congr 1
    funext x S1
    cases wkOf x S1 with
    | own =>
      simp only
      unfold ownIP ownI
      congr 1
      funext x S1
      cases clsV x S1 with
      | none => rfl
      | some cc =>
        simp only [← h1 cc]
        cases itab cc with
        | none => rfl
        | some me => rfl
    | _ => rfl
  rw [e1]
  refine pi_rd (t := iAny X.K X.mg itab E te) ⟨fun pins s σ H R I h => ?_⟩ (simI_any hs)
  rcases h with h | h | h | h | h
  · exact (pi_list he).run pins s σ H R I h
  · exact (pi_tup he).run pins s σ H R I h
  · exact (pi_str he).run pins s σ H R I h
  · exact (pi_keys he).run pins s σ H R I h
  · exact (pi_own hI c.ps he).run pins s σ H R I h
end
end DL
namespace DL
open PySem PySem.Spec L2
open PyProof.Rows hiding St
variable [Tbl]
section
variable {Γ : GE} {G : GX} {L : Nat}
theorem chkA_nil {X : Cx} {m : ME .A} (h : chk Γ G m (scX X) ([] : List Expr) = true) : ev Γ G m = fNil := by
  cases m with
  | anil => rfl
  | acons e r => cases h
  | astar e r => cases h
theorem ownOf_map (s : SC) (vs : List Nat) : (ownOf s vs).map (·.2) = vs := by
  unfold ownOf
  rw [List.map_map]
  exact List.map_id' _
theorem all_mem {l vs : List Nat} (h : l.all (fun j => decide (j ∈ vs)) = true) : ∀ i ∈ l, i ∈ vs := fun i hi => of_decide_eq_true (List.all_eq_true.mp h i hi)
def DoesAt (Γ : GE) (G : GX) (τ : Ty) (m : ME τ) : Prop := ∀ ⦃L : Nat⦄ (X : Cx) (E : XK), CtX Γ G L X E → ∀ o : Syn τ, chk Γ G m (scX X) o = true → Good Γ G X E τ m o
theorem does_lc {tg : Tg} {vs : List Nat} {i : ME .I} {c : ME .C} {e : ME .E} (hi : DoesAt Γ G .I i) (hc : DoesAt Γ G .C c) (he : DoesAt Γ G .E e) : DoesAt Γ G .E (.lc tg vs i c e) := by
  intro L X E ct o h
  unfold chk at h
  split at h
  · rename_i elt etg iter ifs az scope pos
    simp only [Bool.and_eq_true, decide_eq_true_eq] at h
    obtain ⟨⟨⟨⟨⟨⟨⟨h0, h1⟩, h2⟩, h3⟩, h4⟩, h5⟩, h6⟩, h7⟩ := h
    subst h0
    have p := pe_lc (X := X) (own := ownOf (scX X) vs) (pos := pos) (elt := elt) (ifs := ifs) (g := tg.tg X.K) (tt := rdT X.K X.mg (We C8.E0) (ev Γ G c)) (te := rdE X.K X.mg (We C8.E0) (ev Γ G e)) ct.calm ct.nd (hi X E ct iter h4 etg (nsT_2 h1)) (blkOk_by h2)
      (fun s H C cl fp => (chkG_ok (X := X.blk s H scope (compEnvC scope cl C X.env) fp) ct.calm ct.nd).1 h5)
      (fun s H C cl fp => hc _ _ (ct.blk s H scope cl C fp) ifs h6) (fun s H C cl fp => (he _ _ (ct.blk s H scope cl C fp) elt h7).1) (fset (nsT_1 h1))
    rw [ownOf_map] at p
    exact good_E rfl p (sim_lc (all_mem h3) (simI_rd _) (simT_rd _) (sim_rd _))
  · cases h
theorem does_lc2 {tg tg1 : Tg} {vs vs1 : List Nat} {i i1 : ME .I} {c c1 : ME .C} {e : ME .E} (hi : DoesAt Γ G .I i) (hc : DoesAt Γ G .C c) (hi1 : DoesAt Γ G .I i1) (hc1 : DoesAt Γ G .C c1) (he : DoesAt Γ G .E e) : DoesAt Γ G .E (.lc2 tg vs i c tg1 vs1 i1 c1 e) := by
  intro L X E ct o h
  unfold chk at h
  split at h
  · rename_i elt etg iter ifs az etg1 iter1 ifs1 az1 scope pos
    simp only [Bool.and_eq_true, decide_eq_true_eq] at h
    obtain ⟨⟨⟨⟨⟨⟨⟨⟨⟨⟨⟨⟨⟨⟨h0, h00⟩, h1⟩, h11⟩, h2⟩, h3⟩, h31⟩, h32⟩, h4⟩, h5⟩, h6⟩, h41⟩, h51⟩, h61⟩, h7⟩ := h
    subst h0 h00
    have p := pe_lc2 (X := X) (own := ownOf (scX X) vs) (vs1 := vs1) (pos := pos) (elt := elt) (ifs := ifs) (ifs1 := ifs1) (g := tg.tg X.K) (g1 := tg1.tg X.K) (tt := rdT X.K X.mg (We C8.E0) (ev Γ G c)) (tt1 := rdT X.K X.mg (We C8.E0) (ev Γ G c1)) (wi1 := rdI X.K X.mg (We C8.E0) (ev Γ G i1)) (te := rdE X.K X.mg (We C8.E0) (ev Γ G e)) ct.calm ct.nd (hi X E ct iter h4 etg (nsT_2 h1)) (blkOk_by h2) (by rw [ownOf_map]; exact all_mem h32)
      (fun s H C cl fp => (chkG_ok (X := X.blk s H scope (compEnvC scope cl C X.env) fp) ct.calm ct.nd).1 h5)
      (fun s H C cl fp => hc _ _ (ct.blk s H scope cl C fp) ifs h6)
      (fun s H C cl fp => hi1 _ _ (ct.blk s H scope cl C fp) iter1 h41 etg1 (nsT_2 h11))
      (fun s H C cl fp => (chkG_ok (X := X.blk s H scope (compEnvC scope cl C X.env) fp) ct.calm ct.nd).1 h51)
      (fun s H C cl fp => hc1 _ _ (ct.blk s H scope cl C fp) ifs1 h61)
      (fun s H C cl fp => (he _ _ (ct.blk s H scope cl C fp) elt h7).1) (fset (nsT_1 h1)) (fun env => fset (nsT_1 h11))
    rw [ownOf_map] at p
    exact good_E rfl p (sim_lc2 (all_mem h3) (all_mem h31) (simI_rd _) (simT_rd _) (simI_rd _) (simT_rd _) (sim_rd _))
  · cases h
theorem does_dc {tg : Tg} {vs : List Nat} {i : ME .I} {c : ME .C} {k v : ME .E} (hi : DoesAt Γ G .I i) (hc : DoesAt Γ G .C c) (hk : DoesAt Γ G .E k) (hv : DoesAt Γ G .E v) : DoesAt Γ G .E (.dc tg vs i c k v) := by
  intro L X E ct o h
  unfold chk at h
  split at h
  · rename_i ek evv etg iter ifs az scope pos
    simp only [Bool.and_eq_true, decide_eq_true_eq] at h
    obtain ⟨⟨⟨⟨⟨⟨⟨⟨h0, h1⟩, h2⟩, h3⟩, h4⟩, h5⟩, h6⟩, h7⟩, h8⟩ := h
    subst h0
    have p := pe_dc (X := X) (own := ownOf (scX X) vs) (pos := pos) (kx := ek) (vx := evv) (ifs := ifs) (g := tg.tg X.K) (tt := rdT X.K X.mg (We C8.E0) (ev Γ G c)) (tk := rdE X.K X.mg (We C8.E0) (ev Γ G k)) (tv := rdE X.K X.mg (We C8.E0) (ev Γ G v)) ct.calm ct.nd (hi X E ct iter h4 etg (nsT_2 h1)) (blkOk_by h2)
      (fun s H C cl fp => (chkG_ok (X := X.blk s H scope (compEnvC scope cl C X.env) fp) ct.calm ct.nd).1 h5)
      (fun s H C cl fp => hc _ _ (ct.blk s H scope cl C fp) ifs h6) (fun s H C cl fp => (hk _ _ (ct.blk s H scope cl C fp) ek h7).1) (fun s H C cl fp => (hv _ _ (ct.blk s H scope cl C fp) evv h8).1) (fset (nsT_1 h1))
    rw [ownOf_map] at p
    exact good_E rfl (pe_frz p) (sim_dc (all_mem h3) (simI_rd _) (simT_rd _) (sim_rd _) (sim_rd _))
  · cases h
theorem cmpD_ok {X : Cx} {E : XK} (c : CtX Γ G L X E) (op : CmpOp) : ∃ r, OpR X (compareOp op) r ∧ P2 X.K X.mg r (cmpD op) := by
  have no : P2 X.K X.mg (fun _ _ _ _ => False) (fun _ _ => none) := fun _ _ _ _ _ _ _ _ _ _ h => by cases h
  cases op
  case Eq => exact ⟨_, op_eqD c.toCt.u64, p2_eqD⟩
  case NotEq => exact ⟨_, op_neD c.toCt.u64, p2_neD⟩
  case Lt => exact ⟨_, op_lt, p2_intB⟩
  case LtE => exact ⟨_, op_le, p2_intB⟩
  case Gt => exact ⟨_, op_gt, p2_intB (g := fun i j => decide (j < i))⟩
  case GtE => exact ⟨_, op_ge, p2_intB (g := fun i j => decide (j ≤ i))⟩
  all_goals exact ⟨_, opr_no, no⟩
theorem does_sub {a b : ME .E} (ha : DoesAt Γ G .E a) (hb : DoesAt Γ G .E b) : DoesAt Γ G .E (.sub a b) := by
  intro L X E ct o h
  unfold chk at h
  split at h
  · simp only [Bool.and_eq_true] at h
    obtain ⟨⟨h1, h2⟩, h3⟩ := h
    have pa := (ha X E ct _ h2).1
    have pb := (hb X E ct _ h3).1
    exact good_E rfl (DL.pe_or (pe_dget (by have := ct.toCt.u64; omega) pa pb (nsl_plain h1)) (pe_ix ix_seq pa pb (nsl_plain h1))) (sim_sub p2_ix (sim_rd _) (sim_rd _))
  · cases h
theorem nsl_own {b : Expr} (h : nsl b = true) : OwnSl b := by
  intro o i
  cases b <;> first | rfl | cases h
theorem does_subX {a b : ME .E} (ha : DoesAt Γ G .E a) (hb : DoesAt Γ G .E b) : DoesAt Γ G .E (.subX a b) := by
  intro L X E ct o h
  unfold chk at h
  split at h
  · simp only [Bool.and_eq_true] at h
    obtain ⟨⟨h1, h2⟩, h3⟩ := h
    have pa := (ha X E ct _ h2).1
    have pb := (hb X E ct _ h3).1
    obtain ⟨tab, sp, ix⟩ := ct.gf.ix
    exact good_E rfl (DL.pe_or (pe_ownIx (SpF.at ct.toCt sp) ct.ps pa pb (nsl_own h1)) (DL.pe_or (pe_dget (by have := ct.toCt.u64; omega) pa pb (nsl_plain h1)) (pe_ix ix_seq pa pb (nsl_plain h1)))) (sim_subX sp.tr sp.rd ix p2_ix (sim_rd _) (sim_rd _))
  · cases h
theorem does_sumL {a : ME .E} (ha : DoesAt Γ G .E a) : DoesAt Γ G .E (.sumL a) := by
  intro L X E ct o h
  unfold chk at h
  split at h
  · rename_i x p e p2 pos
    simp only [Bool.and_eq_true] at h
    obtain ⟨⟨h1, h2⟩, h3⟩ := h
    obtain ⟨rfl, g, d, nn, b⟩ := bltB_at h1
    exact good_E rfl (pe_callB (cr_sumL ct.calm) g (ct.gf.blt _ b) (by rfl) (pa_cons (ha X E ct _ h3).1 (pa_cons (pe_lst pa_nil) pa_nil) (starEach_ns h2)) nn d (starEach_ns h2) rfl) (sim_sumL (sim_rd _))
  · cases h
theorem does_mut {k : MK} {o : ME .E} {as : ME .A} (ho : DoesAt Γ G .E o) (ha : DoesAt Γ G .A as) : DoesAt Γ G .E (.mutL k o as) := by
  intro L X E ct oo h
  unfold chk at h
  split at h
  · rename_i eo m apos es pos
    simp only [Bool.and_eq_true, decide_eq_true_eq] at h
    obtain ⟨⟨⟨⟨⟨⟨⟨h1, h2⟩, h3⟩, h4⟩, h4'⟩, h5⟩, h6⟩, h7⟩ := h
    obtain rfl := strB_eq h1
    have po := (ho X E ct _ h6).1
    have pa := ha X E ct _ h7
    cases k with
    | app =>
      match es, h4', h3, h4, h7, pa with
      | [e], _, h3, h4, h7, pa =>
        have h3' := h3
        rw [List.all_cons, Bool.and_eq_true] at h3
        exact good_E rfl (pe_bm PySem.F.plainAttrs_list PySem.F.slot_list_append PySem.F.type_list_append mt_append po pa (nsup_base h2) (few_ok h3' h4) h5 (starEach_ns h3.1) (starAll h3.2)) (sim_mut pmut_append (sim_rd _) (simA_rd _))
    | ext =>
      match es, h4', h3, h4, h7, pa with
      | [e], _, h3, h4, h7, pa =>
        have h3' := h3
        rw [List.all_cons, Bool.and_eq_true] at h3
        exact good_E rfl (pe_bm PySem.F.plainAttrs_list PySem.F.slot_list_extend PySem.F.type_list_extend mt_extend po pa (nsup_base h2) (few_ok h3' h4) h5 (starEach_ns h3.1) (starAll h3.2)) (sim_mut pmut_extend (sim_rd _) (simA_rd _))
    | pop =>
      match es, h4', h7, pa with
      | [], _, h7, pa =>
        have e : ev Γ G (.mutL .pop o as) = fMut true popD (ev Γ G o) fNil := by
          show fMut _ _ _ (ev Γ G as) = _
          rw [chkA_nil h7]; rfl
        refine good_E rfl (pe_bm0 PySem.F.plainAttrs_list PySem.F.slot_list_pop PySem.F.type_list_pop mt_pop po (nsup_base h2) h5) ?_
        rw [e]
        exact sim_mut0 pmut_pop (sim_rd _)
  · cases h
end
end DL
namespace DL
open PySem PySem.Spec L2
open PyProof.Rows hiding St
variable [Tbl]
section
variable {Γ : GE} {G : GX} {L : Nat}
theorem ehead {α : Type} {a : α} {as : List α} {p : α → Bool} (h : (a :: as).all p = true) : p a = true ∧ as.all p = true := by
  rw [List.all_cons, Bool.and_eq_true] at h; exact h
theorem does_call1 {as : ME .A} (b : BI) (ha : DoesAt Γ G .A as) : DoesAt Γ G .E (.callB b as) := by
  intro L X E ct oo h
  unfold chk at h
  split at h
  · simp only [Bool.and_eq_true] at h
    obtain ⟨⟨h1, h2⟩, h3⟩ := h
    obtain ⟨r, p1, p2⟩ := bi_ok ct b
    exact good_E rfl (p1 h1 (by simpa using h2) (ha X E ct _ h3)) (sim_CBX p2 (simA_rd _))
  · cases h
theorem does_isi {e : ME .E} {v : CV} (he : DoesAt Γ G .E e) : DoesAt Γ G .E (.isi e v) := by
  intro L X E ct oo h
  unfold chk at h
  split at h
  · simp only [Bool.and_eq_true] at h
    obtain ⟨⟨⟨⟨h1, h2⟩, h3⟩, h4⟩, h5⟩ := h
    obtain ⟨rfl, g, d, nn, b⟩ := bltB_at h1
    obtain ⟨u, p1, p2⟩ := cv_ok ct h5
    refine good_E rfl (pe_callB (cr_isiC (cs := Γ.known) ct.gf.cls) g (ct.gf.blt _ b) (by rfl) (pa_cons (he X E ct _ h4).1 (pa_cons p1 pa_nil (starEach_ns h3)) (starEach_ns h2)) nn d (starEach_ns h2) (starAll (by rw [List.all_cons, h3]; rfl))) (sim_isi ct.gf.is p2 (sim_rd _))
  · cases h
theorem does_isiT {e : ME .E} {l : List CV} (he : DoesAt Γ G .E e) : DoesAt Γ G .E (.isiT e l) := by
  intro L X E ct oo h
  unfold chk at h
  split at h
  · simp only [Bool.and_eq_true, decide_eq_true_eq] at h
    obtain ⟨⟨⟨⟨h1, h2⟩, h3⟩, h4⟩, h5⟩ := h
    obtain ⟨rfl, g, d, nn, b⟩ := bltB_at h1
    obtain ⟨vs, us, p1, p2, p3, p4⟩ := cvs_ok ct h5
    refine good_E rfl (pe_callB (cr_isiTC (cs := Γ.known) ct.gf.cls) g (ct.gf.blt _ b) (by rfl) (pa_cons (he X E ct _ h4).1 (pa_cons (pe_tup p1) pa_nil) (starEach_ns h2)) nn d (starEach_ns h2) rfl) (sim_isiT ct.gf.is p2 p3 ?_ (sim_rd _))
    rw [p4]
    exact Nat.le_trans h3 (by decide)
  · cases h
theorem does_sortS {e : ME .E} (he : DoesAt Γ G .E e) : DoesAt Γ G .E (.sortS e) := by
  intro L X E ct oo h
  unfold chk at h
  split at h
  · simp only [Bool.and_eq_true] at h
    obtain ⟨⟨⟨h1, h2⟩, h3⟩, h4⟩ := h
    obtain ⟨rfl, g, d, nn, b⟩ := bltB_at h1
    obtain ⟨rfl, g', d', nn', b'⟩ := bltB_at h2
    exact good_E rfl (pe_callB (cr_sortSet2 ct.calm) g (ct.gf.blt _ b) (by rfl) (pa_cons (pe_callTy (cr_set2 ct.calm ct.toCt.u64) g' (ct.gf.blt _ b') (by rfl) (pa_cons (he X E ct _ h4).1 pa_nil (starEach_ns h3)) nn' d' (starEach_ns h3) rfl) pa_nil) nn d rfl rfl) (sim_sortSet (sim_rd _))
  · cases h
theorem does_lenS {e : ME .E} (he : DoesAt Γ G .E e) : DoesAt Γ G .E (.lenS e) := by
  intro L X E ct oo h
  unfold chk at h
  split at h
  · simp only [Bool.and_eq_true] at h
    obtain ⟨⟨⟨h1, h2⟩, h3⟩, h4⟩ := h
    obtain ⟨rfl, g, d, nn, b⟩ := bltB_at h1
    obtain ⟨rfl, g', d', nn', b'⟩ := bltB_at h2
    exact good_E rfl (pe_callB cr_lenSet2 g (ct.gf.blt _ b) PySem.boot_len (pa_cons (pe_callTy (cr_set2 ct.calm ct.toCt.u64) g' (ct.gf.blt _ b') (by rfl) (pa_cons (he X E ct _ h4).1 pa_nil (starEach_ns h3)) nn' d' (starEach_ns h3) rfl) pa_nil) nn d rfl rfl) (sim_lenSet (sim_rd _))
  · cases h
theorem does_dictP {e : ME .E} (he : DoesAt Γ G .E e) : DoesAt Γ G .E (.dictP e) := by
  intro L X E ct oo h
  unfold chk at h
  split at h
  · simp only [Bool.and_eq_true] at h
    obtain ⟨⟨h1, h2⟩, h3⟩ := h
    obtain ⟨rfl, g, d, nn, b⟩ := bltB_at h1
    exact good_E rfl (pe_frz (pe_callTy (call_dictP ct.calm) g (ct.gf.blt _ b) (by rfl) (pa_cons (he X E ct _ h3).1 pa_nil (starEach_ns h2)) nn d (starEach_ns h2) rfl)) (sim_dictP (sim_rd _))
  · cases h
theorem does_get2 {o a b : ME .E} (ho : DoesAt Γ G .E o) (ha : DoesAt Γ G .E a) (hb : DoesAt Γ G .E b) : DoesAt Γ G .E (.get2 o a b) := by
  intro L X E ct oo h
  unfold chk at h
  split at h
  · simp only [Bool.and_eq_true] at h
    obtain ⟨⟨⟨⟨⟨⟨⟨h1, h2⟩, h3⟩, h4⟩, h5⟩, h6⟩, h7⟩, h8⟩ := h
    obtain rfl := strB_eq h1
    rename_i eo m apos ea eb pos
    have e1 : ([ea, eb] : List Expr).all nstar = true := by simp [h3, h4]
    refine good_E rfl (pe_dget2 (by have := ct.toCt.u64; omega) (ho X E ct _ h6).1 (ha X E ct _ h7).1 (hb X E ct _ h8).1 ⟨nsup_base h2, few_ok e1 (by show 2 < 20; decide), h5, ?_⟩) (sim_get2 (sim_rd _) (sim_rd _) (sim_rd _))
    rw [starEach_ns h3, starEach_ns h4]; rfl
  · cases h
theorem does_and {a b : ME .T} (ha : DoesAt Γ G .T a) (hb : DoesAt Γ G .T b) : DoesAt Γ G .T (.and a b) := by
  intro L X E ct oo h
  unfold chk at h
  split at h
  · simp only [Bool.and_eq_true] at h
    have pa := ha X E ct _ h.1
    have pb := hb X E ct _ h.2
    have w := pw_and (pos := by assumption) pa.1 (pw_and1 pb.1)
    have s : SimT X.K X.mg (We E) _ (ev Γ G (.and a b)) := simT_and (simT_rd (ev Γ G a)) (simT_rd (ev Γ G b))
    exact ⟨pt_rd w.pt s, fun _ => pw_rd w s, pe_rd (pe_and pa.2.2 (pe_one pb.2.2)) (sim_andV (sim_T (sim_rd _)) (sim_rd _) rfl)⟩
  · simp only [Bool.and_eq_true] at h
    have pa := ha X E ct _ h.1
    have pb := hb X E ct _ h.2
    have w := pw_and pa.1 (pb.2.1 rfl)
    have s : SimT X.K X.mg (We E) _ (ev Γ G (.and a b)) := simT_and (simT_rd (ev Γ G a)) (simT_rd (ev Γ G b))
    exact ⟨pt_rd w.pt s, fun _ => pw_rd w s, pe_rd (pe_and pa.2.2 pb.2.2) (sim_andV (sim_T (sim_rd _)) (sim_rd _) rfl)⟩
  · cases h
theorem does_or {a b : ME .T} (ha : DoesAt Γ G .T a) (hb : DoesAt Γ G .T b) : DoesAt Γ G .T (.or a b) := by
  intro L X E ct oo h
  unfold chk at h
  split at h
  · simp only [Bool.and_eq_true] at h
    have pa := ha X E ct _ h.1
    have pb := hb X E ct _ h.2
    have w := pw_or (pos := by assumption) pa.1 (pw_or1 pb.1)
    have s : SimT X.K X.mg (We E) _ (ev Γ G (.or a b)) := simT_or (simT_rd (ev Γ G a)) (simT_rd (ev Γ G b))
    exact ⟨pt_rd w.pt s, fun _ => pw_rd w s, pe_rd (L2.pe_or pa.2.2 (pe_one pb.2.2)) (sim_orV (sim_T (sim_rd _)) (sim_rd _) rfl)⟩
  · simp only [Bool.and_eq_true] at h
    have pa := ha X E ct _ h.1
    have pb := hb X E ct _ h.2
    have w := pw_or pa.1 (pb.2.1 rfl)
    have s : SimT X.K X.mg (We E) _ (ev Γ G (.or a b)) := simT_or (simT_rd (ev Γ G a)) (simT_rd (ev Γ G b))
    exact ⟨pt_rd w.pt s, fun _ => pw_rd w s, pe_rd (L2.pe_or pa.2.2 pb.2.2) (sim_orV (sim_T (sim_rd _)) (sim_rd _) rfl)⟩
  · cases h
theorem does_not {a : ME .T} (ha : DoesAt Γ G .T a) : DoesAt Γ G .T (.not a) := by
  intro L X E ct oo h
  unfold chk at h
  split at h
  · have pa := ha X E ct _ h
    exact ⟨pt_rd (pt_not pa.1) (simT_not (simT_rd _)), (fun z => by cases z), pe_rd (pe_not pa.2.2) (sim_notV (sim_T (sim_rd _)))⟩
  · cases h
theorem does_val {e : ME .E} (he : DoesAt Γ G .E e) : DoesAt Γ G .T (.val e) := by
  intro L X E ct oo h
  have key : chk Γ G e (scX X) oo = true → (PT X oo (rdT X.K X.mg (We E) (fTest (ev Γ G e)))) → isBo oo = false → Good Γ G X E .T (.val e) oo := fun h1 h2 h3 =>
    ⟨h2, (fun z => by rw [h3] at z; cases z), pe_rd (he X E ct _ h1).1 (sim_ofTest (sim_rd _))⟩
  unfold chk at h
  rw [Bool.or_eq_true] at h
  rcases h with h | h
  · rw [Bool.and_eq_true] at h
    refine key h.2 (pt_rd (pt_val (he X E ct _ h.2).1 (ptest_true h.1)) (simT_B (sim_rd _))) ?_
    cases oo <;> first | rfl | cases h.1
  · split at h
    · split at h
      · exact key h ((he X E ct _ h).2 rfl) rfl
      · exact key h ((he X E ct _ h).2 rfl) rfl
      · cases h
    · cases h
theorem sw_sole {X : Cx} {etg x : Expr} {l : Nat} (h : plainAsg (scX X) etg x = true) : swapsWithSole [etg] x l X.env = pure false := by
  show swapsWith x (some etg) l X.env = pure false
  unfold plainAsg at h
  rw [Bool.or_eq_true] at h
  rcases h with h | h
  · exact sw_none h
  · by_cases hc : ncomp x = true
    · exact sw_none hc
    · unfold swapsWith
      cases etg with
      | Name t p =>
        have h : (!(X.env.scope.names.lookup t == some .local && p.line == x.pos.line)) = true := h
        rw [Bool.not_eq_true'] at h
        have e : ∀ a b : Bool, (a && (X.env.kindOf t == some .local) && (p.line == x.pos.line) && b) = false := fun a b => by
          show (a && (X.env.scope.names.lookup t == some .local) && (p.line == x.pos.line) && b) = false
          rw [Bool.and_assoc a, h]; simp
        cases x <;> first | rfl | (exact absurd rfl hc) | (simp only [Expr.pos] at e ⊢; simp only [e] <;> rfl)
      | _ => cases x <;> first | rfl | (exact absurd rfl hc)
theorem not_swapped {X : Cx} {etg x : Expr} (h : notSwapped (scX X) etg x = true) : swappedStores [etg] x X.env = pure none := by
  unfold swappedStores
  cases etg with
  | Tuple ts k p =>
    cases x with
    | Tuple vs k2 p2 =>
      simp only
      split
      · rfl
      · rename_i h1
        split
        · rfl
        · split
          · rfl
          · rename_i h3
            exfalso
            have h : (!(ts.length == 2 || ts.length == 3) || vs.length != ts.length || ts.any fun t => match t with
              | .Name id _ => !((scX X).kind id == some .local)
              | _ => true) = true := h
            simp only [Bool.or_eq_true] at h h1 h3
            rcases h with h | h
            · exact h1 (.inl h)
            · apply h3
              left
              rw [bne_iff_ne]
              intro z
              rw [List.filterMap_length_eq_length] at z
              obtain ⟨t, ht, q⟩ := List.any_eq_true.mp h
              have := z t ht
              cases t with
              | Name id pos =>
                have q : (!(X.env.scope.names.lookup id == some .local)) = true := q
                rw [Bool.not_eq_true'] at q
                simp only at this
                have e : (X.env.kindOf id == some .local) = false := q
                rw [e] at this
                simp at this
              | _ => simp at this
    | _ => rfl
  | List ts p =>
    cases x with
    | Tuple vs k2 p2 => cases h
    | _ => rfl
  | _ => rfl
theorem asg_one {X : Cx} {etg : Expr} (h : nstar etg = true) : (assignEach [etg] X.env).map (·.2) = [assign etg X.env] := by
  cases etg <;> first | rfl | cases h
theorem does_asg {tg : Tg} {e : ME .E} (he : DoesAt Γ G .E e) : DoesAt Γ G .S (.asg tg e) := by
  intro L X E ct oo h
  unfold chk at h
  split at h
  · simp only [Bool.and_eq_true] at h
    obtain ⟨⟨⟨⟨h1, h2⟩, h3⟩, h4⟩, h5⟩ := h
    exact ps_rd (ps_asg (he X E ct _ h5).1 ((chkG_ok ct.calm ct.nd).1 h4) (sw_sole h1) (not_swapped h2) (asg_one h3)) (simS_asg (sim_rd _) (simG_tg tg))
  · cases h
end
end DL
namespace DL
open PySem PySem.Spec L2
open PyProof.Rows hiding St
variable [Tbl]
section
variable {Γ : GE} {G : GX} {L : Nat}
theorem does_asgLc {j : Nat} {tg : Tg} {vs : List Nat} {i : ME .I} {c : ME .C} {e : ME .E} (hi : DoesAt Γ G .I i) (hc : DoesAt Γ G .C c) (he : DoesAt Γ G .E e) : DoesAt Γ G .S (.asgLc j tg vs i c e) := by
  intro L X E ct o h
  unfold chk at h
  split at h
  · rename_i y py elt etg iter ifs az scope pos spos
    simp only [Bool.and_eq_true, decide_eq_true_eq] at h
    obtain ⟨⟨⟨⟨⟨⟨⟨⟨⟨⟨⟨⟨h0, h1⟩, h2⟩, h3⟩, hk⟩, hy⟩, hl⟩, ha⟩, hj⟩, h4⟩, h5⟩, h6⟩, h7⟩ := h
    subst h0
    have hyl : X.env.scope.names.lookup y = some .local := by
      have : ((scX X).kind y == some .local) = true := hy
      exact eq_of_beq this
    rw [Bool.not_eq_true'] at ha
    have p := ps_setLc (X := X) (i := j) (own := ownOf (scX X) vs) (pos := pos) (spos := spos) (py := py) (elt := elt) (ifs := ifs) (g := tg.tg X.K) (tt := rdT X.K X.mg (We C8.E0) (ev Γ G c)) (te := rdE X.K X.mg (We C8.E0) (ev Γ G e)) ct.calm ct.nd (atB_get hj) hyl
      (sw_true hk hyl hl ha) (hi X E ct iter h4 etg (nsT_2 h1)) (blkOk_by h2)
      (fun s H C cl fp => (chkG_ok (X := X.blk s H scope (compEnvC scope cl C X.env) fp) ct.calm ct.nd).1 h5)
      (fun s H C cl fp => hc _ _ (ct.blk s H scope cl C fp) ifs h6) (fun s H C cl fp => (he _ _ (ct.blk s H scope cl C fp) elt h7).1) (fset (nsT_1 h1))
    rw [ownOf_map] at p
    exact ps_rd p (simS_asg (sim_lc (all_mem h3) (simI_rd _) (simT_rd _) (sim_rd _)) (simG_name j))
  · cases h
theorem no_star {vs : List Expr} (hs : vs.all nstar = true) : ¬ (vs.any fun | .Starred .. => true | _ => false) = true := fun h => by
  obtain ⟨a, ha, q⟩ := List.any_eq_true.mp h
  have := List.all_eq_true.mp hs a ha
  cases a <;> first | (cases this; done) | (cases q; done)
theorem sw_names2 {X : Cx} {x y : Str} {p q pt p2 : Pos} {k k2 : Nat} {vs : List Expr} (hf : X.env.scope.kind = .function) (hx : X.env.scope.names.lookup x = some .local) (hy : X.env.scope.names.lookup y = some .local) (hne : x ≠ y) (hl : (p.line == q.line) = true) (hn : vs.length = 2) (hs : vs.all nstar = true)
    (h1 : vs.all (foldedForSure 8) = false) (h2 : vs.all (constantsAlone 8) = false) : swappedStores [.Tuple [.Name x p, .Name y q] k pt] (.Tuple vs k2 p2) X.env = pure (some [x, y]) := by
  unfold swappedStores
  have e1 : (!(([Expr.Name x p, Expr.Name y q].length == 2 || [Expr.Name x p, Expr.Name y q].length == 3)) || vs.length != [Expr.Name x p, Expr.Name y q].length || X.env.blockKind != .function) = false := by
    have : X.env.blockKind = .function := by unfold Env.blockKind; rw [hf]; rfl
    rw [this, hn]; rfl
  have ex : (X.env.kindOf x == some .local) = true := by show (X.env.scope.names.lookup x == some .local) = true; rw [hx]; rfl
  have ey : (X.env.kindOf y == some .local) = true := by show (X.env.scope.names.lookup y == some .local) = true; rw [hy]; rfl
  have hl' : (q.line == p.line) = true := by rw [beq_iff_eq] at hl ⊢; exact hl.symm
  have ed : ([x, y] : List Str).eraseDups = [x, y] := by
    have hb : (y == x) = false := beq_eq_false_iff_ne.mpr (Ne.symm hne)
    simp [List.eraseDups, List.eraseDupsBy, List.eraseDupsBy.loop, hb]
  simp only [e1, h1, h2, List.head?_cons, Option.map_some, Option.getD_some, Expr.pos, List.filterMap_cons, List.filterMap_nil, ex, ey, hl', beq_self_eq_true, Bool.and_self, if_true, if_false, Bool.false_eq_true, ed]
  split
  · rename_i z; exact absurd z (no_star hs)
  · rfl
theorem sw_names3 {X : Cx} {x y w : Str} {p q r pt p2 : Pos} {k k2 : Nat} {vs : List Expr} (hf : X.env.scope.kind = .function) (hx : X.env.scope.names.lookup x = some .local) (hy : X.env.scope.names.lookup y = some .local) (hw : X.env.scope.names.lookup w = some .local) (hne : x ≠ y) (hne2 : x ≠ w) (hne3 : y ≠ w) (hl : (p.line == q.line) = true) (hl2 : (p.line == r.line) = true) (hn : vs.length = 3) (hs : vs.all nstar = true)
    (h1 : vs.all (foldedForSure 8) = false) (h2 : vs.all (constantsAlone 8) = false) : swappedStores [.Tuple [.Name x p, .Name y q, .Name w r] k pt] (.Tuple vs k2 p2) X.env = pure (some [x, y, w]) := by
  unfold swappedStores
  have e1 : (!(([Expr.Name x p, Expr.Name y q, Expr.Name w r].length == 2 || [Expr.Name x p, Expr.Name y q, Expr.Name w r].length == 3)) || vs.length != [Expr.Name x p, Expr.Name y q, Expr.Name w r].length || X.env.blockKind != .function) = false := by
    have : X.env.blockKind = .function := by unfold Env.blockKind; rw [hf]; rfl
    rw [this, hn]; rfl
  have ex : (X.env.kindOf x == some .local) = true := by show (X.env.scope.names.lookup x == some .local) = true; rw [hx]; rfl
  have ey : (X.env.kindOf y == some .local) = true := by show (X.env.scope.names.lookup y == some .local) = true; rw [hy]; rfl
  have ew : (X.env.kindOf w == some .local) = true := by show (X.env.scope.names.lookup w == some .local) = true; rw [hw]; rfl
  have hl' : (q.line == p.line) = true := by rw [beq_iff_eq] at hl ⊢; exact hl.symm
  have hl2' : (r.line == p.line) = true := by rw [beq_iff_eq] at hl2 ⊢; exact hl2.symm
  have ed : ([x, y, w] : List Str).eraseDups = [x, y, w] := by
    have hb : (y == x) = false := beq_eq_false_iff_ne.mpr (Ne.symm hne)
    have hb2 : (w == x) = false := beq_eq_false_iff_ne.mpr (Ne.symm hne2)
    have hb3 : (w == y) = false := beq_eq_false_iff_ne.mpr (Ne.symm hne3)
    simp [List.eraseDups, List.eraseDupsBy, List.eraseDupsBy.loop, hb, hb2, hb3]
  simp only [e1, h1, h2, List.head?_cons, Option.map_some, Option.getD_some, Expr.pos, List.filterMap_cons, List.filterMap_nil, ex, ey, ew, hl', hl2', beq_self_eq_true, Bool.and_self, if_true, if_false, Bool.false_eq_true, ed]
  split
  · rename_i z; exact absurd z (no_star hs)
  · rfl
theorem does_par {is : List Nat} {as : ME .A} (ha : DoesAt Γ G .A as) : DoesAt Γ G .S (.par is as) := by
  intro L X E ct o h
  unfold chk at h
  split at h
  · rename_i ts k pt vs k2 p2 pos
    rw [Bool.and_eq_true] at h
    obtain ⟨h, hb⟩ := h
    have pa := ha X E ct _ hb
    unfold swapped at h
    simp only [Bool.and_eq_true, decide_eq_true_eq, Bool.not_eq_true'] at h
    obtain ⟨⟨⟨⟨⟨h1, h2⟩, h3⟩, h4⟩, h5⟩, h6⟩ := h
    split at h1
    · rename_i i j x p y q
      simp only [Bool.and_eq_true, decide_eq_true_eq, Bool.not_eq_true'] at h1
      obtain ⟨⟨⟨⟨⟨⟨a1, a2⟩, a3⟩, a4⟩, a5⟩, a6⟩, a7⟩ := h1
      have hx : X.env.scope.names.lookup x = some .local := eq_of_beq (show ((scX X).kind x == some .local) = true from a3)
      have hy : X.env.scope.names.lookup y = some .local := eq_of_beq (show ((scX X).kind y == some .local) = true from a4)
      have hne : x ≠ y := of_decide_eq_false a5
      match vs, h2, pa, h3, h5, h6 with
      | [e1, e2], h2, pa, h3, h5, h6 =>
        exact ps_rd (ps_par ct.calm ct.nd (atB_get a1) (atB_get a2) a6 hx hy pa (sw_names2 h4 hx hy hne a7 rfl h3 h5 h6)) (simS_par (simA_rd _))
    · rename_i i j l x p y q z r
      simp only [Bool.and_eq_true, decide_eq_true_eq, Bool.not_eq_true'] at h1
      obtain ⟨⟨⟨⟨⟨⟨⟨⟨⟨⟨⟨⟨⟨a1, a2⟩, a3⟩, b1⟩, b2⟩, b3⟩, c1⟩, c2⟩, c3⟩, d1⟩, d2⟩, d3⟩, l1⟩, l2⟩ := h1
      have hx : X.env.scope.names.lookup x = some .local := eq_of_beq (show ((scX X).kind x == some .local) = true from b1)
      have hy : X.env.scope.names.lookup y = some .local := eq_of_beq (show ((scX X).kind y == some .local) = true from b2)
      have hz : X.env.scope.names.lookup z = some .local := eq_of_beq (show ((scX X).kind z == some .local) = true from b3)
      match vs, h2, pa, h3, h5, h6 with
      | [e1, e2, e3], h2, pa, h3, h5, h6 =>
        exact ps_rd (ps_par3 ct.calm ct.nd (atB_get a1) (atB_get a2) (atB_get a3) d1 d2 d3 hx hy hz pa (sw_names3 h4 hx hy hz (of_decide_eq_false c1) (of_decide_eq_false c2) (of_decide_eq_false c3) l1 l2 rfl h3 h5 h6)) (simS_par3 (simA_rd _))
    · cases h1
  · cases h
theorem does_rai {i : Nat} {as : ME .A} (ha : DoesAt Γ G .A as) : DoesAt Γ G .S (.rai i as) := by
  intro L X E ct o h
  unfold chk at h
  split at h
  · rename_i x p es p2 p3
    simp only [Bool.and_eq_true] at h
    obtain ⟨⟨⟨⟨h1, h2⟩, h3⟩, h4⟩, h5⟩ := h
    obtain ⟨fs, hr⟩ := nameAt_get h1
    obtain ⟨g, d, _⟩ := glB_gl h2
    have e0 : ev Γ G (.rai i as) = fRaiseE x fs (ev Γ G as) := by
      show (match Γ.exs[i]? with
        | some p => fRaiseE p.1 p.2 (ev Γ G as)
        | none => fNever) = _
      rw [hr]
    unfold raiB at h4
    rw [hr] at h4
    show PS X _ (rdS X.K X.mg (We E) (ev Γ G (.rai i as)))
    rw [e0]
    cases fs with
    | nil =>
      obtain ⟨C, B, ni, ii, bm, hm, F, q, kC, b1, t1⟩ := ct.gx.ex0 i x hr
      simp only at h4
      split at h4
      · exact ps_rd (ps_raise ct.calm ct.tk (L2.pmk_own F q hm kC (raises_own b1 t1) g d)) (simS_raise0 hm)
      · cases h4
    | cons f fs =>
      obtain ⟨C, fI, fd, ps, hm, T, iC, tI, F1, hb, hf, h8⟩ := ct.gx.ex1 i x f fs hr
      have pa := ha X E ct _ h5
      cases es with
      | nil => cases h4
      | cons e es =>
        obtain ⟨n1, n2⟩ := ehead h3
        exact ps_rd (ps_raise ct.calm ct.tk (pmk_oex T iC tI F1 (ct.room.mono (by have := ct.gf.big; omega)) hb .nil (passes_call (E := fun _ _ _ => False) ct.tk fun _ _ _ _ z => z.elim) g hm pa d (starEach_ns n1) (starAll n2))) (simS_raise hm T hf (by simp) h8 (simA_rd _))
  · cases h
end
end DL
namespace DL
open PySem PySem.Spec L2
open PyProof.Rows hiding St
variable [Tbl]
section
variable {Γ : GE} {G : GX} {L : Nat}
theorem blt_rng {X : Cx} {E : XK} (ct : CtX Γ G L X E) {x : Str} (h : bltB Γ (scX X) x "range" = true) : x = "range" ∧ Gl X "range" ∧ X.mg "range" = none := by
  obtain ⟨rfl, g, d, nn, b⟩ := bltB_at h
  exact ⟨rfl, g, ct.gf.blt _ b⟩
theorem p1_neg {K : PySem.W.Frag} {mg : Str → Option Value} : P1 K mg (rU fun i => .int (-i)) negD := by
  intro B H x dx d Q rt e hB q
  cases dx <;> simp only [negD, reduceCtorEq] at e
  cases e
  rename_i i
  cases rt with
  | of r =>
    cases r
    exact ⟨i, rfl, q _ _ (Grow.refl _) (.int _)⟩
theorem patV1_ok {p : Str} {q : Pattern} (h : patV1 p q = true) : PatV p q ∧ SOk p := by
  unfold patV1 at h
  split at h
  · simp only [Bool.and_eq_true, decide_eq_true_eq] at h
    obtain ⟨h1, h2⟩ := h
    have := strB_eq h1
    subst this
    exact ⟨.mk, h2⟩
  · cases h
theorem patsB_ok : ∀ {ps : List Str} {qs : List Pattern}, patsB ps qs = true → Pats ps qs ∧ ∀ p ∈ ps, SOk p
  | [], [], _ => ⟨.nil, fun _ h => by cases h⟩
  | [], _ :: _, h => by cases h
  | _ :: _, [], h => by cases h
  | p :: ps, q :: qs, h => by
    have h : (patV1 p q && patsB ps qs) = true := h
    rw [Bool.and_eq_true] at h
    obtain ⟨a1, a2⟩ := patV1_ok h.1
    obtain ⟨b1, b2⟩ := patsB_ok h.2
    exact ⟨.cons a1 b1, fun x hx => (List.mem_cons.mp hx).elim (fun e => e ▸ a2) (b2 x)⟩
theorem patB_ok {ps : List Str} {q : Pattern} (h : patB ps q = true) : PatO ps q ∧ ∀ p ∈ ps, SOk p := by
  unfold patB at h
  split at h
  · simp only [Bool.and_eq_true, decide_eq_true_eq] at h
    obtain ⟨h1, h2⟩ := h
    have := strB_eq h1
    subst this
    exact ⟨.one .mk, fun x hx => by rw [List.mem_singleton.mp hx]; exact h2⟩
  · obtain ⟨a1, a2⟩ := patsB_ok h
    exact ⟨.or a1, a2⟩
  · cases h
theorem sound : ∀ {τ : Ty} (m : ME τ), DoesAt Γ G τ m := by
  intro τ m
  induction m with
  | var i =>
    intro L X E ct oo h
    unfold chk at h
    split at h
    · simp only [Bool.and_eq_true] at h
      exact good_E rfl (pe_var (atB_get h.1.1) (visB_vis h.1.2) (dunB_1 h.2) (dunB_2 h.2)) (sim_var i)
    · cases h
  | con d =>
    intro L X E ct oo h
    unfold chk at h
    split at h
    · obtain ⟨v, p1, p2⟩ := con_ok h
      exact good_E rfl p1 (sim_c p2)
    · cases h
  | glob i =>
    intro L X E ct oo h
    unfold chk at h
    split at h
    · rename_i x p
      simp only [Bool.and_eq_true] at h
      obtain ⟨d, hd⟩ := nameAt_get h.1
      obtain ⟨g, db, _⟩ := glB_gl h.2
      obtain ⟨v, u, p1, p2, p3⟩ := ct.gf.cons i x d hd
      refine good_E rfl (pe_glob g p1 p2 db) ?_
      have e : ev Γ G (.glob i) = fC d := by
        show (match Γ.cons[i]? with
          | some p => fC p.2
          | none => fBad) = _
        rw [hd]
      rw [e]
      exact sim_c p3
    · cases h
  | bin op a b iha ihb =>
    intro L X E ct oo h
    unfold chk at h
    split at h
    · simp only [Bool.and_eq_true, decide_eq_true_eq] at h
      obtain ⟨⟨rfl, h1⟩, h2⟩ := h
      obtain ⟨r, p1, p2⟩ := bin_ok ct.toCt op
      exact good_E rfl (pe_op p1 (iha X E ct _ h1).1 (ihb X E ct _ h2).1) (sim_opX p2 (sim_rd _) (sim_rd _))
    · cases h
  | cmp op a b iha ihb =>
    intro L X E ct oo h
    unfold chk at h
    split at h
    · simp only [Bool.and_eq_true, decide_eq_true_eq, Bool.not_eq_true'] at h
      obtain ⟨⟨⟨rfl, h0⟩, h1⟩, h2⟩ := h
      obtain ⟨r, p1, p2⟩ := cmp_ok ct.toCt op
      exact good_C (pe_cmpR p1 (iha X E ct _ h1).1 (ihb X E ct _ h2).1 h0) (pt_cmpR p1 (iha X E ct _ h1).1 (ihb X E ct _ h2).1 h0) (sim_opX p2 (sim_rd _) (sim_rd _))
    · cases h
  | chn o1 o2 a b c iha ihb ihc =>
    intro L X E ct oo h
    unfold chk at h
    split at h
    · simp only [Bool.and_eq_true, decide_eq_true_eq, Bool.not_eq_true'] at h
      obtain ⟨⟨⟨⟨⟨rfl, rfl⟩, h0⟩, h1⟩, h2⟩, h3⟩ := h
      obtain ⟨r, p1, p2⟩ := cmpD_ok ct o1
      obtain ⟨r', p1', p2'⟩ := cmpD_ok ct o2
      exact good_C (pe_chain p1 p1' (iha X E ct _ h1).1 (ihb X E ct _ h2).1 (ihc X E ct _ h3).1 h0) (pt_chain p1 p1' (iha X E ct _ h1).1 (ihb X E ct _ h2).1 (ihc X E ct _ h3).1 h0) (sim_chain p2 p2' (sim_rd _) (sim_rd _) (sim_rd _))
    · cases h
  | ofT t ih =>
    intro L X E ct oo h
    unfold chk at h
    exact good_E rfl (ih X E ct _ h).2.2 (sim_rd _)
  | ite t a b iht iha ihb =>
    intro L X E ct oo h
    unfold chk at h
    split at h
    · simp only [Bool.and_eq_true] at h
      obtain ⟨⟨h1, h2⟩, h3⟩ := h
      exact good_E rfl (pe_ifExp (iht X E ct _ h1).1 (iha X E ct _ h2).1 (ihb X E ct _ h3).1) (sim_if (simT_rd _) (sim_rd _) (sim_rd _))
    · cases h
  | tup as ih =>
    intro L X E ct oo h
    unfold chk at h
    split at h
    · exact good_E rfl (pe_tup (ih X E ct _ h)) (sim_tup (simA_rd _))
    · cases h
  | lst as ih =>
    intro L X E ct oo h
    unfold chk at h
    split at h
    · exact good_E rfl (pe_lst (ih X E ct _ h)) (sim_lst (simA_rd _))
    · cases h
  | lstC as ih =>
    intro L X E ct oo h
    unfold chk at h
    split at h
    · exact good_E rfl (pe_lst (ih X E ct _ h)) (sim_lstC (simA_rd _))
    · cases h
  | callF i as ih =>
    intro L X E ct oo h
    unfold chk at h
    split at h
    · rename_i x p e es pos
      simp only [Bool.and_eq_true] at h
      obtain ⟨⟨⟨h1, h2⟩, h3⟩, h4⟩ := h
      obtain ⟨u, r, q1, q2, q3⟩ := callF_ok (p := p) (pos := pos) ct h1 h2 h3 (ih X E ct _ h4) (simA_rd _)
      have e : ev Γ G (.callF i as) = fCall (arity r.n r.sem) r.dd (ev Γ G as) := by
        show (match Γ.fns[i]? with
          | some p => fCall (arity p.2.n p.2.sem) p.2.dd (ev Γ G as)
          | none => fBad) = _
        rw [q1]
      refine good_E rfl q2 ?_
      rw [e]; exact q3
    · cases h
  | callB b as ih => exact does_call1 b ih
  | make i im as ih =>
    intro L X E ct oo h
    unfold chk at h
    split at h
    · rename_i x p e es pos
      simp only [Bool.and_eq_true] at h
      obtain ⟨⟨⟨h1, h2⟩, h3⟩, h4⟩ := h
      obtain ⟨u, r, q1, q2, q3⟩ := make_ok (im := im) (p := p) (pos := pos) ct h1 h2 h3 (ih X E ct _ h4) (simA_rd _)
      have e : ev Γ G (.make i im as) = fMake x (arity r.n r.sem) r.dd (ev Γ G as) im := by
        show (match Γ.mks[i]? with
          | some p => fMake p.1 (arity p.2.n p.2.sem) p.2.dd (ev Γ G as) im
          | none => fBad) = _
        rw [q1]
      refine good_E rfl q2 ?_
      rw [e]; exact q3
    · cases h
  | meth i o as iho ih =>
    intro L X E ct oo h
    unfold chk at h
    split at h
    · rename_i eo m apos es pos
      simp only [Bool.and_eq_true, decide_eq_true_eq] at h
      obtain ⟨⟨⟨⟨⟨⟨h1, h2⟩, h3⟩, h4⟩, h5⟩, h6⟩, h7⟩ := h
      obtain ⟨u, T, q1, q2, q3⟩ := meth_ok ct h1 h2 h3 h4 h5 (iho X E ct _ h6).1 (sim_rd _) (ih X E ct _ h7) (simA_rd _) (fun e => by subst e; exact chkA_nil h7)
      have e : ev Γ G (.meth i o as) = fMethP m T (ev Γ G o) (ev Γ G as) := by
        show (match Γ.mts[i]? with
          | some p => fMethP p.1 p.2 (ev Γ G o) (ev Γ G as)
          | none => fBad) = _
        rw [q1]
      refine good_E rfl q2 ?_
      rw [e]; exact q3
    · cases h
  | mutL k o as iho ih => exact does_mut iho ih
  | get2 o a b iho iha ihb => exact does_get2 iho iha ihb
  | isi e c ih => exact does_isi ih
  | isiT e cs ih => exact does_isiT ih
  | sortS a ih => exact does_sortS ih
  | lenS a ih => exact does_lenS ih
  | dictP a ih => exact does_dictP ih
  | fld i e ih =>
    intro L X E ct oo h
    unfold chk at h
    split at h
    · rename_i eo f p
      simp only [Bool.and_eq_true] at h
      obtain ⟨⟨h1, h2⟩, h3⟩ := h
      obtain ⟨cs, hr⟩ := nameAt_get h1
      have e : ev Γ G (.fld i e) = fUn (D.fldIn f (inB cs)) (ev Γ G e) := by
        show (match G.flds[i]? with
          | some p => fUn (D.fldIn p.1 (inB p.2)) (ev Γ G e)
          | none => fBad) = _
        rw [hr]
      refine good_E rfl (pe_fld (ih X E ct _ h3).1 (nsup_base h2)) ?_
      rw [e]
      exact sim_fld (ct.gx.flds i f cs hr) (sim_rd _)
    · cases h
  | sub a b iha ihb => exact does_sub iha ihb
  | sl a l u iha ihl ihu =>
    intro L X E ct oo h
    unfold chk at h
    split at h
    · simp only [Bool.and_eq_true] at h
      obtain ⟨⟨h1, h2⟩, h3⟩ := h
      exact good_E rfl (pe_slice sl_all (iha X E ct _ h1).1 (ihl X E ct _ h2) (ihu X E ct _ h3)) (sim_sl (sim_rd _) (simO_rd _) (simO_rd _))
    · cases h
  | revL a ih =>
    intro L X E ct oo h
    unfold chk at h
    split at h
    · simp only [Bool.and_eq_true, decide_eq_true_eq] at h
      obtain ⟨rfl, h1⟩ := h
      exact good_E rfl (pe_revL (ih X E ct _ h1).1) (sim_revL (sim_rd _))
    · cases h
  | lc tg vs i c e ihi ihc ihe => exact does_lc ihi ihc ihe
  | lc2 tg vs i c tg1 vs1 i1 c1 e ihi ihc ihi1 ihc1 ihe => exact does_lc2 ihi ihc ihi1 ihc1 ihe
  | dc tg vs i c k v ihi ihc ihk ihv => exact does_dc ihi ihc ihk ihv
  | disp ps ih =>
    intro L X E ct oo h
    unfold chk at h
    split at h
    · rename_i ks vs p
      simp only [Bool.and_eq_true, decide_eq_true_eq, Bool.not_eq_true'] at h
      obtain ⟨⟨⟨h1, h2⟩, h3⟩, h4⟩ := h
      obtain ⟨p1, p2, p3⟩ := ih X E ct _ h4
      exact good_E rfl (pe_frz (pe_disp (p1 _) p3 h3 (fun z => by rw [z] at h1; cases h1) h2)) (sim_disp p2)
    · cases h
  | dnew =>
    intro L X E ct oo h
    unfold chk at h
    split at h
    · exact good_E rfl (pe_frz pe_dnewK) sim_dnew
    · cases h
  | frz e ih =>
    intro L X E ct oo h
    unfold chk at h
    exact good_E rfl (pe_frz (ih X E ct _ h).1) (sim_freeze (sim_rd _))
  | lerr i e ih =>
    intro L X E ct oo h
    unfold chk at h
    split at h
    · rename_i x p bd sc lp pos
      simp only [Bool.and_eq_true, decide_eq_true_eq] at h
      obtain ⟨⟨⟨⟨h1, h2⟩, h3⟩, h4⟩, h5⟩ := h
      obtain ⟨er, hr⟩ := nameAt_get h1
      obtain ⟨g, d, _⟩ := glB_gl h2
      obtain ⟨ga, a, cs, CS, pg, bg, sg, dV, kV, doc, pm, cdv, ctt, oc, an, od, osl, Ng, ens, e1, e2, e3, e4, e5, e6, e7, e8, e9, e10, e11, e12, e13, e14, e15, e16, e17, e18⟩ := ct.gx.errs i x er hr
      obtain ⟨c, P, l1, l2, l3, l4, l5, l6, l7⟩ := ct.lam h3
      have ee : ev Γ G (.lerr i e) = fErr er.ens er.known (ev Γ G e) := by
        show (match Γ.errs[i]? with
          | some p => fErr p.2.ens p.2.known (ev Γ G e)
          | none => fBad) = _
        rw [hr]
      refine good_E rfl (pe_lamD (t := fun E' => rdE X.K X.mg (We E') (ev Γ G e)) g e2 e3 e4 e5 e6 e7 e9 e10 (err_gives e7.nd e8 e9 e13 e14 e15 (by rw [e1]; exact e16)) l2 l1 l3 l4 (k := L - 2) (ct.room.mono (by omega)) (LamX.lamS_by h4) rfl (fun _ _ _ _ _ => rfl) (fun A outer s H E' f dd r => ?_) d e11 e12) ?_
      · refine (ih (LamX.lamCx X A outer s H E' sc f dd) E' ⟨⟨l6, r, rfl, ct.nd, passes_call (takes_of rfl rfl rfl rfl) (fun _ _ _ _ h => h), takes_of rfl rfl rfl rfl, passes_of rfl⟩, l7, fun z => absurd z (ct.gx.mkrs _ h3)⟩ bd h5).1
      · rw [ee, ← e1]
        exact sim_err e17 e18
    · cases h
  | nev =>
    intro L X E ct oo h
    exact good_bad rfl rfl
  | val e ih => exact does_val ih
  | and a b iha ihb => exact does_and iha ihb
  | or a b iha ihb => exact does_or iha ihb
  | not a ih => exact does_not ih
  | cnil =>
    intro L X E ct oo h
    unfold chk at h
    split at h
    · exact pts_rd pts_nil simT_yes
    · cases h
  | cone t ih =>
    intro L X E ct oo h
    unfold chk at h
    split at h
    · exact pts_one (ih X E ct _ h).1
    · cases h
  | anil =>
    intro L X E ct oo h
    unfold chk at h
    split at h
    · exact pa_rd pa_nil simA_nil
    · cases h
  | acons e r ihe ihr =>
    intro L X E ct oo h
    unfold chk at h
    split at h
    · simp only [Bool.and_eq_true] at h
      obtain ⟨⟨h1, h2⟩, h3⟩ := h
      exact pa_rd (pa_cons (ihe X E ct _ h2).1 (ihr X E ct _ h3) (starEach_ns h1)) (simA_cons (sim_rd _) (simA_rd _))
    · cases h
  | astar e r ihe ihr =>
    intro L X E ct oo h
    unfold chk at h
    split at h
    · simp only [Bool.and_eq_true] at h
      exact pa_rd (StX.pa_star (ihe X E ct _ h.1).1 (ihr X E ct _ h.2)) (simA_star (sim_rd _) (simA_rd _))
    · cases h
  | any e ih =>
    intro L X E ct oo h
    unfold chk at h
    simp only [Bool.and_eq_true] at h
    exact fun tg _ => any_ok ct (ih X E ct _ h.2).1 (sim_rd _) tg
  | rng1 as ih =>
    intro L X E ct oo h
    unfold chk at h
    split at h
    · simp only [Bool.and_eq_true] at h
      obtain ⟨⟨h1, h2⟩, h3⟩ := h
      obtain ⟨rfl, g, m⟩ := blt_rng ct h1
      exact fun tg _ => pi_rd (pi_range1 g m (ih X E ct _ h3) (by rw [starEach_ns h2]; rfl)) (simI_rng1 (simA_rd _))
    · cases h
  | rng2 as ih =>
    intro L X E ct oo h
    unfold chk at h
    split at h
    · simp only [Bool.and_eq_true] at h
      obtain ⟨⟨⟨h1, h2⟩, h2'⟩, h3⟩ := h
      obtain ⟨rfl, g, m⟩ := blt_rng ct h1
      exact fun tg _ => pi_rd (pi_range2 g m (ih X E ct _ h3) (by rw [starEach_ns h2, starEach_ns h2']; rfl) (by rw [starEach_ns h2']; rfl)) (simI_rng2 (simA_rd _))
    · cases h
  | onone =>
    intro L X E ct oo h
    unfold chk at h
    split at h
    · exact po_rd po_none simO_no
    · cases h
  | osome e ih =>
    intro L X E ct oo h
    unfold chk at h
    split at h
    · exact po_rd (po_some (ih X E ct _ h).1) (simO_part (sim_rd _))
    · cases h
  | pnil =>
    intro L X E ct oo h
    unfold chk at h
    split at h
    · exact ⟨fun _ => pps_nil, simP_nil, rfl⟩
    · cases h
  | pcons k v r ihk ihv ihr =>
    intro L X E ct oo h
    unfold chk at h
    split at h
    · simp only [Bool.and_eq_true] at h
      obtain ⟨⟨h1, h2⟩, h3⟩ := h
      obtain ⟨p1, p2, p3⟩ := ihr X E ct _ h3
      exact ⟨fun pos => pps_cons (ihk X E ct _ h1).1 (ihv X E ct _ h2).1 (p1 pos), simP_cons (sim_rd _) (sim_rd _) p2, by rw [List.all_cons, p3]; rfl⟩
    · cases h
  | expr e ih =>
    intro L X E ct oo h
    unfold chk at h
    split at h
    · simp only [Bool.and_eq_true] at h
      exact ps_rd (ps_expr (ih X E ct _ h.2).1 (sw_none h.1)) (simS_expr (sim_rd _))
    · cases h
  | ret e ih =>
    intro L X E ct oo h
    unfold chk at h
    split at h
    · exact ps_rd (ps_ret (ih X E ct _ h).1) (simS_ret (sim_rd _))
    · cases h
  | retN =>
    intro L X E ct oo h
    unfold chk at h
    split at h
    · exact ps_rd ps_retN simS_retN
    · cases h
  | asg tg e ih => exact does_asg ih
  | asgLc i tg vs it c e ihi ihc ihe => exact does_asgLc ihi ihc ihe
  | par is as ih => exact does_par ih
  | iff c b1 b2 ihc ih1 ih2 =>
    intro L X E ct oo h
    unfold chk at h
    split at h
    · simp only [Bool.and_eq_true] at h
      obtain ⟨⟨h1, h2⟩, h3⟩ := h
      exact ps_rd (ps_if (ihc X E ct _ h1).1 (ih1 X E ct _ h2) (ih2 X E ct _ h3)) (simS_if (simT_rd _) (simS_rd _) (simS_rd _))
    · cases h
  | forr tg i b ihi ihb =>
    intro L X E ct oo h
    unfold chk at h
    split at h
    · simp only [Bool.and_eq_true] at h
      obtain ⟨⟨⟨h1, h2⟩, h3⟩, h4⟩ := h
      exact ps_rd (ps_for ct.po ct.calm (ihi X E ct _ h3 _ (nsT_2 h1)) ((chkG_ok ct.calm ct.nd).1 h2) (ihb X E ct _ h4) (fset (nsT_1 h1))) (simS_for (simI_rd _) (simS_rd _))
    · cases h
  | whil n c b ihc ihb =>
    intro L X E ct oo h
    unfold chk at h
    split at h
    · simp only [Bool.and_eq_true] at h
      exact ps_rd (ps_while ct.po (ihc X E ct _ h.1).1 (ihb X E ct _ h.2)) (simS_while (simT_rd _) (simS_rd _))
    · cases h
  | pass =>
    intro L X E ct oo h
    unfold chk at h
    split at h
    · exact ps_rd ps_pass simS_skip
    · cases h
  | brk =>
    intro L X E ct oo h
    unfold chk at h
    split at h
    · exact ps_rd ps_break simS_break
    · cases h
  | cont =>
    intro L X E ct oo h
    unfold chk at h
    split at h
    · exact ps_rd ps_continue simS_cont
    · cases h
  | fldS i o v iho ihv =>
    intro L X E ct oo h
    unfold chk at h
    split at h
    · rename_i eo f p x p2
      simp only [Bool.and_eq_true] at h
      obtain ⟨⟨⟨h1, h2⟩, h3⟩, h4⟩ := h
      obtain ⟨cs, hr⟩ := nameAt_get h1
      have e : ev Γ G (.fldS i o v) = fFldS f (inB cs) (ev Γ G o) (ev Γ G v) := by
        show (match G.flds[i]? with
          | some p => fFldS p.1 (inB p.2) (ev Γ G o) (ev Γ G v)
          | none => fNever) = _
        rw [hr]
      show PS X _ (rdS X.K X.mg (We E) (ev Γ G (.fldS i o v)))
      rw [e]
      exact ps_rd (ps_fld (iho X E ct _ h3).1 (ihv X E ct _ h4).1 (sw_none h2)) (simS_fld (ct.gx.flds i f cs hr) (sim_rd _) (sim_rd _))
    · cases h
  | subS v o i ihv iho ihi =>
    intro L X E ct oo h
    unfold chk at h
    split at h
    · rename_i eo ei p x p2
      simp only [Bool.and_eq_true] at h
      obtain ⟨⟨⟨⟨h1, h2⟩, h3⟩, h4⟩, h5⟩ := h
      exact ps_rd (ps_asg (ihv X E ct _ h3).1 (pg_sub (iho X E ct _ h4).1 (ihi X E ct _ h5).1 set_list (fun v => by cases ei <;> first | rfl | cases h2)) (by show swapsWith x (some (.Subscript eo ei p)) p2.line X.env = pure false; exact sw_none h1) rfl rfl) (simS_sub (sim_rd _) (sim_rd _) (sim_rd _))
    · cases h
  | rai i as ih => exact does_rai ih
  | nevS =>
    intro L X E ct oo h
    exact ps_bad
  | bnil =>
    intro L X E ct oo h
    unfold chk at h
    split at h
    · exact pss_rd pss_nil simS_skip
    · cases h
  | bcons s b ihs ihb =>
    intro L X E ct oo h
    unfold chk at h
    split at h
    · simp only [Bool.and_eq_true] at h
      exact pss_rd (pss_cons (ihs X E ct _ h.1) (ihb X E ct _ h.2)) (simS_seq (simS_rd _) (simS_rd _))
    · cases h
  | bnev =>
    intro L X E ct oo h
    exact pss_bad
  | neg e ih =>
    intro L X E ct oo h
    unfold chk at h
    split at h
    · exact good_E rfl (pe_un un_neg (ih X E ct _ h).1) (sim_un p1_neg (sim_rd _))
    · cases h
  | subX a b iha ihb => exact does_subX iha ihb
  | methS i o as iho ih =>
    intro L X E ct oo h
    unfold chk at h
    split at h
    · rename_i eo m apos es pos
      simp only [Bool.and_eq_true, decide_eq_true_eq] at h
      obtain ⟨⟨⟨⟨⟨⟨h1, h2⟩, h3⟩, h4⟩, h5⟩, h6⟩, h7⟩ := h
      obtain ⟨u, T, q1, q2, q3⟩ := methS_ok ct h1 h2 h3 h4 h5 (iho X E ct _ h6).1 (sim_rd _) (ih X E ct _ h7) (simA_rd _) (fun e => by subst e; exact chkA_nil h7)
      have e : ev Γ G (.methS i o as) = fMethS m T (ev Γ G o) (ev Γ G as) := by
        show (match Γ.smts[i]? with
          | some p => fMethS p.1 p.2 (ev Γ G o) (ev Γ G as)
          | none => fBad) = _
        rw [q1]
      refine good_E rfl q2 ?_
      rw [e]; exact q3
    · cases h
  | sumL a ih => exact does_sumL ih
  | mat e m ih ihm =>
    intro L X E ct oo h
    unfold chk at h
    split at h
    · simp only [Bool.and_eq_true] at h
      exact ps_rd (ps_mat (ih X E ct _ h.1).1 (ihm X E ct _ h.2)) (simS_mat (sim_rd _) (simM_rd _))
    · cases h
  | enum as ih =>
    intro L X E ct oo h
    unfold chk at h
    split at h
    · simp only [Bool.and_eq_true] at h
      obtain ⟨⟨h1, h2⟩, h3⟩ := h
      obtain ⟨rfl, g, d, nn, b⟩ := bltB_at h1
      have m := ct.gf.blt _ b
      have hs := starEach_ns (es := []) (env := X.env) h2
      intro tg ht
      cases tg <;> first | (cases ht; done) | skip
      exact pi_rd (pi_enumS g m (ih X E ct _ h3) (hs.trans rfl)) (simI_enum (simA_rd _))
    · cases h
  | mnil =>
    intro L X E ct oo h
    unfold chk at h
    split at h
    · exact pcs_rd pcs_nil simM_nil
    · cases h
  | mcons ps b m ihb ihm =>
    intro L X E ct oo h
    unfold chk at h
    split at h
    · simp only [Bool.and_eq_true] at h
      obtain ⟨⟨h1, h2⟩, h3⟩ := h
      obtain ⟨r, p1, p2⟩ := cmp_ok ct.toCt .Eq
      obtain ⟨q1, q2⟩ := patB_ok h1
      exact pcs_rd (pcs_cons p1 q1 (ihb X E ct _ h2) (ihm X E ct _ h3)) (simM_cons p2 q2 (simS_rd _) (simM_rd _))
    · cases h
end
/-- a def whose text is checked -/
theorem def_of {Γ : GE} {G : GX} {L : Nat} {P : Program} {w : World} {K : PySem.W.Frag} {mg : Str → Option Value} {base : Heap} {x qual : Str} {params : Arguments} {body : List Stmt} {scope : Scope} {dvs : List V} {kws : List (Str × V)} {f : Addr} {fd : FuncData} {N ps : List Str} {m : ME .B}
    (F : FunD K x qual params body scope dvs kws f fd) (S : FnScope N ps scope) (gf : GF Γ L P w K mg base) (gx : GFX Γ G L P w K mg base) (nm : (qual ++ ".<locals>.") ∉ Γ.mkrs) (h : chk Γ G m ⟨N, scope, fun _ => true, qual ++ ".<locals>."⟩ body = true) :
    FnOk P w K mg base (L2.CX P w) (L + 1) f fd ps (spOf K mg ps.length (arity ps.length (semOf N.length (ev Γ G m)))) :=
  fn_ok F S fun cdv A outer s H E r => ⟨_, sound m (cxOf (L2.CX P w) P w K mg base N qual scope f cdv A outer s H E) E ⟨Ct.body gf S.nd r, gx, fun z => absurd z nm⟩ body h, simS_rd _⟩
/-- .. that makes lambdas -/
theorem def_ofL {Γ : GE} {G : GX} {L : Nat} {P : Program} {w : World} {K : PySem.W.Frag} {mg : Str → Option Value} {base : Heap} {x qual : Str} {params : Arguments} {body : List Stmt} {scope : Scope} {f c Pt : Addr} {oc dV kV doc pm ct : Value} {an od : Option Addr} {osl : Array (Option Value)} {N ps : List Str} {m : ME .B}
    (lk : K.lookup f = some ⟨oc, od, .func (PySem.W.fnOf x qual params body scope dV kV doc pm an (.ref c) ct), osl⟩) (hc : PySem.W.codeIn K (.ref c) qual = true) (S : FnScope N ps scope) (gf : GF Γ L P w K mg base) (gx : GFX Γ G L P w K mg base)
    (B : LamX.TabB base mg c Pt) (mT : (Pt, (qual ++ ".<locals>.") ++ "<lambda>") ∈ Tbl.T) (uq : ∀ p ∈ Tbl.T, p.1 = Pt → p.2 = (qual ++ ".<locals>.") ++ "<lambda>") (h2 : 2 ≤ L) (gf2 : GF Γ (L - 2) P w K mg base) (gx2 : GFX Γ G (L - 2) P w K mg base)
    (h : chk Γ G m ⟨N, scope, fun _ => true, qual ++ ".<locals>."⟩ body = true) :
    FnOk P w K mg base (L2.CX P w) (L + 1) f (PySem.W.fnOf x qual params body scope dV kV doc pm an (.ref c) ct) ps (spOf K mg ps.length (arity ps.length (semOf N.length (ev Γ G m)))) := by
  refine L2.fn_of lk hc S spOf_len fun A outer s H vs Q E hr hsp => ?_
  have ht := sound m (cxOf (L2.CX P w) P w K mg base N qual scope f (.ref c) A outer s H E) E ⟨Ct.body gf S.nd hr, gx, fun _ => ⟨c, Pt, rfl, B, mT, uq, h2, gf2, gx2⟩⟩ body h
  have hs : SimS K mg (We E) _ (ev Γ G m) := simS_rd (ev Γ G m)
  refine ⟨_, ht, ?_⟩
  obtain ⟨hl, B, S, ρ, xs, ok, rv, w⟩ := hsp
  refine hs (startG N.length xs) (L2.start N vs) _ ⟨B, S, ρ, H⟩ (rep_start ok rv) ?_
  unfold arity at w
  split at w
  · unfold semOf at w
    cases q : ev Γ G m (startG N.length xs) S with
    | bad => simp only [q] at w; exact w.elim
    | exc c fs γ S' =>
      simp only [q] at w
      exact fun cls dd σ' H' B' ρ' rep e rx => w cls dd H' B' ρ' rep.st e rx
    | ok fl S' =>
      cases fl with
      | nx γ => simp only [q] at w; exact fun σ' H' B' ρ' rep e => w .non H' B' ρ' rep.st e .non
      | rt x => simp only [q] at w; exact fun v H' B' ρ' ok' e rv => w v H' B' ρ' ok' e rv
      | bk γ => simp only [q] at w; exact w.elim
      | ct γ => simp only [q] at w; exact w.elim
  · exact w.elim
end DL
namespace DL
open PySem PySem.Spec L2
open PyProof.Rows hiding St
def clsBody : Stmt → List Stmt
  | .ClassDef _ _ _ b _ _ _ _ _ _ _ => b
  | _ => []
def btK : List String := ["NoneType", "bool", "int", "str", "tuple", "list", "dict"]
/-- what isinstance says: no class of the program is under another one -/
def isT (cls : List Str) : IsTab := fun a c => match a, c with
  | .bt m, .bt n => if m ∈ btK ∧ n ∈ btK then some (decide (m = n) || (decide (m = "bool") && decide (n = "int"))) else none
  | .bt m, .own c => if m ∈ btK ∧ c ∈ cls then some false else none
  | .own c, .bt n => if c ∈ cls ∧ n ∈ btK then some false else none
  | .own c, .own d => if c ∈ cls ∧ d ∈ cls then some (decide (c = d)) else none
end DL
namespace DL
open PySem PySem.Spec L2
open PyProof.Rows hiding St
open He (ga ma fAd Fa DefD)
variable [Tbl]
theorem lk_app {α : Type} {T : List (Str × α)} {c d : Str} {r : α} (h : T.lookup c = none) : (T ++ [(c, r)]).lookup d = if d = c then some r else T.lookup d := by
  induction T with
  | nil =>
    show (match d == c with | true => some r | false => none) = _
    by_cases e : d = c
    · subst e; simp
    · rw [if_neg e, show (d == c) = false from beq_eq_false_iff_ne.mpr e]; rfl
  | cons p T ih =>
    obtain ⟨k, v⟩ := p
    have h' : (match c == k with | true => some v | false => T.lookup c) = none := h
    show (match d == k with | true => some v | false => (T ++ [(c, r)]).lookup d) = if d = c then some r else (match d == k with | true => some v | false => T.lookup d)
    cases q : d == k with
    | true =>
      have : d ≠ c := fun e => by
        subst e
        rw [q] at h'
        cases h'
      rw [if_neg this]
    | false =>
      have hc : T.lookup c = none := by
        cases q2 : c == k with
        | true => rw [q2] at h'; cases h'
        | false => rw [q2] at h'; exact h'
      exact ih hc
section
variable {P : Program} {w : World} {K : PySem.W.Frag} {mg : Str → Option Value} {base : Heap} {Γ : GE} {G : GX} {L L' : Nat}
theorem MeF.mono {m : Me} (h : MeF P w K mg base L m) (l : L ≤ L') : MeF P w K mg base L' m := ⟨h.ok, Nat.le_trans h.lv l, h.binds, h.rd, h.kp⟩
theorem SpF.mono {m : Str} {T : RTab} {tab : MTab} (h : SpF P w K mg base L m T tab) (l : L ≤ L') : SpF P w K mg base L' m T tab := ⟨h.tr, fun c C me a b => let ⟨x, y⟩ := h.me c C me a b; ⟨x.mono l, y⟩, h.rd⟩
theorem GF.mono (h : GF Γ L P w K mg base) (l : L ≤ L') : GF Γ L' P w K mg base where
  big := Nat.le_trans h.big l
  cls := h.cls
  is := h.is
  cons := h.cons
  blt := h.blt
  fns := fun i x r e => let ⟨m, a, b, c⟩ := h.fns i x r e; ⟨m, a, b, c.mono l⟩
  mks := fun i x r e => let ⟨m, C, a, b, c, d⟩ := h.mks i x r e; ⟨m, C, a, b, c.mono l, d⟩
  mts := fun i m T e => let ⟨tab, a, b, c⟩ := h.mts i m T e; ⟨tab, a, b, fun cc C me x y => let ⟨z, u⟩ := c cc C me x y; ⟨z.mono l, u⟩⟩
  eq := let ⟨tab, a, b⟩ := h.eq; ⟨tab, a.mono l, b⟩
  inn := let ⟨tab, a⟩ := h.inn; ⟨tab, a.mono l⟩
  add := let ⟨tab, a, b⟩ := h.add; ⟨tab, a.mono l, b⟩
  sub := let ⟨tab, a, b⟩ := h.sub; ⟨tab, a.mono l, b⟩
  len := let ⟨tab, a⟩ := h.len; ⟨tab, a.mono l⟩
  ix := let ⟨tab, a, b⟩ := h.ix; ⟨tab, a.mono l, b⟩
  smts := fun i m T e => let ⟨tab, a, c⟩ := h.smts i m T e; ⟨tab, a, fun cc C me x y => let ⟨z, u⟩ := c cc C me x y; ⟨⟨z.ok, Nat.le_trans z.lv l, z.kp⟩, u⟩⟩
  it := let ⟨tab, a, b⟩ := h.it; ⟨tab, a, fun c C me x y => let z := b c C me x y; ⟨z.ok, Nat.le_trans z.lv l, z.one, z.binds, z.find, z.isfn⟩⟩
theorem at_app {α : Type} {T : List α} {x y : α} {i : Nat} (h : (T ++ [x])[i]? = some y) : T[i]? = some y ∨ y = x := by
  by_cases hi : i < T.length
  · rw [List.getElem?_append_left hi] at h; exact .inl h
  · rw [List.getElem?_append_right (by omega)] at h
    have : i - T.length = 0 := by
      have := (List.getElem?_eq_some_iff.mp h).1
      simp at this; omega
    rw [this] at h
    simp at h
    exact .inr h.symm
theorem GF.addFn (h : GF Γ L P w K mg base) {x : Str} {r : FnR} {m : Me} (e : m.r = r) (hm : mg x = some (.ref m.f)) (F : MeF P w K mg base L m) : GF { Γ with fns := Γ.fns ++ [(x, r)] } L P w K mg base :=
  { h with
    fns := fun i y r' q => by
      rcases at_app q with q | q
      · exact h.fns i y r' q
      · cases q; exact ⟨m, e, hm, F⟩ }
theorem GF.addMk (h : GF Γ L P w K mg base) {x : Str} {r : FnR} {m : Me} {C : Addr} (e : m.r = r) (hm : mg x = some (.ref C)) (F : MeF P w K mg base L m) (M : Mk K C m.f) : GF { Γ with mks := Γ.mks ++ [(x, r)] } L P w K mg base :=
  { h with
    mks := fun i y r' q => by
      rcases at_app q with q | q
      · exact h.mks i y r' q
      · cases q; exact ⟨m, C, e, hm, F, M⟩ }
/-- one class more in a table -/
def tabAdd (tab : MTab) (c : Str) (me : Me) : MTab := fun d => if d = c then some me else tab d
theorem tabAdd_r {tab : MTab} {T : RTab} {c : Str} {me : Me} (h : TabR tab T) (hn : T.lookup c = none) : TabR (tabAdd tab c me) (T ++ [(c, me.r)]) := fun d => by
  rw [lk_app hn]
  unfold tabAdd
  by_cases e : d = c
  · rw [if_pos e, if_pos e]; rfl
  · rw [if_neg e, if_neg e]; exact h d
theorem tabAdd_d {tab : MTab} {c : Str} {me : Me} (h : TabD K mg tab) (hr : ∀ B H, RDs K mg B H me.dvs me.dd) : TabD K mg (tabAdd tab c me) := fun d m e => by
  unfold tabAdd at e
  split at e
  · cases e; exact hr
  · exact h d m e
theorem SpF.add {m : Str} {T : RTab} {tab : MTab} (h : SpF P w K mg base L m T tab) {c : Str} {C : Addr} {me : Me} (hn : T.lookup c = none) (hm : mg c = some (.ref C)) (F : MeF P w K mg base L me) (M : Meth K C m me.f) : SpF P w K mg base L m (T ++ [(c, me.r)]) (tabAdd tab c me) where
  tr := tabAdd_r h.tr hn
  me := fun d D m' e q => by
    unfold tabAdd at e
    split at e
    · rename_i z
      cases e
      subst z
      rw [hm] at q
      cases q
      exact ⟨F, M.at_, M.fn⟩
    · exact h.me d D m' e q
  rd := tabAdd_d h.rd F.rd
theorem GF.addMt (h : GF Γ L P w K mg base) {m c : Str} {me : Me} {C : Addr} (hm : mg c = some (.ref C)) (F : MeF P w K mg base L me) (cl : Cls K C) (M : Meth K C m me.f) : GF { Γ with mts := Γ.mts ++ [(m, [(c, me.r)])] } L P w K mg base :=
  { h with
    mts := fun i y T q => by
      rcases at_app q with q | q
      · exact h.mts i y T q
      · cases q
        refine ⟨tabAdd (fun _ => none) c me, tabAdd_r (T := []) (fun _ => rfl) rfl, tabAdd_d (fun _ _ e => by cases e) F.rd, fun d D m' e q2 => ?_⟩
        unfold tabAdd at e
        split at e
        · rename_i z
          cases e
          subst z
          rw [hm] at q2
          cases q2
          exact ⟨F, cl, M⟩
        · cases e }
theorem GF.addEq (h : GF Γ L P w K mg base) {c : Str} {me : Me} {C : Addr} (hn : Γ.eqT.lookup c = none) (hm : mg c = some (.ref C)) (F : MeF P w K mg base L me) (M : Meth K C "__eq__" me.f)
    (nf : ∀ d t, D.known Γ.known d = true → tyD mg d = some t → PySem.W.notFirst K C t = true) (ne : PySem.W.findIn K (.ref C) "__ne__" = some (some (.builtin "object.__ne__")) ∧ PySem.W.subIn K (.ref C) (.type "object") = some true) :
    GF { Γ with eqT := Γ.eqT ++ [(c, me.r)] } L P w K mg base :=
  { h with
    eq := by
      obtain ⟨tab, a, b, d⟩ := h.eq
      refine ⟨_, a.add hn hm F M, fun k m' D0 x t e q => ?_, fun k m' D0 e q => ?_⟩
      · unfold tabAdd at e
        split at e
        · rename_i z
          cases e
          subst z
          rw [hm] at q
          cases q
          exact nf x t
        · exact b k m' D0 x t e q
      · unfold tabAdd at e
        split at e
        · rename_i z
          cases e
          subst z
          rw [hm] at q
          cases q
          exact ne
        · exact d k m' D0 e q }
theorem GF.addIn (h : GF Γ L P w K mg base) {c : Str} {me : Me} {C : Addr} (hn : Γ.inT.lookup c = none) (hm : mg c = some (.ref C)) (F : MeF P w K mg base L me) (M : Meth K C "__contains__" me.f) : GF { Γ with inT := Γ.inT ++ [(c, me.r)] } L P w K mg base :=
  { h with inn := let ⟨tab, a⟩ := h.inn; ⟨_, a.add hn hm F M⟩ }
theorem GF.addLen (h : GF Γ L P w K mg base) {c : Str} {me : Me} {C : Addr} (hn : Γ.lenT.lookup c = none) (hm : mg c = some (.ref C)) (F : MeF P w K mg base L me) (M : Meth K C "__len__" me.f) : GF { Γ with lenT := Γ.lenT ++ [(c, me.r)] } L P w K mg base :=
  { h with len := let ⟨tab, a⟩ := h.len; ⟨_, a.add hn hm F M⟩ }
theorem sf_add {tab : MTab} {c : Str} {me : Me} {C : Addr} (h : SfOk K mg tab) (hm : mg c = some (.ref C)) (sf : PySem.W.selfFirst K C = true) : SfOk K mg (tabAdd tab c me) := fun k m' D e q => by
  unfold tabAdd at e
  split at e
  · rename_i z
    cases e
    subst z
    rw [hm] at q
    cases q
    exact sf
  · exact h k m' D e q
theorem GF.addAdd (h : GF Γ L P w K mg base) {c : Str} {me : Me} {C : Addr} (hn : Γ.addT.lookup c = none) (hm : mg c = some (.ref C)) (F : MeF P w K mg base L me) (M : Meth K C "__add__" me.f) (sf : PySem.W.selfFirst K C = true) : GF { Γ with addT := Γ.addT ++ [(c, me.r)] } L P w K mg base :=
  { h with add := let ⟨tab, a, b⟩ := h.add; ⟨_, a.add hn hm F M, sf_add b hm sf⟩ }
theorem GF.addSub (h : GF Γ L P w K mg base) {c : Str} {me : Me} {C : Addr} (hn : Γ.subT.lookup c = none) (hm : mg c = some (.ref C)) (F : MeF P w K mg base L me) (M : Meth K C "__sub__" me.f) (sf : PySem.W.selfFirst K C = true) : GF { Γ with subT := Γ.subT ++ [(c, me.r)] } L P w K mg base :=
  { h with sub := let ⟨tab, a, b⟩ := h.sub; ⟨_, a.add hn hm F M, sf_add b hm sf⟩ }
theorem GF.addIt (h : GF Γ L P w K mg base) {c : Str} {me : IMe} {C : Addr} (hn : Γ.itT.lookup c = none) (hm : mg c = some (.ref C)) (F : ItF P w K mg base L C me) : GF { Γ with itT := Γ.itT ++ [(c, me.sem)] } L P w K mg base :=
  { h with
    it := by
      obtain ⟨tab, a, b⟩ := h.it
      refine ⟨fun d => if d = c then some me else tab d, fun d => ?_, fun d D m' e q => ?_⟩
      · show (if d = c then some me else tab d).map (·.sem) = (Γ.itT ++ [(c, me.sem)]).lookup d
        rw [lk_app hn]
        by_cases e : d = c
        · rw [if_pos e, if_pos e]; rfl
        · rw [if_neg e, if_neg e]; exact a d
      · dsimp only at e
        split at e
        · rename_i z
          cases e
          subst z
          rw [hm] at q
          cases q
          exact F
        · exact b d D m' e q }
theorem GF.addIx (h : GF Γ L P w K mg base) {c : Str} {me : Me} {C : Addr} (hn : Γ.ixT.lookup c = none) (hm : mg c = some (.ref C)) (F : MeF P w K mg base L me) (M : Meth K C "__getitem__" me.f) (fi : PySem.W.fnIn K me.f = true) : GF { Γ with ixT := Γ.ixT ++ [(c, me.r)] } L P w K mg base :=
  { h with
    ix := by
      obtain ⟨tab, a, b⟩ := h.ix
      refine ⟨_, a.add hn hm F M, fun d m e => ?_⟩
      unfold tabAdd at e
      split at e
      · cases e; exact fi
      · exact b d m e }
theorem GF.addSm (h : GF Γ L P w K mg base) {m c : Str} {me : MeS} {C : Addr} (hm : mg c = some (.ref C)) (F : MsF P w K mg base L me) (cl : Cls K C) (M : Meth K C m me.f) : GF { Γ with smts := Γ.smts ++ [(m, [(c, me.r)])] } L P w K mg base :=
  { h with
    smts := fun i y T q => by
      rcases at_app q with q | q
      · exact h.smts i y T q
      · cases q
        refine ⟨fun d => if d = c then some me else none, fun d => ?_, fun d D m' e q2 => ?_⟩
        · rw [← List.nil_append [(c, me.r)], lk_app rfl]
          show (if d = c then some me else none).map MeS.r = _
          by_cases e : d = c
          · rw [if_pos e, if_pos e]; rfl
          · rw [if_neg e, if_neg e]; rfl
        · dsimp only at e
          split at e
          · rename_i z
            cases e
            subst z
            rw [hm] at q2
            cases q2
            exact ⟨F, cl, M⟩
          · cases e }
theorem fnIn_of {x qual : Str} {params : Arguments} {body : List Stmt} {scope : Scope} {dvs : List V} {kws : List (Str × V)} {f : Addr} {fd : FuncData} (F : FunD K x qual params body scope dvs kws f fd) : PySem.W.fnIn K f = true := by
  obtain ⟨oc, od, dV, kV, doc, pm, an, cdv, ct, osl, rfl, lk, hcd, _, _⟩ := F.ex
  unfold PySem.W.fnIn
  rw [lk]
theorem GFX.mono (h : GFX Γ G L P w K mg base) (l : L ≤ L') : GFX Γ G L' P w K mg base := ⟨h.clsv, h.flds, h.ex0, h.ex1, h.errs, h.mkrs⟩
/-- the further facts don't speak of the defs -/
theorem GFX.of {Γ' : GE} (h : GFX Γ G L P w K mg base) (e1 : Γ'.cls = Γ.cls) (e2 : Γ'.exs = Γ.exs) (e3 : Γ'.errs = Γ.errs) (e4 : Γ'.mkrs = Γ.mkrs) : GFX Γ' G L P w K mg base :=
  ⟨by rw [e1]; exact h.clsv, h.flds, by rw [e2]; exact h.ex0, by rw [e2]; exact h.ex1, by rw [e3]; exact h.errs, by rw [e4]; exact h.mkrs⟩
end
def dAnd (l : List Bool) : Bool := l.all id
def clskB (K : PySem.W.Frag) (C : Addr) : Bool :=
  (PySem.W.plainGet K C Str.empty && PySem.W.hasDictIn K C && PySem.W.plainOver K C && decide (PySem.W.findIn K (.ref C) "__setattr__" = some (some (.builtin "object.__setattr__")))) &&
  (decide (PySem.W.findIn K (.ref C) "__class__" = some (some (.builtin "object.__class__"))) && decide (PySem.W.specialIn K (.builtin "object.__class__") "__get__" = some (some (.builtin "getset_descriptor.__get__"))) && decide (PySem.W.takesIn K (.builtin "object.__class__") = some true) && decide (PySem.W.mroIn K C (.type "object") = some true))
theorem clskB_ok {K : PySem.W.Frag} {C : Addr} (h : clskB K C = true) : ClsK K C := by
  unfold clskB at h
  simp only [Bool.and_eq_true, decide_eq_true_eq] at h
  obtain ⟨⟨⟨⟨h1, h2⟩, h3⟩, h4⟩, ⟨⟨h5, h6⟩, h7⟩, h8⟩ := h
  exact ⟨⟨h1, h2, h3, h4⟩, h5, h6, h7, h8⟩
def cvAll (cls : List Str) : List CV := btK.map CV.bt ++ cls.map CV.own
def cvK (K : PySem.W.Frag) : CV → Value
  | .bt n => .type n
  | .own c => .ref (ga K c)
def isB (K : PySem.W.Frag) (cls : List Str) : Bool := (cvAll cls).all fun a => (cvAll cls).all fun c => match isT cls a c with
  | some b => decide (PySem.W.kitOne K (cvK K a) (cvK K c) = some b)
  | none => true
def nofB (K : PySem.W.Frag) (cls : List Str) : Bool := cls.all fun c => (cvAll cls).all fun a => PySem.W.notFirst K (ga K c) (cvK K a)
def neB (K : PySem.W.Frag) (cls : List Str) : Bool := cls.all fun c => decide (PySem.W.findIn K (.ref (ga K c)) "__ne__" = some (some (.builtin "object.__ne__"))) && decide (PySem.W.subIn K (.ref (ga K c)) (.type "object") = some true)
def basB (K : PySem.W.Frag) (cls : List Str) : Bool := (cls.all fun c => (Fa.glo c).ok K && clskB K (ga K c) && PySem.W.selfFirst K (ga K c)) && isB K cls && nofB K cls && neB K cls
structure BF (cls : List Str) (K : PySem.W.Frag) (mg : Str → Option Value) : Prop where
  glo : ∀ c ∈ cls, mg c = some (.ref (ga K c))
  clsK : ∀ c ∈ cls, ClsK K (ga K c)
  sf : ∀ c ∈ cls, PySem.W.selfFirst K (ga K c) = true
  is : IsOk K mg (isT cls)
  nof : ∀ c ∈ cls, ∀ d t, D.known (fun c => decide (c ∈ cls)) d = true → tyD mg d = some t → PySem.W.notFirst K (ga K c) t = true
  ne : ∀ c ∈ cls, PySem.W.findIn K (.ref (ga K c)) "__ne__" = some (some (.builtin "object.__ne__")) ∧ PySem.W.subIn K (.ref (ga K c)) (.type "object") = some true
theorem bas_ok {K : PySem.W.Frag} {mg : Str → Option Value} {h : Heap} {cls : List Str} (X : K.In h) (G : h.Ns mainGlobals mg) (e : basB K cls = true) : BF cls K mg := by
  unfold basB at e
  simp only [Bool.and_eq_true, List.all_eq_true] at e
  obtain ⟨⟨⟨h1, h2⟩, h3⟩, h4⟩ := e
  have glo : ∀ c ∈ cls, mg c = some (.ref (ga K c)) := fun c hc => He.glo_ok X G (h1 c hc).1.1
  have cvm : ∀ {a : CV} {t : Value}, a ∈ cvAll cls → cvV mg a = some t → t = cvK K a := fun {a t} ha e => by
    cases a with
    | bt n => cases e; rfl
    | own c =>
      unfold cvAll at ha
      simp only [List.mem_append, List.mem_map] at ha
      rcases ha with ⟨n, _, z⟩ | ⟨d, hd, z⟩
      · cases z
      · cases z
        have e : mg c = some t := e
        rw [glo c hd] at e
        cases e
        rfl
  refine ⟨glo, fun c hc => clskB_ok (h1 c hc).1.2, fun c hc => (h1 c hc).2, fun a c b t u q e1 e2 => ?_, fun c hc d t hk ht => ?_, fun c hc => ?_⟩
  · have mem : ∀ a c b, isT cls a c = some b → a ∈ cvAll cls ∧ c ∈ cvAll cls := by
      intro a c b q
      unfold isT at q
      unfold cvAll
      cases a <;> cases c <;> simp only at q <;> (split at q <;> first | (rename_i z; simp [z.1, z.2]) | cases q)
    obtain ⟨m1, m2⟩ := mem a c b q
    rw [cvm m1 e1, cvm m2 e2]
    unfold isB at h2
    have := List.all_eq_true.mp (List.all_eq_true.mp h2 a m1) c m2
    simp only [q] at this
    exact of_decide_eq_true this
  · unfold nofB at h3
    have m : tyC d ∈ cvAll cls := by
      unfold cvAll btK
      cases d <;> simp [tyC]
      exact of_decide_eq_true hk
    rw [tyD_C] at ht
    rw [cvm m ht]
    exact List.all_eq_true.mp (List.all_eq_true.mp h3 c hc) _ m
  · unfold neB at h4
    have := List.all_eq_true.mp h4 c hc
    simp only [Bool.and_eq_true, decide_eq_true_eq] at this
    exact this
end DL
namespace DL
open PySem PySem.Spec L2
open PyProof.Rows hiding St
open He (ga ma fAd Fa DefD)
variable [Tbl]
def consB (K : PySem.W.Frag) : Str × D → Bool
  | (x, .int i) => (Fa.int x i).ok K
  | (x, .str z) => (Fa.str x z).ok K && decide (SOk z)
  | _ => false
def bltsB (K : PySem.W.Frag) (blt : List Str) : Bool := blt.all fun x => (Fa.free x).ok K
theorem cons_ok {K : PySem.W.Frag} {mg : Str → Option Value} {h : Heap} {p : Str × D} (X : K.In h) (G : h.Ns mainGlobals mg) (e : consB K p = true) : ∃ v u, mg p.1 = some u ∧ RelV v u ∧ ∀ B H, RD K mg B H v p.2 := by
  obtain ⟨x, d⟩ := p
  cases d <;> first | (cases e; done) | skip
  · obtain ⟨t, q⟩ := He.int_ok X G e
    exact ⟨.int _, _, q, ⟨t, rfl⟩, fun _ _ => .int _⟩
  · rename_i z
    have e : ((Fa.str x z).ok K && decide (SOk z)) = true := e
    rw [Bool.and_eq_true, decide_eq_true_eq] at e
    obtain ⟨t, q⟩ := He.str_ok X G e.1
    exact ⟨.str _, _, q, ⟨t, rfl⟩, fun _ _ => .str _ e.2⟩
theorem gf0 {P : Program} {w : World} {K : PySem.W.Frag} {mg : Str → Option Value} {base h : Heap} {Γ : GE} (X : K.In h) (G : h.Ns mainGlobals mg) (b : BF Γ.cls K mg) (hi : Γ.is = isT Γ.cls) (hc : Γ.cons.all (consB K) = true) (hb : bltsB K Γ.blt = true)
    (e1 : Γ.fns = []) (e2 : Γ.mks = []) (e3 : Γ.mts = []) (e4 : Γ.eqT = []) (e5 : Γ.inT = []) (e6 : Γ.addT = []) (e7 : Γ.subT = []) (e8 : Γ.lenT = []) (e9 : Γ.itT = []) (e10 : Γ.ixT = [] := by rfl) (e11 : Γ.smts = [] := by rfl) : GF Γ 6 P w K mg base := by
  have none_ : ∀ {T : RTab} (m : Str), T = [] → SpF P w K mg base 6 m T (fun _ => none) := fun m e => by
    subst e
    exact ⟨fun _ => rfl, (fun _ _ _ z => by cases z), (fun _ _ z => by cases z)⟩
  refine ⟨Nat.le_refl _, fun c v hk hv => ?_, (by rw [hi]; exact b.is), fun i x d q => ?_, fun x hx => ?_, fun i x r q => ?_, fun i x r q => ?_, fun i x r q => ?_, ⟨_, none_ _ e4, (fun _ _ _ _ _ z => by cases z), (fun _ _ _ z => by cases z)⟩, ⟨_, none_ _ e5⟩, ⟨_, none_ _ e6, (fun _ _ _ z => by cases z)⟩, ⟨_, none_ _ e7, (fun _ _ _ z => by cases z)⟩, ⟨_, none_ _ e8⟩, ⟨_, none_ _ e10, (fun _ _ z => by cases z)⟩, (fun i m T q => by rw [e11] at q; cases q), ⟨fun _ => none, (fun c => by rw [e9]; rfl), (fun _ _ _ z => by cases z)⟩⟩
  · have hk := of_decide_eq_true hk
    rw [b.glo c hk] at hv
    cases hv
    exact ⟨_, rfl, b.clsK c hk⟩
  · exact cons_ok X G (List.all_eq_true.mp hc (x, d) (List.mem_of_getElem? q))
  · exact He.free_ok X G (List.all_eq_true.mp hb x hx)
  · rw [e1] at q; cases q
  · rw [e2] at q; cases q
  · rw [e3] at q; cases q
def oexB (K : PySem.W.Frag) (C : Addr) : Bool := (match K.lookup C with
  | some ⟨.type t, _, .cls cd, sl⟩ => decide (t = "type") && (match cd.mro with
      | .ref c :: bm => decide (c = C) && PySem.HandSPX.refsVE bm
      | _ => false) && cd.hasDict && !cd.hasDel && (match sl.toList with
      | [_, _, _, _, some (.builtin n), _] => decide (n = "ValueError.__new__")
      | _ => false)
  | _ => false) && decide (PySem.W.findIn K (.ref C) "__setattr__" = some (some (.builtin "object.__setattr__"))) && decide (PySem.W.subIn K (.ref C) (.type "BaseException") = some true) && decide (PySem.W.typeIn K (.ref C) = some (.type "type")) && PySem.W.keepIn K (.ref C)
theorem oexB_ok {K : PySem.W.Frag} {C : Addr} (h : oexB K C = true) : OexC K C := by
  unfold oexB at h
  simp only [Bool.and_eq_true, decide_eq_true_eq] at h
  obtain ⟨⟨⟨⟨h1, h2⟩, h3⟩, h4⟩, h5⟩ := h
  refine ⟨?_, h2, h3, h4, h5⟩
  split at h1
  · rename_i t dd cd sl hl
    simp only [Bool.and_eq_true, decide_eq_true_eq, Bool.not_eq_true'] at h1
    obtain ⟨⟨⟨⟨a1, a2⟩, a3⟩, a4⟩, a5⟩ := h1
    split at a2
    · rename_i c bm hm
      simp only [Bool.and_eq_true, decide_eq_true_eq] at a2
      split at a5
      · rename_i k0 k1 k2 k3 n k5 hs
        have hn := of_decide_eq_true a5
        obtain ⟨nm, bs, mro, ns, q, hd, sn, sub, ab, col, del⟩ := cd
        obtain ⟨sl⟩ := sl
        simp only at hm a3 a4 hs
        subst hm a3 a4 hs a1 hn
        obtain ⟨rfl, b2⟩ := a2
        exact ⟨nm, q, ns, bs, bm, sn, sub, ab, col, dd, k0, k1, k2, k3, k5, hl, b2⟩
      · cases a5
    · cases a2
  · cases h1
def exccB (K : PySem.W.Frag) (D : Addr) : Bool := decide (PySem.W.findIn K (.ref D) "__getattribute__" = some (some (.builtin "BaseException.__getattribute__"))) && decide (PySem.W.findIn K (.ref D) "__getattr__" = some none) && decide (PySem.W.subIn K (.ref D) (.type "BaseException") = some true) && PySem.W.hasDictIn K D && decide (PySem.W.findIn K (.ref D) "__class__" = some (some (.builtin "object.__class__"))) && decide (PySem.W.specialIn K (.builtin "object.__class__") "__get__" = some (some (.builtin "getset_descriptor.__get__"))) && decide (PySem.W.takesIn K (.builtin "object.__class__") = some true) && decide (PySem.W.mroIn K D (.type "object") = some true)
theorem exccB_ok {K : PySem.W.Frag} {D : Addr} (h : exccB K D = true) : ExcC K D := by
  unfold exccB at h
  simp only [Bool.and_eq_true, decide_eq_true_eq] at h
  obtain ⟨⟨⟨⟨⟨⟨⟨h1, h2⟩, h3⟩, h4⟩, h5⟩, h6⟩, h7⟩, h8⟩ := h
  exact ⟨h1, h2, h3, h4, h5, h6, h7, h8⟩
/-- the errors of a def that tells errors: cs the base -/
def xcfB (K : PySem.W.Frag) (cs : Str) (er : ErR) : Bool :=
  (Fa.glo cs).ok K && (er.known.all fun c => (Fa.glo c).ok K && exccB K (ga K c) && decide (PySem.W.exmOne K (.ref (ga K c)) (.ref (ga K cs)) = some true) && er.ens.all fun en => decide (PySem.W.kitOne K (.ref (ga K c)) (.ref (ga K en.cls)) = some (decide (c = en.cls)))) &&
  er.ens.all fun en => (Fa.glo en.cls).ok K && (match en.fld with
    | some f => xfB K (ga K en.cls) && decide (PySem.W.findIn K (.ref (ga K en.cls)) f = some none)
    | none => true)
def enA (K : PySem.W.Frag) (er : ErR) : List (EN × Addr) := er.ens.map fun en => (en, ga K en.cls)
theorem xcfB_ok {K : PySem.W.Frag} {mg : Str → Option Value} {h : Heap} {cs : Str} {er : ErR} (X : K.In h) (G : h.Ns mainGlobals mg) (e : xcfB K cs er = true) : mg cs = some (.ref (ga K cs)) ∧ XcF K mg (ga K cs) (enA K er) er.known ∧ ∀ p ∈ enA K er, EnOk K mg p := by
  unfold xcfB at e
  simp only [Bool.and_eq_true, List.all_eq_true, decide_eq_true_eq] at e
  obtain ⟨⟨h1, h2⟩, h3⟩ := e
  refine ⟨He.glo_ok X G h1, ⟨fun c hc D hm => ?_⟩, fun p hp => ?_⟩
  · obtain ⟨⟨⟨a1, a2⟩, a3⟩, a4⟩ := h2 c hc
    rw [He.glo_ok X G a1] at hm
    cases hm
    refine ⟨exccB_ok a2, a3, fun p hp => ?_⟩
    obtain ⟨en, he, rfl⟩ := List.mem_map.mp hp
    exact ⟨a4 en he, He.glo_ok X G (h3 en he).1⟩
  · obtain ⟨en, he, rfl⟩ := List.mem_map.mp hp
    obtain ⟨b1, b2⟩ := h3 en he
    refine ⟨He.glo_ok X G b1, fun f hf => ?_⟩
    have hf : en.fld = some f := hf
    rw [hf] at b2
    simp only [Bool.and_eq_true, decide_eq_true_eq] at b2
    exact ⟨xfB_ok b2.1, b2.2⟩
/-- fields of own classes -/
def fldsB (K : PySem.W.Frag) (flds : List (Str × List Str)) : Bool := flds.all fun p => p.2.all fun c => decide (PySem.W.findIn K (.ref (ga K c)) p.1 = some none)
theorem flds_ok {K : PySem.W.Frag} {mg : Str → Option Value} {cls : List Str} {flds : List (Str × List Str)} (b : BF cls K mg) (hs : ∀ p ∈ flds, ∀ c ∈ p.2, c ∈ cls) (e : fldsB K flds = true) : ∀ (i : Nat) f cs, flds[i]? = some (f, cs) → FldOk K mg f (inB cs) := fun i f cs q c C hc hm => by
  have m := List.mem_of_getElem? q
  have hc := of_decide_eq_true hc
  have hcl := hs _ m c hc
  rw [b.glo c hcl] at hm
  cases hm
  have z := List.all_eq_true.mp (List.all_eq_true.mp e _ m) c hc
  have z : PySem.W.findIn K (.ref (ga K c)) f = some none := of_decide_eq_true z
  exact ⟨(b.clsK c hcl).toCls, z⟩
/-- an object that stands for the empty tuple -/
def tup0B (K : PySem.W.Frag) (a : Addr) : Bool := match K.lookup a with
  | some ⟨.type t, _, .seq its _, _⟩ => decide (t = "tuple") && decide (its.size = 0)
  | _ => false
theorem tup0_ok {K : PySem.W.Frag} {a : Addr} (h : tup0B K a = true) : Wt K a [] := by
  unfold tup0B at h
  split at h
  · rename_i t dd its n sl hl
    simp only [Bool.and_eq_true, decide_eq_true_eq] at h
    obtain ⟨rfl, hz⟩ := h
    refine ⟨_, its, n, hl, rfl, rfl, by omega, ?_⟩
    have : its = #[] := Array.eq_empty_of_size_eq_zero hz
    rw [this]
    exact .nil
  · cases h
/-- a def by the two looks -/
theorem def_at {K : PySem.W.Frag} {d : DefD} (e : He.fnW K d.at_ = d.val) (c : d.ok K = true) : ∃ fd, FunD K d.name d.qual d.params d.body d.scope (d.dvs K) (d.kws K) (fAd K d.at_) fd := DefD.funD e c
/-- a record of a def -/
theorem mef {P : Program} {w : World} {K : PySem.W.Frag} {mg : Str → Option Value} {base : Heap} {k L : Nat} {f : Addr} {fd : FuncData} {ps : List Str} {sem : FnS} {dvs : List V} {dd : List D} {ds : List Value} (ok : FnOk P w K mg base (L2.CX P w) k f fd ps (spOf K mg ps.length (arity ps.length sem))) (kp : PySem.W.keepIn K (.ref f) = true)
    (b : Binds K fd ps ds) (hv : Vals dvs ds) (rd : ∀ B H, RDs K mg B H dvs dd) (l : k + 5 ≤ L) : MeF P w K mg base L ⟨f, fd, k, ps, sem, dvs, dd⟩ := ⟨ok, l, ⟨ds, b, hv⟩, rd, kp⟩
end DL
namespace DL
open PySem PySem.Spec L2
open PyProof.Rows hiding St
open He (ga ma fAd Fa DefD)
theorem km_tab {K : Params → PySem.W.Frag} {as : List Addr} {e : ∀ P, as = (K P).map (·.1)} {ts : List Addr} {w : World} {h : Heap} (Y : (PySem.W.kmHook K as e ts).says w h) (P : Addr) (hP : decide (P ∈ ts) = true) : h.get? P = some { cls := .none, data := .fields #[] } := PySem.W.km_tabs_of Y P (of_decide_eq_true hP)
/-- the code object of a def, its table -/
def codeOf (K : PySem.W.Frag) (p : Str × Option Str) : Addr := match K.lookup (fAd K p) with
  | some ⟨_, _, .func fd, _⟩ => (match fd.code with
    | .ref a => a
    | _ => 0)
  | _ => 0
def tabOf (K : PySem.W.Frag) (p : Str × Option Str) : Addr := match K.lookup (codeOf K p) with
  | some ⟨_, _, .fields vs, _⟩ => (match (vs[11]? : Option Value) with
    | some (Value.ref P) => P
    | _ => 0)
  | _ => 0
theorem funD_same {K : PySem.W.Frag} {x x' q q' : Str} {pa pa' : Arguments} {b b' : List Stmt} {s s' : Scope} {dv dv' : List V} {kw kw' : List (Str × V)} {f : Addr} {fd fd' : FuncData} (F : FunD K x q pa b s dv kw f fd) (F' : FunD K x' q' pa' b' s' dv' kw' f fd') : fd = fd' := by
  obtain ⟨_, _, _, _, _, _, _, _, _, _, _, l1, _⟩ := F.ex
  obtain ⟨_, _, _, _, _, _, _, _, _, _, _, l2, _⟩ := F'.ex
  rw [l1] at l2
  injection l2 with e
  injection e with _ _ e3 _
  injection e3
section
variable [Tbl]
theorem st_start {K : PySem.W.Frag} {mg : Str → Option Value} {H : Hp} (h : ∀ p ∈ Tbl.T, H p.1 = some (.tbl #[])) : StOk K mg IsTb [] [] H where
  len := rfl
  cell := fun i fp c h1 _ => by simp at h1
  ban := fun a z => z.elim (fun ⟨i, fp, c, h1, _⟩ => by simp at h1) id
  disj := fun i j fp fp' c c' h1 => by simp at h1
  dom := fun a ⟨p, hp, e⟩ => by rw [← e, h p hp]; simp
  tabs := fun p hp => LamX.TabS.nil (h p hp)
/-- the law's promise -/
theorem sp_law {K : PySem.W.Frag} {mg : Str → Option Value} {H : Hp} {a : Addr} {ns : List Int} {f : FnS} (h : ∀ p ∈ Tbl.T, H p.1 = some (.tbl #[])) (hs : SqL K H a (ns.map V.int)) (hf : ∃ S, f [.im (.scr ns)] [] = .ok (.im (.bl true)) S) : spOf K mg 1 (arity 1 f) [.ref a] H (fun v _ => v = .bl true) (fun _ _ _ => False) := by
  refine ⟨rfl, IsTb, [], [], [.im (.scr ns)], st_start h, .cons (.scr ?_) .nil, ?_⟩
  · rcases hs with hs | hs
    · refine .inl ⟨hs, fun ⟨p, hp, e⟩ => ?_⟩
      have hP := h p hp
      rw [e] at hP
      rcases hs with q | ⟨o, q⟩ <;> (rw [q] at hP; cases hP)
    · exact .inr hs
  · obtain ⟨S, e⟩ := hf
    unfold arity
    rw [if_pos (show [Vl.im (D.scr ns)].length = 1 from rfl), e]
    intro v H' B' ρ' ok' ex rv
    exact RD.bl_inv (show RD K mg B' H' v (.bl true) from rv)
end
end DL
namespace DL
open PySem PySem.Spec L2
open PyProof.Rows hiding St
variable [Tbl]
theorem def_ofS {Γ : GE} {G : GX} {L : Nat} {P : Program} {w : World} {K : PySem.W.Frag} {mg : Str → Option Value} {base : Heap} {x qual pv : Str} {params : Arguments} {body : List Stmt} {scope : Scope} {kws : List (Str × V)} {f : Addr} {fd : FuncData} {N ps : List Str} {m : ME .B}
    (F : FunD K x qual params body scope [] kws f fd) (S : FnScope N (ps ++ [pv]) scope) (gf : GF Γ L P w K mg base) (gx : GFX Γ G L P w K mg base) (nm : (qual ++ ".<locals>.") ∉ Γ.mkrs) (h : chk Γ G m ⟨N, scope, fun _ => true, qual ++ ".<locals>."⟩ body = true)
    (hb : ∀ (kV doc pm : Value) (an : Option Addr) (cdv ct : Value) (us rest : List Value), us.length = ps.length → bindArgs (PySem.W.fnOf x qual params body scope .none kV doc pm an cdv ct) ⟨us ++ rest, []⟩ = (newTuple rest >>= fun t => pure (ps.zip us ++ [(pv, t)]))) :
    L2.FnR P w K mg base (L2.CX P w) (L + 1) f (spS K mg ⟨f, L + 1, ps.length, semOf N.length (ev Γ G m)⟩) := by
  obtain ⟨oc, od, dV, kV, doc, pm, an, cdv, ct, osl, rfl, lk, hcd, hD, _⟩ := F.ex
  rcases hD with ⟨_, rfl⟩ | ⟨e, _⟩
  · refine StX.fn_star (sp := spOf K mg (ps.length + 1) (arity (ps.length + 1) (semOf N.length (ev Γ G m)))) lk hcd S StX.cxUp (hb kV doc pm an cdv ct) fun A outer s H vs Q E r hsp => ?_
    refine ⟨_, sound m (cxOf (L2.CX P w) P w K mg base N qual scope f cdv A outer s H E) E ⟨Ct.body gf S.nd r, gx, fun z => absurd z nm⟩ body h, ?_⟩
    have hs : SimS K mg (We E) _ (ev Γ G m) := simS_rd (ev Γ G m)
    obtain ⟨hl, B, S0, ρ, xs, ok, rv, w⟩ := hsp
    refine hs (startG N.length xs) (L2.start N vs) _ ⟨B, S0, ρ, H⟩ (rep_start ok rv) ?_
    unfold arity at w
    split at w
    · unfold semOf at w
      cases q : ev Γ G m (startG N.length xs) S0 with
      | bad => simp only [q] at w; exact w.elim
      | exc c fs γ S' =>
        simp only [q] at w
        exact fun cls dd σ' H' B' ρ' rep e rx => w cls dd H' B' ρ' rep.st e rx
      | ok fl S' =>
        cases fl with
        | nx γ => simp only [q] at w; exact fun σ' H' B' ρ' rep e => w .non H' B' ρ' rep.st e .non
        | rt x => simp only [q] at w; exact fun v H' B' ρ' ok' e rv => w v H' B' ρ' ok' e rv
        | bk γ => simp only [q] at w; exact w.elim
        | ct γ => simp only [q] at w; exact w.elim
    · exact w.elim
  · exact absurd rfl e
end DL
namespace DL
open PySem PySem.Spec L2
open PyProof.Rows hiding St
variable [Tbl]
theorem wb_nil (S cs : Sto) : wb S [] cs = S := by cases cs <;> rfl
/-- a call by data alone -/
theorem call_ok {f : FnS} {n : Nat} {ds : List D} {d : D} {S' : Sto} (hn : ds.length = n) (h : f (ds.map Vl.im) [] = .ok (.im d) S') (γ : Gam) (S : Sto) : callSem (arity n f) (ds.map Vl.im) γ S = .ok (.im d) S := by
  unfold callSem
  rw [pack_ims]
  simp only [List.nodup_nil, allLive, List.all_nil, and_self, if_true, sub, List.map_nil]
  have : arity n f (ds.map Vl.im) [] = .ok (.im d) S' := by unfold arity; rw [if_pos (by rw [List.length_map]; exact hn)]; exact h
  rw [this]
  simp only [wb_nil]
theorem call_exc {f : FnS} {n : Nat} {ds : List D} {c : Str} {fs : List (Str × D)} {γ' : Gam} {S' : Sto} (hn : ds.length = n) (h : f (ds.map Vl.im) [] = .exc c fs γ' S') (γ : Gam) (S : Sto) : callSem (arity n f) (ds.map Vl.im) γ S = .exc c fs γ S := by
  unfold callSem
  rw [pack_ims]
  simp only [List.nodup_nil, allLive, List.all_nil, and_self, if_true, sub, List.map_nil]
  have : arity n f (ds.map Vl.im) [] = .exc c fs γ' S' := by unfold arity; rw [if_pos (by rw [List.length_map]; exact hn)]; exact h
  rw [this]
  simp only [wb_nil]
/-- a call whose first argument is a cell -/
theorem call_cl {f : FnS} {n i : Nat} {ds : List D} {d : D} {c c' : Cell} (hn : ds.length + 1 = n) {γ : Gam} {S : Sto} (hi : S[i]? = some (some c)) {r : Sto} (h : f (.cl 0 :: ds.map Vl.im) [some c] = .ok (.im d) (some c' :: r)) : callSem (arity n f) (.cl i :: ds.map Vl.im) γ S = .ok (.im d) (S.set i (some c')) := by
  have e : pack (.cl i :: ds.map Vl.im) 0 = (.cl 0 :: ds.map Vl.im, [i]) := by
    show ((Vl.cl 0) :: (pack (ds.map Vl.im) 1).1, i :: (pack (ds.map Vl.im) 1).2) = _
    rw [pack_ims]
  have hs : sub S [i] = [some c] := by
    unfold sub
    simp [hi]
  have hl : allLive S [i] = true := by
    unfold allLive
    simp [hi]
  unfold callSem
  rw [e]
  simp only [hs, hl, and_true]
  rw [if_pos (by simp)]
  have : arity n f (.cl 0 :: ds.map Vl.im) [some c] = .ok (.im d) (some c' :: r) := by unfold arity; rw [if_pos (by rw [List.length_cons, List.length_map]; exact hn)]; exact h
  rw [this]
  show R.ok (Vl.im d) (wb (S.set i (some c')) [] r) = _
  rw [wb_nil]
theorem cloop_run {its : Sto → Option (List D)} {tg : Tg} {k : FB} {γ : Gam} {ds : List D} (St : Nat → Sto) (g : Nat → D → List D) (hits : ∀ i, its (St i) = some ds) (h : ∀ i d, ds[i]? = some d → (g i d).length ≤ 1 ∧ ∃ γ1, tg.fg (.im d) γ = some γ1 ∧ ∀ acc, acc.length < sizeLine → k γ1 acc (St i) = .ok (acc ++ g i d) (St (i + 1))) :
    ∀ (m i : Nat) (acc : List D), i + m = ds.length → acc.length + m ≤ sizeLine → cloop its tg k (m + 1) i γ acc (St i) = .ok (acc ++ ((ds.drop i).zipIdx i).flatMap fun p => g p.2 p.1) (St ds.length)
  | 0, i, acc, hm, hz => by
    have hi : i = ds.length := by omega
    subst hi
    unfold cloop
    rw [hits]
    simp
  | m + 1, i, acc, hm, hz => by
    have hi : i < ds.length := by omega
    have e : ds[i]? = some ds[i] := List.getElem?_eq_getElem hi
    obtain ⟨h1, γ1, h2, h3⟩ := h i _ e
    unfold cloop
    rw [hits]
    simp only [e, h2, h3 acc (by omega), R.bind_ok]
    have hl : (acc ++ g i ds[i]).length + m ≤ sizeLine := by rw [List.length_append]; omega
    rw [cloop_run St g hits h m (i + 1) (acc ++ g i ds[i]) (by omega) hl, List.append_assoc]
    rw [List.drop_eq_getElem_cons hi, List.zipIdx_cons, List.flatMap_cons]
theorem cloop_pure {its : Sto → Option (List D)} {tg : Tg} {k : FB} {γ : Gam} {ds : List D} {S : Sto} (g : D → List D) (hits : its S = some ds) (h : ∀ d ∈ ds, (g d).length ≤ 1 ∧ ∃ γ1, tg.fg (.im d) γ = some γ1 ∧ ∀ acc, acc.length < sizeLine → k γ1 acc S = .ok (acc ++ g d) S) (hz : ds.length ≤ sizeLine) :
    cloop its tg k (ds.length + 1) 0 γ [] S = .ok (ds.flatMap g) S := by
  have := cloop_run (its := its) (tg := tg) (k := k) (γ := γ) (ds := ds) (fun _ => S) (fun _ d => g d) (fun _ => hits) (fun i d e => h d (List.mem_of_getElem? e)) ds.length 0 [] (by omega) (by simpa using hz)
  rw [this]
  congr 1
  rw [List.nil_append, List.drop_zero]
  induction ds generalizing its with
  | nil => rfl
  | cons d ds ih =>
    clear ih this h hits hz
    have : ∀ (l : List D) (i : Nat), ((l.zipIdx i).flatMap fun p => g p.1) = l.flatMap g := by
      intro l
      induction l with
      | nil => intro i; rfl
      | cons a l ih => intro i; rw [List.zipIdx_cons, List.flatMap_cons, List.flatMap_cons, ih]
    exact this _ _
end DL
namespace DL
open PySem PySem.Spec L2
open PyProof.Rows hiding St
variable [Tbl]
section
variable {Γ : GE} {G : GX} {γ γ1 γ2 : Gam} {S S1 S2 : Sto}
theorem seq {s : ME .S} {b : ME .B} {r : R Fl} (h : ev Γ G s γ S = .ok (.nx γ1) S1) (k : ev Γ G b γ1 S1 = r) : ev Γ G (.bcons s b) γ S = r := by
  show fSeq (ev Γ G s) (ev Γ G b) γ S = r
  unfold fSeq; rw [h]; exact k
theorem seqR {s : ME .S} {b : ME .B} {x : Vl} (h : ev Γ G s γ S = .ok (.rt x) S1) : ev Γ G (.bcons s b) γ S = .ok (.rt x) S1 := by
  show fSeq (ev Γ G s) (ev Γ G b) γ S = _
  unfold fSeq; rw [h]; rfl
theorem seqX {s : ME .S} {b : ME .B} {c : Str} {fs : List (Str × D)} (h : ev Γ G s γ S = .exc c fs γ1 S1) : ev Γ G (.bcons s b) γ S = .exc c fs γ1 S1 := by
  show fSeq (ev Γ G s) (ev Γ G b) γ S = _
  unfold fSeq; rw [h]; rfl
theorem retS {e : ME .E} {b : ME .B} {x : Vl} (h : ev Γ G e γ S = .ok x S1) : ev Γ G (.bcons (.ret e) b) γ S = .ok (.rt x) S1 := by
  apply seqR
  show fRet (ev Γ G e) γ S = _
  unfold fRet; rw [h]; rfl
theorem asgS {e : ME .E} {i : Nat} {x : Vl} (h : ev Γ G e γ S = .ok x S1) (hi : Nat.ble (i + 1) γ.length = true) : ev Γ G (.asg (.name i) e) γ S = .ok (.nx (γ.set i (some x))) S1 := by
  show fAsg (ev Γ G e) (Tg.fg (.name i)) γ S = _
  unfold fAsg; rw [h]
  show (match gSet i x γ with
    | some γ' => R.ok (Fl.nx γ') S1
    | none => R.bad) = _
  unfold gSet; rw [if_pos (show i < γ.length from Nat.le_of_ble_eq_true hi)]
theorem iffF {c : ME .T} {b : ME .B} (h : ev Γ G c γ S = .ok false S) : ev Γ G (.iff c b .bnil) γ S = .ok (.nx γ) S := by
  show fIfS (ev Γ G c) (ev Γ G b) fSkip γ S = _
  unfold fIfS; rw [h]; rfl
theorem iffT {c : ME .T} {b b2 : ME .B} {r : R Fl} (h : ev Γ G c γ S = .ok true S) (k : ev Γ G b γ S = r) : ev Γ G (.iff c b b2) γ S = r := by
  show fIfS (ev Γ G c) (ev Γ G b) (ev Γ G b2) γ S = _
  unfold fIfS; rw [h]; exact k
theorem bind_ok {e : ME .E} {k : Vl → Sto → R Vl} {x : Vl} (h : ev Γ G e γ S = .ok x S1) : (ev Γ G e γ S).bind k = k x S1 := by rw [h]; rfl
theorem ifS {c : ME .T} {b b2 : ME .B} {p : Bool} {r : R Fl} (h : ev Γ G c γ S = .ok p S) (k : p = true → ev Γ G b γ S = r) (k2 : p = false → ev Γ G b2 γ S = r) : ev Γ G (.iff c b b2) γ S = r := by
  show fIfS (ev Γ G c) (ev Γ G b) (ev Γ G b2) γ S = _
  unfold fIfS; rw [h]
  cases p with
  | true => exact k rfl
  | false => exact k2 rfl
theorem valT {e : ME .E} {b : Bool} (h : ev Γ G e γ S = .ok (.im (.bl b)) S1) : ev Γ G (.val e) γ S = .ok b S1 := by
  show fTest (ev Γ G e) γ S = _
  unfold fTest; rw [h]; rfl
theorem andT {a b : ME .T} {p q : Bool} (h : ev Γ G a γ S = .ok p S1) (k : p = true → ev Γ G b γ S1 = .ok q S2) (e : p = false → S2 = S1) : ev Γ G (.and a b) γ S = .ok (p && q) S2 := by
  show fAnd (ev Γ G a) (ev Γ G b) γ S = _
  unfold fAnd; rw [h]
  cases p with
  | true => exact k rfl
  | false => rw [e rfl]; rfl
theorem and1 {a b : ME .T} {p q : Bool} (h : ev Γ G a γ S = .ok p S) (k : p = true → ev Γ G b γ S = .ok q S) : ev Γ G (.and a b) γ S = .ok (p && q) S := andT h k fun _ => rfl
theorem or1 {a b : ME .T} {p q : Bool} (h : ev Γ G a γ S = .ok p S) (k : p = false → ev Γ G b γ S = .ok q S) : ev Γ G (.or a b) γ S = .ok (p || q) S := by
  show fOr (ev Γ G a) (ev Γ G b) γ S = _
  unfold fOr; rw [h]
  cases p with
  | true => rfl
  | false => exact k rfl
theorem orF {a b : ME .T} (h : ev Γ G a γ S = .ok false S1) (k : ev Γ G b γ S1 = .ok false S2) : ev Γ G (.or a b) γ S = .ok false S2 := by
  show fOr (ev Γ G a) (ev Γ G b) γ S = _
  unfold fOr; rw [h]; exact k
theorem notT {a : ME .T} {p : Bool} (h : ev Γ G a γ S = .ok p S1) : ev Γ G (.not a) γ S = .ok (!p) S1 := by
  show fNot (ev Γ G a) γ S = _
  unfold fNot; rw [h]; rfl
theorem ofT {a : ME .T} {p : Bool} (h : ev Γ G a γ S = .ok p S1) : ev Γ G (.ofT a) γ S = .ok (.im (.bl p)) S1 := by
  show DL.fOfT (ev Γ G a) γ S = _
  unfold DL.fOfT; rw [h]; rfl
theorem varE {i : Nat} {x : Vl} (h : γ[i]? = some (some x)) : ev Γ G (.var i) γ S = .ok x S := by
  show fVar i γ S = _
  unfold fVar; rw [h]
theorem callE {i : Nat} {x : Str} {r : FnR} {as : ME .A} {xs : List Vl} {z : R Vl} (hf : Γ.fns[i]? = some (x, r)) (ha : ev Γ G as γ S = .ok xs S1) (hc : callSem (arity r.n r.sem) (xs ++ r.dd.map Vl.im) γ S1 = z) : ev Γ G (.callF i as) γ S = z := by
  show (match Γ.fns[i]? with
    | some p => fCall (arity p.2.n p.2.sem) p.2.dd (ev Γ G as)
    | none => fBad) γ S = z
  rw [hf]
  show fCall _ _ _ _ _ = _
  unfold fCall; rw [ha]; exact hc
theorem nilA : ev Γ G .anil γ S = .ok [] S := rfl
theorem consA {e : ME .E} {r : ME .A} {x : Vl} {xs : List Vl} (h : ev Γ G e γ S = .ok x S1) (k : ev Γ G r γ S1 = .ok xs S2) : ev Γ G (.acons e r) γ S = .ok (x :: xs) S2 := by
  show fCons (ev Γ G e) (ev Γ G r) γ S = _
  unfold fCons; rw [h]
  show ((ev Γ G r γ S1).bind fun xs S2 => R.ok (x :: xs) S2) = _
  rw [k]; rfl
theorem oneA {e : ME .E} {x : Vl} (h : ev Γ G e γ S = .ok x S1) : ev Γ G (.acons e .anil) γ S = .ok [x] S1 := consA h nilA
theorem cbE {b : BI} {as : ME .A} {xs : List Vl} {z : R Vl} (ha : ev Γ G as γ S = .ok xs S1) (hc : evB Γ b xs γ S1 = z) : ev Γ G (.callB b as) γ S = z := by
  show fCBX (evB Γ b) (ev Γ G as) γ S = _
  unfold fCBX; rw [ha]; exact hc
theorem binE {op : Operator} {a b : ME .E} {x y : Vl} {z : R Vl} (h : ev Γ G a γ S = .ok x S1) (k : ev Γ G b γ S1 = .ok y S2) (hc : evBin Γ op x y γ S2 = z) : ev Γ G (.bin op a b) γ S = z := by
  show fOpX (evBin Γ op) (ev Γ G a) (ev Γ G b) γ S = _
  unfold fOpX; rw [h]
  show ((ev Γ G b γ S1).bind fun y S2 => evBin Γ op x y γ S2) = _
  rw [k]; exact hc
theorem cmpE {op : CmpOp} {a b : ME .E} {x y : Vl} {z : R Vl} (h : ev Γ G a γ S = .ok x S1) (k : ev Γ G b γ S1 = .ok y S2) (hc : evCmp Γ op x y γ S2 = z) : ev Γ G (.cmp op a b) γ S = z := by
  show fOpX (evCmp Γ op) (ev Γ G a) (ev Γ G b) γ S = _
  unfold fOpX; rw [h]
  show ((ev Γ G b γ S1).bind fun y S2 => evCmp Γ op x y γ S2) = _
  rw [k]; exact hc
theorem subE {a b : ME .E} {x y : Vl} {d e r : D} (h : ev Γ G a γ S = .ok x S1) (k : ev Γ G b γ S1 = .ok y S2) (hx : x.view S2 = some d) (hy : y.view S2 = some e) (hr : (dgetD d e).or (ixD d e) = some r) : ev Γ G (.sub a b) γ S = .ok (.im r) S2 := by
  show fSub ixD (ev Γ G a) (ev Γ G b) γ S = _
  unfold fSub fOp; rw [h]
  show ((ev Γ G b γ S1).bind fun y S2 => lift2 _ x y S2) = _
  rw [k]
  show R.ofO ((x.view S2).bind fun a => (y.view S2).bind fun b => (dgetD a b).or (ixD a b)) S2 = _
  rw [hx, hy]
  show R.ofO ((dgetD d e).or (ixD d e)) S2 = _
  rw [hr]; rfl
theorem lstE {as : ME .A} {ds : List D} (h : ev Γ G as γ S = .ok (ds.map Vl.im) S1) (hz : ds.length ≤ sizeLine) : ev Γ G (.lst as) γ S = .ok (.im (.lst ds)) S1 := by
  show fLst (ev Γ G as) γ S = _
  have : ∀ ds : List D, ims (ds.map Vl.im) = some ds := by
    intro ds
    induction ds with
    | nil => rfl
    | cons d ds ih => show (ims (ds.map Vl.im)).map _ = _; rw [ih]; rfl
  unfold fLst; rw [h]
  show R.ofO ((ims (ds.map Vl.im)).bind _) S1 = _
  rw [this]
  show R.ofO (if ds.length ≤ sizeLine then some (D.lst ds) else none) S1 = _
  rw [if_pos hz]; rfl
theorem tupE {as : ME .A} {ds : List D} (h : ev Γ G as γ S = .ok (ds.map Vl.im) S1) (hz : ds.length ≤ sizeLine) : ev Γ G (.tup as) γ S = .ok (.im (.tup ds)) S1 := by
  show fTup (ev Γ G as) γ S = _
  have : ∀ ds : List D, ims (ds.map Vl.im) = some ds := by
    intro ds
    induction ds with
    | nil => rfl
    | cons d ds ih => show (ims (ds.map Vl.im)).map _ = _; rw [ih]; rfl
  unfold fTup; rw [h]
  show R.ofO ((ims (ds.map Vl.im)).bind _) S1 = _
  rw [this]
  show R.ofO (if ds.length ≤ sizeLine then some (D.tup ds) else none) S1 = _
  rw [if_pos hz]; rfl
theorem unE {op : D → Option D} {e : ME .E} {x : Vl} {d r : D} (h : ev Γ G e γ S = .ok x S1) (hx : x.view S1 = some d) (hr : op d = some r) : fUn op (ev Γ G e) γ S = .ok (.im r) S1 := by
  unfold fUn; rw [h]
  show R.ofO ((x.view S1).bind op) S1 = _
  rw [hx]
  show R.ofO (op d) S1 = _
  rw [hr]; rfl
theorem atI_at {xs : List D} {k : Int} (h0 : 0 ≤ k) (h : k.toNat < xs.length) : atI xs k = some xs[k.toNat] := by
  unfold atI ixN
  rw [if_pos h0, if_pos (by omega)]
  exact List.getElem?_eq_getElem h
theorem semRun {n : Nat} {f : FS} {xs : List Vl} {x : Vl} {S S1 : Sto} (h : f (startG n xs) S = .ok (.rt x) S1) : semOf n f xs S = .ok x S1 := by
  unfold semOf; rw [h]
theorem semRunN {n : Nat} {f : FS} {xs : List Vl} {γ1 : Gam} {S S1 : Sto} (h : f (startG n xs) S = .ok (.nx γ1) S1) : semOf n f xs S = .ok (.im .non) S1 := by
  unfold semOf; rw [h]
theorem semRunX {n : Nat} {f : FS} {xs : List Vl} {γ1 : Gam} {S S1 : Sto} {c : Str} {fs : List (Str × D)} (h : f (startG n xs) S = .exc c fs γ1 S1) : semOf n f xs S = .exc c fs [] S1 := by
  unfold semOf; rw [h]
theorem lcMap {α : Type} {tg : Tg} {vs : List Nat} {i : ME .I} {e : ME .E} {its : Sto → Option (List D)} (xs : List α) (φ f : α → D) (hi : ev Γ G i γ S = .ok its S) (h1 : its S = some (xs.map φ)) (hz : xs.length ≤ sizeLine)
    (h : ∀ x ∈ xs, ∃ γ1, tg.fg (.im (φ x)) (wipeG γ vs) = some γ1 ∧ ev Γ G e γ1 S = .ok (.im (f x)) S) : ev Γ G (.lc tg vs i .cnil e) γ S = .ok (.im (.lst (xs.map f))) S := by
  show fLc (ev Γ G i) tg vs (bIf fYes (bElt (ev Γ G e))) γ S = _
  have run : ∀ (m j : Nat) (acc : List D), j + m = xs.length → acc.length + m ≤ sizeLine → cloop its tg (bIf fYes (bElt (ev Γ G e))) (m + 1) j (wipeG γ vs) acc S = .ok (acc ++ (xs.drop j).map f) S := by
    intro m
    induction m with
    | zero =>
      intro j acc hm _
      unfold cloop; rw [h1]
      have : (xs.map φ)[j]? = none := by rw [List.getElem?_eq_none_iff, List.length_map]; omega
      simp only [this, List.drop_eq_nil_of_le (show xs.length ≤ j by omega), List.map_nil, List.append_nil]
    | succ m ih =>
      intro j acc hm hl
      have hj : j < xs.length := by omega
      obtain ⟨γ1, e1, e2⟩ := h xs[j] (List.getElem_mem hj)
      unfold cloop; rw [h1]
      have : (xs.map φ)[j]? = some (φ xs[j]) := by rw [List.getElem?_map, List.getElem?_eq_getElem hj]; rfl
      simp only [this, e1]
      have eb : bIf fYes (bElt (ev Γ G e)) γ1 acc S = .ok (acc ++ [f xs[j]]) S := by
        show bElt (ev Γ G e) γ1 acc S = _
        unfold bElt; rw [e2]
        show (if acc.length < sizeLine then R.ok (acc ++ [f xs[j]]) S else .bad) = _
        rw [if_pos (by omega)]
      rw [eb]
      show cloop _ _ _ _ _ _ _ _ = _
      rw [ih (j + 1) _ (by omega) (by rw [List.length_append, List.length_singleton]; omega), List.drop_eq_getElem_cons hj, List.map_cons, List.append_assoc]; rfl
  unfold fLc; rw [hi]
  show (match its S with
    | none => R.bad
    | some ds => (cloop its tg (bIf fYes (bElt (ev Γ G e))) (ds.length + 1) 0 (wipeG γ vs) [] S).bind fun acc S2 => R.ok (Vl.im (D.lst acc)) S2) = _
  rw [h1]
  simp only [List.length_map]
  rw [run xs.length 0 [] (by omega) (by simpa using hz)]
  rfl
theorem lcFil {α : Type} {tg : Tg} {vs : List Nat} {i : ME .I} {c : ME .T} {e : ME .E} {its : Sto → Option (List D)} (xs : List α) (φ f : α → D) (p : α → Bool) (hi : ev Γ G i γ S = .ok its S) (h1 : its S = some (xs.map φ)) (hz : xs.length ≤ sizeLine)
    (h : ∀ x ∈ xs, ∃ γ1, tg.fg (.im (φ x)) (wipeG γ vs) = some γ1 ∧ ev Γ G c γ1 S = .ok (p x) S ∧ ev Γ G e γ1 S = .ok (.im (f x)) S) : ev Γ G (.lc tg vs i (.cone c) e) γ S = .ok (.im (.lst ((xs.filter p).map f))) S := by
  show fLc (ev Γ G i) tg vs (bIf (ev Γ G c) (bElt (ev Γ G e))) γ S = _
  have run : ∀ (m j : Nat) (acc : List D), j + m = xs.length → acc.length + m ≤ sizeLine → cloop its tg (bIf (ev Γ G c) (bElt (ev Γ G e))) (m + 1) j (wipeG γ vs) acc S = .ok (acc ++ ((xs.drop j).filter p).map f) S := by
    intro m
    induction m with
    | zero =>
      intro j acc hm _
      unfold cloop; rw [h1]
      have : (xs.map φ)[j]? = none := by rw [List.getElem?_eq_none_iff, List.length_map]; omega
      simp only [this, List.drop_eq_nil_of_le (show xs.length ≤ j by omega), List.filter_nil, List.map_nil, List.append_nil]
    | succ m ih =>
      intro j acc hm hl
      have hj : j < xs.length := by omega
      obtain ⟨γ1, e1, e2, e3⟩ := h xs[j] (List.getElem_mem hj)
      unfold cloop; rw [h1]
      have : (xs.map φ)[j]? = some (φ xs[j]) := by rw [List.getElem?_map, List.getElem?_eq_getElem hj]; rfl
      simp only [this, e1]
      have eb : bIf (ev Γ G c) (bElt (ev Γ G e)) γ1 acc S = .ok (if p xs[j] then acc ++ [f xs[j]] else acc) S := by
        unfold bIf; rw [e2]
        show (if p xs[j] = true then bElt (ev Γ G e) γ1 acc S else R.ok acc S) = _
        cases p xs[j] with
        | false => rfl
        | true =>
          show bElt (ev Γ G e) γ1 acc S = R.ok (acc ++ [f xs[j]]) S
          unfold bElt; rw [e3]
          show (if acc.length < sizeLine then R.ok (acc ++ [f xs[j]]) S else .bad) = _
          rw [if_pos (by omega)]
      have hl2 : (if p xs[j] = true then acc ++ [f xs[j]] else acc).length + m ≤ sizeLine := by
        split
        · rw [List.length_append, List.length_singleton]; omega
        · omega
      rw [eb]
      show cloop _ _ _ _ _ _ _ _ = _
      rw [ih (j + 1) _ (by omega) hl2, List.drop_eq_getElem_cons hj, List.filter_cons]
      split
      · rw [List.map_cons, List.append_assoc]; rfl
      · rfl
  unfold fLc; rw [hi]
  show (match its S with
    | none => R.bad
    | some ds => (cloop its tg (bIf (ev Γ G c) (bElt (ev Γ G e))) (ds.length + 1) 0 (wipeG γ vs) [] S).bind fun acc S2 => R.ok (Vl.im (D.lst acc)) S2) = _
  rw [h1]
  simp only [List.length_map]
  rw [run xs.length 0 [] (by omega) (by simpa using hz)]
  rfl
theorem floop_s (its : Sto → Option (List D)) (tg : Tg) (body : FS) (n i : Nat) (γ : Gam) (S : Sto) : DL.floop its tg body (n + 1) i γ S = (match its S with
    | none => R.bad
    | some ds => match ds[i]? with
      | none => .ok (Fl.nx γ) S
      | some d => match tg.fg (.im d) γ with
        | none => .bad
        | some γ1 => (body γ1 S).bind fun x S1 => match x with
          | .nx γ2 => DL.floop its tg body n (i + 1) γ2 S1
          | .ct γ2 => DL.floop its tg body n (i + 1) γ2 S1
          | .bk γ2 => .ok (Fl.nx γ2) S1
          | .rt x => .ok (Fl.rt x) S1) := rfl
theorem floopInv {α : Type} {tg : Tg} {fb : FS} {its : Sto → Option (List D)} (xs : List α) (φ : α → D) (I : Nat → Gam → Sto → Prop) (hits : ∀ j γ S, I j γ S → its S = some (xs.map φ))
    (step : ∀ (j : Nat) (hj : j < xs.length) γ S, I j γ S → ∃ γ1, tg.fg (.im (φ xs[j])) γ = some γ1 ∧ ∃ γ2 S2, fb γ1 S = .ok (.nx γ2) S2 ∧ I (j + 1) γ2 S2) :
    ∀ (m j : Nat) γ S, j + m = xs.length → I j γ S → ∃ γ2 S2, DL.floop its tg fb (m + 1) j γ S = .ok (.nx γ2) S2 ∧ I xs.length γ2 S2 := by
    intro m
    induction m with
    | zero =>
      intro j γ S hm hI
      refine ⟨γ, S, ?_, by rw [← hm]; exact hI⟩
      rw [floop_s, hits j γ S hI]
      have : (xs.map φ)[j]? = none := by rw [List.getElem?_eq_none_iff, List.length_map]; omega
      simp only [this]
    | succ m ih =>
      intro j γ S hm hI
      have hj : j < xs.length := by omega
      obtain ⟨γ1, e1, γ2, S2, e2, h2⟩ := step j hj γ S hI
      obtain ⟨γ3, S3, e3, h3⟩ := ih (j + 1) γ2 S2 (by omega) h2
      refine ⟨γ3, S3, ?_, h3⟩
      rw [floop_s, hits j γ S hI]
      have : (xs.map φ)[j]? = some (φ xs[j]) := by rw [List.getElem?_map, List.getElem?_eq_getElem hj]; rfl
      simp only [this, e1, e2]
      exact e3
theorem forInv {α : Type} {tg : Tg} {i : ME .I} {b : ME .B} {its : Sto → Option (List D)} (xs : List α) (φ : α → D) (I : Nat → Gam → Sto → Prop) (hi : ev Γ G i γ S = .ok its S1) (hits : ∀ j γ S, I j γ S → its S = some (xs.map φ)) (h0 : I 0 γ S1)
    (step : ∀ (j : Nat) (hj : j < xs.length) γ S, I j γ S → ∃ γ1, tg.fg (.im (φ xs[j])) γ = some γ1 ∧ ∃ γ2 S2, ev Γ G b γ1 S = .ok (.nx γ2) S2 ∧ I (j + 1) γ2 S2) : ∃ γ2 S2, ev Γ G (.forr tg i b) γ S = .ok (.nx γ2) S2 ∧ I xs.length γ2 S2 := by
  obtain ⟨γ2, S2, e, h⟩ := floopInv (fb := ev Γ G b) xs φ I hits step xs.length 0 γ S1 (by omega) h0
  refine ⟨γ2, S2, ?_, h⟩
  show fFor (ev Γ G i) tg (ev Γ G b) γ S = _
  unfold fFor; rw [hi]
  show (match its S1 with
    | none => R.bad
    | some ds => DL.floop its tg (ev Γ G b) (ds.length + 1) 0 γ S1) = _
  rw [hits 0 γ S1 h0]
  simp only [List.length_map]
  exact e
theorem lcDraw {α : Type} {tg : Tg} {vs : List Nat} {i : ME .I} {c : ME .T} {e : ME .E} {its : Sto → Option (List D)} (xs : List α) (φ f : α → D) (I : Nat → Sto → Prop) (hi : ev Γ G i γ S = .ok its S1) (hits : ∀ S, its S = some (xs.map φ)) (hz : xs.length ≤ sizeLine) (h0 : I 0 S1)
    (step : ∀ (j : Nat) (hj : j < xs.length) S, I j S → ∃ γ1, tg.fg (.im (φ xs[j])) (wipeG γ vs) = some γ1 ∧ ∃ b S2, ev Γ G c γ1 S = .ok b S2 ∧ ev Γ G e γ1 S2 = .ok (.im (f xs[j])) S2 ∧ I (j + 1) S2) : ∃ (ys : List α) (S2 : Sto), ys.Sublist xs ∧ ev Γ G (.lc tg vs i (.cone c) e) γ S = .ok (.im (.lst (ys.map f))) S2 ∧ I xs.length S2 := by
  have run : ∀ (m j : Nat) S (acc : List D), j + m = xs.length → acc.length + m ≤ sizeLine → I j S → ∃ (ys : List α) (S2 : Sto), ys.Sublist (xs.drop j) ∧ cloop its tg (bIf (ev Γ G c) (bElt (ev Γ G e))) (m + 1) j (wipeG γ vs) acc S = .ok (acc ++ ys.map f) S2 ∧ I xs.length S2 := by
    intro m
    induction m with
    | zero =>
      intro j S acc hm _ hI
      refine ⟨[], S, List.nil_sublist _, ?_, by rw [← hm]; exact hI⟩
      unfold cloop; rw [hits]
      have : (xs.map φ)[j]? = none := by rw [List.getElem?_eq_none_iff, List.length_map]; omega
      simp only [this, List.map_nil, List.append_nil]
    | succ m ih =>
      intro j S acc hm hl hI
      have hj : j < xs.length := by omega
      obtain ⟨γ1, e1, b, S2, e2, e3, h2⟩ := step j hj S hI
      have eb : bIf (ev Γ G c) (bElt (ev Γ G e)) γ1 acc S = .ok (if b = true then acc ++ [f xs[j]] else acc) S2 := by
        unfold bIf; rw [e2]
        show (if b = true then bElt (ev Γ G e) γ1 acc S2 else R.ok acc S2) = _
        cases b with
        | false => rfl
        | true =>
          show bElt (ev Γ G e) γ1 acc S2 = R.ok (acc ++ [f xs[j]]) S2
          unfold bElt; rw [e3]
          show (if acc.length < sizeLine then R.ok (acc ++ [f xs[j]]) S2 else .bad) = _
          rw [if_pos (by omega)]
      have hl2 : (if b = true then acc ++ [f xs[j]] else acc).length + m ≤ sizeLine := by
        split
        · rw [List.length_append, List.length_singleton]; omega
        · omega
      obtain ⟨ys, S3, s3, e4, h4⟩ := ih (j + 1) S2 _ (by omega) hl2 h2
      refine ⟨if b = true then xs[j] :: ys else ys, S3, ?_, ?_, h4⟩
      · rw [List.drop_eq_getElem_cons hj]
        split
        · exact s3.cons₂ _
        · exact s3.cons _
      · unfold cloop; rw [hits]
        have : (xs.map φ)[j]? = some (φ xs[j]) := by rw [List.getElem?_map, List.getElem?_eq_getElem hj]; rfl
        simp only [this, e1]
        rw [eb]
        show cloop _ _ _ _ _ _ _ _ = _
        rw [e4]
        cases b with
        | false => rfl
        | true =>
          simp only [if_true, List.map_cons, List.append_assoc, List.singleton_append]
  obtain ⟨ys, S2, s2, er, h⟩ := run xs.length 0 S1 [] (by omega) (by simpa using hz) h0
  refine ⟨ys, S2, by simpa using s2, ?_, h⟩
  show fLc (ev Γ G i) tg vs (bIf (ev Γ G c) (bElt (ev Γ G e))) γ S = _
  unfold fLc; rw [hi]
  show (match its S1 with
    | none => R.bad
    | some ds => (cloop its tg (bIf (ev Γ G c) (bElt (ev Γ G e))) (ds.length + 1) 0 (wipeG γ vs) [] S1).bind fun acc S2 => R.ok (Vl.im (D.lst acc)) S2) = _
  rw [hits]
  simp only [List.length_map]
  rw [er]
  rfl
theorem rng1E {as : ME .A} {j : Int} (h : ev Γ G as γ S = .ok [.im (.int j)] S1) (h0 : 0 ≤ j) (hj : j < 1000) : ev Γ G (.rng1 as) γ S = .ok (fun _ => some (rangeD 0 j.toNat)) S1 := by
  show rngI1 (ev Γ G as) γ S = _
  unfold rngI1; rw [h]
  show (if -(2 ^ 62) ≤ j ∧ j < 2 ^ 62 then R.ok (fun _ => some (rangeD 0 j.toNat)) S1 else .bad) = _
  rw [if_pos ⟨by omega, by omega⟩]
theorem anyL {e : ME .E} {ds : List D} (h : ev Γ G e γ S = .ok (.im (.lst ds)) S1) : ∃ its, ev Γ G (.any e) γ S = .ok its S1 ∧ its S1 = some ds := by
  refine ⟨fun _ => some ds, ?_, rfl⟩
  show anyIP Γ.itT (ev Γ G e) γ S = _
  unfold anyIP lstI; rw [h]; rfl
theorem anyTu {e : ME .E} {ds : List D} (h : ev Γ G e γ S = .ok (.im (.tup ds)) S1) : ∃ its, ev Γ G (.any e) γ S = .ok its S1 ∧ its S1 = some ds := by
  refine ⟨fun _ => some ds, ?_, rfl⟩
  show anyIP Γ.itT (ev Γ G e) γ S = _
  unfold anyIP tupI; rw [h]; rfl
end
end DL
namespace DL
open PySem PySem.Spec L2
open PyProof.Rows hiding St
variable [Tbl]
theorem appS {Γ : GE} {G : GX} {γ : Gam} {S S1 : Sto} {i k : Nat} {as : ME .A} {ds : List D} {d : D} (h1 : γ[i]? = some (some (.cl k))) (h2 : S[k]? = some (some (.lst ds))) (ha : ev Γ G as γ S = .ok [.im d] S1) (h3 : S1[k]? = some (some (.lst ds))) (hl : ds.length < sizeLine) :
    ev Γ G (.expr (.mutL .app (.var i) as)) γ S = .ok (.nx γ) (S1.set k (some (.lst (ds ++ [d])))) := by
  show fExpr (fMut true appD (fVar i) (ev Γ G as)) γ S = _
  unfold fExpr fMut fVar
  rw [h1]
  show ((match S[k]? with
    | some (some (.lst _)) => (ev Γ G as γ S).bind fun xs S2 => mutAt true appD k xs S2
    | _ => R.bad).bind fun _ S1 => R.ok (Fl.nx γ) S1) = _
  rw [h2]
  show (((ev Γ G as γ S).bind fun xs S2 => mutAt true appD k xs S2).bind fun _ S1 => R.ok (Fl.nx γ) S1) = _
  rw [ha]
  show ((mutAt true appD k [.im d] S1).bind fun _ S1 => R.ok (Fl.nx γ) S1) = _
  unfold mutAt
  rw [h3]
  show ((match appD ds [d] with
    | some (d, es) => R.ok (Vl.im d) (S1.set k (some (.lst es)))
    | none => .bad).bind fun _ S1 => R.ok (Fl.nx γ) S1) = _
  have : appD ds [d] = some (.non, ds ++ [d]) := by
    show (if ds.length < sizeLine then some (D.non, ds ++ [d]) else none) = _
    rw [if_pos hl]
  rw [this]; rfl
theorem mem_strs {N : List Str} {d : D} (h : d ∈ N.map D.str) : ∃ x ∈ N, d = .str x := by
  obtain ⟨x, h1, h2⟩ := List.mem_map.mp h
  exact ⟨x, h1, h2.symm⟩
theorem cut_map {α β : Type} (f : α → β) (xs : List α) (lo hi : Option Int) : cutL (xs.map f) lo hi = (cutL xs lo hi).map f := by
  unfold cutL
  rw [List.length_map, List.map_take, List.map_drop]
theorem cut_le {α : Type} (xs : List α) (k : Int) (h : 0 ≤ k) : cutL xs none (some k) = xs.take k.toNat := by
  unfold cutL
  obtain ⟨j, rfl⟩ := Int.eq_ofNat_of_zero_le h
  rw [HT.sIx_none, HT.sIx_nat, Nat.sub_zero, List.drop_zero, Int.toNat_natCast]
  rw [Nat.min_def]
  split
  · rfl
  · rw [List.take_of_length_le (Nat.le_refl _), List.take_of_length_le (by omega)]
theorem slE {Γ : GE} {G : GX} {γ : Gam} {S S1 S2 : Sto} {a u : ME .E} {x : Vl} {d r : D} {k : Int} (h : ev Γ G a γ S = .ok x S1) (hu : ev Γ G u γ S1 = .ok (.im (.int k)) S2) (hx : x.view S2 = some d) (hr : slD d none (some k) = some r) : ev Γ G (.sl a .onone (.osome u)) γ S = .ok (.im r) S2 := by
  show fSl (ev Γ G a) fNoPart (fPart (ev Γ G u)) γ S = _
  unfold fSl fPart; rw [h]
  show (((ev Γ G u γ S1).bind fun x S1 => _).bind fun hi S3 => R.ofO ((x.view S3).bind fun d => slD d none hi) S3) = _
  rw [hu]
  show R.ofO ((x.view S2).bind fun d => slD d none (some k)) S2 = _
  rw [hx]
  show R.ofO (slD d none (some k)) S2 = _
  rw [hr]; rfl
section
variable {α β : Type}
theorem insL_map {f : α → β} {lt : β → β → Bool} {lt' : α → α → Bool} (h : ∀ a b, lt (f a) (f b) = lt' a b) (x : α) : ∀ l : List α, insL lt (f x) (l.map f) = (insL lt' x l).map f
  | [] => rfl
  | y :: l => by
    show (if lt (f y) (f x) then f y :: insL lt (f x) (l.map f) else f x :: f y :: l.map f) = (if lt' y x then y :: insL lt' x l else x :: y :: l).map f
    rw [h, insL_map h x l]
    split <;> rfl
theorem isort_map {f : α → β} {lt : β → β → Bool} {lt' : α → α → Bool} (h : ∀ a b, lt (f a) (f b) = lt' a b) : ∀ l : List α, isort lt (l.map f) = (isort lt' l).map f
  | [] => rfl
  | x :: l => by
    show insL lt (f x) (isort lt (l.map f)) = (insL lt' x (isort lt' l)).map f
    rw [isort_map h l, insL_map h]
theorem dedup_map [DecidableEq α] [DecidableEq β] {f : α → β} (h : ∀ a b, f a = f b → a = b) : ∀ l : List α, dedup (l.map f) = (dedup l).map f
  | [] => rfl
  | x :: l => by
    show (if f x ∈ dedup (l.map f) then dedup (l.map f) else f x :: dedup (l.map f)) = (if x ∈ dedup l then dedup l else x :: dedup l).map f
    rw [dedup_map h l]
    by_cases c : x ∈ dedup l
    · rw [if_pos c, if_pos (List.mem_map_of_mem c)]
    · rw [if_neg c, if_neg]
      · rfl
      · intro hm
        obtain ⟨y, h1, h2⟩ := List.mem_map.mp hm
        exact c (h _ _ h2 ▸ h1)
theorem allK_some {f : α → Option β} {φ : β → α} (h : ∀ b, f (φ b) = some b) : ∀ l : List β, allK f (l.map φ) = some l
  | [] => rfl
  | x :: l => by
    show (f (φ x)).bind (fun k => (allK f (l.map φ)).map (k :: ·)) = _
    rw [h, allK_some h l]; rfl
end
def sLt (x y : Str) : Bool := kLt (.inr x) (.inr y)
theorem sLt_lin : LinB sLt := ⟨fun x => kLt_lin.irr _, fun x y z => kLt_lin.tr _ _ _, fun x y h1 h2 => Sum.inr.inj (kLt_lin.tot _ _ h1 h2)⟩
def srt (P : List Str) : List Str := isort sLt P
theorem srt_perm {P Q : List Str} (h : P.Perm Q) : srt P = srt Q := rising_uniq sLt_lin (isort_rising sLt_lin _) (isort_rising sLt_lin _) (((isort_perm P).trans h).trans (isort_perm Q).symm)
theorem srt_p (P : List Str) : (srt P).Perm P := isort_perm P
theorem srt_srt (P : List Str) : srt (srt P) = srt P := srt_perm (srt_p P)
def sq (t : Bool) (ds : List D) : D := if t then .tup ds else .lst ds
theorem seqD_sq (t : Bool) (ds : List D) : seqD (sq t ds) = some ds := by cases t <;> rfl
theorem key_strs (P : List Str) : allK keyOfD (P.map D.str) = some (P.map Sum.inr) := by
  have : P.map D.str = (P.map Sum.inr).map kD := by rw [List.map_map]; rfl
  rw [this]
  exact allK_some (fun b => by cases b <;> rfl) _
theorem all_pairs {α : Type} {ok : α → α → Bool} {l : List α} (h : ∀ x ∈ l, ∀ y ∈ l, ok x y = true) : pairsOk ok l = true := List.all_eq_true.mpr fun x hx => List.all_eq_true.mpr fun y hy => h x hx y hy
theorem sort_strs (t : Bool) (P : List Str) (h : P.length ≤ sizeLine) : sortD (sq t (P.map D.str)) = some (.lst ((srt P).map D.str)) := by
  unfold sortD
  rw [seqD_sq]
  show (if (P.map D.str).length ≤ sizeLine then _ else none) = _
  rw [if_pos (by rw [List.length_map]; exact h), key_strs]
  show (if pairsOk sameT (P.map Sum.inr) = true then some (D.lst ((isort kLt (P.map Sum.inr)).map kD)) else none) = _
  rw [if_pos (all_pairs fun x hx y hy => by
    obtain ⟨a, _, rfl⟩ := List.mem_map.mp hx
    obtain ⟨b, _, rfl⟩ := List.mem_map.mp hy
    rfl), isort_map (f := Sum.inr) (lt := kLt) (lt' := sLt) (fun _ _ => rfl), List.map_map]
  rfl
theorem len_strs (t : Bool) (P : List Str) (h : P.length < 64) : lenSetD (sq t (P.map D.str)) = some (.int ((dedup P).length : Int)) := by
  unfold lenSetD
  rw [seqD_sq]
  show (if (P.map D.str).length < 64 then _ else none) = _
  rw [if_pos (by rw [List.length_map]; exact h), key_strs]
  show some (D.int ((dedup (P.map Sum.inr)).length : Int)) = _
  rw [dedup_map (fun a b e => Sum.inr.inj e), List.length_map]
theorem eqb_str (x y : Str) : D.eqb (.str x) (.str y) = decide (x = y) := by
  show (x == y) = _
  exact Bool.eq_iff_iff.mpr (by rw [beq_iff_eq, decide_eq_true_iff])
theorem eqbs_map {α : Type} [DecidableEq α] {f : α → D} (h : ∀ a b, D.eqb (f a) (f b) = decide (a = b)) : ∀ l m : List α, D.eqbs (l.map f) (m.map f) = decide (l = m)
  | [], [] => rfl
  | [], _ :: _ => rfl
  | _ :: _, [] => rfl
  | a :: l, b :: m => by
    show (D.eqb (f a) (f b) && D.eqbs (l.map f) (m.map f)) = _
    rw [h, eqbs_map h l m, ← Bool.decide_and]
    exact decide_eq_decide.mpr (by simp only [List.cons.injEq])
theorem plns_map {α : Type} {f : α → D} (h : ∀ a, (f a).pln = true) : ∀ l : List α, D.plns (l.map f) = true
  | [] => rfl
  | a :: l => by
    show ((f a).pln && D.plns (l.map f)) = true
    rw [h, plns_map h l]; rfl
theorem hgts_map {α : Type} {f : α → D} {k : Nat} (h : ∀ a, (f a).hgt ≤ k) : ∀ l : List α, D.hgts (l.map f) ≤ k
  | [] => Nat.zero_le _
  | a :: l => Nat.max_le.mpr ⟨h a, hgts_map h l⟩
theorem eq_lst {α : Type} [DecidableEq α] {f : α → D} (h : ∀ a b, D.eqb (f a) (f b) = decide (a = b)) (hp : ∀ a, (f a).pln = true) (hh : ∀ a, (f a).hgt ≤ 50) (l m : List α) : eqD (.lst (l.map f)) (.lst (m.map f)) = some (decide (l = m)) := by
  unfold eqD
  have e1 : ∀ l : List α, (D.lst (l.map f)).pln = true := plns_map hp
  have e2 : ∀ l : List α, (D.lst (l.map f)).hgt ≤ 60 := fun l => by
    have := hgts_map hh l
    show D.hgts (l.map f) + 1 ≤ 60
    omega
  rw [e1, e1, decide_eq_true (e2 l), decide_eq_true (e2 m), if_pos (show (true && true && true && true) = true from rfl)]
  exact congrArg some (eqbs_map h l m)
theorem eq_N (p q : List Str) : eqD (.lst (p.map D.str)) (.lst (q.map D.str)) = some (decide (p = q)) := eq_lst eqb_str (fun _ => rfl) (fun _ => Nat.zero_le _) p q
theorem eq_S (x y : Str) : eqD (.str x) (.str y) = some (decide (x = y)) := by
  show some (D.eqb (.str x) (.str y)) = _
  rw [eqb_str]
def has {α : Type} [DecidableEq α] (x : α) (l : List α) : Bool := decide (x ∈ l)
theorem has_t {α : Type} [DecidableEq α] {x : α} {l : List α} : has x l = true ↔ x ∈ l := by unfold has; exact decide_eq_true_iff
theorem any_mem {α : Type} [DecidableEq α] {f : α → D} (h : ∀ a b, D.eqb (f a) (f b) = decide (a = b)) (x : α) (l : List α) : (l.map f).any (fun z => D.eqb z (f x)) = has x l := by
  rw [Bool.eq_iff_iff, List.any_eq_true, has_t]
  constructor
  · rintro ⟨z, hz, e⟩
    obtain ⟨y, hy, rfl⟩ := List.mem_map.mp hz
    rw [h, decide_eq_true_iff] at e
    exact e ▸ hy
  · intro hx
    exact ⟨f x, List.mem_map_of_mem hx, by rw [h]; exact decide_eq_true rfl⟩
theorem in_sq {α : Type} [DecidableEq α] {f : α → D} (h : ∀ a b, D.eqb (f a) (f b) = decide (a = b)) (hp : ∀ a, (f a).pln = true) (hh : ∀ a, (f a).hgt ≤ 50) (t : Bool) (x : α) (l : List α) : inD (f x) (sq t (l.map f)) = some (has x l) := by
  have e1 : ((f x).pln && D.plns (l.map f) && decide ((f x).hgt ≤ 60) && decide (D.hgts (l.map f) ≤ 59)) = true := by
    rw [hp, plns_map hp, decide_eq_true (Nat.le_trans (hh x) (by omega)), decide_eq_true (Nat.le_trans (hgts_map hh l) (by omega))]; rfl
  cases t
  · show (if _ = true then some ((l.map f).any fun z => D.eqb z (f x)) else none) = _
    rw [if_pos e1, any_mem h]
  · show (if _ = true then some ((l.map f).any fun z => D.eqb z (f x)) else none) = _
    rw [if_pos e1, any_mem h]
theorem inA_N (t : Bool) (x : Str) (l : List Str) : inAD (.str x) (sq t (l.map D.str)) = some (.bl (has x l)) := by
  have := in_sq eqb_str (fun _ => rfl) (fun _ => Nat.zero_le _) t x l
  cases t
  · show Option.or (Option.or ((inD (.str x) (sq false (l.map D.str))).map D.bl) none) _ = _
    rw [this]; rfl
  · show Option.or (Option.or none ((inD (.str x) (sq true (l.map D.str))).map D.bl)) _ = _
    rw [this]; rfl
theorem ninA_N (t : Bool) (x : Str) (l : List Str) : ninAD (.str x) (sq t (l.map D.str)) = some (.bl (!has x l)) := by
  have := in_sq eqb_str (fun _ => rfl) (fun _ => Nat.zero_le _) t x l
  cases t
  · show Option.or (Option.or ((inD (.str x) (sq false (l.map D.str))).map fun c => D.bl (!c)) none) _ = _
    rw [this]; rfl
  · show Option.or (Option.or none ((inD (.str x) (sq true (l.map D.str))).map fun c => D.bl (!c))) _ = _
    rw [this]; rfl
section
variable {Γ : GE} {G : GX} {γ γ1 γ2 : Gam} {S S1 S2 : Sto}
theorem anySq {e : ME .E} {t : Bool} {ds : List D} (h : ev Γ G e γ S = .ok (.im (sq t ds)) S1) : ∃ its, ev Γ G (.any e) γ S = .ok its S1 ∧ its S1 = some ds := by
  cases t
  · exact anyL h
  · exact anyTu h
theorem allK_bl {α : Type} (p : α → Bool) : ∀ xs : List α, allK bOf (xs.map fun x => D.bl (p x)) = some (xs.map p)
  | [] => rfl
  | x :: xs => by
    show (some (p x)).bind (fun k => (allK bOf (xs.map fun x => D.bl (p x))).map (k :: ·)) = _
    rw [allK_bl p xs]; rfl
theorem all_bl {α : Type} (p : α → Bool) (xs : List α) : evB Γ .all [.im (.lst (xs.map fun x => D.bl (p x)))] γ S = .ok (.im (.bl (xs.all p))) S := by
  show R.ofO ((allK bOf (xs.map fun x => D.bl (p x))).map fun bs => D.bl (bs.all id)) S = _
  rw [allK_bl]
  show R.ok (Vl.im (D.bl ((xs.map p).all id))) S = _
  rw [List.all_map]; rfl
theorem any_bl {α : Type} (p : α → Bool) (xs : List α) : evB Γ .any [.im (.lst (xs.map fun x => D.bl (p x)))] γ S = .ok (.im (.bl (xs.any p))) S := by
  show R.ofO ((allK bOf (xs.map fun x => D.bl (p x))).map fun bs => D.bl (bs.any id)) S = _
  rw [allK_bl]
  show R.ok (Vl.im (D.bl ((xs.map p).any id))) S = _
  rw [List.any_map]; rfl
theorem len_sq (t : Bool) (ds : List D) : evB Γ .len [.im (sq t ds)] γ S = .ok (.im (.int ds.length)) S := by cases t <;> rfl
theorem sort_sq {t : Bool} {ds : List D} {r : D} (h : sortD (sq t ds) = some r) : evB Γ .sort [.im (sq t ds)] γ S = .ok (.im r) S := by
  show R.ofO (sortD (sq t ds)) S = _
  rw [h]; rfl
theorem starA {e : ME .E} {r : ME .A} {t : Bool} {ds : List D} {xs : List Vl} (h : ev Γ G e γ S = .ok (.im (sq t ds)) S1) (k : ev Γ G r γ S1 = .ok xs S2) : ev Γ G (.astar e r) γ S = .ok (ds.map Vl.im ++ xs) S2 := by
  show fStar (ev Γ G e) (ev Γ G r) γ S = _
  unfold fStar; rw [h]
  show (match seqD (sq t ds) with
    | some ds => (ev Γ G r γ S1).bind fun xs S2 => R.ok (ds.map Vl.im ++ xs) S2
    | none => R.bad) = _
  rw [seqD_sq]
  show ((ev Γ G r γ S1).bind fun xs S2 => R.ok (ds.map Vl.im ++ xs) S2) = _
  rw [k]; rfl
theorem in_sqN (t : Bool) (x : Str) (l : List Str) : evCmp Γ .In (.im (.str x)) (.im (sq t (l.map D.str))) γ S = .ok (.im (.bl (has x l))) S := by
  have : evCmp Γ .In (.im (.str x)) (.im (sq t (l.map D.str))) γ S = R.ofO (inAD (.str x) (sq t (l.map D.str))) S := by cases t <;> rfl
  rw [this, inA_N]; rfl
theorem nin_sqN (t : Bool) (x : Str) (l : List Str) : evCmp Γ .NotIn (.im (.str x)) (.im (sq t (l.map D.str))) γ S = .ok (.im (.bl (!has x l))) S := by
  have : evCmp Γ .NotIn (.im (.str x)) (.im (sq t (l.map D.str))) γ S = R.ofO (ninAD (.str x) (sq t (l.map D.str))) S := by cases t <;> rfl
  rw [this, ninA_N]; rfl
theorem eq_int (a b : Int) : evCmp Γ .Eq (.im (.int a)) (.im (.int b)) γ S = .ok (.im (.bl (a == b))) S := rfl
theorem eq_NN (p q : List Str) : evCmp Γ .Eq (.im (.lst (p.map D.str))) (.im (.lst (q.map D.str))) γ S = .ok (.im (.bl (decide (p = q)))) S := by
  show R.ofO ((eqD (.lst (p.map D.str)) (.lst (q.map D.str))).map D.bl) S = _
  rw [eq_N]; rfl
theorem eq_SS (x y : Str) : evCmp Γ .Eq (.im (.str x)) (.im (.str y)) γ S = .ok (.im (.bl (decide (x = y)))) S := by
  show R.ofO ((eqD (.str x) (.str y)).map D.bl) S = _
  rw [eq_S]; rfl
theorem ne_NN (p q : List Str) : evCmp Γ .NotEq (.im (.lst (p.map D.str))) (.im (.lst (q.map D.str))) γ S = .ok (.im (.bl (!decide (p = q)))) S := by
  show R.ofO ((eqD (.lst (p.map D.str)) (.lst (q.map D.str))).map fun c => D.bl (!c)) S = _
  rw [eq_N]; rfl
theorem fldSE {i : Nat} {f : Str} {cs : List Str} {o v : ME .E} {d : D} {k : Nat} {c : Str} {fs : List (Str × D)} (hg : G.flds[i]? = some (f, cs)) (hv : ev Γ G v γ S = .ok (.im d) S1) (ho : ev Γ G o γ S1 = .ok (.cl k) S2) (hs : (S2[k]?).join = some (.ins c fs)) (hc : inB cs c = true) (hl : fs.length < 1000) :
    ev Γ G (.fldS i o v) γ S = .ok (.nx γ) (S2.set k (some (.ins c (putD f d fs)))) := by
  show (match G.flds[i]? with
    | some p => fFldS p.1 (inB p.2) (ev Γ G o) (ev Γ G v)
    | none => fNever) γ S = _
  rw [hg]
  show fFldS f (inB cs) (ev Γ G o) (ev Γ G v) γ S = _
  unfold fFldS; rw [hv]
  show ((ev Γ G o γ S1).bind fun x S2 => match (Vl.im d), x with
    | .im d, .cl i => (match (S2[i]?).join.bind (fldPut f (inB cs) d) with
      | some c => R.ok (Fl.nx γ) (S2.set i (some c))
      | none => .bad)
    | _, _ => .bad) = _
  rw [ho]
  show (match (S2[k]?).join.bind (fldPut f (inB cs) d) with
      | some c => R.ok (Fl.nx γ) (S2.set k (some c))
      | none => .bad) = _
  rw [hs]
  show (match (if inB cs c = true ∧ fs.length < 1000 then some (Cell.ins c (putD f d fs)) else none) with
      | some c => R.ok (Fl.nx γ) (S2.set k (some c))
      | none => .bad) = _
  rw [if_pos ⟨hc, hl⟩]
theorem makeE {i : Nat} {c : Str} {r : FnR} {as : ME .A} {ds : List D} {fs : List (Str × D)} {rest : Sto} (hm : Γ.mks[i]? = some (c, r)) (ha : ev Γ G as γ S = .ok (ds.map Vl.im) S1) (hn : (ds ++ r.dd).length + 1 = r.n) (h : r.sem (.cl 0 :: (ds ++ r.dd).map Vl.im) [some (.ins c [])] = .ok (.im .non) (some (.ins c fs) :: rest)) :
    ev Γ G (.make i true as) γ S = .ok (.im (.ins c fs)) S1 := by
  show (match Γ.mks[i]? with
    | some p => fMake p.1 (arity p.2.n p.2.sem) p.2.dd (ev Γ G as) true
    | none => fBad) γ S = _
  rw [hm]
  show fMake c (arity r.n r.sem) r.dd (ev Γ G as) true γ S = _
  unfold fMake; rw [ha]
  have e := call_cl (f := r.sem) (n := r.n) (i := S1.length) (ds := ds ++ r.dd) (c := .ins c []) (c' := .ins c fs) hn (γ := γ) (S := S1 ++ [some (.ins c [])]) (by rw [List.getElem?_append_right (Nat.le_refl _), Nat.sub_self]; rfl) h
  rw [List.map_append] at e
  show (match callSem (arity r.n r.sem) (.cl S1.length :: (ds.map Vl.im ++ r.dd.map Vl.im)) γ (S1 ++ [some (.ins c [])]) with
  | .ok (.im .non) S2 => if true = true then (match S2[S1.length]? with
      | some (some (.ins c fs)) => R.ok (Vl.im (.ins c fs)) (S2.take S1.length)
      | _ => .bad) else .ok (.cl S1.length) S2
  | .exc e fs γ' S2 => .exc e fs γ' (S2.take S1.length)
  | _ => .bad) = _
  rw [e]
  have e2 : (S1 ++ [some (Cell.ins c [])]).set S1.length (some (.ins c fs)) = S1 ++ [some (.ins c fs)] := by
    rw [List.set_append_right _ _ (Nat.le_refl _), Nat.sub_self]; rfl
  rw [e2]
  have e3 : (S1 ++ [some (Cell.ins c fs)])[S1.length]? = some (some (.ins c fs)) := by
    rw [List.getElem?_append_right (Nat.le_refl _), Nat.sub_self]; rfl
  simp only [e3, if_true, List.take_left' rfl]
theorem methE {i : Nat} {m c : Str} {T : RTab} {r : FnR} {o : ME .E} {as : ME .A} {d : D} {xs : List Vl} {z : R Vl} (hm : Γ.mts[i]? = some (m, T)) (ho : ev Γ G o γ S = .ok (.im d) S1) (hc : D.clsNo m d = some c) (hT : T.lookup c = some r) (ha : ev Γ G as γ S1 = .ok xs S2) (hr : callSem (arity r.n r.sem) ((.im d :: xs) ++ r.dd.map Vl.im) γ S2 = z) :
    ev Γ G (.meth i o as) γ S = z := by
  show (match Γ.mts[i]? with
    | some p => fMethP p.1 p.2 (ev Γ G o) (ev Γ G as)
    | none => fBad) γ S = _
  rw [hm]
  show fMethP m T (ev Γ G o) (ev Γ G as) γ S = _
  unfold fMethP; rw [ho]
  show (match D.clsNo m d with
    | none => R.bad
    | some c => match T.lookup c with
      | none => .bad
      | some r => (ev Γ G as γ S1).bind fun xs S2 => r.go (.im d :: xs) γ S2) = _
  rw [hc]
  show (match T.lookup c with
      | none => R.bad
      | some r => (ev Γ G as γ S1).bind fun xs S2 => r.go (.im d :: xs) γ S2) = _
  rw [hT]
  show ((ev Γ G as γ S1).bind fun xs S2 => r.go (.im d :: xs) γ S2) = _
  rw [ha]; exact hr
theorem fldE {i : Nat} {f : Str} {cs : List Str} {e : ME .E} {d r : D} (hg : G.flds[i]? = some (f, cs)) (h : ev Γ G e γ S = .ok (.im d) S1) (hr : D.fldIn f (inB cs) d = some r) : ev Γ G (.fld i e) γ S = .ok (.im r) S1 := by
  show (match G.flds[i]? with
    | some p => fUn (D.fldIn p.1 (inB p.2)) (ev Γ G e)
    | none => fBad) γ S = _
  rw [hg]
  exact unE h rfl hr
end
theorem has_f {α : Type} [DecidableEq α] {x : α} {l : List α} (h : x ∉ l) : has x l = false := by
  cases q : has x l with
  | false => rfl
  | true => exact absurd (has_t.mp q) h
theorem postN_k (k : Int) (h0 : 0 ≤ k) (h : k < 2 ^ 63) : postN (.im (.int k)) = some (.im (.int k)) := if_pos ⟨h0, h⟩
theorem postR_N {k : Int} (S : Sto) (h0 : 0 ≤ k) (h : k < 2 ^ 63) : postR postN (.ok (.im (.int k)) S) = .ok (.im (.int k)) S := by
  show (match postN (.im (.int k)) with
    | some y => R.ok y S
    | none => R.bad) = _
  rw [postN_k k h0 h]
theorem lt63 {n : Nat} (h : n < 64) : (n : Int) < 2 ^ 63 := by omega
section
variable {γ : Gam} {S S1 S2 : Sto}
theorem parS {Γ : GE} {G : GX} {i j : Nat} {as : ME .A} {x y : Vl} (h : ev Γ G as γ S = .ok [x, y] S1) (hi : i < γ.length) (hj : j < γ.length) : ev Γ G (.par [i, j] as) γ S = .ok (.nx ((γ.set i (some x)).set j (some y))) S1 := by
  show fPar [i, j] (ev Γ G as) γ S = _
  unfold fPar; rw [h]
  show (if i < γ.length ∧ j < γ.length then R.ok (Fl.nx ((γ.set i (some x)).set j (some y))) S1 else .bad) = _
  rw [if_pos ⟨hi, hj⟩]
theorem asgT {Γ : GE} {G : GX} {tg : Tg} {e : ME .E} {x : Vl} {γ1 : Gam} (h : ev Γ G e γ S = .ok x S1) (ht : tg.fg x γ = some γ1) : ev Γ G (.asg tg e) γ S = .ok (.nx γ1) S1 := by
  show fAsg (ev Γ G e) tg.fg γ S = _
  unfold fAsg; rw [h]
  show (match tg.fg x γ with
    | some γ' => R.ok (Fl.nx γ') S1
    | none => R.bad) = _
  rw [ht]
theorem iteE {Γ : GE} {G : GX} {c : ME .T} {a b : ME .E} {p : Bool} {x y : Vl} (h : ev Γ G c γ S = .ok p S1) (k1 : ev Γ G a γ S1 = .ok x S2) (k2 : ev Γ G b γ S1 = .ok y S2) : ev Γ G (.ite c a b) γ S = .ok (if p then x else y) S2 := by
  show fIf (ev Γ G c) (ev Γ G a) (ev Γ G b) γ S = _
  unfold fIf; rw [h]
  cases p with
  | true => exact k1
  | false => exact k2
end
section
variable {Γ : GE} {G : GX} {γ γ1 γ2 : Gam} {S S1 S2 : Sto}
theorem enumE {e : ME .E} {t : Bool} {ds : List D} (h : ev Γ G e γ S = .ok (.im (sq t ds)) S1) : ∃ its, ev Γ G (.enum (.acons e .anil)) γ S = .ok its S1 ∧ ∀ S, its S = some (enumD ds) := by
  refine ⟨fun _ => some (enumD ds), ?_, fun _ => rfl⟩
  show enumI (ev Γ G (.acons e .anil)) γ S = _
  unfold enumI
  rw [oneA h]
  cases t <;> rfl
theorem errX {i : Nat} {x : Str} {er : ErR} {e : ME .E} {c : Str} {fs : List (Str × D)} {ds : List D} (hi : Γ.errs[i]? = some (x, er)) (h : ev Γ G e γ S = .exc c fs γ1 S1) (hc : c ∈ er.known) (hd : errD er.ens c fs = some ds) : ev Γ G (.lerr i e) γ S = .ok (.im (.lst ds)) S1 := by
  show (match Γ.errs[i]? with
    | some p => fErr p.2.ens p.2.known (ev Γ G e)
    | none => fBad) γ S = _
  rw [hi]
  show fErr er.ens er.known (ev Γ G e) γ S = _
  unfold fErr
  rw [h]
  show (if c ∈ er.known then R.ofO ((errD er.ens c fs).map .lst) S1 else .bad) = _
  rw [if_pos hc, hd]; rfl
theorem errN {i : Nat} {x : Str} {er : ErR} {e : ME .E} {y : Vl} (hi : Γ.errs[i]? = some (x, er)) (h : ev Γ G e γ S = .ok y S1) : ev Γ G (.lerr i e) γ S = .ok (.im (.lst [])) S1 := by
  show (match Γ.errs[i]? with
    | some p => fErr p.2.ens p.2.known (ev Γ G e)
    | none => fBad) γ S = _
  rw [hi]
  show fErr er.ens er.known (ev Γ G e) γ S = _
  unfold fErr
  rw [h]
theorem ims_of : ∀ ds : List D, imsOf (ds.map Vl.im) = some ds
  | [] => rfl
  | d :: ds => by
    show (imsOf (ds.map Vl.im)).map (d :: ·) = _
    rw [ims_of ds]; rfl
theorem methSE {i : Nat} {m c : Str} {T : STab} {f : FnS} {o : ME .E} {as : ME .A} {d : D} {ds : List D} {z : R Vl} (hm : Γ.smts[i]? = some (m, T)) (ho : ev Γ G o γ S = .ok (Vl.im d) S1) (hc : D.clsNo m d = some c) (hT : T.lookup c = some ⟨1, f⟩) (ha : ev Γ G as γ S1 = .ok (ds.map Vl.im) S2) (hz : ds.length ≤ sizeLine) (hr : callSem (arity 2 f) [Vl.im d, .im (.tup ds)] γ S2 = z) :
    ev Γ G (.methS i o as) γ S = z := by
  show (match Γ.smts[i]? with
    | some p => fMethS p.1 p.2 (ev Γ G o) (ev Γ G as)
    | none => fBad) γ S = _
  rw [hm]
  show fMethS m T (ev Γ G o) (ev Γ G as) γ S = _
  unfold fMethS; rw [ho]
  show (match D.clsNo m d with
    | none => R.bad
    | some c => match T.lookup c with
      | none => .bad
      | some r => (ev Γ G as γ S1).bind fun xs S2 => r.go (Vl.im d :: xs) γ S2) = _
  rw [hc]
  show (match T.lookup c with
      | none => R.bad
      | some r => (ev Γ G as γ S1).bind fun xs S2 => r.go (Vl.im d :: xs) γ S2) = _
  rw [hT]
  show ((ev Γ G as γ S1).bind fun xs S2 => StR.go ⟨1, f⟩ (Vl.im d :: xs) γ S2) = _
  rw [ha]
  show StR.go ⟨1, f⟩ (Vl.im d :: ds.map Vl.im) γ S2 = _
  unfold StR.go
  rw [if_pos (show 1 ≤ (Vl.im d :: ds.map Vl.im).length by simp)]
  show (match imsOf (ds.map Vl.im) with
    | some ds => if ds.length ≤ sizeLine then callSem (arity 2 f) ([Vl.im d] ++ [Vl.im (.tup ds)]) γ S2 else .bad
    | none => .bad) = _
  rw [ims_of]
  show (if ds.length ≤ sizeLine then callSem (arity 2 f) ([Vl.im d] ++ [Vl.im (.tup ds)]) γ S2 else .bad) = _
  rw [if_pos hz]
  exact hr
theorem postR_some (r : R Vl) : postR some r = r := by cases r <;> rfl
theorem subXO {a b : ME .E} {d : D} {y : Vl} {c : Str} {r : FnR} {z : R Vl} (h : ev Γ G a γ S = .ok (Vl.im d) S1) (hc : ∀ S, clsV (Vl.im d) S = some c) (k : ev Γ G b γ S1 = .ok y S2) (hT : Γ.ixT.lookup c = some r) (hr : callSem (arity r.n r.sem) ([Vl.im d, y] ++ r.dd.map Vl.im) γ S2 = z) : ev Γ G (.subX a b) γ S = z := by
  show fSubX Γ.ixT (ev Γ G a) (ev Γ G b) γ S = _
  unfold fSubX
  rw [h]
  show (match clsV (Vl.im d) S1 with
    | some _ => fOpX (fOwnIxP Γ.ixT) (ev Γ G a) (ev Γ G b) γ S
    | none => fSub ixD (ev Γ G a) (ev Γ G b) γ S) = _
  rw [hc S1]
  show fOpX (fOwnIxP Γ.ixT) (ev Γ G a) (ev Γ G b) γ S = _
  unfold fOpX; rw [h]
  show ((ev Γ G b γ S1).bind fun y S2 => fOwnIxP Γ.ixT (Vl.im d) y γ S2) = _
  rw [k]
  show fOwnIxP Γ.ixT (Vl.im d) y γ S2 = _
  unfold fOwnIxP fOwnP
  rw [hc S2]
  show (match Γ.ixT.lookup c with
    | some r => if (fun _ => true) c = true then postR some (r.go ((Vl.im d) :: [y]) γ S2) else .bad
    | none => .bad) = _
  rw [hT]
  show postR some (FnR.go r [Vl.im d, y] γ S2) = _
  rw [postR_some]; exact hr
theorem extS {i k : Nat} {as : ME .A} {ds es : List D} (h1 : γ[i]? = some (some (.cl k))) (h2 : S[k]? = some (some (.lst ds))) (ha : ev Γ G as γ S = .ok [.im (.lst es)] S1) (h3 : S1[k]? = some (some (.lst ds))) (hl : ds.length + es.length ≤ sizeLine) :
    ev Γ G (.expr (.mutL .ext (.var i) as)) γ S = .ok (.nx γ) (S1.set k (some (.lst (ds ++ es)))) := by
  show fExpr (fMut false extD (fVar i) (ev Γ G as)) γ S = _
  unfold fExpr fMut fVar
  rw [h1]
  show ((match S[k]? with
    | some (some (.lst _)) => (ev Γ G as γ S).bind fun xs S2 => mutAt false extD k xs S2
    | _ => R.bad).bind fun _ S1 => R.ok (Fl.nx γ) S1) = _
  rw [h2]
  show (((ev Γ G as γ S).bind fun xs S2 => mutAt false extD k xs S2).bind fun _ S1 => R.ok (Fl.nx γ) S1) = _
  rw [ha]
  show ((mutAt false extD k [.im (.lst es)] S1).bind fun _ S1 => R.ok (Fl.nx γ) S1) = _
  unfold mutAt
  rw [h3]
  show ((match extD ds [.lst es] with
    | some (d, es) => R.ok (Vl.im d) (S1.set k (some (.lst es)))
    | none => .bad).bind fun _ S1 => R.ok (Fl.nx γ) S1) = _
  have : extD ds [.lst es] = some (.non, ds ++ es) := by
    show (if ds.length + es.length ≤ sizeLine then some (D.non, ds ++ es) else none) = _
    rw [if_pos hl]
  rw [this]; rfl
theorem sumF_map {α : Type} (f : α → List D) : ∀ (xs : List α) (acc : List D), acc.length + (xs.flatMap f).length ≤ sizeLine → sumF (xs.map fun x => D.lst (f x)) acc = some (acc ++ xs.flatMap f)
  | [], acc, _ => by
    show some acc = _
    rw [List.flatMap_nil, List.append_nil]
  | x :: xs, acc, h => by
    rw [List.flatMap_cons, List.length_append] at h
    show (if acc.length + (f x).length ≤ sizeLine then sumF (xs.map fun x => D.lst (f x)) (acc ++ f x) else none) = _
    rw [if_pos (by omega), sumF_map f xs (acc ++ f x) (by rw [List.length_append]; omega), List.flatMap_cons, List.append_assoc]
theorem sumE {α : Type} {e : ME .E} (f : α → List D) (xs : List α) (h : ev Γ G e γ S = .ok (.im (.lst (xs.map fun x => D.lst (f x)))) S1) (hz : (xs.flatMap f).length ≤ sizeLine) : ev Γ G (.sumL e) γ S = .ok (.im (.lst (xs.flatMap f))) S1 := by
  refine unE h rfl ?_
  show (sumF (xs.map fun x => D.lst (f x)) []).map D.lst = _
  rw [sumF_map f xs [] (by simpa using hz)]; rfl
theorem ifP {c : ME .T} {b b2 : ME .B} {p : Bool} {r : R Fl} (h : ev Γ G c γ S = .ok p S1) (k : p = true → ev Γ G b γ S1 = r) (k2 : p = false → ev Γ G b2 γ S1 = r) : ev Γ G (.iff c b b2) γ S = r := by
  show fIfS (ev Γ G c) (ev Γ G b) (ev Γ G b2) γ S = _
  unfold fIfS; rw [h]
  cases p with
  | true => exact k rfl
  | false => exact k2 rfl
theorem skipB : ev Γ G .bnil γ S = .ok (.nx γ) S := rfl
theorem sort_strsS (t : Bool) (P : List Str) (h : P.length < 64) : sortSetD (sq t (P.map D.str)) = some (.lst ((srt (dedup P)).map D.str)) := by
  unfold sortSetD
  rw [seqD_sq]
  show (if (P.map D.str).length < 64 then _ else none) = _
  rw [if_pos (by rw [List.length_map]; exact h), key_strs]
  show (if pairsOk sameT (P.map Sum.inr) = true then some (D.lst ((isort kLt (dedup (P.map Sum.inr))).map kD)) else none) = _
  rw [if_pos (all_pairs fun x hx y hy => by
    obtain ⟨a, _, rfl⟩ := List.mem_map.mp hx
    obtain ⟨b, _, rfl⟩ := List.mem_map.mp hy
    rfl), dedup_map (f := Sum.inr) (fun a b e => Sum.inr.inj e), isort_map (f := Sum.inr) (lt := kLt) (lt' := sLt) (fun _ _ => rfl), List.map_map]
  rfl
/-- .. of tuples of texts -/
theorem sort_tups {α : Type} {φ : α → D} {K : α → List Key} {lt : α → α → Bool} (h1 : ∀ a, φ a = tD (K a)) (h0 : ∀ a, K a ≠ [] ∧ ∀ k ∈ K a, ∃ s, k = Sum.inr s) (h2 : ∀ a b, tLt (K a) (K b) = lt a b) (t : Bool) (l : List α) (h : l.length ≤ sizeLine) : sortD (sq t (l.map φ)) = some (.lst ((isort lt l).map φ)) := by
  have hok : ∀ ks qs : List Key, (∀ k ∈ ks, ∃ s, k = Sum.inr s) → (∀ k ∈ qs, ∃ s, k = Sum.inr s) → lexOk ks qs = true := by
    intro ks
    induction ks with
    | nil => intro qs _ _; rfl
    | cons a as ih =>
      intro qs ha hb
      cases qs with
      | nil => rfl
      | cons b bs =>
        unfold lexOk
        split
        · exact ih bs (fun k hk => ha k (List.mem_cons_of_mem _ hk)) fun k hk => hb k (List.mem_cons_of_mem _ hk)
        · obtain ⟨x, rfl⟩ := ha a List.mem_cons_self
          obtain ⟨y, rfl⟩ := hb b List.mem_cons_self
          rfl
  have e0 : l.map φ = (l.map K).map tD := by rw [List.map_map]; exact List.map_congr_left fun a _ => h1 a
  unfold sortD
  rw [seqD_sq]
  show (if (l.map φ).length ≤ sizeLine then _ else none) = _
  rw [if_pos (by rw [List.length_map]; exact h)]
  cases l with
  | nil => rfl
  | cons x l =>
    have k1 : allK keyOfD ((x :: l).map φ) = none := by
      rw [e0]
      rfl
    have k2 : allK keysOfD ((x :: l).map φ) = some ((x :: l).map K) := by
      rw [e0]
      have one : ∀ ks : List Key, keysOfD (tD ks) = some ks := fun ks => by
        show allK keyOfD (ks.map kD) = some ks
        exact allK_some (fun b => by cases b <;> rfl) ks
      exact allK_some one _
    rw [k1, k2]
    show (if pairsOk tOk ((x :: l).map K) = true then some (D.lst ((isort tLt ((x :: l).map K)).map tD)) else none) = _
    rw [if_pos (all_pairs fun p hp q hq => by
      obtain ⟨a, _, rfl⟩ := List.mem_map.mp hp
      obtain ⟨b, _, rfl⟩ := List.mem_map.mp hq
      unfold tOk
      rw [hok _ _ (h0 a).2 (h0 b).2, Bool.true_and]
      cases ea : K a with
      | nil => exact absurd ea (h0 a).1
      | cons k ks =>
        cases eb : K b with
        | nil => exact absurd eb (h0 b).1
        | cons k' ks' =>
          obtain ⟨x, rfl⟩ := (h0 a).2 k (by rw [ea]; exact List.mem_cons_self)
          obtain ⟨y, rfl⟩ := (h0 b).2 k' (by rw [eb]; exact List.mem_cons_self)
          rfl), isort_map (f := K) (lt := tLt) (lt' := lt) h2, List.map_map]
    congr 2
    exact List.map_congr_left fun a _ => (h1 a).symm
end
end DL
namespace K02
open PySem PySem.Spec L2 DL
open PyProof.Rows hiding St
abbrev prog : Program := PySem.Challenge.pw_handedkeys_k02_whole_policies
def top (i : Nat) : Stmt := prog.main.body.getD i (.Pass ⟨0, 0, 0, 0⟩)
def mem (i j : Nat) : Stmt := (DL.clsBody (top i)).getD j (.Pass ⟨0, 0, 0, 0⟩)
def er_law_error : ErR := ⟨[⟨"BadPolicy", "", some "number", true⟩], ["BadPolicy"]⟩
def G0 : GE := { cls := ["Policy"], is := isT ["Policy"], cons := [("SMALL", (.str "abcdefghijklmnopqrstuvwxyz")), ("MOST_LETTERS", (.int 8)), ("MOST_RULES", (.int 12)), ("MOST_PAIRS", (.int 9))], blt := ["isinstance", "bool", "int", "all", "len", "str", "set", "tuple", "list", "sorted", "enumerate", "iter", "range", "sum"], exs := [("RightError", []), ("BadPolicy", ["number"])], errs := [("_law_error", er_law_error)], mkrs := ["law.<locals>."] }
def X0 : GX := ⟨[("rules", ["Policy"])]⟩
abbrev st_is_whole : Stmt := top 6
def n_is_whole : List Str := ["thing"]
def m_is_whole : ME .B := (.bcons (.ret (.ofT (.and (.val (.isi (.var 0) (.bt "int"))) (.not (.val (.isi (.var 0) (.bt "bool"))))))) .bnil)
def s_is_whole : FnS := semOf n_is_whole.length (ev G0 X0 m_is_whole)
theorem c_is_whole : chk G0 X0 m_is_whole ⟨n_is_whole, defScope st_is_whole, fun _ => true, ("is_whole" : Str) ++ ".<locals>."⟩ (defBody st_is_whole) = true := by kernel_rfl
def r_is_whole_1 : FnR := ⟨1, s_is_whole, []⟩
def G1 : GE := { G0 with fns := G0.fns ++ ([("is_whole", r_is_whole_1)] : RTab) }
abbrev st_is_word : Stmt := top 7
def n_is_word : List Str := ["thing", "sign"]
def m_is_word : ME .B := (.bcons (.ret (.ofT (.and (.val (.isi (.var 0) (.bt "str"))) (.and (.val (.chn .LtE .LtE (.con (.int 1)) (.callB .len (.acons (.var 0) .anil)) (.glob 1))) (.val (.callB .all (.acons (.lc (.name 1) [1] (.any (.var 0)) .cnil (.cmp .In (.var 1) (.glob 0))) .anil))))))) .bnil)
def s_is_word : FnS := semOf n_is_word.length (ev G1 X0 m_is_word)
theorem c_is_word : chk G1 X0 m_is_word ⟨n_is_word, defScope st_is_word, fun _ => true, ("is_word" : Str) ++ ".<locals>."⟩ (defBody st_is_word) = true := by kernel_rfl
def r_is_word_1 : FnR := ⟨1, s_is_word, []⟩
def G2 : GE := { G1 with fns := G1.fns ++ ([("is_word", r_is_word_1)] : RTab) }
abbrev st_is_number : Stmt := top 11
def n_is_number : List Str := ["thing", "many"]
def m_is_number : ME .B := (.bcons (.ret (.ofT (.and (.val (.callF 0 (.acons (.var 0) .anil))) (.val (.chn .LtE .Lt (.con (.int 0)) (.var 0) (.var 1)))))) .bnil)
def s_is_number : FnS := semOf n_is_number.length (ev G2 X0 m_is_number)
theorem c_is_number : chk G2 X0 m_is_number ⟨n_is_number, defScope st_is_number, fun _ => true, ("is_number" : Str) ++ ".<locals>."⟩ (defBody st_is_number) = true := by kernel_rfl
def r_is_number_2 : FnR := ⟨2, s_is_number, []⟩
def G3 : GE := { G2 with fns := G2.fns ++ ([("is_number", r_is_number_2)] : RTab) }
abbrev st_are_pairs : Stmt := top 12
def n_are_pairs : List Str := ["thing", "pair", "word"]
def m_are_pairs : ME .B := (.bcons (.iff (.or (.not (.val (.isiT (.var 0) [(.bt "list"), (.bt "tuple")]))) (.not (.val (.chn .LtE .LtE (.con (.int 1)) (.callB .len (.acons (.var 0) .anil)) (.glob 3))))) (.bcons (.ret (.con (.bl false))) .bnil) .bnil) (.bcons (.forr (.name 1) (.any (.var 0)) (.bcons (.iff (.or (.not (.val (.isi (.var 1) (.bt "tuple")))) (.or (.val (.cmp .NotEq (.callB .len (.acons (.var 1) .anil)) (.con (.int 2)))) (.not (.val (.callB .all (.acons (.lc (.name 2) [2] (.any (.var 1)) .cnil (.callF 1 (.acons (.var 2) .anil))) .anil)))))) (.bcons (.ret (.con (.bl false))) .bnil) .bnil) .bnil)) (.bcons (.ret (.cmp .Eq (.lenS (.var 0)) (.callB .len (.acons (.var 0) .anil)))) .bnil)))
def s_are_pairs : FnS := semOf n_are_pairs.length (ev G3 X0 m_are_pairs)
theorem c_are_pairs : chk G3 X0 m_are_pairs ⟨n_are_pairs, defScope st_are_pairs, fun _ => true, ("are_pairs" : Str) ++ ".<locals>."⟩ (defBody st_are_pairs) = true := by kernel_rfl
def r_are_pairs_1 : FnR := ⟨1, s_are_pairs, []⟩
def G4 : GE := { G3 with fns := G3.fns ++ ([("are_pairs", r_are_pairs_1)] : RTab) }
abbrev st_are_words : Stmt := top 13
def n_are_words : List Str := ["thing", "word"]
def m_are_words : ME .B := (.bcons (.iff (.or (.not (.val (.isiT (.var 0) [(.bt "list"), (.bt "tuple")]))) (.not (.val (.chn .LtE .LtE (.con (.int 1)) (.callB .len (.acons (.var 0) .anil)) (.glob 3))))) (.bcons (.ret (.con (.bl false))) .bnil) .bnil) (.bcons (.ret (.ofT (.and (.val (.callB .all (.acons (.lc (.name 1) [1] (.any (.var 0)) .cnil (.callF 1 (.acons (.var 1) .anil))) .anil))) (.val (.cmp .Eq (.lenS (.var 0)) (.callB .len (.acons (.var 0) .anil))))))) .bnil))
def s_are_words : FnS := semOf n_are_words.length (ev G4 X0 m_are_words)
theorem c_are_words : chk G4 X0 m_are_words ⟨n_are_words, defScope st_are_words, fun _ => true, ("are_words" : Str) ++ ".<locals>."⟩ (defBody st_are_words) = true := by kernel_rfl
def r_are_words_1 : FnR := ⟨1, s_are_words, []⟩
def G5 : GE := { G4 with fns := G4.fns ++ ([("are_words", r_are_words_1)] : RTab) }
abbrev st_is_rule : Stmt := top 14
def n_is_rule : List Str := ["thing", "word"]
def m_is_rule : ME .B := (.bcons (.iff (.or (.not (.val (.isi (.var 0) (.bt "tuple")))) (.val (.cmp .Lt (.callB .len (.acons (.var 0) .anil)) (.con (.int 2))))) (.bcons (.ret (.con (.bl false))) .bnil) .bnil) (.bcons (.mat (.sub (.var 0) (.con (.int 0))) (.mcons ["fetch", "hand"] (.bcons (.ret (.ofT (.and (.val (.cmp .Eq (.callB .len (.acons (.var 0) .anil)) (.con (.int 3)))) (.and (.val (.callF 1 (.acons (.sub (.var 0) (.con (.int 1))) .anil))) (.val (.callF 3 (.acons (.sub (.var 0) (.con (.int 2))) .anil))))))) .bnil) (.mcons ["raise"] (.bcons (.ret (.ofT (.and (.val (.cmp .Eq (.callB .len (.acons (.var 0) .anil)) (.con (.int 3)))) (.and (.val (.callF 1 (.acons (.sub (.var 0) (.con (.int 1))) .anil))) (.val (.callF 1 (.acons (.sub (.var 0) (.con (.int 2))) .anil))))))) .bnil) (.mcons ["meet"] (.bcons (.ret (.ofT (.and (.val (.cmp .Eq (.callB .len (.acons (.var 0) .anil)) (.con (.int 4)))) (.val (.callB .all (.acons (.lc (.name 1) [1] (.any (.sl (.var 0) (.osome (.con (.int 1))) .onone)) .cnil (.callF 1 (.acons (.var 1) .anil))) .anil)))))) .bnil) (.mcons ["make"] (.bcons (.ret (.ofT (.and (.val (.cmp .Eq (.callB .len (.acons (.var 0) .anil)) (.con (.int 2)))) (.val (.callF 4 (.acons (.sub (.var 0) (.con (.int 1))) .anil)))))) .bnil) .mnil))))) (.bcons (.ret (.con (.bl false))) .bnil)))
def s_is_rule : FnS := semOf n_is_rule.length (ev G5 X0 m_is_rule)
theorem c_is_rule : chk G5 X0 m_is_rule ⟨n_is_rule, defScope st_is_rule, fun _ => true, ("is_rule" : Str) ++ ".<locals>."⟩ (defBody st_is_rule) = true := by kernel_rfl
def r_is_rule_1 : FnR := ⟨1, s_is_rule, []⟩
def G6 : GE := { G5 with fns := G5.fns ++ ([("is_rule", r_is_rule_1)] : RTab) }
abbrev st_plain_rule : Stmt := top 15
def n_plain_rule : List Str := ["rule"]
def m_plain_rule : ME .B := (.bcons (.iff (.val (.cmp .In (.sub (.var 0) (.con (.int 0))) (.tup (.acons (.con (.str "fetch")) (.acons (.con (.str "hand")) .anil))))) (.bcons (.ret (.tup (.acons (.sub (.var 0) (.con (.int 0))) (.acons (.sub (.var 0) (.con (.int 1))) (.acons (.callB .tup (.acons (.callB .sort (.acons (.sub (.var 0) (.con (.int 2))) .anil)) .anil)) .anil))))) .bnil) .bnil) (.bcons (.iff (.val (.cmp .Eq (.sub (.var 0) (.con (.int 0))) (.con (.str "make")))) (.bcons (.ret (.tup (.acons (.con (.str "make")) (.acons (.callB .tup (.acons (.callB .sort (.acons (.sub (.var 0) (.con (.int 1))) .anil)) .anil)) .anil)))) .bnil) .bnil) (.bcons (.ret (.var 0)) .bnil)))
def s_plain_rule : FnS := semOf n_plain_rule.length (ev G6 X0 m_plain_rule)
theorem c_plain_rule : chk G6 X0 m_plain_rule ⟨n_plain_rule, defScope st_plain_rule, fun _ => true, ("plain_rule" : Str) ++ ".<locals>."⟩ (defBody st_plain_rule) = true := by kernel_rfl
def r_plain_rule_1 : FnR := ⟨1, s_plain_rule, []⟩
def G7 : GE := { G6 with fns := G6.fns ++ ([("plain_rule", r_plain_rule_1)] : RTab) }
abbrev st_Policy___init__ : Stmt := mem 16 0
def n_Policy___init__ : List Str := ["self", "rules", "number", "rule", "one"]
def m_Policy___init__ : ME .B := (.bcons (.iff (.or (.not (.val (.isiT (.var 1) [(.bt "list"), (.bt "tuple")]))) (.val (.cmp .Gt (.callB .len (.acons (.var 1) .anil)) (.glob 2)))) (.bcons (.rai 1 (.acons (.con .non) .anil)) .bnil) .bnil) (.bcons (.forr (.tup 2 (.cons (.name 2) (.cons (.name 3) .nil))) (.enum (.acons (.var 1) .anil)) (.bcons (.iff (.or (.not (.val (.callF 5 (.acons (.var 3) .anil)))) (.and (.val (.cmp .Eq (.sub (.var 3) (.con (.int 0))) (.con (.str "make")))) (.val (.cmp .In (.con (.str "make")) (.lc (.name 4) [4] (.any (.sl (.var 1) .onone (.osome (.var 2)))) .cnil (.sub (.var 4) (.con (.int 0)))))))) (.bcons (.rai 1 (.acons (.var 2) .anil)) .bnil) .bnil) .bnil)) (.bcons (.fldS 0 (.var 0) (.callB .tup (.acons (.lc (.name 3) [3] (.any (.var 1)) .cnil (.callF 6 (.acons (.var 3) .anil))) .anil))) .bnil)))
def s_Policy___init__ : FnS := semOf n_Policy___init__.length (ev G7 X0 m_Policy___init__)
theorem c_Policy___init__ : chk G7 X0 m_Policy___init__ ⟨n_Policy___init__, defScope st_Policy___init__, fun _ => true, ("Policy.__init__" : Str) ++ ".<locals>."⟩ (defBody st_Policy___init__) = true := by kernel_rfl
def r_Policy___init___1 : FnR := ⟨2, s_Policy___init__, []⟩
def G8 : GE := { G7 with mks := G7.mks ++ ([("Policy", r_Policy___init___1)] : RTab) }
abbrev st_Policy___eq__ : Stmt := mem 16 1
def n_Policy___eq__ : List Str := ["self", "other"]
def m_Policy___eq__ : ME .B := (.bcons (.ret (.ofT (.and (.val (.isi (.var 1) (.own "Policy"))) (.val (.cmp .Eq (.fld 0 (.var 0)) (.fld 0 (.var 1))))))) .bnil)
def s_Policy___eq__ : FnS := semOf n_Policy___eq__.length (ev G8 X0 m_Policy___eq__)
theorem c_Policy___eq__ : chk G8 X0 m_Policy___eq__ ⟨n_Policy___eq__, defScope st_Policy___eq__, fun _ => true, ("Policy.__eq__" : Str) ++ ".<locals>."⟩ (defBody st_Policy___eq__) = true := by kernel_rfl
def r_Policy___eq__ : FnR := ⟨2, s_Policy___eq__, []⟩
def G9 : GE := { G8 with eqT := G8.eqT ++ ([("Policy", r_Policy___eq__)] : RTab) }
abbrev st_Policy___len__ : Stmt := mem 16 2
def n_Policy___len__ : List Str := ["self"]
def m_Policy___len__ : ME .B := (.bcons (.ret (.callB .len (.acons (.fld 0 (.var 0)) .anil))) .bnil)
def s_Policy___len__ : FnS := semOf n_Policy___len__.length (ev G9 X0 m_Policy___len__)
theorem c_Policy___len__ : chk G9 X0 m_Policy___len__ ⟨n_Policy___len__, defScope st_Policy___len__, fun _ => true, ("Policy.__len__" : Str) ++ ".<locals>."⟩ (defBody st_Policy___len__) = true := by kernel_rfl
def r_Policy___len__ : FnR := ⟨1, s_Policy___len__, []⟩
def G10 : GE := { G9 with lenT := G9.lenT ++ ([("Policy", r_Policy___len__)] : RTab) }
abbrev st_Policy___iter__ : Stmt := mem 16 3
def n_Policy___iter__ : List Str := ["self"]
def m_Policy___iter__ : ME .E := (.fld 0 (.var 0))
def s_Policy___iter__ : FnS := semOf n_Policy___iter__.length (fRet (ev G10 X0 m_Policy___iter__))
def G11 : GE := { G10 with itT := G10.itT ++ ([("Policy", s_Policy___iter__)] : List (Str × FnS)) }
abbrev st_Policy___getitem__ : Stmt := mem 16 4
def n_Policy___getitem__ : List Str := ["self", "number"]
def m_Policy___getitem__ : ME .B := (.bcons (.iff (.not (.val (.callF 2 (.acons (.var 1) (.acons (.callB .len (.acons (.fld 0 (.var 0)) .anil)) .anil))))) (.bcons (.rai 1 (.acons (.var 1) .anil)) .bnil) .bnil) (.bcons (.ret (.sub (.fld 0 (.var 0)) (.var 1))) .bnil))
def s_Policy___getitem__ : FnS := semOf n_Policy___getitem__.length (ev G11 X0 m_Policy___getitem__)
theorem c_Policy___getitem__ : chk G11 X0 m_Policy___getitem__ ⟨n_Policy___getitem__, defScope st_Policy___getitem__, fun _ => true, ("Policy.__getitem__" : Str) ++ ".<locals>."⟩ (defBody st_Policy___getitem__) = true := by kernel_rfl
def r_Policy___getitem__ : FnR := ⟨2, s_Policy___getitem__, []⟩
def G12 : GE := { G11 with ixT := G11.ixT ++ ([("Policy", r_Policy___getitem__)] : RTab) }
abbrev st_Policy___add__ : Stmt := mem 16 5
def n_Policy___add__ : List Str := ["self", "other", "rule"]
def m_Policy___add__ : ME .B := (.bcons (.iff (.not (.val (.isi (.var 1) (.own "Policy")))) (.bcons (.ret .nev) .bnil) .bnil) (.bcons (.ret (.make 0 true (.acons (.lst (.astar (.fld 0 (.var 0)) (.astar (.lc (.name 2) [2] (.any (.fld 0 (.var 1))) (.cone (.val (.cmp .NotIn (.var 2) (.fld 0 (.var 0))))) (.var 2)) .anil))) .anil))) .bnil))
def s_Policy___add__ : FnS := semOf n_Policy___add__.length (ev G12 X0 m_Policy___add__)
theorem c_Policy___add__ : chk G12 X0 m_Policy___add__ ⟨n_Policy___add__, defScope st_Policy___add__, fun _ => true, ("Policy.__add__" : Str) ++ ".<locals>."⟩ (defBody st_Policy___add__) = true := by kernel_rfl
def r_Policy___add__ : FnR := ⟨2, s_Policy___add__, []⟩
def G13 : GE := { G12 with addT := G12.addT ++ ([("Policy", r_Policy___add__)] : RTab) }
abbrev st_Policy_without : Stmt := mem 16 6
def n_Policy_without : List Str := ["self", "numbers", "number", "rule"]
def m_Policy_without : ME .B := (.bcons (.forr (.name 2) (.any (.var 1)) (.bcons (.iff (.not (.val (.callF 2 (.acons (.var 2) (.acons (.callB .len (.acons (.fld 0 (.var 0)) .anil)) .anil))))) (.bcons (.rai 1 (.acons (.var 2) .anil)) .bnil) .bnil) .bnil)) (.bcons (.ret (.make 0 true (.acons (.lc (.tup 2 (.cons (.name 2) (.cons (.name 3) .nil))) [2, 3] (.enum (.acons (.fld 0 (.var 0)) .anil)) (.cone (.val (.cmp .NotIn (.var 2) (.var 1)))) (.var 3)) .anil))) .bnil))
def s_Policy_without : FnS := semOf n_Policy_without.length (ev G13 X0 m_Policy_without)
theorem c_Policy_without : chk G13 X0 m_Policy_without ⟨n_Policy_without, defScope st_Policy_without, fun _ => true, ("Policy.without" : Str) ++ ".<locals>."⟩ (defBody st_Policy_without) = true := by kernel_rfl
def r_Policy_without : StR := ⟨1, s_Policy_without⟩
def G14 : GE := { G13 with smts := G13.smts ++ ([("without", [("Policy", r_Policy_without)])] : List (Str × STab)) }
abbrev st_Policy_made : Stmt := mem 16 7
def n_Policy_made : List Str := ["self", "found", "rule"]
def m_Policy_made : ME .B := (.bcons (.asgLc 1 (.name 2) [2] (.any (.fld 0 (.var 0))) (.cone (.val (.cmp .Eq (.sub (.var 2) (.con (.int 0))) (.con (.str "make"))))) (.sub (.var 2) (.con (.int 1)))) (.bcons (.ret (.ite (.val (.cmp .NotEq (.var 1) (.lst .anil))) (.sub (.var 1) (.con (.int 0))) (.con .non))) .bnil))
def s_Policy_made : FnS := semOf n_Policy_made.length (ev G14 X0 m_Policy_made)
theorem c_Policy_made : chk G14 X0 m_Policy_made ⟨n_Policy_made, defScope st_Policy_made, fun _ => true, ("Policy.made" : Str) ++ ".<locals>."⟩ (defBody st_Policy_made) = true := by kernel_rfl
def r_Policy_made : FnR := ⟨1, s_Policy_made, []⟩
def G15 : GE := { G14 with mts := G14.mts ++ ([("made", [("Policy", r_Policy_made)])] : List (Str × RTab)) }
abbrev st_words_of : Stmt := top 17
def n_words_of : List Str := ["rule", "pair", "one"]
def m_words_of : ME .B := (.bcons (.mat (.sub (.var 0) (.con (.int 0))) (.mcons ["fetch", "hand"] (.bcons (.ret (.lst (.acons (.sub (.var 0) (.con (.int 1))) (.astar (.lc2 (.name 1) [1, 2] (.any (.sub (.var 0) (.con (.int 2)))) .cnil (.name 2) [2] (.any (.var 1)) .cnil (.var 2)) .anil)))) .bnil) (.mcons ["make"] (.bcons (.ret (.callB .list (.acons (.sub (.var 0) (.con (.int 1))) .anil))) .bnil) .mnil))) (.bcons (.ret (.callB .list (.acons (.sl (.var 0) (.osome (.con (.int 1))) .onone) .anil))) .bnil))
def s_words_of : FnS := semOf n_words_of.length (ev G15 X0 m_words_of)
theorem c_words_of : chk G15 X0 m_words_of ⟨n_words_of, defScope st_words_of, fun _ => true, ("words_of" : Str) ++ ".<locals>."⟩ (defBody st_words_of) = true := by kernel_rfl
def r_words_of_1 : FnR := ⟨1, s_words_of, []⟩
def G16 : GE := { G15 with fns := G15.fns ++ ([("words_of", r_words_of_1)] : RTab) }
abbrev st_Policy_words : Stmt := mem 16 8
def n_Policy_words : List Str := ["self", "found", "rule"]
def m_Policy_words : ME .B := (.bcons (.asg (.name 1) (.lstC .anil)) (.bcons (.forr (.name 2) (.any (.fld 0 (.var 0))) (.bcons (.expr (.mutL .ext (.var 1) (.acons (.callF 7 (.acons (.var 2) .anil)) .anil))) .bnil)) (.bcons (.ret (.sortS (.var 1))) .bnil)))
def s_Policy_words : FnS := semOf n_Policy_words.length (ev G16 X0 m_Policy_words)
theorem c_Policy_words : chk G16 X0 m_Policy_words ⟨n_Policy_words, defScope st_Policy_words, fun _ => true, ("Policy.words" : Str) ++ ".<locals>."⟩ (defBody st_Policy_words) = true := by kernel_rfl
def r_Policy_words : FnR := ⟨1, s_Policy_words, []⟩
def G17 : GE := { G16 with mts := G16.mts ++ ([("words", [("Policy", r_Policy_words)])] : List (Str × RTab)) }
abbrev st__law_cell_at : Stmt := top 19
def n__law_cell_at : List Str := ["_law_script", "_law_k"]
def m__law_cell_at : ME .B := (.bcons (.iff (.val (.cmp .Lt (.var 1) (.callB .len (.acons (.var 0) .anil)))) (.bcons (.ret (.sub (.var 0) (.var 1))) .bnil) .bnil) (.bcons (.ret (.con (.int 0))) .bnil))
def s__law_cell_at : FnS := semOf n__law_cell_at.length (ev G17 X0 m__law_cell_at)
theorem c__law_cell_at : chk G17 X0 m__law_cell_at ⟨n__law_cell_at, defScope st__law_cell_at, fun _ => true, ("_law_cell_at" : Str) ++ ".<locals>."⟩ (defBody st__law_cell_at) = true := by kernel_rfl
def r__law_cell_at_2 : FnR := ⟨2, s__law_cell_at, []⟩
def G18 : GE := { G17 with fns := G17.fns ++ ([("_law_cell_at", r__law_cell_at_2)] : RTab) }
abbrev st__law_draw : Stmt := top 20
def n__law_draw : List Str := ["_law_cell", "_law_k", "_law_bound", "_law_primes"]
def m__law_draw : ME .B := (.bcons (.asg (.name 3) (.tup (.acons (.con (.int 1000003)) (.acons (.con (.int 1000033)) (.acons (.con (.int 1000037)) (.acons (.con (.int 1000039)) (.acons (.con (.int 1000081)) (.acons (.con (.int 1000099)) (.acons (.con (.int 1000117)) (.acons (.con (.int 1000121)) (.acons (.con (.int 1000133)) (.acons (.con (.int 1000151)) (.acons (.con (.int 1000159)) (.acons (.con (.int 1000171)) (.acons (.con (.int 1000183)) (.acons (.con (.int 1000187)) (.acons (.con (.int 1000193)) (.acons (.con (.int 1000199)) .anil)))))))))))))))))) (.bcons (.ret (.bin .Mod (.bin .Mod (.callB .int (.acons (.bin .Add (.bin .Mult (.var 0) (.con (.int 48271))) (.bin .Mult (.var 1) (.con (.int 69621)))) .anil)) (.sub (.var 3) (.bin .Mod (.callB .int (.acons (.var 1) .anil)) (.con (.int 16))))) (.var 2))) .bnil))
def s__law_draw : FnS := semOf n__law_draw.length (ev G18 X0 m__law_draw)
theorem c__law_draw : chk G18 X0 m__law_draw ⟨n__law_draw, defScope st__law_draw, fun _ => true, ("_law_draw" : Str) ++ ".<locals>."⟩ (defBody st__law_draw) = true := by kernel_rfl
def r__law_draw_3 : FnR := ⟨3, s__law_draw, []⟩
def G19 : GE := { G18 with fns := G18.fns ++ ([("_law_draw", r__law_draw_3)] : RTab) }
abbrev st__law_number : Stmt := top 21
def n__law_number : List Str := ["_law_cell", "_law_k", "_law_bound", "_law_power", "_law_lap", "_law_remains", "_law_small"]
def m__law_number : ME .B := (.bcons (.asg (.name 3) (.con (.int 1))) (.bcons (.forr (.name 4) (.rng1 (.acons (.bin .Mod (.callB .int (.acons (.var 1) .anil)) (.con (.int 24))) .anil)) (.bcons (.asg (.name 3) (.bin .Mult (.var 3) (.con (.int 1009)))) .bnil)) (.bcons (.asg (.name 5) (.bin .FloorDiv (.bin .Sub (.var 0) (.bin .Pow (.con (.int 10)) (.con (.int 18)))) (.var 3))) (.bcons (.iff (.val (.cmp .Gt (.var 5) (.con (.int 0)))) (.bcons (.ret (.bin .Mod (.bin .Mod (.callB .int (.acons (.var 5) .anil)) (.con (.int 1009))) (.var 2))) .bnil) .bnil) (.bcons (.asg (.name 6) (.bin .Mod (.callB .int (.acons (.var 0) .anil)) (.con (.int 1000003)))) (.bcons (.ret (.bin .Mod (.callF 9 (.acons (.bin .Mult (.bin .Add (.var 6) (.bin .Mult (.con (.int 977)) (.var 1))) (.bin .Add (.bin .Add (.var 6) (.bin .Mult (.con (.int 31)) (.var 1))) (.con (.int 5)))) (.acons (.bin .Add (.bin .Mod (.callB .int (.acons (.var 1) .anil)) (.con (.int 9))) (.con (.int 1))) (.acons (.con (.int 999983)) .anil)))) (.var 2))) .bnil))))))
def s__law_number : FnS := semOf n__law_number.length (ev G19 X0 m__law_number)
theorem c__law_number : chk G19 X0 m__law_number ⟨n__law_number, defScope st__law_number, fun _ => true, ("_law_number" : Str) ++ ".<locals>."⟩ (defBody st__law_number) = true := by kernel_rfl
def r__law_number_3 : FnR := ⟨3, s__law_number, []⟩
def G20 : GE := { G19 with fns := G19.fns ++ ([("_law_number", r__law_number_3)] : RTab) }
abbrev st__law_next : Stmt := top 22
def n__law_next : List Str := ["_law_draw_here", "_law_bound", "_law_at", "_law_cell"]
def m__law_next : ME .B := (.bcons (.subS (.bin .Add (.sub (.var 0) (.con (.int 2))) (.con (.int 1))) (.var 0) (.con (.int 2))) (.bcons (.asg (.name 2) (.bin .FloorDiv (.sub (.var 0) (.con (.int 2))) (.con (.int 12)))) (.bcons (.asg (.name 3) (.bin .Add (.callF 8 (.acons (.sub (.var 0) (.con (.int 0))) (.acons (.bin .Add (.sub (.var 0) (.con (.int 1))) (.var 2)) .anil))) (.bin .Mult (.con (.int 31)) (.var 2)))) (.bcons (.ret (.callF 10 (.acons (.var 3) (.acons (.bin .Add (.bin .Mod (.callB .int (.acons (.sub (.var 0) (.con (.int 2))) .anil)) (.con (.int 12))) (.con (.int 1))) (.acons (.var 1) .anil))))) .bnil))))
def s__law_next : FnS := semOf n__law_next.length (ev G20 X0 m__law_next)
theorem c__law_next : chk G20 X0 m__law_next ⟨n__law_next, defScope st__law_next, fun _ => true, ("_law_next" : Str) ++ ".<locals>."⟩ (defBody st__law_next) = true := by kernel_rfl
def r__law_next_2 : FnR := ⟨2, s__law_next, []⟩
def G21 : GE := { G20 with fns := G20.fns ++ ([("_law_next", r__law_next_2)] : RTab) }
abbrev st__law_pick : Stmt := top 23
def n__law_pick : List Str := ["_law_draw_here", "_law_things"]
def m__law_pick : ME .B := (.bcons (.ret (.sub (.var 1) (.callF 11 (.acons (.var 0) (.acons (.callB .len (.acons (.var 1) .anil)) .anil))))) .bnil)
def s__law_pick : FnS := semOf n__law_pick.length (ev G21 X0 m__law_pick)
theorem c__law_pick : chk G21 X0 m__law_pick ⟨n__law_pick, defScope st__law_pick, fun _ => true, ("_law_pick" : Str) ++ ".<locals>."⟩ (defBody st__law_pick) = true := by kernel_rfl
def r__law_pick_2 : FnR := ⟨2, s__law_pick, []⟩
def G22 : GE := { G21 with fns := G21.fns ++ ([("_law_pick", r__law_pick_2)] : RTab) }
abbrev st__law_rules : Stmt := top 24
def n__law_rules : List Str := ["_law_draw_here", "_law_most", "_law_turn", "_law_words_here", "_law_found", "_law_kind", "_law_one", "_law_two", "_law_three", "_law_pairs", "_law_rule"]
def m__law_rules : ME .B := (.bcons (.par [3, 4] (.acons (.lst (.acons (.con (.str "g")) (.acons (.con (.str "r")) (.acons (.con (.str "t")) (.acons (.con (.str "w")) .anil))))) (.acons (.lstC .anil) .anil))) (.bcons (.forr (.name 2) (.rng1 (.acons (.callF 11 (.acons (.var 0) (.acons (.bin .Add (.var 1) (.con (.int 1))) .anil))) .anil)) (.bcons (.asg (.tup 4 (.cons (.name 5) (.cons (.name 6) (.cons (.name 7) (.cons (.name 8) .nil))))) (.tup (.acons (.callF 11 (.acons (.var 0) (.acons (.con (.int 10)) .anil))) (.acons (.callF 12 (.acons (.var 0) (.acons (.var 3) .anil))) (.acons (.callF 12 (.acons (.var 0) (.acons (.var 3) .anil))) (.acons (.callF 12 (.acons (.var 0) (.acons (.var 3) .anil))) .anil)))))) (.bcons (.iff (.val (.cmp .Lt (.var 5) (.con (.int 6)))) (.bcons (.asg (.name 9) (.ite (.val (.cmp .Eq (.callF 11 (.acons (.var 0) (.acons (.con (.int 2)) .anil))) (.con (.int 0)))) (.lstC (.acons (.tup (.acons (.var 7) (.acons (.var 7) .anil))) .anil)) (.lstC (.acons (.tup (.acons (.var 7) (.acons (.var 8) .anil))) .anil)))) (.bcons (.iff (.and (.val (.cmp .Eq (.callF 11 (.acons (.var 0) (.acons (.con (.int 3)) .anil))) (.con (.int 0)))) (.val (.cmp .NotIn (.tup (.acons (.var 6) (.acons (.var 6) .anil))) (.var 9)))) (.bcons (.expr (.mutL .app (.var 9) (.acons (.tup (.acons (.var 6) (.acons (.var 6) .anil))) .anil))) .bnil) .bnil) (.bcons (.expr (.mutL .app (.var 4) (.acons (.tup (.acons (.ite (.val (.cmp .Lt (.var 5) (.con (.int 3)))) (.con (.str "fetch")) (.con (.str "hand"))) (.acons (.var 6) (.acons (.callB .tup (.acons (.callB .sort (.acons (.var 9) .anil)) .anil)) .anil)))) .anil))) .bnil))) (.bcons (.iff (.val (.cmp .Eq (.var 5) (.con (.int 6)))) (.bcons (.expr (.mutL .app (.var 4) (.acons (.tup (.acons (.con (.str "raise")) (.acons (.var 6) (.acons (.var 7) .anil)))) .anil))) .bnil) (.bcons (.iff (.val (.cmp .Eq (.var 5) (.con (.int 7)))) (.bcons (.expr (.mutL .app (.var 4) (.acons (.tup (.acons (.con (.str "meet")) (.acons (.var 6) (.acons (.var 7) (.acons (.var 8) .anil))))) .anil))) .bnil) (.bcons (.iff (.val (.cmp .NotIn (.con (.str "make")) (.lc (.name 10) [10] (.any (.var 4)) .cnil (.sub (.var 10) (.con (.int 0)))))) (.bcons (.expr (.mutL .app (.var 4) (.acons (.tup (.acons (.con (.str "make")) (.acons (.callB .tup (.acons (.sortS (.lst (.acons (.var 6) (.acons (.var 7) .anil)))) .anil)) .anil))) .anil))) .bnil) .bnil) .bnil)) .bnil)) .bnil)) .bnil))) (.bcons (.ret (.frz (.var 4))) .bnil)))
def s__law_rules : FnS := semOf n__law_rules.length (ev G22 X0 m__law_rules)
theorem c__law_rules : chk G22 X0 m__law_rules ⟨n__law_rules, defScope st__law_rules, fun _ => true, ("_law_rules" : Str) ++ ".<locals>."⟩ (defBody st__law_rules) = true := by kernel_rfl
def r__law_rules_2 : FnR := ⟨2, s__law_rules, []⟩
def G23 : GE := { G22 with fns := G22.fns ++ ([("_law_rules", r__law_rules_2)] : RTab) }
abbrev st__law_made : Stmt := top 25
def n__law_made : List Str := ["_law_rules_here", "_law_rows", "_law_rule"]
def m__law_made : ME .B := (.bcons (.asgLc 1 (.name 2) [2] (.any (.var 0)) (.cone (.val (.cmp .Eq (.sub (.var 2) (.con (.int 0))) (.con (.str "make"))))) (.sub (.var 2) (.con (.int 1)))) (.bcons (.ret (.ite (.val (.cmp .NotEq (.var 1) (.lst .anil))) (.sub (.var 1) (.con (.int 0))) (.con .non))) .bnil))
def s__law_made : FnS := semOf n__law_made.length (ev G23 X0 m__law_made)
theorem c__law_made : chk G23 X0 m__law_made ⟨n__law_made, defScope st__law_made, fun _ => true, ("_law_made" : Str) ++ ".<locals>."⟩ (defBody st__law_made) = true := by kernel_rfl
def r__law_made_1 : FnR := ⟨1, s__law_made, []⟩
def G24 : GE := { G23 with fns := G23.fns ++ ([("_law_made", r__law_made_1)] : RTab) }
abbrev st__law_words : Stmt := top 27
def n__law_words : List Str := ["_law_rule", "_law_pair"]
def m__law_words : ME .B := (.bcons (.iff (.val (.cmp .Eq (.sub (.var 0) (.con (.int 0))) (.con (.str "make")))) (.bcons (.ret (.callB .list (.acons (.sub (.var 0) (.con (.int 1))) .anil))) .bnil) .bnil) (.bcons (.ret (.ite (.val (.cmp .In (.sub (.var 0) (.con (.int 0))) (.tup (.acons (.con (.str "fetch")) (.acons (.con (.str "hand")) .anil))))) (.bin .Add (.lst (.acons (.sub (.var 0) (.con (.int 1))) .anil)) (.sumL (.lc (.name 1) [1] (.any (.sub (.var 0) (.con (.int 2)))) .cnil (.callB .list (.acons (.var 1) .anil))))) (.callB .list (.acons (.sl (.var 0) (.osome (.con (.int 1))) .onone) .anil)))) .bnil))
def s__law_words : FnS := semOf n__law_words.length (ev G24 X0 m__law_words)
theorem c__law_words : chk G24 X0 m__law_words ⟨n__law_words, defScope st__law_words, fun _ => true, ("_law_words" : Str) ++ ".<locals>."⟩ (defBody st__law_words) = true := by kernel_rfl
def r__law_words_1 : FnR := ⟨1, s__law_words, []⟩
def G25 : GE := { G24 with fns := G24.fns ++ ([("_law_words", r__law_words_1)] : RTab) }
abbrev st_law : Stmt := top 28
def n_law : List Str := ["_law_script", "_law_draw_here", "_law_turned", "_law_whole", "_law_good", "_law_odd", "_law_wrong", "_law_pairs", "_law_rules_here", "_law_others", "_law_policy", "_law_other", "_law_rule", "_law_at", "_law_to", "_law_letter", "_law_number_here"]
def m_law : ME .B := (.bcons (.asg (.name 1) (.lstC (.acons (.sl (.var 0) .onone (.osome (.con (.int 63)))) (.acons (.con (.int 0)) (.acons (.con (.int 0)) .anil))))) (.bcons (.asg (.tup 2 (.cons (.name 8) (.cons (.name 9) .nil))) (.tup (.acons (.callF 13 (.acons (.var 1) (.acons (.con (.int 6)) .anil))) (.acons (.callF 13 (.acons (.var 1) (.acons (.con (.int 3)) .anil))) .anil)))) (.bcons (.iff (.val (.cmp .In (.con (.str "make")) (.lc (.name 12) [12] (.any (.var 8)) .cnil (.sub (.var 12) (.con (.int 0)))))) (.bcons (.asgLc 9 (.name 12) [12] (.any (.var 9)) (.cone (.or (.val (.cmp .NotEq (.sub (.var 12) (.con (.int 0))) (.con (.str "make")))) (.val (.cmp .In (.var 12) (.var 8))))) (.var 12)) .bnil) .bnil) (.bcons (.asg (.tup 2 (.cons (.name 10) (.cons (.name 11) .nil))) (.tup (.acons (.make 0 true (.acons (.var 8) .anil)) (.acons (.make 0 true (.acons (.callB .tup (.acons (.var 9) .anil)) .anil)) .anil)))) (.bcons (.asgLc 2 (.name 12) [12] (.any (.var 8)) .cnil (.ite (.val (.cmp .In (.sub (.var 12) (.con (.int 0))) (.tup (.acons (.con (.str "fetch")) (.acons (.con (.str "hand")) .anil))))) (.bin .Add (.sl (.var 12) .onone (.osome (.con (.int 2)))) (.tup (.acons (.revL (.callB .list (.acons (.sub (.var 12) (.con (.int 2))) .anil))) .anil))) (.ite (.val (.cmp .Eq (.sub (.var 12) (.con (.int 0))) (.con (.str "make")))) (.tup (.acons (.con (.str "make")) (.acons (.revL (.callB .list (.acons (.sub (.var 12) (.con (.int 1))) .anil))) .anil))) (.var 12)))) (.bcons (.iff (.or (.val (.cmp .NotEq (.fld 0 (.var 10)) (.callB .tup (.acons (.var 8) .anil)))) (.or (.val (.cmp .NotEq (.callB .list (.acons (.var 10) .anil)) (.var 8))) (.or (.val (.cmp .NotEq (.callB .len (.acons (.var 10) .anil)) (.callB .len (.acons (.var 8) .anil)))) (.val (.cmp .NotEq (.make 0 true (.acons (.var 2) .anil)) (.var 10)))))) (.bcons (.ret (.con (.bl false))) .bnil) .bnil) (.bcons (.iff (.or (.val (.cmp .NotEq (.lc (.name 16) [16] (.rng1 (.acons (.callB .len (.acons (.var 8) .anil)) .anil)) .cnil (.subX (.var 10) (.var 16))) (.var 8))) (.val (.cmp .NotEq (.meth 0 (.var 10) .anil) (.callF 14 (.acons (.var 8) .anil))))) (.bcons (.ret (.con (.bl false))) .bnil) .bnil) (.bcons (.iff (.val (.cmp .NotEq (.meth 1 (.var 10) .anil) (.sortS (.sumL (.lc (.name 12) [12] (.any (.var 8)) .cnil (.callF 15 (.acons (.var 12) .anil))))))) (.bcons (.ret (.con (.bl false))) .bnil) .bnil) (.bcons (.asg (.name 3) (.bin .Add (.var 10) (.var 11))) (.bcons (.iff (.val (.cmp .NotEq (.callB .list (.acons (.var 3) .anil)) (.bin .Add (.var 8) (.lc (.name 12) [12] (.any (.var 9)) (.cone (.val (.cmp .NotIn (.var 12) (.var 8)))) (.var 12))))) (.bcons (.ret (.con (.bl false))) .bnil) .bnil) (.bcons (.iff (.or (.val (.cmp .NotEq (.bin .Add (.var 10) (.make 0 true (.acons (.lst .anil) .anil))) (.var 10))) (.val (.cmp .NotEq (.cmp .Eq (.var 10) (.var 11)) (.cmp .Eq (.var 8) (.var 9))))) (.bcons (.ret (.con (.bl false))) .bnil) .bnil) (.bcons (.iff (.val (.cmp .NotEq (.var 8) (.lst .anil))) (.bcons (.asg (.tup 2 (.cons (.name 13) (.cons (.name 14) .nil))) (.tup (.acons (.callF 11 (.acons (.var 1) (.acons (.callB .len (.acons (.var 8) .anil)) .anil))) (.acons (.callF 11 (.acons (.var 1) (.acons (.callB .len (.acons (.var 8) .anil)) .anil))) .anil)))) (.bcons (.iff (.or (.val (.cmp .NotEq (.callB .list (.acons (.methS 0 (.var 10) (.acons (.var 13) .anil)) .anil)) (.bin .Add (.sl (.var 8) .onone (.osome (.var 13))) (.sl (.var 8) (.osome (.bin .Add (.var 13) (.con (.int 1)))) .onone)))) (.val (.cmp .NotEq (.callB .list (.acons (.methS 0 (.var 10) (.acons (.var 13) (.acons (.var 14) .anil))) .anil)) (.lc (.tup 2 (.cons (.name 16) (.cons (.name 12) .nil))) [16, 12] (.enum (.acons (.var 8) .anil)) (.cone (.val (.cmp .NotIn (.var 16) (.tup (.acons (.var 13) (.acons (.var 14) .anil)))))) (.var 12))))) (.bcons (.ret (.con (.bl false))) .bnil) .bnil) .bnil)) .bnil) (.bcons (.iff (.val (.cmp .NotEq (.methS 0 (.var 10) .anil) (.var 10))) (.bcons (.ret (.con (.bl false))) .bnil) .bnil) (.bcons (.iff (.val (.cmp .NotEq (.lerr 0 (.subX (.var 10) (.callB .len (.acons (.var 8) .anil)))) (.lst (.acons (.callB .len (.acons (.var 8) .anil)) .anil)))) (.bcons (.ret (.con (.bl false))) .bnil) .bnil) (.bcons (.iff (.val (.cmp .NotEq (.lerr 0 (.subX (.var 10) (.neg (.con (.int 1))))) (.lst (.acons (.neg (.con (.int 1))) .anil)))) (.bcons (.ret (.con (.bl false))) .bnil) .bnil) (.bcons (.iff (.val (.cmp .NotEq (.lerr 0 (.methS 0 (.var 10) (.acons (.callB .len (.acons (.var 8) .anil)) .anil))) (.lst (.acons (.callB .len (.acons (.var 8) .anil)) .anil)))) (.bcons (.ret (.con (.bl false))) .bnil) .bnil) (.bcons (.iff (.val (.cmp .NotEq (.lerr 0 (.subX (.var 10) (.con (.str "0")))) (.lst (.acons (.con (.str "0")) .anil)))) (.bcons (.ret (.con (.bl false))) .bnil) .bnil) (.bcons (.asg (.name 4) (.tup (.acons (.con (.str "raise")) (.acons (.con (.str "a")) (.acons (.con (.str "b")) .anil))))) (.bcons (.asg (.name 5) (.lst (.acons (.con .non) (.acons (.con (.str "raise")) (.acons (.tup (.acons (.con (.str "raise")) .anil)) (.acons (.tup (.acons (.con (.str "raise")) (.acons (.con (.str "a")) .anil))) (.acons (.tup (.acons (.con (.str "raise")) (.acons (.con (.str "a")) (.acons (.con (.str "B")) .anil)))) (.acons (.tup (.acons (.con (.str "raise")) (.acons (.con (.str "a")) (.acons (.con (.str "b")) (.acons (.con (.str "c")) .anil))))) (.acons (.tup (.acons (.con (.str "meet")) (.acons (.con (.str "a")) (.acons (.con (.str "b")) .anil)))) .anil))))))))) (.bcons (.asg (.name 5) (.bin .Add (.var 5) (.lst (.acons (.tup (.acons (.con (.str "fetch")) (.acons (.con (.str "a")) (.acons (.tup .anil) .anil)))) (.acons (.tup (.acons (.con (.str "fetch")) (.acons (.con (.str "a")) (.acons (.lst (.acons (.tup (.acons (.con (.str "a")) (.acons (.con (.str "b")) .anil))) (.acons (.tup (.acons (.con (.str "a")) (.acons (.con (.str "b")) .anil))) .anil))) .anil)))) (.acons (.tup (.acons (.con (.str "hand")) (.acons (.con (.str "a")) (.acons (.lst (.acons (.tup (.acons (.con (.str "a")) .anil)) .anil)) .anil)))) (.acons (.tup (.acons (.con (.str "hand")) (.acons (.con (.str "a")) (.acons (.lst (.acons (.lst (.acons (.con (.str "a")) (.acons (.con (.str "b")) .anil))) .anil)) .anil)))) .anil))))))) (.bcons (.asg (.name 5) (.bin .Add (.var 5) (.lst (.acons (.tup (.acons (.con (.str "hand")) (.acons (.con (.int 7)) (.acons (.lst (.acons (.tup (.acons (.con (.str "a")) (.acons (.con (.str "b")) .anil))) .anil)) .anil)))) (.acons (.tup (.acons (.con (.str "make")) (.acons (.tup .anil) .anil))) (.acons (.tup (.acons (.con (.str "make")) (.acons (.lst (.acons (.con (.str "a")) (.acons (.con (.str "a")) .anil))) .anil))) (.acons (.tup (.acons (.con (.str "make")) (.acons (.con (.str "a")) .anil))) (.acons (.tup (.acons (.con (.str "take")) (.acons (.con (.str "a")) (.acons (.con (.str "b")) .anil)))) (.acons (.lst (.acons (.con (.str "raise")) (.acons (.con (.str "a")) (.acons (.con (.str "b")) .anil)))) .anil))))))))) (.bcons (.asg (.name 6) (.callF 12 (.acons (.var 1) (.acons (.var 5) .anil)))) (.bcons (.iff (.val (.cmp .NotEq (.lerr 0 (.make 0 true (.acons (.lst (.acons (.var 4) (.acons (.var 6) (.acons (.con (.int 7)) .anil)))) .anil))) (.lst (.acons (.con (.int 1)) .anil)))) (.bcons (.ret (.con (.bl false))) .bnil) .bnil) (.bcons (.iff (.val (.cmp .NotEq (.lerr 0 (.make 0 true (.acons (.lst (.acons (.tup (.acons (.con (.str "make")) (.acons (.lst (.acons (.con (.str "a")) .anil)) .anil))) (.acons (.var 4) (.acons (.tup (.acons (.con (.str "make")) (.acons (.lst (.acons (.con (.str "b")) .anil)) .anil))) .anil)))) .anil))) (.lst (.acons (.con (.int 2)) .anil)))) (.bcons (.ret (.con (.bl false))) .bnil) .bnil) (.bcons (.iff (.val (.cmp .NotEq (.lerr 0 (.make 0 true (.acons (.bin .Mult (.lst (.acons (.var 4) .anil)) (.con (.int 13))) .anil))) (.lst (.acons (.con .non) .anil)))) (.bcons (.ret (.con (.bl false))) .bnil) .bnil) (.bcons (.iff (.val (.cmp .NotEq (.lerr 0 (.make 0 true (.acons (.callF 12 (.acons (.var 1) (.acons (.lst (.acons (.con (.int 7)) (.acons (.con .non) (.acons (.con (.str "")) (.acons .dnew .anil))))) .anil))) .anil))) (.lst (.acons (.con .non) .anil)))) (.bcons (.ret (.con (.bl false))) .bnil) .bnil) (.bcons (.asg (.name 7) (.lc (.name 15) [15] (.any (.con (.str "abcdefghij"))) .cnil (.tup (.acons (.con (.str "a")) (.acons (.var 15) .anil))))) (.bcons (.iff (.val (.cmp .NotEq (.lerr 0 (.make 0 true (.acons (.lst (.acons (.tup (.acons (.con (.str "fetch")) (.acons (.con (.str "a")) (.acons (.var 7) .anil)))) .anil)) .anil))) (.lst (.acons (.con (.int 0)) .anil)))) (.bcons (.ret (.con (.bl false))) .bnil) .bnil) (.bcons (.ret (.ofT (.and (.val (.cmp .Eq (.lerr 0 (.make 0 true (.acons (.lst (.acons (.tup (.acons (.con (.str "hand")) (.acons (.con (.str "a")) (.acons (.sl (.var 7) (.osome (.con (.int 1))) .onone) .anil)))) .anil)) .anil))) (.lst .anil))) (.val (.cmp .Eq (.callB .len (.acons (.make 0 true (.acons (.bin .Mult (.lst (.acons (.var 4) .anil)) (.con (.int 12))) .anil)) .anil)) (.con (.int 12))))))) .bnil)))))))))))))))))))))))))))))
def s_law : FnS := semOf n_law.length (ev G25 X0 m_law)
theorem c_law : chk G25 X0 m_law ⟨n_law, defScope st_law, fun _ => true, ("law" : Str) ++ ".<locals>."⟩ (defBody st_law) = true := by kernel_rfl
end K02
namespace K02
open PySem PySem.Spec L2 DL
open PyProof.Rows hiding St
variable [Tbl]
def dcell (ns : List Int) (n : Int) : Cell := .lst [.lst (ns.map D.int), .int 0, .int n]
theorem r_cell_at (ns : List Int) (k : Int) (hk : 0 ≤ k) : ∃ (z : Int) (S : Sto), s__law_cell_at [.im (.lst (ns.map D.int)), .im (.int k)] [] = .ok (.im (.int z)) S := by
  by_cases c : k < ns.length
  · have hj : k.toNat < ns.length := by omega
    refine ⟨ns[k.toNat], [], ?_⟩
    refine semRun ?_
    unfold m__law_cell_at
    apply seqR
    refine iffT (valT ?_) (retS ?_)
    · show R.ok (Vl.im (D.bl (decide (k < ((ns.map D.int).length : Int))))) [] = _
      rw [List.length_map, decide_eq_true c]
    · refine subE (varE rfl) (varE rfl) rfl rfl ?_
      show atI (ns.map D.int) k = _
      rw [atI_at hk (by rw [List.length_map]; exact hj), List.getElem_map]
  · refine ⟨0, [], ?_⟩
    refine semRun ?_
    unfold m__law_cell_at
    refine seq (iffF (valT ?_)) (retS rfl)
    show R.ok (Vl.im (D.bl (decide (k < ((ns.map D.int).length : Int))))) [] = _
    rw [List.length_map, decide_eq_false c]
theorem lg (z : Int) (b : Nat) (h : z.natAbs < 2 ^ b) (hb : 0 < b) : z.natAbs.log2 < b := by
  by_cases e : z.natAbs = 0
  · rw [e]; exact hb
  · exact (Nat.log2_lt e).mpr h
theorem mul_small {x y : Int} (hx : x.natAbs < 2 ^ 200) (hy : y.natAbs < 2 ^ 200) : mulAD (.int x) (.int y) = some (.int (x * y)) := by
  have h1 := lg x 200 hx (by omega)
  have h2 := lg y 200 hy (by omega)
  show Option.or (if decide (x.natAbs.log2 + y.natAbs.log2 < 1000000) = true then some (D.int (x * y)) else none) _ = _
  rw [if_pos (decide_eq_true (by omega))]; rfl
theorem mod_pos {x y : Int} (hy : 0 < y) : modD (.int x) (.int y) = some (.int (x % y)) := by
  show (if decide (0 < y) = true then some (D.int (x % y)) else none) = _
  rw [if_pos (decide_eq_true hy)]
theorem fdiv_small {x y : Int} (h0 : 0 < y) (hy : y.natAbs < 2 ^ 300) : fdivD (.int x) (.int y) = some (.int (x / y)) := by
  have h1 := lg y 300 hy (by omega)
  show (if decide (0 < y ∧ y.natAbs.log2 < 9000) = true then some (D.int (x / y)) else none) = _
  rw [if_pos (decide_eq_true ⟨h0, by omega⟩)]
theorem bMod {Γ : GE} {x y : Int} {γ : Gam} {S : Sto} (hy : 0 < y) : evBin Γ .Mod (.im (.int x)) (.im (.int y)) γ S = .ok (.im (.int (x % y))) S := by
  show R.ofO (modD (.int x) (.int y)) S = _
  rw [mod_pos hy]; rfl
theorem bDiv {Γ : GE} {x y : Int} {γ : Gam} {S : Sto} (h0 : 0 < y) (hy : y.natAbs < 2 ^ 300) : evBin Γ .FloorDiv (.im (.int x)) (.im (.int y)) γ S = .ok (.im (.int (x / y))) S := by
  show R.ofO (fdivD (.int x) (.int y)) S = _
  rw [fdiv_small h0 hy]; rfl
theorem bMul {Γ : GE} {x y : Int} {γ : Gam} {S : Sto} (hx : x.natAbs < 2 ^ 200) (hy : y.natAbs < 2 ^ 200) : evBin Γ .Mult (.im (.int x)) (.im (.int y)) γ S = .ok (.im (.int (x * y))) S := by
  show R.ofO (mulAD (.int x) (.int y)) S = _
  rw [mul_small hx hy]; rfl
theorem bAdd {Γ : GE} {x y : Int} {γ : Gam} {S : Sto} : evBin Γ .Add (.im (.int x)) (.im (.int y)) γ S = .ok (.im (.int (x + y))) S := rfl
theorem bSub {Γ : GE} {x y : Int} {γ : Gam} {S : Sto} : evBin Γ .Sub (.im (.int x)) (.im (.int y)) γ S = .ok (.im (.int (x - y))) S := rfl
theorem cInt {Γ : GE} {x : Int} {γ : Gam} {S : Sto} : evB Γ .int [.im (.int x)] γ S = .ok (.im (.int x)) S := rfl
abbrev primes : List D := [.int 1000003, .int 1000033, .int 1000037, .int 1000039, .int 1000081, .int 1000099, .int 1000117, .int 1000121, .int 1000133, .int 1000151, .int 1000159, .int 1000171, .int 1000183, .int 1000187, .int 1000193, .int 1000199]
theorem prime_at (j : Int) (h0 : 0 ≤ j) (h : j < 16) : ∃ p : Int, 0 < p ∧ (dgetD (.tup primes) (.int j)).or (ixD (.tup primes) (.int j)) = some (.int p) := by
  have : j = 0 ∨ j = 1 ∨ j = 2 ∨ j = 3 ∨ j = 4 ∨ j = 5 ∨ j = 6 ∨ j = 7 ∨ j = 8 ∨ j = 9 ∨ j = 10 ∨ j = 11 ∨ j = 12 ∨ j = 13 ∨ j = 14 ∨ j = 15 := by omega
  rcases this with e | e | e | e | e | e | e | e | e | e | e | e | e | e | e | e <;> subst e <;> exact ⟨_, by decide, rfl⟩
theorem r_draw (c k b : Int) (hc : c.natAbs < 2 ^ 200) (hk : 0 ≤ k) (hk2 : k < 100) (hb : 0 < b) : ∃ (v : Int) (S : Sto), (0 ≤ v ∧ v < b) ∧ s__law_draw [.im (.int c), .im (.int k), .im (.int b)] [] = .ok (.im (.int v)) S := by
  obtain ⟨p, hp, e⟩ := prime_at (k % 16) (by omega) (by omega)
  refine ⟨(c * 48271 + k * 69621) % p % b, [], ⟨Int.emod_nonneg _ (by omega), Int.emod_lt_of_pos _ hb⟩, semRun ?_⟩
  unfold m__law_draw
  refine seq (asgS (x := .im (.tup primes)) rfl rfl) (retS ?_)
  refine binE (binE (cbE (oneA (binE (binE (varE rfl) rfl (bMul hc (by decide))) (binE (varE rfl) rfl (bMul (by omega) (by decide))) bAdd)) cInt) (subE (varE rfl) (binE (cbE (oneA (varE rfl)) cInt) rfl (bMod (by omega))) rfl rfl e) (bMod hp)) (varE rfl) (bMod hb)
theorem r_number (c k b : Int) (hk : 1 ≤ k) (hk2 : k ≤ 12) (hb : 0 < b) : ∃ (v : Int) (S : Sto), (0 ≤ v ∧ v < b) ∧ s__law_number [.im (.int c), .im (.int k), .im (.int b)] [] = .ok (.im (.int v)) S := by
  have hj0 : 0 ≤ k % 24 := by omega
  have hj1 : k % 24 < 13 := by omega
  obtain ⟨γ2, S2, e1, x, e2, e3⟩ := forInv (Γ := G19) (G := X0) (tg := .name 4) (i := .rng1 (.acons (.bin .Mod (.callB .int (.acons (.var 1) .anil)) (.con (.int 24))) .anil)) (b := .bcons (.asg (.name 3) (.bin .Mult (.var 3) (.con (.int 1009)))) .bnil)
    (List.range (k % 24).toNat) (fun i => D.int (0 + (i : Int))) (fun j γ S => ∃ x, γ = [some (.im (.int c)), some (.im (.int k)), some (.im (.int b)), some (.im (.int (1009 ^ j))), x, none, none] ∧ S = [])
    (γ := [some (.im (.int c)), some (.im (.int k)), some (.im (.int b)), some (.im (.int 1)), none, none, none]) (S := []) (S1 := [])
    (rng1E (oneA (binE (cbE (oneA (varE rfl)) cInt) rfl (bMod (by omega)))) hj0 (by omega)) (fun _ _ _ _ => rfl) ⟨none, rfl, rfl⟩ (fun j hj γ S ⟨x, h1, h2⟩ => by
      subst h1 h2
      have hj' : j < 13 := by rw [List.length_range] at hj; omega
      have hp : (1009 ^ j : Int).natAbs < 2 ^ 200 := by
        rw [Int.natAbs_pow]
        exact Nat.lt_of_le_of_lt (Nat.pow_le_pow_right (by decide) (show j ≤ 12 by omega)) (by decide)
      refine ⟨_, rfl, _, _, seq (asgS (binE (varE rfl) rfl (bMul hp (by decide))) rfl) rfl, some (.im (.int (0 + ((List.range (k % 24).toNat)[j]'hj : Nat)))), ?_, rfl⟩
      rw [Int.pow_succ]; rfl)
  subst e2 e3
  rw [List.length_range] at e1
  have hp0 : (0 : Int) < 1009 ^ (k % 24).toNat := Int.pow_pos (by decide)
  have hp : (1009 ^ (k % 24).toNat : Int).natAbs < 2 ^ 300 := by
    rw [Int.natAbs_pow]
    exact Nat.lt_of_le_of_lt (Nat.pow_le_pow_right (by decide) (show (k % 24).toNat ≤ 12 by omega)) (by decide)
  by_cases cpos : 0 < (c - 10 ^ 18) / 1009 ^ (k % 24).toNat
  · refine ⟨(c - 10 ^ 18) / 1009 ^ (k % 24).toNat % 1009 % b, [], ⟨Int.emod_nonneg _ (by omega), Int.emod_lt_of_pos _ hb⟩, semRun ?_⟩
    unfold m__law_number
    refine seq (asgS rfl rfl) (seq e1 (seq (asgS (binE (binE (varE rfl) rfl bSub) (varE rfl) (bDiv hp0 hp)) rfl) (seqR ?_)))
    refine iffT (valT ?_) (retS ?_)
    · show R.ok (Vl.im (D.bl (decide ((0 : Int) < _)))) [] = _
      rw [decide_eq_true]
      exact cpos
    · exact binE (binE (cbE (oneA (varE rfl)) cInt) rfl (bMod (by decide))) (varE rfl) (bMod hb)
  · have q0 := Int.emod_nonneg c (show (1000003 : Int) ≠ 0 by decide)
    have q1 := Int.emod_lt_of_pos c (show (0 : Int) < 1000003 by decide)
    have hs : ((c % 1000003 + 977 * k) * (c % 1000003 + 31 * k + 5)).natAbs < 2 ^ 200 := by
      rw [Int.natAbs_mul]
      have a1 : (c % 1000003 + 977 * k).natAbs < 2 ^ 40 := by omega
      have a2 : (c % 1000003 + 31 * k + 5).natAbs < 2 ^ 40 := by omega
      exact Nat.lt_of_le_of_lt (Nat.mul_le_mul (Nat.le_of_lt a1) (Nat.le_of_lt a2)) (by decide)
    obtain ⟨v, S', ⟨v0, v1⟩, e⟩ := r_draw ((c % 1000003 + 977 * k) * (c % 1000003 + 31 * k + 5)) (k % 9 + 1) 999983 hs (by omega) (by omega) (by decide)
    refine ⟨v % b, [], ⟨Int.emod_nonneg _ (by omega), Int.emod_lt_of_pos _ hb⟩, semRun ?_⟩
    unfold m__law_number
    refine seq (asgS rfl rfl) (seq e1 (seq (asgS (binE (binE (varE rfl) rfl bSub) (varE rfl) (bDiv hp0 hp)) rfl) (seq (iffF (valT ?_)) (seq (asgS (binE (cbE (oneA (varE rfl)) cInt) rfl (bMod (by decide))) rfl) (retS ?_)))))
    · show R.ok (Vl.im (D.bl (decide ((0 : Int) < _)))) [] = _
      rw [decide_eq_false]
      exact cpos
    · refine binE (callE rfl (consA (binE (binE (varE rfl) (binE rfl (varE rfl) (bMul (by decide) (by omega))) bAdd) (binE (binE (varE rfl) (binE rfl (varE rfl) (bMul (by decide) (by omega))) bAdd) rfl bAdd) (bMul (by omega) (by omega))) (consA (binE (binE (cbE (oneA (varE rfl)) cInt) rfl (bMod (by decide))) rfl bAdd) (oneA rfl))) ?_) (varE rfl) (bMod hb)
      exact call_ok (ds := [_, _, _]) rfl e _ _
theorem r_next (ns : List Int) (n b : Int) (hn : 0 ≤ n) (hn2 : n < 1000000) (hb : 0 < b) : ∃ v : Int, (0 ≤ v ∧ v < b) ∧ s__law_next [.cl 0, .im (.int b)] [some (dcell ns n)] = .ok (.im (.int v)) [some (dcell ns (n + 1))] := by
  obtain ⟨z, S', e1⟩ := r_cell_at ns (0 + (n + 1) / 12) (by omega)
  obtain ⟨v, S2, hv, e2⟩ := r_number (z + 31 * ((n + 1) / 12)) ((n + 1) % 12 + 1) b (by omega) (by omega) hb
  refine ⟨v, hv, semRun ?_⟩
  unfold m__law_next
  refine seq (γ1 := [some (.cl 0), some (.im (.int b)), none, none]) (S1 := [some (dcell ns (n + 1))]) rfl ?_
  refine seq (asgS (binE rfl rfl (bDiv (by decide) (by decide))) rfl) (seq (asgS (binE (callE rfl (consA rfl (oneA (binE rfl (varE rfl) bAdd))) (call_ok (ds := [_, _]) rfl e1 _ _)) (binE rfl (varE rfl) (bMul (by decide) (by omega))) bAdd) rfl) (retS ?_))
  exact callE rfl (consA (varE rfl) (consA (binE (binE (cbE (oneA rfl) cInt) rfl (bMod (by decide))) rfl bAdd) (oneA (varE rfl)))) (call_ok (ds := [_, _, _]) rfl e2 _ _)
/-- a call whose first argument is the cell of the draws -/
theorem nextE {Γ : GE} {ns : List Int} {n b : Int} (hn : 0 ≤ n) (hn2 : n < 1000000) (hb : 0 < b) : ∃ v : Int, (0 ≤ v ∧ v < b) ∧ ∀ (as : ME .A) (γ : Gam) (S S1 : Sto) (i k : Nat) (Γ : GE) (x : Str), Γ.fns[k]? = some (x, r__law_next_2) → ev Γ X0 as γ S = .ok [.cl i, .im (.int b)] S1 → S1[i]? = some (some (dcell ns n)) → ev Γ X0 (.callF k as) γ S = .ok (.im (.int v)) (S1.set i (some (dcell ns (n + 1)))) := by
  obtain ⟨v, hv, e⟩ := r_next ns n b hn hn2 hb
  refine ⟨v, hv, fun as γ S S1 i k Γ x hf ha hi => callE hf ha ?_⟩
  exact call_cl (ds := [_]) rfl hi e
theorem r_pick (ns : List Int) (n : Int) (ds : List D) (hn : 0 ≤ n) (hn2 : n < 1000000) (hb : ds ≠ []) : ∃ d ∈ ds, s__law_pick [.cl 0, .im (.lst ds)] [some (dcell ns n)] = .ok (.im d) [some (dcell ns (n + 1))] := by
  have h0 : 0 < ds.length := List.length_pos_iff.mpr hb
  obtain ⟨v, ⟨v0, v1⟩, e⟩ := nextE (Γ := G21) (ns := ns) (n := n) (b := (ds.length : Int)) hn hn2 (by omega)
  refine ⟨ds[v.toNat]'(by omega), List.getElem_mem _, semRun ?_⟩
  unfold m__law_pick
  refine retS (subE (varE rfl) (e _ _ _ [some (dcell ns n)] 0 11 G21 _ rfl (consA rfl (oneA (cbE (oneA (varE rfl)) rfl))) rfl) rfl rfl ?_)
  show atI ds v = _
  exact atI_at v0 (by omega)
theorem pickE {ns : List Int} {n : Int} {ds : List D} (hn : 0 ≤ n) (hn2 : n < 1000000) (hb : ds ≠ []) : ∃ d ∈ ds, ∀ (as : ME .A) (γ : Gam) (S S1 : Sto) (i k : Nat) (Γ : GE) (x : Str), Γ.fns[k]? = some (x, r__law_pick_2) → ev Γ X0 as γ S = .ok [.cl i, .im (.lst ds)] S1 → S1[i]? = some (some (dcell ns n)) → ev Γ X0 (.callF k as) γ S = .ok (.im d) (S1.set i (some (dcell ns (n + 1)))) := by
  obtain ⟨d, hd, e⟩ := r_pick ns n ds hn hn2 hb
  refine ⟨d, hd, fun as γ S S1 i k Γ x hf ha hi => callE hf ha ?_⟩
  exact call_cl (ds := [_]) rfl hi e
end K02
namespace DL
open PySem PySem.Spec L2
open PyProof.Rows hiding St
mutual
/-- the same data -/
def sD : D → D → Bool
  | .non, .non => true
  | .bl a, .bl b => a == b
  | .int i, .int j => decide (i = j)
  | .str x, .str y => decide (x = y)
  | .lst xs, .lst ys => sDs xs ys
  | .tup xs, .tup ys => sDs xs ys
  | _, _ => false
def sDs : List D → List D → Bool
  | [], [] => true
  | x :: xs, y :: ys => sD x y && sDs xs ys
  | _, _ => false
end
mutual
theorem sD_eq : ∀ a b : D, sD a b = true → a = b
  | .non, b, h => by cases b <;> simp [sD] at h ⊢
  | .bl a, b, h => by cases b <;> simp [sD] at h ⊢ <;> exact h
  | .int a, b, h => by cases b <;> simp [sD] at h ⊢ <;> exact h
  | .str a, b, h => by cases b <;> simp [sD] at h ⊢ <;> exact h
  | .lst xs, b, h => by cases b <;> simp [sD] at h ⊢ <;> exact sDs_eq xs _ h
  | .tup xs, b, h => by cases b <;> simp [sD] at h ⊢ <;> exact sDs_eq xs _ h
  | .dct t k, b, h => by cases b <;> simp [sD] at h
  | .ins c f, b, h => by cases b <;> simp [sD] at h
  | .scr n, b, h => by cases b <;> simp [sD] at h
theorem sDs_eq : ∀ xs ys : List D, sDs xs ys = true → xs = ys
  | [], [], _ => rfl
  | [], _ :: _, h => by simp [sDs] at h
  | _ :: _, [], h => by simp [sDs] at h
  | x :: xs, y :: ys, h => by
    simp only [sDs, Bool.and_eq_true] at h
    rw [sD_eq x y h.1, sDs_eq xs ys h.2]
end
def okD (x : R Vl) (d : D) : Bool := match x with
  | .ok (.im e) _ => sD e d
  | _ => false
theorem okD_eq {x : R Vl} {d : D} (h : okD x d = true) : ∃ S, x = .ok (.im d) S := by
  unfold okD at h
  split at h
  · rename_i e S
    exact ⟨S, by rw [sD_eq e d h]⟩
  · cases h
end DL
namespace K02
open PySem PySem.Spec L2 DL
open PyProof.Rows hiding St
variable [Tbl]
abbrev Pr := Str × Str
inductive Rule where
  | F (h : Bool) (o : Str) (ps : List Pr)
  | R (a b : Str)
  | M (a b c : Str)
  | K (ws : List Str)
  deriving DecidableEq
def pD (p : Pr) : D := .tup [.str p.1, .str p.2]
def kd : Rule → Str
  | .F h _ _ => match h with
    | true => "hand"
    | false => "fetch"
  | .R _ _ => "raise"
  | .M _ _ _ => "meet"
  | .K _ => "make"
def rD : Rule → D
  | .F h o ps => .tup [.str (kd (.F h o ps)), .str o, .tup (ps.map pD)]
  | .R a b => .tup [.str "raise", .str a, .str b]
  | .M a b c => .tup [.str "meet", .str a, .str b, .str c]
  | .K ws => .tup [.str "make", .tup (ws.map D.str)]
/-- with lists turned -/
def tR : Rule → D
  | .F h o ps => .tup [.str (kd (.F h o ps)), .str o, .lst (ps.map pD).reverse]
  | .K ws => .tup [.str "make", .lst (ws.map D.str).reverse]
  | r => rD r
def wR : Rule → List Str
  | .F _ o ps => o :: ps.flatMap fun p => [p.1, p.2]
  | .R a b => [a, b]
  | .M a b c => [a, b, c]
  | .K ws => ws
abbrev W : List Str := ["g", "r", "t", "w"]
def pLt (p q : Pr) : Bool := tLt [.inr p.1, .inr p.2] [.inr q.1, .inr q.2]
def psort (l : List Pr) : List Pr := isort pLt l
def WW : List Pr := W.flatMap fun a => W.map fun b => (a, b)
/-- the pairs of a rule: one, or one and (o, o) -/
def psOf (o : Str) (p : Pr) : Bool → List Pr
  | true => psort [p, (o, o)]
  | false => [p]
def RFo (h : Bool) (o : Str) : List Rule := WW.flatMap fun p => .F h o (psOf o p false) :: (if p = (o, o) then [] else [.F h o (psOf o p true)])
def RF (h : Bool) : List Rule := W.flatMap (RFo h)
def RL : List Rule := RF false ++ RF true ++ (WW.map fun p => .R p.1 p.2) ++ (W.flatMap fun a => WW.map fun p => .M a p.1 p.2) ++ WW.map fun p => .K (srt (dedup [p.1, p.2]))
def chk1 (r : Rule) : Bool := okD (s_is_rule [.im (rD r)] []) (.bl true) && okD (s_is_rule [.im (tR r)] []) (.bl true) && okD (s_plain_rule [.im (rD r)] []) (rD r) && okD (s_plain_rule [.im (tR r)] []) (rD r) && okD (s_words_of [.im (rD r)] []) (.lst ((wR r).map D.str)) && okD (s__law_words [.im (rD r)] []) (.lst ((wR r).map D.str))
set_option maxHeartbeats 0 in
theorem chk_F0g : (RFo false "g").all chk1 = true := by kernel_rfl
set_option maxHeartbeats 0 in
theorem chk_F0r : (RFo false "r").all chk1 = true := by kernel_rfl
set_option maxHeartbeats 0 in
theorem chk_F0t : (RFo false "t").all chk1 = true := by kernel_rfl
set_option maxHeartbeats 0 in
theorem chk_F0w : (RFo false "w").all chk1 = true := by kernel_rfl
theorem chk_F0 : (RF false).all chk1 = true := by
  show (RFo false "g" ++ (RFo false "r" ++ (RFo false "t" ++ (RFo false "w" ++ [])))).all chk1 = true
  rw [List.all_append, List.all_append, List.all_append, List.all_append, chk_F0g, chk_F0r, chk_F0t, chk_F0w]; rfl
set_option maxHeartbeats 0 in
theorem chk_F1g : (RFo true "g").all chk1 = true := by kernel_rfl
set_option maxHeartbeats 0 in
theorem chk_F1r : (RFo true "r").all chk1 = true := by kernel_rfl
set_option maxHeartbeats 0 in
theorem chk_F1t : (RFo true "t").all chk1 = true := by kernel_rfl
set_option maxHeartbeats 0 in
theorem chk_F1w : (RFo true "w").all chk1 = true := by kernel_rfl
theorem chk_F1 : (RF true).all chk1 = true := by
  show (RFo true "g" ++ (RFo true "r" ++ (RFo true "t" ++ (RFo true "w" ++ [])))).all chk1 = true
  rw [List.all_append, List.all_append, List.all_append, List.all_append, chk_F1g, chk_F1r, chk_F1t, chk_F1w]; rfl
set_option maxHeartbeats 0 in
theorem chk_R : (WW.map fun p => Rule.R p.1 p.2).all chk1 = true := by kernel_rfl
set_option maxHeartbeats 0 in
theorem chk_M : (W.flatMap fun a => WW.map fun p => Rule.M a p.1 p.2).all chk1 = true := by kernel_rfl
set_option maxHeartbeats 0 in
theorem chk_K : (WW.map fun p => Rule.K (srt (dedup [p.1, p.2]))).all chk1 = true := by kernel_rfl
theorem chk_all : RL.all chk1 = true := by
  unfold RL
  rw [List.all_append, List.all_append, List.all_append, List.all_append, chk_F0, chk_F1, chk_R, chk_M, chk_K]; rfl
structure ROk (r : Rule) : Prop where
  is1 : ∃ S, s_is_rule [.im (rD r)] [] = .ok (.im (.bl true)) S
  is2 : ∃ S, s_is_rule [.im (tR r)] [] = .ok (.im (.bl true)) S
  pl1 : ∃ S, s_plain_rule [.im (rD r)] [] = .ok (.im (rD r)) S
  pl2 : ∃ S, s_plain_rule [.im (tR r)] [] = .ok (.im (rD r)) S
  wd : ∃ S, s_words_of [.im (rD r)] [] = .ok (.im (.lst ((wR r).map D.str))) S
  wl : ∃ S, s__law_words [.im (rD r)] [] = .ok (.im (.lst ((wR r).map D.str))) S
theorem r_ok {r : Rule} (h : r ∈ RL) : ROk r := by
  have := List.all_eq_true.mp chk_all r h
  unfold chk1 at this
  simp only [Bool.and_eq_true] at this
  obtain ⟨⟨⟨⟨⟨h1, h2⟩, h3⟩, h4⟩, h5⟩, h6⟩ := this
  exact ⟨okD_eq h1, okD_eq h2, okD_eq h3, okD_eq h4, okD_eq h5, okD_eq h6⟩
end K02
namespace K02
open PySem PySem.Spec L2 DL
open PyProof.Rows hiding St
variable [Tbl]
theorem eqb_p (p q : Pr) : D.eqb (pD p) (pD q) = decide (p = q) := by
  obtain ⟨a, b⟩ := p
  obtain ⟨a', b'⟩ := q
  show (D.eqb (.str a) (.str a') && (D.eqb (.str b) (.str b') && true)) = _
  rw [eqb_str, eqb_str, Bool.and_true, ← Bool.decide_and]
  exact decide_eq_decide.mpr (by simp only [Prod.mk.injEq])
theorem b2 {p q : Prop} [Decidable p] [Decidable q] : (decide p && decide q) = decide (p ∧ q) := (Bool.decide_and p q).symm
theorem eqb_r (r t : Rule) : D.eqb (rD r) (rD t) = decide (r = t) := by
  cases r with
  | F h o ps =>
    cases t with
    | F h' o' ps' =>
      show (D.eqb (.str _) (.str _) && (D.eqb (.str o) (.str o') && (D.eqbs (ps.map pD) (ps'.map pD) && true))) = _
      rw [eqb_str, eqb_str, eqbs_map eqb_p, Bool.and_true, b2, b2]
      refine decide_eq_decide.mpr ?_
      have hne : Str.ofString "fetch" ≠ Str.ofString "hand" := by decide +kernel
      cases h <;> cases h' <;> simp [kd, hne, hne.symm]
    | R a b => cases h <;> kernel_rfl
    | M a b c => cases h <;> kernel_rfl
    | K ws => cases h <;> kernel_rfl
  | R a b =>
    cases t with
    | F h' o' ps' => cases h' <;> kernel_rfl
    | R a' b' =>
      show (D.eqb (.str "raise") (.str "raise") && (D.eqb (.str a) (.str a') && (D.eqb (.str b) (.str b') && true))) = _
      rw [eqb_str, eqb_str, eqb_str, Bool.and_true, b2, b2]
      exact decide_eq_decide.mpr (by simp)
    | M a b c => kernel_rfl
    | K ws => kernel_rfl
  | M a b c =>
    cases t with
    | F h' o' ps' => cases h' <;> kernel_rfl
    | R a' b' => kernel_rfl
    | M a' b' c' =>
      show (D.eqb (.str "meet") (.str "meet") && (D.eqb (.str a) (.str a') && (D.eqb (.str b) (.str b') && (D.eqb (.str c) (.str c') && true)))) = _
      rw [eqb_str, eqb_str, eqb_str, eqb_str, Bool.and_true, b2, b2, b2]
      exact decide_eq_decide.mpr (by simp)
    | K ws => kernel_rfl
  | K ws =>
    cases t with
    | F h' o' ps' => cases h' <;> kernel_rfl
    | R a' b' => kernel_rfl
    | M a b c => kernel_rfl
    | K ws' =>
      show (D.eqb (.str "make") (.str "make") && (D.eqbs (ws.map D.str) (ws'.map D.str) && true)) = _
      rw [eqb_str, eqbs_map eqb_str, Bool.and_true, b2]
      exact decide_eq_decide.mpr (by simp)
theorem pln_r (r : Rule) : (rD r).pln = true := by
  cases r with
  | F h o ps =>
    show (true && (true && (D.plns (ps.map pD) && true))) = true
    rw [plns_map (fun _ => rfl)]; rfl
  | R a b => rfl
  | M a b c => rfl
  | K ws =>
    show (true && (D.plns (ws.map D.str) && true)) = true
    rw [plns_map (fun _ => rfl)]; rfl
theorem hgt_r (r : Rule) : (rD r).hgt ≤ 3 := by
  cases r with
  | F h o ps =>
    have := hgts_map (f := pD) (k := 1) (fun p => Nat.le_refl 1) ps
    show max 0 (max 0 (max (D.hgts (ps.map pD) + 1) 0)) + 1 ≤ 3
    omega
  | R a b => show 1 ≤ 3; omega
  | M a b c => show 1 ≤ 3; omega
  | K ws =>
    have := hgts_map (f := D.str) (k := 0) (fun p => Nat.le_refl 0) ws
    show max 0 (max (D.hgts (ws.map D.str) + 1) 0) + 1 ≤ 3
    omega
theorem eq_sq (t : Bool) (l m : List Rule) : eqD (sq t (l.map rD)) (sq t (m.map rD)) = some (decide (l = m)) := by
  have e1 : ∀ l : List Rule, (sq t (l.map rD)).pln = true := fun l => by cases t <;> exact plns_map pln_r l
  have e2 : ∀ l : List Rule, (sq t (l.map rD)).hgt ≤ 60 := fun l => by
    have := hgts_map hgt_r l
    cases t
    · show D.hgts (l.map rD) + 1 ≤ 60
      omega
    · show D.hgts (l.map rD) + 1 ≤ 60
      omega
  unfold eqD
  rw [e1, e1, decide_eq_true (e2 l), decide_eq_true (e2 m), if_pos (show (true && true && true && true) = true from rfl)]
  refine congrArg some ?_
  cases t <;> exact eqbs_map eqb_r l m
section
variable {Γ : GE} {G : GX} {γ γ1 γ2 : Gam} {S S1 S2 : Sto}
theorem eqR (t : Bool) (p q : List Rule) : evCmp Γ .Eq (.im (sq t (p.map rD))) (.im (sq t (q.map rD))) γ S = .ok (.im (.bl (decide (p = q)))) S := by
  have : evCmp Γ .Eq (.im (sq t (p.map rD))) (.im (sq t (q.map rD))) γ S = R.ofO ((eqD (sq t (p.map rD)) (sq t (q.map rD))).map D.bl) S := by cases t <;> rfl
  rw [this, eq_sq]; rfl
theorem neR (t : Bool) (p q : List Rule) : evCmp Γ .NotEq (.im (sq t (p.map rD))) (.im (sq t (q.map rD))) γ S = .ok (.im (.bl (!decide (p = q)))) S := by
  have : evCmp Γ .NotEq (.im (sq t (p.map rD))) (.im (sq t (q.map rD))) γ S = R.ofO ((eqD (sq t (p.map rD)) (sq t (q.map rD))).map fun c => D.bl (!c)) S := by cases t <;> rfl
  rw [this, eq_sq]; rfl
theorem neRe {t : Bool} {a b : ME .E} {l m : List Rule} (h : ev Γ G a γ S = .ok (.im (sq t (l.map rD))) S) (k : ev Γ G b γ S = .ok (.im (sq t (m.map rD))) S) (e : l = m) : ev Γ G (.val (.cmp .NotEq a b)) γ S = .ok false S := by
  subst e
  refine valT (cmpE h k ?_)
  rw [neR, decide_eq_true rfl]; rfl
theorem hgt50 (r : Rule) : (rD r).hgt ≤ 50 := Nat.le_trans (hgt_r r) (by decide)
theorem inR (t : Bool) (x : Rule) (l : List Rule) : evCmp Γ .In (.im (rD x)) (.im (sq t (l.map rD))) γ S = .ok (.im (.bl (has x l))) S := by
  have e : evCmp Γ .In (.im (rD x)) (.im (sq t (l.map rD))) γ S = R.ofO (inAD (rD x) (sq t (l.map rD))) S := by cases t <;> rfl
  have := in_sq eqb_r pln_r hgt50 t x l
  have e2 : inAD (rD x) (sq t (l.map rD)) = some (.bl (has x l)) := by
    cases t
    · show Option.or (Option.or ((inD (rD x) (sq false (l.map rD))).map D.bl) none) _ = _
      rw [this]; rfl
    · show Option.or (Option.or none ((inD (rD x) (sq true (l.map rD))).map D.bl)) _ = _
      rw [this]; rfl
  rw [e, e2]; rfl
theorem ninR (t : Bool) (x : Rule) (l : List Rule) : evCmp Γ .NotIn (.im (rD x)) (.im (sq t (l.map rD))) γ S = .ok (.im (.bl (!has x l))) S := by
  have e : evCmp Γ .NotIn (.im (rD x)) (.im (sq t (l.map rD))) γ S = R.ofO (ninAD (rD x) (sq t (l.map rD))) S := by cases t <;> rfl
  have := in_sq eqb_r pln_r hgt50 t x l
  have e2 : ninAD (rD x) (sq t (l.map rD)) = some (.bl (!has x l)) := by
    cases t
    · show Option.or (Option.or ((inD (rD x) (sq false (l.map rD))).map fun c => D.bl (!c)) none) _ = _
      rw [this]; rfl
    · show Option.or (Option.or none ((inD (rD x) (sq true (l.map rD))).map fun c => D.bl (!c))) _ = _
      rw [this]; rfl
  rw [e, e2]; rfl
theorem ix0 (r : Rule) : (dgetD (rD r) (.int 0)).or (ixD (rD r) (.int 0)) = some (.str (kd r)) := by
  cases r with
  | F h o ps => cases h <;> rfl
  | _ => rfl
theorem ix0t (r : Rule) : (dgetD (tR r) (.int 0)).or (ixD (tR r) (.int 0)) = some (.str (kd r)) := by
  cases r with
  | F h o ps => cases h <;> rfl
  | _ => rfl
theorem kindE {i : Nat} {r : Rule} (h : γ[i]? = some (some (.im (rD r)))) : ev Γ G (.sub (.var i) (.con (.int 0))) γ S = .ok (.im (.str (kd r))) S := subE (e := .int 0) (varE h) rfl rfl rfl (ix0 r)
theorem isMk {e : ME .E} {x : Str} (h : ev Γ G e γ S = .ok (.im (.str x)) S) : ev Γ G (.val (.cmp .Eq e (.con (.str "make")))) γ S = .ok (decide (x = "make")) S := valT (cmpE h rfl (eq_SS x "make"))
theorem notMk {e : ME .E} {x : Str} (h : ev Γ G e γ S = .ok (.im (.str x)) S) : ev Γ G (.val (.cmp .NotEq e (.con (.str "make")))) γ S = .ok (!decide (x = "make")) S := by
  refine valT (cmpE h rfl ?_)
  show R.ofO ((eqD (.str x) (.str "make")).map fun c => D.bl (!c)) S = _
  rw [eq_S]; rfl
theorem strMap {α : Type} (f : α → Str) (l : List α) : (l.map fun x => D.str (f x)) = (l.map f).map D.str := by rw [List.map_map]; rfl
theorem slSq (t : Bool) (ds : List D) (k : Int) (h : 0 ≤ k) : slD (sq t ds) none (some k) = some (sq t (ds.take k.toNat)) := by
  cases t
  · show some (D.lst (cutL ds none (some k))) = _
    rw [cut_le _ _ h]; rfl
  · show some (D.tup (cutL ds none (some k))) = _
    rw [cut_le _ _ h]; rfl
end
/-- no two rules that make -/
def One (rs : List Rule) : Prop := rs.Pairwise fun r s => ¬ (kd r = "make" ∧ kd s = "make")
theorem one_take {rs : List Rule} (h : One rs) (j : Nat) (hj : j < rs.length) (hk : kd rs[j] = "make") : has ("make" : Str) ((rs.take j).map kd) = false := by
  refine has_f fun hm => ?_
  obtain ⟨r, hr, e⟩ := List.mem_map.mp hm
  obtain ⟨i, hi, rfl⟩ := List.getElem_of_mem hr
  rw [List.length_take] at hi
  rw [List.getElem_take] at e
  exact (List.pairwise_iff_getElem.mp h) i j (by omega) hj (by omega) ⟨e, hk⟩
end K02
namespace K02
open PySem PySem.Spec L2 DL
open PyProof.Rows hiding St
variable [Tbl]
/-- what stands for a rule where a policy is made -/
structure For (f : Rule → D) (r : Rule) : Prop where
  is1 : ∃ S, s_is_rule [.im (f r)] [] = .ok (.im (.bl true)) S
  pl : ∃ S, s_plain_rule [.im (f r)] [] = .ok (.im (rD r)) S
  k : (dgetD (f r) (.int 0)).or (ixD (f r) (.int 0)) = some (.str (kd r))
theorem for_r {r : Rule} (h : r ∈ RL) : For rD r := ⟨(r_ok h).is1, (r_ok h).pl1, ix0 r⟩
theorem for_t {r : Rule} (h : r ∈ RL) : For tR r := ⟨(r_ok h).is2, (r_ok h).pl2, ix0t r⟩
theorem zip_map {f : Rule → D} (rs : List Rule) : enumD (rs.map f) = rs.zipIdx.map fun p => D.tup [.int p.2, f p.1] := by
  unfold enumD
  rw [List.zipIdx_map, List.map_map]
  rfl
theorem isi_sqP {Γ : GE} {G : GX} {γ : Gam} {S S1 : Sto} (t : Bool) (ds : List D) {e : ME .E} (hg : Γ.is = isT [("Policy" : Str)]) (h : ev Γ G e γ S = .ok (.im (sq t ds)) S1) : ev Γ G (.isiT e [(.bt "list"), (.bt "tuple")]) γ S = .ok (.im (.bl true)) S1 := by
  refine unE h rfl ?_
  unfold isTD
  rw [hg]
  cases t <;> rfl
def polD (rs : List Rule) : D := .ins "Policy" [("rules", .tup (rs.map rD))]
theorem gt_int {Γ : GE} {γ : Gam} {S : Sto} {a b : Int} (h : ¬ b < a) : evCmp Γ .Gt (.im (.int a)) (.im (.int b)) γ S = .ok (.im (.bl false)) S := by
  show R.ok (Vl.im (D.bl (decide (b < a)))) S = _
  rw [decide_eq_false h]
theorem r_init (t : Bool) (f : Rule → D) (rs : List Rule) (hl : rs.length ≤ 12) (hf : ∀ r ∈ rs, For f r) (one : One rs) : s_Policy___init__ [.cl 0, .im (sq t (rs.map f))] [some (.ins "Policy" [])] = .ok (.im .non) [some (.ins "Policy" [("rules", .tup (rs.map rD))])] := by
  have z : sizeLine = 16777216 := rfl
  have hz : rs.length ≤ sizeLine := by omega
  obtain ⟨its, i1, i2⟩ := enumE (Γ := G7) (G := X0) (e := .var 1) (t := t) (ds := rs.map f) (γ := [some (.cl 0), some (.im (sq t (rs.map f))), none, none, none]) (S := [some (.ins "Policy" [])]) (S1 := [some (.ins "Policy" [])]) rfl
  obtain ⟨γ2, S2, ef, a, b, e1, e2⟩ := forInv (Γ := G7) (G := X0) (tg := .tup 2 (.cons (.name 2) (.cons (.name 3) .nil))) (b := .bcons (.iff (.or (.not (.val (.callF 5 (.acons (.var 3) .anil)))) (.and (.val (.cmp .Eq (.sub (.var 3) (.con (.int 0))) (.con (.str "make")))) (.val (.cmp .In (.con (.str "make")) (.lc (.name 4) [4] (.any (.sl (.var 1) .onone (.osome (.var 2)))) .cnil (.sub (.var 4) (.con (.int 0)))))))) (.bcons (.rai 1 (.acons (.var 2) .anil)) .bnil) .bnil) .bnil)
    rs.zipIdx (fun p => D.tup [.int p.2, f p.1]) (fun j γ S => ∃ a b, γ = [some (.cl 0), some (.im (sq t (rs.map f))), a, b, none] ∧ S = [some (.ins "Policy" [])]) i1 (fun j γ S _ => by rw [i2, zip_map]) ⟨none, none, rfl, rfl⟩ (fun j hj γ S ⟨a, b, e1, e2⟩ => by
      subst e1 e2
      have hj' : j < rs.length := by rw [List.length_zipIdx] at hj; exact hj
      rw [List.getElem_zipIdx, Nat.zero_add]
      refine ⟨_, rfl, _, _, seq (iffF ?_) rfl, some (.im (.int j)), some (.im (f rs[j])), rfl, rfl⟩
      have hr := hf rs[j] (List.getElem_mem hj')
      obtain ⟨Si, hi⟩ := hr.is1
      refine orF (notT (p := true) (valT (callE rfl (oneA (varE rfl)) (call_ok (ds := [_]) rfl hi _ _)))) ?_
      have hk : ∀ γ : Gam, γ[3]? = some (some (.im (f rs[j]))) → ev G7 X0 (.val (.cmp .Eq (.sub (.var 3) (.con (.int 0))) (.con (.str "make")))) γ [some (.ins "Policy" [])] = .ok (decide (kd rs[j] = "make")) [some (.ins "Policy" [])] := fun γ h => isMk (subE (e := .int 0) (varE h) rfl rfl rfl hr.k)
      have ha := and1 (hk [some (.cl 0), some (.im (sq t (rs.map f))), some (.im (.int j)), some (.im (f rs[j])), none] rfl) (b := .val (.cmp .In (.con (.str "make")) (.lc (.name 4) [4] (.any (.sl (.var 1) .onone (.osome (.var 2)))) .cnil (.sub (.var 4) (.con (.int 0)))))) (q := false) fun hp => ?_
      · rw [Bool.and_false] at ha
        exact ha
      · have hkj := of_decide_eq_true hp
        obtain ⟨its3, k1, k2⟩ := anySq (Γ := G7) (G := X0) (t := t) (ds := ((rs.take j).map f)) (e := .sl (.var 1) .onone (.osome (.var 2))) (γ := [some (.cl 0), some (.im (sq t (rs.map f))), some (.im (.int j)), some (.im (f rs[j])), none]) (S := [some (.ins "Policy" [])]) (S1 := [some (.ins "Policy" [])]) (slE (k := (j : Int)) (varE rfl) (varE rfl) rfl (by rw [slSq t _ _ (Int.natCast_nonneg _), Int.toNat_natCast, List.map_take]))
        have hm := lcMap (Γ := G7) (G := X0) (tg := .name 4) (vs := [4]) (e := .sub (.var 4) (.con (.int 0))) (rs.take j) f (fun r => .str (kd r)) k1 k2 (by rw [List.length_take]; omega) fun r hr => ⟨_, rfl, subE (e := .int 0) (varE rfl) rfl rfl rfl (hf r (List.mem_of_mem_take hr)).k⟩
        rw [strMap] at hm
        refine valT (cmpE rfl hm ?_)
        have := in_sqN (Γ := G7) (γ := [some (.cl 0), some (.im (sq t (rs.map f))), some (.im (.int j)), some (.im (f rs[j])), none]) (S := [some (.ins "Policy" [])]) false "make" ((rs.take j).map kd)
        rw [one_take one j hj' hkj] at this
        exact this)
  subst e1 e2
  refine semRunN (γ1 := [some (.cl 0), some (.im (sq t (rs.map f))), a, b, none]) ?_
  unfold m_Policy___init__
  refine seq (iffF (orF (notT (p := true) (valT (isi_sqP t _ rfl (varE rfl)))) (valT (cmpE (cbE (oneA (varE rfl)) (len_sq t _)) rfl (gt_int (by rw [List.length_map]; omega)))))) ?_
  refine seq ef ?_
  obtain ⟨its3, k1, k2⟩ := anySq (Γ := G7) (G := X0) (t := t) (ds := rs.map f) (e := .var 1) (γ := [some (.cl 0), some (.im (sq t (rs.map f))), a, b, none]) (S := [some (.ins "Policy" [])]) (S1 := [some (.ins "Policy" [])]) rfl
  have hm := lcMap (Γ := G7) (G := X0) (tg := .name 3) (vs := [3]) (e := .callF 6 (.acons (.var 3) .anil)) rs f rD k1 k2 hz fun r hr => by
    obtain ⟨Sp, hp⟩ := (hf r hr).pl
    exact ⟨_, rfl, callE rfl (oneA (varE rfl)) (call_ok (ds := [_]) rfl hp _ _)⟩
  refine seq (fldSE (f := "rules") (cs := ["Policy"]) (d := .tup (rs.map rD)) (k := 0) (c := "Policy") (fs := []) rfl (cbE (oneA hm) rfl) rfl rfl rfl (by decide)) rfl
section
variable {Γ : GE} {γ γ1 γ2 : Gam} {S S1 S2 : Sto}
theorem mkP {as : ME .A} {t : Bool} {f : Rule → D} {rs : List Rule} (hm : Γ.mks[0]? = some (("Policy" : Str), r_Policy___init___1)) (hl : rs.length ≤ 12) (hf : ∀ r ∈ rs, For f r) (one : One rs) (ha : ev Γ X0 as γ S = .ok [.im (sq t (rs.map f))] S1) : ev Γ X0 (.make 0 true as) γ S = .ok (.im (polD rs)) S1 :=
  makeE (ds := [_]) hm ha rfl (r_init t f rs hl hf one)
end
theorem r_len (rs : List Rule) : s_Policy___len__ [.im (polD rs)] [] = .ok (.im (.int rs.length)) [] := by
  show R.ok (Vl.im (D.int ((rs.map rD).length : Int))) [] = _
  rw [List.length_map]
theorem r_eq (rs ss : List Rule) : s_Policy___eq__ [.im (polD rs), .im (polD ss)] [] = .ok (.im (.bl (decide (rs = ss)))) [] := by
  refine semRun ?_
  unfold m_Policy___eq__
  have := ofT (and1 (Γ := G8) (G := X0) (γ := [some (.im (polD rs)), some (.im (polD ss))]) (S := []) (a := .val (.isi (.var 1) (.own "Policy"))) (b := .val (.cmp .Eq (.fld 0 (.var 0)) (.fld 0 (.var 1)))) (p := true) (valT rfl) fun _ => valT (cmpE (fldE (d := polD rs) (r := .tup (rs.map rD)) rfl (varE rfl) rfl) (fldE (d := polD ss) (r := .tup (ss.map rD)) rfl (varE rfl) rfl) (eqR true rs ss)))
  exact retS this
section
variable {Γ : GE} {G : GX} {γ γ1 γ2 : Gam} {S S1 S2 : Sto}
theorem chn2 {a b c : ME .E} {i j k : Int} (h1 : ev Γ G a γ S = .ok (.im (.int i)) S) (h2 : ev Γ G b γ S = .ok (.im (.int j)) S) (h3 : ev Γ G c γ S = .ok (.im (.int k)) S) : ev Γ G (.chn .LtE .Lt a b c) γ S = .ok (.im (.bl (decide (i ≤ j) && decide (j < k)))) S := by
  show fChain (cmpD .LtE) (cmpD .Lt) (ev Γ G a) (ev Γ G b) (ev Γ G c) γ S = _
  unfold fChain
  rw [h1]
  show ((ev Γ G b γ S).bind fun y S2 => (lift2 (cmpD .LtE) (.im (.int i)) y S2).bind fun z S3 => match z.bl? with
    | some true => (ev Γ G c γ S3).bind fun w S4 => lift2 (cmpD .Lt) y w S4
    | some false => .ok (.im (.bl false)) S3
    | none => .bad) = _
  rw [h2]
  show (match (some (decide (i ≤ j)) : Option Bool) with
    | some true => (ev Γ G c γ S).bind fun w S4 => lift2 (cmpD .Lt) (.im (.int j)) w S4
    | some false => .ok (.im (.bl false)) S
    | none => .bad) = _
  cases decide (i ≤ j) with
  | false => rfl
  | true =>
    show (ev Γ G c γ S).bind (fun w S4 => lift2 (cmpD .Lt) (.im (.int j)) w S4) = _
    rw [h3]; rfl
end
theorem num_int (k n : Int) : s_is_number [.im (.int k), .im (.int n)] [] = .ok (.im (.bl (decide (0 ≤ k) && decide (k < n)))) [] := by
  refine semRun ?_
  unfold m_is_number
  have hw : s_is_whole [.im (.int k)] [] = .ok (.im (.bl true)) [] := rfl
  have := ofT (and1 (Γ := G2) (G := X0) (γ := [some (.im (.int k)), some (.im (.int n))]) (S := []) (a := .val (.callF 0 (.acons (.var 0) .anil))) (b := .val (.chn .LtE .Lt (.con (.int 0)) (.var 0) (.var 1))) (p := true) (valT (callE rfl (oneA (varE rfl)) (call_ok (ds := [_]) rfl hw _ _))) fun _ => valT (chn2 rfl (varE rfl) (varE rfl)))
  exact retS this
theorem num_str (x : Str) (n : Int) : s_is_number [.im (.str x), .im (.int n)] [] = .ok (.im (.bl false)) [] := rfl
/-- policy[d] -/
theorem r_item (rs : List Rule) (k : Nat) (h : k < rs.length) : s_Policy___getitem__ [.im (polD rs), .im (.int k)] [] = .ok (.im (rD rs[k])) [] := by
  refine semRun ?_
  unfold m_Policy___getitem__
  have hn := num_int k rs.length
  rw [decide_eq_true (show (0 : Int) ≤ k by omega), decide_eq_true (show (k : Int) < rs.length by omega)] at hn
  have hl : ∀ γ : Gam, γ[0]? = some (some (.im (polD rs))) → ev G11 X0 (.callB .len (.acons (.fld 0 (.var 0)) .anil)) γ [] = .ok (.im (.int rs.length)) [] := fun γ h => by
    refine cbE (oneA (fldE (d := polD rs) (r := .tup (rs.map rD)) rfl (varE h) rfl)) ?_
    rw [show D.tup (rs.map rD) = sq true (rs.map rD) from rfl, len_sq, List.length_map]
  refine seq (iffF (notT (p := true) (valT (callE rfl (consA (varE rfl) (oneA (hl _ rfl))) (call_ok (ds := [_, _]) rfl hn _ _))))) (retS (subE (d := .tup (rs.map rD)) (e := .int k) (fldE (d := polD rs) (r := .tup (rs.map rD)) rfl (varE rfl) rfl) (varE rfl) rfl rfl ?_))
  show atI (rs.map rD) k = _
  rw [atI_at (by omega) (by rw [List.length_map]; omega), List.getElem_map]
  simp only [Int.toNat_natCast]
theorem r_item_no (rs : List Rule) (d : D) (h : s_is_number [.im d, .im (.int rs.length)] [] = .ok (.im (.bl false)) []) : s_Policy___getitem__ [.im (polD rs), .im d] [] = .exc "BadPolicy" [("number", d)] [] [] := by
  have hl : ∀ γ : Gam, γ[0]? = some (some (.im (polD rs))) → ev G11 X0 (.callB .len (.acons (.fld 0 (.var 0)) .anil)) γ [] = .ok (.im (.int rs.length)) [] := fun γ h => by
    refine cbE (oneA (fldE (d := polD rs) (r := .tup (rs.map rD)) rfl (varE h) rfl)) ?_
    rw [show D.tup (rs.map rD) = sq true (rs.map rD) from rfl, len_sq, List.length_map]
  refine semRunX (γ1 := [some (.im (polD rs)), some (.im d)]) ?_
  unfold m_Policy___getitem__
  refine seqX (γ1 := [some (.im (polD rs)), some (.im d)]) (S1 := []) ?_
  exact iffT (notT (p := false) (valT (callE rfl (consA (varE rfl) (oneA (hl _ rfl))) (call_ok (ds := [_, _]) rfl h _ _)))) rfl
end K02
namespace K02
open PySem PySem.Spec L2 DL
open PyProof.Rows hiding St
variable [Tbl]
section
variable {Γ : GE} {G : GX} {γ γ1 γ2 : Gam} {S S1 S2 : Sto}
theorem asgLcS {tg : Tg} {vs : List Nat} {it : ME .I} {c : ME .C} {e : ME .E} {i : Nat} {x : Vl} (h : ev Γ G (.lc tg vs it c e) γ S = .ok x S1) (hi : Nat.ble (i + 1) γ.length = true) : ev Γ G (.asgLc i tg vs it c e) γ S = .ok (.nx (γ.set i (some x))) S1 := asgS (e := .lc tg vs it c e) h hi
theorem floopX {tg : Tg} {fb : FS} {its : Sto → Option (List D)} {d : D} {ds : List D} {c : Str} {fs : List (Str × D)} {n : Nat} (hits : its S1 = some (d :: ds)) (ht : tg.fg (.im d) γ = some γ1) (hb : fb γ1 S1 = .exc c fs γ2 S2) : DL.floop its tg fb (n + 1) 0 γ S1 = .exc c fs γ2 S2 := by
  rw [floop_s, hits]
  simp only [List.getElem?_cons_zero, ht, hb, R.bind_exc]
theorem forX {tg : Tg} {i : ME .I} {b : ME .B} {its : Sto → Option (List D)} {d : D} {ds : List D} {c : Str} {fs : List (Str × D)} (hi : ev Γ G i γ S = .ok its S1) (hits : its S1 = some (d :: ds)) (ht : tg.fg (.im d) γ = some γ1) (hb : ev Γ G b γ1 S1 = .exc c fs γ2 S2) : ev Γ G (.forr tg i b) γ S = .exc c fs γ2 S2 := by
  show fFor (ev Γ G i) tg (ev Γ G b) γ S = _
  unfold fFor; rw [hi]
  show (match its S1 with
    | none => R.bad
    | some ds => DL.floop its tg (ev Γ G b) (ds.length + 1) 0 γ S1) = _
  rw [hits]
  exact floopX (fb := ev Γ G b) hits ht hb
def nD (k : Nat) : D := .int k
theorem eqb_n (a b : Nat) : D.eqb (.int a) (.int b) = decide (a = b) := by
  show ((a : Int) == (b : Int)) = _
  rw [Bool.eq_iff_iff, beq_iff_eq, decide_eq_true_iff]
  exact Int.ofNat_inj
theorem ninN (t : Bool) (x : Nat) (l : List Nat) : evCmp Γ .NotIn (.im (.int x)) (.im (sq t (l.map nD))) γ S = .ok (.im (.bl (!has x l))) S := by
  have e : evCmp Γ .NotIn (.im (.int x)) (.im (sq t (l.map nD))) γ S = R.ofO (ninAD (.int x) (sq t (l.map nD))) S := by cases t <;> rfl
  have this : inD (.int x) (sq t (l.map nD)) = some (has x l) := in_sq (f := nD) eqb_n (fun _ => rfl) (fun _ => Nat.zero_le _) t x l
  have e2 : ninAD (.int x) (sq t (l.map nD)) = some (.bl (!has x l)) := by
    cases t
    · show Option.or (Option.or ((inD (.int x) (sq false (l.map nD))).map fun c => D.bl (!c)) none) _ = _
      rw [this]; rfl
    · show Option.or (Option.or none ((inD (.int x) (sq true (l.map nD))).map fun c => D.bl (!c))) _ = _
      rw [this]; rfl
  rw [e, e2]; rfl
theorem neNil {ds : List D} (h1 : D.plns ds = true) (h2 : D.hgts ds ≤ 50) : evCmp Γ .NotEq (.im (.lst ds)) (.im (.lst [])) γ S = .ok (.im (.bl (!ds.isEmpty))) S := by
  show R.ofO ((eqD (.lst ds) (.lst [])).map fun c => D.bl (!c)) S = _
  have : eqD (.lst ds) (.lst []) = some ds.isEmpty := by
    unfold eqD
    rw [show (D.lst ds).pln = true from h1, show (D.lst []).pln = true from rfl, decide_eq_true (show (D.lst ds).hgt ≤ 60 from by show D.hgts ds + 1 ≤ 60; omega), decide_eq_true (show (D.lst []).hgt ≤ 60 from by decide), if_pos (show (true && true && true && true) = true from rfl)]
    cases ds <;> rfl
  rw [this]; rfl
end
/-- rs and what of ss is not among them -/
def adds (rs ss : List Rule) : List Rule := rs ++ ss.filter fun r => !has r rs
theorem rulesE {Γ : GE} {γ : Gam} {S : Sto} {i : Nat} {rs : List Rule} (h : γ[i]? = some (some (.im (polD rs)))) : ev Γ X0 (.fld 0 (.var i)) γ S = .ok (.im (sq true (rs.map rD))) S := fldE (d := polD rs) (r := .tup (rs.map rD)) rfl (varE h) rfl
theorem r_add (rs ss : List Rule) (hl : (adds rs ss).length ≤ 12) (hr : ∀ r ∈ adds rs ss, r ∈ RL) (one : One (adds rs ss)) (hs : ss.length ≤ 12) : s_Policy___add__ [.im (polD rs), .im (polD ss)] [] = .ok (.im (polD (adds rs ss))) [] := by
  have z : sizeLine = 16777216 := rfl
  refine semRun ?_
  unfold m_Policy___add__
  obtain ⟨its, i1, i2⟩ := anySq (Γ := G12) (G := X0) (t := true) (ds := ss.map rD) (e := .fld 0 (.var 1)) (γ := startG 3 [.im (polD rs), .im (polD ss)]) (S := []) (S1 := []) (rulesE rfl)
  refine seq (iffF (notT (p := true) (valT rfl))) (retS (mkP (t := false) (f := rD) rfl hl (fun r h => for_r (hr r h)) one (oneA (lstE (S1 := []) (ds := (adds rs ss).map rD) ?_ ?_))))
  · unfold adds
    rw [List.map_append, List.map_append, ← List.append_nil (List.map Vl.im (List.map rD (ss.filter _)))]
    exact starA (t := true) (rulesE rfl) (starA (t := false) (lcFil ss rD rD (fun r => !has r rs) i1 i2 (by omega) fun r hr => ⟨_, rfl, valT (cmpE (varE rfl) (rulesE rfl) (ninR true r rs)), varE rfl⟩) nilA)
  · rw [List.length_map]; omega
/-- without the rules at ks -/
def outs (rs : List Rule) (ks : List Nat) : List Rule := (rs.zipIdx.filter fun p => !has p.2 ks).map (·.1)
theorem outs_sub (rs : List Rule) (ks : List Nat) : (outs rs ks).Sublist rs := by
  have h1 : ((rs.zipIdx.filter fun p => !has p.2 ks).map (·.1)).Sublist (rs.zipIdx.map (·.1)) := (List.filter_sublist).map _
  rw [List.zipIdx_map_fst] at h1
  exact h1
theorem lenE {Γ : GE} {γ : Gam} {S : Sto} {i : Nat} {rs : List Rule} (h : γ[i]? = some (some (.im (polD rs)))) : ev Γ X0 (.callB .len (.acons (.fld 0 (.var i)) .anil)) γ S = .ok (.im (.int rs.length)) S := by
  refine cbE (oneA (rulesE h)) ?_
  rw [len_sq, List.length_map]
theorem r_out (rs : List Rule) (ks : List Nat) (hl : rs.length ≤ 12) (hr : ∀ r ∈ rs, r ∈ RL) (one : One rs) (hk : ∀ k ∈ ks, k < rs.length) (hkl : ks.length ≤ 100) : s_Policy_without [.im (polD rs), .im (.tup (ks.map nD))] [] = .ok (.im (polD (outs rs ks))) [] := by
  have z : sizeLine = 16777216 := rfl
  obtain ⟨its, i1, i2⟩ := anySq (Γ := G13) (G := X0) (t := true) (ds := ks.map nD) (e := .var 1) (γ := startG 4 [.im (polD rs), .im (.tup (ks.map nD))]) (S := []) (S1 := []) rfl
  obtain ⟨γ2, S2, ef, a, e1, e2⟩ := forInv (Γ := G13) (G := X0) (tg := .name 2) (b := .bcons (.iff (.not (.val (.callF 2 (.acons (.var 2) (.acons (.callB .len (.acons (.fld 0 (.var 0)) .anil)) .anil))))) (.bcons (.rai 1 (.acons (.var 2) .anil)) .bnil) .bnil) .bnil)
    ks nD (fun j γ S => ∃ a, γ = [some (.im (polD rs)), some (.im (.tup (ks.map nD))), a, none] ∧ S = []) i1 (fun j γ S ⟨a, _, h⟩ => by rw [h]; exact i2) ⟨none, rfl, rfl⟩ (fun j hj γ S ⟨a, e1, e2⟩ => by
      subst e1 e2
      have hn := num_int ks[j] rs.length
      have hlt := hk ks[j] (List.getElem_mem hj)
      rw [decide_eq_true (show (0 : Int) ≤ (ks[j] : Nat) by omega), decide_eq_true (show ((ks[j] : Nat) : Int) < rs.length by omega)] at hn
      exact ⟨_, rfl, _, _, seq (iffF (notT (p := true) (valT (callE rfl (consA (varE rfl) (oneA (lenE rfl))) (call_ok (ds := [_, _]) rfl hn _ _))))) rfl, some (.im (.int ks[j])), rfl, rfl⟩)
  subst e1 e2
  refine semRun ?_
  unfold m_Policy_without
  obtain ⟨its2, j1, j2⟩ := enumE (Γ := G13) (G := X0) (e := .fld 0 (.var 0)) (t := true) (ds := rs.map rD) (γ := [some (.im (polD rs)), some (.im (.tup (ks.map nD))), a, none]) (S := []) (S1 := []) (rulesE rfl)
  have hm := lcFil (Γ := G13) (G := X0) (tg := .tup 2 (.cons (.name 2) (.cons (.name 3) .nil))) (vs := [2, 3]) (c := .val (.cmp .NotIn (.var 2) (.var 1))) (e := .var 3) rs.zipIdx (fun p => D.tup [.int p.2, rD p.1]) (fun p => rD p.1) (fun p => !has p.2 ks) j1 (by rw [j2, zip_map]) (by rw [List.length_zipIdx]; omega) fun p hp => ⟨_, rfl, valT (cmpE (varE rfl) (varE rfl) (ninN true p.2 ks)), varE rfl⟩
  have hs := outs_sub rs ks
  rw [show ((rs.zipIdx.filter fun p => !has p.2 ks).map fun p => rD p.1) = (outs rs ks).map rD by unfold outs; rw [List.map_map]; rfl] at hm
  exact seq ef (retS (mkP (t := false) (f := rD) rfl (Nat.le_trans hs.length_le hl) (fun r h => for_r (hr r (hs.subset h))) (one.sublist hs) (oneA hm)))
theorem r_out_no (rs : List Rule) (d : D) (h : s_is_number [.im d, .im (.int rs.length)] [] = .ok (.im (.bl false)) []) : s_Policy_without [.im (polD rs), .im (.tup [d])] [] = .exc "BadPolicy" [("number", d)] [] [] := by
  refine semRunX (γ1 := [some (.im (polD rs)), some (.im (.tup [d])), some (.im d), none]) ?_
  unfold m_Policy_without
  refine seqX (γ1 := [some (.im (polD rs)), some (.im (.tup [d])), some (.im d), none]) (S1 := []) ?_
  obtain ⟨its, i1, i2⟩ := anySq (Γ := G13) (G := X0) (t := true) (ds := [d]) (e := .var 1) (γ := startG 4 [.im (polD rs), .im (.tup [d])]) (S := []) (S1 := []) rfl
  refine forX (γ1 := [some (.im (polD rs)), some (.im (.tup [d])), some (.im d), none]) i1 i2 rfl ?_
  refine seqX (γ1 := [some (.im (polD rs)), some (.im (.tup [d])), some (.im d), none]) (S1 := []) ?_
  exact iffT (notT (p := false) (valT (callE rfl (consA (varE rfl) (oneA (lenE rfl))) (call_ok (ds := [_, _]) rfl h _ _)))) rfl
def isK (r : Rule) : Bool := decide (kd r = "make")
def wD (r : Rule) : D := .tup ((wR r).map D.str)
def madeD (rs : List Rule) : D := match rs.filter isK with
  | [] => .non
  | r :: _ => wD r
theorem ixK (r : Rule) (h : isK r = true) : (dgetD (rD r) (.int 1)).or (ixD (rD r) (.int 1)) = some (wD r) := by
  have h := of_decide_eq_true h
  cases r with
  | F b o ps =>
    cases b
    · exact absurd h (show ¬ (("fetch" : Str) = "make") by decide +kernel)
    · exact absurd h (show ¬ (("hand" : Str) = "make") by decide +kernel)
  | R a b => exact absurd h (show ¬ (("raise" : Str) = "make") by decide +kernel)
  | M a b c => exact absurd h (show ¬ (("meet" : Str) = "make") by decide +kernel)
  | K ws => rfl
theorem plns_wD (l : List Rule) : D.plns (l.map wD) = true := plns_map (fun r => by show D.plns ((wR r).map D.str) = true; exact plns_map (fun _ => rfl) _) l
theorem hgts_wD (l : List Rule) : D.hgts (l.map wD) ≤ 50 := Nat.le_trans (hgts_map (k := 1) (fun r => by
  have := hgts_map (f := D.str) (k := 0) (fun _ => Nat.le_refl 0) (wR r)
  show D.hgts ((wR r).map D.str) + 1 ≤ 1
  omega) l) (by decide)
section
variable {Γ : GE} {G : GX} {γ γ1 γ2 : Gam} {S S1 S2 : Sto}
/-- a comprehension whose elements are only asked for where they are kept -/
theorem lcFil2 {α : Type} {tg : Tg} {vs : List Nat} {i : ME .I} {c : ME .T} {e : ME .E} {its : Sto → Option (List D)} (xs : List α) (φ f : α → D) (p : α → Bool) (hi : ev Γ G i γ S = .ok its S) (h1 : its S = some (xs.map φ)) (hz : xs.length ≤ sizeLine)
    (h : ∀ x ∈ xs, ∃ γ1, tg.fg (.im (φ x)) (wipeG γ vs) = some γ1 ∧ ev Γ G c γ1 S = .ok (p x) S ∧ (p x = true → ev Γ G e γ1 S = .ok (.im (f x)) S)) : ev Γ G (.lc tg vs i (.cone c) e) γ S = .ok (.im (.lst ((xs.filter p).map f))) S := by
  show fLc (ev Γ G i) tg vs (bIf (ev Γ G c) (bElt (ev Γ G e))) γ S = _
  have run : ∀ (m j : Nat) (acc : List D), j + m = xs.length → acc.length + m ≤ sizeLine → cloop its tg (bIf (ev Γ G c) (bElt (ev Γ G e))) (m + 1) j (wipeG γ vs) acc S = .ok (acc ++ ((xs.drop j).filter p).map f) S := by
    intro m
    induction m with
    | zero =>
      intro j acc hm _
      unfold cloop; rw [h1]
      have : (xs.map φ)[j]? = none := by rw [List.getElem?_eq_none_iff, List.length_map]; omega
      simp only [this, List.drop_eq_nil_of_le (show xs.length ≤ j by omega), List.filter_nil, List.map_nil, List.append_nil]
    | succ m ih =>
      intro j acc hm hl
      have hj : j < xs.length := by omega
      obtain ⟨γ1, e1, e2, e3⟩ := h xs[j] (List.getElem_mem hj)
      unfold cloop; rw [h1]
      have : (xs.map φ)[j]? = some (φ xs[j]) := by rw [List.getElem?_map, List.getElem?_eq_getElem hj]; rfl
      simp only [this, e1]
      have eb : bIf (ev Γ G c) (bElt (ev Γ G e)) γ1 acc S = .ok (if p xs[j] then acc ++ [f xs[j]] else acc) S := by
        unfold bIf; rw [e2]
        show (if p xs[j] = true then bElt (ev Γ G e) γ1 acc S else R.ok acc S) = _
        cases q : p xs[j] with
        | false => rfl
        | true =>
          show bElt (ev Γ G e) γ1 acc S = R.ok (acc ++ [f xs[j]]) S
          unfold bElt; rw [e3 q]
          show (if acc.length < sizeLine then R.ok (acc ++ [f xs[j]]) S else .bad) = _
          rw [if_pos (by omega)]
      have hl2 : (if p xs[j] = true then acc ++ [f xs[j]] else acc).length + m ≤ sizeLine := by
        split
        · rw [List.length_append, List.length_singleton]; omega
        · omega
      rw [eb]
      show cloop _ _ _ _ _ _ _ _ = _
      rw [ih (j + 1) _ (by omega) hl2, List.drop_eq_getElem_cons hj, List.filter_cons]
      split
      · rw [List.map_cons, List.append_assoc]; rfl
      · rfl
  unfold fLc; rw [hi]
  show (match its S with
    | none => R.bad
    | some ds => (cloop its tg (bIf (ev Γ G c) (bElt (ev Γ G e))) (ds.length + 1) 0 (wipeG γ vs) [] S).bind fun acc S2 => R.ok (Vl.im (D.lst acc)) S2) = _
  rw [h1]
  simp only [List.length_map]
  rw [run xs.length 0 [] (by omega) (by simpa using hz)]
  rfl
theorem iteB {c : ME .T} {a b : ME .E} {p : Bool} {r : R Vl} (h : ev Γ G c γ S = .ok p S1) (k1 : p = true → ev Γ G a γ S1 = r) (k2 : p = false → ev Γ G b γ S1 = r) : ev Γ G (.ite c a b) γ S = r := by
  show fIf (ev Γ G c) (ev Γ G a) (ev Γ G b) γ S = _
  unfold fIf; rw [h]
  cases p with
  | true => exact k1 rfl
  | false => exact k2 rfl
end
/-- both texts that tell what is made -/
theorem made_run {Γ : GE} {i : ME .I} {its : Sto → Option (List D)} {x : Vl} (rs : List Rule) (hl : rs.length ≤ 12) (hi : ev Γ X0 i [some x, none, none] [] = .ok its []) (h1 : its [] = some (rs.map rD)) :
    ev Γ X0 (.bcons (.asgLc 1 (.name 2) [2] i (.cone (.val (.cmp .Eq (.sub (.var 2) (.con (.int 0))) (.con (.str "make"))))) (.sub (.var 2) (.con (.int 1)))) (.bcons (.ret (.ite (.val (.cmp .NotEq (.var 1) (.lst .anil))) (.sub (.var 1) (.con (.int 0))) (.con .non))) .bnil)) [some x, none, none] [] = .ok (.rt (.im (madeD rs))) [] := by
  have z : sizeLine = 16777216 := rfl
  have hm := lcFil2 (Γ := Γ) (G := X0) (tg := .name 2) (vs := [2]) (c := .val (.cmp .Eq (.sub (.var 2) (.con (.int 0))) (.con (.str "make")))) (e := .sub (.var 2) (.con (.int 1))) rs rD wD isK hi h1 (by omega) fun r hr => ⟨_, rfl, isMk (kindE rfl), fun hk => subE (e := .int 1) (varE rfl) rfl rfl rfl (ixK r hk)⟩
  refine seq (asgLcS hm rfl) (retS (iteB (valT (cmpE (varE rfl) rfl (neNil (plns_wD _) (hgts_wD _)))) (fun h => ?_) fun h => ?_))
  · cases q : rs.filter isK with
    | nil => rw [q] at h; cases h
    | cons r l =>
      have e : madeD rs = wD r := by unfold madeD; rw [q]
      rw [e]
      refine subE (d := .lst ((r :: l).map wD)) (e := .int 0) (varE rfl) rfl rfl rfl ?_
      show atI ((r :: l).map wD) 0 = _
      rw [atI_at (by omega) (by simp)]; rfl
  · cases q : rs.filter isK with
    | nil =>
      have e : madeD rs = .non := by unfold madeD; rw [q]
      rw [e]; rfl
    | cons r l => rw [q] at h; cases h
theorem r_made (rs : List Rule) (hl : rs.length ≤ 12) : s_Policy_made [.im (polD rs)] [] = .ok (.im (madeD rs)) [] := by
  refine semRun ?_
  unfold m_Policy_made
  obtain ⟨its, i1, i2⟩ := anySq (Γ := G14) (G := X0) (t := true) (ds := rs.map rD) (e := .fld 0 (.var 0)) (γ := [some (.im (polD rs)), none, none]) (S := []) (S1 := []) (rulesE rfl)
  exact made_run rs hl i1 i2
theorem r_lmade (rs : List Rule) (hl : rs.length ≤ 12) : s__law_made [.im (.lst (rs.map rD))] [] = .ok (.im (madeD rs)) [] := by
  refine semRun ?_
  unfold m__law_made
  obtain ⟨its, i1, i2⟩ := anySq (Γ := G23) (G := X0) (t := false) (ds := rs.map rD) (e := .var 0) (γ := [some (.im (.lst (rs.map rD))), none, none]) (S := []) (S1 := []) rfl
  exact made_run rs hl i1 i2
theorem wR_le : ∀ r ∈ RL, (wR r).length ≤ 5 := by
  have : RL.all (fun r => decide ((wR r).length ≤ 5)) = true := by kernel_rfl
  exact fun r h => of_decide_eq_true (List.all_eq_true.mp this r h)
theorem flat_le {rs : List Rule} (h : ∀ r ∈ rs, r ∈ RL) : (rs.flatMap wR).length ≤ 5 * rs.length := by
  induction rs with
  | nil => exact Nat.le_refl _
  | cons r rs ih =>
    have h1 := wR_le r (h r List.mem_cons_self)
    have h2 := ih fun x hx => h x (List.mem_cons_of_mem _ hx)
    rw [List.flatMap_cons, List.length_append, List.length_cons]
    omega
def wordsOf (rs : List Rule) : List Str := srt (dedup (rs.flatMap wR))
theorem r_words (rs : List Rule) (hl : rs.length ≤ 12) (hr : ∀ r ∈ rs, r ∈ RL) : ∃ S, s_Policy_words [.im (polD rs)] [] = .ok (.im (.lst ((wordsOf rs).map D.str))) S := by
  have z : sizeLine = 16777216 := rfl
  have fl := flat_le hr
  obtain ⟨its, i1, i2⟩ := anySq (Γ := G16) (G := X0) (t := true) (ds := rs.map rD) (e := .fld 0 (.var 0)) (γ := [some (.im (polD rs)), some (.cl 0), none]) (S := [some (.lst [])]) (S1 := [some (.lst [])]) (rulesE rfl)
  have hits : ∀ S, its S = some (rs.map rD) := fun S => by
    have : its = fun _ => some (rs.map rD) := by
      have e : ev G16 X0 (.any (.fld 0 (.var 0))) [some (.im (polD rs)), some (.cl 0), none] [some (.lst [])] = .ok (fun _ => some (rs.map rD)) [some (.lst [])] := rfl
      rw [e] at i1
      cases i1
      rfl
    rw [this]
  obtain ⟨γ2, S2, ef, a, e1, e2⟩ := forInv (Γ := G16) (G := X0) (tg := .name 2) (b := .bcons (.expr (.mutL .ext (.var 1) (.acons (.callF 7 (.acons (.var 2) .anil)) .anil))) .bnil)
    rs rD (fun j γ S => ∃ a, γ = [some (.im (polD rs)), some (.cl 0), a] ∧ S = [some (.lst (((rs.take j).flatMap wR).map D.str))]) i1 (fun j γ S _ => hits S) ⟨none, rfl, rfl⟩ (fun j hj γ S ⟨a, e1, e2⟩ => by
      subst e1 e2
      obtain ⟨Sw, hw⟩ := (r_ok (hr rs[j] (List.getElem_mem hj))).wd
      have hl1 := flat_le (rs := rs.take j) fun r h => hr r (List.mem_of_mem_take h)
      have hl2 := wR_le rs[j] (hr _ (List.getElem_mem hj))
      rw [List.length_take] at hl1
      refine ⟨_, rfl, _, _, seq (extS (k := 0) (es := (wR rs[j]).map D.str) rfl rfl (oneA (callE rfl (oneA (varE rfl)) (call_ok (ds := [_]) rfl hw _ _))) rfl (by rw [List.length_map, List.length_map]; omega)) rfl, some (.im (rD rs[j])), rfl, ?_⟩
      show [some (Cell.lst (((rs.take j).flatMap wR).map D.str ++ (wR rs[j]).map D.str))] = _
      rw [← List.map_append, List.take_succ_eq_append_getElem hj, List.flatMap_append, List.flatMap_cons, List.flatMap_nil, List.append_nil])
  rw [List.take_length] at e2
  subst e1 e2
  refine ⟨[some (.lst ((rs.flatMap wR).map D.str))], semRun ?_⟩
  unfold m_Policy_words
  refine seq (asgS (x := .cl 0) (S1 := [some (.lst [])]) rfl rfl) (seq ef (retS (unE (varE rfl) rfl ?_)))
  exact sort_strsS false (rs.flatMap wR) (by omega)
end K02
namespace K02
open PySem PySem.Spec L2 DL
open PyProof.Rows hiding St
variable [Tbl]
theorem view_cl {S : Sto} {k : Nat} {c : Cell} (h : S[k]? = some (some c)) : (Vl.cl k).view S = some c.view := by
  show (match S[k]? with
    | some (some c) => some c.view
    | _ => none) = _
  rw [h]
section
variable {Γ : GE} {G : GX} {γ γ1 γ2 : Gam} {S S1 S2 : Sto}
theorem lstCE {as : ME .A} {ds : List D} (h : ev Γ G as γ S = .ok (ds.map Vl.im) S1) (hz : ds.length ≤ sizeLine) : ev Γ G (.lstC as) γ S = .ok (.cl S1.length) (S1 ++ [some (Cell.lst ds)]) := by
  show fLstC (ev Γ G as) γ S = _
  have : ∀ ds : List D, ims (ds.map Vl.im) = some ds := by
    intro ds
    induction ds with
    | nil => rfl
    | cons d ds ih => show (ims (ds.map Vl.im)).map _ = _; rw [ih]; rfl
  unfold fLstC; rw [h]
  show (match ims (ds.map Vl.im) with
    | some ds => if ds.length ≤ sizeLine then R.ok (Vl.cl S1.length) (S1 ++ [some (Cell.lst ds)]) else .bad
    | none => .bad) = _
  rw [this]
  show (if ds.length ≤ sizeLine then R.ok (Vl.cl S1.length) (S1 ++ [some (Cell.lst ds)]) else .bad) = _
  rw [if_pos hz]
theorem anyC {i k : Nat} {ds : List D} (h : γ[i]? = some (some (.cl k))) (hS : S[k]? = some (some (.lst ds))) : ∃ its, ev Γ G (.any (.var i)) γ S = .ok its S ∧ its S = some ds := by
  have hv : (Vl.cl k).view S = some (.lst ds) := view_cl hS
  refine ⟨fun S => match (Vl.cl k).view S with
    | some (.lst ds) => some ds
    | _ => none, ?_, ?_⟩
  · show anyIP Γ.itT (fVar i) γ S = _
    have hf : fVar i γ S = .ok (.cl k) S := by unfold fVar; rw [h]
    unfold anyIP
    rw [hf]
    show (match wkOf (.cl k) S with
      | .lst => lstI (fVar i) γ S
      | .tup => tupI (fVar i) γ S
      | .str => strI (fVar i) γ S
      | .key => keysI' (fVar i) γ S
      | .own => ownIP Γ.itT (fVar i) γ S) = _
    have hw : wkOf (.cl k) S = .lst := by
      unfold wkOf
      rw [hv]
    rw [hw]
    show lstI (fVar i) γ S = _
    unfold lstI
    rw [hf]
    show (match (Vl.cl k).view S with
      | some (.lst _) => R.ok (fun S => match (Vl.cl k).view S with
        | some (.lst ds) => some ds
        | _ => none) S
      | _ => .bad) = _
    rw [hv]
  · show (match (Vl.cl k).view S with
      | some (.lst ds) => some ds
      | _ => none) = _
    rw [hv]
end
theorem sort_pairs (t : Bool) (ps : List Pr) (h : ps.length ≤ sizeLine) : sortD (sq t (ps.map pD)) = some (.lst ((psort ps).map pD)) :=
  sort_tups (φ := pD) (K := fun p => [.inr p.1, .inr p.2]) (lt := pLt) (fun _ => rfl) (fun p => ⟨by simp, fun k hk => by
    simp only [List.mem_cons, List.not_mem_nil, or_false] at hk
    rcases hk with e | e <;> exact ⟨_, e⟩⟩) (fun _ _ => rfl) t ps h
theorem has_p (x p : Pr) (γ : Gam) (S : Sto) (k : Nat) (Γ : GE) (h : S[k]? = some (some (.lst [pD p]))) : evCmp Γ .NotIn (.im (pD x)) (.cl k) γ S = .ok (.im (.bl (!has x [p]))) S := by
  have hv : (Vl.cl k).view S = some (.lst [pD p]) := view_cl h
  show fOwnInP Γ.inT (fun b => !b) (lift2X ninAD) (.im (pD x)) (.cl k) γ S = _
  unfold fOwnInP fOwnP
  have hc : clsV (.cl k) S = none := by unfold clsV; rw [hv]
  rw [hc]
  show R.ofO (((Vl.im (pD x)).view S).bind fun a => ((Vl.cl k).view S).bind fun b => ninAD a b) S = _
  rw [hv]
  show R.ofO (ninAD (pD x) (.lst [pD p])) S = _
  have := in_sq (f := pD) eqb_p (fun _ => rfl) (fun p => (show 1 ≤ 50 by decide)) false x [p]
  have e2 : ninAD (pD x) (.lst [pD p]) = some (.bl (!has x [p])) := by
    show Option.or (Option.or ((inD (pD x) (sq false ([p].map pD))).map fun c => D.bl (!c)) none) _ = _
    rw [this]; rfl
  rw [e2]; rfl
theorem mem_W {a b : Str} (ha : a ∈ W) (hb : b ∈ W) : (a, b) ∈ WW := List.mem_flatMap.mpr ⟨a, ha, List.mem_map.mpr ⟨b, hb, rfl⟩⟩
theorem mem_RF (h : Bool) {o : Str} {p : Pr} (ho : o ∈ W) (hp : p ∈ WW) (b : Bool) (hb : b = true → p ≠ (o, o)) : Rule.F h o (psOf o p b) ∈ RL := by
  have h1 : Rule.F h o (psOf o p b) ∈ RF h := by
    unfold RF
    refine List.mem_flatMap.mpr ⟨o, ho, List.mem_flatMap.mpr ⟨p, hp, ?_⟩⟩
    cases b with
    | false => exact List.mem_cons_self
    | true =>
      refine List.mem_cons_of_mem _ ?_
      rw [if_neg (hb rfl)]
      exact List.mem_singleton.mpr rfl
  unfold RL
  cases h with
  | false => exact List.mem_append_left _ (List.mem_append_left _ (List.mem_append_left _ (List.mem_append_left _ h1)))
  | true => exact List.mem_append_left _ (List.mem_append_left _ (List.mem_append_left _ (List.mem_append_right _ h1)))
theorem mem_R {a b : Str} (ha : a ∈ W) (hb : b ∈ W) : Rule.R a b ∈ RL := by
  unfold RL
  exact List.mem_append_left _ (List.mem_append_left _ (List.mem_append_right _ (List.mem_map.mpr ⟨(a, b), mem_W ha hb, rfl⟩)))
theorem mem_M {a b c : Str} (ha : a ∈ W) (hb : b ∈ W) (hc : c ∈ W) : Rule.M a b c ∈ RL := by
  unfold RL
  exact List.mem_append_left _ (List.mem_append_right _ (List.mem_flatMap.mpr ⟨a, ha, List.mem_map.mpr ⟨(b, c), mem_W hb hc, rfl⟩⟩))
theorem mem_K {a b : Str} (ha : a ∈ W) (hb : b ∈ W) : Rule.K (srt (dedup [a, b])) ∈ RL := by
  unfold RL
  exact List.mem_append_right _ (List.mem_map.mpr ⟨(a, b), mem_W ha hb, rfl⟩)
theorem one_app {rs : List Rule} {r : Rule} (h : One rs) (hr : kd r = "make" → has ("make" : Str) (rs.map kd) = false) : One (rs ++ [r]) := by
  refine List.pairwise_append.mpr ⟨h, List.pairwise_singleton _ _, fun a ha b hb => ?_⟩
  rw [List.mem_singleton.mp hb]
  rintro ⟨e1, e2⟩
  have := hr e2
  have h2 : has ("make" : Str) (rs.map kd) = true := has_t.mpr (List.mem_map.mpr ⟨a, ha, e1⟩)
  rw [this] at h2
  cases h2
abbrev gR (m : Int) (a2 a5 a6 a7 a8 a9 : Option Vl) : Gam := [some (.cl 0), some (.im (.int m)), a2, some (.im (.lst (W.map D.str))), some (.cl 1), a5, a6, a7, a8, a9, none]
abbrev body : ME .B := (.bcons (.asg (.tup 4 (.cons (.name 5) (.cons (.name 6) (.cons (.name 7) (.cons (.name 8) .nil))))) (.tup (.acons (.callF 11 (.acons (.var 0) (.acons (.con (.int 10)) .anil))) (.acons (.callF 12 (.acons (.var 0) (.acons (.var 3) .anil))) (.acons (.callF 12 (.acons (.var 0) (.acons (.var 3) .anil))) (.acons (.callF 12 (.acons (.var 0) (.acons (.var 3) .anil))) .anil)))))) (.bcons (.iff (.val (.cmp .Lt (.var 5) (.con (.int 6)))) (.bcons (.asg (.name 9) (.ite (.val (.cmp .Eq (.callF 11 (.acons (.var 0) (.acons (.con (.int 2)) .anil))) (.con (.int 0)))) (.lstC (.acons (.tup (.acons (.var 7) (.acons (.var 7) .anil))) .anil)) (.lstC (.acons (.tup (.acons (.var 7) (.acons (.var 8) .anil))) .anil)))) (.bcons (.iff (.and (.val (.cmp .Eq (.callF 11 (.acons (.var 0) (.acons (.con (.int 3)) .anil))) (.con (.int 0)))) (.val (.cmp .NotIn (.tup (.acons (.var 6) (.acons (.var 6) .anil))) (.var 9)))) (.bcons (.expr (.mutL .app (.var 9) (.acons (.tup (.acons (.var 6) (.acons (.var 6) .anil))) .anil))) .bnil) .bnil) (.bcons (.expr (.mutL .app (.var 4) (.acons (.tup (.acons (.ite (.val (.cmp .Lt (.var 5) (.con (.int 3)))) (.con (.str "fetch")) (.con (.str "hand"))) (.acons (.var 6) (.acons (.callB .tup (.acons (.callB .sort (.acons (.var 9) .anil)) .anil)) .anil)))) .anil))) .bnil))) (.bcons (.iff (.val (.cmp .Eq (.var 5) (.con (.int 6)))) (.bcons (.expr (.mutL .app (.var 4) (.acons (.tup (.acons (.con (.str "raise")) (.acons (.var 6) (.acons (.var 7) .anil)))) .anil))) .bnil) (.bcons (.iff (.val (.cmp .Eq (.var 5) (.con (.int 7)))) (.bcons (.expr (.mutL .app (.var 4) (.acons (.tup (.acons (.con (.str "meet")) (.acons (.var 6) (.acons (.var 7) (.acons (.var 8) .anil))))) .anil))) .bnil) (.bcons (.iff (.val (.cmp .NotIn (.con (.str "make")) (.lc (.name 10) [10] (.any (.var 4)) .cnil (.sub (.var 10) (.con (.int 0)))))) (.bcons (.expr (.mutL .app (.var 4) (.acons (.tup (.acons (.con (.str "make")) (.acons (.callB .tup (.acons (.sortS (.lst (.acons (.var 6) (.acons (.var 7) .anil)))) .anil)) .anil))) .anil))) .bnil) .bnil) .bnil)) .bnil)) .bnil)) .bnil))
theorem tag_ok : m__law_rules = (.bcons (.par [3, 4] (.acons (.lst (.acons (.con (.str "g")) (.acons (.con (.str "r")) (.acons (.con (.str "t")) (.acons (.con (.str "w")) .anil))))) (.acons (.lstC .anil) .anil))) (.bcons (.forr (.name 2) (.rng1 (.acons (.callF 11 (.acons (.var 0) (.acons (.bin .Add (.var 1) (.con (.int 1))) .anil))) .anil)) body) (.bcons (.ret (.frz (.var 4))) .bnil))) := rfl
theorem lt_int {Γ : GE} {γ : Gam} {S : Sto} (a b : Int) : evCmp Γ .Lt (.im (.int a)) (.im (.int b)) γ S = .ok (.im (.bl (decide (a < b)))) S := rfl
theorem cbTup {Γ : GE} {γ : Gam} {S : Sto} (ds : List D) : evB Γ .tup [.im (.lst ds)] γ S = .ok (.im (.tup ds)) S := rfl
theorem z4 : sizeLine = 16777216 := rfl
/-- one turn -/
theorem turn_ok (ns : List Int) (m n : Int) (hn : 0 ≤ n) (hn2 : n < 900000) (rs : List Rule) (g : Sto) (a2 a5 a6 a7 a8 a9 : Option Vl) (hr : ∀ r ∈ rs, r ∈ RL) (one : One rs) (hl : rs.length < 100) :
    ∃ (n' : Int) (rs' : List Rule) (g' : Sto) (b5 b6 b7 b8 b9 : Option Vl), n ≤ n' ∧ n' ≤ n + 6 ∧ rs'.length ≤ rs.length + 1 ∧ (∀ r ∈ rs', r ∈ RL) ∧ One rs' ∧
      ev G22 X0 body (gR m a2 a5 a6 a7 a8 a9) (some (dcell ns n) :: some (.lst (rs.map rD)) :: g) = .ok (.nx (gR m a2 b5 b6 b7 b8 b9)) (some (dcell ns n') :: some (.lst (rs'.map rD)) :: g') := by
  obtain ⟨v, ⟨v0, v1⟩, q1⟩ := nextE (Γ := G22) (ns := ns) (n := n) (b := 10) hn (by omega) (by decide)
  obtain ⟨d1, h1, p1⟩ := pickE (ns := ns) (n := n + 1) (ds := W.map D.str) (by omega) (by omega) (by decide)
  obtain ⟨d2, h2, p2⟩ := pickE (ns := ns) (n := n + 1 + 1) (ds := W.map D.str) (by omega) (by omega) (by decide)
  obtain ⟨d3, h3, p3⟩ := pickE (ns := ns) (n := n + 1 + 1 + 1) (ds := W.map D.str) (by omega) (by omega) (by decide)
  obtain ⟨a, ha, rfl⟩ := mem_strs h1
  obtain ⟨b, hb, rfl⟩ := mem_strs h2
  obtain ⟨c, hc, rfl⟩ := mem_strs h3
  have st1 : ev G22 X0 (.asg (.tup 4 (.cons (.name 5) (.cons (.name 6) (.cons (.name 7) (.cons (.name 8) .nil))))) (.tup (.acons (.callF 11 (.acons (.var 0) (.acons (.con (.int 10)) .anil))) (.acons (.callF 12 (.acons (.var 0) (.acons (.var 3) .anil))) (.acons (.callF 12 (.acons (.var 0) (.acons (.var 3) .anil))) (.acons (.callF 12 (.acons (.var 0) (.acons (.var 3) .anil))) .anil)))))) (gR m a2 a5 a6 a7 a8 a9) (some (dcell ns n) :: some (.lst (rs.map rD)) :: g) = .ok (.nx (gR m a2 (some (.im (.int v))) (some (.im (.str a))) (some (.im (.str b))) (some (.im (.str c))) a9)) (some (dcell ns (n + 1 + 1 + 1 + 1)) :: some (.lst (rs.map rD)) :: g) :=
    asgT (tupE (ds := [.int v, .str a, .str b, .str c]) (consA (q1 _ _ _ (some (dcell ns n) :: some (.lst (rs.map rD)) :: g) 0 11 G22 _ rfl (consA rfl (oneA rfl)) rfl) (consA (p1 _ _ _ (some (dcell ns (n + 1)) :: some (.lst (rs.map rD)) :: g) 0 12 G22 _ rfl (consA rfl (oneA rfl)) rfl) (consA (p2 _ _ _ (some (dcell ns (n + 1 + 1)) :: some (.lst (rs.map rD)) :: g) 0 12 G22 _ rfl (consA rfl (oneA rfl)) rfl) (oneA (p3 _ _ _ (some (dcell ns (n + 1 + 1 + 1)) :: some (.lst (rs.map rD)) :: g) 0 12 G22 _ rfl (consA rfl (oneA rfl)) rfl))))) (show 4 ≤ sizeLine by decide)) rfl
  have lrs : (rs.map rD).length < sizeLine := by rw [List.length_map, z4]; omega
  -- a rule is added
  have add : ∀ (r : Rule) (n' : Int) (g' : Sto) (b5 b6 b7 b8 b9 : Option Vl), n ≤ n' → n' ≤ n + 6 → r ∈ RL → (kd r = "make" → has ("make" : Str) (rs.map kd) = false) →
      ev G22 X0 body (gR m a2 a5 a6 a7 a8 a9) (some (dcell ns n) :: some (.lst (rs.map rD)) :: g) = .ok (.nx (gR m a2 b5 b6 b7 b8 b9)) (some (dcell ns n') :: some (.lst (rs.map rD ++ [rD r])) :: g') →
      ∃ (n' : Int) (rs' : List Rule) (g' : Sto) (b5 b6 b7 b8 b9 : Option Vl), n ≤ n' ∧ n' ≤ n + 6 ∧ rs'.length ≤ rs.length + 1 ∧ (∀ r ∈ rs', r ∈ RL) ∧ One rs' ∧
      ev G22 X0 body (gR m a2 a5 a6 a7 a8 a9) (some (dcell ns n) :: some (.lst (rs.map rD)) :: g) = .ok (.nx (gR m a2 b5 b6 b7 b8 b9)) (some (dcell ns n') :: some (.lst (rs'.map rD)) :: g') := fun r n' g' b5 b6 b7 b8 b9 w1 w2 w3 w4 e =>
    ⟨n', rs ++ [r], g', b5, b6, b7, b8, b9, w1, w2, by rw [List.length_append]; exact Nat.le_refl _, fun x hx => (List.mem_append.mp hx).elim (hr x) (fun h => by rw [List.mem_singleton.mp h]; exact w3), one_app one w4, by rw [e, List.map_append]; rfl⟩
  by_cases c6 : v < 6
  · -- fetch, hand
    obtain ⟨u, ⟨u0, u1⟩, q2⟩ := nextE (Γ := G22) (ns := ns) (n := n + 1 + 1 + 1 + 1) (b := 2) (by omega) (by omega) (by decide)
    obtain ⟨w, ⟨w0, w1⟩, q3⟩ := nextE (Γ := G22) (ns := ns) (n := n + 1 + 1 + 1 + 1 + 1) (b := 3) (by omega) (by omega) (by decide)
    obtain ⟨p, hp, ep⟩ : ∃ p : Pr, p ∈ WW ∧ ev G22 X0 (.ite (.val (.cmp .Eq (.callF 11 (.acons (.var 0) (.acons (.con (.int 2)) .anil))) (.con (.int 0)))) (.lstC (.acons (.tup (.acons (.var 7) (.acons (.var 7) .anil))) .anil)) (.lstC (.acons (.tup (.acons (.var 7) (.acons (.var 8) .anil))) .anil))) (gR m a2 (some (.im (.int v))) (some (.im (.str a))) (some (.im (.str b))) (some (.im (.str c))) a9) (some (dcell ns (n + 1 + 1 + 1 + 1)) :: some (.lst (rs.map rD)) :: g) = .ok (.cl (g.length + 2)) (some (dcell ns (n + 1 + 1 + 1 + 1 + 1)) :: some (.lst (rs.map rD)) :: (g ++ [some (.lst [pD p])])) := by
      have hcnd : ev G22 X0 (.val (.cmp .Eq (.callF 11 (.acons (.var 0) (.acons (.con (.int 2)) .anil))) (.con (.int 0)))) (gR m a2 (some (.im (.int v))) (some (.im (.str a))) (some (.im (.str b))) (some (.im (.str c))) a9) (some (dcell ns (n + 1 + 1 + 1 + 1)) :: some (.lst (rs.map rD)) :: g) = .ok (u == 0) (some (dcell ns (n + 1 + 1 + 1 + 1 + 1)) :: some (.lst (rs.map rD)) :: g) :=
        valT (cmpE (q2 _ _ _ (some (dcell ns (n + 1 + 1 + 1 + 1)) :: some (.lst (rs.map rD)) :: g) 0 11 G22 _ rfl (consA rfl (oneA rfl)) rfl) rfl (DL.eq_int _ _))
      by_cases hu : (u == 0) = true
      · refine ⟨(b, b), mem_W hb hb, iteB hcnd (fun _ => ?_) fun h => by rw [hu] at h; cases h⟩
        exact lstCE (ds := [pD (b, b)]) (oneA (tupE (ds := [.str b, .str b]) (consA (varE rfl) (oneA (varE rfl))) (show 2 ≤ sizeLine by decide))) (show 1 ≤ sizeLine by decide)
      · refine ⟨(b, c), mem_W hb hc, iteB hcnd (fun h => absurd h hu) fun _ => ?_⟩
        exact lstCE (ds := [pD (b, c)]) (oneA (tupE (ds := [.str b, .str c]) (consA (varE rfl) (oneA (varE rfl))) (show 2 ≤ sizeLine by decide))) (show 1 ≤ sizeLine by decide)
    have at9 : ∀ (n' : Int) (x : Cell), (some (dcell ns n') :: some (Cell.lst (rs.map rD)) :: (g ++ [some x]))[g.length + 2]? = some (some x) := fun n' x => by
      show (g ++ [some x])[g.length]? = _
      rw [List.getElem?_append_right (Nat.le_refl _), Nat.sub_self]; rfl
    -- the pairs
    obtain ⟨bb, hbb, eb⟩ : ∃ bb : Bool, (bb = true → p ≠ (a, a)) ∧ ev G22 X0 (.iff (.and (.val (.cmp .Eq (.callF 11 (.acons (.var 0) (.acons (.con (.int 3)) .anil))) (.con (.int 0)))) (.val (.cmp .NotIn (.tup (.acons (.var 6) (.acons (.var 6) .anil))) (.var 9)))) (.bcons (.expr (.mutL .app (.var 9) (.acons (.tup (.acons (.var 6) (.acons (.var 6) .anil))) .anil))) .bnil) .bnil) (gR m a2 (some (.im (.int v))) (some (.im (.str a))) (some (.im (.str b))) (some (.im (.str c))) (some (.cl (g.length + 2)))) (some (dcell ns (n + 1 + 1 + 1 + 1 + 1)) :: some (.lst (rs.map rD)) :: (g ++ [some (.lst [pD p])])) = .ok (.nx (gR m a2 (some (.im (.int v))) (some (.im (.str a))) (some (.im (.str b))) (some (.im (.str c))) (some (.cl (g.length + 2))))) (some (dcell ns (n + 1 + 1 + 1 + 1 + 1 + 1)) :: some (.lst (rs.map rD)) :: (g ++ [some (.lst ((if bb = true then [p, (a, a)] else [p]).map pD))])) := by
      have hc1 : ev G22 X0 (.val (.cmp .Eq (.callF 11 (.acons (.var 0) (.acons (.con (.int 3)) .anil))) (.con (.int 0)))) (gR m a2 (some (.im (.int v))) (some (.im (.str a))) (some (.im (.str b))) (some (.im (.str c))) (some (.cl (g.length + 2)))) (some (dcell ns (n + 1 + 1 + 1 + 1 + 1)) :: some (.lst (rs.map rD)) :: (g ++ [some (.lst [pD p])])) = .ok (w == 0) (some (dcell ns (n + 1 + 1 + 1 + 1 + 1 + 1)) :: some (.lst (rs.map rD)) :: (g ++ [some (.lst [pD p])])) :=
        valT (cmpE (q3 _ _ _ (some (dcell ns (n + 1 + 1 + 1 + 1 + 1)) :: some (.lst (rs.map rD)) :: (g ++ [some (.lst [pD p])])) 0 11 G22 _ rfl (consA rfl (oneA rfl)) rfl) rfl (DL.eq_int _ _))
      have hc2 := andT (b := .val (.cmp .NotIn (.tup (.acons (.var 6) (.acons (.var 6) .anil))) (.var 9))) hc1 (fun _ => valT (cmpE (tupE (ds := [.str a, .str a]) (consA (varE rfl) (oneA (varE rfl))) (show 2 ≤ sizeLine by decide)) (varE rfl) (has_p (a, a) p _ _ _ _ (at9 _ _)))) (fun _ => rfl)
      refine ⟨(w == 0) && !has (a, a) [p], fun h e => ?_, ifP hc2 (fun h => ?_) fun h => ?_⟩
      · rw [Bool.and_eq_true] at h
        have := h.2
        rw [e, has_t.mpr (List.mem_singleton.mpr rfl)] at this
        cases this
      · rw [h, if_pos rfl]
        refine seq (appS (ds := [pD p]) (d := pD (a, a)) rfl (at9 _ _) (oneA (tupE (ds := [.str a, .str a]) (consA (varE rfl) (oneA (varE rfl))) (show 2 ≤ sizeLine by decide))) (at9 _ _) (show 1 < sizeLine by decide)) ?_
        show R.ok (Fl.nx _) (some (dcell ns _) :: some (Cell.lst (rs.map rD)) :: ((g ++ [some (Cell.lst [pD p])]).set g.length (some (.lst ([pD p] ++ [pD (a, a)]))))) = _
        rw [List.set_append_right _ _ (Nat.le_refl _), Nat.sub_self]; rfl
      · rw [h, if_neg Bool.false_ne_true]; rfl
    have ps2 : (if bb = true then [p, (a, a)] else [p]).length ≤ sizeLine := by
      rw [z4]
      split <;> simp
    refine add (.F (!decide (v < 3)) a (psOf a p bb)) (n + 1 + 1 + 1 + 1 + 1 + 1) (g ++ [some (.lst ((if bb = true then [p, (a, a)] else [p]).map pD))]) (some (.im (.int v))) (some (.im (.str a))) (some (.im (.str b))) (some (.im (.str c))) (some (.cl (g.length + 2))) (by omega) (by omega) (mem_RF _ ha hp bb hbb) (fun h => ?_) ?_
    · cases q : decide (v < 3) with
      | true => rw [q] at h; exact absurd h (show ¬ (("fetch" : Str) = "make") by decide +kernel)
      | false => rw [q] at h; exact absurd h (show ¬ (("hand" : Str) = "make") by decide +kernel)
    · have hS : ∀ Sx : Sto, Sx = some (dcell ns (n + 1 + 1 + 1 + 1 + 1 + 1)) :: some (Cell.lst (rs.map rD)) :: (g ++ [some (.lst ((if bb = true then [p, (a, a)] else [p]).map pD))]) → ev G22 X0 (.callB .tup (.acons (.callB .sort (.acons (.var 9) .anil)) .anil)) (gR m a2 (some (.im (.int v))) (some (.im (.str a))) (some (.im (.str b))) (some (.im (.str c))) (some (.cl (g.length + 2)))) Sx = .ok (.im (.tup ((psOf a p bb).map pD))) Sx := fun Sx eS => by
        have hv : (Vl.cl (g.length + 2)).view Sx = some (.lst ((if bb = true then [p, (a, a)] else [p]).map pD)) := by
          rw [eS]
          exact view_cl (at9 _ _)
        have h1 : evB G22 .sort [.cl (g.length + 2)] (gR m a2 (some (.im (.int v))) (some (.im (.str a))) (some (.im (.str b))) (some (.im (.str c))) (some (.cl (g.length + 2)))) Sx = .ok (.im (.lst ((psOf a p bb).map pD))) Sx := by
          show R.ofO ((views Sx [.cl (g.length + 2)]).bind (DL.one sortD)) Sx = _
          unfold views
          rw [hv]
          show R.ofO (sortD (sq false ((if bb = true then [p, (a, a)] else [p]).map pD))) Sx = _
          rw [sort_pairs false _ ps2]
          have : psort (if bb = true then [p, (a, a)] else [p]) = psOf a p bb := by cases bb <;> rfl
          rw [this]; rfl
        exact cbE (oneA (cbE (oneA (varE rfl)) h1)) (cbTup _)
      have hK : ∀ Sx : Sto, ev G22 X0 (.ite (.val (.cmp .Lt (.var 5) (.con (.int 3)))) (.con (.str "fetch")) (.con (.str "hand"))) (gR m a2 (some (.im (.int v))) (some (.im (.str a))) (some (.im (.str b))) (some (.im (.str c))) (some (.cl (g.length + 2)))) Sx = .ok (.im (.str (kd (.F (!decide (v < 3)) a (psOf a p bb))))) Sx := fun Sx => by
        refine iteB (valT (cmpE (varE rfl) rfl (lt_int v 3))) (fun h => ?_) fun h => ?_
        · rw [h]; rfl
        · rw [h]; rfl
      exact seq st1 (seq (ifP (valT (cmpE (varE rfl) rfl (lt_int v 6))) (fun _ => seq (asgS ep rfl) (seq eb (seq (appS (S1 := some (dcell ns (n + 1 + 1 + 1 + 1 + 1 + 1)) :: some (Cell.lst (rs.map rD)) :: (g ++ [some (.lst ((if bb = true then [p, (a, a)] else [p]).map pD))])) (ds := rs.map rD) (d := rD (.F (!decide (v < 3)) a (psOf a p bb))) rfl rfl (oneA (tupE (ds := [.str (kd (.F (!decide (v < 3)) a (psOf a p bb))), .str a, .tup ((psOf a p bb).map pD)]) (consA (hK _) (consA (varE rfl) (oneA (hS _ rfl)))) (show 3 ≤ sizeLine by decide))) rfl lrs) rfl))) fun h => absurd h (by rw [decide_eq_true c6]; decide)) skipB)
  · have e6 : ev G22 X0 (.val (.cmp .Lt (.var 5) (.con (.int 6)))) (gR m a2 (some (.im (.int v))) (some (.im (.str a))) (some (.im (.str b))) (some (.im (.str c))) a9) (some (dcell ns (n + 1 + 1 + 1 + 1)) :: some (.lst (rs.map rD)) :: g) = .ok false (some (dcell ns (n + 1 + 1 + 1 + 1)) :: some (.lst (rs.map rD)) :: g) := by
      have := valT (cmpE (Γ := G22) (G := X0) (γ := gR m a2 (some (.im (.int v))) (some (.im (.str a))) (some (.im (.str b))) (some (.im (.str c))) a9) (S := some (dcell ns (n + 1 + 1 + 1 + 1)) :: some (.lst (rs.map rD)) :: g) (a := .var 5) (b := .con (.int 6)) (varE rfl) rfl (lt_int v 6))
      rw [decide_eq_false c6] at this
      exact this
    by_cases c7 : v = 6
    · subst c7
      refine add (.R a b) (n + 1 + 1 + 1 + 1) g (some (.im (.int 6))) (some (.im (.str a))) (some (.im (.str b))) (some (.im (.str c))) a9 (by omega) (by omega) (mem_R ha hb) (fun h => absurd h (show ¬ (("raise" : Str) = "make") by decide +kernel)) ?_
      exact seq st1 (seq (ifP e6 (fun h => by cases h) fun _ => seq (ifP (p := true) (valT rfl) (fun _ => seq (appS (ds := rs.map rD) (d := rD (.R a b)) rfl rfl (oneA (tupE (ds := [.str "raise", .str a, .str b]) (consA rfl (consA (varE rfl) (oneA (varE rfl)))) (show 3 ≤ sizeLine by decide))) rfl lrs) rfl) fun h => by cases h) rfl) skipB)
    · have e7 : ev G22 X0 (.val (.cmp .Eq (.var 5) (.con (.int 6)))) (gR m a2 (some (.im (.int v))) (some (.im (.str a))) (some (.im (.str b))) (some (.im (.str c))) a9) (some (dcell ns (n + 1 + 1 + 1 + 1)) :: some (.lst (rs.map rD)) :: g) = .ok false (some (dcell ns (n + 1 + 1 + 1 + 1)) :: some (.lst (rs.map rD)) :: g) := by
        refine valT (cmpE (varE rfl) rfl ?_)
        rw [DL.eq_int, beq_eq_false_iff_ne.mpr c7]
      by_cases c8 : v = 7
      · subst c8
        refine add (.M a b c) (n + 1 + 1 + 1 + 1) g (some (.im (.int 7))) (some (.im (.str a))) (some (.im (.str b))) (some (.im (.str c))) a9 (by omega) (by omega) (mem_M ha hb hc) (fun h => absurd h (show ¬ (("meet" : Str) = "make") by decide +kernel)) ?_
        exact seq st1 (seq (ifP e6 (fun h => by cases h) fun _ => seq (ifP e7 (fun h => by cases h) fun _ => seq (ifP (p := true) (valT rfl) (fun _ => seq (appS (ds := rs.map rD) (d := rD (.M a b c)) rfl rfl (oneA (tupE (ds := [.str "meet", .str a, .str b, .str c]) (consA rfl (consA (varE rfl) (consA (varE rfl) (oneA (varE rfl))))) (show 4 ≤ sizeLine by decide))) rfl lrs) rfl) fun h => by cases h) rfl) rfl) skipB)
      · have e8 : ev G22 X0 (.val (.cmp .Eq (.var 5) (.con (.int 7)))) (gR m a2 (some (.im (.int v))) (some (.im (.str a))) (some (.im (.str b))) (some (.im (.str c))) a9) (some (dcell ns (n + 1 + 1 + 1 + 1)) :: some (.lst (rs.map rD)) :: g) = .ok false (some (dcell ns (n + 1 + 1 + 1 + 1)) :: some (.lst (rs.map rD)) :: g) := by
          refine valT (cmpE (varE rfl) rfl ?_)
          rw [DL.eq_int, beq_eq_false_iff_ne.mpr c8]
        obtain ⟨its, i1, i2⟩ := anyC (Γ := G22) (G := X0) (i := 4) (k := 1) (ds := rs.map rD) (γ := gR m a2 (some (.im (.int v))) (some (.im (.str a))) (some (.im (.str b))) (some (.im (.str c))) a9) (S := some (dcell ns (n + 1 + 1 + 1 + 1)) :: some (.lst (rs.map rD)) :: g) rfl rfl
        have hm := lcMap (Γ := G22) (G := X0) (tg := .name 10) (vs := [10]) (e := .sub (.var 10) (.con (.int 0))) rs rD (fun r => .str (kd r)) i1 i2 (by rw [z4]; omega) fun r _ => ⟨_, rfl, kindE rfl⟩
        rw [strMap] at hm
        have e9 := valT (cmpE (Γ := G22) (G := X0) (op := .NotIn) (a := .con (.str "make")) rfl hm (nin_sqN false "make" (rs.map kd)))
        cases q : has ("make" : Str) (rs.map kd) with
        | true =>
          rw [q] at e9
          exact ⟨n + 1 + 1 + 1 + 1, rs, g, _, _, _, _, _, by omega, by omega, Nat.le_succ _, hr, one, seq st1 (seq (ifP e6 (fun h => by cases h) fun _ => seq (ifP e7 (fun h => by cases h) fun _ => seq (ifP e8 (fun h => by cases h) fun _ => seq (ifP e9 (fun h => by cases h) fun _ => rfl) rfl) rfl) rfl) skipB)⟩
        | false =>
          rw [q] at e9
          refine add (.K (srt (dedup [a, b]))) (n + 1 + 1 + 1 + 1) g (some (.im (.int v))) (some (.im (.str a))) (some (.im (.str b))) (some (.im (.str c))) a9 (by omega) (by omega) (mem_K ha hb) (fun _ => q) ?_
          refine seq st1 (seq (ifP e6 (fun h => by cases h) fun _ => seq (ifP e7 (fun h => by cases h) fun _ => seq (ifP e8 (fun h => by cases h) fun _ => seq (ifP e9 (fun _ => seq (appS (ds := rs.map rD) (d := rD (.K (srt (dedup [a, b])))) rfl rfl (oneA (tupE (ds := [.str "make", .tup ((srt (dedup [a, b])).map D.str)]) (consA rfl (oneA (cbE (oneA (unE (lstE (ds := [.str a, .str b]) (consA (varE rfl) (oneA (varE rfl))) (show 2 ≤ sizeLine by decide)) rfl (sort_strsS false [a, b] (show 2 < 64 by decide)))) rfl))) (show 2 ≤ sizeLine by decide))) rfl lrs) rfl) fun h => by cases h) rfl) rfl) rfl) skipB)
theorem r_rules (ns : List Int) (n : Int) (k : Nat) (hn : 0 ≤ n) (hn2 : n < 800000) (hk : k ≤ 6) : ∃ (rs : List Rule) (n' : Int) (r : Sto), n ≤ n' ∧ n' ≤ n + 40 ∧ rs.length ≤ k ∧ (∀ r ∈ rs, r ∈ RL) ∧ One rs ∧ s__law_rules [.cl 0, .im (.int k)] [some (dcell ns n)] = .ok (.im (.lst (rs.map rD))) (some (dcell ns n') :: r) := by
  obtain ⟨v, ⟨v0, v1⟩, q0⟩ := nextE (Γ := G22) (ns := ns) (n := n) (b := (k : Int) + 1) hn (by omega) (by omega)
  have e1 := rng1E (oneA (q0 (.acons (.var 0) (.acons (.bin .Add (.var 1) (.con (.int 1))) .anil)) (gR k none none none none none none) [some (dcell ns n), some (.lst [])] [some (dcell ns n), some (.lst [])] 0 11 G22 _ rfl (consA rfl (oneA (binE (varE rfl) rfl bAdd))) rfl)) v0 (by omega)
  obtain ⟨γ2, S2, ef, n', rs, g, a2, a5, a6, a7, a8, a9, f1, f2, f3, f4, f5, f6, f7⟩ := forInv (Γ := G22) (G := X0) (tg := .name 2) (b := body) (List.range v.toNat) (fun i => D.int (0 + (i : Int)))
    (fun j γ S => ∃ (n' : Int) (rs : List Rule) (g : Sto) (a2 a5 a6 a7 a8 a9 : Option Vl), n ≤ n' ∧ n' ≤ n + 1 + 6 * j ∧ rs.length ≤ j ∧ (∀ r ∈ rs, r ∈ RL) ∧ One rs ∧ γ = gR k a2 a5 a6 a7 a8 a9 ∧ S = some (dcell ns n') :: some (.lst (rs.map rD)) :: g)
    e1 (fun _ _ _ _ => rfl) ⟨n + 1, [], [], none, none, none, none, none, none, by omega, by omega, Nat.le_refl _, (fun _ h => by cases h), List.Pairwise.nil, rfl, rfl⟩ (fun j hj γ S ⟨n', rs, g, a2, a5, a6, a7, a8, a9, f1, f2, f3, f4, f5, f6, f7⟩ => by
      subst f6 f7
      have hj' : j < 7 := by rw [List.length_range] at hj; omega
      obtain ⟨n2, rs2, g2, b5, b6, b7, b8, b9, t1, t2, t3, t4, t5, t6⟩ := turn_ok ns k n' (by omega) (by omega) rs g (some (.im (.int (0 + ((List.range v.toNat)[j]'hj : Nat))))) a5 a6 a7 a8 a9 f4 f5 (by omega)
      exact ⟨_, rfl, _, _, t6, n2, rs2, g2, _, b5, b6, b7, b8, b9, by omega, by omega, by omega, t4, t5, rfl, rfl⟩)
  rw [List.length_range] at f2 f3
  subst f6 f7
  refine ⟨rs, n', none :: g, f1, by omega, by omega, f4, f5, semRun ?_⟩
  rw [tag_ok]
  exact seq (parS (S1 := [some (dcell ns n), some (.lst [])]) (x := .im (.lst (W.map D.str))) (y := .cl 1) rfl (show 3 < 11 by decide) (show 4 < 11 by decide)) (seq ef (retS rfl))
end K02
namespace K02
open PySem PySem.Spec L2 DL
open PyProof.Rows hiding St
variable [Tbl]
section
variable {γ : Gam} {S S1 S2 : Sto}
theorem opEq (rs ss : List Rule) : evCmp G25 .Eq (.im (polD rs)) (.im (polD ss)) γ S = .ok (.im (.bl (decide (rs = ss)))) S := by
  show postR (postB id) (callSem (arity 2 s_Policy___eq__) ([polD rs, polD ss].map Vl.im) γ S) = _
  rw [call_ok (n := 2) (ds := [_, _]) rfl (r_eq rs ss)]; rfl
theorem opNe (rs ss : List Rule) : evCmp G25 .NotEq (.im (polD rs)) (.im (polD ss)) γ S = .ok (.im (.bl (!decide (rs = ss)))) S := by
  show postR (postB fun b => !b) (callSem (arity 2 s_Policy___eq__) ([polD rs, polD ss].map Vl.im) γ S) = _
  rw [call_ok (n := 2) (ds := [_, _]) rfl (r_eq rs ss)]; rfl
theorem neP {a b : ME .E} {rs ss : List Rule} (h : ev G25 X0 a γ S = .ok (.im (polD rs)) S) (k : ev G25 X0 b γ S = .ok (.im (polD ss)) S) (e : rs = ss) : ev G25 X0 (.val (.cmp .NotEq a b)) γ S = .ok false S := by
  subst e
  refine valT (cmpE h k ?_)
  rw [opNe, decide_eq_true rfl]; rfl
theorem opAdd {rs ss : List Rule} (hl : (adds rs ss).length ≤ 12) (hr : ∀ r ∈ adds rs ss, r ∈ RL) (one : One (adds rs ss)) (hs : ss.length ≤ 12) : evBin G25 .Add (.im (polD rs)) (.im (polD ss)) γ S = .ok (.im (polD (adds rs ss))) S := by
  have : evBin G25 .Add (.im (polD rs)) (.im (polD ss)) γ S = postR some (callSem (arity 2 s_Policy___add__) ([polD rs, polD ss].map Vl.im) γ S) := rfl
  rw [this, call_ok (n := 2) (ds := [_, _]) rfl (r_add rs ss hl hr one hs)]; rfl
theorem opLen {rs : List Rule} (h : rs.length < 64) : evB G25 .len [.im (polD rs)] γ S = .ok (.im (.int rs.length)) S := by
  have e : callSem (arity 1 s_Policy___len__) ([polD rs].map Vl.im) γ S = .ok (.im (.int rs.length)) S := call_ok (n := 1) (ds := [_]) rfl (r_len rs) γ S
  have e2 : evB G25 .len [.im (polD rs)] γ S = postR postN (callSem (arity 1 s_Policy___len__) ([polD rs].map Vl.im) γ S) := rfl
  rw [e2, e]
  exact postR_N S (Int.natCast_nonneg _) (lt63 h)
theorem opList {rs : List Rule} (h : rs.length < 64) : evB G25 .list [.im (polD rs)] γ S = .ok (.im (.lst (rs.map rD))) S := by
  have e1 : callSem (arity 1 s_Policy___iter__) ([polD rs].map Vl.im) γ S = .ok (.im (.tup (rs.map rD))) S := call_ok (n := 1) (ds := [_]) rfl (S' := []) rfl γ S
  have e2 : callSem (arity 1 s_Policy___len__) ([polD rs].map Vl.im) γ S = .ok (.im (.int rs.length)) S := call_ok (n := 1) (ds := [_]) rfl (r_len rs) γ S
  show (callSem (arity 1 s_Policy___iter__) ([polD rs].map Vl.im) γ S).nox.bind (fun y S1 => match y with
      | .im (.lst ds) => if clsV (.im (polD rs)) S1 = some ("Policy" : Str) then (callSem (arity 1 s_Policy___len__) ([polD rs].map Vl.im) γ S1).nox.bind fun n S2 => match n with
            | .im (.int k) => if 0 ≤ k ∧ k ≤ 16777216 then R.ok (Vl.im (.lst ds)) S2 else .bad
            | _ => .bad
          else .bad
      | .im (.tup ds) => if clsV (.im (polD rs)) S1 = some ("Policy" : Str) then (callSem (arity 1 s_Policy___len__) ([polD rs].map Vl.im) γ S1).nox.bind fun n S2 => match n with
            | .im (.int k) => if 0 ≤ k ∧ k ≤ 16777216 then R.ok (Vl.im (.lst ds)) S2 else .bad
            | _ => .bad
          else .bad
      | _ => .bad) = _
  rw [e1]
  show (if clsV (.im (polD rs)) S = some ("Policy" : Str) then (callSem (arity 1 s_Policy___len__) ([polD rs].map Vl.im) γ S).nox.bind fun n S2 => match n with
            | .im (.int k) => if 0 ≤ k ∧ k ≤ 16777216 then R.ok (Vl.im (.lst (rs.map rD))) S2 else .bad
            | _ => .bad
          else .bad) = _
  rw [if_pos (show clsV (.im (polD rs)) S = some ("Policy" : Str) from rfl), e2]
  show (if (0 : Int) ≤ (rs.length : Int) ∧ (rs.length : Int) ≤ 16777216 then R.ok (Vl.im (.lst (rs.map rD))) S else .bad) = _
  rw [if_pos ⟨by omega, by omega⟩]
theorem itemE {a b : ME .E} {rs : List Rule} {k : Nat} (h : ev G25 X0 a γ S = .ok (.im (polD rs)) S) (hb : ev G25 X0 b γ S = .ok (.im (.int k)) S) (hk : k < rs.length) : ev G25 X0 (.subX a b) γ S = .ok (.im (rD rs[k])) S :=
  subXO (c := "Policy") (r := r_Policy___getitem__) h (fun _ => rfl) hb rfl (call_ok (ds := [_, _]) rfl (r_item rs k hk) _ _)
theorem outE {a : ME .E} {as : ME .A} {rs : List Rule} {ks : List Nat} (h : ev G25 X0 a γ S = .ok (.im (polD rs)) S) (ha : ev G25 X0 as γ S = .ok ((ks.map nD).map Vl.im) S) (hl : rs.length ≤ 12) (hr : ∀ r ∈ rs, r ∈ RL) (one : One rs) (hk : ∀ k ∈ ks, k < rs.length) (hkl : ks.length ≤ 100) : ev G25 X0 (.methS 0 a as) γ S = .ok (.im (polD (outs rs ks))) S :=
  methSE (m := "without") (c := "Policy") (T := [("Policy", r_Policy_without)]) (f := s_Policy_without) rfl h rfl rfl ha (by rw [List.length_map, z4]; omega) (call_ok (ds := [_, _]) rfl (r_out rs ks hl hr one hk hkl) _ _)
/-- what is told of a number that is none -/
theorem err_item {b : ME .E} {a : ME .E} {rs : List Rule} {d : D} (h : ev G25 X0 a γ S = .ok (.im (polD rs)) S) (hb : ev G25 X0 b γ S = .ok (.im d) S) (hn : s_is_number [.im d, .im (.int rs.length)] [] = .ok (.im (.bl false)) []) : ev G25 X0 (.lerr 0 (.subX a b)) γ S = .ok (.im (.lst [d])) S :=
  errX (x := "_law_error") (er := er_law_error) rfl (subXO (c := "Policy") (r := r_Policy___getitem__) h (fun _ => rfl) hb rfl (call_exc (ds := [_, _]) rfl (r_item_no rs d hn) _ _)) (by decide +kernel) (by
    show errD er_law_error.ens "BadPolicy" [("number", d)] = some [d]
    kernel_rfl)
theorem err_out {b : ME .E} {a : ME .E} {rs : List Rule} {d : D} (h : ev G25 X0 a γ S = .ok (.im (polD rs)) S) (hb : ev G25 X0 b γ S = .ok (.im d) S) (hn : s_is_number [.im d, .im (.int rs.length)] [] = .ok (.im (.bl false)) []) : ev G25 X0 (.lerr 0 (.methS 0 a (.acons b .anil))) γ S = .ok (.im (.lst [d])) S :=
  errX (x := "_law_error") (er := er_law_error) rfl (methSE (m := "without") (c := "Policy") (T := [("Policy", r_Policy_without)]) (f := s_Policy_without) (ds := [d]) rfl h rfl rfl (oneA hb) (by rw [z4]; show 1 ≤ 16777216; omega) (call_exc (ds := [_, _]) rfl (r_out_no rs d hn) _ _)) (by decide +kernel) (by
    show errD er_law_error.ens "BadPolicy" [("number", d)] = some [d]
    kernel_rfl)
end
end K02
namespace K02
open PySem PySem.Spec L2 DL
open PyProof.Rows hiding St
variable [Tbl]
abbrev good : D := (.tup [.str "raise", .str "a", .str "b"])
abbrev odd : List D := [.non, .str "raise", .tup [.str "raise"], .tup [.str "raise", .str "a"], .tup [.str "raise", .str "a", .str "B"], .tup [.str "raise", .str "a", .str "b", .str "c"], .tup [.str "meet", .str "a", .str "b"], .tup [.str "fetch", .str "a", .tup []], .tup [.str "fetch", .str "a", .lst [.tup [.str "a", .str "b"], .tup [.str "a", .str "b"]]], .tup [.str "hand", .str "a", .lst [.tup [.str "a"]]], .tup [.str "hand", .str "a", .lst [.lst [.str "a", .str "b"]]], .tup [.str "hand", .int 7, .lst [.tup [.str "a", .str "b"]]], .tup [.str "make", .tup []], .tup [.str "make", .lst [.str "a", .str "a"]], .tup [.str "make", .str "a"], .tup [.str "take", .str "a", .str "b"], .lst [.str "raise", .str "a", .str "b"]]
abbrev odd1 : List D := [.non, .str "raise", .tup [.str "raise"], .tup [.str "raise", .str "a"], .tup [.str "raise", .str "a", .str "B"], .tup [.str "raise", .str "a", .str "b", .str "c"], .tup [.str "meet", .str "a", .str "b"]]
abbrev odd2 : List D := [.non, .str "raise", .tup [.str "raise"], .tup [.str "raise", .str "a"], .tup [.str "raise", .str "a", .str "B"], .tup [.str "raise", .str "a", .str "b", .str "c"], .tup [.str "meet", .str "a", .str "b"], .tup [.str "fetch", .str "a", .tup []], .tup [.str "fetch", .str "a", .lst [.tup [.str "a", .str "b"], .tup [.str "a", .str "b"]]], .tup [.str "hand", .str "a", .lst [.tup [.str "a"]]], .tup [.str "hand", .str "a", .lst [.lst [.str "a", .str "b"]]]]
abbrev four : List D := [.int 7, .non, .str "", .dct false []]
abbrev prs : D := .lst [.tup [.str "a", .str "a"], .tup [.str "a", .str "b"], .tup [.str "a", .str "c"], .tup [.str "a", .str "d"], .tup [.str "a", .str "e"], .tup [.str "a", .str "f"], .tup [.str "a", .str "g"], .tup [.str "a", .str "h"], .tup [.str "a", .str "i"], .tup [.str "a", .str "j"]]
abbrev gL (x0 x2 x3 gd od wr ps x8 x9 x10 x11 x13 x14 : Option Vl) : Gam := [x0, some (.cl 0), x2, x3, gd, od, wr, ps, x8, x9, x10, x11, none, x13, x14, none, none]
theorem a1 (c0 : Cell) (x0 x2 x3 x8 x9 x10 x11 x13 x14 : Option Vl) (od wr ps : Option Vl) : ev G25 X0 (.lst (.acons (.con .non) (.acons (.con (.str "raise")) (.acons (.tup (.acons (.con (.str "raise")) .anil)) (.acons (.tup (.acons (.con (.str "raise")) (.acons (.con (.str "a")) .anil))) (.acons (.tup (.acons (.con (.str "raise")) (.acons (.con (.str "a")) (.acons (.con (.str "B")) .anil)))) (.acons (.tup (.acons (.con (.str "raise")) (.acons (.con (.str "a")) (.acons (.con (.str "b")) (.acons (.con (.str "c")) .anil))))) (.acons (.tup (.acons (.con (.str "meet")) (.acons (.con (.str "a")) (.acons (.con (.str "b")) .anil)))) .anil)))))))) (gL x0 x2 x3 (some (.im good)) od wr ps x8 x9 x10 x11 x13 x14) [some c0] = .ok (.im (.lst odd1)) [some c0] := by kernel_rfl
theorem a2 (c0 : Cell) (x0 x2 x3 x8 x9 x10 x11 x13 x14 : Option Vl) (wr ps : Option Vl) : ev G25 X0 (.bin .Add (.var 5) (.lst (.acons (.tup (.acons (.con (.str "fetch")) (.acons (.con (.str "a")) (.acons (.tup .anil) .anil)))) (.acons (.tup (.acons (.con (.str "fetch")) (.acons (.con (.str "a")) (.acons (.lst (.acons (.tup (.acons (.con (.str "a")) (.acons (.con (.str "b")) .anil))) (.acons (.tup (.acons (.con (.str "a")) (.acons (.con (.str "b")) .anil))) .anil))) .anil)))) (.acons (.tup (.acons (.con (.str "hand")) (.acons (.con (.str "a")) (.acons (.lst (.acons (.tup (.acons (.con (.str "a")) .anil)) .anil)) .anil)))) (.acons (.tup (.acons (.con (.str "hand")) (.acons (.con (.str "a")) (.acons (.lst (.acons (.lst (.acons (.con (.str "a")) (.acons (.con (.str "b")) .anil))) .anil)) .anil)))) .anil)))))) (gL x0 x2 x3 (some (.im good)) (some (.im (.lst odd1))) wr ps x8 x9 x10 x11 x13 x14) [some c0] = .ok (.im (.lst odd2)) [some c0] := by kernel_rfl
theorem a3 (c0 : Cell) (x0 x2 x3 x8 x9 x10 x11 x13 x14 : Option Vl) (wr ps : Option Vl) : ev G25 X0 (.bin .Add (.var 5) (.lst (.acons (.tup (.acons (.con (.str "hand")) (.acons (.con (.int 7)) (.acons (.lst (.acons (.tup (.acons (.con (.str "a")) (.acons (.con (.str "b")) .anil))) .anil)) .anil)))) (.acons (.tup (.acons (.con (.str "make")) (.acons (.tup .anil) .anil))) (.acons (.tup (.acons (.con (.str "make")) (.acons (.lst (.acons (.con (.str "a")) (.acons (.con (.str "a")) .anil))) .anil))) (.acons (.tup (.acons (.con (.str "make")) (.acons (.con (.str "a")) .anil))) (.acons (.tup (.acons (.con (.str "take")) (.acons (.con (.str "a")) (.acons (.con (.str "b")) .anil)))) (.acons (.lst (.acons (.con (.str "raise")) (.acons (.con (.str "a")) (.acons (.con (.str "b")) .anil)))) .anil)))))))) (gL x0 x2 x3 (some (.im good)) (some (.im (.lst odd2))) wr ps x8 x9 x10 x11 x13 x14) [some c0] = .ok (.im (.lst odd)) [some c0] := by kernel_rfl
theorem t1 (c0 : Cell) (x0 x2 x3 x8 x9 x10 x11 x13 x14 : Option Vl) (ps : Option Vl) (d : D) (hd : d ∈ odd) : ev G25 X0 (.cmp .NotEq (.lerr 0 (.make 0 true (.acons (.lst (.acons (.var 4) (.acons (.var 6) (.acons (.con (.int 7)) .anil)))) .anil))) (.lst (.acons (.con (.int 1)) .anil))) (gL x0 x2 x3 (some (.im good)) (some (.im (.lst odd))) (some (.im d)) ps x8 x9 x10 x11 x13 x14) [some c0] = .ok (.im (.bl false)) [some c0] := by
  simp only [odd, List.mem_cons, List.not_mem_nil, or_false] at hd
  rcases hd with e | e | e | e | e | e | e | e | e | e | e | e | e | e | e | e | e <;> subst e <;> kernel_rfl
theorem t2 (c0 : Cell) (x0 x2 x3 x8 x9 x10 x11 x13 x14 : Option Vl) (wr ps : Option Vl) : ev G25 X0 (.cmp .NotEq (.lerr 0 (.make 0 true (.acons (.lst (.acons (.tup (.acons (.con (.str "make")) (.acons (.lst (.acons (.con (.str "a")) .anil)) .anil))) (.acons (.var 4) (.acons (.tup (.acons (.con (.str "make")) (.acons (.lst (.acons (.con (.str "b")) .anil)) .anil))) .anil)))) .anil))) (.lst (.acons (.con (.int 2)) .anil))) (gL x0 x2 x3 (some (.im good)) (some (.im (.lst odd))) wr ps x8 x9 x10 x11 x13 x14) [some c0] = .ok (.im (.bl false)) [some c0] := by kernel_rfl
theorem t3 (c0 : Cell) (x0 x2 x3 x8 x9 x10 x11 x13 x14 : Option Vl) (wr ps : Option Vl) : ev G25 X0 (.cmp .NotEq (.lerr 0 (.make 0 true (.acons (.bin .Mult (.lst (.acons (.var 4) .anil)) (.con (.int 13))) .anil))) (.lst (.acons (.con .non) .anil))) (gL x0 x2 x3 (some (.im good)) (some (.im (.lst odd))) wr ps x8 x9 x10 x11 x13 x14) [some c0] = .ok (.im (.bl false)) [some c0] := by kernel_rfl
theorem a7 (c0 : Cell) (x0 x2 x3 x8 x9 x10 x11 x13 x14 : Option Vl) (wr ps : Option Vl) : ev G25 X0 (.lc (.name 15) [15] (.any (.con (.str "abcdefghij"))) .cnil (.tup (.acons (.con (.str "a")) (.acons (.var 15) .anil)))) (gL x0 x2 x3 (some (.im good)) (some (.im (.lst odd))) wr ps x8 x9 x10 x11 x13 x14) [some c0] = .ok (.im prs) [some c0] := by kernel_rfl
theorem t5 (c0 : Cell) (x0 x2 x3 x8 x9 x10 x11 x13 x14 : Option Vl) (wr : Option Vl) : ev G25 X0 (.cmp .NotEq (.lerr 0 (.make 0 true (.acons (.lst (.acons (.tup (.acons (.con (.str "fetch")) (.acons (.con (.str "a")) (.acons (.var 7) .anil)))) .anil)) .anil))) (.lst (.acons (.con (.int 0)) .anil))) (gL x0 x2 x3 (some (.im good)) (some (.im (.lst odd))) wr (some (.im prs)) x8 x9 x10 x11 x13 x14) [some c0] = .ok (.im (.bl false)) [some c0] := by kernel_rfl
theorem t6 (c0 : Cell) (x0 x2 x3 x8 x9 x10 x11 x13 x14 : Option Vl) (wr : Option Vl) : ev G25 X0 (.ofT (.and (.val (.cmp .Eq (.lerr 0 (.make 0 true (.acons (.lst (.acons (.tup (.acons (.con (.str "hand")) (.acons (.con (.str "a")) (.acons (.sl (.var 7) (.osome (.con (.int 1))) .onone) .anil)))) .anil)) .anil))) (.lst .anil))) (.val (.cmp .Eq (.callB .len (.acons (.make 0 true (.acons (.bin .Mult (.lst (.acons (.var 4) .anil)) (.con (.int 12))) .anil)) .anil)) (.con (.int 12)))))) (gL x0 x2 x3 (some (.im good)) (some (.im (.lst odd))) wr (some (.im prs)) x8 x9 x10 x11 x13 x14) [some c0] = .ok (.im (.bl true)) [some c0] := by kernel_rfl
theorem r_four (d : D) (hd : d ∈ four) : ∃ (γ' : Gam) (c' : Option Cell) (rest : Sto), s_Policy___init__ [.cl 0, .im d] [some (.ins "Policy" [])] = .exc "BadPolicy" [("number", .non)] γ' (c' :: rest) := by
  simp only [four, List.mem_cons, List.not_mem_nil, or_false] at hd
  rcases hd with e | e | e | e <;> subst e
  · exact ⟨_, _, _, rfl⟩
  · exact ⟨_, _, _, rfl⟩
  · exact ⟨_, _, _, rfl⟩
  · exact ⟨_, _, _, rfl⟩
theorem call_clX {f : FnS} {n i : Nat} {ds : List D} {e : Str} {fs : List (Str × D)} {c : Cell} {c' : Option Cell} (hn : ds.length + 1 = n) {γ γ' : Gam} {S : Sto} (hi : S[i]? = some (some c)) {r : Sto} (h : f (.cl 0 :: ds.map Vl.im) [some c] = .exc e fs γ' (c' :: r)) : callSem (arity n f) (.cl i :: ds.map Vl.im) γ S = .exc e fs γ (S.set i c') := by
  have e1 : pack (.cl i :: ds.map Vl.im) 0 = (.cl 0 :: ds.map Vl.im, [i]) := by
    show ((Vl.cl 0) :: (pack (ds.map Vl.im) 1).1, i :: (pack (ds.map Vl.im) 1).2) = _
    rw [pack_ims]
  have hs : sub S [i] = [some c] := by
    unfold sub
    simp [hi]
  have hl : allLive S [i] = true := by
    unfold allLive
    simp [hi]
  unfold callSem
  rw [e1]
  simp only [hs, hl, and_true]
  rw [if_pos (by simp)]
  have : arity n f (.cl 0 :: ds.map Vl.im) [some c] = .exc e fs γ' (c' :: r) := by unfold arity; rw [if_pos (by rw [List.length_cons, List.length_map]; exact hn)]; exact h
  rw [this]
  show R.exc e fs γ (wb (S.set i c') [] r) = _
  rw [wb_nil]
theorem makeX {Γ : GE} {G : GX} {γ γ' : Gam} {S S1 : Sto} {i : Nat} {c e : Str} {r : DL.FnR} {as : ME .A} {ds : List D} {fs : List (Str × D)} {c' : Option Cell} {rest : Sto} (hm : Γ.mks[i]? = some (c, r)) (ha : ev Γ G as γ S = .ok (ds.map Vl.im) S1) (hn : (ds ++ r.dd).length + 1 = r.n) (h : r.sem (.cl 0 :: (ds ++ r.dd).map Vl.im) [some (.ins c [])] = .exc e fs γ' (c' :: rest)) :
    ev Γ G (.make i true as) γ S = .exc e fs γ S1 := by
  show (match Γ.mks[i]? with
    | some p => fMake p.1 (arity p.2.n p.2.sem) p.2.dd (ev Γ G as) true
    | none => fBad) γ S = _
  rw [hm]
  show fMake c (arity r.n r.sem) r.dd (ev Γ G as) true γ S = _
  unfold fMake; rw [ha]
  have e0 := call_clX (f := r.sem) (n := r.n) (i := S1.length) (ds := ds ++ r.dd) (c := .ins c []) hn (γ := γ) (S := S1 ++ [some (.ins c [])]) (by rw [List.getElem?_append_right (Nat.le_refl _), Nat.sub_self]; rfl) h
  rw [List.map_append] at e0
  show (match callSem (arity r.n r.sem) (.cl S1.length :: (ds.map Vl.im ++ r.dd.map Vl.im)) γ (S1 ++ [some (.ins c [])]) with
  | .ok (.im .non) S2 => if true = true then (match S2[S1.length]? with
      | some (some (.ins c fs)) => R.ok (Vl.im (.ins c fs)) (S2.take S1.length)
      | _ => .bad) else .ok (.cl S1.length) S2
  | .exc e fs γ' S2 => .exc e fs γ' (S2.take S1.length)
  | _ => .bad) = _
  rw [e0]
  have e2 : (S1 ++ [some (Cell.ins c [])]).set S1.length c' = S1 ++ [c'] := by
    rw [List.set_append_right _ _ (Nat.le_refl _), Nat.sub_self]; rfl
  rw [e2]
  simp only [List.take_left' rfl]
abbrev later : ME .B := (.bcons (.asg (.name 4) (.tup (.acons (.con (.str "raise")) (.acons (.con (.str "a")) (.acons (.con (.str "b")) .anil))))) (.bcons (.asg (.name 5) (.lst (.acons (.con .non) (.acons (.con (.str "raise")) (.acons (.tup (.acons (.con (.str "raise")) .anil)) (.acons (.tup (.acons (.con (.str "raise")) (.acons (.con (.str "a")) .anil))) (.acons (.tup (.acons (.con (.str "raise")) (.acons (.con (.str "a")) (.acons (.con (.str "B")) .anil)))) (.acons (.tup (.acons (.con (.str "raise")) (.acons (.con (.str "a")) (.acons (.con (.str "b")) (.acons (.con (.str "c")) .anil))))) (.acons (.tup (.acons (.con (.str "meet")) (.acons (.con (.str "a")) (.acons (.con (.str "b")) .anil)))) .anil))))))))) (.bcons (.asg (.name 5) (.bin .Add (.var 5) (.lst (.acons (.tup (.acons (.con (.str "fetch")) (.acons (.con (.str "a")) (.acons (.tup .anil) .anil)))) (.acons (.tup (.acons (.con (.str "fetch")) (.acons (.con (.str "a")) (.acons (.lst (.acons (.tup (.acons (.con (.str "a")) (.acons (.con (.str "b")) .anil))) (.acons (.tup (.acons (.con (.str "a")) (.acons (.con (.str "b")) .anil))) .anil))) .anil)))) (.acons (.tup (.acons (.con (.str "hand")) (.acons (.con (.str "a")) (.acons (.lst (.acons (.tup (.acons (.con (.str "a")) .anil)) .anil)) .anil)))) (.acons (.tup (.acons (.con (.str "hand")) (.acons (.con (.str "a")) (.acons (.lst (.acons (.lst (.acons (.con (.str "a")) (.acons (.con (.str "b")) .anil))) .anil)) .anil)))) .anil))))))) (.bcons (.asg (.name 5) (.bin .Add (.var 5) (.lst (.acons (.tup (.acons (.con (.str "hand")) (.acons (.con (.int 7)) (.acons (.lst (.acons (.tup (.acons (.con (.str "a")) (.acons (.con (.str "b")) .anil))) .anil)) .anil)))) (.acons (.tup (.acons (.con (.str "make")) (.acons (.tup .anil) .anil))) (.acons (.tup (.acons (.con (.str "make")) (.acons (.lst (.acons (.con (.str "a")) (.acons (.con (.str "a")) .anil))) .anil))) (.acons (.tup (.acons (.con (.str "make")) (.acons (.con (.str "a")) .anil))) (.acons (.tup (.acons (.con (.str "take")) (.acons (.con (.str "a")) (.acons (.con (.str "b")) .anil)))) (.acons (.lst (.acons (.con (.str "raise")) (.acons (.con (.str "a")) (.acons (.con (.str "b")) .anil)))) .anil))))))))) (.bcons (.asg (.name 6) (.callF 12 (.acons (.var 1) (.acons (.var 5) .anil)))) (.bcons (.iff (.val (.cmp .NotEq (.lerr 0 (.make 0 true (.acons (.lst (.acons (.var 4) (.acons (.var 6) (.acons (.con (.int 7)) .anil)))) .anil))) (.lst (.acons (.con (.int 1)) .anil)))) (.bcons (.ret (.con (.bl false))) .bnil) .bnil) (.bcons (.iff (.val (.cmp .NotEq (.lerr 0 (.make 0 true (.acons (.lst (.acons (.tup (.acons (.con (.str "make")) (.acons (.lst (.acons (.con (.str "a")) .anil)) .anil))) (.acons (.var 4) (.acons (.tup (.acons (.con (.str "make")) (.acons (.lst (.acons (.con (.str "b")) .anil)) .anil))) .anil)))) .anil))) (.lst (.acons (.con (.int 2)) .anil)))) (.bcons (.ret (.con (.bl false))) .bnil) .bnil) (.bcons (.iff (.val (.cmp .NotEq (.lerr 0 (.make 0 true (.acons (.bin .Mult (.lst (.acons (.var 4) .anil)) (.con (.int 13))) .anil))) (.lst (.acons (.con .non) .anil)))) (.bcons (.ret (.con (.bl false))) .bnil) .bnil) (.bcons (.iff (.val (.cmp .NotEq (.lerr 0 (.make 0 true (.acons (.callF 12 (.acons (.var 1) (.acons (.lst (.acons (.con (.int 7)) (.acons (.con .non) (.acons (.con (.str "")) (.acons .dnew .anil))))) .anil))) .anil))) (.lst (.acons (.con .non) .anil)))) (.bcons (.ret (.con (.bl false))) .bnil) .bnil) (.bcons (.asg (.name 7) (.lc (.name 15) [15] (.any (.con (.str "abcdefghij"))) .cnil (.tup (.acons (.con (.str "a")) (.acons (.var 15) .anil))))) (.bcons (.iff (.val (.cmp .NotEq (.lerr 0 (.make 0 true (.acons (.lst (.acons (.tup (.acons (.con (.str "fetch")) (.acons (.con (.str "a")) (.acons (.var 7) .anil)))) .anil)) .anil))) (.lst (.acons (.con (.int 0)) .anil)))) (.bcons (.ret (.con (.bl false))) .bnil) .bnil) (.bcons (.ret (.ofT (.and (.val (.cmp .Eq (.lerr 0 (.make 0 true (.acons (.lst (.acons (.tup (.acons (.con (.str "hand")) (.acons (.con (.str "a")) (.acons (.sl (.var 7) (.osome (.con (.int 1))) .onone) .anil)))) .anil)) .anil))) (.lst .anil))) (.val (.cmp .Eq (.callB .len (.acons (.make 0 true (.acons (.bin .Mult (.lst (.acons (.var 4) .anil)) (.con (.int 12))) .anil)) .anil)) (.con (.int 12))))))) .bnil))))))))))))
theorem r_later (ns : List Int) (n : Int) (hn : 0 ≤ n) (hn2 : n < 900000) (x0 x2 x3 x8 x9 x10 x11 x13 x14 : Option Vl) (gd od wr ps : Option Vl) : ∃ S, ev G25 X0 later (gL x0 x2 x3 gd od wr ps x8 x9 x10 x11 x13 x14) [some (dcell ns n)] = .ok (.rt (.im (.bl true))) S := by
  obtain ⟨d, hd, p1⟩ := pickE (ns := ns) (n := n) (ds := odd) hn (by omega) (by simp)
  obtain ⟨e, he, p2⟩ := pickE (ns := ns) (n := n + 1) (ds := four) (by omega) (by omega) (by simp)
  obtain ⟨γ', c', rest, hf⟩ := r_four e he
  refine ⟨[some (dcell ns (n + 1 + 1))], ?_⟩
  refine seq (asgS (x := .im good) rfl rfl) ?_
  refine seq (asgS (a1 (dcell ns n) x0 x2 x3 x8 x9 x10 x11 x13 x14 od wr ps) rfl) ?_
  refine seq (asgS (a2 (dcell ns n) x0 x2 x3 x8 x9 x10 x11 x13 x14 wr ps) rfl) ?_
  refine seq (asgS (a3 (dcell ns n) x0 x2 x3 x8 x9 x10 x11 x13 x14 wr ps) rfl) ?_
  refine seq (asgS (p1 _ _ [some (dcell ns n)] [some (dcell ns n)] 0 12 G25 _ rfl (consA rfl (oneA rfl)) rfl) rfl) ?_
  refine seq (iffF (valT (t1 (dcell ns (n + 1)) x0 x2 x3 x8 x9 x10 x11 x13 x14 ps d hd))) ?_
  refine seq (iffF (valT (t2 (dcell ns (n + 1)) x0 x2 x3 x8 x9 x10 x11 x13 x14 (some (.im d)) ps))) ?_
  refine seq (iffF (valT (t3 (dcell ns (n + 1)) x0 x2 x3 x8 x9 x10 x11 x13 x14 (some (.im d)) ps))) ?_
  refine seq (ifP (p := false) (S1 := [some (dcell ns (n + 1 + 1))]) (valT (cmpE (errX (x := "_law_error") (er := er_law_error) (c := "BadPolicy") (fs := [("number", .non)]) (ds := [.non]) rfl (makeX (ds := [e]) (c := "Policy") rfl (oneA (p2 _ _ [some (dcell ns (n + 1))] [some (dcell ns (n + 1))] 0 12 G25 _ rfl (consA rfl (oneA rfl)) rfl)) rfl hf) (by decide +kernel) (by kernel_rfl)) rfl rfl)) (fun h => by cases h) fun _ => rfl) ?_
  refine seq (asgS (a7 (dcell ns (n + 1 + 1)) x0 x2 x3 x8 x9 x10 x11 x13 x14 (some (.im d)) ps) rfl) ?_
  refine seq (iffF (valT (t5 (dcell ns (n + 1 + 1)) x0 x2 x3 x8 x9 x10 x11 x13 x14 (some (.im d))))) ?_
  exact retS (t6 (dcell ns (n + 1 + 1)) x0 x2 x3 x8 x9 x10 x11 x13 x14 (some (.im d)))
end K02
namespace K02
open PySem PySem.Spec L2 DL
open PyProof.Rows hiding St
variable [Tbl]
section
variable {Γ : GE} {G : GX} {γ γ1 γ2 : Gam} {S S1 S2 : Sto}
theorem slLoE {a l : ME .E} {x : Vl} {d r : D} {k : Int} (h : ev Γ G a γ S = .ok x S1) (hl : ev Γ G l γ S1 = .ok (.im (.int k)) S2) (hx : x.view S2 = some d) (hr : slD d (some k) none = some r) : ev Γ G (.sl a (.osome l) .onone) γ S = .ok (.im r) S2 := by
  show fSl (ev Γ G a) (fPart (ev Γ G l)) fNoPart γ S = _
  unfold fSl fPart; rw [h]
  show (((ev Γ G l γ S1).bind fun x S1 => _).bind fun lo S2 => (fNoPart γ S2).bind fun hi S3 => R.ofO ((x.view S3).bind fun d => slD d lo hi) S3) = _
  rw [hl]
  show R.ofO ((x.view S2).bind fun d => slD d (some k) none) S2 = _
  rw [hx]
  show R.ofO (slD d (some k) none) S2 = _
  rw [hr]; rfl
theorem cut_ge {α : Type} (xs : List α) (k : Nat) : cutL xs (some (k : Int)) none = xs.drop k := by
  unfold cutL
  rw [HT.sIx_none, HT.sIx_nat]
  by_cases h : k ≤ xs.length
  · rw [Nat.min_eq_left h, List.take_of_length_le (by rw [List.length_drop]; exact Nat.le_refl _)]
  · rw [Nat.min_eq_right (by omega), List.drop_of_length_le (Nat.le_refl _), List.drop_of_length_le (by omega), List.take_nil]
theorem ne_same (d : D) (h0 : ∀ S, clsV (.im d) S = none) (h1 : d.pln = true) (h2 : d.hgt ≤ 50) (h3 : D.eqb d d = true) : evCmp Γ .NotEq (.im d) (.im d) γ S = .ok (.im (.bl false)) S := by
  have e : eqD d d = some true := by
    unfold eqD
    rw [h1, decide_eq_true (show d.hgt ≤ 60 by omega), if_pos (show (true && true && true && true) = true from rfl), h3]
  show fOwnEqP Γ.eqT Γ.known _ _ (.im d) (.im d) γ S = _
  unfold fOwnEqP fOwnP
  rw [h0 S]
  show R.ofO ((eqD d d).map fun c => D.bl (!c)) S = _
  rw [e]; rfl
theorem ne_bl {a b : Bool} (h : a = b) : evCmp Γ .NotEq (.im (.bl a)) (.im (.bl b)) γ S = .ok (.im (.bl false)) S := by
  subst h
  cases a <;> rfl
theorem ne_i {a b : Int} (h : a = b) : evCmp Γ .NotEq (.im (.int a)) (.im (.int b)) γ S = .ok (.im (.bl false)) S := by
  subst h
  show R.ok (Vl.im (D.bl (!(a == a)))) S = _
  rw [beq_self_eq_true]; rfl
theorem neSt {a b : ME .E} {l m : List Str} (h : ev Γ G a γ S = .ok (.im (.lst (l.map D.str))) S) (k : ev Γ G b γ S = .ok (.im (.lst (m.map D.str))) S) (e : l = m) : ev Γ G (.val (.cmp .NotEq a b)) γ S = .ok false S := by
  subst e
  refine valT (cmpE h k ?_)
  rw [ne_NN, decide_eq_true rfl]; rfl
theorem catR {a b : ME .E} {l m : List Rule} (h : ev Γ G a γ S = .ok (.im (sq false (l.map rD))) S1) (k : ev Γ G b γ S1 = .ok (.im (sq false (m.map rD))) S2) (hl : l.length + m.length < 1000) : ev Γ G (.bin .Add a b) γ S = .ok (.im (sq false ((l ++ m).map rD))) S2 := by
  refine binE h k ?_
  show R.ofO (Option.or (if (l.map rD).length + (m.map rD).length ≤ sizeLine then some (D.lst (l.map rD ++ m.map rD)) else none) none) _ = _
  rw [if_pos (by rw [List.length_map, List.length_map, z4]; omega), ← List.map_append]
  rfl
end
theorem made_ne (rs : List Rule) (Γ : GE) (γ : Gam) (S : Sto) : evCmp Γ .NotEq (.im (madeD rs)) (.im (madeD rs)) γ S = .ok (.im (.bl false)) S := by
  unfold madeD
  split
  · rfl
  · rename_i r l _
    refine ne_same (wD r) (fun _ => rfl) (plns_map (f := D.str) (fun _ => rfl) (wR r)) ?_ ?_
    · have := hgts_map (f := D.str) (k := 0) (fun _ => Nat.le_refl 0) (wR r)
      show D.hgts ((wR r).map D.str) + 1 ≤ 50
      omega
    · show D.eqbs ((wR r).map D.str) ((wR r).map D.str) = true
      rw [eqbs_map eqb_str, decide_eq_true rfl]
theorem outs_nil (rs : List Rule) : outs rs [] = rs := by
  unfold outs
  have : (rs.zipIdx.filter fun p => !has p.2 ([] : List Nat)) = rs.zipIdx := List.filter_eq_self.mpr fun p _ => by rw [has_f (by simp)]; rfl
  rw [this, List.zipIdx_map_fst]
theorem outs1 : ∀ (rs : List Rule) (i k : Nat), ((rs.zipIdx i).filter fun p => !has p.2 [i + k]).map (·.1) = rs.take k ++ rs.drop (k + 1)
  | [], i, k => by simp
  | r :: rs, i, 0 => by
    have : ((rs.zipIdx (i + 1)).filter fun p => !has p.2 [i + 0]) = rs.zipIdx (i + 1) := List.filter_eq_self.mpr fun p hp => by
      have := List.le_snd_of_mem_zipIdx hp
      rw [has_f (by simp; omega)]; rfl
    rw [List.zipIdx_cons, List.filter_cons, if_neg (by rw [has_t.mpr (by simp)]; decide), this, List.zipIdx_map_fst]
    simp
  | r :: rs, i, k + 1 => by
    have ih := outs1 rs (i + 1) k
    rw [List.zipIdx_cons, List.filter_cons, if_pos (by rw [has_f (by simp)]; rfl), List.map_cons, show i + (k + 1) = i + 1 + k by omega, ih]
    simp
theorem outs_one (rs : List Rule) (k : Nat) : outs rs [k] = rs.take k ++ rs.drop (k + 1) := by
  have := outs1 rs 0 k
  rw [Nat.zero_add] at this
  exact this
theorem fil_nin {rs ss : List Rule} : adds rs ss = rs ++ ss.filter fun r => !has r rs := rfl
theorem adds_nil (rs : List Rule) : adds rs [] = rs := List.append_nil rs
theorem turn_e (c0 : Cell) (x0 x2 x3 gd od wr ps x8 x9 x10 x11 x13 x14 : Option Vl) (r : Rule) : ev G25 X0 (.ite (.val (.cmp .In (.sub (.var 12) (.con (.int 0))) (.tup (.acons (.con (.str "fetch")) (.acons (.con (.str "hand")) .anil))))) (.bin .Add (.sl (.var 12) .onone (.osome (.con (.int 2)))) (.tup (.acons (.revL (.callB .list (.acons (.sub (.var 12) (.con (.int 2))) .anil))) .anil))) (.ite (.val (.cmp .Eq (.sub (.var 12) (.con (.int 0))) (.con (.str "make")))) (.tup (.acons (.con (.str "make")) (.acons (.revL (.callB .list (.acons (.sub (.var 12) (.con (.int 1))) .anil))) .anil))) (.var 12))) [x0, some (.cl 0), x2, x3, gd, od, wr, ps, x8, x9, x10, x11, some (.im (rD r)), x13, x14, none, none] [some c0] = .ok (.im (tR r)) [some c0] := by
  cases r with
  | F h o ps => cases h <;> kernel_rfl
  | R a b => kernel_rfl
  | M a b c => kernel_rfl
  | K ws => kernel_rfl
theorem has_make (rs : List Rule) : has ("make" : Str) (rs.map kd) = true ↔ ∃ r ∈ rs, isK r = true := by
  rw [has_t, List.mem_map]
  constructor
  · rintro ⟨r, h1, h2⟩; exact ⟨r, h1, decide_eq_true h2⟩
  · rintro ⟨r, h1, h2⟩; exact ⟨r, h1, of_decide_eq_true h2⟩
/-- the other rules, as the law leaves them -/
def lefts (rs os : List Rule) : List Rule := if has ("make" : Str) (rs.map kd) = true then os.filter fun r => !isK r || has r rs else os
theorem lefts_sub (rs os : List Rule) : (lefts rs os).Sublist os := by
  unfold lefts
  split
  · exact List.filter_sublist
  · exact List.Sublist.refl _
theorem one_adds {rs os : List Rule} (h1 : One rs) (h2 : One os) : One (adds rs (lefts rs os)) := by
  refine List.pairwise_append.mpr ⟨h1, (h2.sublist (lefts_sub rs os)).sublist List.filter_sublist, fun a ha b hb => ?_⟩
  rintro ⟨ka, kb⟩
  obtain ⟨b1, b2⟩ := List.mem_filter.mp hb
  have hm := (has_make rs).mpr ⟨a, ha, decide_eq_true ka⟩
  unfold lefts at b1
  rw [if_pos hm] at b1
  have b3 := (List.mem_filter.mp b1).2
  have hk : isK b = true := decide_eq_true kb
  rw [hk, Bool.not_true, Bool.false_or] at b3
  rw [b3] at b2
  cases b2
abbrev fL (ns : List Int) (t w : Option Vl) (r o : Option Vl) (p q a b : Option Vl) : Gam := gL (some (.im (.scr ns))) t w none none none none r o p q a b
abbrev vR (rs : List Rule) : Option Vl := some (.im (sq false (rs.map rD)))
abbrev vP (rs : List Rule) : Option Vl := some (.im (polD rs))
theorem r_law (ns : List Int) (h : ns.length ≤ 63) : ∃ S, s_law [.im (.scr ns)] [] = .ok (.im (.bl true)) S := by
  have z : sizeLine = 16777216 := rfl
  obtain ⟨rs, n1, g1, b1, b2, lR, okR, oneR, eR⟩ := r_rules ns 0 6 (by omega) (by omega) (by omega)
  obtain ⟨os, n2, g2, b3, b4, lO, okO, oneO, eO⟩ := r_rules ns n1 3 (by omega) (by omega) (by omega)
  have e1 : ev G25 X0 (.lstC (.acons (.sl (.var 0) .onone (.osome (.con (.int 63)))) (.acons (.con (.int 0)) (.acons (.con (.int 0)) .anil)))) (startG 17 [.im (.scr ns)]) [] = .ok (.cl 0) [some (dcell ns 0)] := by
    have hc : cutL (ns.map D.int) none (some 63) = ns.map D.int := by
      rw [cut_le _ _ (by decide)]
      exact List.take_of_length_le (by rw [List.length_map]; exact h)
    show R.ok (Vl.cl 0) ([] ++ [some (Cell.lst [D.lst (cutL (ns.map D.int) none (some 63)), D.int 0, D.int 0])]) = _
    rw [hc]; rfl
  generalize hP : lefts rs os = ps
  have sP : ps.Sublist os := hP ▸ lefts_sub rs os
  have lP : ps.length ≤ 3 := Nat.le_trans sP.length_le lO
  have okP : ∀ r ∈ ps, r ∈ RL := fun r hr => okO r (sP.subset hr)
  have oneP : One ps := oneO.sublist sP
  have oneA : One (adds rs ps) := hP ▸ one_adds oneR oneO
  have okA : ∀ r ∈ adds rs ps, r ∈ RL := fun r hr => (List.mem_append.mp hr).elim (okR r) fun h => okP r (List.mem_filter.mp h).1
  have lA : (adds rs ps).length ≤ 9 := by
    unfold adds
    rw [List.length_append]
    have := List.length_filter_le (fun r => !has r rs) ps
    omega
  -- the kinds
  have eK : ∀ (γ : Gam) (S : Sto), γ[8]? = some (vR rs) → γ.length = 17 → ev G25 X0 (.val (.cmp .In (.con (.str "make")) (.lc (.name 12) [12] (.any (.var 8)) .cnil (.sub (.var 12) (.con (.int 0)))))) γ S = .ok (has ("make" : Str) (rs.map kd)) S := fun γ S hγ hl => by
    obtain ⟨its, i1, i2⟩ := anySq (Γ := G25) (G := X0) (t := false) (ds := rs.map rD) (e := .var 8) (γ := γ) (S := S) (S1 := S) (varE hγ)
    have hm := lcMap (Γ := G25) (G := X0) (tg := .name 12) (vs := [12]) (e := .sub (.var 12) (.con (.int 0))) rs rD (fun r => .str (kd r)) i1 i2 (by omega) fun r _ => ⟨(wipeG γ [12]).set 12 (some (.im (rD r))), by
      show gSet 12 (.im (rD r)) (wipeG γ [12]) = _
      unfold gSet
      rw [if_pos (by show 12 < (γ.set 12 none).length; rw [List.length_set]; omega)], kindE (by
        show ((γ.set 12 none).set 12 (some (.im (rD r))))[12]? = _
        rw [List.getElem?_set_self (by rw [List.length_set]; omega)])⟩
    rw [strMap] at hm
    exact valT (cmpE rfl hm (in_sqN false "make" (rs.map kd)))
  have e3 : ev G25 X0 (.iff (.val (.cmp .In (.con (.str "make")) (.lc (.name 12) [12] (.any (.var 8)) .cnil (.sub (.var 12) (.con (.int 0)))))) (.bcons (.asgLc 9 (.name 12) [12] (.any (.var 9)) (.cone (.or (.val (.cmp .NotEq (.sub (.var 12) (.con (.int 0))) (.con (.str "make")))) (.val (.cmp .In (.var 12) (.var 8))))) (.var 12)) .bnil) .bnil) (fL ns none none (vR rs) (vR os) none none none none) [some (dcell ns n2)] = .ok (.nx (fL ns none none (vR rs) (vR ps) none none none none)) [some (dcell ns n2)] := by
    refine ifP (eK _ _ rfl rfl) (fun hm => ?_) fun hm => ?_
    · obtain ⟨its, i1, i2⟩ := anySq (Γ := G25) (G := X0) (t := false) (ds := os.map rD) (e := .var 9) (γ := fL ns none none (vR rs) (vR os) none none none none) (S := [some (dcell ns n2)]) (S1 := [some (dcell ns n2)]) rfl
      have hf := lcFil (Γ := G25) (G := X0) (tg := .name 12) (vs := [12]) (c := .or (.val (.cmp .NotEq (.sub (.var 12) (.con (.int 0))) (.con (.str "make")))) (.val (.cmp .In (.var 12) (.var 8)))) (e := .var 12) os rD rD (fun r => !isK r || has r rs) i1 i2 (by omega) fun r _ => ⟨_, rfl, or1 (notMk (kindE rfl)) (fun _ => valT (cmpE (varE rfl) (varE rfl) (inR false r rs))), varE rfl⟩
      have : os.filter (fun r => !isK r || has r rs) = ps := by rw [← hP]; unfold lefts; rw [if_pos hm]
      rw [this] at hf
      exact seq (asgLcS hf rfl) rfl
    · have : os = ps := by rw [← hP]; unfold lefts; rw [if_neg (by rw [hm]; decide)]
      rw [this]; rfl
  -- the turned rules
  obtain ⟨itT, t1, t2⟩ := anySq (Γ := G25) (G := X0) (t := false) (ds := rs.map rD) (e := .var 8) (γ := fL ns none none (vR rs) (vR ps) (vP rs) (vP ps) none none) (S := [some (dcell ns n2)]) (S1 := [some (dcell ns n2)]) rfl
  have eT := lcMap (Γ := G25) (G := X0) (tg := .name 12) (vs := [12]) rs rD tR t1 t2 (by omega) fun r _ => ⟨_, rfl, turn_e (dcell ns n2) _ _ _ _ _ _ _ _ _ _ _ _ _ r⟩
  generalize hv : (some (.im (.lst (rs.map tR))) : Option Vl) = vT at *
  -- item by item
  have eI : ev G25 X0 (.lc (.name 16) [16] (.rng1 (.acons (.callB .len (.acons (.var 8) .anil)) .anil)) .cnil (.subX (.var 10) (.var 16))) (fL ns (some (.im (.lst (rs.map tR)))) none (vR rs) (vR ps) (vP rs) (vP ps) none none) [some (dcell ns n2)] = .ok (.im (sq false (rs.map rD))) [some (dcell ns n2)] := by
    have hr := rng1E (Γ := G25) (G := X0) (γ := fL ns (some (.im (.lst (rs.map tR)))) none (vR rs) (vR ps) (vP rs) (vP ps) none none) (S := [some (dcell ns n2)]) (as := .acons (.callB .len (.acons (.var 8) .anil)) .anil) (j := (rs.length : Int)) (DL.oneA (cbE (DL.oneA (varE rfl)) (by rw [len_sq, List.length_map]))) (by omega) (by omega)
    have hm := lcMap (Γ := G25) (G := X0) (tg := .name 16) (vs := [16]) (e := .subX (.var 10) (.var 16)) (List.range rs.length) (fun i => D.int (0 + (i : Int))) (fun i => (rs.map rD).getD i .non) hr rfl (by rw [List.length_range]; omega) fun i hi => ⟨_, rfl, by
      have hi' : i < rs.length := List.mem_range.mp hi
      have e : (rs.map rD).getD i .non = rD rs[i] := by simp [List.getD, hi']
      rw [e]
      refine itemE (rs := rs) (k := i) (varE rfl) ?_ hi'
      exact (varE (x := .im (.int (0 + (i : Int)))) rfl).trans (by rw [Int.zero_add])⟩
    have el : (List.range rs.length).map (fun i => (rs.map rD).getD i .non) = rs.map rD := by
      refine List.ext_getElem (by simp) fun i h1 h2 => ?_
      simp at h1 h2 ⊢
      simp [h1]
    rw [el] at hm
    exact hm
  obtain ⟨Sw, eW⟩ := r_words rs (by omega) okR
  have fl := flat_le okR
  obtain ⟨itW, w1, w2⟩ := anySq (Γ := G25) (G := X0) (t := false) (ds := rs.map rD) (e := .var 8) (γ := fL ns (some (.im (.lst (rs.map tR)))) none (vR rs) (vR ps) (vP rs) (vP ps) none none) (S := [some (dcell ns n2)]) (S1 := [some (dcell ns n2)]) rfl
  have eL := lcMap (Γ := G25) (G := X0) (tg := .name 12) (vs := [12]) (e := .callF 15 (.acons (.var 12) .anil)) rs rD (fun r => .lst ((wR r).map D.str)) w1 w2 (by omega) fun r hr => by
    obtain ⟨Sl, hl⟩ := (r_ok (okR r hr)).wl
    exact ⟨_, rfl, callE rfl (DL.oneA (varE rfl)) (call_ok (ds := [_]) rfl hl _ _)⟩
  have eS := sumE (fun r => (wR r).map D.str) rs eL (by
    have : (rs.flatMap fun r => (wR r).map D.str).length = (rs.flatMap wR).length := by
      rw [← List.map_flatMap, List.length_map]
    rw [this]; omega)
  rw [← List.map_flatMap] at eS
  -- what is put together
  obtain ⟨itA, u1, u2⟩ := anySq (Γ := G25) (G := X0) (t := false) (ds := ps.map rD) (e := .var 9) (γ := fL ns (some (.im (.lst (rs.map tR)))) (vP (adds rs ps)) (vR rs) (vR ps) (vP rs) (vP ps) none none) (S := [some (dcell ns n2)]) (S1 := [some (dcell ns n2)]) rfl
  have eA := lcFil (Γ := G25) (G := X0) (tg := .name 12) (vs := [12]) (c := .val (.cmp .NotIn (.var 12) (.var 8))) (e := .var 12) ps rD rD (fun r => !has r rs) u1 u2 (by omega) fun r _ => ⟨_, rfl, valT (cmpE (varE rfl) (varE rfl) (ninR false r rs)), varE rfl⟩
  have okN : ∀ r ∈ rs, r ∈ RL := okR
  -- the numbers
  have step : ∃ (n' : Int) (xa xb : Option Vl), 0 ≤ n' ∧ n' < 1000 ∧ ev G25 X0 (.iff (.val (.cmp .NotEq (.var 8) (.lst .anil))) (.bcons (.asg (.tup 2 (.cons (.name 13) (.cons (.name 14) .nil))) (.tup (.acons (.callF 11 (.acons (.var 1) (.acons (.callB .len (.acons (.var 8) .anil)) .anil))) (.acons (.callF 11 (.acons (.var 1) (.acons (.callB .len (.acons (.var 8) .anil)) .anil))) .anil)))) (.bcons (.iff (.or (.val (.cmp .NotEq (.callB .list (.acons (.methS 0 (.var 10) (.acons (.var 13) .anil)) .anil)) (.bin .Add (.sl (.var 8) .onone (.osome (.var 13))) (.sl (.var 8) (.osome (.bin .Add (.var 13) (.con (.int 1)))) .onone)))) (.val (.cmp .NotEq (.callB .list (.acons (.methS 0 (.var 10) (.acons (.var 13) (.acons (.var 14) .anil))) .anil)) (.lc (.tup 2 (.cons (.name 16) (.cons (.name 12) .nil))) [16, 12] (.enum (.acons (.var 8) .anil)) (.cone (.val (.cmp .NotIn (.var 16) (.tup (.acons (.var 13) (.acons (.var 14) .anil)))))) (.var 12))))) (.bcons (.ret (.con (.bl false))) .bnil) .bnil) .bnil)) .bnil) (fL ns (some (.im (.lst (rs.map tR)))) (vP (adds rs ps)) (vR rs) (vR ps) (vP rs) (vP ps) none none) [some (dcell ns n2)] = .ok (.nx (fL ns (some (.im (.lst (rs.map tR)))) (vP (adds rs ps)) (vR rs) (vR ps) (vP rs) (vP ps) xa xb)) [some (dcell ns n')] := by
    have hne := valT (cmpE (Γ := G25) (G := X0) (op := .NotEq) (a := .var 8) (b := .lst .anil) (γ := fL ns (some (.im (.lst (rs.map tR)))) (vP (adds rs ps)) (vR rs) (vR ps) (vP rs) (vP ps) none none) (S := [some (dcell ns n2)]) (S1 := [some (dcell ns n2)]) (S2 := [some (dcell ns n2)]) (x := .im (sq false (rs.map rD))) (y := .im (.lst [])) rfl rfl (neNil (plns_map pln_r rs) (hgts_map hgt50 rs)))
    cases hrs : rs with
    | nil =>
      rw [hrs] at hne
      exact ⟨n2, none, none, by omega, by omega, ifP hne (fun h => by cases h) fun _ => rfl⟩
    | cons r0 rt =>
      rw [← hrs]
      have hl0 : 0 < rs.length := by rw [hrs]; simp
      obtain ⟨v, ⟨v0, v1⟩, q1⟩ := nextE (Γ := G25) (ns := ns) (n := n2) (b := (rs.length : Int)) (by omega) (by omega) (by omega)
      obtain ⟨u, ⟨u0, u1⟩, q2⟩ := nextE (Γ := G25) (ns := ns) (n := n2 + 1) (b := (rs.length : Int)) (by omega) (by omega) (by omega)
      obtain ⟨k, rfl⟩ := Int.eq_ofNat_of_zero_le v0
      obtain ⟨l, rfl⟩ := Int.eq_ofNat_of_zero_le u0
      have hk : k < rs.length := by omega
      have hl : l < rs.length := by omega
      have lenL : ∀ (γ : Gam) (S : Sto), γ[8]? = some (vR rs) → ev G25 X0 (.callB .len (.acons (.var 8) .anil)) γ S = .ok (.im (.int rs.length)) S := fun γ S hγ => cbE (DL.oneA (varE hγ)) (by rw [len_sq, List.length_map])
      have so := outs_sub rs [k]
      have so2 := outs_sub rs [k, l]
      obtain ⟨itE, j1, j2⟩ := enumE (Γ := G25) (G := X0) (e := .var 8) (t := false) (ds := rs.map rD) (γ := fL ns (some (.im (.lst (rs.map tR)))) (vP (adds rs ps)) (vR rs) (vR ps) (vP rs) (vP ps) (some (.im (.int k))) (some (.im (.int l)))) (S := [some (dcell ns (n2 + 1 + 1))]) (S1 := [some (dcell ns (n2 + 1 + 1))]) rfl
      have hm := lcFil (Γ := G25) (G := X0) (tg := .tup 2 (.cons (.name 16) (.cons (.name 12) .nil))) (vs := [16, 12]) (c := .val (.cmp .NotIn (.var 16) (.tup (.acons (.var 13) (.acons (.var 14) .anil))))) (e := .var 12) rs.zipIdx (fun p => D.tup [.int p.2, rD p.1]) (fun p => rD p.1) (fun p => !has p.2 [k, l]) j1 (by rw [j2, zip_map]) (by rw [List.length_zipIdx]; omega) fun p hp => ⟨_, rfl, valT (cmpE (varE rfl) (tupE (ds := [.int k, .int l]) (consA (varE rfl) (DL.oneA (varE rfl))) (show 2 ≤ sizeLine by decide)) (ninN true p.2 [k, l])), varE rfl⟩
      rw [show ((rs.zipIdx.filter fun p => !has p.2 [k, l]).map fun p => rD p.1) = (outs rs [k, l]).map rD by unfold outs; rw [List.map_map]; rfl] at hm
      refine ⟨n2 + 1 + 1, some (.im (.int k)), some (.im (.int l)), by omega, by omega, ifP hne (fun _ => ?_) fun h => by rw [hrs] at h; cases h⟩
      refine seq (asgT (tupE (ds := [.int k, .int l]) (consA (q1 _ _ _ [some (dcell ns n2)] 0 11 G25 _ rfl (consA rfl (DL.oneA (lenL _ _ rfl))) rfl) (DL.oneA (q2 _ _ [some (dcell ns (n2 + 1))] [some (dcell ns (n2 + 1))] 0 11 G25 _ rfl (consA rfl (DL.oneA (lenL _ _ rfl))) rfl))) (show 2 ≤ sizeLine by decide)) rfl) (seq (iffF (orF (neRe (t := false) (l := outs rs [k]) (m := rs.take k ++ rs.drop (k + 1)) (cbE (DL.oneA (outE (ks := [k]) (varE rfl) (DL.oneA (varE rfl)) (by omega) okR oneR (by simpa using hk) (by simp))) (opList (Nat.lt_of_le_of_lt so.length_le (by omega)))) (catR (slE (k := (k : Int)) (varE rfl) (varE rfl) rfl (by rw [slSq false _ _ (Int.natCast_nonneg _), Int.toNat_natCast, List.map_take])) (slLoE (k := ((k + 1 : Nat) : Int)) (varE rfl) (binE (varE rfl) rfl bAdd) rfl (by
        show some (D.lst (cutL (rs.map rD) (some ((k + 1 : Nat) : Int)) none)) = _
        rw [cut_ge, ← List.map_drop]; rfl)) (by rw [List.length_take, List.length_drop]; omega)) (outs_one rs k)) (neRe (t := false) (l := outs rs [k, l]) (m := outs rs [k, l]) (cbE (DL.oneA (outE (ks := [k, l]) (varE rfl) (consA (varE rfl) (DL.oneA (varE rfl))) (by omega) okR oneR (fun x hx => by
          simp only [List.mem_cons, List.not_mem_nil, or_false] at hx
          rcases hx with rfl | rfl <;> assumption) (by simp))) (opList (Nat.lt_of_le_of_lt so2.length_le (by omega)))) hm rfl))) rfl)
  obtain ⟨n3, xa, xb, c1, c2, eN⟩ := step
  obtain ⟨Sf, eF⟩ := r_later ns n3 (by omega) (by omega) (some (.im (.scr ns))) (some (.im (.lst (rs.map tR)))) (vP (adds rs ps)) (vR rs) (vR ps) (vP rs) (vP ps) xa xb none none none none
  have lenL : ∀ (γ : Gam) (S : Sto), γ[8]? = some (vR rs) → ev G25 X0 (.callB .len (.acons (.var 8) .anil)) γ S = .ok (.im (.int rs.length)) S := fun γ S hγ => cbE (DL.oneA (varE hγ)) (by rw [len_sq, List.length_map])
  have noN : s_is_number [.im (.int rs.length), .im (.int rs.length)] [] = .ok (.im (.bl false)) [] := by
    rw [num_int, decide_eq_false (Int.lt_irrefl _), Bool.and_false]
  have noM : s_is_number [.im (.int (-1)), .im (.int rs.length)] [] = .ok (.im (.bl false)) [] := by
    rw [num_int]; rfl
  have i1 : ∀ (k : Int) (γ : Gam) (S : Sto), evCmp G25 .NotEq (.im (.lst [.int k])) (.im (.lst [.int k])) γ S = .ok (.im (.bl false)) S := fun k γ S => ne_same _ (fun _ => rfl) rfl (show 1 ≤ 50 by decide) (by
    show ((k == k) && true) = true
    rw [beq_self_eq_true]; rfl)
  refine ⟨Sf, semRun ?_⟩
  unfold m_law
  refine seq (asgS e1 rfl) ?_
  refine seq (asgT (γ1 := fL ns none none (vR rs) (vR os) none none none none) (S1 := [some (dcell ns n2)]) (tupE (ds := [.lst (rs.map rD), .lst (os.map rD)]) (consA (callE rfl (consA rfl (DL.oneA rfl)) (call_cl (ds := [_]) rfl rfl eR)) (DL.oneA (callE rfl (consA rfl (DL.oneA rfl)) (call_cl (ds := [_]) rfl rfl eO)))) (show 2 ≤ sizeLine by decide)) rfl) ?_
  refine seq e3 ?_
  refine seq (asgT (γ1 := fL ns none none (vR rs) (vR ps) (vP rs) (vP ps) none none) (tupE (ds := [polD rs, polD ps]) (consA (mkP (t := false) (f := rD) rfl (by omega) (fun r h => for_r (okR r h)) oneR (DL.oneA (varE rfl))) (DL.oneA (mkP (t := true) (f := rD) rfl (by omega) (fun r h => for_r (okP r h)) oneP (DL.oneA (cbE (DL.oneA (varE rfl)) (cbTup _)))))) (show 2 ≤ sizeLine by decide)) rfl) ?_
  refine seq (asgLcS eT rfl) ?_
  refine seq (iffF (orF (neRe (t := true) (rulesE rfl) (cbE (DL.oneA (varE rfl)) (cbTup _)) rfl) (orF (neRe (t := false) (cbE (DL.oneA (varE rfl)) (opList (by omega))) (varE rfl) rfl) (orF (valT (cmpE (cbE (DL.oneA (varE rfl)) (opLen (by omega))) (lenL _ _ rfl) (ne_i rfl))) (neP (mkP (t := false) (f := tR) rfl (by omega) (fun r h => for_t (okR r h)) oneR (DL.oneA (varE rfl))) (varE rfl) rfl))))) ?_
  refine seq (iffF (orF (neRe (t := false) eI (varE rfl) rfl) (valT (cmpE (methE (m := "made") (c := "Policy") (T := [("Policy", r_Policy_made)]) (r := r_Policy_made) rfl (varE rfl) rfl rfl nilA (call_ok (ds := [_]) rfl (r_made rs (by omega)) _ _)) (callE rfl (DL.oneA (varE rfl)) (call_ok (ds := [_]) rfl (r_lmade rs (by omega)) _ _)) (made_ne rs _ _ _))))) ?_
  refine seq (iffF (neSt (l := wordsOf rs) (m := wordsOf rs) (methE (m := "words") (c := "Policy") (T := [("Policy", r_Policy_words)]) (r := r_Policy_words) rfl (varE rfl) rfl rfl nilA (call_ok (ds := [_]) rfl eW _ _)) (unE eS rfl (sort_strsS false (rs.flatMap wR) (by omega))) rfl)) ?_
  refine seq (asgS (binE (varE rfl) (varE rfl) (opAdd (by omega) okA oneA (by omega))) rfl) ?_
  refine seq (iffF (neRe (t := false) (cbE (DL.oneA (varE rfl)) (opList (by omega))) (catR (l := rs) (varE rfl) eA (by have := List.length_filter_le (fun r => !has r rs) ps; omega)) rfl)) ?_
  refine seq (iffF (orF (neP (binE (varE rfl) (mkP (t := false) (f := rD) (rs := []) rfl (by decide) (fun r h => by cases h) List.Pairwise.nil (DL.oneA rfl)) (opAdd (by rw [adds_nil]; omega) (by rw [adds_nil]; exact okR) (by rw [adds_nil]; exact oneR) (by decide))) (varE rfl) (adds_nil rs)) (valT (cmpE (cmpE (varE rfl) (varE rfl) (opEq rs ps)) (cmpE (varE rfl) (varE rfl) (eqR false rs ps)) (ne_bl rfl))))) ?_
  refine seq eN ?_
  refine seq (iffF (neP (outE (ks := []) (varE rfl) nilA (by omega) okR oneR (fun _ h => by cases h) (by decide)) (varE rfl) (outs_nil rs))) ?_
  refine seq (iffF (valT (cmpE (err_item (varE rfl) (lenL _ _ rfl) noN) (lstE (ds := [.int rs.length]) (DL.oneA (lenL _ _ rfl)) (show 1 ≤ sizeLine by decide)) (i1 _ _ _)))) ?_
  refine seq (iffF (valT (cmpE (err_item (d := .int (-1)) (varE rfl) rfl noM) rfl (i1 (-1) _ _)))) ?_
  refine seq (iffF (valT (cmpE (err_out (varE rfl) (lenL _ _ rfl) noN) (lstE (ds := [.int rs.length]) (DL.oneA (lenL _ _ rfl)) (show 1 ≤ sizeLine by decide)) (i1 _ _ _)))) ?_
  refine seq (iffF (valT (cmpE (err_item (d := .str "0") (varE rfl) rfl (num_str "0" _)) rfl rfl))) ?_
  exact eF
end K02
namespace K02
open PySem PySem.Spec L2 DL
open PyProof.Rows hiding St
open He (ga ma fAd Fa DefD)
variable [Tbl]
abbrev st__law_error : Stmt := top 26
abbrev st_BadPolicy___init__ : Stmt := mem 2 0
theorem sc_is_whole : FnScope n_is_whole ["thing"] (defScope st_is_whole) := ⟨rfl, rfl, rfl, by decide +kernel, rfl, by decide +kernel, by decide +kernel⟩
def d_is_whole : DefD := ⟨("is_whole", none), "is_whole", "is_whole", defArgs st_is_whole, defBody st_is_whole, defScope st_is_whole, [], []⟩
theorem sc_is_word : FnScope n_is_word ["thing"] (defScope st_is_word) := ⟨rfl, rfl, rfl, by decide +kernel, rfl, by decide +kernel, by decide +kernel⟩
def d_is_word : DefD := ⟨("is_word", none), "is_word", "is_word", defArgs st_is_word, defBody st_is_word, defScope st_is_word, [], []⟩
theorem sc_is_number : FnScope n_is_number ["thing", "many"] (defScope st_is_number) := ⟨rfl, rfl, rfl, by decide +kernel, rfl, by decide +kernel, by decide +kernel⟩
def d_is_number : DefD := ⟨("is_number", none), "is_number", "is_number", defArgs st_is_number, defBody st_is_number, defScope st_is_number, [], []⟩
theorem sc_are_pairs : FnScope n_are_pairs ["thing"] (defScope st_are_pairs) := ⟨rfl, rfl, rfl, by decide +kernel, rfl, by decide +kernel, by decide +kernel⟩
def d_are_pairs : DefD := ⟨("are_pairs", none), "are_pairs", "are_pairs", defArgs st_are_pairs, defBody st_are_pairs, defScope st_are_pairs, [], []⟩
theorem sc_are_words : FnScope n_are_words ["thing"] (defScope st_are_words) := ⟨rfl, rfl, rfl, by decide +kernel, rfl, by decide +kernel, by decide +kernel⟩
def d_are_words : DefD := ⟨("are_words", none), "are_words", "are_words", defArgs st_are_words, defBody st_are_words, defScope st_are_words, [], []⟩
theorem sc_is_rule : FnScope n_is_rule ["thing"] (defScope st_is_rule) := ⟨rfl, rfl, rfl, by decide +kernel, rfl, by decide +kernel, by decide +kernel⟩
def d_is_rule : DefD := ⟨("is_rule", none), "is_rule", "is_rule", defArgs st_is_rule, defBody st_is_rule, defScope st_is_rule, [], []⟩
theorem sc_plain_rule : FnScope n_plain_rule ["rule"] (defScope st_plain_rule) := ⟨rfl, rfl, rfl, by decide +kernel, rfl, by decide +kernel, by decide +kernel⟩
def d_plain_rule : DefD := ⟨("plain_rule", none), "plain_rule", "plain_rule", defArgs st_plain_rule, defBody st_plain_rule, defScope st_plain_rule, [], []⟩
theorem sc_Policy___init__ : FnScope n_Policy___init__ ["self", "rules"] (defScope st_Policy___init__) := ⟨rfl, rfl, rfl, by decide +kernel, rfl, by decide +kernel, by decide +kernel⟩
def d_Policy___init__ : DefD := ⟨("Policy", some "__init__"), "__init__", "Policy.__init__", defArgs st_Policy___init__, defBody st_Policy___init__, defScope st_Policy___init__, [], []⟩
theorem sc_Policy___eq__ : FnScope n_Policy___eq__ ["self", "other"] (defScope st_Policy___eq__) := ⟨rfl, rfl, rfl, by decide +kernel, rfl, by decide +kernel, by decide +kernel⟩
def d_Policy___eq__ : DefD := ⟨("Policy", some "__eq__"), "__eq__", "Policy.__eq__", defArgs st_Policy___eq__, defBody st_Policy___eq__, defScope st_Policy___eq__, [], []⟩
theorem sc_Policy___len__ : FnScope n_Policy___len__ ["self"] (defScope st_Policy___len__) := ⟨rfl, rfl, rfl, by decide +kernel, rfl, by decide +kernel, by decide +kernel⟩
def d_Policy___len__ : DefD := ⟨("Policy", some "__len__"), "__len__", "Policy.__len__", defArgs st_Policy___len__, defBody st_Policy___len__, defScope st_Policy___len__, [], []⟩
theorem sc_Policy___iter__ : FnScope n_Policy___iter__ ["self"] (defScope st_Policy___iter__) := ⟨rfl, rfl, rfl, by decide +kernel, rfl, by decide +kernel, by decide +kernel⟩
def d_Policy___iter__ : DefD := ⟨("Policy", some "__iter__"), "__iter__", "Policy.__iter__", defArgs st_Policy___iter__, defBody st_Policy___iter__, defScope st_Policy___iter__, [], []⟩
theorem sc_Policy___getitem__ : FnScope n_Policy___getitem__ ["self", "number"] (defScope st_Policy___getitem__) := ⟨rfl, rfl, rfl, by decide +kernel, rfl, by decide +kernel, by decide +kernel⟩
def d_Policy___getitem__ : DefD := ⟨("Policy", some "__getitem__"), "__getitem__", "Policy.__getitem__", defArgs st_Policy___getitem__, defBody st_Policy___getitem__, defScope st_Policy___getitem__, [], []⟩
theorem sc_Policy___add__ : FnScope n_Policy___add__ ["self", "other"] (defScope st_Policy___add__) := ⟨rfl, rfl, rfl, by decide +kernel, rfl, by decide +kernel, by decide +kernel⟩
def d_Policy___add__ : DefD := ⟨("Policy", some "__add__"), "__add__", "Policy.__add__", defArgs st_Policy___add__, defBody st_Policy___add__, defScope st_Policy___add__, [], []⟩
theorem sc_Policy_without : FnScope n_Policy_without ["self", "numbers"] (defScope st_Policy_without) := ⟨rfl, rfl, rfl, by decide +kernel, rfl, by decide +kernel, by decide +kernel⟩
def d_Policy_without : DefD := ⟨("Policy", some "without"), "without", "Policy.without", defArgs st_Policy_without, defBody st_Policy_without, defScope st_Policy_without, [], []⟩
theorem sc_Policy_made : FnScope n_Policy_made ["self"] (defScope st_Policy_made) := ⟨rfl, rfl, rfl, by decide +kernel, rfl, by decide +kernel, by decide +kernel⟩
def d_Policy_made : DefD := ⟨("Policy", some "made"), "made", "Policy.made", defArgs st_Policy_made, defBody st_Policy_made, defScope st_Policy_made, [], []⟩
theorem sc_words_of : FnScope n_words_of ["rule"] (defScope st_words_of) := ⟨rfl, rfl, rfl, by decide +kernel, rfl, by decide +kernel, by decide +kernel⟩
def d_words_of : DefD := ⟨("words_of", none), "words_of", "words_of", defArgs st_words_of, defBody st_words_of, defScope st_words_of, [], []⟩
theorem sc_Policy_words : FnScope n_Policy_words ["self"] (defScope st_Policy_words) := ⟨rfl, rfl, rfl, by decide +kernel, rfl, by decide +kernel, by decide +kernel⟩
def d_Policy_words : DefD := ⟨("Policy", some "words"), "words", "Policy.words", defArgs st_Policy_words, defBody st_Policy_words, defScope st_Policy_words, [], []⟩
theorem sc__law_cell_at : FnScope n__law_cell_at ["_law_script", "_law_k"] (defScope st__law_cell_at) := ⟨rfl, rfl, rfl, by decide +kernel, rfl, by decide +kernel, by decide +kernel⟩
def d__law_cell_at : DefD := ⟨("_law_cell_at", none), "_law_cell_at", "_law_cell_at", defArgs st__law_cell_at, defBody st__law_cell_at, defScope st__law_cell_at, [], []⟩
theorem sc__law_draw : FnScope n__law_draw ["_law_cell", "_law_k", "_law_bound"] (defScope st__law_draw) := ⟨rfl, rfl, rfl, by decide +kernel, rfl, by decide +kernel, by decide +kernel⟩
def d__law_draw : DefD := ⟨("_law_draw", none), "_law_draw", "_law_draw", defArgs st__law_draw, defBody st__law_draw, defScope st__law_draw, [], []⟩
theorem sc__law_number : FnScope n__law_number ["_law_cell", "_law_k", "_law_bound"] (defScope st__law_number) := ⟨rfl, rfl, rfl, by decide +kernel, rfl, by decide +kernel, by decide +kernel⟩
def d__law_number : DefD := ⟨("_law_number", none), "_law_number", "_law_number", defArgs st__law_number, defBody st__law_number, defScope st__law_number, [], []⟩
theorem sc__law_next : FnScope n__law_next ["_law_draw_here", "_law_bound"] (defScope st__law_next) := ⟨rfl, rfl, rfl, by decide +kernel, rfl, by decide +kernel, by decide +kernel⟩
def d__law_next : DefD := ⟨("_law_next", none), "_law_next", "_law_next", defArgs st__law_next, defBody st__law_next, defScope st__law_next, [], []⟩
theorem sc__law_pick : FnScope n__law_pick ["_law_draw_here", "_law_things"] (defScope st__law_pick) := ⟨rfl, rfl, rfl, by decide +kernel, rfl, by decide +kernel, by decide +kernel⟩
def d__law_pick : DefD := ⟨("_law_pick", none), "_law_pick", "_law_pick", defArgs st__law_pick, defBody st__law_pick, defScope st__law_pick, [], []⟩
theorem sc__law_rules : FnScope n__law_rules ["_law_draw_here", "_law_most"] (defScope st__law_rules) := ⟨rfl, rfl, rfl, by decide +kernel, rfl, by decide +kernel, by decide +kernel⟩
def d__law_rules : DefD := ⟨("_law_rules", none), "_law_rules", "_law_rules", defArgs st__law_rules, defBody st__law_rules, defScope st__law_rules, [], []⟩
theorem sc__law_made : FnScope n__law_made ["_law_rules_here"] (defScope st__law_made) := ⟨rfl, rfl, rfl, by decide +kernel, rfl, by decide +kernel, by decide +kernel⟩
def d__law_made : DefD := ⟨("_law_made", none), "_law_made", "_law_made", defArgs st__law_made, defBody st__law_made, defScope st__law_made, [], []⟩
theorem sc__law_words : FnScope n__law_words ["_law_rule"] (defScope st__law_words) := ⟨rfl, rfl, rfl, by decide +kernel, rfl, by decide +kernel, by decide +kernel⟩
def d__law_words : DefD := ⟨("_law_words", none), "_law_words", "_law_words", defArgs st__law_words, defBody st__law_words, defScope st__law_words, [], []⟩
theorem sc_law : FnScope n_law ["_law_script"] (defScope st_law) := ⟨rfl, rfl, rfl, by decide +kernel, rfl, by decide +kernel, by decide +kernel⟩
def d_law : DefD := ⟨("law", none), "law", "law", defArgs st_law, defBody st_law, defScope st_law, [], []⟩
theorem sc__law_error : FnScope ["_law_call", "_law_found", "e"] ["_law_call"] (defScope st__law_error) := ⟨rfl, rfl, rfl, by decide +kernel, rfl, by decide +kernel, by decide +kernel⟩
def d__law_error : DefD := ⟨("_law_error", none), "_law_error", "_law_error", defArgs st__law_error, defBody st__law_error, defScope st__law_error, [], []⟩
theorem sc_BadPolicy___init__ : FnScope ["self", "number"] ["self", "number"] (defScope st_BadPolicy___init__) := ⟨rfl, rfl, rfl, by decide +kernel, rfl, by decide +kernel, by decide +kernel⟩
def d_BadPolicy___init__ : DefD := ⟨("BadPolicy", some "__init__"), "__init__", "BadPolicy.__init__", defArgs st_BadPolicy___init__, defBody st_BadPolicy___init__, defScope st_BadPolicy___init__, [], []⟩
def defs : List DefD := [d_is_whole, d_is_word, d_is_number, d_are_pairs, d_are_words, d_is_rule, d_plain_rule, d_Policy___init__, d_Policy___eq__, d_Policy___len__, d_Policy___iter__, d_Policy___getitem__, d_Policy___add__, d_Policy_without, d_Policy_made, d_words_of, d_Policy_words, d__law_cell_at, d__law_draw, d__law_number, d__law_next, d__law_pick, d__law_rules, d__law_made, d__law_words, d_law, d__law_error, d_BadPolicy___init__]
def fas : List Fa := [.glo "is_whole", .glo "is_word", .glo "is_number", .glo "are_pairs", .glo "are_words", .glo "is_rule", .glo "plain_rule", .glo "Policy", .mkr "Policy", .meth "Policy" "__eq__", .meth "Policy" "__len__", .meth "Policy" "__iter__", .meth "Policy" "__getitem__", .meth "Policy" "__add__", .meth "Policy" "without", .meth "Policy" "made", .glo "words_of", .meth "Policy" "words", .glo "_law_cell_at", .glo "_law_draw", .glo "_law_number", .glo "_law_next", .glo "_law_pick", .glo "_law_rules", .glo "_law_made", .glo "_law_words", .glo "law", .glo "_law_error", .free "isinstance", .glo "RightError", .exc "RightError", .glo "BadPolicy", .meth "BadPolicy" "__init__", .free "bool", .free "int", .free "all", .free "len", .free "str", .free "set", .free "tuple", .free "list", .free "sorted", .free "enumerate", .free "iter", .free "range", .free "sum"]
def looksB (K : PySem.W.Frag) : Bool := dAnd [basB K G0.cls, G0.cons.all (consB K), bltsB K G0.blt, fldsB K X0.flds, xcfB K "RightError" er_law_error, oexB K (ga K "BadPolicy"), decide (PySem.W.findIn K (.ref (ga K "BadPolicy")) "number" = some none)]
section
variable {P : Program} {w : World} {K : PySem.W.Frag} {mg : Str → Option Value} {base h : Heap} {L : Nat} {f : Addr} {fd : FuncData}
theorem ok_is_whole (F : FunD K "is_whole" "is_whole" (defArgs st_is_whole) (defBody st_is_whole) (defScope st_is_whole) (d_is_whole.dvs K) (d_is_whole.kws K) f fd) (gf : GF G0 L P w K mg base) (gx : GFX G0 X0 L P w K mg base) : FnOk P w K mg base (L2.CX P w) (L + 1) f fd ["thing"] (spOf K mg (["thing"] : List Str).length (arity (["thing"] : List Str).length s_is_whole)) :=
  def_of (m := m_is_whole) F sc_is_whole gf gx (by decide +kernel) c_is_whole
theorem b_is_whole (F : FunD K "is_whole" "is_whole" (defArgs st_is_whole) (defBody st_is_whole) (defScope st_is_whole) (d_is_whole.dvs K) (d_is_whole.kws K) f fd) : Binds K fd ["thing"] [] := FunD.bindsN (ps := ["thing"]) F fun _ _ _ _ _ _ us hl => match us, hl with | [_], _ => rfl
theorem ok_is_word (F : FunD K "is_word" "is_word" (defArgs st_is_word) (defBody st_is_word) (defScope st_is_word) (d_is_word.dvs K) (d_is_word.kws K) f fd) (gf : GF G1 L P w K mg base) (gx : GFX G1 X0 L P w K mg base) : FnOk P w K mg base (L2.CX P w) (L + 1) f fd ["thing"] (spOf K mg (["thing"] : List Str).length (arity (["thing"] : List Str).length s_is_word)) :=
  def_of (m := m_is_word) F sc_is_word gf gx (by decide +kernel) c_is_word
theorem b_is_word (F : FunD K "is_word" "is_word" (defArgs st_is_word) (defBody st_is_word) (defScope st_is_word) (d_is_word.dvs K) (d_is_word.kws K) f fd) : Binds K fd ["thing"] [] := FunD.bindsN (ps := ["thing"]) F fun _ _ _ _ _ _ us hl => match us, hl with | [_], _ => rfl
theorem ok_is_number (F : FunD K "is_number" "is_number" (defArgs st_is_number) (defBody st_is_number) (defScope st_is_number) (d_is_number.dvs K) (d_is_number.kws K) f fd) (gf : GF G2 L P w K mg base) (gx : GFX G2 X0 L P w K mg base) : FnOk P w K mg base (L2.CX P w) (L + 1) f fd ["thing", "many"] (spOf K mg (["thing", "many"] : List Str).length (arity (["thing", "many"] : List Str).length s_is_number)) :=
  def_of (m := m_is_number) F sc_is_number gf gx (by decide +kernel) c_is_number
theorem b_is_number (F : FunD K "is_number" "is_number" (defArgs st_is_number) (defBody st_is_number) (defScope st_is_number) (d_is_number.dvs K) (d_is_number.kws K) f fd) : Binds K fd ["thing", "many"] [] := FunD.bindsN (ps := ["thing", "many"]) F fun _ _ _ _ _ _ us hl => match us, hl with | [_, _], _ => rfl
theorem ok_are_pairs (F : FunD K "are_pairs" "are_pairs" (defArgs st_are_pairs) (defBody st_are_pairs) (defScope st_are_pairs) (d_are_pairs.dvs K) (d_are_pairs.kws K) f fd) (gf : GF G3 L P w K mg base) (gx : GFX G3 X0 L P w K mg base) : FnOk P w K mg base (L2.CX P w) (L + 1) f fd ["thing"] (spOf K mg (["thing"] : List Str).length (arity (["thing"] : List Str).length s_are_pairs)) :=
  def_of (m := m_are_pairs) F sc_are_pairs gf gx (by decide +kernel) c_are_pairs
theorem b_are_pairs (F : FunD K "are_pairs" "are_pairs" (defArgs st_are_pairs) (defBody st_are_pairs) (defScope st_are_pairs) (d_are_pairs.dvs K) (d_are_pairs.kws K) f fd) : Binds K fd ["thing"] [] := FunD.bindsN (ps := ["thing"]) F fun _ _ _ _ _ _ us hl => match us, hl with | [_], _ => rfl
theorem ok_are_words (F : FunD K "are_words" "are_words" (defArgs st_are_words) (defBody st_are_words) (defScope st_are_words) (d_are_words.dvs K) (d_are_words.kws K) f fd) (gf : GF G4 L P w K mg base) (gx : GFX G4 X0 L P w K mg base) : FnOk P w K mg base (L2.CX P w) (L + 1) f fd ["thing"] (spOf K mg (["thing"] : List Str).length (arity (["thing"] : List Str).length s_are_words)) :=
  def_of (m := m_are_words) F sc_are_words gf gx (by decide +kernel) c_are_words
theorem b_are_words (F : FunD K "are_words" "are_words" (defArgs st_are_words) (defBody st_are_words) (defScope st_are_words) (d_are_words.dvs K) (d_are_words.kws K) f fd) : Binds K fd ["thing"] [] := FunD.bindsN (ps := ["thing"]) F fun _ _ _ _ _ _ us hl => match us, hl with | [_], _ => rfl
theorem ok_is_rule (F : FunD K "is_rule" "is_rule" (defArgs st_is_rule) (defBody st_is_rule) (defScope st_is_rule) (d_is_rule.dvs K) (d_is_rule.kws K) f fd) (gf : GF G5 L P w K mg base) (gx : GFX G5 X0 L P w K mg base) : FnOk P w K mg base (L2.CX P w) (L + 1) f fd ["thing"] (spOf K mg (["thing"] : List Str).length (arity (["thing"] : List Str).length s_is_rule)) :=
  def_of (m := m_is_rule) F sc_is_rule gf gx (by decide +kernel) c_is_rule
theorem b_is_rule (F : FunD K "is_rule" "is_rule" (defArgs st_is_rule) (defBody st_is_rule) (defScope st_is_rule) (d_is_rule.dvs K) (d_is_rule.kws K) f fd) : Binds K fd ["thing"] [] := FunD.bindsN (ps := ["thing"]) F fun _ _ _ _ _ _ us hl => match us, hl with | [_], _ => rfl
theorem ok_plain_rule (F : FunD K "plain_rule" "plain_rule" (defArgs st_plain_rule) (defBody st_plain_rule) (defScope st_plain_rule) (d_plain_rule.dvs K) (d_plain_rule.kws K) f fd) (gf : GF G6 L P w K mg base) (gx : GFX G6 X0 L P w K mg base) : FnOk P w K mg base (L2.CX P w) (L + 1) f fd ["rule"] (spOf K mg (["rule"] : List Str).length (arity (["rule"] : List Str).length s_plain_rule)) :=
  def_of (m := m_plain_rule) F sc_plain_rule gf gx (by decide +kernel) c_plain_rule
theorem b_plain_rule (F : FunD K "plain_rule" "plain_rule" (defArgs st_plain_rule) (defBody st_plain_rule) (defScope st_plain_rule) (d_plain_rule.dvs K) (d_plain_rule.kws K) f fd) : Binds K fd ["rule"] [] := FunD.bindsN (ps := ["rule"]) F fun _ _ _ _ _ _ us hl => match us, hl with | [_], _ => rfl
theorem ok_Policy___init__ (F : FunD K "__init__" "Policy.__init__" (defArgs st_Policy___init__) (defBody st_Policy___init__) (defScope st_Policy___init__) (d_Policy___init__.dvs K) (d_Policy___init__.kws K) f fd) (gf : GF G7 L P w K mg base) (gx : GFX G7 X0 L P w K mg base) : FnOk P w K mg base (L2.CX P w) (L + 1) f fd ["self", "rules"] (spOf K mg (["self", "rules"] : List Str).length (arity (["self", "rules"] : List Str).length s_Policy___init__)) :=
  def_of (m := m_Policy___init__) F sc_Policy___init__ gf gx (by decide +kernel) c_Policy___init__
theorem b_Policy___init__ (F : FunD K "__init__" "Policy.__init__" (defArgs st_Policy___init__) (defBody st_Policy___init__) (defScope st_Policy___init__) (d_Policy___init__.dvs K) (d_Policy___init__.kws K) f fd) : Binds K fd ["self", "rules"] [] := FunD.bindsN (ps := ["self", "rules"]) F fun _ _ _ _ _ _ us hl => match us, hl with | [_, _], _ => rfl
theorem ok_Policy___eq__ (F : FunD K "__eq__" "Policy.__eq__" (defArgs st_Policy___eq__) (defBody st_Policy___eq__) (defScope st_Policy___eq__) (d_Policy___eq__.dvs K) (d_Policy___eq__.kws K) f fd) (gf : GF G8 L P w K mg base) (gx : GFX G8 X0 L P w K mg base) : FnOk P w K mg base (L2.CX P w) (L + 1) f fd ["self", "other"] (spOf K mg (["self", "other"] : List Str).length (arity (["self", "other"] : List Str).length s_Policy___eq__)) :=
  def_of (m := m_Policy___eq__) F sc_Policy___eq__ gf gx (by decide +kernel) c_Policy___eq__
theorem b_Policy___eq__ (F : FunD K "__eq__" "Policy.__eq__" (defArgs st_Policy___eq__) (defBody st_Policy___eq__) (defScope st_Policy___eq__) (d_Policy___eq__.dvs K) (d_Policy___eq__.kws K) f fd) : Binds K fd ["self", "other"] [] := FunD.bindsN (ps := ["self", "other"]) F fun _ _ _ _ _ _ us hl => match us, hl with | [_, _], _ => rfl
theorem ok_Policy___len__ (F : FunD K "__len__" "Policy.__len__" (defArgs st_Policy___len__) (defBody st_Policy___len__) (defScope st_Policy___len__) (d_Policy___len__.dvs K) (d_Policy___len__.kws K) f fd) (gf : GF G9 L P w K mg base) (gx : GFX G9 X0 L P w K mg base) : FnOk P w K mg base (L2.CX P w) (L + 1) f fd ["self"] (spOf K mg (["self"] : List Str).length (arity (["self"] : List Str).length s_Policy___len__)) :=
  def_of (m := m_Policy___len__) F sc_Policy___len__ gf gx (by decide +kernel) c_Policy___len__
theorem b_Policy___len__ (F : FunD K "__len__" "Policy.__len__" (defArgs st_Policy___len__) (defBody st_Policy___len__) (defScope st_Policy___len__) (d_Policy___len__.dvs K) (d_Policy___len__.kws K) f fd) : Binds K fd ["self"] [] := FunD.bindsN (ps := ["self"]) F fun _ _ _ _ _ _ us hl => match us, hl with | [_], _ => rfl
theorem ok_Policy___iter__ (F : FunD K "__iter__" "Policy.__iter__" (defArgs st_Policy___iter__) (defBody st_Policy___iter__) (defScope st_Policy___iter__) (d_Policy___iter__.dvs K) (d_Policy___iter__.kws K) f fd) (gf : GF G10 L P w K mg base) (gx : GFX G10 X0 L P w K mg base) (hi : mg "iter" = none) : FnOkN P w K mg base (L2.CX P w) (L + 1) f fd ["self"] (spIt K mg s_Policy___iter__) := by
  refine it_ok (N := n_Policy___iter__) (fe := ev G10 X0 m_Policy___iter__) F sc_Policy___iter__ rfl fun cdv A outer s H E r => ⟨_, pss_one (ps_ret (pe_callB (call_iterB) rfl hi (by rfl) (pa_cons (sound m_Policy___iter__ (cxOf (L2.CX P w) P w K mg base n_Policy___iter__ "Policy.__iter__" (defScope st_Policy___iter__) f cdv A outer s H E) E ⟨Ct.body gf sc_Policy___iter__.nd r, gx, fun z => absurd z (by show ¬ ((("Policy.__iter__" : Str) ++ ".<locals>.") ∈ G10.mkrs); decide +kernel)⟩ _ (by kernel_rfl)).1 pa_nil))), sim_rd _⟩
theorem b_Policy___iter__ (F : FunD K "__iter__" "Policy.__iter__" (defArgs st_Policy___iter__) (defBody st_Policy___iter__) (defScope st_Policy___iter__) (d_Policy___iter__.dvs K) (d_Policy___iter__.kws K) f fd) : Binds K fd ["self"] [] := FunD.bindsN (ps := ["self"]) F fun _ _ _ _ _ _ us hl => match us, hl with | [_], _ => rfl
theorem ok_Policy___getitem__ (F : FunD K "__getitem__" "Policy.__getitem__" (defArgs st_Policy___getitem__) (defBody st_Policy___getitem__) (defScope st_Policy___getitem__) (d_Policy___getitem__.dvs K) (d_Policy___getitem__.kws K) f fd) (gf : GF G11 L P w K mg base) (gx : GFX G11 X0 L P w K mg base) : FnOk P w K mg base (L2.CX P w) (L + 1) f fd ["self", "number"] (spOf K mg (["self", "number"] : List Str).length (arity (["self", "number"] : List Str).length s_Policy___getitem__)) :=
  def_of (m := m_Policy___getitem__) F sc_Policy___getitem__ gf gx (by decide +kernel) c_Policy___getitem__
theorem b_Policy___getitem__ (F : FunD K "__getitem__" "Policy.__getitem__" (defArgs st_Policy___getitem__) (defBody st_Policy___getitem__) (defScope st_Policy___getitem__) (d_Policy___getitem__.dvs K) (d_Policy___getitem__.kws K) f fd) : Binds K fd ["self", "number"] [] := FunD.bindsN (ps := ["self", "number"]) F fun _ _ _ _ _ _ us hl => match us, hl with | [_, _], _ => rfl
theorem ok_Policy___add__ (F : FunD K "__add__" "Policy.__add__" (defArgs st_Policy___add__) (defBody st_Policy___add__) (defScope st_Policy___add__) (d_Policy___add__.dvs K) (d_Policy___add__.kws K) f fd) (gf : GF G12 L P w K mg base) (gx : GFX G12 X0 L P w K mg base) : FnOk P w K mg base (L2.CX P w) (L + 1) f fd ["self", "other"] (spOf K mg (["self", "other"] : List Str).length (arity (["self", "other"] : List Str).length s_Policy___add__)) :=
  def_of (m := m_Policy___add__) F sc_Policy___add__ gf gx (by decide +kernel) c_Policy___add__
theorem b_Policy___add__ (F : FunD K "__add__" "Policy.__add__" (defArgs st_Policy___add__) (defBody st_Policy___add__) (defScope st_Policy___add__) (d_Policy___add__.dvs K) (d_Policy___add__.kws K) f fd) : Binds K fd ["self", "other"] [] := FunD.bindsN (ps := ["self", "other"]) F fun _ _ _ _ _ _ us hl => match us, hl with | [_, _], _ => rfl
theorem ok_Policy_without (F : FunD K "without" "Policy.without" (defArgs st_Policy_without) (defBody st_Policy_without) (defScope st_Policy_without) (d_Policy_without.dvs K) (d_Policy_without.kws K) f fd) (gf : GF G13 L P w K mg base) (gx : GFX G13 X0 L P w K mg base) : L2.FnR P w K mg base (L2.CX P w) (L + 1) f (spS K mg ⟨f, L + 1, (["self"] : List Str).length, s_Policy_without⟩) :=
  def_ofS (m := m_Policy_without) (ps := ["self"]) F sc_Policy_without gf gx (by decide +kernel) c_Policy_without fun kV doc pm an cdv ct => StX.bind_star1 (B := fun us => bindArgs (PySem.W.fnOf "without" "Policy.without" (defArgs st_Policy_without) (defBody st_Policy_without) (defScope st_Policy_without) .none kV doc pm an cdv ct) ⟨us, []⟩) (fun _ => rfl) (fun _ _ _ => rfl)
theorem ok_Policy_made (F : FunD K "made" "Policy.made" (defArgs st_Policy_made) (defBody st_Policy_made) (defScope st_Policy_made) (d_Policy_made.dvs K) (d_Policy_made.kws K) f fd) (gf : GF G14 L P w K mg base) (gx : GFX G14 X0 L P w K mg base) : FnOk P w K mg base (L2.CX P w) (L + 1) f fd ["self"] (spOf K mg (["self"] : List Str).length (arity (["self"] : List Str).length s_Policy_made)) :=
  def_of (m := m_Policy_made) F sc_Policy_made gf gx (by decide +kernel) c_Policy_made
theorem b_Policy_made (F : FunD K "made" "Policy.made" (defArgs st_Policy_made) (defBody st_Policy_made) (defScope st_Policy_made) (d_Policy_made.dvs K) (d_Policy_made.kws K) f fd) : Binds K fd ["self"] [] := FunD.bindsN (ps := ["self"]) F fun _ _ _ _ _ _ us hl => match us, hl with | [_], _ => rfl
theorem ok_words_of (F : FunD K "words_of" "words_of" (defArgs st_words_of) (defBody st_words_of) (defScope st_words_of) (d_words_of.dvs K) (d_words_of.kws K) f fd) (gf : GF G15 L P w K mg base) (gx : GFX G15 X0 L P w K mg base) : FnOk P w K mg base (L2.CX P w) (L + 1) f fd ["rule"] (spOf K mg (["rule"] : List Str).length (arity (["rule"] : List Str).length s_words_of)) :=
  def_of (m := m_words_of) F sc_words_of gf gx (by decide +kernel) c_words_of
theorem b_words_of (F : FunD K "words_of" "words_of" (defArgs st_words_of) (defBody st_words_of) (defScope st_words_of) (d_words_of.dvs K) (d_words_of.kws K) f fd) : Binds K fd ["rule"] [] := FunD.bindsN (ps := ["rule"]) F fun _ _ _ _ _ _ us hl => match us, hl with | [_], _ => rfl
theorem ok_Policy_words (F : FunD K "words" "Policy.words" (defArgs st_Policy_words) (defBody st_Policy_words) (defScope st_Policy_words) (d_Policy_words.dvs K) (d_Policy_words.kws K) f fd) (gf : GF G16 L P w K mg base) (gx : GFX G16 X0 L P w K mg base) : FnOk P w K mg base (L2.CX P w) (L + 1) f fd ["self"] (spOf K mg (["self"] : List Str).length (arity (["self"] : List Str).length s_Policy_words)) :=
  def_of (m := m_Policy_words) F sc_Policy_words gf gx (by decide +kernel) c_Policy_words
theorem b_Policy_words (F : FunD K "words" "Policy.words" (defArgs st_Policy_words) (defBody st_Policy_words) (defScope st_Policy_words) (d_Policy_words.dvs K) (d_Policy_words.kws K) f fd) : Binds K fd ["self"] [] := FunD.bindsN (ps := ["self"]) F fun _ _ _ _ _ _ us hl => match us, hl with | [_], _ => rfl
theorem ok__law_cell_at (F : FunD K "_law_cell_at" "_law_cell_at" (defArgs st__law_cell_at) (defBody st__law_cell_at) (defScope st__law_cell_at) (d__law_cell_at.dvs K) (d__law_cell_at.kws K) f fd) (gf : GF G17 L P w K mg base) (gx : GFX G17 X0 L P w K mg base) : FnOk P w K mg base (L2.CX P w) (L + 1) f fd ["_law_script", "_law_k"] (spOf K mg (["_law_script", "_law_k"] : List Str).length (arity (["_law_script", "_law_k"] : List Str).length s__law_cell_at)) :=
  def_of (m := m__law_cell_at) F sc__law_cell_at gf gx (by decide +kernel) c__law_cell_at
theorem b__law_cell_at (F : FunD K "_law_cell_at" "_law_cell_at" (defArgs st__law_cell_at) (defBody st__law_cell_at) (defScope st__law_cell_at) (d__law_cell_at.dvs K) (d__law_cell_at.kws K) f fd) : Binds K fd ["_law_script", "_law_k"] [] := FunD.bindsN (ps := ["_law_script", "_law_k"]) F fun _ _ _ _ _ _ us hl => match us, hl with | [_, _], _ => rfl
theorem ok__law_draw (F : FunD K "_law_draw" "_law_draw" (defArgs st__law_draw) (defBody st__law_draw) (defScope st__law_draw) (d__law_draw.dvs K) (d__law_draw.kws K) f fd) (gf : GF G18 L P w K mg base) (gx : GFX G18 X0 L P w K mg base) : FnOk P w K mg base (L2.CX P w) (L + 1) f fd ["_law_cell", "_law_k", "_law_bound"] (spOf K mg (["_law_cell", "_law_k", "_law_bound"] : List Str).length (arity (["_law_cell", "_law_k", "_law_bound"] : List Str).length s__law_draw)) :=
  def_of (m := m__law_draw) F sc__law_draw gf gx (by decide +kernel) c__law_draw
theorem b__law_draw (F : FunD K "_law_draw" "_law_draw" (defArgs st__law_draw) (defBody st__law_draw) (defScope st__law_draw) (d__law_draw.dvs K) (d__law_draw.kws K) f fd) : Binds K fd ["_law_cell", "_law_k", "_law_bound"] [] := FunD.bindsN (ps := ["_law_cell", "_law_k", "_law_bound"]) F fun _ _ _ _ _ _ us hl => match us, hl with | [_, _, _], _ => rfl
theorem ok__law_number (F : FunD K "_law_number" "_law_number" (defArgs st__law_number) (defBody st__law_number) (defScope st__law_number) (d__law_number.dvs K) (d__law_number.kws K) f fd) (gf : GF G19 L P w K mg base) (gx : GFX G19 X0 L P w K mg base) : FnOk P w K mg base (L2.CX P w) (L + 1) f fd ["_law_cell", "_law_k", "_law_bound"] (spOf K mg (["_law_cell", "_law_k", "_law_bound"] : List Str).length (arity (["_law_cell", "_law_k", "_law_bound"] : List Str).length s__law_number)) :=
  def_of (m := m__law_number) F sc__law_number gf gx (by decide +kernel) c__law_number
theorem b__law_number (F : FunD K "_law_number" "_law_number" (defArgs st__law_number) (defBody st__law_number) (defScope st__law_number) (d__law_number.dvs K) (d__law_number.kws K) f fd) : Binds K fd ["_law_cell", "_law_k", "_law_bound"] [] := FunD.bindsN (ps := ["_law_cell", "_law_k", "_law_bound"]) F fun _ _ _ _ _ _ us hl => match us, hl with | [_, _, _], _ => rfl
theorem ok__law_next (F : FunD K "_law_next" "_law_next" (defArgs st__law_next) (defBody st__law_next) (defScope st__law_next) (d__law_next.dvs K) (d__law_next.kws K) f fd) (gf : GF G20 L P w K mg base) (gx : GFX G20 X0 L P w K mg base) : FnOk P w K mg base (L2.CX P w) (L + 1) f fd ["_law_draw_here", "_law_bound"] (spOf K mg (["_law_draw_here", "_law_bound"] : List Str).length (arity (["_law_draw_here", "_law_bound"] : List Str).length s__law_next)) :=
  def_of (m := m__law_next) F sc__law_next gf gx (by decide +kernel) c__law_next
theorem b__law_next (F : FunD K "_law_next" "_law_next" (defArgs st__law_next) (defBody st__law_next) (defScope st__law_next) (d__law_next.dvs K) (d__law_next.kws K) f fd) : Binds K fd ["_law_draw_here", "_law_bound"] [] := FunD.bindsN (ps := ["_law_draw_here", "_law_bound"]) F fun _ _ _ _ _ _ us hl => match us, hl with | [_, _], _ => rfl
theorem ok__law_pick (F : FunD K "_law_pick" "_law_pick" (defArgs st__law_pick) (defBody st__law_pick) (defScope st__law_pick) (d__law_pick.dvs K) (d__law_pick.kws K) f fd) (gf : GF G21 L P w K mg base) (gx : GFX G21 X0 L P w K mg base) : FnOk P w K mg base (L2.CX P w) (L + 1) f fd ["_law_draw_here", "_law_things"] (spOf K mg (["_law_draw_here", "_law_things"] : List Str).length (arity (["_law_draw_here", "_law_things"] : List Str).length s__law_pick)) :=
  def_of (m := m__law_pick) F sc__law_pick gf gx (by decide +kernel) c__law_pick
theorem b__law_pick (F : FunD K "_law_pick" "_law_pick" (defArgs st__law_pick) (defBody st__law_pick) (defScope st__law_pick) (d__law_pick.dvs K) (d__law_pick.kws K) f fd) : Binds K fd ["_law_draw_here", "_law_things"] [] := FunD.bindsN (ps := ["_law_draw_here", "_law_things"]) F fun _ _ _ _ _ _ us hl => match us, hl with | [_, _], _ => rfl
theorem ok__law_rules (F : FunD K "_law_rules" "_law_rules" (defArgs st__law_rules) (defBody st__law_rules) (defScope st__law_rules) (d__law_rules.dvs K) (d__law_rules.kws K) f fd) (gf : GF G22 L P w K mg base) (gx : GFX G22 X0 L P w K mg base) : FnOk P w K mg base (L2.CX P w) (L + 1) f fd ["_law_draw_here", "_law_most"] (spOf K mg (["_law_draw_here", "_law_most"] : List Str).length (arity (["_law_draw_here", "_law_most"] : List Str).length s__law_rules)) :=
  def_of (m := m__law_rules) F sc__law_rules gf gx (by decide +kernel) c__law_rules
theorem b__law_rules (F : FunD K "_law_rules" "_law_rules" (defArgs st__law_rules) (defBody st__law_rules) (defScope st__law_rules) (d__law_rules.dvs K) (d__law_rules.kws K) f fd) : Binds K fd ["_law_draw_here", "_law_most"] [] := FunD.bindsN (ps := ["_law_draw_here", "_law_most"]) F fun _ _ _ _ _ _ us hl => match us, hl with | [_, _], _ => rfl
theorem ok__law_made (F : FunD K "_law_made" "_law_made" (defArgs st__law_made) (defBody st__law_made) (defScope st__law_made) (d__law_made.dvs K) (d__law_made.kws K) f fd) (gf : GF G23 L P w K mg base) (gx : GFX G23 X0 L P w K mg base) : FnOk P w K mg base (L2.CX P w) (L + 1) f fd ["_law_rules_here"] (spOf K mg (["_law_rules_here"] : List Str).length (arity (["_law_rules_here"] : List Str).length s__law_made)) :=
  def_of (m := m__law_made) F sc__law_made gf gx (by decide +kernel) c__law_made
theorem b__law_made (F : FunD K "_law_made" "_law_made" (defArgs st__law_made) (defBody st__law_made) (defScope st__law_made) (d__law_made.dvs K) (d__law_made.kws K) f fd) : Binds K fd ["_law_rules_here"] [] := FunD.bindsN (ps := ["_law_rules_here"]) F fun _ _ _ _ _ _ us hl => match us, hl with | [_], _ => rfl
theorem ok__law_words (F : FunD K "_law_words" "_law_words" (defArgs st__law_words) (defBody st__law_words) (defScope st__law_words) (d__law_words.dvs K) (d__law_words.kws K) f fd) (gf : GF G24 L P w K mg base) (gx : GFX G24 X0 L P w K mg base) : FnOk P w K mg base (L2.CX P w) (L + 1) f fd ["_law_rule"] (spOf K mg (["_law_rule"] : List Str).length (arity (["_law_rule"] : List Str).length s__law_words)) :=
  def_of (m := m__law_words) F sc__law_words gf gx (by decide +kernel) c__law_words
theorem b__law_words (F : FunD K "_law_words" "_law_words" (defArgs st__law_words) (defBody st__law_words) (defScope st__law_words) (d__law_words.dvs K) (d__law_words.kws K) f fd) : Binds K fd ["_law_rule"] [] := FunD.bindsN (ps := ["_law_rule"]) F fun _ _ _ _ _ _ us hl => match us, hl with | [_], _ => rfl
theorem b_law (F : FunD K "law" "law" (defArgs st_law) (defBody st_law) (defScope st_law) (d_law.dvs K) (d_law.kws K) f fd) : Binds K fd ["_law_script"] [] := FunD.bindsN (ps := ["_law_script"]) F fun _ _ _ _ _ _ us hl => match us, hl with | [_], _ => rfl
end
end K02
namespace K02
open PySem PySem.Spec L2 DL
open PyProof.Rows hiding St
open He (ga ma fAd Fa DefD)
variable [Tbl]
theorem b__law_error {K : PySem.W.Frag} {f : Addr} {fd : FuncData} (F : FunD K "_law_error" "_law_error" (defArgs st__law_error) (defBody st__law_error) (defScope st__law_error) (d__law_error.dvs K) (d__law_error.kws K) f fd) : Binds K fd ["_law_call"] [] := FunD.bindsN (ps := ["_law_call"]) F fun _ _ _ _ _ _ us hl => match us, hl with | [_], _ => rfl
theorem b_BadPolicy___init__ {K : PySem.W.Frag} {f : Addr} {fd : FuncData} (F : FunD K "__init__" "BadPolicy.__init__" (defArgs st_BadPolicy___init__) (defBody st_BadPolicy___init__) (defScope st_BadPolicy___init__) (d_BadPolicy___init__.dvs K) (d_BadPolicy___init__.kws K) f fd) : Binds K fd ["self", "number"] [] := FunD.bindsN (ps := ["self", "number"]) F fun _ _ _ _ _ _ us hl => match us, hl with | [_, _], _ => rfl
def codeAt (K : PySem.W.Frag) (p : Str × Option Str) : Value := match K.lookup (fAd K p) with
  | some ⟨_, _, .func fd, _⟩ => fd.code
  | _ => .none
theorem gx0 {P : Program} {w : World} {K : PySem.W.Frag} {mg : Str → Option Value} {base h : Heap} (X : K.In h) (G : h.Ns mainGlobals mg) (c : He.SaysD fas defs K) (lb : looksB K = true) : GFX G0 X0 6 P w K mg base := by
  have lb : dAnd [basB K G0.cls, G0.cons.all (consB K), bltsB K G0.blt, fldsB K X0.flds, xcfB K "RightError" er_law_error, oexB K (ga K "BadPolicy"), decide (PySem.W.findIn K (.ref (ga K "BadPolicy")) "number" = some none)] = true := lb
  simp only [dAnd, List.all_cons, List.all_nil, id, Bool.and_true, Bool.and_eq_true, decide_eq_true_eq] at lb
  obtain ⟨l0, l1, l2, l3, l4, l5, l6⟩ := lb
  have bf : BF G0.cls K mg := bas_ok X G l0
  refine ⟨fun x hx => ⟨_, bf.glo x hx⟩, flds_ok bf (by decide +kernel) l3, fun i x q => ?_, fun i x f fs q => ?_, fun i x er q => ?_, by decide +kernel⟩
  · match i, q with
    | 0, q =>
      cases (Prod.mk.inj (Option.some.inj (show some (("RightError" : Str), ([] : List Str)) = some (x, []) from q))).1
      obtain ⟨e1, e2, e3, e4⟩ := He.exc_ok (c.fact 30 rfl)
      exact ⟨_, _, _, _, _, He.glo_ok X G (c.fact 29 rfl), PySem.F.excBase_ValueError, e1, e2, e3, e4⟩
    | 1, q => cases (Prod.mk.inj (Option.some.inj (show some (("BadPolicy" : Str), (["number"] : List Str)) = some (x, []) from q))).2
    | n + 2, q => cases q
  · match i, q with
    | 0, q => cases (Prod.mk.inj (Option.some.inj (show some (("RightError" : Str), ([] : List Str)) = some (x, f :: fs) from q))).2
    | 1, q =>
      have q : some (("BadPolicy" : Str), (["number"] : List Str)) = some (x, f :: fs) := q
      cases q
      obtain ⟨fd, F⟩ := c.def_ 27 (d := d_BadPolicy___init__) rfl
      have m := He.meth_ok (c.fact 32 rfl)
      refine ⟨ga K "BadPolicy", _, fd, _, He.glo_ok X G (c.fact 31 rfl), oexB_ok l5, m.at_, eq_of_beq m.fn, fnX1 (x := "__init__") F sc_BadPolicy___init__ rfl, b_BadPolicy___init__ F, ?_, by decide⟩
      intro g hg
      simp only [List.mem_cons, List.not_mem_nil, or_false] at hg
      subst hg; exact l6
    | n + 2, q => cases q
  · match i, q with
    | 0, q =>
      have q : some (("_law_error" : Str), er_law_error) = some (x, er) := q
      cases q
      obtain ⟨fd, F⟩ := c.def_ 26 (d := d__law_error) rfl
      have bE := b__law_error F
      have kp := F.kp
      obtain ⟨oc, od, dV, kV, doc, pm, an, cdv, ct, osl, rfl, lkp, hcd, _, _⟩ := F.ex
      obtain ⟨x1, x2, x3⟩ := xcfB_ok X G l4
      exact ⟨ga K "_law_error", "_law_call", "RightError", ga K "RightError", _, _, _, dV, kV, doc, pm, cdv, ct, oc, an, od, osl, _, enA K er_law_error, (by unfold enA; rw [List.map_map]; exact (List.map_id _)), He.glo_ok X G (c.fact 27 rfl), kp, lkp, hcd, bE, sc__law_error, rfl, rfl, .inl rfl, by decide, by decide, x1, He.free_ok X G (c.fact 28 rfl), x3, by kernel_rfl, x2, (by unfold enA; rw [List.length_map]; show er_law_error.ens.length < 20; decide)⟩
    | n + 1, q => cases q
theorem facts {P : Program} {w : World} {K : PySem.W.Frag} {mg : Str → Option Value} {base h : Heap} (X : K.In h) (G : h.Ns mainGlobals mg) (c : He.SaysD fas defs K) (lb : looksB K = true) {fd_law : FuncData} (F_law : FunD K "law" "law" (defArgs st_law) (defBody st_law) (defScope st_law) (d_law.dvs K) (d_law.kws K) (ga K "law") fd_law) (hm_law : ∃ cc Pt, codeAt K d_law.at_ = .ref cc ∧ LamX.TabB base mg cc Pt ∧ (Pt, (("law" : Str) ++ ".<locals>.") ++ "<lambda>") ∈ Tbl.T ∧ ∀ p ∈ Tbl.T, p.1 = Pt → p.2 = (("law" : Str) ++ ".<locals>.") ++ "<lambda>") :
    FnOk P w K mg base (L2.CX P w) 159 (ga K "law") fd_law ["_law_script"] (spOf K mg 1 (arity 1 s_law)) := by
  have g0 : GF G0 6 P w K mg base := by
    have lb : dAnd [basB K G0.cls, G0.cons.all (consB K), bltsB K G0.blt, fldsB K X0.flds, xcfB K "RightError" er_law_error, oexB K (ga K "BadPolicy"), decide (PySem.W.findIn K (.ref (ga K "BadPolicy")) "number" = some none)] = true := lb
    simp only [dAnd, List.all_cons, List.all_nil, id, Bool.and_true, Bool.and_eq_true, decide_eq_true_eq] at lb
    exact gf0 X G (bas_ok X G lb.1) rfl lb.2.1 lb.2.2.1 rfl rfl rfl rfl rfl rfl rfl rfl rfl
  have bf : BF G0.cls K mg := by
    have lb : dAnd [basB K G0.cls, G0.cons.all (consB K), bltsB K G0.blt, fldsB K X0.flds, xcfB K "RightError" er_law_error, oexB K (ga K "BadPolicy"), decide (PySem.W.findIn K (.ref (ga K "BadPolicy")) "number" = some none)] = true := lb
    simp only [dAnd, List.all_cons, List.all_nil, id, Bool.and_true, Bool.and_eq_true, decide_eq_true_eq] at lb
    exact bas_ok X G lb.1
  have x0 : ∀ {Γ : GE} {l : Nat}, Γ.cls = G0.cls → Γ.exs = G0.exs → Γ.errs = G0.errs → Γ.mkrs = G0.mkrs → 6 ≤ l → GFX Γ X0 l P w K mg base := fun e1 e2 e3 e4 l => (GFX.of (gx0 X G c lb) e1 e2 e3 e4).mono l
  obtain ⟨fd_is_whole, F_is_whole⟩ := c.def_ 0 (d := d_is_whole) rfl
  have k_is_whole := ok_is_whole F_is_whole g0 (x0 (Γ := G0) rfl rfl rfl rfl (by decide))
  have g1 : GF G1 12 P w K mg base := (g0.mono (L' := 12) (by decide)).addFn (m := ⟨_, _, 7, ["thing"], s_is_whole, [], []⟩) rfl (He.glo_ok X G (c.fact 0 rfl)) (mef (dvs := []) (dd := []) k_is_whole (F_is_whole.kp) (b_is_whole F_is_whole) .nil (fun _ _ => .nil) (by decide))
  obtain ⟨fd_is_word, F_is_word⟩ := c.def_ 1 (d := d_is_word) rfl
  have k_is_word := ok_is_word F_is_word g1 (x0 (Γ := G1) rfl rfl rfl rfl (by decide))
  have g2 : GF G2 18 P w K mg base := (g1.mono (L' := 18) (by decide)).addFn (m := ⟨_, _, 13, ["thing"], s_is_word, [], []⟩) rfl (He.glo_ok X G (c.fact 1 rfl)) (mef (dvs := []) (dd := []) k_is_word (F_is_word.kp) (b_is_word F_is_word) .nil (fun _ _ => .nil) (by decide))
  obtain ⟨fd_is_number, F_is_number⟩ := c.def_ 2 (d := d_is_number) rfl
  have k_is_number := ok_is_number F_is_number g2 (x0 (Γ := G2) rfl rfl rfl rfl (by decide))
  have g3 : GF G3 24 P w K mg base := (g2.mono (L' := 24) (by decide)).addFn (m := ⟨_, _, 19, ["thing", "many"], s_is_number, [], []⟩) rfl (He.glo_ok X G (c.fact 2 rfl)) (mef (dvs := []) (dd := []) k_is_number (F_is_number.kp) (b_is_number F_is_number) .nil (fun _ _ => .nil) (by decide))
  obtain ⟨fd_are_pairs, F_are_pairs⟩ := c.def_ 3 (d := d_are_pairs) rfl
  have k_are_pairs := ok_are_pairs F_are_pairs g3 (x0 (Γ := G3) rfl rfl rfl rfl (by decide))
  have g4 : GF G4 30 P w K mg base := (g3.mono (L' := 30) (by decide)).addFn (m := ⟨_, _, 25, ["thing"], s_are_pairs, [], []⟩) rfl (He.glo_ok X G (c.fact 3 rfl)) (mef (dvs := []) (dd := []) k_are_pairs (F_are_pairs.kp) (b_are_pairs F_are_pairs) .nil (fun _ _ => .nil) (by decide))
  obtain ⟨fd_are_words, F_are_words⟩ := c.def_ 4 (d := d_are_words) rfl
  have k_are_words := ok_are_words F_are_words g4 (x0 (Γ := G4) rfl rfl rfl rfl (by decide))
  have g5 : GF G5 36 P w K mg base := (g4.mono (L' := 36) (by decide)).addFn (m := ⟨_, _, 31, ["thing"], s_are_words, [], []⟩) rfl (He.glo_ok X G (c.fact 4 rfl)) (mef (dvs := []) (dd := []) k_are_words (F_are_words.kp) (b_are_words F_are_words) .nil (fun _ _ => .nil) (by decide))
  obtain ⟨fd_is_rule, F_is_rule⟩ := c.def_ 5 (d := d_is_rule) rfl
  have k_is_rule := ok_is_rule F_is_rule g5 (x0 (Γ := G5) rfl rfl rfl rfl (by decide))
  have g6 : GF G6 42 P w K mg base := (g5.mono (L' := 42) (by decide)).addFn (m := ⟨_, _, 37, ["thing"], s_is_rule, [], []⟩) rfl (He.glo_ok X G (c.fact 5 rfl)) (mef (dvs := []) (dd := []) k_is_rule (F_is_rule.kp) (b_is_rule F_is_rule) .nil (fun _ _ => .nil) (by decide))
  obtain ⟨fd_plain_rule, F_plain_rule⟩ := c.def_ 6 (d := d_plain_rule) rfl
  have k_plain_rule := ok_plain_rule F_plain_rule g6 (x0 (Γ := G6) rfl rfl rfl rfl (by decide))
  have g7 : GF G7 48 P w K mg base := (g6.mono (L' := 48) (by decide)).addFn (m := ⟨_, _, 43, ["rule"], s_plain_rule, [], []⟩) rfl (He.glo_ok X G (c.fact 6 rfl)) (mef (dvs := []) (dd := []) k_plain_rule (F_plain_rule.kp) (b_plain_rule F_plain_rule) .nil (fun _ _ => .nil) (by decide))
  obtain ⟨fd_Policy___init__, F_Policy___init__⟩ := c.def_ 7 (d := d_Policy___init__) rfl
  have k_Policy___init__ := ok_Policy___init__ F_Policy___init__ g7 (x0 (Γ := G7) rfl rfl rfl rfl (by decide))
  have g8 : GF G8 54 P w K mg base := (g7.mono (L' := 54) (by decide)).addMk (C := ga K "Policy") (m := ⟨_, _, 49, ["self", "rules"], s_Policy___init__, [], []⟩) rfl (bf.glo "Policy" (by decide)) (mef (dvs := []) (dd := []) k_Policy___init__ (F_Policy___init__.kp) (b_Policy___init__ F_Policy___init__) .nil (fun _ _ => .nil) (by decide)) (He.mkr_ok (c.fact 8 rfl))
  obtain ⟨fd_Policy___eq__, F_Policy___eq__⟩ := c.def_ 8 (d := d_Policy___eq__) rfl
  have k_Policy___eq__ := ok_Policy___eq__ F_Policy___eq__ g8 (x0 (Γ := G8) rfl rfl rfl rfl (by decide))
  have g9 : GF G9 60 P w K mg base := (g8.mono (L' := 60) (by decide)).addEq (me := ⟨_, _, 55, ["self", "other"], s_Policy___eq__, [], []⟩) (by rfl) (bf.glo "Policy" (by decide)) (mef (dvs := []) (dd := []) k_Policy___eq__ (F_Policy___eq__.kp) (b_Policy___eq__ F_Policy___eq__) .nil (fun _ _ => .nil) (by decide)) (He.meth_ok (c.fact 9 rfl)) (bf.nof "Policy" (by decide)) (bf.ne "Policy" (by decide))
  obtain ⟨fd_Policy___len__, F_Policy___len__⟩ := c.def_ 9 (d := d_Policy___len__) rfl
  have k_Policy___len__ := ok_Policy___len__ F_Policy___len__ g9 (x0 (Γ := G9) rfl rfl rfl rfl (by decide))
  have g10 : GF G10 66 P w K mg base := (g9.mono (L' := 66) (by decide)).addLen (me := ⟨_, _, 61, ["self"], s_Policy___len__, [], []⟩) (by rfl) (bf.glo "Policy" (by decide)) (mef (dvs := []) (dd := []) k_Policy___len__ (F_Policy___len__.kp) (b_Policy___len__ F_Policy___len__) .nil (fun _ _ => .nil) (by decide)) (He.meth_ok (c.fact 10 rfl))
  obtain ⟨fd_Policy___iter__, F_Policy___iter__⟩ := c.def_ 10 (d := d_Policy___iter__) rfl
  have k_Policy___iter__ := ok_Policy___iter__ F_Policy___iter__ g10 (x0 (Γ := G10) rfl rfl rfl rfl (by decide)) (He.free_ok X G (c.fact 43 rfl))
  have g11 : GF G11 72 P w K mg base := (g10.mono (L' := 72) (by decide)).addIt (me := ⟨_, fd_Policy___iter__, 67, ["self"], s_Policy___iter__⟩) (by rfl) (bf.glo "Policy" (by decide)) ⟨k_Policy___iter__, (by show 67 + 5 ≤ 72; decide), rfl, b_Policy___iter__ F_Policy___iter__, (He.meth_ok (c.fact 11 rfl)).at_, (He.meth_ok (c.fact 11 rfl)).fn⟩
  obtain ⟨fd_Policy___getitem__, F_Policy___getitem__⟩ := c.def_ 11 (d := d_Policy___getitem__) rfl
  have k_Policy___getitem__ := ok_Policy___getitem__ F_Policy___getitem__ g11 (x0 (Γ := G11) rfl rfl rfl rfl (by decide))
  have g12 : GF G12 78 P w K mg base := (g11.mono (L' := 78) (by decide)).addIx (me := ⟨_, _, 73, ["self", "number"], s_Policy___getitem__, [], []⟩) (by rfl) (bf.glo "Policy" (by decide)) (mef (dvs := []) (dd := []) k_Policy___getitem__ (F_Policy___getitem__.kp) (b_Policy___getitem__ F_Policy___getitem__) .nil (fun _ _ => .nil) (by decide)) (He.meth_ok (c.fact 12 rfl)) (fnIn_of F_Policy___getitem__)
  obtain ⟨fd_Policy___add__, F_Policy___add__⟩ := c.def_ 12 (d := d_Policy___add__) rfl
  have k_Policy___add__ := ok_Policy___add__ F_Policy___add__ g12 (x0 (Γ := G12) rfl rfl rfl rfl (by decide))
  have g13 : GF G13 84 P w K mg base := (g12.mono (L' := 84) (by decide)).addAdd (me := ⟨_, _, 79, ["self", "other"], s_Policy___add__, [], []⟩) (by rfl) (bf.glo "Policy" (by decide)) (mef (dvs := []) (dd := []) k_Policy___add__ (F_Policy___add__.kp) (b_Policy___add__ F_Policy___add__) .nil (fun _ _ => .nil) (by decide)) (He.meth_ok (c.fact 13 rfl)) (bf.sf "Policy" (by decide))
  obtain ⟨fd_Policy_without, F_Policy_without⟩ := c.def_ 13 (d := d_Policy_without) rfl
  have k_Policy_without := ok_Policy_without F_Policy_without g13 (x0 (Γ := G13) rfl rfl rfl rfl (by decide))
  have g14 : GF G14 90 P w K mg base := (g13.mono (L' := 90) (by decide)).addSm (me := ⟨_, 85, 1, s_Policy_without⟩) (bf.glo "Policy" (by decide)) ⟨k_Policy_without, by show 85 + 5 ≤ 90; decide, F_Policy_without.kp⟩ (bf.clsK "Policy" (by decide)).toCls (He.meth_ok (c.fact 14 rfl))
  obtain ⟨fd_Policy_made, F_Policy_made⟩ := c.def_ 14 (d := d_Policy_made) rfl
  have k_Policy_made := ok_Policy_made F_Policy_made g14 (x0 (Γ := G14) rfl rfl rfl rfl (by decide))
  have g15 : GF G15 96 P w K mg base := (g14.mono (L' := 96) (by decide)).addMt (me := ⟨_, _, 91, ["self"], s_Policy_made, [], []⟩) (bf.glo "Policy" (by decide)) (mef (dvs := []) (dd := []) k_Policy_made (F_Policy_made.kp) (b_Policy_made F_Policy_made) .nil (fun _ _ => .nil) (by decide)) (bf.clsK "Policy" (by decide)).toCls (He.meth_ok (c.fact 15 rfl))
  obtain ⟨fd_words_of, F_words_of⟩ := c.def_ 15 (d := d_words_of) rfl
  have k_words_of := ok_words_of F_words_of g15 (x0 (Γ := G15) rfl rfl rfl rfl (by decide))
  have g16 : GF G16 102 P w K mg base := (g15.mono (L' := 102) (by decide)).addFn (m := ⟨_, _, 97, ["rule"], s_words_of, [], []⟩) rfl (He.glo_ok X G (c.fact 16 rfl)) (mef (dvs := []) (dd := []) k_words_of (F_words_of.kp) (b_words_of F_words_of) .nil (fun _ _ => .nil) (by decide))
  obtain ⟨fd_Policy_words, F_Policy_words⟩ := c.def_ 16 (d := d_Policy_words) rfl
  have k_Policy_words := ok_Policy_words F_Policy_words g16 (x0 (Γ := G16) rfl rfl rfl rfl (by decide))
  have g17 : GF G17 108 P w K mg base := (g16.mono (L' := 108) (by decide)).addMt (me := ⟨_, _, 103, ["self"], s_Policy_words, [], []⟩) (bf.glo "Policy" (by decide)) (mef (dvs := []) (dd := []) k_Policy_words (F_Policy_words.kp) (b_Policy_words F_Policy_words) .nil (fun _ _ => .nil) (by decide)) (bf.clsK "Policy" (by decide)).toCls (He.meth_ok (c.fact 17 rfl))
  obtain ⟨fd__law_cell_at, F__law_cell_at⟩ := c.def_ 17 (d := d__law_cell_at) rfl
  have k__law_cell_at := ok__law_cell_at F__law_cell_at g17 (x0 (Γ := G17) rfl rfl rfl rfl (by decide))
  have g18 : GF G18 114 P w K mg base := (g17.mono (L' := 114) (by decide)).addFn (m := ⟨_, _, 109, ["_law_script", "_law_k"], s__law_cell_at, [], []⟩) rfl (He.glo_ok X G (c.fact 18 rfl)) (mef (dvs := []) (dd := []) k__law_cell_at (F__law_cell_at.kp) (b__law_cell_at F__law_cell_at) .nil (fun _ _ => .nil) (by decide))
  obtain ⟨fd__law_draw, F__law_draw⟩ := c.def_ 18 (d := d__law_draw) rfl
  have k__law_draw := ok__law_draw F__law_draw g18 (x0 (Γ := G18) rfl rfl rfl rfl (by decide))
  have g19 : GF G19 120 P w K mg base := (g18.mono (L' := 120) (by decide)).addFn (m := ⟨_, _, 115, ["_law_cell", "_law_k", "_law_bound"], s__law_draw, [], []⟩) rfl (He.glo_ok X G (c.fact 19 rfl)) (mef (dvs := []) (dd := []) k__law_draw (F__law_draw.kp) (b__law_draw F__law_draw) .nil (fun _ _ => .nil) (by decide))
  obtain ⟨fd__law_number, F__law_number⟩ := c.def_ 19 (d := d__law_number) rfl
  have k__law_number := ok__law_number F__law_number g19 (x0 (Γ := G19) rfl rfl rfl rfl (by decide))
  have g20 : GF G20 126 P w K mg base := (g19.mono (L' := 126) (by decide)).addFn (m := ⟨_, _, 121, ["_law_cell", "_law_k", "_law_bound"], s__law_number, [], []⟩) rfl (He.glo_ok X G (c.fact 20 rfl)) (mef (dvs := []) (dd := []) k__law_number (F__law_number.kp) (b__law_number F__law_number) .nil (fun _ _ => .nil) (by decide))
  obtain ⟨fd__law_next, F__law_next⟩ := c.def_ 20 (d := d__law_next) rfl
  have k__law_next := ok__law_next F__law_next g20 (x0 (Γ := G20) rfl rfl rfl rfl (by decide))
  have g21 : GF G21 132 P w K mg base := (g20.mono (L' := 132) (by decide)).addFn (m := ⟨_, _, 127, ["_law_draw_here", "_law_bound"], s__law_next, [], []⟩) rfl (He.glo_ok X G (c.fact 21 rfl)) (mef (dvs := []) (dd := []) k__law_next (F__law_next.kp) (b__law_next F__law_next) .nil (fun _ _ => .nil) (by decide))
  obtain ⟨fd__law_pick, F__law_pick⟩ := c.def_ 21 (d := d__law_pick) rfl
  have k__law_pick := ok__law_pick F__law_pick g21 (x0 (Γ := G21) rfl rfl rfl rfl (by decide))
  have g22 : GF G22 138 P w K mg base := (g21.mono (L' := 138) (by decide)).addFn (m := ⟨_, _, 133, ["_law_draw_here", "_law_things"], s__law_pick, [], []⟩) rfl (He.glo_ok X G (c.fact 22 rfl)) (mef (dvs := []) (dd := []) k__law_pick (F__law_pick.kp) (b__law_pick F__law_pick) .nil (fun _ _ => .nil) (by decide))
  obtain ⟨fd__law_rules, F__law_rules⟩ := c.def_ 22 (d := d__law_rules) rfl
  have k__law_rules := ok__law_rules F__law_rules g22 (x0 (Γ := G22) rfl rfl rfl rfl (by decide))
  have g23 : GF G23 144 P w K mg base := (g22.mono (L' := 144) (by decide)).addFn (m := ⟨_, _, 139, ["_law_draw_here", "_law_most"], s__law_rules, [], []⟩) rfl (He.glo_ok X G (c.fact 23 rfl)) (mef (dvs := []) (dd := []) k__law_rules (F__law_rules.kp) (b__law_rules F__law_rules) .nil (fun _ _ => .nil) (by decide))
  obtain ⟨fd__law_made, F__law_made⟩ := c.def_ 23 (d := d__law_made) rfl
  have k__law_made := ok__law_made F__law_made g23 (x0 (Γ := G23) rfl rfl rfl rfl (by decide))
  have g24 : GF G24 150 P w K mg base := (g23.mono (L' := 150) (by decide)).addFn (m := ⟨_, _, 145, ["_law_rules_here"], s__law_made, [], []⟩) rfl (He.glo_ok X G (c.fact 24 rfl)) (mef (dvs := []) (dd := []) k__law_made (F__law_made.kp) (b__law_made F__law_made) .nil (fun _ _ => .nil) (by decide))
  obtain ⟨fd__law_words, F__law_words⟩ := c.def_ 24 (d := d__law_words) rfl
  have k__law_words := ok__law_words F__law_words g24 (x0 (Γ := G24) rfl rfl rfl rfl (by decide))
  have g25 : GF G25 156 P w K mg base := (g24.mono (L' := 156) (by decide)).addFn (m := ⟨_, _, 151, ["_law_rule"], s__law_words, [], []⟩) rfl (He.glo_ok X G (c.fact 25 rfl)) (mef (dvs := []) (dd := []) k__law_words (F__law_words.kp) (b__law_words F__law_words) .nil (fun _ _ => .nil) (by decide))
  obtain ⟨cc, Pt, mc, mB, mT, mU⟩ := hm_law
  have kp_law := F_law.kp
  have bb_law := b_law F_law
  obtain ⟨oc, od, dV, kV, doc, pm, an, cdv, ct, osl, rfl, lkp, hcd, _, _⟩ := F_law.ex
  have ec : cdv = .ref cc := by
    unfold codeAt at mc
    rw [show fAd K d_law.at_ = ga K "law" from rfl, lkp] at mc
    exact mc
  subst ec
  have k_law : FnOk P w K mg base (L2.CX P w) 159 _ _ ["_law_script"] (spOf K mg (["_law_script"] : List Str).length (arity (["_law_script"] : List Str).length s_law)) := def_ofL (m := m_law) (L := 158) lkp hcd sc_law (g25.mono (by decide)) (x0 (Γ := G25) rfl rfl rfl rfl (by decide)) mB mT mU (by decide) g25 (x0 (Γ := G25) rfl rfl rfl rfl (by decide)) c_law
  exact k_law
def lvl : Nat := 159
def lawIx : Nat := 25
def gloLaw : Nat := 26
end K02
namespace K02
open PySem PySem.Spec L2 DL
open PyProof.Rows hiding St
theorem plain (ns : List Int) (h : ns.length ≤ 63) (hb : ∀ z ∈ ns, Builtin.Int.intBits z ≤ 1048576) : ∃ S, s_law [.im (.scr ns)] [] = .ok (.im (.bl true)) S := by
  letI : Tbl := ⟨[]⟩
  exact r_law ns h
theorem law_at {l : PySem.W.OpenLaw} {w : World} {K : PySem.W.Frag} {mg : Str → Option Value} {fa : Addr} {h : Heap} (X : K.In h) (G : h.Ns mainGlobals mg) (hn : mg "law" = some (.ref fa)) (c0 : He.obsD fas defs K = He.valD defs) (lb : looksB K = true)
    (hT : h.get? (tabOf K d_law.at_) = some { cls := .none, data := .fields #[] }) (nT : K.lookup (tabOf K d_law.at_) = none) (hC : PySem.W.codeHdIn K (codeOf K d_law.at_) (tabOf K d_law.at_) = true) (hA : codeAt K d_law.at_ = .ref (codeOf K d_law.at_)) :
    LamX.LawAtS l w K (L2.CX l.prog w) 159 63 "_law_script" mg fa h := by
  have c : He.SaysD fas defs K := c0
  obtain ⟨fd, F⟩ := c.def_ lawIx (d := d_law) rfl
  have e := hn.symm.trans (He.glo_ok X G (c.fact gloLaw (f := .glo "law") rfl))
  cases e
  letI : Tbl := ⟨[(tabOf K d_law.at_, (("law" : Str) ++ ".<locals>.") ++ "<lambda>")]⟩
  refine ⟨fd, [(codeOf K d_law.at_, tabOf K d_law.at_)], spOf K mg 1 (arity 1 s_law), fun p hp => ?_, fun p hp => ?_, fun p hp => ?_, fun s u => FunD.bindsA (ps := ["_law_script"]) F (fun _ _ _ _ _ _ us hl => match us, hl with | [_], _ => rfl) s [u] rfl, fun H a ns hl hb ht hs => ?_, fun base KB GB hB => ?_⟩
  · rw [List.mem_singleton.mp hp]; exact hT
  · rw [List.mem_singleton.mp hp]; exact nT
  · rw [List.mem_singleton.mp hp]; exact PySem.W.codeHd_of_K X hC
  · refine sp_law (fun p hp => ?_) hs (plain ns hl hb)
    rw [List.mem_singleton.mp hp]
    exact ht _ (List.mem_singleton.mpr rfl)
  · refine facts (base := base) X G c lb F ⟨_, _, hA, hB _ (List.mem_singleton.mpr rfl), List.mem_singleton.mpr rfl, fun p hp _ => ?_⟩
    rw [List.mem_singleton.mp hp]
end K02
open PySem PySem.W PyProof.Rows
set_option maxHeartbeats 0 in
theorem PySem.Challenge.cw_handedkeys_k02_whole_policies_holds : PySem.Challenge.rw_handedkeys_k02_whole_policies.Holds := by
  w_on; o_law; k_head; (case hw => w_witness2)
  k_fill
  refine LamX.walk_ofTs (l := PySem.Challenge.rw_handedkeys_k02_whole_policies) (n := 63) (k := 159) (x := "_law_script") (CX := fun w => L2.CX PySem.Challenge.pw_handedkeys_k02_whole_policies w) rfl (by decide) rfl ⟨rfl, by decide, by decide⟩ (fun w h Y => PySem.W.km_in_of Y) ?F ?G
  case G => exact fun _ _ _ _ _ ⟨_, _, _, _, _, _, _, _, _, _, _, _, z⟩ => z
  case F =>
    intro w mg fa h Y KX G hmg
    exact K02.law_at KX G hmg (by kernel_rfl) (by kernel_rfl) (DL.km_tab Y _ (by kernel_rfl)) (by kernel_rfl) (by kernel_rfl) (by kernel_rfl)
