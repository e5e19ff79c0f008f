import PyProof.Rows.All
import Wide.All
import OpenK.AllK
import Wide.FinOn
import HandS.Base
import HandS.Call
import HandS.List
import HandS.Comp
import HandS.Ends
import HandS.Dict
import HandS.Iter
import HandS.Text
import HandS.Words
import HandS.WordsList
import HandS.WordsDict
import HandS.HeadHook1
import HandS.HeadHook2
import HandS.Lambda
import KE.KeyNested
import KE.KDictKeyed
import HandS.Deep
import HandS.TupAny
import HandS.TupLen
import HandS.Star
import HandS.Exc
import HandS.ExcOwn
import HandS.ExcInit
import HandS.IsInst
import HandS.Conv
import HandS.Strs
import HandS.Defaults
import HandS.Style
import HandS.DictComp
import KE.GoesMore
import KE.KDictDisplayH
import PyProof.InstNe
import HandS.SlotsOwn
import KE.KDictWalk
import KE.KItemsList
import PyProof.Draws
import HandS.ListItems
import KE.KDictOf
import HandS.DictEq
import HandS.OwnEq
import HandS.HeadEnd
import PySem.Challenge.RW_nestcharts_k18_equal_outcomes
import HandS.Head0
import HandS.Head1
import HandS.Head2
import KE.KStateDown
set_option Elab.async false
set_option linter.all false
set_option maxRecDepth 100000
set_option maxHeartbeats 4000000
/-! U1: data without a heap; how a heap bears them; the state of a def's slots: values that stand, and lists that the def alone holds. -/
namespace U
open PySem PySem.Spec PyProof.Rows L2

/-- what stays through a run: the world (texts' hashes), the cells of the law's frame, the lambdas of the text by number, the tables of code objects -/
class Wo where
  w : World
  cl : List (Str × Addr)
  site : Nat → Option (Arguments × Expr × Scope × Str)
  tabs : List (Addr × Str)

/-- data: what a value is, whatever its places -/
inductive D where
  | non | bl (b : Bool) | int (i : Int) | str (s : Str)
  | tup (xs : List D) | lst (xs : List D) | dct (ks : List Key) (vs : List D) | dcT (ks : List D) (vs : List D) | ins (c : Str) (ns : List Str) (vs : List D)
  | drw | ty (n : String) | cls (c : Str) | scr (ns : List Int) | lam (k : Nat)

def kD : Key → D
  | .inl i => .int i
  | .inr s => .str s
mutual
/-- the key that data is, in a dict of tuples -/
def nkD : D → Option NestedKey
  | .non => some .none
  | .bl b => some (.num (if b = true then 1 else 0))
  | .int i => some (.num i)
  | .str s => some (.text s)
  | .tup ds => match nkA ds with
    | some ks => some (.tup ks)
    | none => none
  | _ => none
def nkA : List D → Option (List NestedKey)
  | [] => some []
  | d :: ds => match nkD d, nkA ds with
    | some k, some ks => some (k :: ks)
    | _, _ => none
end
/-- the key of a dict of tuples: a tuple, not too deep -/
def nkT : D → Option NestedKey
  | .tup ds => match nkD (.tup ds) with
    | some k => if k.depth ≤ 8 then some k else none
    | none => none
  | _ => none
/-- a dict of tuples: keys, the tuples' places, values -/
def GD (w : World) (d : Addr) (kvs : List (NestedKey × Addr × V)) : HO := .ext fun h => kvs.length ≤ sizeLine ∧ (d == sysModules) = false ∧ (kvs.map (·.1)).Nodup ∧
  ∃ xs : List (NestedKey × Addr × Value), Paired (fun p q => p.1 = q.1 ∧ p.2.1 = q.2.1 ∧ RelV p.2.2 q.2.2) kvs xs ∧
    ∃ o es ep, h.get? d = some o ∧ o.ExactDict ∧ o.data = .dict es ep ∧ es.toList = xs.map fun x => ⟨x.1.hash w, .ref x.2.1, x.2.2⟩
/-- a lambda of the law's text, made -/
def LamO (cl : List (Str × Addr)) (p : Arguments × Expr × Scope × Str) (f c : Addr) (pm ctv : Value) : HO := .ext fun h => h.get? f = some (PySem.W.kla_obj "<lambda>" p.2.2.2 p.1 p.2.1 p.2.2.1 (cloFrom cl p.2.2.1.names []) pm c ctv)

/-- the script, as the law was given it -/
def ScrO (ns : List Int) (o : HO) : Prop := (o = .lst (ns.map V.int) ∨ ∃ ob, o = .frz ob (.lst (ns.map V.int))) ∧ ns.length ≤ 63
variable [Wo]
mutual
inductive Rp (K : PySem.W.Frag) (dr : Addr) (F : Hp) : V → D → Prop
  | non : Rp K dr F .non .non
  | bl (b : Bool) : Rp K dr F (.bl b) (.bl b)
  | int (i : Int) : Rp K dr F (.int i) (.int i)
  | str (x : Str) : Rp K dr F (.str x) (.str x)
  | tup {a : Addr} {xs : List V} {ds : List D} : F a = some (.tup xs) → RpA K dr F xs ds → Rp K dr F (.ref a) (.tup ds)
  | lst {a : Addr} {xs : List V} {ds : List D} : F a = some (.lst xs) → RpA K dr F xs ds → Rp K dr F (.ref a) (.lst ds)
  | dct {a : Addr} {o : Obj} {kvs : List (Key × V)} {ks : List Key} {vs : List D} : F a = some (.frz o (.dK kvs)) → kvs.map (·.1) = ks → RpA K dr F (kvs.map (·.2)) vs → Rp K dr F (.ref a) (.dct ks vs)
  | dcT {a : Addr} {o : Obj} {kvs : List (NestedKey × Addr × V)} {ks vs : List D} : F a = some (.frz o (GD Wo.w a kvs)) → ks.map nkT = kvs.map (some ·.1) → RpA K dr F (kvs.map (V.ref ·.2.1)) ks → RpA K dr F (kvs.map (·.2.2)) vs → Rp K dr F (.ref a) (.dcT ks vs)
  | ins {a C dx : Addr} {fs : List (Str × V)} {c : Str} {ns : List Str} {vs : List D} : F a = some (.ins C dx fs) → C = He.ga K c → fs.map (·.1) = ns → RpA K dr F (fs.map (·.2)) vs → Rp K dr F (.ref a) (.ins c ns vs)
  | drw : Rp K dr F (.ref dr) .drw
  | ty (n : String) : Rp K dr F (.ty n) (.ty n)
  | cls (c : Str) : Rp K dr F (.ref (He.ga K c)) (.cls c)
  | scr {a : Addr} {ns : List Int} {o : HO} : F a = some o → ScrO ns o → Rp K dr F (.ref a) (.scr ns)
  | lam {a c : Addr} {k : Nat} {p : Arguments × Expr × Scope × Str} {pm ctv : Value} : Wo.site k = some p → F a = some (LamO Wo.cl p a c pm ctv) → F c = some (LamX.CodeO c p.2.2.2) → Rp K dr F (.ref a) (.lam k)
inductive RpA (K : PySem.W.Frag) (dr : Addr) (F : Hp) : List V → List D → Prop
  | nil : RpA K dr F [] []
  | cons {v : V} {vs : List V} {d : D} {ds : List D} : Rp K dr F v d → RpA K dr F vs ds → RpA K dr F (v :: vs) (d :: ds)
end

/-- all of F stands in F' -/
def Sub (F F' : Hp) : Prop := ∀ a o, F a = some o → F' a = some o
omit [Wo] in theorem Sub.refl (F : Hp) : Sub F F := fun _ _ h => h
omit [Wo] in theorem Sub.trans {F G H : Hp} (a : Sub F G) (b : Sub G H) : Sub F H := fun x o h => b x o (a x o h)
omit [Wo] in theorem Sub.seqT {K : PySem.W.Frag} {F F' : Hp} {a : Addr} {xs : List V} (e : Sub F F') (h : SqT K F a xs) : SqT K F' a xs := by
  rcases h with (h | ⟨o, h⟩) | h
  · exact .inl (.inl (e _ _ h))
  · exact .inl (.inr ⟨o, e _ _ h⟩)
  · exact .inr h

section
variable {K : PySem.W.Frag} {dr : Addr} {F F' : Hp}
mutual
theorem Rp.mono (e : Sub F F') : ∀ (d : D) {v : V}, Rp K dr F v d → Rp K dr F' v d
  | .non, _, h => by cases h; exact .non
  | .bl b, _, h => by cases h; exact .bl b
  | .int i, _, h => by cases h; exact .int i
  | .str x, _, h => by cases h; exact .str x
  | .tup ds, _, h => by
    cases h with
    | tup h1 h2 => exact .tup (e _ _ h1) (RpA.mono e ds h2)
  | .lst ds, _, h => by
    cases h with
    | lst h1 h2 => exact .lst (e _ _ h1) (RpA.mono e ds h2)
  | .dct ks vs, _, h => by
    cases h with
    | dct h1 h2 h3 => exact .dct (e _ _ h1) h2 (RpA.mono e vs h3)
  | .dcT ks vs, _, h => by
    cases h with
    | dcT h1 h2 h3 h4 => exact .dcT (e _ _ h1) h2 (RpA.mono e ks h3) (RpA.mono e vs h4)
  | .ins c ns vs, _, h => by
    cases h with
    | ins h1 h2 h3 h4 => exact .ins (e _ _ h1) h2 h3 (RpA.mono e vs h4)
  | .drw, _, h => by cases h; exact .drw
  | .ty n, _, h => by cases h; exact .ty n
  | .cls c, _, h => by cases h; exact .cls c
  | .scr ns, _, h => by
    cases h with
    | scr h1 h2 => exact .scr (e _ _ h1) h2
  | .lam k, _, h => by
    cases h with
    | lam h1 h2 h3 => exact .lam h1 (e _ _ h2) (e _ _ h3)
theorem RpA.mono (e : Sub F F') : ∀ (ds : List D) {vs : List V}, RpA K dr F vs ds → RpA K dr F' vs ds
  | [], _, h => by cases h; exact .nil
  | d :: ds, _, h => by
    cases h with
    | cons h1 h2 => exact .cons (Rp.mono e d h1) (RpA.mono e ds h2)
end
theorem RpA.length : ∀ {vs : List V} {ds : List D}, RpA K dr F vs ds → vs.length = ds.length
  | [], _, h => by cases h; rfl
  | _ :: _, _, h => by
    cases h with
    | cons h1 h2 => rw [List.length_cons, List.length_cons, RpA.length h2]
theorem RpA.at_ : ∀ {vs : List V} {ds : List D} {i : Nat} {d : D}, RpA K dr F vs ds → ds[i]? = some d → ∃ v, vs[i]? = some v ∧ Rp K dr F v d
  | [], _, i, d, h, e => by cases h; simp at e
  | v :: vs, _, i, d, h, e => by
    cases h with
    | cons h1 h2 =>
      cases i with
      | zero =>
        rw [List.getElem?_cons_zero] at e
        cases e
        exact ⟨v, rfl, h1⟩
      | succ i =>
        rw [List.getElem?_cons_succ] at e
        obtain ⟨w, hw, r⟩ := RpA.at_ h2 e
        exact ⟨w, by rw [List.getElem?_cons_succ]; exact hw, r⟩
theorem RpA.append : ∀ {vs us : List V} {ds es : List D}, RpA K dr F vs ds → RpA K dr F us es → RpA K dr F (vs ++ us) (ds ++ es)
  | [], _, _, _, h, g => by cases h; exact g
  | _ :: _, _, _, _, h, g => by
    cases h with
    | cons h1 h2 => exact .cons h1 (RpA.append h2 g)
theorem RpA.drop : ∀ {vs : List V} {ds : List D} (n : Nat), RpA K dr F vs ds → RpA K dr F (vs.drop n) (ds.drop n)
  | _, _, 0, h => h
  | [], _, n + 1, h => by cases h; exact .nil
  | _ :: _, _, n + 1, h => by
    cases h with
    | cons h1 h2 => exact RpA.drop n h2
theorem RpA.take : ∀ {vs : List V} {ds : List D} (n : Nat), RpA K dr F vs ds → RpA K dr F (vs.take n) (ds.take n)
  | _, _, 0, h => .nil
  | [], _, n + 1, h => by cases h; exact .nil
  | _ :: _, _, n + 1, h => by
    cases h with
    | cons h1 h2 => exact .cons h1 (RpA.take n h2)
end

/-- a slot: nothing known; a value that stands; a thing that the def alone holds; one whose items are held alone too -/
inductive Vl where
  | un | fz (d : D) | ow (d : D) | ow2 (d : D)
abbrev En := List Vl

/-- what an own object holds -/
def Own (K : PySem.W.Frag) (dr : Addr) (F H : Hp) (p : Addr) : D → Prop
  | .lst ds => ∃ xs, H p = some (.lst xs) ∧ RpA K dr F xs ds
  | .dct ks vs => ∃ kvs, H p = some (.dK kvs) ∧ kvs.map (·.1) = ks ∧ RpA K dr F (kvs.map (·.2)) vs
  | .dcT ks vs => ∃ kvs, H p = some (GD Wo.w p kvs) ∧ ks.map nkT = kvs.map (some ·.1) ∧ RpA K dr F (kvs.map (V.ref ·.2.1)) ks ∧ RpA K dr F (kvs.map (·.2.2)) vs
  | .ins c ns vs => ∃ C dx fs, H p = some (.ins C dx fs) ∧ C = He.ga K c ∧ fs.map (·.1) = ns ∧ RpA K dr F (fs.map (·.2)) vs
  | _ => False
/-- own objects, one by one -/
def OwL (K : PySem.W.Frag) (dr : Addr) (F H : Hp) : List Addr → List D → Prop
  | [], [] => True
  | q :: qs, d :: ds => q ≠ dr ∧ F q = none ∧ Own K dr F H q d ∧ OwL K dr F H qs ds
  | _, _ => False
/-- an own object whose items are own objects, at qs -/
def Own2 (K : PySem.W.Frag) (dr : Addr) (F H : Hp) (p : Addr) : D → List Addr → Prop
  | .lst ds, qs => H p = some (.lst (qs.map V.ref)) ∧ OwL K dr F H qs ds
  | .dct ks vs, qs => ∃ kvs, H p = some (.dK kvs) ∧ kvs.map (·.1) = ks ∧ kvs.map (·.2) = qs.map V.ref ∧ OwL K dr F H qs vs
  | .dcT ks vs, qs => ∃ kvs, H p = some (GD Wo.w p kvs) ∧ ks.map nkT = kvs.map (some ·.1) ∧ RpA K dr F (kvs.map (V.ref ·.2.1)) ks ∧ kvs.map (·.2.2) = qs.map V.ref ∧ OwL K dr F H qs vs
  | _, _ => False
/-- a slot; the places that it holds alone -/
def Sl (K : PySem.W.Frag) (dr : Addr) (F : Hp) (H : Hp) : Vl → Option (Option V) → List Addr → Prop
  | .un, _, l => l = []
  | .fz d, o, l => l = [] ∧ ∃ v, o = some (some v) ∧ Rp K dr F v d
  | .ow d, o, l => ∃ p, l = [p] ∧ o = some (some (V.ref p)) ∧ p ≠ dr ∧ F p = none ∧ Own K dr F H p d
  | .ow2 d, o, l => ∃ p qs, l = p :: qs ∧ o = some (some (V.ref p)) ∧ p ≠ dr ∧ F p = none ∧ (p :: qs).Nodup ∧ Own2 K dr F H p d qs
/-- .. without the places -/
def Sl0 (K : PySem.W.Frag) (dr : Addr) (F : Hp) (H : Hp) : Vl → Option (Option V) → Prop
  | .un, _ => True
  | .fz d, o => ∃ v, o = some (some v) ∧ Rp K dr F v d
  | .ow d, o => ∃ p, o = some (some (V.ref p)) ∧ p ≠ dr ∧ F p = none ∧ Own K dr F H p d
  | .ow2 d, o => ∃ p qs, o = some (some (V.ref p)) ∧ p ≠ dr ∧ F p = none ∧ (p :: qs).Nodup ∧ Own2 K dr F H p d qs
theorem Sl.s0 {K : PySem.W.Frag} {dr : Addr} {F H : Hp} {x : Vl} {o : Option (Option V)} {l : List Addr} (h : Sl K dr F H x o l) : Sl0 K dr F H x o := by
  cases x with
  | un => trivial
  | fz d => exact h.2
  | ow d =>
    obtain ⟨p, _, h⟩ := h
    exact ⟨p, h⟩
  | ow2 d =>
    obtain ⟨p, qs, _, h⟩ := h
    exact ⟨p, qs, h⟩
/-- no table of code objects -/
abbrev NoT (o : HO) : Prop := ∀ ps, o ≠ .tbl ps
/-- the heap: F what stands, dr the list of draws (the script at sa, a number) -/
structure Bs (dr sa : Addr) (F : Hp) (H : Hp) : Prop where
  sub : Sub F H
  nod : F dr = none
  ntb : ∀ a o, F a = some o → NoT o
  draw : ∃ n, H dr = some (.lst [.ref sa, .int n])
  scr : ∃ ns o, F sa = some o ∧ ScrO ns o
  tabs : LamX.Tabs Wo.tabs H
/-- the slots and the heap; ft: what each slot holds alone -/
structure SrF (K : PySem.W.Frag) (dr sa : Addr) (F : Hp) (σ : L2.St) (H : Hp) (env : En) (ft : Nat → List Addr) : Prop extends Bs dr sa F H where
  slt : ∀ (i : Nat) (x : Vl), env[i]? = some x → Sl K dr F H x σ[i]? (ft i)
  out : ∀ i : Nat, env[i]? = none → ft i = []
  dsj : ∀ (i j : Nat) (a : Addr), a ∈ ft i → a ∈ ft j → i = j
  len : σ.length = env.length
def Sr (K : PySem.W.Frag) (dr sa : Addr) (F : Hp) (σ : L2.St) (H : Hp) (env : En) : Prop := ∃ ft, SrF K dr sa F σ H env ft
/-- how it goes on: what stands stands, only the draws' number turns and tables grow, new things that stand are new -/
structure Evo (dr sa : Addr) (F H F' H' : Hp) : Prop extends Bs dr sa F' H' where
  fs : Sub F F'
  keep : ∀ a o, a ≠ dr → NoT o → H a = some o → H' a = some o
  kt : ∀ a ps, H a = some (.tbl ps) → ∃ qs, H' a = some (.tbl qs)
  new : ∀ a o, F' a = some o → (∃ u, F a = some u) ∨ H a = none
section
variable {K : PySem.W.Frag} {dr sa : Addr} {F H F' H' F2 H2 : Hp} {σ : L2.St} {env : En} {ft : Nat → List Addr}
theorem Sr.toBs (S : Sr K dr sa F σ H env) : Bs dr sa F H := S.elim fun _ S => S.toBs
theorem SrF.slot (S : SrF K dr sa F σ H env ft) (i : Nat) (x : Vl) (h : env[i]? = some x) : Sl0 K dr F H x σ[i]? := (S.slt i x h).s0
theorem Sr.slot (S : Sr K dr sa F σ H env) (i : Nat) (x : Vl) (h : env[i]? = some x) : Sl0 K dr F H x σ[i]? := S.elim fun _ S => S.slot i x h
theorem Sr.len (S : Sr K dr sa F σ H env) : σ.length = env.length := S.elim fun _ S => S.len
theorem Evo.refl (S : Bs dr sa F H) : Evo dr sa F H F H := ⟨S, Sub.refl F, fun _ _ _ _ h => h, fun _ ps h => ⟨ps, h⟩, fun a o h => .inl ⟨o, h⟩⟩
theorem Evo.none0 (a : Evo dr sa F H F' H') {p : Addr} (nd : p ≠ dr) (h : H' p = none) : H p = none := by
  cases e : H p with
  | none => rfl
  | some u =>
    exfalso
    by_cases t : ∃ ps, u = .tbl ps
    · obtain ⟨ps, rfl⟩ := t
      obtain ⟨qs, z⟩ := a.kt p ps e
      rw [h] at z
      cases z
    · have z := a.keep p u nd (fun ps q => t ⟨ps, q⟩) e
      rw [h] at z
      cases z
theorem Evo.trans (a : Evo dr sa F H F' H') (b : Evo dr sa F' H' F2 H2) : Evo dr sa F H F2 H2 where
  toBs := b.toBs
  fs := a.fs.trans b.fs
  keep := fun x o n t h => b.keep x o n t (a.keep x o n t h)
  kt := fun x ps h => by
    obtain ⟨qs, h1⟩ := a.kt x ps h
    exact b.kt x qs h1
  new := fun x o h => by
    rcases b.new x o h with ⟨u, h1⟩ | h1
    · exact a.new x u h1
    · by_cases q : x = dr
      · rw [q, b.toBs.nod] at h
        cases h
      · exact .inr (a.none0 q h1)
/-- what is not in F but in H stays out -/
theorem Evo.out (a : Evo dr sa F H F' H') {p : Addr} {o : HO} (hf : F p = none) (hh : H p = some o) : F' p = none := by
  cases e : F' p with
  | none => rfl
  | some u =>
    rcases a.new p u e with ⟨w, h⟩ | h
    · rw [hf] at h
      cases h
    · rw [hh] at h
      cases h
theorem Own.there {p : Addr} {d : D} (h : Own K dr F H p d) : ∃ o, H p = some o := by
  cases d with
  | lst ds =>
    obtain ⟨xs, h1, _⟩ := h
    exact ⟨_, h1⟩
  | dct ks vs =>
    obtain ⟨kvs, h1, _⟩ := h
    exact ⟨_, h1⟩
  | dcT ks vs =>
    obtain ⟨kvs, h1, _⟩ := h
    exact ⟨_, h1⟩
  | ins c ns vs =>
    obtain ⟨C, dx, fs, h1, _⟩ := h
    exact ⟨_, h1⟩
  | _ => exact h.elim
theorem gd_noT {w : World} {p : Addr} {kvs : List (NestedKey × Addr × V)} : NoT (GD w p kvs) := fun ps z => by
  unfold GD at z
  cases z
/-- a dict of tuples is no code object -/
theorem gd_noC {w : World} {p : Addr} {kvs : List (NestedKey × Addr × V)} {q : Str} : GD w p kvs ≠ LamX.CodeO p q := fun z => by
  unfold GD LamX.CodeO at z
  injection z with z
  obtain ⟨hh, hob⟩ : ∃ hh : Heap, hh.get? p = some { cls := Value.none, data := Data.fields #[Value.none, Value.str q default] } := by
    refine ⟨⟨Array.replicate (p + 1) { cls := Value.none, data := Data.fields #[Value.none, Value.str q default] }, {}⟩, ?_⟩
    unfold Heap.get?
    simp
  have t := congrFun z hh
  have y : _ := t.mpr ⟨_, _, _, hob, rfl, rfl⟩
  obtain ⟨_, _, _, xs, _, o, es, ep, ho, _, hd, _⟩ := y
  rw [hob] at ho
  cases ho
  cases hd
abbrev NoC (p : Addr) (u : HO) : Prop := ∀ q, u ≠ LamX.CodeO p q
theorem Own.noTC {p : Addr} {d : D} (h : Own K dr F H p d) : ∃ o, H p = some o ∧ NoT o ∧ NoC p o := by
  have nc : ∀ o : HO, (∀ φ, o ≠ .ext φ) → NoC p o := fun o h q z => h _ z
  cases d with
  | lst ds =>
    obtain ⟨xs, h1, _⟩ := h
    exact ⟨_, h1, (fun _ z => nomatch z), nc _ fun _ z => nomatch z⟩
  | dct ks vs =>
    obtain ⟨kvs, h1, _⟩ := h
    exact ⟨_, h1, (fun _ z => nomatch z), nc _ fun _ z => nomatch z⟩
  | dcT ks vs =>
    obtain ⟨kvs, h1, _⟩ := h
    exact ⟨_, h1, gd_noT, fun q => gd_noC⟩
  | ins c ns vs =>
    obtain ⟨C, dx, fs, h1, _⟩ := h
    exact ⟨_, h1, (fun _ z => nomatch z), nc _ fun _ z => nomatch z⟩
  | _ => exact h.elim
/-- the tables stay while other things change -/
theorem tabs_but {T : List (Addr × Str)} {p : Addr} {u o : HO} (h : LamX.Tabs T H) (hp : H p = some u) (nt : NoT u) (nc : NoC p u) : LamX.Tabs T (upd H p o) := fun q hq => by
  obtain ⟨ps, h1, h2, h3⟩ := h q hq
  have ne : q.1 ≠ p := fun z => by
    rw [z, hp] at h1
    exact nt ps (Option.some.inj h1)
  refine ⟨ps, by rw [upd_ne ne]; exact h1, h2, fun pos cv hc => ?_⟩
  obtain ⟨c, e, hco⟩ := h3 pos cv hc
  have nec : c ≠ p := fun z => by
    subst z
    rw [hp] at hco
    exact nc _ (Option.some.inj hco)
  exact ⟨c, e, by rw [upd_ne nec]; exact hco⟩
/-- an own object at p, changed elsewhere alone -/
theorem Own.move {p : Addr} {d : D} (s : Sub F F') (k : ∀ o, NoT o → H p = some o → H' p = some o) (h : Own K dr F H p d) : Own K dr F' H' p d := by
  cases d with
  | lst ds =>
    obtain ⟨xs, h1, h2⟩ := h
    exact ⟨xs, k _ (fun _ z => nomatch z) h1, RpA.mono s ds h2⟩
  | dct ks vs =>
    obtain ⟨kvs, h1, h2, h3⟩ := h
    exact ⟨kvs, k _ (fun _ z => nomatch z) h1, h2, RpA.mono s vs h3⟩
  | dcT ks vs =>
    obtain ⟨kvs, h1, h2, h3, h4⟩ := h
    exact ⟨kvs, k _ gd_noT h1, h2, RpA.mono s ks h3, RpA.mono s vs h4⟩
  | ins c ns vs =>
    obtain ⟨C, dx, fs, h1, h2, h3, h4⟩ := h
    exact ⟨C, dx, fs, k _ (fun _ z => nomatch z) h1, h2, h3, RpA.mono s vs h4⟩
  | _ => exact h.elim
theorem Own.evo {p : Addr} {d : D} (a : Evo dr sa F H F' H') (hp : p ≠ dr) (h : Own K dr F H p d) : Own K dr F' H' p d := h.move a.fs fun o t e => a.keep p o hp t e
theorem OwL.there : ∀ {qs : List Addr} {ds : List D}, OwL K dr F H qs ds → ∀ q ∈ qs, q ≠ dr ∧ F q = none ∧ ∃ o, H q = some o
  | [], _, _, q, h => nomatch h
  | p :: qs, [], h, _, _ => h.elim
  | p :: qs, d :: ds, ⟨h1, h2, h3, h4⟩, q, hq => by
    rcases List.mem_cons.mp hq with rfl | hq
    · exact ⟨h1, h2, h3.there⟩
    · exact OwL.there h4 q hq
theorem OwL.move (s : Sub F F') : ∀ {qs : List Addr} {ds : List D}, (∀ q ∈ qs, F q = none → F' q = none) → (∀ q ∈ qs, ∀ o, NoT o → H q = some o → H' q = some o) → OwL K dr F H qs ds → OwL K dr F' H' qs ds
  | [], [], _, _, h => h
  | [], _ :: _, _, _, h => h.elim
  | p :: qs, [], _, _, h => h.elim
  | p :: qs, d :: ds, f, k, ⟨h1, h2, h3, h4⟩ => ⟨h1, f p (List.mem_cons_self ..) h2, h3.move s (k p (List.mem_cons_self ..)), OwL.move s (fun q hq => f q (List.mem_cons_of_mem _ hq)) (fun q hq => k q (List.mem_cons_of_mem _ hq)) h4⟩
theorem Own2.items {p : Addr} {d : D} {qs : List Addr} (h : Own2 K dr F H p d qs) : ∃ ds, OwL K dr F H qs ds := by
  cases d with
  | lst ds => exact ⟨_, h.2⟩
  | dct ks vs =>
    obtain ⟨kvs, h1, h2, h3, h4⟩ := h
    exact ⟨_, h4⟩
  | dcT ks vs =>
    obtain ⟨kvs, h1, h2, h3, h4, h5⟩ := h
    exact ⟨_, h5⟩
  | _ => exact h.elim
theorem Own2.there {p : Addr} {d : D} {qs : List Addr} (h : Own2 K dr F H p d qs) : ∃ o, H p = some o := by
  cases d with
  | lst ds => exact ⟨_, h.1⟩
  | dct ks vs =>
    obtain ⟨kvs, h1, _⟩ := h
    exact ⟨_, h1⟩
  | dcT ks vs =>
    obtain ⟨kvs, h1, _⟩ := h
    exact ⟨_, h1⟩
  | _ => exact h.elim
theorem Own2.move {p : Addr} {d : D} {qs : List Addr} (s : Sub F F') (f : ∀ q ∈ qs, F q = none → F' q = none) (k : ∀ q ∈ p :: qs, ∀ o, NoT o → H q = some o → H' q = some o) (h : Own2 K dr F H p d qs) : Own2 K dr F' H' p d qs := by
  have kp := k p (List.mem_cons_self ..)
  have kq : ∀ q ∈ qs, ∀ o, NoT o → H q = some o → H' q = some o := fun q hq => k q (List.mem_cons_of_mem _ hq)
  cases d with
  | lst ds => exact ⟨kp _ (fun _ z => nomatch z) h.1, h.2.move s f kq⟩
  | dct ks vs =>
    obtain ⟨kvs, h1, h2, h3, h4⟩ := h
    exact ⟨kvs, kp _ (fun _ z => nomatch z) h1, h2, h3, h4.move s f kq⟩
  | dcT ks vs =>
    obtain ⟨kvs, h1, h2, h3, h4, h5⟩ := h
    exact ⟨kvs, kp _ gd_noT h1, h2, RpA.mono s ks h3, h4, h5.move s f kq⟩
  | _ => exact h.elim
/-- a slot's places: there, and not among what stands -/
theorem Sl.places {x : Vl} {o : Option (Option V)} {l : List Addr} (h : Sl K dr F H x o l) : ∀ a ∈ l, a ≠ dr ∧ F a = none ∧ ∃ u, H a = some u := by
  intro a ha
  cases x with
  | un =>
    rw [show l = [] from h] at ha
    cases ha
  | fz d =>
    rw [h.1] at ha
    cases ha
  | ow d =>
    obtain ⟨p, rfl, h1, h2, h3, h4⟩ := h
    rw [List.mem_singleton.mp ha]
    exact ⟨h2, h3, h4.there⟩
  | ow2 d =>
    obtain ⟨p, qs, rfl, h1, h2, h3, h4, h5⟩ := h
    rcases List.mem_cons.mp ha with rfl | ha
    · exact ⟨h2, h3, h5.there⟩
    · obtain ⟨ds, hd⟩ := h5.items
      exact hd.there a ha
/-- a slot, changed elsewhere alone -/
theorem Sl.move {x : Vl} {o : Option (Option V)} {l : List Addr} (s : Sub F F') (f : ∀ a ∈ l, F' a = none) (k : ∀ a ∈ l, ∀ u, NoT u → H a = some u → H' a = some u) (h : Sl K dr F H x o l) : Sl K dr F' H' x o l := by
  cases x with
  | un => exact h
  | fz d =>
    obtain ⟨h0, v, h1, h2⟩ := h
    exact ⟨h0, v, h1, Rp.mono s d h2⟩
  | ow d =>
    obtain ⟨p, rfl, h1, h2, h3, h4⟩ := h
    exact ⟨p, rfl, h1, h2, f p (List.mem_singleton.mpr rfl), h4.move s (k p (List.mem_singleton.mpr rfl))⟩
  | ow2 d =>
    obtain ⟨p, qs, rfl, h1, h2, h3, h4, h5⟩ := h
    exact ⟨p, qs, rfl, h1, h2, f p (List.mem_cons_self ..), h4, h5.move s (fun q hq _ => f q (List.mem_cons_of_mem _ hq)) k⟩
theorem Sl.evo {x : Vl} {o : Option (Option V)} {l : List Addr} (a : Evo dr sa F H F' H') (h : Sl K dr F H x o l) : Sl K dr F' H' x o l :=
  h.move a.fs (fun b hb => by
    obtain ⟨h1, h2, u, h3⟩ := h.places b hb
    exact a.out h2 h3) fun b hb u t e => a.keep b u (h.places b hb).1 t e
theorem SrF.evo (S : SrF K dr sa F σ H env ft) (a : Evo dr sa F H F' H') : SrF K dr sa F' σ H' env ft :=
  ⟨a.toBs, fun i x h => (S.slt i x h).evo a, S.out, S.dsj, S.len⟩
theorem Sr.evo (S : Sr K dr sa F σ H env) (a : Evo dr sa F H F' H') : Sr K dr sa F' σ H' env := S.elim fun ft S => ⟨ft, S.evo a⟩
/-- what a slot holds is there -/
theorem SrF.at_ft (S : SrF K dr sa F σ H env ft) {i : Nat} {a : Addr} (h : a ∈ ft i) : a ≠ dr ∧ F a = none ∧ ∃ u, H a = some u := by
  cases e : env[i]? with
  | none =>
    rw [S.out i e] at h
    cases h
  | some x => exact (S.slt i x e).places a h
/-- a new object of the heap alone, a new one that stands -/
theorem Bs.f_none (S : Bs dr sa F H) {p : Addr} (hp : H p = none) : F p = none := by
  cases e : F p with
  | none => rfl
  | some u =>
    rw [S.sub p u e] at hp
    cases hp
theorem Bs.dr_ne (S : Bs dr sa F H) {p : Addr} (hp : H p = none) : dr ≠ p := by
  obtain ⟨n, h⟩ := S.draw
  exact ne_of_none h hp
theorem Evo.new1 (S : Bs dr sa F H) {p : Addr} {o : HO} (hp : H p = none) (no : NoT o := by intro _ z; cases z) : Evo dr sa F H (upd F p o) (upd H p o) := by
  have fp := S.f_none hp
  have hd := S.dr_ne hp
  refine ⟨⟨fun a u h => ?_, ?_, fun a u h => ?_, ?_, ?_, ?_⟩, fun a u h => ?_, fun a u n t h => ?_, fun a ps h => ⟨ps, ?_⟩, fun a u h => ?_⟩
  · by_cases q : a = p
    · subst q
      rw [upd_same] at h ⊢
      exact h
    · rw [upd_ne q] at h ⊢
      exact S.sub a u h
  · rw [upd_ne hd]
    exact S.nod
  · by_cases q : a = p
    · rw [q, upd_same] at h
      cases h
      exact no
    · rw [upd_ne q] at h
      exact S.ntb a u h
  · obtain ⟨n, h⟩ := S.draw
    exact ⟨n, by rw [upd_ne hd]; exact h⟩
  · obtain ⟨ns, u, h, k⟩ := S.scr
    exact ⟨ns, u, by rw [upd_ne (ne_of_none h fp)]; exact h, k⟩
  · exact S.tabs.ext fun b u h => by rw [upd_ne (ne_of_none h hp)]; exact h
  · rw [upd_ne (ne_of_none h fp)]
    exact h
  · rw [upd_ne (ne_of_none h hp)]
    exact h
  · rw [upd_ne (ne_of_none h hp)]
    exact h
  · by_cases q : a = p
    · subst q
      exact .inr hp
    · rw [upd_ne q] at h
      exact .inl ⟨u, h⟩
end
end U
/-! U2: judgements: a piece of syntax and its plain reading, over data. -/
namespace U
open PySem PySem.Spec PyProof.Rows L2
variable [Wo]

/-- what is wanted of an error: its class, its fields -/
abbrev XP := Str → List Str → List D → Prop
abbrev WE := En → (D → Prop) → XP → Prop
abbrev WT := En → (Bool → Prop) → XP → Prop
abbrev WA := En → (List D → Prop) → XP → Prop

abbrev RK := PySem.W.Frag → Addr → Hp → Hp → V → D → Prop
/-- a value that stands -/
def RF : RK := fun K dr F _ v d => Rp K dr F v d
/-- a value that can be read: it stands, or it is an object of the def's own -/
def RO : RK := fun K dr F H v d => Rp K dr F v d ∨ ∃ p, v = .ref p ∧ p ≠ dr ∧ F p = none ∧ Own K dr F H p d

/-- an exception's own dict -/
def XD (K : PySem.W.Frag) (dr : Addr) (F H : Hp) (ns : List Str) (vs : List D) : Option Addr → Prop
  | none => ns = []
  | some q => ∃ fs, H q = some (.xd fs) ∧ fs.map (·.1) = ns ∧ RpA K dr F (fs.map (·.2)) vs
def xw (E : XK) (K : PySem.W.Frag) (dr sa : Addr) (F H : Hp) : XP := fun c ns vs => ∀ F' H' oe, Evo dr sa F H F' H' → XD K dr F' H' ns vs oe → E (.ref (He.ga K c)) oe H'

def tG (R : RK) (E : XK) (K : PySem.W.Frag) (w : WE) : TE := fun σ H Q => ∃ dr sa F env, Sr K dr sa F σ H env ∧
  w env (fun d => ∀ v F' H', Evo dr sa F H F' H' → R K dr F' H' v d → Q v H') (xw E K dr sa F H)
def tGT (E : XK) (K : PySem.W.Frag) (w : WT) : TT := fun σ H Q => ∃ dr sa F env, Sr K dr sa F σ H env ∧
  w env (fun b => ∀ F' H', Evo dr sa F H F' H' → Q b H') (xw E K dr sa F H)
def tGA (E : XK) (K : PySem.W.Frag) (w : WA) : TA := fun σ H Q => ∃ dr sa F env, Sr K dr sa F σ H env ∧
  w env (fun ds => ∀ vs F' H', Evo dr sa F H F' H' → RpA K dr F' vs ds → Q vs H') (xw E K dr sa F H)

structure UG (R : RK) (X : Cx) (E : XK) (e : Expr) (w : WE) : Prop where
  pe : PE X e (tG R E X.K w)
  mono : ∀ env (Q Q' : D → Prop) (x x' : XP), (∀ d, Q d → Q' d) → (∀ c n v, x c n v → x' c n v) → w env Q x → w env Q' x'
abbrev UE := UG RF
abbrev UO := UG RO
structure UT (X : Cx) (E : XK) (e : Expr) (w : WT) : Prop where
  pe : PT X e (tGT E X.K w)
  mono : ∀ env (Q Q' : Bool → Prop) (x x' : XP), (∀ d, Q d → Q' d) → (∀ c n v, x c n v → x' c n v) → w env Q x → w env Q' x'
structure UA (X : Cx) (E : XK) (es : List Expr) (w : WA) : Prop where
  pe : PA X es (tGA E X.K w)
  mono : ∀ env (Q Q' : List D → Prop) (x x' : XP), (∀ d, Q d → Q' d) → (∀ c n v, x c n v → x' c n v) → w env Q x → w env Q' x'

section
variable {K : PySem.W.Frag} {dr sa : Addr} {F H F' H' F2 H2 : Hp} {E : XK}
theorem RO.evo {v : V} {d : D} (a : Evo dr sa F H F' H') (h : RO K dr F H v d) : RO K dr F' H' v d := by
  rcases h with h | ⟨p, h1, h2, h3, h4⟩
  · exact .inl (Rp.mono a.fs d h)
  · obtain ⟨u, hu⟩ := h4.there
    exact .inr ⟨p, h1, h2, a.out h3 hu, h4.evo a h2⟩
theorem xw.evo (a : Evo dr sa F H F' H') {c : Str} {ns : List Str} {vs : List D} (h : xw E K dr sa F H c ns vs) : xw E K dr sa F' H' c ns vs := fun F2 H2 oe b => h F2 H2 oe (a.trans b)
end

/-- a reading changed for a stronger one -/
theorem PE.wk {X : Cx} {e : Expr} {t t' : TE} (h : PE X e t) (k : ∀ σ H Q, t' σ H Q → t σ H Q) : PE X e t' := ⟨fun pins s σ H Q I q => h.run pins s σ H Q I (k σ H Q q)⟩
theorem PT.wk {X : Cx} {e : Expr} {t t' : TT} (h : PT X e t) (k : ∀ σ H Q, t' σ H Q → t σ H Q) : PT X e t' := ⟨fun pins s σ H Q I q => h.run pins s σ H Q I (k σ H Q q)⟩
theorem PA.wk {X : Cx} {es : List Expr} {t t' : TA} (h : PA X es t) (k : ∀ σ H Q, t' σ H Q → t σ H Q) : PA X es t' := ⟨fun pos pins s σ H Q I q => h.run pos pins s σ H Q I (k σ H Q q)⟩

section
variable {X : Cx} {E : XK} {e a b : Expr} {R : RK}
theorem UE.o {w : WE} (h : UE X E e w) : UO X E e w := ⟨PE.wk h.pe fun σ H Q ⟨dr, sa, F, env, S, q⟩ => ⟨dr, sa, F, env, S, h.mono env _ _ _ _ (fun d k v F' H' ev r => k v F' H' ev (.inl r)) (fun _ _ _ z => z) q⟩, h.mono⟩

/-! ### names and constants -/
/-- the slot's value, if it stands -/
def wVar (i : Nat) : WE := fun env Q _ => ∃ d, env[i]? = some (.fz d) ∧ Q d
theorem ue_var (i : Nat) {x : Str} {pos : Pos} (h : PE X (.Name x pos) (tVar i)) : UE X E (.Name x pos) (wVar i) :=
  ⟨PE.wk h fun σ H Q ⟨dr, sa, F, env, S, d, e, q⟩ => by
    obtain ⟨v, h1, h2⟩ := S.slot i _ e
    exact ⟨v, h1, q v F H (Evo.refl S.toBs) h2⟩, fun env Q Q' x x' k _ ⟨d, e, q⟩ => ⟨d, e, k d q⟩⟩
/-- .. or of the def's own -/
def wVarO (i : Nat) : WE := fun env Q _ => ∃ d, (env[i]? = some (.fz d) ∨ env[i]? = some (.ow d)) ∧ Q d
theorem uo_var (i : Nat) {x : Str} {pos : Pos} (h : PE X (.Name x pos) (tVar i)) : UO X E (.Name x pos) (wVarO i) :=
  ⟨PE.wk h fun σ H Q ⟨dr, sa, F, env, S, d, e, q⟩ => by
    rcases e with e | e
    · obtain ⟨v, h1, h2⟩ := S.slot i _ e
      exact ⟨v, h1, q v F H (Evo.refl S.toBs) (.inl h2)⟩
    · obtain ⟨p, h1, h2, h3, h4⟩ := S.slot i _ e
      exact ⟨.ref p, h1, q (.ref p) F H (Evo.refl S.toBs) (.inr ⟨p, rfl, h2, h3, h4⟩)⟩, fun env Q Q' x x' k _ ⟨d, e, q⟩ => ⟨d, e, k d q⟩⟩
def wC (d : D) : WE := fun _ Q _ => Q d
theorem ue_c {v : V} {d : D} (h : PE X e (tC v)) (r : ∀ dr F, Rp X.K dr F v d) : UE X E e (wC d) :=
  ⟨PE.wk h fun σ H Q ⟨dr, sa, F, env, S, q⟩ => q v F H (Evo.refl S.toBs) (r dr F), fun env Q Q' x x' k _ q => k d q⟩
theorem ue_int {i j pos} : UE X E (.Constant (.int i) j pos) (wC (.int i)) := ue_c pe_int fun _ _ => .int i
theorem ue_str {z j pos} : UE X E (.Constant (.str z) j pos) (wC (.str z)) := ue_c pe_str fun _ _ => .str z
theorem ue_bl {z j pos} : UE X E (.Constant (.bool z) j pos) (wC (.bl z)) := ue_c pe_bl fun _ _ => .bl z
theorem ue_non {j pos} : UE X E (.Constant .none j pos) (wC .non) := ue_c pe_non fun _ _ => .non

/-! ### operators by values -/
/-- what an operator asks of data, over a rule by values -/
def OpD (X : Cx) (r : R2) (o : D → D → (D → Prop) → Prop) : Prop := ∀ dr sa F H x y d1 d2 (Q : VK), Bs dr sa F H → RO X.K dr F H x d1 → RO X.K dr F H y d2 → o d1 d2 (fun d => ∀ v F' H', Evo dr sa F H F' H' → Rp X.K dr F' v d → Q v H') → r x y H Q
def wOp (o : D → D → (D → Prop) → Prop) (w1 w2 : WE) : WE := fun env Q x => w1 env (fun d1 => w2 env (fun d2 => o d1 d2 Q) x) x
theorem ue_op2 {r : R2} {t : TE → TE → TE} {o : D → D → (D → Prop) → Prop} {w1 w2 : WE} (hr : OpD X r o) (om : ∀ d1 d2 (Q Q' : D → Prop), (∀ d, Q d → Q' d) → o d1 d2 Q → o d1 d2 Q') (ha : UO X E a w1) (hb : UO X E b w2) (h : PE X e (tOp r (tG RO E X.K w1) (tG RO E X.K w2))) : UE X E e (wOp o w1 w2) := by
  refine ⟨PE.wk h fun σ H Q ⟨dr, sa, F, env, S, q⟩ => ?_, fun env Q Q' x x' k kx q => ha.mono env _ _ _ _ (fun d1 q1 => hb.mono env _ _ _ _ (fun d2 q2 => om d1 d2 _ _ k q2) kx q1) kx q⟩
  refine ⟨dr, sa, F, env, S, ha.mono env _ _ _ _ (fun d1 q1 v1 F1 H1 e1 r1 => ?_) (fun _ _ _ z => z) q⟩
  refine ⟨dr, sa, F1, env, S.evo e1, hb.mono env _ _ _ _ (fun d2 q2 v2 F2 H2 e2 r2 => ?_) (fun _ _ _ z => z.evo e1) q1⟩
  exact hr dr sa F2 H2 v1 v2 d1 d2 Q e2.toBs (r1.evo e2) r2 (om d1 d2 _ _ (fun d q3 v F' H' e3 r3 => q3 v F' H' ((e1.trans e2).trans e3) r3) q2)
/-- + - and their kin, on ints -/
def oInt (C : Int → Int → Prop) (g : Int → Int → D) : D → D → (D → Prop) → Prop := fun d1 d2 Q => ∃ i j, d1 = .int i ∧ d2 = .int j ∧ C i j ∧ Q (g i j)
theorem ro_int {K : PySem.W.Frag} {dr : Addr} {F H : Hp} {v : V} {i : Int} (h : RO K dr F H v (.int i)) : v = .int i := by
  rcases h with h | ⟨p, _, _, _, h⟩
  · cases h
    rfl
  · exact h.elim
theorem opd_int {C : Int → Int → Prop} {g : Int → Int → V} {g' : Int → Int → D} (hg : ∀ i j dr F, Rp X.K dr F (g i j) (g' i j)) : OpD X (rI C g) (oInt C g') := by
  rintro dr sa F H x y d1 d2 Q B r1 r2 ⟨i, j, rfl, rfl, c, q⟩
  exact ⟨i, j, ro_int r1, ro_int r2, c, q _ F H (Evo.refl B) (hg i j dr F)⟩
theorem opd_int0 {g : Int → Int → V} {g' : Int → Int → D} (hg : ∀ i j dr F, Rp X.K dr F (g i j) (g' i j)) : OpD X (rI0 g) (oInt (fun _ _ => True) g') := by
  rintro dr sa F H x y d1 d2 Q B r1 r2 ⟨i, j, rfl, rfl, c, q⟩
  exact ⟨i, j, ro_int r1, ro_int r2, q _ F H (Evo.refl B) (hg i j dr F)⟩
theorem oInt_mono {C : Int → Int → Prop} {g : Int → Int → D} : ∀ d1 d2 (Q Q' : D → Prop), (∀ d, Q d → Q' d) → oInt C g d1 d2 Q → oInt C g d1 d2 Q' := fun d1 d2 Q Q' k ⟨i, j, e1, e2, c, q⟩ => ⟨i, j, e1, e2, c, k _ q⟩
abbrev wAdd := wOp (oInt (fun _ _ => True) fun i j => .int (i + j))
theorem ue_add {w1 w2 : WE} {pos : Pos} (ha : UO X E a w1) (hb : UO X E b w2) : UE X E (.BinOp a .Add b pos) (wAdd w1 w2) :=
  ue_op2 (t := fun a _ => a) (opd_int0 fun i j dr F => .int _) oInt_mono ha hb (pe_op op_add ha.pe hb.pe)
end
end U
/-! UG: dicts whose keys are tuples, nested: what the model does with them. -/
namespace U
open PySem PySem.Spec PyProof.Rows L2
/-! ### keys in the abstract heap -/
mutual
inductive NkH (H : Hp) : V → NestedKey → Prop
  | non : NkH H .non .none
  | bl (b : Bool) : NkH H (.bl b) (.num (if b = true then 1 else 0))
  | int (i : Int) : NkH H (.int i) (.num i)
  | str (x : Str) : NkH H (.str x) (.text x)
  | tup {a : Addr} {xs : List V} {ks : List NestedKey} : H a = some (.tup xs) → NkHA H xs ks → NkH H (.ref a) (.tup ks)
inductive NkHA (H : Hp) : List V → List NestedKey → Prop
  | nil : NkHA H [] []
  | cons {v : V} {vs : List V} {k : NestedKey} {ks : List NestedKey} : NkH H v k → NkHA H vs ks → NkHA H (v :: vs) (k :: ks)
end
section
variable {P : Program} {w : World} {H : Hp} {h : Heap}
mutual
theorem NkH.is (ok : HOk P w H h) : ∀ (k : NestedKey) {v : V} {u : Value}, NkH H v k → RelV v u → NestedIs h k u
  | .none, _, _, n, r => by
    cases n
    rw [show _ = Value.none from r]
    exact .none
  | .num i, _, _, n, r => by
    cases n with
    | bl b =>
      rw [show _ = Value.bool b from r]
      exact .bool rfl
    | int i =>
      obtain ⟨t, rfl⟩ := (show ∃ t, _ = Value.int i t from r)
      exact .int _ _
  | .text x, _, _, n, r => by
    cases n
    obtain ⟨t, rfl⟩ := (show ∃ t, _ = Value.str x t from r)
    exact .text _ _
  | .tup ks, _, _, n, r => by
    cases n with
    | @tup a xs _ h1 h2 =>
      rw [show _ = Value.ref a from r]
      obtain ⟨_, its, rv, o, ho, hc, m, hd⟩ := ok a _ h1
      exact .tup ho hc hd (by simpa using NkHA.is ok ks h2 rv)
theorem NkHA.is (ok : HOk P w H h) : ∀ (ks : List NestedKey) {vs : List V} {us : List Value}, NkHA H vs ks → Vals vs us → NestedAll h ks us
  | [], _, _, n, r => by
    cases n
    cases r
    exact .nil
  | k :: ks, _, _, n, r => by
    cases n with
    | cons n1 n2 =>
      cases r with
      | cons r1 r2 => exact .cons (NkH.is ok k n1 r1) (NkHA.is ok ks n2 r2)
end
end
section
variable {H H' : Hp}
mutual
theorem NkH.ext (e : ∀ a xs, H a = some (.tup xs) → H' a = some (.tup xs)) : ∀ (k : NestedKey) {v : V}, NkH H v k → NkH H' v k
  | .none, _, n => by cases n; exact .non
  | .num i, _, n => by
    cases n with
    | bl b => exact .bl b
    | int i => exact .int i
  | .text x, _, n => by cases n; exact .str x
  | .tup ks, _, n => by
    cases n with
    | tup h1 h2 => exact .tup (e _ _ h1) (NkHA.ext e ks h2)
theorem NkHA.ext (e : ∀ a xs, H a = some (.tup xs) → H' a = some (.tup xs)) : ∀ (ks : List NestedKey) {vs : List V}, NkHA H vs ks → NkHA H' vs ks
  | [], _, n => by cases n; exact .nil
  | k :: ks, _, n => by
    cases n with
    | cons h1 h2 => exact .cons (NkH.ext e k h1) (NkHA.ext e ks h2)
end
end
section
variable [Wo] {K : PySem.W.Frag} {dr : Addr} {F H : Hp}
mutual
theorem nk_of (s : Sub F H) : ∀ (d : D) {v : V} {k : NestedKey}, Rp K dr F v d → nkD d = some k → NkH H v k
  | .non, _, _, r, e => by
    cases r
    cases e
    exact .non
  | .bl b, _, _, r, e => by
    cases r
    cases e
    exact .bl b
  | .int i, _, _, r, e => by
    cases r
    cases e
    exact .int i
  | .str x, _, _, r, e => by
    cases r
    cases e
    exact .str x
  | .tup ds, _, k, r, e => by
    unfold nkD at e
    cases q : nkA ds with
    | none =>
      rw [q] at e
      cases e
    | some ks =>
      rw [q] at e
      cases e
      cases r with
      | tup h1 h2 => exact .tup (s _ _ h1) (nkA_of s ds h2 q)
  | .lst _, _, _, _, e => nomatch e
  | .dct _ _, _, _, _, e => nomatch e
  | .dcT _ _, _, _, _, e => nomatch e
  | .ins _ _ _, _, _, _, e => nomatch e
  | .drw, _, _, _, e => nomatch e
  | .ty _, _, _, _, e => nomatch e
  | .cls _, _, _, _, e => nomatch e
  | .scr _, _, _, _, e => nomatch e
  | .lam _, _, _, _, e => nomatch e
theorem nkA_of (s : Sub F H) : ∀ (ds : List D) {vs : List V} {ks : List NestedKey}, RpA K dr F vs ds → nkA ds = some ks → NkHA H vs ks
  | [], _, _, r, e => by
    cases r
    cases e
    exact .nil
  | d :: ds, _, ks, r, e => by
    unfold nkA at e
    cases q : nkD d with
    | none =>
      rw [q] at e
      cases e
    | some k =>
      cases q2 : nkA ds with
      | none =>
        rw [q, q2] at e
        cases e
      | some ks2 =>
        rw [q, q2] at e
        cases e
        cases r with
        | cons r1 r2 => exact .cons (nk_of s d r1 q) (nkA_of s ds r2 q2)
end
theorem nkT_iff {d : D} {k : NestedKey} (h : nkT d = some k) : nkD d = some k ∧ k.depth ≤ 8 ∧ ∃ ds, d = .tup ds := by
  cases d <;> first | cases h; done | skip
  rename_i ds
  have h : (match nkD (.tup ds) with
    | some k => if k.depth ≤ 8 then some k else none
    | none => none) = some k := h
  cases q : nkD (.tup ds) with
  | none =>
    rw [q] at h
    cases h
  | some k2 =>
    rw [q] at h
    by_cases c : k2.depth ≤ 8
    · have h : (if k2.depth ≤ 8 then some k2 else none) = some k := h
      rw [if_pos c] at h
      cases h
      exact ⟨rfl, c, ds, rfl⟩
    · have h : (if k2.depth ≤ 8 then some k2 else none) = some k := h
      rw [if_neg c] at h
      cases h
/-- a key that stands, by its place -/
theorem nkT_of (s : Sub F H) {d : D} {v : V} {k : NestedKey} (r : Rp K dr F v d) (e : nkT d = some k) : ∃ b, v = .ref b ∧ NkH H v k ∧ k.depth ≤ 8 := by
  obtain ⟨h1, h2, ds, rfl⟩ := nkT_iff e
  have n := nk_of s _ r h1
  cases r with
  | tup g1 g2 => exact ⟨_, rfl, n, h2⟩
end
/-! ### the dict's pairs -/
abbrev GKV := List (NestedKey × Addr × V)
def valG (kvs : GKV) (k : NestedKey) : Option V := (kvs.find? fun x => decide (x.1 = k)).map (·.2.2)
def putG (kvs : GKV) (k : NestedKey) (b : Addr) (v : V) : GKV := if (kvs.any fun x => decide (x.1 = k)) = true then kvs.map fun x => if x.1 = k then (x.1, x.2.1, v) else x else kvs ++ [(k, b, v)]
abbrev RelG (p : NestedKey × Addr × V) (q : NestedKey × Addr × Value) : Prop := p.1 = q.1 ∧ p.2.1 = q.2.1 ∧ RelV p.2.2 q.2.2
/-- the keys of a dict are keys -/
def KeysG (H : Hp) (kvs : GKV) : Prop := ∀ p ∈ kvs, NkH H (.ref p.2.1) p.1 ∧ p.1.depth ≤ 8
theorem relG_at {k : NestedKey} : ∀ {kvs : GKV} {xs : List (NestedKey × Addr × Value)}, Paired RelG kvs xs → (atKey xs k).isSome = (valG kvs k).isSome ∧ ∀ v, valG kvs k = some v → ∃ p, atKey xs k = some p ∧ RelV v p.2
  | _, _, .nil => ⟨rfl, fun v e => nomatch e⟩
  | _, _, .cons (a := p) (b := q) (l₁ := kvs) (l₂ := xs) r t => by
    obtain ⟨h1, h2, h3⟩ := r
    obtain ⟨i1, i2⟩ := relG_at (k := k) t
    unfold atKey valG at *
    rw [List.find?_cons, List.find?_cons]
    by_cases c : p.1 = k
    · rw [decide_eq_true c, decide_eq_true (h1 ▸ c)]
      exact ⟨rfl, fun v e => by cases e; exact ⟨_, rfl, h3⟩⟩
    · rw [decide_eq_false c, decide_eq_false (fun z => c (h1.trans z))]
      exact ⟨i1, i2⟩
theorem relG_any {k : NestedKey} : ∀ {kvs : GKV} {xs : List (NestedKey × Addr × Value)}, Paired RelG kvs xs → (kvs.any fun x => decide (x.1 = k)) = (atKey xs k).isSome
  | _, _, .nil => rfl
  | _, _, .cons (a := p) (b := q) (l₁ := kvs) (l₂ := xs) r t => by
    have ih := relG_any (k := k) t
    unfold atKey at *
    rw [List.find?_cons, List.any_cons]
    by_cases c : p.1 = k
    · rw [decide_eq_true c, decide_eq_true (r.1 ▸ c)]
      rfl
    · rw [decide_eq_false c, decide_eq_false (fun z => c (r.1.trans z)), Bool.false_or]
      exact ih
theorem relG_app : ∀ {a c : GKV} {b d : List (NestedKey × Addr × Value)}, Paired RelG a b → Paired RelG c d → Paired RelG (a ++ c) (b ++ d)
  | _, _, _, _, .nil, h => h
  | _, _, _, _, .cons r t, h => .cons r (relG_app t h)
theorem relG_keys : ∀ {kvs : GKV} {xs : List (NestedKey × Addr × Value)}, Paired RelG kvs xs → kvs.map (·.1) = xs.map (·.1)
  | _, _, .nil => rfl
  | _, _, .cons r t => by rw [List.map_cons, List.map_cons, r.1, relG_keys t]
theorem relG_map {k : NestedKey} {v : V} {r : Value} (rv : RelV v r) : ∀ {kvs : GKV} {xs : List (NestedKey × Addr × Value)}, Paired RelG kvs xs → Paired RelG (kvs.map fun x => if x.1 = k then (x.1, x.2.1, v) else x) (xs.map (putAt k r))
  | _, _, .nil => .nil
  | _, _, .cons (a := p) (b := q) h t => by
    refine .cons ?_ (relG_map rv t)
    show RelG (if p.1 = k then (p.1, p.2.1, v) else p) (if q.1 = k then (q.1, q.2.1, r) else q)
    by_cases c : p.1 = k
    · rw [if_pos c, if_pos (h.1 ▸ c)]
      exact ⟨h.1, h.2.1, rv⟩
    · rw [if_neg c, if_neg (fun z => c (h.1.trans z))]
      exact h
theorem relG_put {k : NestedKey} {b : Addr} {v : V} {r : Value} (rv : RelV v r) {kvs : GKV} {xs : List (NestedKey × Addr × Value)} (t : Paired RelG kvs xs) : Paired RelG (putG kvs k b v) (storedH xs k b r) := by
  have e := relG_any (k := k) t
  unfold putG
  cases c : (atKey xs k) with
  | some p =>
    rw [c] at e
    have e : (kvs.any fun x => decide (x.1 = k)) = true := e
    rw [if_pos e, storedH_old c]
    exact relG_map rv t
  | none =>
    rw [c] at e
    rw [if_neg (by rw [e]; simp), storedH_new c]
    exact relG_app t (.cons ⟨rfl, rfl, rv⟩ .nil)
theorem putG_len (kvs : GKV) (k : NestedKey) (b : Addr) (v : V) : (putG kvs k b v).length ≤ kvs.length + 1 := by
  unfold putG
  split
  · rw [List.length_map]
    omega
  · rw [List.length_append]
    exact Nat.le_refl _
theorem KeysG.put {H : Hp} {kvs : GKV} {k : NestedKey} {b : Addr} {v : V} (h : KeysG H kvs) (n : NkH H (.ref b) k) (hd : k.depth ≤ 8) : KeysG H (putG kvs k b v) := by
  intro p hp
  unfold putG at hp
  split at hp
  · obtain ⟨q, hq, e⟩ := List.mem_map.mp hp
    by_cases c : q.1 = k
    · rw [if_pos c] at e
      subst e
      exact h q hq
    · rw [if_neg c] at e
      subst e
      exact h q hq
  · rcases List.mem_append.mp hp with hp | hp
    · exact h p hp
    · cases List.mem_singleton.mp hp
      exact ⟨n, hd⟩
/-! ### the model's steps -/
section
variable {X : Cx} {pins : List (Addr × Obj)} {σ : L2.St} {H : Hp} {s : Shared} {a b : Addr} {kvs : GKV} {k : NestedKey} {A : Around} {E : Value → Shared → Prop} {v : V}
theorem keysG_is (ok : HOk X.prog X.w H s.heap) : ∀ {kvs : GKV} {xs : List (NestedKey × Addr × Value)}, KeysG H kvs → Paired RelG kvs xs → ∀ x ∈ xs, (nestedKind X.prog X.w).is s.heap x.1 x.2.1
  | _, _, _, .nil, x, hx => nomatch hx
  | _, _, hk, .cons r t, x, hx => by
    rcases List.mem_cons.mp hx with rfl | hx
    · obtain ⟨n, hd⟩ := hk _ (List.mem_cons_self ..)
      rw [← r.1, ← r.2.1]
      exact ⟨n.is ok _ rfl, hd⟩
    · exact keysG_is ok (fun p hp => hk p (List.mem_cons_of_mem _ hp)) t x hx
theorem gd_at (ok : HOk X.prog X.w H s.heap) (e : Rd H a (GD X.w a kvs)) (hk : KeysG H kvs) : kvs.length ≤ sizeLine ∧ (a == sysModules) = false ∧ ∃ xs, Paired RelG kvs xs ∧ s.heap.DictOfH (nestedKind X.prog X.w) a xs := by
  obtain ⟨⟨h1, h2, nd, xs, rel, o, es, ep, ho, he, hd, hl⟩, _⟩ := e.ok ok
  refine ⟨h1, h2, xs, rel, o, es, ep, ho, he, hd, hl, keysG_is ok hk rel, ?_⟩
  rw [← relG_keys rel]
  exact nd
theorem g_getItem {Q : Value → Shared → Prop} (hu : A.units + 9 < cLine) (I : Inv X pins σ H s) (e : Rd H a (GD X.w a kvs)) (hk : KeysG H kvs) (n : NkH H (.ref b) k) (hd : k.depth ≤ 8) (hv : valG kvs k = some v) (h : ∀ w' s', Inv X pins σ H s' → RelV v w' → Q w' s') :
    wpAny (model X.prog X.w) A (getItem (.ref a) (.ref b)) Q E s := by
  obtain ⟨_, _, xs, rel, dd⟩ := gd_at I.hok e hk
  obtain ⟨p, hp, rp⟩ := (relG_at rel).2 v hv
  exact wpAny_getItem_heap (knd := nestedKind X.prog X.w) (by show A.in1.units + 8 < cLine; show A.units + 1 + 8 < cLine; omega) ⟨n.is I.hok _ rfl, hd⟩ dd hp (h _ _ (I.tok _) rp)
theorem g_in {Q : Value → Shared → Prop} (hu : A.units + 9 < cLine) (I : Inv X pins σ H s) (e : Rd H a (GD X.w a kvs)) (hk : KeysG H kvs) (n : NkH H (.ref b) k) (hd : k.depth ≤ 8) (h : ∀ s', Inv X pins σ H s' → Q (.bool (valG kvs k).isSome) s') :
    wpAny (model X.prog X.w) A (compareOp .In (.ref b) (.ref a)) Q E s := by
  obtain ⟨_, hs, xs, rel, dd⟩ := gd_at I.hok e hk
  have z := (relG_at (k := k) rel).1
  exact wpAny_in_heap (knd := nestedKind X.prog X.w) (by show A.units + 1 + 8 < cLine; omega) ⟨n.is I.hok _ rfl, hd⟩ hs dd (by rw [z]; exact h _ (I.tok _))
theorem g_notIn {Q : Value → Shared → Prop} (hu : A.units + 9 < cLine) (I : Inv X pins σ H s) (e : Rd H a (GD X.w a kvs)) (hk : KeysG H kvs) (n : NkH H (.ref b) k) (hd : k.depth ≤ 8) (h : ∀ s', Inv X pins σ H s' → Q (.bool (!(valG kvs k).isSome)) s') :
    wpAny (model X.prog X.w) A (compareOp .NotIn (.ref b) (.ref a)) Q E s := by
  obtain ⟨_, hs, xs, rel, dd⟩ := gd_at I.hok e hk
  have z := (relG_at (k := k) rel).1
  exact PyProof.Rows.wpAny_notIn_heap (knd := nestedKind X.prog X.w) (by show A.units + 1 + 8 < cLine; omega) ⟨n.is I.hok _ rfl, hd⟩ hs dd (by rw [z]; exact h _ (I.tok _))
theorem g_setItem {Q : Unit → Shared → Prop} {r : Value} (hu : A.units + 9 < cLine) (I : Inv X pins σ H s) (e : H a = some (GD X.w a kvs)) (hk : KeysG H kvs) (n : NkH H (.ref b) k) (hd : k.depth ≤ 8) (hl : kvs.length < sizeLine) (rv : RelV v r) (h : ∀ s', Inv X pins σ (upd H a (GD X.w a (putG kvs k b v))) s' → Q () s') :
    wpAny (model X.prog X.w) A (setItem (.ref a) (.ref b) r) Q E s := by
  obtain ⟨hz, hs, xs, rel, dd⟩ := gd_at I.hok (.inl e) hk
  have hx : xs.length ≤ sizeLine := by rw [← Paired.length rel]; exact hz
  refine wpAny_setItem_heap (hsz := hx) (knd := nestedKind X.prog X.w) (by show A.units + 1 + 8 < cLine; omega) ⟨n.is I.hok _ rfl, hd⟩ dd fun h' dd' hb => h _ ?_
  obtain ⟨q, es, ep, hq, h2, h3, h4, _, h5⟩ := dd'
  have rel' := relG_put (k := k) (b := b) rv rel
  have em := relG_keys rel'
  refine d_write I (by rw [e]; exact True.intro) hb ⟨q, hq⟩ ⟨⟨?_, hs, by rw [em]; exact h5, _, rel', q, es, ep, hq, h2, h3, h4⟩, ⟨q, hq⟩, ?_⟩
  · have := putG_len kvs k b v
    omega
  · rintro h1 h2 ⟨z1, z2, z3, ys, z4, o, es, ep, ho, z5⟩ st
    exact ⟨z1, z2, z3, ys, z4, o, es, ep, st _ ho, z5⟩
theorem g_len {Q : Value → Shared → Prop} (I : Inv X pins σ H s) (e : Rd H a (GD X.w a kvs)) (hk : KeysG H kvs) (h : ∀ t s', Inv X pins σ H s' → Q (.int kvs.length t) s') : wpAny (model X.prog X.w) A (call (.builtin "len") [.ref a]) Q E s := by
  obtain ⟨hz, hs, xs, rel, dd⟩ := gd_at I.hok e hk
  refine call_len_dictH hs dd (by rw [← Paired.length rel]; rw [sizeLine_eq] at hz; omega) ?_
  rw [← Paired.length rel]
  exact h _ _ (I.tok _)
end
end U
/-! U3: operators on data of any kind. -/
namespace U
open PySem PySem.Spec PyProof.Rows L2
variable [Wo]

theorem OpR.or {X : Cx} {f : Value → Value → Sem Value} {r r' : R2} (h : OpR X f r) (h' : OpR X f r') : OpR X f (fun x y H Q => r x y H Q ∨ r' x y H Q) := fun pins s σ H x y v u Q I rx ry q => q.elim (h pins s σ H x y v u Q I rx ry) (h' pins s σ H x y v u Q I rx ry)

/-! ### data of the library -/
mutual
def pd : D → PyData
  | .non => .none
  | .bl b => .bool b
  | .int i => .int i
  | .str s => .str s
  | .tup xs => .tuple (pdA xs)
  | .lst xs => .list (pdA xs)
  | .scr ns => .list (ns.map .int)
  | _ => .dict []
def pdA : List D → List PyData
  | [] => []
  | d :: ds => pd d :: pdA ds
end
mutual
def okd : D → Bool
  | .non => true
  | .bl _ => true
  | .int _ => true
  | .str _ => true
  | .tup xs => okdA xs
  | .lst xs => okdA xs
  | .scr _ => true
  | _ => false
def okdA : List D → Bool
  | [] => true
  | d :: ds => okd d && okdA ds
end
/-- data that == compares by itself: no dicts, no instances, not too deep -/
def cmp (d : D) : Bool := okd d && SeqAt.shaped (pd d)
def eqD (d e : D) : Bool := PyData.eqv (pd d) (pd e)

section
variable {K : PySem.W.Frag} {dr sa : Addr} {F H : Hp}
theorem ba {a b : Bool} (h : (a && b) = true) : a = true ∧ b = true := Bool.and_eq_true_iff.mp h
theorem sqL {a : Addr} {xs : List V} (h : H a = some (.lst xs)) : SqL K H a xs := .inl (.inl h)
theorem dp_ints : ∀ ns : List Int, DpAll K H (ns.map V.int) (ns.map PyData.int)
  | [] => .nil
  | n :: ns => .cons (.int n) (dp_ints ns)
mutual
theorem dp_of (sub : Sub F H) : ∀ (d : D) {v : V}, okd d = true → Rp K dr F v d → Dp K H v (pd d)
  | .non, _, _, h => by cases h; exact .non
  | .bl b, _, _, h => by cases h; exact .bl b
  | .int i, _, _, h => by cases h; exact .int i
  | .str x, _, _, h => by cases h; exact .str x
  | .tup ds, _, o, h => by
    cases h with
    | tup h1 h2 => exact .tup (.inl (.inl (sub _ _ h1))) (dpA_of sub ds o h2)
  | .lst ds, _, o, h => by
    cases h with
    | lst h1 h2 => exact .lst (sqL (sub _ _ h1)) (dpA_of sub ds o h2)
  | .dct _ _, _, o, _ => by cases o
  | .dcT _ _, _, o, _ => by cases o
  | .ins _ _ _, _, o, _ => by cases o
  | .drw, _, o, _ => by cases o
  | .ty _, _, o, _ => by cases o
  | .cls _, _, o, _ => by cases o
  | .lam _, _, o, _ => by cases o
  | .scr ns, _, _, h => by
    cases h with
    | scr h1 h2 =>
      have hs : SqL K H _ (ns.map V.int) := h2.1.elim (fun e => by subst e; exact .inl (.inl (sub _ _ h1))) fun ⟨ob, e⟩ => by subst e; exact .inl (.inr ⟨ob, sub _ _ h1⟩)
      exact .lst hs (dp_ints ns)
theorem dpA_of (sub : Sub F H) : ∀ (ds : List D) {vs : List V}, okdA ds = true → RpA K dr F vs ds → DpAll K H vs (pdA ds)
  | [], _, _, h => by cases h; exact .nil
  | d :: ds, _, o, h => by
    obtain ⟨o1, o2⟩ := ba o
    cases h with
    | cons h1 h2 => exact .cons (dp_of sub d o1 h1) (dpA_of sub ds o2 h2)
end
theorem dpo_of (sub : Sub F H) {d : D} {v : V} (o : okd d = true) (h : RO K dr F H v d) : Dp K H v (pd d) := by
  rcases h with h | ⟨p, rfl, _, _, h⟩
  · exact dp_of sub d o h
  · cases d with
    | lst ds =>
      obtain ⟨xs, h1, h2⟩ := h
      exact .lst (sqL h1) (dpA_of sub ds o h2)
    | dct ks vs => cases o
    | dcT ks vs => cases o
    | ins c ns vs => cases o
    | _ => exact h.elim
/-- a list, off a value that can be read -/
theorem ro_lst (sub : Sub F H) {ds : List D} {v : V} (h : RO K dr F H v (.lst ds)) : ∃ p xs, v = .ref p ∧ H p = some (.lst xs) ∧ RpA K dr F xs ds := by
  rcases h with h | ⟨p, rfl, _, _, xs, h1, h2⟩
  · cases h with
    | lst h1 h2 => exact ⟨_, _, rfl, sub _ _ h1, h2⟩
  · exact ⟨p, xs, rfl, h1, h2⟩
theorem ro_tup (sub : Sub F H) {ds : List D} {v : V} (h : RO K dr F H v (.tup ds)) : ∃ p xs, v = .ref p ∧ SqT K H p xs ∧ F p = some (.tup xs) ∧ RpA K dr F xs ds := by
  rcases h with h | ⟨p, rfl, _, _, h⟩
  · cases h with
    | tup h1 h2 => exact ⟨_, _, rfl, .inl (.inl (sub _ _ h1)), h1, h2⟩
  · exact h.elim
theorem ro_str {z : Str} {v : V} (h : RO K dr F H v (.str z)) : v = .str z := by
  rcases h with h | ⟨p, _, _, _, h⟩
  · cases h
    rfl
  · exact h.elim
theorem ro_dct (sub : Sub F H) {ks : List Key} {vs : List D} {v : V} (h : RO K dr F H v (.dct ks vs)) : ∃ p kvs, v = .ref p ∧ Rd H p (.dK kvs) ∧ kvs.map (·.1) = ks ∧ RpA K dr F (kvs.map (·.2)) vs := by
  rcases h with h | ⟨p, rfl, _, _, kvs, h1, h2, h3⟩
  · cases h with
    | dct h1 h2 h3 => exact ⟨_, _, rfl, .inr ⟨_, sub _ _ h1⟩, h2, h3⟩
  · exact ⟨p, kvs, rfl, .inl h1, h2, h3⟩
theorem ro_dcT (sub : Sub F H) {ks vs : List D} {v : V} (h : RO K dr F H v (.dcT ks vs)) : ∃ p kvs, v = .ref p ∧ Rd H p (GD Wo.w p kvs) ∧ ks.map nkT = kvs.map (some ·.1) ∧ RpA K dr F (kvs.map (V.ref ·.2.1)) ks ∧ RpA K dr F (kvs.map (·.2.2)) vs := by
  rcases h with h | ⟨p, rfl, _, _, kvs, h1, h2, h3, h4⟩
  · cases h with
    | dcT h1 h2 h3 h4 => exact ⟨_, _, rfl, .inr ⟨_, sub _ _ h1⟩, h2, h3, h4⟩
  · exact ⟨p, kvs, rfl, .inl h1, h2, h3, h4⟩
theorem keysG_of (s : Sub F H) : ∀ {kvs : GKV} {ks : List D}, ks.map nkT = kvs.map (some ·.1) → RpA K dr F (kvs.map (V.ref ·.2.1)) ks → KeysG H kvs
  | [], _, _, _, p, hp => nomatch hp
  | q :: kvs, [], e, _, p, hp => nomatch e
  | q :: kvs, k :: ks, e, r, p, hp => by
    rw [List.map_cons, List.map_cons] at e
    injection e with e1 e2
    cases r with
    | cons r1 r2 =>
      rcases List.mem_cons.mp hp with rfl | hp
      · obtain ⟨b, eb, n, hd⟩ := nkT_of s r1 e1
        cases eb
        exact ⟨n, hd⟩
      · exact keysG_of s e2 r2 p hp
/-- a new tuple, a new list, that stands -/
theorem Evo.tup (B : Bs dr sa F H) {p : Addr} {xs : List V} {ds : List D} (hp : H p = none) (r : RpA K dr F xs ds) : Evo dr sa F H (upd F p (.tup xs)) (upd H p (.tup xs)) ∧ Rp K dr (upd F p (.tup xs)) (.ref p) (.tup ds) :=
  have e := Evo.new1 B (o := .tup xs) hp
  ⟨e, .tup upd_same (RpA.mono e.fs ds r)⟩
theorem Evo.lst (B : Bs dr sa F H) {p : Addr} {xs : List V} {ds : List D} (hp : H p = none) (r : RpA K dr F xs ds) : Evo dr sa F H (upd F p (.lst xs)) (upd H p (.lst xs)) ∧ Rp K dr (upd F p (.lst xs)) (.ref p) (.lst ds) :=
  have e := Evo.new1 B (o := .lst xs) hp
  ⟨e, .lst upd_same (RpA.mono e.fs ds r)⟩
end

/-- the most that a list or tuple holds here -/
def most : Nat := 100000
theorem most_le {n : Nat} (h : n ≤ most) : n ≤ sizeLine := Nat.le_trans h (by decide)

abbrev OD := D → D → (D → Prop) → Prop
def OMono (o : OD) : Prop := ∀ d1 d2 (Q Q' : D → Prop), (∀ d, Q d → Q' d) → o d1 d2 Q → o d1 d2 Q'

section
variable {X : Cx} {E : XK} {a b : Expr} {w1 w2 : WE} {pos : Pos}
/-! ### + -/
def oAdd : OD := fun d1 d2 Q => match d1, d2 with
  | .int i, .int j => Q (.int (i + j))
  | .lst xs, .lst ys => xs.length + ys.length ≤ most ∧ Q (.lst (xs ++ ys))
  | .tup xs, .tup ys => xs.length + ys.length ≤ most ∧ Q (.tup (xs ++ ys))
  | .str x, .str y => x.length + y.length ≤ most ∧ Q (.str (x ++ y))
  | _, _ => False
theorem oAdd_mono : OMono oAdd := fun d1 d2 Q Q' k h => by
  unfold oAdd at h ⊢
  split at h <;> first | exact k _ h | exact ⟨h.1, k _ h.2⟩ | exact h
abbrev rAddU (K : PySem.W.Frag) : R2 := fun x y H Q => rI0 (fun i j => .int (i + j)) x y H Q ∨ (rCat x y H Q ∨ (rCatA K x y H Q ∨ ∃ i j, x = .str i ∧ y = .str j ∧ i.length + j.length ≤ sizeLine ∧ Q (.str (i ++ j)) H))
theorem op_addU : OpR X (binaryOp .Add) (rAddU X.K) := OpR.or op_add (OpR.or op_cat (OpR.or op_catA op_add_str))
theorem opd_add : OpD X (rAddU X.K) oAdd := by
  intro dr sa F H x y d1 d2 Q B r1 r2 h
  unfold oAdd at h
  split at h
  · exact .inl ⟨_, _, ro_int r1, ro_int r2, h _ F H (Evo.refl B) (.int _)⟩
  · obtain ⟨p, xs, rfl, e1, q1⟩ := ro_lst B.sub r1
    obtain ⟨p2, ys, rfl, e2, q2⟩ := ro_lst B.sub r2
    refine .inr (.inl ⟨p, p2, xs, ys, rfl, rfl, e1, e2, ?_, fun l hl => ?_⟩)
    · rw [q1.length, q2.length]
      exact most_le h.1
    · obtain ⟨ev, r⟩ := Evo.lst B hl (q1.append q2)
      exact h.2 _ _ _ ev r
  · obtain ⟨p, xs, rfl, e1, f1, q1⟩ := ro_tup B.sub r1
    obtain ⟨p2, ys, rfl, e2, f2, q2⟩ := ro_tup B.sub r2
    refine .inr (.inr (.inl ⟨p, p2, xs, ys, rfl, rfl, e1, e2, ?_, fun hx => ?_, fun hx hy => ?_, fun hx hy l hl => ?_⟩))
    · rw [q1.length, q2.length]
      exact most_le h.1
    · subst hx
      cases q1
      exact h.2 _ F H (Evo.refl B) (.tup f2 q2)
    · subst hy
      cases q2
      have h2 := h.2 (.ref p) F H (Evo.refl B)
      rw [List.append_nil] at h2
      exact h2 (.tup f1 q1)
    · obtain ⟨ev, r⟩ := Evo.tup B hl (q1.append q2)
      exact h.2 _ _ _ ev r
  · exact .inr (.inr (.inr ⟨_, _, ro_str r1, ro_str r2, most_le h.1, h.2 _ F H (Evo.refl B) (.str _)⟩))
  · exact h.elim
theorem ue_addU (ha : UO X E a w1) (hb : UO X E b w2) : UE X E (.BinOp a .Add b pos) (wOp oAdd w1 w2) := ue_op2 (t := fun a _ => a) opd_add oAdd_mono ha hb (pe_op op_addU ha.pe hb.pe)

/-! ### other arithmetic: ints -/
abbrev oSub : OD := oInt (fun _ _ => True) fun i j => .int (i - j)
abbrev oMul : OD := oInt CMul fun i j => .int (i * j)
abbrev oDiv : OD := oInt CDiv fun i j => .int (i / j)
abbrev oMod : OD := oInt (fun _ j => 0 < j) fun i j => .int (i % j)
theorem ue_sub (ha : UO X E a w1) (hb : UO X E b w2) : UE X E (.BinOp a .Sub b pos) (wOp oSub w1 w2) := ue_op2 (t := fun a _ => a) (opd_int0 fun i j dr F => .int _) oInt_mono ha hb (pe_op op_sub ha.pe hb.pe)
theorem ue_mul (ha : UO X E a w1) (hb : UO X E b w2) : UE X E (.BinOp a .Mult b pos) (wOp oMul w1 w2) := ue_op2 (t := fun a _ => a) (opd_int fun i j dr F => .int _) oInt_mono ha hb (pe_op op_mul ha.pe hb.pe)
theorem ue_div (ha : UO X E a w1) (hb : UO X E b w2) : UE X E (.BinOp a .FloorDiv b pos) (wOp oDiv w1 w2) := ue_op2 (t := fun a _ => a) (opd_int fun i j dr F => .int _) oInt_mono ha hb (pe_op op_fdiv ha.pe hb.pe)
theorem ue_mod (ha : UO X E a w1) (hb : UO X E b w2) : UE X E (.BinOp a .Mod b pos) (wOp oMod w1 w2) := ue_op2 (t := fun a _ => a) (opd_int fun i j dr F => .int _) oInt_mono ha hb (pe_op op_mod ha.pe hb.pe)

/-! ### comparisons -/
abbrev oLt : OD := oInt (fun _ _ => True) fun i j => .bl (decide (i < j))
abbrev oLe : OD := oInt (fun _ _ => True) fun i j => .bl (decide (i ≤ j))
abbrev oGt : OD := oInt (fun _ _ => True) fun i j => .bl (decide (j < i))
abbrev oGe : OD := oInt (fun _ _ => True) fun i j => .bl (decide (j ≤ i))
def oEq : OD := fun d1 d2 Q => cmp d1 = true ∧ cmp d2 = true ∧ Q (.bl (eqD d1 d2))
def oNe : OD := fun d1 d2 Q => cmp d1 = true ∧ cmp d2 = true ∧ Q (.bl (!eqD d1 d2))
theorem oEq_mono : OMono oEq := fun d1 d2 Q Q' k h => ⟨h.1, h.2.1, k _ h.2.2⟩
theorem oNe_mono : OMono oNe := fun d1 d2 Q Q' k h => ⟨h.1, h.2.1, k _ h.2.2⟩
theorem opd_eq : OpD X (rEqD X.K) oEq := fun dr sa F H x y d1 d2 Q B r1 r2 h => ⟨pd d1, pd d2, dpo_of B.sub (ba h.1).1 r1, dpo_of B.sub (ba h.2.1).1 r2, (ba h.1).2, (ba h.2.1).2, h.2.2 _ F H (Evo.refl B) (.bl _)⟩
theorem opd_ne : OpD X (rNeD X.K) oNe := fun dr sa F H x y d1 d2 Q B r1 r2 h => ⟨pd d1, pd d2, dpo_of B.sub (ba h.1).1 r1, dpo_of B.sub (ba h.2.1).1 r2, (ba h.1).2, (ba h.2.1).2, h.2.2 _ F H (Evo.refl B) (.bl _)⟩
/-- a comparison's rule: over the operator's rule by values -/
structure CmpU (X : Cx) (op : CmpOp) (r : R2) (o : OD) : Prop where
  op : OpR X (compareOp op) r
  d : OpD X r o
  m : OMono o
theorem cu_lt : CmpU X .Lt (rI0 fun i j => .bl (decide (i < j))) oLt := ⟨op_lt, opd_int0 fun i j dr F => .bl _, oInt_mono⟩
theorem cu_le : CmpU X .LtE (rI0 fun i j => .bl (decide (i ≤ j))) oLe := ⟨op_le, opd_int0 fun i j dr F => .bl _, oInt_mono⟩
theorem cu_gt : CmpU X .Gt (rI0 fun i j => .bl (decide (j < i))) oGt := ⟨op_gt, opd_int0 fun i j dr F => .bl _, oInt_mono⟩
theorem cu_ge : CmpU X .GtE (rI0 fun i j => .bl (decide (j ≤ i))) oGe := ⟨op_ge, opd_int0 fun i j dr F => .bl _, oInt_mono⟩
theorem cu_eq (hu : X.A.units + 64 < cLine) : CmpU X .Eq (rEqD X.K) oEq := ⟨op_eqD hu, opd_eq, oEq_mono⟩
theorem cu_ne (hu : X.A.units + 64 < cLine) : CmpU X .NotEq (rNeD X.K) oNe := ⟨op_neD hu, opd_ne, oNe_mono⟩

/-! ### in -/
def lookD {κ : Type} [DecidableEq κ] : List κ → List D → κ → Option D
  | k :: ks, v :: vs, d => if k = d then some v else lookD ks vs d
  | _, _, _ => none
theorem rp_key {K : PySem.W.Frag} {dr : Addr} {F : Hp} {v : V} {k : Key} (h : Rp K dr F v (kD k)) : v = kV k := by
  cases k with
  | inl i => cases h; rfl
  | inr s => cases h; rfl
theorem rp_keys {K : PySem.W.Frag} {dr : Addr} {F : Hp} : ∀ {vs : List V} {ks : List Key}, RpA K dr F vs (ks.map kD) → vs = ks.map kV
  | [], [], _ => rfl
  | [], _ :: _, h => by cases h
  | _ :: _, [], h => by cases h
  | v :: vs, k :: ks, h => by
    cases h with
    | cons h1 h2 => rw [rp_key h1, rp_keys h2]; rfl
theorem look_val {κ : Type} [DecidableEq κ] {K : PySem.W.Frag} {dr : Addr} {F : Hp} {k : κ} : ∀ {kvs : List (κ × V)} {vs : List D}, RpA K dr F (kvs.map (·.2)) vs → (valV kvs k).isSome = (lookD (kvs.map (·.1)) vs k).isSome ∧ ∀ d, lookD (kvs.map (·.1)) vs k = some d → ∃ v, valV kvs k = some v ∧ Rp K dr F v d
  | [], vs, h => by
    cases h
    exact ⟨rfl, fun d e => nomatch e⟩
  | (k', v') :: kvs, vs, h => by
    cases h with
    | cons h1 h2 =>
      rename_i d' ds'
      have e1 : lookD (((k', v') :: kvs).map (·.1)) (d' :: ds') k = if k' = k then some d' else lookD (kvs.map (·.1)) ds' k := rfl
      have e2 : valV ((k', v') :: kvs) k = if k' = k then some v' else valV kvs k := by
        unfold valV
        rw [List.find?_cons]
        by_cases q : k' = k
        · simp [q]
        · simp [q]
      rw [e1, e2]
      by_cases q : k' = k
      · rw [if_pos q, if_pos q]
        exact ⟨rfl, fun d e => by cases e; exact ⟨v', rfl, h1⟩⟩
      · rw [if_neg q, if_neg q]
        exact look_val h2
/-- what stands behind a key, in a dict of tuples -/
def lookT : List D → List D → NestedKey → Option D
  | k :: ks, v :: vs, d => if nkT k = some d then some v else lookT ks vs d
  | _, _, _ => none
theorem look_valT {K : PySem.W.Frag} {dr : Addr} {F : Hp} {k : NestedKey} : ∀ {kvs : GKV} {ks vs : List D}, ks.map nkT = kvs.map (some ·.1) → RpA K dr F (kvs.map (·.2.2)) vs → (valG kvs k).isSome = (lookT ks vs k).isSome ∧ ∀ d, lookT ks vs k = some d → ∃ v, valG kvs k = some v ∧ Rp K dr F v d
  | [], ks, vs, e, r => by
    cases ks with
    | nil =>
      cases r
      exact ⟨rfl, fun d e => nomatch e⟩
    | cons a b => cases e
  | q :: kvs, ks, vs, e, r => by
    cases ks with
    | nil => cases e
    | cons a b =>
      rw [List.map_cons, List.map_cons] at e
      injection e with e1 e2
      cases r with
      | @cons _ _ d' ds' r1 r2 =>
        obtain ⟨i1, i2⟩ := look_valT (k := k) e2 r2
        have u1 : lookT (a :: b) (d' :: ds') k = if nkT a = some k then some d' else lookT b ds' k := rfl
        have u2 : valG (q :: kvs) k = if q.1 = k then some q.2.2 else valG kvs k := by
          unfold valG
          rw [List.find?_cons]
          by_cases c : q.1 = k <;> simp [c]
        rw [u1, u2, e1]
        by_cases c : q.1 = k
        · rw [if_pos c, if_pos (by rw [c])]
          exact ⟨rfl, fun d e => by cases e; exact ⟨_, rfl, r1⟩⟩
        · rw [if_neg c, if_neg (fun z => c (Option.some.inj z))]
          exact ⟨i1, i2⟩
def flatD : D → Bool
  | .non => true
  | .bl _ => true
  | .int _ => true
  | .str _ => true
  | _ => false
theorem flat_V {K : PySem.W.Frag} {dr : Addr} {F : Hp} {v : V} {d : D} (f : flatD d = true) (h : Rp K dr F v d) : flatV v = true := by
  cases d <;> first | exact absurd f Bool.false_ne_true | (cases h; rfl)
theorem flat_eq {K : PySem.W.Frag} {dr : Addr} {F : Hp} {v u : V} {d e : D} (f : flatD d = true) (g : flatD e = true) (h : Rp K dr F v d) (h2 : Rp K dr F u e) : eqV v u = eqD d e := by
  cases d <;> first | exact absurd f Bool.false_ne_true | (cases e <;> first | exact absurd g Bool.false_ne_true | (cases h; cases h2; rfl))
theorem flat_all {K : PySem.W.Frag} {dr : Addr} {F : Hp} : ∀ {vs : List V} {ds : List D}, ds.all flatD = true → RpA K dr F vs ds → vs.all flatV = true
  | [], _, _, h => rfl
  | v :: vs, _, f, h => by
    cases h with
    | cons h1 h2 =>
      rw [List.all_cons] at f ⊢
      obtain ⟨f1, f2⟩ := ba f
      rw [flat_V f1 h1, flat_all f2 h2]
      rfl
theorem flat_any {K : PySem.W.Frag} {dr : Addr} {F : Hp} {x : V} {e : D} (g : flatD e = true) (h0 : Rp K dr F x e) : ∀ {vs : List V} {ds : List D}, ds.all flatD = true → RpA K dr F vs ds → inV x vs = ds.any fun z => eqD z e
  | [], _, _, h => by
    cases h
    rfl
  | v :: vs, _, f, h => by
    cases h with
    | cons h1 h2 =>
      rw [List.all_cons] at f
      obtain ⟨f1, f2⟩ := ba f
      have ih := flat_any g h0 f2 h2
      unfold inV at ih ⊢
      rw [List.any_cons, List.any_cons, ih, flat_eq f1 g h1 h0]
theorem ro_flat {K : PySem.W.Frag} {dr : Addr} {F H : Hp} {v : V} {d : D} (f : flatD d = true) (h : RO K dr F H v d) : Rp K dr F v d := by
  rcases h with h | ⟨p, _, _, _, h⟩
  · exact h
  · cases d <;> first | exact absurd f Bool.false_ne_true | exact h.elim
theorem pdA_any (e : D) : ∀ ds : List D, ((pdA ds).any fun z => PyData.eqv z (pd e)) = ds.any fun z => eqD z e
  | [] => rfl
  | d :: ds => by
    show (PyData.eqv (pd d) (pd e) || (pdA ds).any _) = _
    rw [pdA_any e ds]
    rfl
/-- y in z: whether -/
def oInB (g : Bool → Bool) : OD := fun d1 d2 Q => match d2 with
  | .lst xs => cmp d1 = true ∧ cmp (.lst xs) = true ∧ Q (.bl (g (xs.any fun z => eqD z d1)))
  | .tup xs => flatD d1 = true ∧ xs.all flatD = true ∧ Q (.bl (g (xs.any fun z => eqD z d1)))
  | .dct ks vs => ∃ k, d1 = kD k ∧ Q (.bl (g (lookD ks vs k).isSome))
  | .dcT ks vs => ∃ k, nkT d1 = some k ∧ Q (.bl (g (lookT ks vs k).isSome))
  | .str z => ∃ c, d1 = .str ⟨#[c]⟩ ∧ Q (.bl (g (decide (c ∈ z.cps.toList))))
  | _ => False
theorem oInB_mono (g : Bool → Bool) : OMono (oInB g) := fun d1 d2 Q Q' k h => by
  unfold oInB at h ⊢
  split at h
  · exact ⟨h.1, h.2.1, k _ h.2.2⟩
  · exact ⟨h.1, h.2.1, k _ h.2.2⟩
  · obtain ⟨c, e, q⟩ := h
    exact ⟨c, e, k _ q⟩
  · obtain ⟨c, e, q⟩ := h
    exact ⟨c, e, k _ q⟩
  · obtain ⟨c, e, q⟩ := h
    exact ⟨c, e, k _ q⟩
  · exact h
abbrev oIn : OD := oInB id
abbrev oNotIn : OD := oInB not
def rDIn : R2 := fun y x H Q => ∃ a o, x = .ref a ∧ DGet H a y o ∧ Q (.bl o.isSome) H
def rDNotIn : R2 := fun y x H Q => ∃ a o, x = .ref a ∧ DGet H a y o ∧ Q (.bl (!o.isSome)) H
theorem op_dIn (hu : X.A.units + 1 < cLine) : OpR X (compareOp .In) rDIn := by
  rintro pins s σ H y x u v Q I ry rx ⟨a, o, rfl, g, q⟩
  cases rx
  exact d_in hu I g ry fun s' I' => ⟨.bl _, H, I', rfl, q⟩
theorem op_dNotIn (hu : X.A.units + 1 < cLine) : OpR X (compareOp .NotIn) rDNotIn := by
  rintro pins s σ H y x u v Q I ry rx ⟨a, o, rfl, g, q⟩
  cases rx
  exact d_notIn hu I g ry fun s' I' => ⟨.bl _, H, I', rfl, q⟩
abbrev rSg (g : Bool → Bool) : R2 := fun x y H Q => ∃ (c : Nat) (z : Str), x = .str ⟨#[c]⟩ ∧ y = .str z ∧ Q (.bl (g (decide (c ∈ z.cps.toList)))) H
/-- a tuple among a dict's keys -/
def rGIn (w : World) (g : Bool → Bool) : R2 := fun y x H Q => ∃ a b kvs k, x = .ref a ∧ y = .ref b ∧ Rd H a (GD w a kvs) ∧ KeysG H kvs ∧ NkH H (.ref b) k ∧ k.depth ≤ 8 ∧ Q (.bl (g (valG kvs k).isSome)) H
theorem op_gIn (hu : X.A.units + 9 < cLine) : OpR X (compareOp .In) (rGIn X.w id) := by
  rintro pins s σ H y x u v Q I ry rx ⟨a, b, kvs, k, rfl, rfl, e, hk, n, hd, q⟩
  cases rx
  cases ry
  exact g_in hu I e hk n hd fun s' I' => ⟨.bl _, H, I', rfl, q⟩
theorem op_gNotIn (hu : X.A.units + 9 < cLine) : OpR X (compareOp .NotIn) (rGIn X.w not) := by
  rintro pins s σ H y x u v Q I ry rx ⟨a, b, kvs, k, rfl, rfl, e, hk, n, hd, q⟩
  cases rx
  cases ry
  exact g_notIn hu I e hk n hd fun s' I' => ⟨.bl _, H, I', rfl, q⟩
abbrev rInU (K : PySem.W.Frag) (w : World) : R2 := fun x y H Q => rInD K x y H Q ∨ (rIn K false x y H Q ∨ (rDIn x y H Q ∨ (rSg id x y H Q ∨ rGIn w id x y H Q)))
abbrev rNotInU (K : PySem.W.Frag) (w : World) : R2 := fun x y H Q => rNotInD K x y H Q ∨ (rIn K true x y H Q ∨ (rDNotIn x y H Q ∨ (rSg not x y H Q ∨ rGIn w not x y H Q)))
theorem opd_inB {g : Bool → Bool} {r1 : R2} {r3 : R2} {neg : Bool} (hw : X.w = Wo.w) (hneg : ∀ b : Bool, (if neg = true then !b else b) = g b)
    (h1 : ∀ x y H Q, (∃ d ds, Dp X.K H x d ∧ Dp X.K H y (.list ds) ∧ SeqAt.shaped d = true ∧ SeqAt.shaped (.list ds) = true ∧ Q (.bl (g (ds.any fun z => PyData.eqv z d))) H) → r1 x y H Q)
    (h3 : ∀ y x H Q, (∃ a o, x = .ref a ∧ DGet H a y o ∧ Q (.bl (g o.isSome)) H) → r3 y x H Q) : OpD X (fun x y H Q => r1 x y H Q ∨ (rIn X.K neg x y H Q ∨ (r3 x y H Q ∨ (rSg g x y H Q ∨ rGIn X.w g x y H Q)))) (oInB g) := by
  intro dr sa F H x y d1 d2 Q B q1 q2 h
  unfold oInB at h
  split at h
  · rename_i xs
    refine .inl (h1 x y H Q ⟨pd d1, pdA xs, dpo_of B.sub (ba h.1).1 q1, dpo_of (d := .lst xs) B.sub (ba h.2.1).1 q2, (ba h.1).2, (ba h.2.1).2, ?_⟩)
    rw [pdA_any]
    exact h.2.2 _ F H (Evo.refl B) (.bl _)
  · rename_i xs
    obtain ⟨p, vs, rfl, e1, f1, r1⟩ := ro_tup B.sub q2
    have r0 := ro_flat h.1 q1
    refine .inr (.inl ⟨p, vs, rfl, .inr e1, flat_V h.1 r0, flat_all h.2.1 r1, ?_⟩)
    rw [hneg, flat_any h.1 r0 h.2.1 r1]
    exact h.2.2 _ F H (Evo.refl B) (.bl _)
  · obtain ⟨p, kvs, rfl, e1, rfl, r1⟩ := ro_dct B.sub q2
    obtain ⟨k, rfl, h2⟩ := h
    have ex : x = kV k := rp_key (ro_flat (by cases k <;> rfl) q1)
    subst ex
    refine .inr (.inr (.inl (h3 _ _ H Q ⟨p, _, rfl, .inl ⟨kvs, k, e1, rfl, rfl⟩, ?_⟩)))
    rw [(look_val r1).1]
    exact h2 _ F H (Evo.refl B) (.bl _)
  · obtain ⟨p, kvs, rfl, e1, ek, rk, r1⟩ := ro_dcT B.sub q2
    obtain ⟨k, hk, h2⟩ := h
    obtain ⟨h5, h6, ds, rfl⟩ := nkT_iff hk
    have q1' : Rp X.K dr F x (.tup ds) := by
      rcases q1 with q1 | ⟨_, _, _, _, q1⟩
      · exact q1
      · exact q1.elim
    obtain ⟨b, rfl, n, hd⟩ := nkT_of B.sub q1' hk
    refine .inr (.inr (.inr (.inr ⟨p, b, kvs, k, rfl, rfl, by rw [hw]; exact e1, keysG_of B.sub ek rk, n, hd, ?_⟩)))
    rw [(look_valT ek r1).1]
    exact h2 _ F H (Evo.refl B) (.bl _)
  · obtain ⟨c, rfl, q⟩ := h
    exact .inr (.inr (.inr (.inl ⟨c, _, ro_str q1, ro_str q2, q _ F H (Evo.refl B) (.bl _)⟩)))
  · exact h.elim
theorem cu_in (hw : X.w = Wo.w) (hu : X.A.units + 65 < cLine) : CmpU X .In (rInU X.K X.w) oIn :=
  ⟨OpR.or (op_inD hu) (OpR.or op_in_seq (OpR.or (op_dIn (by omega)) (OpR.or op_in_sign (op_gIn (by omega))))), opd_inB (neg := false) hw (fun b => by rfl) (fun x y H Q h => h) (fun y x H Q h => h), oInB_mono _⟩
theorem cu_notIn (hw : X.w = Wo.w) (hu : X.A.units + 65 < cLine) : CmpU X .NotIn (rNotInU X.K X.w) oNotIn :=
  ⟨OpR.or (op_notInD hu) (OpR.or op_notIn_seq (OpR.or (op_dNotIn (by omega)) (OpR.or op_notIn_sign (op_gNotIn (by omega))))), opd_inB (neg := true) hw (fun b => by rfl) (fun x y H Q h => h) (fun y x H Q h => h), oInB_mono _⟩

/-- a op b, as a value; as a test -/
theorem ue_cmp {op : CmpOp} {r : R2} {o : OD} (c : CmpU X op r o) (ha : UO X E a w1) (hb : UO X E b w2) (hm : behindInMarks op b = false) : UE X E (.Compare a [op] [b] pos) (wOp o w1 w2) :=
  ue_op2 (t := fun a _ => a) c.d c.m ha hb (pe_cmpR c.op ha.pe hb.pe hm)
end
end U
/-! U4: tests, displays, subscripts, slices, new objects. -/
namespace U
open PySem PySem.Spec PyProof.Rows L2
variable [Wo]

def isIns : D → Bool
  | .ins .. => true
  | _ => false
/-- a new object that is the def's own -/
def tGF (E : XK) (K : PySem.W.Frag) (w : WE) : TE := fun σ H Q => ∃ dr sa F env, Sr K dr sa F σ H env ∧
  w env (fun d => ∀ p F' H', Evo dr sa F H F' H' → H p = none → F' p = none → p ≠ dr → isIns d = false → Own K dr F' H' p d → Q (.ref p) H') (xw E K dr sa F H)
structure UF (X : Cx) (E : XK) (e : Expr) (w : WE) : Prop where
  pe : PE X e (tGF E X.K w)
  mono : ∀ env (Q Q' : D → Prop) (x x' : XP), (∀ d, Q d → Q' d) → (∀ c n v, x c n v → x' c n v) → w env Q x → w env Q' x'
section
variable {K : PySem.W.Frag} {dr sa : Addr} {F H F' H' : Hp} {X : Cx} {E : XK} {e a b : Expr}
/-- the thing at p, new since H, stands from now on, as u2 -/
theorem stand_at (ev : Evo dr sa F H F' H') {p : Addr} {u u2 : HO} (hp : H p = none) (fp : F' p = none) (nd : p ≠ dr) (hu : H' p = some u) (nt : NoT u) (nc : NoC p u) (nt2 : NoT u2) : Evo dr sa F H (upd F' p u2) (upd H' p u2) := by
  have sub : Sub F' (upd F' p u2) := fun x z h => by rw [upd_ne (ne_of_none h fp)]; exact h
  refine ⟨⟨fun x z h => ?_, ?_, fun x z h => ?_, ?_, ?_, tabs_but ev.toBs.tabs hu nt nc⟩, ev.fs.trans sub, fun x o nx no h => ?_, fun x ps h => ?_, fun x z h => ?_⟩
  · by_cases q : x = p
    · rw [q, upd_same] at h ⊢
      exact h
    · rw [upd_ne q] at h ⊢
      exact ev.toBs.sub x z h
  · rw [upd_ne (Ne.symm nd)]
    exact ev.toBs.nod
  · by_cases q : x = p
    · rw [q, upd_same] at h
      cases h
      exact nt2
    · rw [upd_ne q] at h
      exact ev.toBs.ntb x z h
  · obtain ⟨n, h⟩ := ev.toBs.draw
    exact ⟨n, by rw [upd_ne (Ne.symm nd)]; exact h⟩
  · obtain ⟨ns, o, h, k⟩ := ev.toBs.scr
    exact ⟨ns, o, sub _ _ h, k⟩
  · rw [upd_ne (ne_of_none h hp)]
    exact ev.keep x o nx no h
  · obtain ⟨qs, h1⟩ := ev.kt x ps h
    exact ⟨qs, by rw [upd_ne (ne_of_none h hp)]; exact h1⟩
  · by_cases q : x = p
    · subst q
      exact .inr hp
    · rw [upd_ne q] at h
      exact ev.new x z h
/-- a new thing, changed -/
theorem Evo.chg (ev : Evo dr sa F H F' H') {p : Addr} {u u2 : HO} (hp : H p = none) (fp : F' p = none) (nd : p ≠ dr) (hu : H' p = some u) (nt : NoT u) (nc : NoC p u) : Evo dr sa F H F' (upd H' p u2) := by
  refine ⟨⟨fun x z h => ?_, ev.toBs.nod, ev.toBs.ntb, ?_, ev.toBs.scr, tabs_but ev.toBs.tabs hu nt nc⟩, ev.fs, fun x o nx no h => ?_, fun x ps h => ?_, ev.new⟩
  · rw [upd_ne (ne_of_none h fp)]
    exact ev.toBs.sub x z h
  · obtain ⟨n, h⟩ := ev.toBs.draw
    exact ⟨n, by rw [upd_ne (Ne.symm nd)]; exact h⟩
  · rw [upd_ne (ne_of_none h hp)]
    exact ev.keep x o nx no h
  · obtain ⟨qs, h1⟩ := ev.kt x ps h
    exact ⟨qs, by rw [upd_ne (ne_of_none h hp)]; exact h1⟩
theorem upd_self {H : Hp} {p : Addr} {u : HO} (h : H p = some u) : upd H p u = H := by
  funext x
  by_cases q : x = p
  · rw [q, upd_same, h]
  · rw [upd_ne q]
/-- an own object becomes one that stands: a dict is locked -/
theorem Own.stand {p : Addr} {d : D} (ev : Evo dr sa F H F' H') (hp : H p = none) (fp : F' p = none) (nd : p ≠ dr) (o : Own K dr F' H' p d) :
    (∃ F2, Evo dr sa F H F2 H' ∧ Rp K dr F2 (.ref p) d) ∨ ∃ u, H' p = some u ∧ Mut (some u) ∧ ∀ od, ∃ F2, Evo dr sa F H F2 (upd H' p (.frz od u)) ∧ Rp K dr F2 (.ref p) d := by
  obtain ⟨u0, hu0, nt, nc⟩ := o.noTC
  have sub : ∀ u : HO, Sub F' (upd F' p u) := fun u x z h => by rw [upd_ne (ne_of_none h fp)]; exact h
  have go : ∀ u2 : HO, NoT u2 → Evo dr sa F H (upd F' p u2) (upd H' p u2) := fun u2 n2 => stand_at ev hp fp nd hu0 nt nc n2
  cases d with
  | lst ds =>
    obtain ⟨xs, h1, h2⟩ := o
    have g := go (.lst xs) (fun _ z => nomatch z)
    rw [upd_self h1] at g
    exact .inl ⟨_, g, .lst upd_same (RpA.mono (sub _) ds h2)⟩
  | dct ks vs =>
    obtain ⟨kvs, h1, h2, h3⟩ := o
    exact .inr ⟨_, h1, trivial, fun od => ⟨_, go _ (fun _ z => nomatch z), .dct upd_same h2 (RpA.mono (sub _) vs h3)⟩⟩
  | dcT ks vs =>
    obtain ⟨kvs, h1, h2, h3, h4⟩ := o
    exact .inr ⟨_, h1, trivial, fun od => ⟨_, go _ (fun _ z => nomatch z), .dcT upd_same h2 (RpA.mono (sub _) ks h3) (RpA.mono (sub _) vs h4)⟩⟩
  | ins c ns vs =>
    obtain ⟨C, dx, fs, h1, h2, h3, h4⟩ := o
    have g := go (.ins C dx fs) (fun _ z => nomatch z)
    rw [upd_self h1] at g
    exact .inl ⟨_, g, .ins upd_same h2 h3 (RpA.mono (sub _) vs h4)⟩
  | _ => exact o.elim
/-- what an expression gives may be locked behind it -/
theorem PE.lk {e : Expr} {t : TE} (h : PE X e t) : PE X e (fun σ H Q => t σ H fun v H' => Q v H' ∨ ∃ p u, v = .ref p ∧ H' p = some u ∧ Mut (some u) ∧ ∀ od, Q v (upd H' p (.frz od u))) :=
  ⟨fun pins s σ H Q I q => thn (h.run pins s σ H _ I q) fun v s1 ⟨x, H1, I1, r, q⟩ => by
    rcases q with q | ⟨p, u, ev, hu, mu, q⟩
    · exact ⟨x, H1, I1, r, q⟩
    · obtain ⟨od, I2⟩ := I1.lock hu mu
      exact ⟨x, _, I2, r, q od⟩⟩
theorem UF.ue {w : WE} (h : UF X E e w) : UE X E e w := ⟨PE.wk (PE.lk h.pe) fun σ H Q ⟨dr, sa, F, env, S, q⟩ => ⟨dr, sa, F, env, S, h.mono env _ _ _ _ (fun d k p F' H' ev hp fp nd _ o => by
  rcases o.stand ev hp fp nd with ⟨F2, e2, r⟩ | ⟨u, hu, mu, z⟩
  · exact .inl (k (.ref p) F2 H' e2 r)
  · refine .inr ⟨p, u, rfl, hu, mu, fun od => ?_⟩
    obtain ⟨F2, e2, r⟩ := z od
    exact k (.ref p) F2 _ e2 r) (fun _ _ _ z => z) q⟩, h.mono⟩
/-- a new list or dict of the def's own, laid now -/
theorem own_new {σ : L2.St} {env : En} (B : Bs dr sa F H) {p : Addr} {u : HO} (hp : H p = none) : Evo dr sa F H F (upd H p u) ∧ F p = none ∧ p ≠ dr := by
  have fp := B.f_none hp
  have nd : p ≠ dr := Ne.symm (B.dr_ne hp)
  have st : ∀ x z, H x = some z → upd H p u x = some z := fun x z h => by rw [upd_ne (ne_of_none h hp)]; exact h
  refine ⟨⟨⟨fun x z h => st _ _ (B.sub x z h), B.nod, B.ntb, ?_, B.scr, B.tabs.ext st⟩, Sub.refl F, fun x z _ _ h => st _ _ h, fun x ps h => ⟨ps, st _ _ h⟩, fun x z h => .inl ⟨z, h⟩⟩, fp, nd⟩
  obtain ⟨n, h⟩ := B.draw
  exact ⟨n, st _ _ h⟩
end

section
variable {X : Cx} {E : XK} {e a b c : Expr} {w w1 w2 w3 : WE} {wt wt2 : WT} {pos : Pos}
/-! ### tests -/
abbrev isB (Q : Bool → Prop) : D → Prop := fun d => ∃ k, d = .bl k ∧ Q k
def wT (w : WE) : WT := fun env Q x => w env (isB Q) x
theorem wT_mono (h : UE X E e w) : ∀ env (Q Q' : Bool → Prop) (x x' : XP), (∀ d, Q d → Q' d) → (∀ c n v, x c n v → x' c n v) → wT w env Q x → wT w env Q' x' := fun env Q Q' x x' k kx q => h.mono env _ _ _ _ (fun d ⟨z, e, r⟩ => ⟨z, e, k z r⟩) kx q
theorem rp_bl {K : PySem.W.Frag} {dr : Addr} {F : Hp} {v : V} {k : Bool} (h : Rp K dr F v (.bl k)) : v = .bl k := by
  cases h
  rfl
/-- a test that is a value -/
theorem ut_val (h : UE X E e w) (he : ∀ whole, isTrue e X.env whole = (do let v ← whole; standAt e.pos; holding [v] (truthy v)) := by intro _; rfl) : UT X E e (wT w) :=
  ⟨PT.wk (pt_val h.pe he) fun σ H Q ⟨dr, sa, F, env, S, q⟩ => ⟨dr, sa, F, env, S, h.mono env _ _ _ _ (fun d ⟨k, e, r⟩ v F' H' ev rp => by
    subst e
    exact ⟨k, rp_bl rp, r F' H' ev⟩) (fun _ _ _ z => z) q⟩, wT_mono h⟩
/-- a test that is a comparison -/
theorem ut_cmp {op : CmpOp} {r : R2} {o : OD} (cu : CmpU X op r o) (ha : UO X E a w1) (hb : UO X E b w2) (hm : behindInMarks op b = false) : UT X E (.Compare a [op] [b] pos) (wT (wOp o w1 w2)) := by
  have hu : UE X E (.Compare a [op] [b] pos) (wOp o w1 w2) := ue_cmp cu ha hb hm
  refine ⟨PT.wk (pt_cmpR cu.op ha.pe hb.pe hm) fun σ H Q ⟨dr, sa, F, env, S, q⟩ => ?_, wT_mono hu⟩
  refine ⟨dr, sa, F, env, S, ha.mono env _ _ _ _ (fun d1 q1 v1 F1 H1 e1 r1 => ?_) (fun _ _ _ z => z) q⟩
  refine ⟨dr, sa, F1, env, S.evo e1, hb.mono env _ _ _ _ (fun d2 q2 v2 F2 H2 e2 r2 => ?_) (fun _ _ _ z => z.evo e1) q1⟩
  refine cu.d dr sa F2 H2 v1 v2 d1 d2 _ e2.toBs (r1.evo e2) r2 (cu.m d1 d2 _ _ (fun d q3 v F' H' e3 r3 => ?_) q2)
  obtain ⟨k, e, r⟩ := q3
  subst e
  exact ⟨k, rp_bl r3, r F' H' ((e1.trans e2).trans e3)⟩
def wNot (t : WT) : WT := fun env Q x => t env (fun k => Q (!k)) x
theorem ut_not (h : UT X E a wt) : UT X E (.UnaryOp .Not a pos) (wNot wt) :=
  ⟨PT.wk (pt_not h.pe) fun σ H Q ⟨dr, sa, F, env, S, q⟩ => ⟨dr, sa, F, env, S, q⟩, fun env Q Q' x x' k kx q => h.mono env _ _ _ _ (fun d r => k _ r) kx q⟩
def wAnd (t u : WT) : WT := fun env Q x => t env (fun k => if k = true then u env Q x else Q false) x
def wOr (t u : WT) : WT := fun env Q x => t env (fun k => if k = true then Q true else u env Q x) x
structure UW (X : Cx) (E : XK) (e : Expr) (w : WT) : Prop where
  pe : PW X e (tGT E X.K w)
  mono : ∀ env (Q Q' : Bool → Prop) (x x' : XP), (∀ d, Q d → Q' d) → (∀ c n v, x c n v → x' c n v) → w env Q x → w env Q' x'
theorem PW.wk {t t' : TT} (h : PW X e t) (k : ∀ σ H Q, t' σ H Q → t σ H Q) : PW X e t' := ⟨fun whole pins s σ H Q I q => h.run whole pins s σ H Q I (k σ H Q q)⟩
theorem UW.t (h : UW X E e wt) : UT X E e wt := ⟨h.pe.pt, h.mono⟩
theorem wAnd_mono (h1 : UT X E a wt) (h2 : ∀ env (Q Q' : Bool → Prop) (x x' : XP), (∀ d, Q d → Q' d) → (∀ c n v, x c n v → x' c n v) → wt2 env Q x → wt2 env Q' x') : ∀ env (Q Q' : Bool → Prop) (x x' : XP), (∀ d, Q d → Q' d) → (∀ c n v, x c n v → x' c n v) → wAnd wt wt2 env Q x → wAnd wt wt2 env Q' x' :=
  fun env Q Q' x x' k kx q => h1.mono env _ _ _ _ (fun d r => by
    cases d
    · exact k _ r
    · exact h2 env _ _ _ _ k kx r) kx q
theorem wOr_mono (h1 : UT X E a wt) (h2 : ∀ env (Q Q' : Bool → Prop) (x x' : XP), (∀ d, Q d → Q' d) → (∀ c n v, x c n v → x' c n v) → wt2 env Q x → wt2 env Q' x') : ∀ env (Q Q' : Bool → Prop) (x x' : XP), (∀ d, Q d → Q' d) → (∀ c n v, x c n v → x' c n v) → wOr wt wt2 env Q x → wOr wt wt2 env Q' x' :=
  fun env Q Q' x x' k kx q => h1.mono env _ _ _ _ (fun d r => by
    cases d
    · exact h2 env _ _ _ _ k kx r
    · exact k _ r) kx q
theorem uw_and1 (h : UT X E a wt) : UW X E (.BoolOp .And [a] pos) wt := ⟨pw_and1 h.pe, h.mono⟩
theorem uw_or1 (h : UT X E a wt) : UW X E (.BoolOp .Or [a] pos) wt := ⟨pw_or1 h.pe, h.mono⟩
theorem uw_and {rest : List Expr} (ha : UT X E a wt) (hb : UW X E (.BoolOp .And (b :: rest) pos) wt2) : UW X E (.BoolOp .And (a :: b :: rest) pos) (wAnd wt wt2) :=
  ⟨PW.wk (pw_and ha.pe hb.pe) fun σ H Q ⟨dr, sa, F, env, S, q⟩ => ⟨dr, sa, F, env, S, ha.mono env _ _ _ _ (fun k r F1 H1 e1 => by
    cases k
    · exact r F1 H1 e1
    · exact ⟨dr, sa, F1, env, S.evo e1, hb.mono env _ _ _ _ (fun z r2 F2 H2 e2 => r2 F2 H2 (e1.trans e2)) (fun _ _ _ z => z.evo e1) r⟩) (fun _ _ _ z => z) q⟩, wAnd_mono ha hb.mono⟩
theorem uw_or {rest : List Expr} (ha : UT X E a wt) (hb : UW X E (.BoolOp .Or (b :: rest) pos) wt2) : UW X E (.BoolOp .Or (a :: b :: rest) pos) (wOr wt wt2) :=
  ⟨PW.wk (pw_or ha.pe hb.pe) fun σ H Q ⟨dr, sa, F, env, S, q⟩ => ⟨dr, sa, F, env, S, ha.mono env _ _ _ _ (fun k r F1 H1 e1 => by
    cases k
    · exact ⟨dr, sa, F1, env, S.evo e1, hb.mono env _ _ _ _ (fun z r2 F2 H2 e2 => r2 F2 H2 (e1.trans e2)) (fun _ _ _ z => z.evo e1) r⟩
    · exact r F1 H1 e1) (fun _ _ _ z => z) q⟩, wOr_mono ha hb.mono⟩
/-! ### and, or, not as values; a if t else b -/
def wAndV (w1 w2 : WE) : WE := fun env Q x => w1 env (isB fun k => if k = true then w2 env Q x else Q (.bl false)) x
def wOrV (w1 w2 : WE) : WE := fun env Q x => w1 env (isB fun k => if k = true then Q (.bl true) else w2 env Q x) x
def wNotV (w1 : WE) : WE := fun env Q x => w1 env (isB fun k => Q (.bl (!k))) x
theorem ue_one {op : BoolOp} (h : UE X E a w) : UE X E (.BoolOp op [a] pos) w := ⟨pe_one h.pe, h.mono⟩
theorem ue_and {rest : List Expr} (ha : UE X E a w1) (hb : UE X E (.BoolOp .And (b :: rest) pos) w2) : UE X E (.BoolOp .And (a :: b :: rest) pos) (wAndV w1 w2) :=
  ⟨PE.wk (pe_and ha.pe hb.pe) fun σ H Q ⟨dr, sa, F, env, S, q⟩ => ⟨dr, sa, F, env, S, ha.mono env _ _ _ _ (fun d ⟨k, e, r⟩ v F1 H1 e1 rp => by
    subst e
    refine ⟨k, rp_bl rp, ?_⟩
    cases k
    · exact r _ F1 H1 e1 (.bl _)
    · exact ⟨dr, sa, F1, env, S.evo e1, hb.mono env _ _ _ _ (fun z r2 v2 F2 H2 e2 rp2 => r2 v2 F2 H2 (e1.trans e2) rp2) (fun _ _ _ z => z.evo e1) r⟩) (fun _ _ _ z => z) q⟩,
   fun env Q Q' x x' k kx q => ha.mono env _ _ _ _ (fun d ⟨z, e, r⟩ => ⟨z, e, by
    cases z
    · exact k _ r
    · exact hb.mono env _ _ _ _ k kx r⟩) kx q⟩
theorem ue_or {rest : List Expr} (ha : UE X E a w1) (hb : UE X E (.BoolOp .Or (b :: rest) pos) w2) : UE X E (.BoolOp .Or (a :: b :: rest) pos) (wOrV w1 w2) :=
  ⟨PE.wk (pe_or ha.pe hb.pe) fun σ H Q ⟨dr, sa, F, env, S, q⟩ => ⟨dr, sa, F, env, S, ha.mono env _ _ _ _ (fun d ⟨k, e, r⟩ v F1 H1 e1 rp => by
    subst e
    refine ⟨k, rp_bl rp, ?_⟩
    cases k
    · exact ⟨dr, sa, F1, env, S.evo e1, hb.mono env _ _ _ _ (fun z r2 v2 F2 H2 e2 rp2 => r2 v2 F2 H2 (e1.trans e2) rp2) (fun _ _ _ z => z.evo e1) r⟩
    · exact r _ F1 H1 e1 (.bl _)) (fun _ _ _ z => z) q⟩,
   fun env Q Q' x x' k kx q => ha.mono env _ _ _ _ (fun d ⟨z, e, r⟩ => ⟨z, e, by
    cases z
    · exact hb.mono env _ _ _ _ k kx r
    · exact k _ r⟩) kx q⟩
theorem ue_not (ha : UE X E a w1) : UE X E (.UnaryOp .Not a pos) (wNotV w1) :=
  ⟨PE.wk (pe_not ha.pe) fun σ H Q ⟨dr, sa, F, env, S, q⟩ => ⟨dr, sa, F, env, S, ha.mono env _ _ _ _ (fun d ⟨k, e, r⟩ v F1 H1 e1 rp => by
    subst e
    exact ⟨k, rp_bl rp, r _ F1 H1 e1 (.bl _)⟩) (fun _ _ _ z => z) q⟩, fun env Q Q' x x' k kx q => ha.mono env _ _ _ _ (fun d ⟨z, e, r⟩ => ⟨z, e, k _ r⟩) kx q⟩
def wIf (t : WT) (w1 w2 : WE) : WE := fun env Q x => t env (fun k => if k = true then w1 env Q x else w2 env Q x) x
theorem ue_if (hc : UT X E c wt) (ha : UE X E a w1) (hb : UE X E b w2) : UE X E (.IfExp c a b pos) (wIf wt w1 w2) :=
  ⟨PE.wk (pe_ifExp hc.pe ha.pe hb.pe) fun σ H Q ⟨dr, sa, F, env, S, q⟩ => ⟨dr, sa, F, env, S, hc.mono env _ _ _ _ (fun k r F1 H1 e1 => by
    cases k
    · exact ⟨dr, sa, F1, env, S.evo e1, hb.mono env _ _ _ _ (fun z r2 v2 F2 H2 e2 rp2 => r2 v2 F2 H2 (e1.trans e2) rp2) (fun _ _ _ z => z.evo e1) r⟩
    · exact ⟨dr, sa, F1, env, S.evo e1, ha.mono env _ _ _ _ (fun z r2 v2 F2 H2 e2 rp2 => r2 v2 F2 H2 (e1.trans e2) rp2) (fun _ _ _ z => z.evo e1) r⟩) (fun _ _ _ z => z) q⟩,
   fun env Q Q' x x' k kx q => hc.mono env _ _ _ _ (fun z r => by
    cases z
    · exact hb.mono env _ _ _ _ k kx r
    · exact ha.mono env _ _ _ _ k kx r) kx q⟩

/-! ### lists of expressions; displays -/
def waNil : WA := fun _ Q _ => Q []
def waCons (w : WE) (r : WA) : WA := fun env Q x => w env (fun d => r env (fun ds => Q (d :: ds)) x) x
def waStar (w : WE) (r : WA) : WA := fun env Q x => w env (fun d => ∃ xs, (d = .tup xs ∨ d = .lst xs) ∧ r env (fun ds => Q (xs ++ ds)) x) x
variable {es : List Expr} {wa : WA}
theorem ua_nil : UA X E [] waNil := ⟨PA.wk pa_nil fun σ H Q ⟨dr, sa, F, env, S, q⟩ => q [] F H (Evo.refl S.toBs) .nil, fun env Q Q' x x' k _ q => k _ q⟩
theorem ua_cons (h : UE X E e w) (r : UA X E es wa) (hs : starEach (e :: es) X.env = (false, eval e X.env) :: starEach es X.env := by rfl) : UA X E (e :: es) (waCons w wa) :=
  ⟨PA.wk (pa_cons h.pe r.pe hs) fun σ H Q ⟨dr, sa, F, env, S, q⟩ => ⟨dr, sa, F, env, S, h.mono env _ _ _ _ (fun d q1 v F1 H1 e1 r1 => ⟨dr, sa, F1, env, S.evo e1, r.mono env _ _ _ _ (fun ds q2 vs F2 H2 e2 r2 => q2 (v :: vs) F2 H2 (e1.trans e2) (.cons (Rp.mono e2.fs d r1) r2)) (fun _ _ _ z => z.evo e1) q1⟩) (fun _ _ _ z => z) q⟩,
   fun env Q Q' x x' k kx q => h.mono env _ _ _ _ (fun d q1 => r.mono env _ _ _ _ (fun ds q2 => k _ q2) kx q1) kx q⟩
theorem ua_star {p : Pos} (h : UO X E e w) (r : UA X E es wa) (hs : starEach (.Starred e p :: es) X.env = (true, eval e X.env) :: starEach es X.env := by rfl) : UA X E (.Starred e p :: es) (waStar w wa) :=
  ⟨PA.wk (StX.pa_star h.pe r.pe hs) fun σ H Q ⟨dr, sa, F, env, S, q⟩ => ⟨dr, sa, F, env, S, h.mono env _ _ _ _ (fun d ⟨xs, ed, q1⟩ v F1 H1 e1 r1 => by
    have fin : ∀ (p : Addr) (vs : List V), v = .ref p → (SqT X.K H1 p vs ∨ SqL X.K H1 p vs) → RpA X.K dr F1 vs xs → ∃ p xs, v = V.ref p ∧ (SqT X.K H1 p xs ∨ SqL X.K H1 p xs) ∧ tGA E X.K wa σ H1 fun ys H2 => Q (xs ++ ys) H2 := fun p vs ev sq rr =>
      ⟨p, vs, ev, sq, dr, sa, F1, env, S.evo e1, r.mono env _ _ _ _ (fun ds q2 us F2 H2 e2 r2 => q2 (vs ++ us) F2 H2 (e1.trans e2) ((RpA.mono e2.fs xs rr).append r2)) (fun _ _ _ z => z.evo e1) q1⟩
    rcases ed with rfl | rfl
    · obtain ⟨p, vs, ev, s1, _, rr⟩ := ro_tup e1.toBs.sub r1
      exact fin p vs ev (.inl s1) rr
    · obtain ⟨p, vs, ev, s1, rr⟩ := ro_lst e1.toBs.sub r1
      exact fin p vs ev (.inr (sqL s1)) rr) (fun _ _ _ z => z) q⟩,
   fun env Q Q' x x' k kx q => h.mono env _ _ _ _ (fun d ⟨xs, ed, q1⟩ => ⟨xs, ed, r.mono env _ _ _ _ (fun ds q2 => k _ q2) kx q1⟩) kx q⟩
def wTup (r : WA) : WE := fun env Q x => r env (fun ds => ds.length ≤ most ∧ Q (.tup ds)) x
def wLst (r : WA) : WE := fun env Q x => r env (fun ds => ds.length ≤ most ∧ Q (.lst ds)) x
theorem ue_tup {x1 : Nat} (r : UA X E es wa) : UE X E (.Tuple es x1 pos) (wTup wa) :=
  ⟨PE.wk (pe_tup r.pe) fun σ H Q ⟨dr, sa, F, env, S, q⟩ => ⟨dr, sa, F, env, S, r.mono env _ _ _ _ (fun ds ⟨hl, q1⟩ vs F1 H1 e1 r1 => ⟨by rw [r1.length]; exact most_le hl, fun p hp => by
    obtain ⟨ev, rp⟩ := Evo.tup e1.toBs hp r1
    exact q1 _ _ _ (e1.trans ev) rp⟩) (fun _ _ _ z => z) q⟩, fun env Q Q' x x' k kx q => r.mono env _ _ _ _ (fun ds q1 => ⟨q1.1, k _ q1.2⟩) kx q⟩
theorem uf_lst (r : UA X E es wa) : UF X E (.List es pos) (wLst wa) :=
  ⟨PE.wk (pe_lst r.pe) fun σ H Q ⟨dr, sa, F, env, S, q⟩ => ⟨dr, sa, F, env, S, r.mono env _ _ _ _ (fun ds ⟨hl, q1⟩ vs F1 H1 e1 r1 => ⟨by rw [r1.length]; exact most_le hl, fun p hp => by
    obtain ⟨ev, fp, nd⟩ := own_new (σ := σ) (env := env) (u := .lst vs) e1.toBs hp
    have h0 : H p = none := e1.none0 nd hp
    exact q1 p F1 _ (e1.trans ev) h0 fp nd rfl ⟨vs, upd_same, r1⟩⟩) (fun _ _ _ z => z) q⟩, fun env Q Q' x x' k kx q => r.mono env _ _ _ _ (fun ds q1 => ⟨q1.1, k _ q1.2⟩) kx q⟩
end
end U
/-! U5: subscripts, slices, fields, chains of comparisons. -/
namespace U
open PySem PySem.Spec PyProof.Rows L2
variable [Wo]

/-! ### a[b] -/
def rIxDict : R2 := fun x y H Q => ∃ a v, x = .ref a ∧ DGet H a y (some v) ∧ Q v H
theorem ix_dict {X : Cx} (hu : X.A.units + 1 < cLine) : IxR X rIxDict := by
  rintro value slice pins s σ H x y o i Q I rx ry ⟨a, v, rfl, g, q⟩ hs
  cases rx
  have dT := dict_typeIs I g
  have ok : wpAny (model X.prog X.w) X.A (getItem (.ref a) i) (EP X pins σ Q) X.xe s := d_getItem hu I g ry fun z t J rz => ⟨v, H, J, rz, q⟩
  have rest : wpAny (model X.prog X.w) X.A (subscripted slice false (.ref a) i) (fun r t => wpAny (model X.prog X.w) X.A (letTemporaryGo value (.ref a) r >>= fun _ => pure r) (EP X pins σ Q) X.xe t) X.xe s := by
    rw [hs]
    exact wpAny_operating (thn ok fun r t z => wpAny_bind (wpAny_letTemporaryGo (wpAny_pure z)))
  unfold subscriptTail
  apply wpAny_bind
  rw [getitemInPython_of_ne dT.not_modules]
  refine wpAny_bind (wpAny_specialOf dT PySem.F.slot_dict_getitem.lookup ?_)
  first | exact wpAny_pure (wpAny_bind rest) | exact wpAny_bind (wpAny_pure (wpAny_bind rest)) | exact wpAny_bind rest
def rIxG (w : World) : R2 := fun x y H Q => ∃ a b kvs k v, x = .ref a ∧ y = .ref b ∧ Rd H a (GD w a kvs) ∧ KeysG H kvs ∧ NkH H (.ref b) k ∧ k.depth ≤ 8 ∧ valG kvs k = some v ∧ Q v H
theorem gd_typeIs {X : Cx} {pins : List (Addr × Obj)} {σ : L2.St} {H : Hp} {s : Shared} {a : Addr} {kvs : GKV} (I : Inv X pins σ H s) (e : Rd H a (GD X.w a kvs)) (hk : KeysG H kvs) : s.TypeIs (.ref a) "dict" := by
  obtain ⟨_, _, xs, _, dd⟩ := gd_at I.hok e hk
  exact dd.typeIs
theorem ix_gd {X : Cx} (hu : X.A.units + 9 < cLine) : IxR X (rIxG X.w) := by
  rintro value slice pins s σ H x y o i Q I rx ry ⟨a, b, kvs, k, v, rfl, rfl, e, hk, n, hd, hv, q⟩ hs
  cases rx
  cases ry
  have dT := gd_typeIs I e hk
  have ok : wpAny (model X.prog X.w) X.A (getItem (.ref a) (.ref b)) (EP X pins σ Q) X.xe s := g_getItem hu I e hk n hd hv fun z t J rz => ⟨v, H, J, rz, q⟩
  have rest : wpAny (model X.prog X.w) X.A (subscripted slice false (.ref a) (.ref b)) (fun r t => wpAny (model X.prog X.w) X.A (letTemporaryGo value (.ref a) r >>= fun _ => pure r) (EP X pins σ Q) X.xe t) X.xe s := by
    rw [hs]
    exact wpAny_operating (thn ok fun r t z => wpAny_bind (wpAny_letTemporaryGo (wpAny_pure z)))
  unfold subscriptTail
  apply wpAny_bind
  rw [getitemInPython_of_ne dT.not_modules]
  refine wpAny_bind (wpAny_specialOf dT PySem.F.slot_dict_getitem.lookup ?_)
  first | exact wpAny_pure (wpAny_bind rest) | exact wpAny_bind (wpAny_pure (wpAny_bind rest)) | exact wpAny_bind rest
def oIx : OD := fun d1 d2 Q => match d1 with
  | .lst xs => ∃ i d, d2 = .int i ∧ atI xs i = some d ∧ Q d
  | .tup xs => ∃ i d, d2 = .int i ∧ atI xs i = some d ∧ Q d
  | .scr ns => ∃ i n, d2 = .int i ∧ atI ns i = some n ∧ Q (.int n)
  | .str z => ∃ i c, d2 = .int i ∧ z.length ≤ most ∧ atI z.cps.toList i = some c ∧ Q (.str ⟨#[c]⟩)
  | .dct ks vs => ∃ k d, d2 = kD k ∧ lookD ks vs k = some d ∧ Q d
  | .dcT ks vs => ∃ (k : NestedKey) (d : D), nkT d2 = some k ∧ lookT ks vs k = some d ∧ Q d
  | _ => False
theorem oIx_mono : OMono oIx := fun d1 d2 Q Q' k h => by
  unfold oIx at h ⊢
  split at h
  · obtain ⟨i, d, a, b, c⟩ := h
    exact ⟨i, d, a, b, k _ c⟩
  · obtain ⟨i, d, a, b, c⟩ := h
    exact ⟨i, d, a, b, k _ c⟩
  · obtain ⟨i, d, a, b, c⟩ := h
    exact ⟨i, d, a, b, k _ c⟩
  · obtain ⟨i, d, a, b, c, e⟩ := h
    exact ⟨i, d, a, b, c, k _ e⟩
  · obtain ⟨i, d, a, b, c⟩ := h
    exact ⟨i, d, a, b, k _ c⟩
  · obtain ⟨i, d, a, b, c⟩ := h
    exact ⟨i, d, a, b, k _ c⟩
  · exact h
theorem atI_map {ns : List Int} {i n : Int} (h : atI ns i = some n) : atI (ns.map V.int) i = some (.int n) := by
  unfold atI at h ⊢
  rw [List.length_map]
  cases e : ixN ns.length i with
  | none =>
    rw [e] at h
    cases h
  | some j =>
    rw [e] at h
    have h : ns[j]? = some n := h
    show (ns.map V.int)[j]? = _
    rw [List.getElem?_map, h]
    rfl
theorem ro_scr {K : PySem.W.Frag} {dr : Addr} {F H : Hp} (sub : Sub F H) {ns : List Int} {v : V} (h : RO K dr F H v (.scr ns)) : ∃ p, v = .ref p ∧ SqL K H p (ns.map V.int) ∧ ns.length ≤ 63 := by
  rcases h with h | ⟨p, rfl, _, _, h⟩
  · cases h with
    | scr h1 h2 => exact ⟨_, rfl, h2.1.elim (fun e => by subst e; exact .inl (.inl (sub _ _ h1))) fun ⟨ob, e⟩ => by subst e; exact .inl (.inr ⟨ob, sub _ _ h1⟩), h2.2⟩
  · exact h.elim
theorem atI_rp {K : PySem.W.Frag} {dr : Addr} {F : Hp} {vs : List V} {ds : List D} {i : Int} {d : D} (r : RpA K dr F vs ds) (h : atI ds i = some d) : ∃ v, atI vs i = some v ∧ Rp K dr F v d := by
  unfold atI at h ⊢
  rw [r.length]
  cases e : ixN ds.length i with
  | none =>
    rw [e] at h
    cases h
  | some j =>
    rw [e] at h
    exact r.at_ h
section
variable {X : Cx} {E : XK} {e a b c : Expr} {w w1 w2 w3 : WE} {wt wt2 : WT} {pos p2 : Pos}
abbrev rIxU (K : PySem.W.Frag) (w : World) : R2 := fun x y H Q => rIx K x y H Q ∨ (rIxDict x y H Q ∨ rIxG w x y H Q)
theorem opd_ix (hw : X.w = Wo.w) : OpD X (rIxU X.K X.w) oIx := by
  intro dr sa F H x y d1 d2 Q B r1 r2 h
  unfold oIx at h
  split at h
  · obtain ⟨i, d, rfl, h1, h2⟩ := h
    obtain ⟨p, xs, rfl, e1, q1⟩ := ro_lst B.sub r1
    obtain ⟨v, hv, rv⟩ := atI_rp q1 h1
    exact .inl (.inl ⟨p, xs, i, v, rfl, ro_int r2, sqL e1, hv, h2 v F H (Evo.refl B) rv⟩)
  · obtain ⟨i, d, rfl, h1, h2⟩ := h
    obtain ⟨p, xs, rfl, e1, _, q1⟩ := ro_tup B.sub r1
    obtain ⟨v, hv, rv⟩ := atI_rp q1 h1
    exact .inl (.inr (.inl ⟨p, xs, i, v, rfl, ro_int r2, e1, hv, h2 v F H (Evo.refl B) rv⟩))
  · obtain ⟨i, n, rfl, h1, h2⟩ := h
    obtain ⟨p, rfl, e1, _⟩ := ro_scr B.sub r1
    exact .inl (.inl ⟨p, _, i, .int n, rfl, ro_int r2, e1, atI_map h1, h2 _ F H (Evo.refl B) (.int n)⟩)
  · obtain ⟨i, c, rfl, h0, h1, h2⟩ := h
    exact .inl (.inr (.inr ⟨_, i, c, ro_str r1, ro_int r2, most_le h0, h1, h2 _ F H (Evo.refl B) (.str _)⟩))
  · obtain ⟨k, d, rfl, h1, h2⟩ := h
    obtain ⟨p, kvs, rfl, e1, rfl, q1⟩ := ro_dct B.sub r1
    obtain ⟨v, hv, rv⟩ := (look_val q1).2 d h1
    have ex : y = kV k := rp_key (ro_flat (by cases k <;> rfl) r2)
    subst ex
    exact .inr (.inl ⟨p, v, rfl, .inl ⟨kvs, k, e1, rfl, hv.symm⟩, h2 v F H (Evo.refl B) rv⟩)
  · obtain ⟨k, d, hk, h1, h2⟩ := h
    obtain ⟨p, kvs, rfl, e1, ek, rk, q1⟩ := ro_dcT B.sub r1
    obtain ⟨v, hv, rv⟩ := (look_valT ek q1).2 d h1
    obtain ⟨h5, h6, ds, rfl⟩ := nkT_iff hk
    have r2' : Rp X.K dr F y (.tup ds) := by
      rcases r2 with r2 | ⟨_, _, _, _, r2⟩
      · exact r2
      · exact r2.elim
    obtain ⟨b, rfl, n, hd⟩ := nkT_of B.sub r2' hk
    exact .inr (.inr ⟨p, b, kvs, k, v, rfl, rfl, by rw [hw]; exact e1, keysG_of B.sub ek rk, n, hd, hv, h2 v F H (Evo.refl B) rv⟩)
  · exact h.elim
theorem ue_ix (hw : X.w = Wo.w) (hu : X.A.units + 64 < cLine) (ha : UO X E a w1) (hb : UO X E b w2) (hs : PlainIx b) : UE X E (.Subscript a b pos) (wOp oIx w1 w2) := ue_op2 (t := fun a _ => a) (opd_ix hw) oIx_mono ha hb (pe_ix (IxR.or ix_seq (IxR.or (ix_dict (by omega)) (ix_gd (by omega)))) ha.pe hb.pe hs)

/-! ### slices -/
abbrev WO := En → (Option Int → Prop) → XP → Prop
def tGO (E : XK) (K : PySem.W.Frag) (w : WO) : TO := fun σ H Q => ∃ dr sa F env, Sr K dr sa F σ H env ∧ w env (fun o => ∀ F' H', Evo dr sa F H F' H' → Q o H') (xw E K dr sa F H)
structure UP (X : Cx) (E : XK) (e : Option Expr) (w : WO) : Prop where
  pe : PO X e (tGO E X.K w)
  mono : ∀ env (Q Q' : Option Int → Prop) (x x' : XP), (∀ d, Q d → Q' d) → (∀ c n v, x c n v → x' c n v) → w env Q x → w env Q' x'
def woNone : WO := fun _ Q _ => Q none
def woSome (w : WE) : WO := fun env Q x => w env (fun d => ∃ i, d = .int i ∧ Q (some i)) x
theorem up_none : UP X E none woNone := ⟨⟨fun pins s σ H Q I ⟨dr, sa, F, env, S, q⟩ => po_none.run pins s σ H Q I (q F H (Evo.refl S.toBs))⟩, fun env Q Q' x x' k _ q => k _ q⟩
theorem rp_int {K : PySem.W.Frag} {dr : Addr} {F : Hp} {v : V} {i : Int} (h : Rp K dr F v (.int i)) : v = .int i := by
  cases h
  rfl
theorem up_some (h : UE X E e w) : UP X E (some e) (woSome w) :=
  ⟨⟨fun pins s σ H Q I ⟨dr, sa, F, env, S, q⟩ => (po_some h.pe).run pins s σ H Q I ⟨dr, sa, F, env, S, h.mono env _ _ _ _ (fun d ⟨i, e, r⟩ v F' H' ev rp => by
    subst e
    exact ⟨i, rp_int rp, r F' H' ev⟩) (fun _ _ _ z => z) q⟩⟩, fun env Q Q' x x' k kx q => h.mono env _ _ _ _ (fun d ⟨i, e, r⟩ => ⟨i, e, k _ r⟩) kx q⟩
def cutD (xs : List D) (lo hi : Option Int) : List D := (xs.drop (HT.sIx xs.length 0 lo)).take (HT.sIx xs.length xs.length hi - HT.sIx xs.length 0 lo)
theorem cut_rp {K : PySem.W.Frag} {dr : Addr} {F : Hp} {vs : List V} {ds : List D} (lo hi : Option Int) (r : RpA K dr F vs ds) : RpA K dr F (cutV vs lo hi) (cutD ds lo hi) := by
  unfold cutV cutD
  rw [r.length]
  exact (r.drop _).take _
/-- the whole, cut from its start to its end -/
theorem cut_all {xs : List D} {lo hi : Option Int} (h : HT.sIx xs.length 0 lo = 0 ∧ HT.sIx xs.length xs.length hi = xs.length) : cutD xs lo hi = xs := by
  unfold cutD
  rw [h.1, h.2, List.drop_zero, Nat.sub_zero, List.take_length]
def wCut (w : WE) (lo hi : WO) : WE := fun env Q x => w env (fun d => lo env (fun l => hi env (fun u => match d with
  | .lst xs => Q (.lst (cutD xs l u))
  | .tup xs => Q (.tup (cutD xs l u))
  | _ => False) x) x) x
abbrev rCut (K : PySem.W.Frag) : V → Option Int → Option Int → Hp → VK → Prop := fun x l u H Q => rSlL K x l u H Q ∨ rSlA K x l u H Q
theorem ue_cut {lo hi : Option Expr} {wl wh : WO} (ha : UO X E a w) (hl : UP X E lo wl) (hh : UP X E hi wh) : UE X E (.Subscript a (.Slice lo hi none p2) pos) (wCut w wl wh) := by
  refine ⟨PE.wk (pe_slice (r := rCut X.K) (SlR.or sl_list sl_tupA) ha.pe hl.pe hh.pe) fun σ H Q ⟨dr, sa, F, env, S, q⟩ => ?_, fun env Q Q' x x' k kx q => ha.mono env _ _ _ _ (fun d q1 => hl.mono env _ _ _ _ (fun l q2 => hh.mono env _ _ _ _ (fun u q3 => ?_) kx q2) kx q1) kx q⟩
  · refine ⟨dr, sa, F, env, S, ha.mono env _ _ _ _ (fun d q1 v F1 H1 e1 r1 => ?_) (fun _ _ _ z => z) q⟩
    refine ⟨dr, sa, F1, env, S.evo e1, hl.mono env _ _ _ _ (fun l q2 F2 H2 e2 => ?_) (fun _ _ _ z => z.evo e1) q1⟩
    refine ⟨dr, sa, F2, env, (S.evo e1).evo e2, hh.mono env _ _ _ _ (fun u q3 F3 H3 e3 => ?_) (fun _ _ _ z => (z.evo e1).evo e2) q2⟩
    have ev := (e1.trans e2).trans e3
    have r3 := (r1.evo e2).evo e3
    split at q3
    · obtain ⟨p, xs, rfl, a1, a2⟩ := ro_lst e3.toBs.sub r3
      refine .inl ⟨p, xs, rfl, sqL a1, fun z hz => ?_⟩
      obtain ⟨e4, r4⟩ := Evo.lst e3.toBs hz (cut_rp l u a2)
      exact q3 _ _ _ (ev.trans e4) r4
    · obtain ⟨p, xs, rfl, a1, a3, a2⟩ := ro_tup e3.toBs.sub r3
      refine .inr ⟨p, xs, rfl, a1, fun z => ?_, fun _ z hz => ?_⟩
      · rw [a2.length] at z
        rw [cut_all z] at q3
        exact q3 _ _ _ ev (.tup a3 a2)
      · obtain ⟨e4, r4⟩ := Evo.tup e3.toBs hz (cut_rp l u a2)
        exact q3 _ _ _ (ev.trans e4) r4
    · exact q3.elim
  · split at q3 <;> first | exact k _ q3 | exact q3.elim

/-! ### o.f -/
def lookF : List Str → List D → Str → Option D
  | n :: ns, v :: vs, f => if f = n then some v else lookF ns vs f
  | _, _, _ => none
theorem look_fld {K : PySem.W.Frag} {dr : Addr} {F : Hp} {f : Str} {d : D} : ∀ {fs : List (Str × V)} {vs : List D}, RpA K dr F (fs.map (·.2)) vs → lookF (fs.map (·.1)) vs f = some d → ∃ v, fs.lookup f = some v ∧ Rp K dr F v d
  | [], vs, h, e => by
    cases h
    cases e
  | (n, v) :: fs, vs, h, e => by
    cases h with
    | cons h1 h2 =>
      rename_i d1 ds1
      have e' : (if f = n then some d1 else lookF (fs.map (·.1)) ds1 f) = some d := e
      by_cases q : f = n
      · rw [if_pos q] at e'
        cases e'
        refine ⟨v, ?_, h1⟩
        rw [q, List.lookup_cons_self]
      · rw [if_neg q] at e'
        obtain ⟨w, hw, r⟩ := look_fld h2 e'
        refine ⟨w, ?_, r⟩
        have qb : (f == n) = false := by
          cases z : f == n with
          | false => rfl
          | true => exact absurd (eq_of_beq z) q
        rw [List.lookup_cons, qb]
        exact hw
/-- the field f, of an instance of one of these classes -/
def wFld (cs : List Str) (f : Str) (w : WE) : WE := fun env Q x => w env (fun d => ∃ c ns vs v, d = .ins c ns vs ∧ c ∈ cs ∧ lookF ns vs f = some v ∧ Q v) x
theorem ue_fld (cs : List Str) {f : Str} (hc : ∀ c ∈ cs, Cls X.K (He.ga X.K c) ∧ NoAttr X.K (He.ga X.K c) f) (h : UO X E e w) (hb : attributeBase e f X.env (eval e X.env) = eval e X.env := by rfl) : UE X E (.Attribute e f pos) (wFld cs f w) :=
  ⟨PE.wk (pe_fld h.pe hb) fun σ H Q ⟨dr, sa, F, env, S, q⟩ => ⟨dr, sa, F, env, S, h.mono env _ _ _ _ (fun d ⟨c, ns, vs, u, ed, ec, el, q1⟩ v F1 H1 e1 r1 => by
    subst ed
    obtain ⟨hc1, hc2⟩ := hc c ec
    have fin : ∀ (p C dx : Addr) (fs : List (Str × V)), v = .ref p → H1 p = some (.ins C dx fs) → C = He.ga X.K c → fs.map (·.1) = ns → RpA X.K dr F1 (fs.map (·.2)) vs → ∃ a C dx fs v', v = .ref a ∧ H1 a = some (.ins C dx fs) ∧ Cls X.K C ∧ NoAttr X.K C f ∧ fs.lookup f = some v' ∧ Q v' H1 := fun p C dx fs ev hp eC en rr => by
      subst eC en
      obtain ⟨z, hz, rz⟩ := look_fld rr el
      exact ⟨p, _, dx, fs, z, ev, hp, hc1, hc2, hz, q1 z F1 H1 e1 rz⟩
    rcases r1 with r1 | ⟨p, ev, _, _, C, dx, fs, hp, eC, en, rr⟩
    · cases r1 with
      | ins g1 g2 g3 g4 => exact fin _ _ _ _ rfl (e1.toBs.sub _ _ g1) g2 g3 g4
    · exact fin p C dx fs ev hp eC en rr) (fun _ _ _ z => z) q⟩,
   fun env Q Q' x x' k kx q => h.mono env _ _ _ _ (fun d ⟨c, ns, vs, v, a1, a2, a3, q1⟩ => ⟨c, ns, vs, v, a1, a2, a3, k _ q1⟩) kx q⟩

/-! ### a op b op2 c -/
def wChain (o o2 : OD) (w1 w2 w3 : WE) : WE := fun env Q x => w1 env (fun d1 => w2 env (fun d2 => o d1 d2 (isB fun k => if k = true then w3 env (fun d3 => o2 d2 d3 Q) x else Q (.bl false))) x) x
theorem wChain_mono {o o2 : OD} (om : OMono o) (om2 : OMono o2) (ha : UO X E a w1) (hb : UO X E b w2) (hc : UO X E c w3) : ∀ env (Q Q' : D → Prop) (x x' : XP), (∀ d, Q d → Q' d) → (∀ c n v, x c n v → x' c n v) → wChain o o2 w1 w2 w3 env Q x → wChain o o2 w1 w2 w3 env Q' x' :=
  fun env Q Q' x x' k kx q => ha.mono env _ _ _ _ (fun d1 q1 => hb.mono env _ _ _ _ (fun d2 q2 => om d1 d2 _ _ (fun d ⟨z, ez, r⟩ => ⟨z, ez, by
    cases z
    · exact k _ r
    · exact hc.mono env _ _ _ _ (fun d3 q3 => om2 d2 d3 _ _ k q3) kx r⟩) q2) kx q1) kx q
theorem chain_in {op op2 : CmpOp} {r r2 : R2} {o o2 : OD} (cu : CmpU X op r o) (cu2 : CmpU X op2 r2 o2) (ha : UO X E a w1) (hb : UO X E b w2) (hc : UO X E c w3) {σ : L2.St} {H : Hp} {Q : VK} (h : tG RF E X.K (wChain o o2 w1 w2 w3) σ H Q) : tChain r r2 (tG RO E X.K w1) (tG RO E X.K w2) (tG RO E X.K w3) σ H Q := by
  obtain ⟨dr, sa, F, env, S, q⟩ := h
  refine ⟨dr, sa, F, env, S, ha.mono env _ _ _ _ (fun d1 q1 v1 F1 H1 e1 r1 => ?_) (fun _ _ _ z => z) q⟩
  refine ⟨dr, sa, F1, env, S.evo e1, hb.mono env _ _ _ _ (fun d2 q2 v2 F2 H2 e2 s2 => ?_) (fun _ _ _ z => z.evo e1) q1⟩
  refine cu.d dr sa F2 H2 v1 v2 d1 d2 _ e2.toBs (r1.evo e2) s2 (cu.m d1 d2 _ _ (fun d q3 v F3 H3 e3 s3 => ?_) q2)
  obtain ⟨k, ek, t⟩ := q3
  subst ek
  refine ⟨k, rp_bl s3, ?_⟩
  have ev := (e1.trans e2).trans e3
  cases k
  · exact t _ F3 H3 ev (.bl _)
  · refine ⟨dr, sa, F3, env, S.evo ev, hc.mono env _ _ _ _ (fun d3 q4 v4 F4 H4 e4 s4 => ?_) (fun _ _ _ z => z.evo ev) t⟩
    exact cu2.d dr sa F4 H4 v2 v4 d2 d3 Q e4.toBs ((s2.evo e3).evo e4) s4 (cu2.m d2 d3 _ _ (fun d q5 v F' H' e5 s5 => q5 v F' H' ((ev.trans e4).trans e5) s5) q4)
theorem ue_chain {op op2 : CmpOp} {r r2 : R2} {o o2 : OD} (cu : CmpU X op r o) (cu2 : CmpU X op2 r2 o2) (ha : UO X E a w1) (hb : UO X E b w2) (hc : UO X E c w3) (hm : lastMarks [op, op2] [b, c] = false := by with_unfolding_all rfl) : UE X E (.Compare a [op, op2] [b, c] pos) (wChain o o2 w1 w2 w3) :=
  ⟨PE.wk (pe_chain cu.op cu2.op ha.pe hb.pe hc.pe hm) fun σ H Q h => chain_in cu cu2 ha hb hc h, wChain_mono cu.m cu2.m ha hb hc⟩
theorem ut_chain {op op2 : CmpOp} {r r2 : R2} {o o2 : OD} (cu : CmpU X op r o) (cu2 : CmpU X op2 r2 o2) (ha : UO X E a w1) (hb : UO X E b w2) (hc : UO X E c w3) (hm : lastMarks [op, op2] [b, c] = false := by with_unfolding_all rfl) : UT X E (.Compare a [op, op2] [b, c] pos) (wT (wChain o o2 w1 w2 w3)) := by
  have hu : UE X E (.Compare a [op, op2] [b, c] pos) (wChain o o2 w1 w2 w3) := ue_chain cu cu2 ha hb hc hm
  refine ⟨PT.wk (pt_chain cu.op cu2.op ha.pe hb.pe hc.pe hm) fun σ H Q ⟨dr, sa, F, env, S, q⟩ => ?_, wT_mono hu⟩
  refine chain_in cu cu2 ha hb hc ⟨dr, sa, F, env, S, hu.mono env _ _ _ _ (fun d ⟨k, ek, t⟩ v F' H' ev rp => ?_) (fun _ _ _ z => z) q⟩
  subst ek
  exact ⟨k, rp_bl rp, t F' H' ev⟩
end
end U
/-! U6: a body's context; calls of defs, methods, classes; built-ins. -/
namespace U
open PySem PySem.Spec PyProof.Rows L2
variable [Wo]

/-- what stays through the law: the program, the world, the written part -/
structure Wd where
  P : Program
  w : World
  K : PySem.W.Frag
  mg : Str → Option Value
  base : Heap
abbrev wd (X : Cx) : Wd := ⟨X.prog, X.w, X.K, X.mg, X.base⟩
/-- what every place of a body has: room for calls, its errors' way -/
structure Ctx (k : Nat) (X : Cx) (E : XK) : Prop where
  w : X.w = Wo.w
  room : Room k X.A
  calm : X.calm = true
  nd : X.N.Nodup
  tk : Takes X (fun cls d _ H => E cls d H)
  po : PassesOwn (model X.prog X.w) X.A X.env X.xe
section
variable {k : Nat} {X : Cx} {E : XK}
theorem Ctx.hu (c : Ctx k X E) : X.A.units + 64 < cLine := c.room.units
theorem Ctx.hu1 (c : Ctx k X E) : X.A.units + 1 < cLine := hu_of c.room
theorem Ctx.hu65 (c : Ctx k X E) : X.A.units + 65 < cLine := by
  have := c.room.un
  omega
theorem Ctx.pass (c : Ctx k X E) : Passes (L2.CX X.prog X.w) X E := passes_call c.tk fun _ _ _ _ h => h
end

/-- what a def does with data: wanted of its value, of its errors -/
abbrev FW := List D → (D → Prop) → XP → Prop
def FMono (fw : FW) : Prop := ∀ ds (Q Q' : D → Prop) (x x' : XP), (∀ d, Q d → Q' d) → (∀ c n v, x c n v → x' c n v) → fw ds Q x → fw ds Q' x'
/-- a def's promise over data -/
def spU (K : PySem.W.Frag) (n : Nat) (fw : FW) : Sp := fun vs H Q E => ∃ dr sa F ds, Bs dr sa F H ∧ RpA K dr F vs ds ∧ ds.length = n ∧ fw ds (fun d => ∀ v F' H', Evo dr sa F H F' H' → Rp K dr F' v d → Q v H') (xw E K dr sa F H)
/-- __init__'s promise: what the instance is in the end -/
def spI (K : PySem.W.Frag) (c : Str) (n : Nat) (fw : FW) : Sp := fun vs H Q E => ∃ dr sa F ds H1 x dx us, vs = .ref x :: us ∧ H1 x = none ∧ H1 dx = none ∧ dx ≠ x ∧ H = upd (upd H1 dx (.own x)) x (.ins (He.ga K c) dx []) ∧
  Bs dr sa F H1 ∧ RpA K dr F us ds ∧ ds.length = n ∧ fw ds (fun d => ∀ F' H', Evo dr sa F H1 F' H' → Rp K dr F' (.ref x) d → Q .non H') (xw E K dr sa F H1)

/-- a def that keeps its promise, at its place -/
structure Fn (V : Wd) (k : Nat) (x : Str) (n : Nat) (fw : FW) : Prop where
  ex : ∃ (f : Addr) (fd : FuncData) (ps : List Str), FnOk V.P V.w V.K V.mg V.base (L2.CX V.P V.w) k f fd ps (spU V.K n fw) ∧ V.mg x = some (.ref f) ∧ PySem.W.keepIn V.K (.ref f) = true ∧ Binds V.K fd ps []
  mono : FMono fw
section
variable {X : Cx} {E : XK} {k j n : Nat} {x m : Str} {fw : FW} {e : Expr} {es : List Expr} {wa : WA} {w w1 w2 : WE} {p pos apos : Pos}
def wCall (n : Nat) (fw : FW) (wa : WA) : WE := fun env Q x => wa env (fun ds => ds.length = n ∧ fw ds Q x) x
theorem PE.ex {α : Type} {t : α → TE} {P : α → Prop} (hP : ∃ a, P a) (h : ∀ a, P a → PE X e (t a)) {t' : TE} (k : ∀ a, P a → ∀ σ H Q, t' σ H Q → t a σ H Q) : PE X e t' := by
  obtain ⟨a, ha⟩ := hP
  exact PE.wk (h a ha) (k a ha)
theorem call_at {dr sa : Addr} {F H F1 H1 : Hp} {Q : VK} {fw : FW} (fm : FMono fw) {vs : List V} {ds : List D} (e1 : Evo dr sa F H F1 H1) (r1 : RpA X.K dr F1 vs ds) (hl : ds.length = n) (q : fw ds (fun d => ∀ v F' H', Evo dr sa F H F' H' → Rp X.K dr F' v d → Q v H') (xw E X.K dr sa F H)) : spU X.K n fw (vs ++ []) H1 Q E := by
  rw [List.append_nil]
  exact ⟨dr, sa, F1, ds, e1.toBs, r1, hl, fm _ _ _ _ _ (fun d q1 v F' H' e2 r2 => q1 v F' H' (e1.trans e2) r2) (fun _ _ _ z => z.evo e1) q⟩
theorem wCall_mono (ha : UA X E es wa) (fm : FMono fw) : ∀ env (Q Q' : D → Prop) (x x' : XP), (∀ d, Q d → Q' d) → (∀ c n v, x c n v → x' c n v) → wCall n fw wa env Q x → wCall n fw wa env Q' x' := fun env Q Q' x x' k kx q => ha.mono env _ _ _ _ (fun ds q1 => ⟨q1.1, fm _ _ _ _ _ k kx q1.2⟩) kx q
theorem ue_call (c : Ctx j X E) (f : Fn (wd X) k x n fw) (hk : k ≤ j) (hg : Gl X x) (ha : UA X E (e :: es) wa) (hdb : (x == ("__debug__" : Str)) = false := by decide) (he : starEach (e :: es) X.env = (false, eval e X.env) :: starEach es X.env := by rfl) (hpl : (backTo pos (starEach es X.env)).any (·.1) = false := by rfl) :
    UE X E (.Call (.Name x p) (e :: es) [] pos) (wCall n fw wa) := by
  obtain ⟨⟨f0, fd, ps, F, hm, kp, hb⟩, fm⟩ := f
  exact ⟨PE.wk (pe_call F (c.room.mono hk) hg hm kp hb .nil c.pass ha.pe hdb he hpl) fun σ H Q ⟨dr, sa, F, env, S, q⟩ => ⟨dr, sa, F, env, S, ha.mono env _ _ _ _ (fun ds q1 vs F1 H1 e1 r1 => call_at fm e1 r1 q1.1 q1.2) (fun _ _ _ z => z) q⟩, wCall_mono ha fm⟩
theorem ue_call0 (c : Ctx j X E) (f : Fn (wd X) k x n fw) (hk : k ≤ j) (hg : Gl X x) (hdb : (x == ("__debug__" : Str)) = false := by decide) : UE X E (.Call (.Name x p) [] [] pos) (wCall n fw waNil) := by
  obtain ⟨⟨f0, fd, ps, F, hm, kp, hb⟩, fm⟩ := f
  refine ⟨PE.wk (pe_call0 F (c.room.mono hk) hg hm kp hb .nil c.pass hdb) fun σ H Q ⟨dr, sa, F, env, S, q⟩ => ?_, wCall_mono (ua_nil (X := X) (E := E)) fm⟩
  exact call_at (vs := []) fm (Evo.refl S.toBs) .nil q.1 q.2

/-- a method of a class, as a def whose first argument is the instance -/
structure Mt (V : Wd) (k : Nat) (cl m : Str) (n : Nat) (fw : FW) : Prop where
  ex : ∃ (f : Addr) (fd : FuncData) (ps : List Str), FnOk V.P V.w V.K V.mg V.base (L2.CX V.P V.w) k f fd ps (spU V.K n fw) ∧ Cls V.K (He.ga V.K cl) ∧ Meth V.K (He.ga V.K cl) m f ∧ Binds V.K fd ps []
  mono : FMono fw
def wMeth (cl m : Str) (n : Nat) (fw : FW) (w : WE) (wa : WA) : WE := fun env Q x => w env (fun d => ∃ ns vs, d = .ins cl ns vs ∧ m ∉ ns ∧ wa env (fun ds => (d :: ds).length = n ∧ fw (d :: ds) Q x) x) x
theorem lookup_out {m : Str} : ∀ {fs : List (Str × V)}, m ∉ fs.map (·.1) → fs.lookup m = none
  | [], _ => rfl
  | (a, v) :: fs, h => by
    rw [List.map_cons, List.mem_cons, not_or] at h
    have q : (m == a) = false := by
      cases z : m == a with
      | false => rfl
      | true => exact absurd (eq_of_beq z) h.1
    rw [List.lookup_cons, q]
    exact lookup_out h.2
theorem wMeth_mono {cl : Str} (ho : UE X E e w) (ha : UA X E es wa) (fm : FMono fw) : ∀ env (Q Q' : D → Prop) (x x' : XP), (∀ d, Q d → Q' d) → (∀ c n v, x c n v → x' c n v) → wMeth cl m n fw w wa env Q x → wMeth cl m n fw w wa env Q' x' :=
  fun env Q Q' x x' k kx q => ho.mono env _ _ _ _ (fun d ⟨ns, vs, a1, a2, q1⟩ => ⟨ns, vs, a1, a2, ha.mono env _ _ _ _ (fun ds q2 => ⟨q2.1, fm _ _ _ _ _ k kx q2.2⟩) kx q1⟩) kx q
theorem meth_in {cl : Str} {o : Expr} (fm : FMono fw) (ho : UE X E o w) (ha : UA X E es wa) {σ : L2.St} {H : Hp} {Q : VK} (h : tG RF E X.K (wMeth cl m n fw w wa) σ H Q) : tMeth (He.ga X.K cl) m (spU X.K n fw) [] E (tG RF E X.K w) (tGA E X.K wa) σ H Q := by
  obtain ⟨dr, sa, F, env, S, q⟩ := h
  refine ⟨dr, sa, F, env, S, ho.mono env _ _ _ _ (fun d q1 v F1 H1 e1 r1 => ?_) (fun _ _ _ z => z) q⟩
  obtain ⟨ns, vs, rfl, hn, q2⟩ := q1
  have r0 := r1
  cases r1 with
  | @ins a C dx fs _ _ _ g1 g2 g3 g4 =>
    subst g2 g3
    refine ⟨a, dx, fs, rfl, e1.toBs.sub _ _ g1, lookup_out hn, dr, sa, F1, env, S.evo e1, ha.mono env _ _ _ _ (fun ds q3 us F2 H2 e2 r2 => ?_) (fun _ _ _ z => z.evo e1) q2⟩
    exact call_at (vs := .ref a :: us) fm (e1.trans e2) (.cons (Rp.mono e2.fs _ r0) r2) q3.1 q3.2
theorem ue_meth {cl : Str} {o : Expr} {pl : Sem Bool} (c : Ctx j X E) (f : Mt (wd X) k cl m n fw) (hk : k ≤ j) (ho : UE X E o w) (ha : UA X E (e :: es) wa)
    (hst : starEach (e :: es) X.env = (false, eval e X.env) :: starEach es X.env := by rfl) (hpl : (backTo pos (starEach es X.env)).any (·.1) = false := by rfl)
    (ht : eval (.Call (.Attribute o m apos) (e :: es) [] pos) X.env = (do
      let ov ← eval o X.env
      standAt apos.atName
      let (f, first) ← holding [ov] (getMethod ov m pl)
      callWith pos f first (backTo pos (starEach (e :: es) X.env)) (backToKw pos (keywordEach [] X.env))) := by rfl) : UE X E (.Call (.Attribute o m apos) (e :: es) [] pos) (wMeth cl m n fw w wa) := by
  obtain ⟨⟨f0, fd, ps, F, cc, hm, hb⟩, fm⟩ := f
  exact ⟨PE.wk (pe_meth ho.pe cc hm F (c.room.mono hk) hb .nil c.pass ha.pe hst hpl ht) fun σ H Q h => meth_in fm ho ha h, wMeth_mono ho ha fm⟩
theorem ue_meth0 {cl : Str} {o : Expr} {pl : Sem Bool} (c : Ctx j X E) (f : Mt (wd X) k cl m n fw) (hk : k ≤ j) (ho : UE X E o w)
    (ht : eval (.Call (.Attribute o m apos) [] [] pos) X.env = (do
      let ov ← eval o X.env
      standAt apos.atName
      let (f, first) ← holding [ov] (getMethod ov m pl)
      callWith pos f first (backTo pos (starEach [] X.env)) (backToKw pos (keywordEach [] X.env))) := by rfl) : UE X E (.Call (.Attribute o m apos) [] [] pos) (wMeth cl m n fw w waNil) := by
  obtain ⟨⟨f0, fd, ps, F, cc, hm, hb⟩, fm⟩ := f
  refine ⟨PE.wk (pe_meth0 ho.pe cc hm F (c.room.mono hk) hb .nil c.pass ht) fun σ H Q ⟨dr, sa, F, env, S, q⟩ => ?_, wMeth_mono ho (ua_nil (X := X) (E := E)) fm⟩
  refine ⟨dr, sa, F, env, S, ho.mono env _ _ _ _ (fun d q1 v F1 H1 e1 r1 => ?_) (fun _ _ _ z => z) q⟩
  obtain ⟨ns, vs, rfl, hn, q2⟩ := q1
  have r0 := r1
  cases r1 with
  | @ins a C dx fs _ _ _ g1 g2 g3 g4 =>
    subst g2 g3
    exact ⟨a, dx, fs, rfl, e1.toBs.sub _ _ g1, lookup_out hn, call_at (vs := [.ref a]) fm e1 (.cons r0 .nil) q2.1 q2.2⟩
/-- one of two readings -/
theorem UE.or {R : RK} (h1 : UG R X E e w1) (h2 : UG R X E e w2) : UG R X E e (fun env Q x => w1 env Q x ∨ w2 env Q x) :=
  ⟨⟨fun pins s σ H Q I ⟨dr, sa, F, env, S, q⟩ => q.elim (fun q => h1.pe.run pins s σ H Q I ⟨dr, sa, F, env, S, q⟩) fun q => h2.pe.run pins s σ H Q I ⟨dr, sa, F, env, S, q⟩⟩,
   fun env Q Q' x x' k kx q => q.elim (fun q => .inl (h1.mono env _ _ _ _ k kx q)) fun q => .inr (h2.mono env _ _ _ _ k kx q)⟩

/-- a class with an __init__ of its own -/
structure Mkr (V : Wd) (k : Nat) (cl : Str) (n : Nat) (fw : FW) : Prop where
  ex : ∃ (f : Addr) (fd : FuncData) (ps : List Str), FnOk V.P V.w V.K V.mg V.base (L2.CX V.P V.w) k f fd ps (spI V.K cl n fw) ∧ Mk V.K (He.ga V.K cl) f ∧ V.mg cl = some (.ref (He.ga V.K cl)) ∧ Binds V.K fd ps []
  mono : FMono fw
theorem ue_make {cl : Str} (c : Ctx j X E) (f : Mkr (wd X) k cl n fw) (hk : k + 1 ≤ j) (hg : Gl X cl) (ha : UA X E (e :: es) wa) (hdb : (cl == ("__debug__" : Str)) = false := by decide) (he : starEach (e :: es) X.env = (false, eval e X.env) :: starEach es X.env := by rfl) (hpl : (backTo pos (starEach es X.env)).any (·.1) = false := by rfl) :
    UE X E (.Call (.Name cl p) (e :: es) [] pos) (wCall n fw wa) := by
  obtain ⟨⟨f0, fd, ps, F, M, hm, hb⟩, fm⟩ := f
  refine ⟨PE.wk (pe_make M F (c.room.mono hk) hg hm hb .nil c.pass ha.pe hdb he hpl) fun σ H Q ⟨dr, sa, F, env, S, q⟩ => ⟨dr, sa, F, env, S, ha.mono env _ _ _ _ (fun ds q1 vs F1 H1 e1 r1 => ?_) (fun _ _ _ z => z) q⟩, wCall_mono ha fm⟩
  intro x dx hx hdx hne
  rw [List.append_nil]
  exact ⟨dr, sa, F1, ds, H1, x, dx, vs, rfl, hx, hdx, hne, rfl, e1.toBs, r1, q1.1, fm _ _ _ _ _ (fun d q2 F' H' e2 r2 => ⟨rfl, q2 (.ref x) F' H' (e1.trans e2) r2⟩) (fun _ _ _ z => z.evo e1) q1.2⟩

/-! ### built-ins, by their arguments' data -/
abbrev O1 := D → (D → Prop) → Prop
def O1Mono (o : O1) : Prop := ∀ d (Q Q' : D → Prop), (∀ d, Q d → Q' d) → o d Q → o d Q'
def CallD (X : Cx) (r : List V → Hp → VK → Prop) (o : O1) : Prop := ∀ dr sa F H x d (Q : VK), Bs dr sa F H → RO X.K dr F H x d → o d (fun d => ∀ v F' H', Evo dr sa F H F' H' → Rp X.K dr F' v d → Q v H') → r [x] H Q
def wB1 (o : O1) (w : WE) : WE := fun env Q x => w env (fun d => o d Q) x
theorem one_in {r : List V → Hp → VK → Prop} {o : O1} (hd : CallD X r o) (om : O1Mono o) (ha : UO X E e w) {σ : L2.St} {H : Hp} {Q : VK} (h : tG RF E X.K (wB1 o w) σ H Q) : tCB r (tCons (tG RO E X.K w) tNil) σ H Q := by
  obtain ⟨dr, sa, F, env, S, q⟩ := h
  refine ⟨dr, sa, F, env, S, ha.mono env _ _ _ _ (fun d q1 v F1 H1 e1 r1 => ?_) (fun _ _ _ z => z) q⟩
  exact hd dr sa F1 H1 v d Q e1.toBs r1 (om d _ _ (fun d q2 v F' H' e2 r2 => q2 v F' H' (e1.trans e2) r2) q1)
theorem wB1_mono {o : O1} (om : O1Mono o) (ha : UO X E e w) : ∀ env (Q Q' : D → Prop) (x x' : XP), (∀ d, Q d → Q' d) → (∀ c n v, x c n v → x' c n v) → wB1 o w env Q x → wB1 o w env Q' x' := fun env Q Q' x x' k kx q => ha.mono env _ _ _ _ (fun d q1 => om d _ _ k q1) kx q
theorem ue_b1 {id : String} {r : List V → Hp → VK → Prop} {o : O1} (hc : CallR X (.builtin id) r) (hd : CallD X r o) (om : O1Mono o) (hg : Gl X x) (hm : X.mg x = none) (hv : bootBuiltins x = some (.builtin id)) (ha : UO X E e w) (hn : x ≠ "__name__" := by decide) (hdb : (x == ("__debug__" : Str)) = false := by decide)
    (hs : starEach [e] X.env = (false, eval e X.env) :: starEach [] X.env := by rfl) : UE X E (.Call (.Name x p) [e] [] pos) (wB1 o w) :=
  ⟨PE.wk (pe_callB hc hg hm hv (pa_cons ha.pe pa_nil hs) hn hdb hs rfl) fun σ H Q h => one_in hd om ha h, wB1_mono om ha⟩
theorem ue_t1 {T : String} {r : List V → Hp → VK → Prop} {o : O1} (hc : CallR X (.type T) r) (hd : CallD X r o) (om : O1Mono o) (hg : Gl X x) (hm : X.mg x = none) (hv : bootBuiltins x = some (.type T)) (ha : UO X E e w) (hn : x ≠ "__name__" := by decide) (hdb : (x == ("__debug__" : Str)) = false := by decide)
    (hs : starEach [e] X.env = (false, eval e X.env) :: starEach [] X.env := by rfl) : UE X E (.Call (.Name x p) [e] [] pos) (wB1 o w) :=
  ⟨PE.wk (pe_callTy hc hg hm hv (pa_cons ha.pe pa_nil hs) hn hdb hs rfl) fun σ H Q h => one_in hd om ha h, wB1_mono om ha⟩
end
end U
/-! U7: statements: the state of a body, names, blocks, tests, returns. -/
namespace U
open PySem PySem.Spec PyProof.Rows L2
variable [Wo]

/-- a body's state: F0, H0 at the entry; own objects are younger -/
structure SsF (K : PySem.W.Frag) (me : Option Addr) (dr sa : Addr) (F0 H0 F : Hp) (σ : L2.St) (H : Hp) (env : En) (ft : Nat → List Addr) : Prop extends SrF K dr sa F σ H env ft where
  evo : Evo dr sa F0 H0 F H
  own0 : ∀ (i : Nat) (a : Addr), a ∈ ft i → H0 a = none
  self : ∀ (a : Addr) (d : D), me = some a → isIns d = true → env[0]? = some (.ow d) → σ[0]? = some (some (V.ref a))
def Ss (K : PySem.W.Frag) (me : Option Addr) (dr sa : Addr) (F0 H0 F : Hp) (σ : L2.St) (H : Hp) (env : En) : Prop := ∃ ft, SsF K me dr sa F0 H0 F σ H env ft
section
variable {K : PySem.W.Frag} {me : Option Addr} {dr sa : Addr} {F0 H0 F H : Hp} {σ : L2.St} {env : En}
theorem Ss.toSr (S : Ss K me dr sa F0 H0 F σ H env) : Sr K dr sa F σ H env := S.elim fun ft S => ⟨ft, S.toSrF⟩
theorem Ss.toBs (S : Ss K me dr sa F0 H0 F σ H env) : Bs dr sa F H := S.elim fun ft S => S.toBs
theorem Ss.evo (S : Ss K me dr sa F0 H0 F σ H env) : Evo dr sa F0 H0 F H := S.elim fun ft S => S.evo
theorem Ss.slot (S : Ss K me dr sa F0 H0 F σ H env) (i : Nat) (x : Vl) (h : env[i]? = some x) : Sl0 K dr F H x σ[i]? := S.elim fun ft S => S.toSrF.slot i x h
theorem Ss.len (S : Ss K me dr sa F0 H0 F σ H env) : σ.length = env.length := S.elim fun ft S => S.len
theorem Ss.self (S : Ss K me dr sa F0 H0 F σ H env) : ∀ (a : Addr) (d : D), me = some a → isIns d = true → env[0]? = some (.ow d) → σ[0]? = some (some (V.ref a)) := S.elim fun ft S => S.self
end
/-- what is wanted behind a statement -/
structure WEn where
  nx : En → Prop
  rt : D → Prop
  bk : En → Prop
  ct : En → Prop
  xe : XP
abbrev WS := WEn → En → Prop
/-- the same wishes from a later place -/
structure WEn.le (D D' : WEn) : Prop where
  nx : ∀ e, D.nx e → D'.nx e
  rt : ∀ d, D.rt d → D'.rt d
  bk : ∀ e, D.bk e → D'.bk e
  ct : ∀ e, D.ct e → D'.ct e
  xe : ∀ c n v, D.xe c n v → D'.xe c n v
theorem WEn.le.refl (D : WEn) : WEn.le D D := ⟨fun _ h => h, fun _ h => h, fun _ h => h, fun _ h => h, fun _ _ _ h => h⟩
def wends (E : XK) (K : PySem.W.Frag) (me : Option Addr) (dr sa : Addr) (F0 H0 F : Hp) (D : Ends) : WEn where
  nx := fun env => ∀ F' σ H, Ss K me dr sa F0 H0 F' σ H env → Sub F F' → D.nx σ H
  rt := fun d => ∀ v F' H, Evo dr sa F0 H0 F' H → Rp K dr F' v d → D.rt v H
  bk := fun env => ∀ F' σ H, Ss K me dr sa F0 H0 F' σ H env → Sub F F' → D.bk σ H
  ct := fun env => ∀ F' σ H, Ss K me dr sa F0 H0 F' σ H env → Sub F F' → D.ct σ H
  xe := xw E K dr sa F0 H0
def tGS (E : XK) (K : PySem.W.Frag) (w : WS) : TS := fun D σ H => ∃ (me : Option Addr) (dr sa : Addr) (F0 H0 F : Hp) (env : En), Ss K me dr sa F0 H0 F σ H env ∧ w (wends E K me dr sa F0 H0 F D) env
def SMono (w : WS) : Prop := ∀ D D' env, WEn.le D D' → w D env → w D' env
structure US (X : Cx) (E : XK) (st : Stmt) (w : WS) : Prop where
  ps : PS X st (tGS E X.K w)
  mono : SMono w
structure UB (X : Cx) (E : XK) (st : List Stmt) (w : WS) : Prop where
  ps : PSs X st (tGS E X.K w)
  mono : SMono w

section
variable {K : PySem.W.Frag} {me : Option Addr} {dr sa : Addr} {F0 H0 F H F' H' : Hp} {σ : L2.St} {env : En} {ft : Nat → List Addr}
theorem SsF.go (S : SsF K me dr sa F0 H0 F σ H env ft) (a : Evo dr sa F H F' H') : SsF K me dr sa F0 H0 F' σ H' env ft :=
  ⟨S.toSrF.evo a, S.evo.trans a, S.own0, S.self⟩
theorem Ss.go (S : Ss K me dr sa F0 H0 F σ H env) (a : Evo dr sa F H F' H') : Ss K me dr sa F0 H0 F' σ H' env := S.elim fun ft S => ⟨ft, S.go a⟩
theorem set_get {α : Type} {l : List α} {i j : Nat} {x y : α} (h : (l.set i x)[j]? = some y) : (j = i ∧ y = x ∧ i < l.length) ∨ (j ≠ i ∧ l[j]? = some y) := by
  by_cases q : i = j
  · subst q
    by_cases hl : i < l.length
    · rw [List.getElem?_set_self hl] at h
      cases h
      exact .inl ⟨rfl, rfl, hl⟩
    · rw [List.getElem?_eq_none (by rw [List.length_set]; omega)] at h
      cases h
  · rw [List.getElem?_set_ne q] at h
    exact .inr ⟨Ne.symm q, h⟩
theorem set_none {α : Type} {l : List α} {i j : Nat} {x : α} (h : (l.set i x)[j]? = none) : l[j]? = none := by
  rw [List.getElem?_eq_none_iff, List.length_set] at h
  exact List.getElem?_eq_none_iff.mpr h
/-- a slot takes a value; l: what it holds alone -/
theorem SsF.set (S : SsF K me dr sa F0 H0 F σ H env ft) (i : Nat) (v : V) (x : Vl) (l : List Addr) (hx : Sl K dr F H x (some (some v)) l) (hn : ∀ d, x = .ow d → isIns d = false) (h0 : ∀ a ∈ l, H0 a = none) (hd : ∀ a ∈ l, ∀ j, j ≠ i → a ∉ ft j) :
    ∃ ft', SsF K me dr sa F0 H0 F (σ.set i (some v)) H (env.set i x) ft' ∧ ∀ j a, a ∈ ft' j → a ∈ l ∨ a ∈ ft j := by
  by_cases hl : i < env.length
  case neg =>
    have e1 : env.set i x = env := List.set_eq_of_length_le (by omega)
    have e2 : σ.set i (some v) = σ := List.set_eq_of_length_le (by rw [S.len]; omega)
    rw [e1, e2]
    exact ⟨ft, S, fun j a h => .inr h⟩
  case pos =>
    have here : (σ.set i (some v))[i]? = some (some v) := List.getElem?_set_self (by rw [S.len]; exact hl)
    refine ⟨fun j => if j = i then l else ft j, ⟨⟨S.toBs, fun j y h => ?_, fun j h => ?_, fun j k a hj hk => ?_, by rw [List.length_set, List.length_set, S.len]⟩, S.evo, fun j a hj => ?_, fun a d hm hd2 h => ?_⟩, fun j a h => ?_⟩
    · rcases set_get h with ⟨rfl, rfl, _⟩ | ⟨ne, h⟩
      · rw [here, if_pos rfl]
        exact hx
      · rw [List.getElem?_set_ne (Ne.symm ne), if_neg ne]
        exact S.slt j y h
    · have ne : j ≠ i := fun z => by
        have h2 := set_none h
        rw [z, List.getElem?_eq_none_iff] at h2
        omega
      show (if j = i then l else ft j) = []
      rw [if_neg ne]
      exact S.out j (set_none h)
    · by_cases qj : j = i
      · by_cases qk : k = i
        · rw [qj, qk]
        · rw [if_pos qj] at hj
          rw [if_neg qk] at hk
          exact absurd hk (hd a hj k qk)
      · by_cases qk : k = i
        · rw [if_neg qj] at hj
          rw [if_pos qk] at hk
          exact absurd hj (hd a hk j qj)
        · rw [if_neg qj] at hj
          rw [if_neg qk] at hk
          exact S.dsj j k a hj hk
    · by_cases qj : j = i
      · rw [if_pos qj] at hj
        exact h0 a hj
      · rw [if_neg qj] at hj
        exact S.own0 j a hj
    · rcases set_get h with ⟨_, e, _⟩ | ⟨ne, h⟩
      · rw [hn d e.symm] at hd2
        cases hd2
      · rw [List.getElem?_set_ne (Ne.symm ne)]
        exact S.self a d hm hd2 h
    · have h : a ∈ (if j = i then l else ft j) := h
      by_cases qj : j = i
      · rw [if_pos qj] at h
        exact .inl h
      · rw [if_neg qj] at h
        exact .inr h
theorem Ss.setF (S : Ss K me dr sa F0 H0 F σ H env) (i : Nat) {v : V} {d : D} (r : Rp K dr F v d) : Ss K me dr sa F0 H0 F (σ.set i (some v)) H (env.set i (.fz d)) := by
  obtain ⟨ft, S⟩ := S
  obtain ⟨ft', S', _⟩ := S.set i v (.fz d) [] ⟨rfl, v, rfl, r⟩ (fun _ e => nomatch e) (fun a h => nomatch h) fun a h => nomatch h
  exact ⟨ft', S'⟩
/-- a slot takes a thing that is new since H -/
theorem Ss.setNew (S : Ss K me dr sa F0 H0 F σ H env) (ev : Evo dr sa F H F' H') (i : Nat) {v : V} {x : Vl} {l : List Addr} (hx : Sl K dr F' H' x (some (some v)) l) (hn : ∀ d, x = .ow d → isIns d = false) (hl : ∀ a ∈ l, H a = none ∧ a ≠ dr) : Ss K me dr sa F0 H0 F' (σ.set i (some v)) H' (env.set i x) := by
  obtain ⟨ft, S⟩ := S
  obtain ⟨ft', S', _⟩ := (S.go ev).set i v x l hx hn (fun a ha => S.evo.none0 (hl a ha).2 (hl a ha).1) fun a ha j _ hj => by
    obtain ⟨_, _, u, hu⟩ := S.toSrF.at_ft hj
    rw [(hl a ha).1] at hu
    cases hu
  exact ⟨ft', S'⟩
/-- a new own object, made on the way from H to H' -/
theorem Ss.setO (S : Ss K me dr sa F0 H0 F σ H env) (ev : Evo dr sa F H F' H') (i : Nat) {p : Addr} {d : D} (hp : H p = none) (fp : F' p = none) (nd : p ≠ dr) (hn : isIns d = false) (o : Own K dr F' H' p d) : Ss K me dr sa F0 H0 F' (σ.set i (some (.ref p))) H' (env.set i (.ow d)) :=
  S.setNew ev i (l := [p]) ⟨p, rfl, rfl, nd, fp, o⟩ (fun e he => by cases he; exact hn) fun a ha => by
    rw [List.mem_singleton.mp ha]
    exact ⟨hp, nd⟩
/-- the heap changed at a place of slot i alone -/
theorem SsF.chg (S : SsF K me dr sa F0 H0 F σ H env ft) {i : Nat} {p : Addr} {u u0 : HO} {x : Vl} {l : List Addr} (hp : p ∈ ft i) (hu : H p = some u0) (nt : NoT u0) (nc : NoC p u0) (hl : ∀ a ∈ l, a ∈ ft i) (hx : Sl K dr F (upd H p u) x σ[i]? l) (hn : ∀ a d, me = some a → isIns d = true → i = 0 → x = .ow d → σ[0]? = some (some (V.ref a))) :
    ∃ ft', SsF K me dr sa F0 H0 F σ (upd H p u) (env.set i x) ft' := by
  obtain ⟨nd, fp, _⟩ := S.toSrF.at_ft hp
  have h0 := S.own0 i p hp
  have hi : i < env.length := by
    rcases Nat.lt_or_ge i env.length with h | h
    · exact h
    · rw [S.out i (List.getElem?_eq_none_iff.mpr h)] at hp
      cases hp
  have B : Bs dr sa F (upd H p u) := ⟨fun q z h => by rw [upd_ne (ne_of_none h fp)]; exact S.toBs.sub q z h, S.toBs.nod, S.toBs.ntb, by
    obtain ⟨n, hn⟩ := S.toBs.draw
    exact ⟨n, by rw [upd_ne (Ne.symm nd)]; exact hn⟩, S.toBs.scr, tabs_but S.toBs.tabs hu nt nc⟩
  refine ⟨fun j => if j = i then l else ft j, ⟨⟨B, fun j y h => ?_, fun j h => ?_, fun j k a hj hk => ?_, by rw [List.length_set, S.len]⟩, ⟨B, S.evo.fs, fun q z nq no h => ?_, fun q ps h => ?_, S.evo.new⟩, fun j a hj => ?_, fun a d hm hd2 h => ?_⟩⟩
  · rcases set_get h with ⟨rfl, rfl, _⟩ | ⟨ne, h⟩
    · rw [if_pos rfl]
      exact hx
    · rw [if_neg ne]
      refine (S.slt j y h).move (Sub.refl F) (fun a ha => (S.toSrF.at_ft ha).2.1) fun a ha z _ hz => ?_
      have na : a ≠ p := fun e => ne (S.dsj j i p (by rw [← e]; exact ha) hp)
      rw [upd_ne na]
      exact hz
  · have ne : j ≠ i := fun z => by
      have h2 := set_none h
      rw [z, List.getElem?_eq_none_iff] at h2
      omega
    show (if j = i then l else ft j) = []
    rw [if_neg ne]
    exact S.out j (set_none h)
  · have back : ∀ j, a ∈ (if j = i then l else ft j) → a ∈ ft j := fun j h => by
      by_cases q : j = i
      · rw [if_pos q] at h
        rw [q]
        exact hl a h
      · rw [if_neg q] at h
        exact h
    exact S.dsj j k a (back j hj) (back k hk)
  · have ne : q ≠ p := fun e => by
      rw [e, h0] at h
      cases h
    rw [upd_ne ne]
    exact S.evo.keep q z nq no h
  · have ne : q ≠ p := fun e => by
      rw [e, h0] at h
      cases h
    rw [upd_ne ne]
    exact S.evo.kt q ps h
  · by_cases q : j = i
    · rw [if_pos q] at hj
      exact S.own0 i a (hl a hj)
    · rw [if_neg q] at hj
      exact S.own0 j a hj
  · rcases set_get h with ⟨e0, e, _⟩ | ⟨ne, h⟩
    · exact hn a d hm hd2 e0.symm e.symm
    · exact S.self a d hm hd2 h
/-- an own object changes -/
theorem Ss.mut (S : Ss K me dr sa F0 H0 F σ H env) {i : Nat} {p : Addr} {d d' : D} {u : HO} (hi : env[i]? = some (.ow d)) (si : σ[i]? = some (some (V.ref p))) (hn : isIns d' = isIns d) (o : Own K dr F (upd H p u) p d') : Ss K me dr sa F0 H0 F σ (upd H p u) (env.set i (.ow d')) := by
  obtain ⟨ft, S⟩ := S
  obtain ⟨q, el, h1, nd, fp, o0⟩ := S.slt i _ hi
  rw [si] at h1
  cases h1
  obtain ⟨u0, hu, nt, nc⟩ := o0.noTC
  exact S.chg (l := [p]) (by rw [el]; exact List.mem_singleton.mpr rfl) hu nt nc (fun a ha => by rw [el]; exact ha) ⟨p, rfl, si, nd, fp, o⟩ fun a d1 hm hd e0 ex => by
    cases ex
    rw [hn] at hd
    subst e0
    exact S.self a d hm hd hi
/-- an own object is let go: it stands from now on, as u2 -/
theorem SsF.frz (S : SsF K me dr sa F0 H0 F σ H env ft) {i : Nat} {d : D} {p : Addr} {u u2 : HO} (hi : env[i]? = some (.ow d)) (si : σ[i]? = some (some (V.ref p))) (hu : H p = some u) (nt2 : NoT u2) (r : ∀ F', Sub F F' → F' p = some u2 → Rp K dr F' (.ref p) d) :
    ∃ F', Sub F F' ∧ Ss K me dr sa F0 H0 F' σ (upd H p u2) (env.set i (.fz d)) := by
  obtain ⟨q, el, h1, nd, fp, o0⟩ := S.slt i _ hi
  rw [si] at h1
  cases h1
  obtain ⟨u0, hu0, nt, nc⟩ := o0.noTC
  have hp : p ∈ ft i := by
    rw [el]
    exact List.mem_singleton.mpr rfl
  have h0 := S.own0 i p hp
  have sub : Sub F (upd F p u2) := fun x z h => by rw [upd_ne (ne_of_none h fp)]; exact h
  have E : Evo dr sa F0 H0 (upd F p u2) (upd H p u2) := stand_at S.evo h0 fp nd hu0 nt nc nt2
  refine ⟨upd F p u2, sub, fun j => if j = i then [] else ft j, ⟨⟨E.toBs, fun j y h => ?_, fun j h => ?_, fun j k a hj hk => ?_, by rw [List.length_set]; exact S.len⟩, E, fun j a hj => ?_, fun a d1 hm hd h => ?_⟩⟩
  · rcases set_get h with ⟨rfl, rfl, hl⟩ | ⟨ne, h⟩
    · rw [if_pos rfl]
      exact ⟨rfl, .ref p, si, r _ sub upd_same⟩
    · rw [if_neg ne]
      have out : ∀ a ∈ ft j, a ≠ p := fun a ha e => ne (S.dsj j i p (e ▸ ha) hp)
      exact (S.slt j y h).move sub (fun a ha => by rw [upd_ne (out a ha)]; exact (S.toSrF.at_ft ha).2.1) fun a ha z _ hz => by rw [upd_ne (out a ha)]; exact hz
  · by_cases q : j = i
    · show (if j = i then [] else ft j) = []
      rw [if_pos q]
    · show (if j = i then [] else ft j) = []
      rw [if_neg q]
      exact S.out j (set_none h)
  · by_cases qj : j = i
    · rw [if_pos qj] at hj
      cases hj
    · by_cases qk : k = i
      · rw [if_pos qk] at hk
        cases hk
      · rw [if_neg qj] at hj
        rw [if_neg qk] at hk
        exact S.dsj j k a hj hk
  · by_cases qj : j = i
    · rw [if_pos qj] at hj
      cases hj
    · rw [if_neg qj] at hj
      exact S.own0 j a hj
  · rcases set_get h with ⟨_, e, _⟩ | ⟨ne, h⟩
    · cases e
    · exact S.self a d1 hm hd h
theorem Ss.freeze (S : Ss K me dr sa F0 H0 F σ H env) {i : Nat} {d : D} (hi : env[i]? = some (.ow d)) : (∃ F', Sub F F' ∧ Ss K me dr sa F0 H0 F' σ H (env.set i (.fz d))) ∨
    ∃ p u, H p = some u ∧ Mut (some u) ∧ ∀ od, ∃ F', Sub F F' ∧ Ss K me dr sa F0 H0 F' σ (upd H p (.frz od u)) (env.set i (.fz d)) := by
  obtain ⟨ft, S⟩ := S
  obtain ⟨p, si, nd, fp, o⟩ := S.toSrF.slot i _ hi
  cases d with
  | lst ds =>
    obtain ⟨xs, h1, h2⟩ := o
    have z := S.frz (u2 := .lst xs) hi si h1 (fun _ z => nomatch z) fun F' s e => .lst e (RpA.mono s ds h2)
    rw [upd_self h1] at z
    exact .inl z
  | dct ks vs =>
    obtain ⟨kvs, h1, h2, h3⟩ := o
    exact .inr ⟨p, _, h1, trivial, fun od => S.frz hi si h1 (fun _ z => nomatch z) fun F' s e => .dct e h2 (RpA.mono s vs h3)⟩
  | dcT ks vs =>
    obtain ⟨kvs, h1, h2, h3, h4⟩ := o
    exact .inr ⟨p, _, h1, trivial, fun od => S.frz hi si h1 (fun _ z => nomatch z) fun F' s e => .dcT e h2 (RpA.mono s ks h3) (RpA.mono s vs h4)⟩
  | ins c ns vs =>
    obtain ⟨C, dx, fs, h1, h2, h3, h4⟩ := o
    have z := S.frz (u2 := .ins C dx fs) hi si h1 (fun _ z => nomatch z) fun F' s e => .ins e h2 h3 (RpA.mono s vs h4)
    rw [upd_self h1] at z
    exact .inl z
  | _ => exact o.elim
theorem Ss.freezeL (S : Ss K me dr sa F0 H0 F σ H env) {i : Nat} {ds : List D} (hi : env[i]? = some (.ow (.lst ds))) : ∃ F', Sub F F' ∧ Ss K me dr sa F0 H0 F' σ H (env.set i (.fz (.lst ds))) := by
  obtain ⟨ft, S⟩ := S
  obtain ⟨p, si, nd, fp, o⟩ := S.toSrF.slot i _ hi
  obtain ⟨xs, h1, h2⟩ := o
  have z := S.frz (u2 := .lst xs) hi si h1 (fun _ z => nomatch z) fun F' s e => .lst e (RpA.mono s ds h2)
  rw [upd_self h1] at z
  exact z
/-- .. at the place where it stood -/
theorem Ss.freezeAt (S : Ss K me dr sa F0 H0 F σ H env) {i : Nat} {c : Str} {ns : List Str} {vs : List D} (hi : env[i]? = some (.ow (.ins c ns vs))) : ∃ F', Sub F F' ∧ Ss K me dr sa F0 H0 F' σ H (env.set i (.fz (.ins c ns vs))) := by
  obtain ⟨ft, S⟩ := S
  obtain ⟨p, si, nd, fp, o⟩ := S.toSrF.slot i _ hi
  obtain ⟨C, dx, fs, h1, h2, h3, h4⟩ := o
  have z := S.frz (u2 := .ins C dx fs) hi si h1 (fun _ z => nomatch z) fun F' s e => .ins e h2 h3 (RpA.mono s vs h4)
  rw [upd_self h1] at z
  exact z
end
end U
/-! U8: statements: blocks, names, own lists and dicts, tests, returns. -/
namespace U
open PySem PySem.Spec PyProof.Rows L2
variable [Wo]

section
variable {E : XK} {K : PySem.W.Frag} {me : Option Addr} {dr sa : Addr} {F0 H0 F H F' H' : Hp} {σ : L2.St} {env : En} {D : Ends}
theorem wends.later (s : Sub F F') : WEn.le (wends E K me dr sa F0 H0 F D) (wends E K me dr sa F0 H0 F' D) :=
  ⟨fun e h G τ J S t => h G τ J S (s.trans t), fun d h => h, fun e h G τ J S t => h G τ J S (s.trans t), fun e h G τ J S t => h G τ J S (s.trans t), fun _ _ _ h => h⟩
end
section
variable {X : Cx} {E : XK} {R : RK} {e e2 a b c : Expr} {st : Stmt} {rest bl bl2 : List Stmt} {w wy wv : WE} {wt : WT} {s s2 : WS} {pos p apos : Pos}
/-- an expression within a statement -/
theorem at_e (h : UG R X E e w) {me : Option Addr} {dr sa : Addr} {F0 H0 F H : Hp} {σ : L2.St} {env : En} (S : Ss X.K me dr sa F0 H0 F σ H env) {P : D → Prop} {Q : VK} (q : w env P (xw E X.K dr sa F0 H0))
    (go : ∀ d, P d → ∀ v F' H', Evo dr sa F H F' H' → R X.K dr F' H' v d → Q v H') : tG R E X.K w σ H Q :=
  ⟨dr, sa, F, env, S.toSr, h.mono env _ _ _ _ (fun d p v F' H' ev r => go d p v F' H' ev r) (fun _ _ _ z => z.evo S.evo) q⟩
theorem at_t (h : UT X E e wt) {me : Option Addr} {dr sa : Addr} {F0 H0 F H : Hp} {σ : L2.St} {env : En} (S : Ss X.K me dr sa F0 H0 F σ H env) {P : Bool → Prop} {Q : Bool → Hp → Prop} (q : wt env P (xw E X.K dr sa F0 H0))
    (go : ∀ k, P k → ∀ F' H', Evo dr sa F H F' H' → Q k H') : tGT E X.K wt σ H Q :=
  ⟨dr, sa, F, env, S.toSr, h.mono env _ _ _ _ (fun k p F' H' ev => go k p F' H' ev) (fun _ _ _ z => z.evo S.evo) q⟩
theorem PS.wk {t t' : TS} (h : PS X st t) (k : ∀ D σ H, t' D σ H → t D σ H) : PS X st t' := ⟨fun pins s σ H D I q => h.run pins s σ H D I (k D σ H q)⟩
theorem PSs.wk {t t' : TS} (h : PSs X bl t) (k : ∀ D σ H, t' D σ H → t D σ H) : PSs X bl t' := ⟨fun pins s σ H D I q => h.run pins s σ H D I (k D σ H q)⟩

/-! ### blocks -/
def wNext : WS := fun D env => D.nx env
def wSeq (s s2 : WS) : WS := fun D env => s { D with nx := s2 D } env
theorem ub_nil : UB X E [] wNext := ⟨PSs.wk pss_nil fun D σ H ⟨me, dr, sa, F0, H0, F, env, S, q⟩ => q F σ H S (Sub.refl F), fun D D' env l h => l.nx env h⟩
theorem ub_one (h : US X E st s) : UB X E [st] s := ⟨pss_one h.ps, h.mono⟩
theorem ub_cons (h : US X E st s) (t : UB X E rest s2) : UB X E (st :: rest) (wSeq s s2) :=
  ⟨PSs.wk (pss_cons h.ps t.ps) fun D σ H ⟨me, dr, sa, F0, H0, F, env, S, q⟩ => ⟨me, dr, sa, F0, H0, F, env, S, h.mono { wends E X.K me dr sa F0 H0 F D with nx := s2 (wends E X.K me dr sa F0 H0 F D) } _ _ ⟨fun e z G τ J S2 l => ⟨me, dr, sa, F0, H0, G, e, S2, t.mono _ _ _ (wends.later l) z⟩, fun _ z => z, fun _ z => z, fun _ z => z, fun _ _ _ z => z⟩ q⟩,
   fun D D' env l q => h.mono { D with nx := s2 D } { D' with nx := s2 D' } env ⟨fun e z => t.mono _ _ _ l z, l.rt, l.bk, l.ct, l.xe⟩ q⟩
/-- an own object is let go ahead of a statement -/
def wFrz (i : Nat) (s : WS) : WS := fun D env => ∃ d, env[i]? = some (.ow d) ∧ s D (env.set i (.fz d))
theorem PS.lk {t : TS} (h : PS X st t) : PS X st (fun D σ H => t D σ H ∨ ∃ p u, H p = some u ∧ Mut (some u) ∧ ∀ od, t D σ (upd H p (.frz od u))) :=
  ⟨fun pins s σ H D I q => by
    rcases q with q | ⟨p, u, hu, mu, q⟩
    · exact h.run pins s σ H D I q
    · obtain ⟨od, I2⟩ := I.lock hu mu
      exact h.run pins s σ _ D I2 (q od)⟩
theorem us_frz (i : Nat) (h : US X E st s) : US X E st (wFrz i s) :=
  ⟨PS.wk (PS.lk h.ps) fun D σ H ⟨me, dr, sa, F0, H0, F, env, S, d, hi, q⟩ => by
    rcases S.freeze hi with ⟨G, l, S2⟩ | ⟨p, u, hu, mu, z⟩
    · exact .inl ⟨me, dr, sa, F0, H0, G, _, S2, h.mono _ _ _ (wends.later l) q⟩
    · refine .inr ⟨p, u, hu, mu, fun od => ?_⟩
      obtain ⟨G, l, S2⟩ := z od
      exact ⟨me, dr, sa, F0, H0, G, _, S2, h.mono _ _ _ (wends.later l) q⟩, fun D D' env l ⟨d, hi, q⟩ => ⟨d, hi, h.mono _ _ _ l q⟩⟩

/-! ### small statements -/
theorem us_pass : US X E (.Pass pos) wNext := ⟨PS.wk ps_pass fun D σ H ⟨me, dr, sa, F0, H0, F, env, S, q⟩ => q F σ H S (Sub.refl F), fun D D' env l h => l.nx env h⟩
def wBreak : WS := fun D env => D.bk env
def wCont : WS := fun D env => D.ct env
theorem us_break : US X E (.Break pos) wBreak := ⟨PS.wk ps_break fun D σ H ⟨me, dr, sa, F0, H0, F, env, S, q⟩ => q F σ H S (Sub.refl F), fun D D' env l h => l.bk env h⟩
theorem us_cont : US X E (.Continue pos) wCont := ⟨PS.wk ps_continue fun D σ H ⟨me, dr, sa, F0, H0, F, env, S, q⟩ => q F σ H S (Sub.refl F), fun D D' env l h => l.ct env h⟩
def wExpr (w : WE) : WS := fun D env => w env (fun _ => D.nx env) D.xe
theorem us_expr (h : UE X E e w) (hs : swapsWith e none pos.line X.env = pure false := by rfl) : US X E (.Expr e pos) (wExpr w) :=
  ⟨PS.wk (ps_expr h.pe hs) fun D σ H ⟨me, dr, sa, F0, H0, F, env, S, q⟩ => at_e h S q fun d z v F' H' ev r => z F' σ H' (S.go ev) ev.fs,
   fun D D' env l q => h.mono _ _ _ _ _ (fun d z => l.nx _ z) l.xe q⟩
def wRet (w : WE) : WS := fun D env => w env D.rt D.xe
theorem us_ret (h : UE X E e w) : US X E (.Return (some e) pos) (wRet w) :=
  ⟨PS.wk (ps_ret h.pe) fun D σ H ⟨me, dr, sa, F0, H0, F, env, S, q⟩ => at_e h S q fun d z v F' H' ev r => z v F' H' (S.evo.trans ev) r, fun D D' env l q => h.mono _ _ _ _ _ (fun d z => l.rt _ z) l.xe q⟩
def wRetN : WS := fun D _ => D.rt .non
theorem us_retN : US X E (.Return none pos) wRetN := ⟨PS.wk ps_retN fun D σ H ⟨me, dr, sa, F0, H0, F, env, S, q⟩ => q .non F H S.evo .non, fun D D' env l q => l.rt _ q⟩
def wSet (i : Nat) (w : WE) : WS := fun D env => w env (fun d => D.nx (env.set i (.fz d))) D.xe
theorem wSet_mono {i : Nat} (h : UE X E e w) : SMono (wSet i w) := fun D D' env l q => h.mono _ _ _ _ _ (fun d z => l.nx _ z) l.xe q
theorem us_set {i : Nat} {x : Str} {p' : Pos} (hN : X.N.Nodup) (hi : X.N[i]? = some x) (hx : Loc X.env.scope x) (h : UE X E e w) (hs : swapsWith e (some (.Name x p')) pos.line X.env = pure false := by rfl) (hf : X.fn x = true ∨ X.env.scope.names.lookup x = some .local := by first | exact .inl rfl | exact .inr rfl) : US X E (.Assign [.Name x p'] e pos) (wSet i w) :=
  ⟨PS.wk (ps_set hN hi hx h.pe hs hf) fun D σ H ⟨me, dr, sa, F0, H0, F, env, S, q⟩ => at_e h S q fun d z v F' H' ev r => z F' _ H' ((S.go ev).setF i r) ev.fs, wSet_mono h⟩
/-- a new own object in a name -/
def wSetO (i : Nat) (w : WE) : WS := fun D env => w env (fun d => D.nx (env.set i (.ow d))) D.xe
theorem us_setO {i : Nat} {x : Str} {p' : Pos} (hN : X.N.Nodup) (hi : X.N[i]? = some x) (hx : Loc X.env.scope x) (h : UF X E e w) (hs : swapsWith e (some (.Name x p')) pos.line X.env = pure false := by rfl) (hf : X.fn x = true ∨ X.env.scope.names.lookup x = some .local := by first | exact .inl rfl | exact .inr rfl) : US X E (.Assign [.Name x p'] e pos) (wSetO i w) :=
  ⟨PS.wk (ps_set hN hi hx h.pe hs hf) fun D σ H ⟨me, dr, sa, F0, H0, F, env, S, q⟩ => ⟨dr, sa, F, env, S.toSr, h.mono env _ _ _ _ (fun d z p F' H' ev hp fp nd hn o => z F' _ H' (S.setO ev i hp fp nd hn o) ev.fs) (fun _ _ _ z => z.evo S.evo) q⟩,
   fun D D' env l q => h.mono _ _ _ _ _ (fun d z => l.nx _ z) l.xe q⟩
def wIfS (t : WT) (s s2 : WS) : WS := fun D env => t env (fun k => if k = true then s D env else s2 D env) D.xe
theorem us_if (hc : UT X E c wt) (ha : UB X E bl s) (hb : UB X E bl2 s2) : US X E (.If c bl bl2 pos) (wIfS wt s s2) :=
  ⟨PS.wk (ps_if hc.pe ha.ps hb.ps) fun D σ H ⟨me, dr, sa, F0, H0, F, env, S, q⟩ => at_t hc S q fun k z F' H' ev => by
    cases k
    · exact ⟨me, dr, sa, F0, H0, F', env, S.go ev, hb.mono _ _ _ (wends.later ev.fs) z⟩
    · exact ⟨me, dr, sa, F0, H0, F', env, S.go ev, ha.mono _ _ _ (wends.later ev.fs) z⟩,
   fun D D' env l q => hc.mono _ _ _ _ _ (fun k z => by
    cases k
    · exact hb.mono _ _ _ l z
    · exact ha.mono _ _ _ l z) l.xe q⟩
/-- x += e, ints -/
def wAugI (i : Nat) (w : WE) : WS := fun D env => ∃ a, env[i]? = some (.fz (.int a)) ∧ w env (fun d => ∃ b, d = .int b ∧ D.nx (env.set i (.fz (.int (a + b))))) D.xe
theorem us_augI {i : Nat} {x : Str} {p' : Pos} (hN : X.N.Nodup) (hi : X.N[i]? = some x) (hx : Loc X.env.scope x) (h : UE X E e w) (hf : X.fn x = true ∨ X.env.scope.names.lookup x = some .local := by first | exact .inl rfl | exact .inr rfl) : US X E (.AugAssign (.Name x p') .Add e pos) (wAugI i w) :=
  ⟨PS.wk (ps_aug hN hi hx h.pe ip_add hf) fun D σ H ⟨me, dr, sa, F0, H0, F, env, S, a, hi, q⟩ => by
    obtain ⟨v, h1, h2⟩ := S.slot i _ hi
    have ev := rp_int h2
    subst ev
    refine ⟨.int a, h1, at_e h S q fun d z v F' H' ev r => ?_⟩
    obtain ⟨b, rfl, z⟩ := z
    exact ⟨a, b, rfl, rp_int r, z F' _ H' ((S.go ev).setF i (.int _)) ev.fs⟩,
   fun D D' env l ⟨a, hi, q⟩ => ⟨a, hi, h.mono _ _ _ _ _ (fun d ⟨b, eb, z⟩ => ⟨b, eb, l.nx _ z⟩) l.xe q⟩⟩

/-! ### own lists and dicts -/
def wApp (i : Nat) (w : WE) : WS := fun D env => ∃ ds, env[i]? = some (.ow (.lst ds)) ∧ w env (fun d => ds.length < most ∧ D.nx (env.set i (.ow (.lst (ds ++ [d]))))) D.xe
theorem us_app {i : Nat} {x : Str} {p' : Pos} (hv : PE X (.Name x p') (tVar i)) (h : UE X E e w)
    (hpe : ∀ {t : TE} {t2 : TE}, PE X (.Name x p') t → PE X e t2 → PE X (.Call (.Attribute (.Name x p') "append" apos) [e] [] p) (tBM X.K "list" rAppend t (tCons t2 tNil)))
    (hs : swapsWith (.Call (.Attribute (.Name x p') "append" apos) [e] [] p) none pos.line X.env = pure false := by rfl) : US X E (.Expr (.Call (.Attribute (.Name x p') "append" apos) [e] [] p) pos) (wApp i w) :=
  ⟨PS.wk (ps_expr (hpe hv h.pe) hs) fun D σ H ⟨me, dr, sa, F0, H0, F, env, S, ds, hi, q⟩ => by
    obtain ⟨l, h1, nd, fp, xs, h2, h3⟩ := S.slot i _ hi
    refine ⟨.ref l, h1, .inl ⟨rfl, xs, sqL h2⟩, at_e h S q fun d z v F' H' ev r => ?_⟩
    obtain ⟨z1, z2⟩ := z
    have hk := ev.keep l (.lst xs) nd (fun _ z => nomatch z) h2
    have r3 := RpA.mono ev.fs ds h3
    refine ⟨l, xs, v, rfl, rfl, hk, by rw [h3.length]; exact Nat.lt_of_lt_of_le z1 (most_le (Nat.le_refl _)), ?_⟩
    exact z2 F' σ _ ((S.go ev).mut hi h1 rfl ⟨_, upd_same, r3.append (.cons r .nil)⟩) ev.fs,
   fun D D' env l ⟨ds, hi, q⟩ => ⟨ds, hi, h.mono _ _ _ _ _ (fun d z => ⟨z.1, l.nx _ z.2⟩) l.xe q⟩⟩
/-- a dict's keys, values behind d[k] = v -/
def putKs {κ : Type} [DecidableEq κ] (ks : List κ) (k : κ) : List κ := if k ∈ ks then ks else ks ++ [k]
def putVs {κ : Type} [DecidableEq κ] (ks : List κ) (vs : List D) (k : κ) (v : D) : List D := if k ∈ ks then List.zipWith (fun k' v' => if k' = k then v else v') ks vs else vs ++ [v]
theorem put_rp {κ : Type} [DecidableEq κ] {K : PySem.W.Frag} {dr : Addr} {F : Hp} {kvs : List (κ × V)} {vs : List D} {k : κ} {v : V} {d : D} (r : RpA K dr F (kvs.map (·.2)) vs) (rv : Rp K dr F v d) : (putK kvs k v).map (·.1) = putKs (kvs.map (·.1)) k ∧ RpA K dr F ((putK kvs k v).map (·.2)) (putVs (kvs.map (·.1)) vs k d) := by
  have hm : (kvs.any fun kv => decide (kv.1 = k)) = true ↔ k ∈ kvs.map (·.1) := by
    rw [List.any_eq_true, List.mem_map]
    constructor
    · rintro ⟨q, h1, h2⟩
      exact ⟨q, h1, of_decide_eq_true h2⟩
    · rintro ⟨q, h1, h2⟩
      exact ⟨q, h1, decide_eq_true h2⟩
  unfold putK putKs putVs
  by_cases q : k ∈ kvs.map (·.1)
  · rw [if_pos (hm.mpr q), if_pos q, if_pos q]
    refine ⟨?_, ?_⟩
    · rw [List.map_map]
      refine List.map_congr_left fun z _ => ?_
      show (if z.1 = k then (z.1, v) else z).1 = z.1
      split <;> rfl
    · clear hm q
      induction kvs generalizing vs with
      | nil =>
        cases r
        exact .nil
      | cons z kvs ih =>
        cases r with
        | cons r1 r2 =>
          refine .cons ?_ (ih r2)
          show Rp K dr F (if z.1 = k then (z.1, v) else z).2 (if z.1 = k then d else _)
          split
          · exact rv
          · exact r1
  · rw [if_neg (fun z => q (hm.mp z)), if_neg q, if_neg q]
    refine ⟨by rw [List.map_append]; rfl, ?_⟩
    rw [List.map_append]
    exact r.append (.cons rv .nil)
/-- .. of a dict of tuples -/
def putKT (ks : List D) (d : D) (k : NestedKey) : List D := if (ks.any fun x => decide (nkT x = some k)) = true then ks else ks ++ [d]
def putVT (ks vs : List D) (k : NestedKey) (v : D) : List D := if (ks.any fun x => decide (nkT x = some k)) = true then List.zipWith (fun k' v' => if nkT k' = some k then v else v') ks vs else vs ++ [v]
theorem any_nk {k : NestedKey} : ∀ {ks : List D} {kvs : GKV}, ks.map nkT = kvs.map (some ·.1) → (ks.any fun x => decide (nkT x = some k)) = kvs.any fun x => decide (x.1 = k)
  | [], [], _ => rfl
  | [], _ :: _, e => nomatch e
  | _ :: _, [], e => nomatch e
  | a :: ks, q :: kvs, e => by
    rw [List.map_cons, List.map_cons] at e
    injection e with e1 e2
    rw [List.any_cons, List.any_cons, any_nk e2, e1]
    congr 1
    by_cases c : q.1 = k <;> simp [c]
theorem put_rpT1 {K : PySem.W.Frag} {dr : Addr} {F : Hp} {k : NestedKey} {v : V} {d : D} (rv : Rp K dr F v d) : ∀ {kvs : GKV} {ks vs : List D}, ks.map nkT = kvs.map (some ·.1) → RpA K dr F (kvs.map (V.ref ·.2.1)) ks → RpA K dr F (kvs.map (·.2.2)) vs →
    ks.map nkT = (kvs.map fun x => if x.1 = k then (x.1, x.2.1, v) else x).map (some ·.1) ∧ RpA K dr F ((kvs.map fun x => if x.1 = k then (x.1, x.2.1, v) else x).map (V.ref ·.2.1)) ks ∧ RpA K dr F ((kvs.map fun x => if x.1 = k then (x.1, x.2.1, v) else x).map (·.2.2)) (List.zipWith (fun k' v' => if nkT k' = some k then d else v') ks vs)
  | [], [], vs, _, _, r => by
    cases r
    exact ⟨rfl, .nil, .nil⟩
  | [], _ :: _, _, e, _, _ => nomatch e
  | _ :: _, [], _, e, _, _ => nomatch e
  | q :: kvs, a :: ks, vs, e, rk, r => by
    rw [List.map_cons, List.map_cons] at e
    injection e with e1 e2
    cases rk with
    | cons k1 k2 =>
      cases r with
      | @cons _ _ d1 ds1 r1 r2 =>
        obtain ⟨i1, i2, i3⟩ := put_rpT1 rv e2 k2 r2
        by_cases c : q.1 = k
        · refine ⟨?_, ?_, ?_⟩
          · simp only [List.map_cons, if_pos c]
            rw [e1, i1]
          · simp only [List.map_cons, if_pos c]
            exact .cons k1 i2
          · simp only [List.map_cons, if_pos c, List.zipWith_cons_cons, e1, if_pos (congrArg some c)]
            exact .cons rv i3
        · refine ⟨?_, ?_, ?_⟩
          · simp only [List.map_cons, if_neg c]
            rw [e1, i1]
          · simp only [List.map_cons, if_neg c]
            exact .cons k1 i2
          · simp only [List.map_cons, if_neg c, List.zipWith_cons_cons, e1, if_neg (fun z => c (Option.some.inj z) : ¬ some q.1 = some k)]
            exact .cons r1 i3
theorem put_rpT {K : PySem.W.Frag} {dr : Addr} {F : Hp} {k : NestedKey} {b : Addr} {v : V} {kd d : D} (hk : nkT kd = some k) (rk0 : Rp K dr F (.ref b) kd) (rv : Rp K dr F v d) {kvs : GKV} {ks vs : List D} (e : ks.map nkT = kvs.map (some ·.1)) (rk : RpA K dr F (kvs.map (V.ref ·.2.1)) ks) (r : RpA K dr F (kvs.map (·.2.2)) vs) :
    (putKT ks kd k).map nkT = (putG kvs k b v).map (some ·.1) ∧ RpA K dr F ((putG kvs k b v).map (V.ref ·.2.1)) (putKT ks kd k) ∧ RpA K dr F ((putG kvs k b v).map (·.2.2)) (putVT ks vs k d) := by
  have ea := any_nk (k := k) e
  unfold putKT putVT putG
  by_cases c : (kvs.any fun x => decide (x.1 = k)) = true
  · rw [if_pos c, if_pos (ea.trans c), if_pos (ea.trans c)]
    exact put_rpT1 rv e rk r
  · rw [if_neg c, if_neg (by rw [ea]; exact c), if_neg (by rw [ea]; exact c)]
    refine ⟨?_, ?_, ?_⟩
    · rw [List.map_append, List.map_append, e]
      show _ ++ [nkT kd] = _
      rw [hk]
      rfl
    · rw [List.map_append]
      exact rk.append (.cons rk0 .nil)
    · rw [List.map_append]
      exact r.append (.cons rv .nil)
/-- d[y] = v, of either kind of dict -/
def GPut (w : World) (H : Hp) (a : Addr) (y v : V) (H' : Hp) : Prop := ∃ b kvs k, y = .ref b ∧ H a = some (GD w a kvs) ∧ KeysG H kvs ∧ NkH H (.ref b) k ∧ k.depth ≤ 8 ∧ kvs.length < sizeLine ∧ H' = upd H a (GD w a (putG kvs k b v))
def sPutU (w : World) (td ty tv : TE) : TS := fun D σ H => tv σ H fun v H1 => td σ H1 fun x H2 => ty σ H2 fun y H3 => ∃ a H4, x = .ref a ∧ (DPut H3 a y v H4 ∨ GPut w H3 a y v H4) ∧ D.nx σ H4
theorem ps_putU {o i value : Expr} {td ty tv : TE} {pos' pos : Pos} (hu : X.A.units + 64 < cLine) (ho : PE X o td) (hi : PE X i ty) (hv : PE X value tv) (hs : swapsWith value (some (.Subscript o i pos')) pos.line X.env = pure false) :
    PS X (.Assign [.Subscript o i pos'] value pos) (sPutU X.w td ty tv) :=
  ⟨fun pins s σ H D I h => by
    refine wpAny_Assign_Subscript ?_ hs
    refine thn (hv.run pins s σ H _ I h) fun r s1 ⟨v, H1, I1, rv, q1⟩ => ?_
    refine thn (ho.run pins s1 σ H1 _ I1 q1) fun u s2 ⟨x, H2, I2, rx, q2⟩ => ?_
    refine thn (hi.run pins s2 σ H2 _ I2 q2) fun iv s3 ⟨y, H3, I3, ry, a, H4, ex, g, q3⟩ => ?_
    subst ex
    cases rx
    rcases g with g | ⟨b, kvs, k, ey, e, hk, n, hd, hl, eH⟩
    · exact d_setItem (by omega) I3 g ry rv fun s4 I4 => ⟨σ, H4, I4, q3⟩
    · subst ey eH
      cases ry
      exact g_setItem (by omega) I3 e hk n hd hl rv fun s4 I4 => ⟨σ, _, I4, q3⟩⟩
def wPut (i : Nat) (wy wv : WE) : WS := fun D env => wv env (fun v => ∃ o, env[i]? = some (.ow o) ∧ wy env (fun k => match o with
  | .dct ks vs => ∃ z, k = kD z ∧ ks.length < most ∧ D.nx (env.set i (.ow (.dct (putKs ks z) (putVs ks vs z v))))
  | .dcT ks vs => ∃ z, nkT k = some z ∧ ks.length < most ∧ D.nx (env.set i (.ow (.dcT (putKT ks k z) (putVT ks vs z v))))
  | _ => False) D.xe) D.xe
theorem us_put {i : Nat} {x : Str} {p' p2 : Pos} (hw : X.w = Wo.w) (hu : X.A.units + 64 < cLine) (hv : PE X (.Name x p') (tVar i)) (hk : UE X E e2 wy) (h : UE X E e wv) (hs : swapsWith e (some (.Subscript (.Name x p') e2 p2)) pos.line X.env = pure false := by rfl) : US X E (.Assign [.Subscript (.Name x p') e2 p2] e pos) (wPut i wy wv) := by
  refine ⟨PS.wk (ps_putU hu hv hk.pe h.pe hs) fun D σ H ⟨me, dr, sa, F0, H0, F, env, S, q⟩ => at_e h S q fun d z v F1 H1 e1 r1 => ?_, fun D D' env l q => h.mono _ _ _ _ _ (fun d ⟨o, ho, z⟩ => ⟨o, ho, hk.mono _ _ _ _ _ (fun k z2 => ?_) l.xe z⟩) l.xe q⟩
  · obtain ⟨o, ho, z⟩ := z
    have S1 := S.go e1
    obtain ⟨l, h1, nd, fp, own⟩ := S1.slot i _ ho
    refine ⟨.ref l, h1, at_e hk S1 z fun k z2 y F2 H2 e2 r2 => ?_⟩
    have S2 := S1.go e2
    have own2 := Own.evo e2 nd own
    have rd := Rp.mono e2.fs d r1
    cases o with
    | dct ks vs =>
      obtain ⟨key, ek, hl, z2⟩ := z2
      subst ek
      obtain ⟨kvs, g1, g2, g3⟩ := own2
      subst g2
      rw [List.length_map] at hl
      have ey := rp_key r2
      subst ey
      obtain ⟨b1, b2⟩ := put_rp (k := key) g3 rd
      exact ⟨l, _, rfl, .inl (DPut.k (k := key) (v := v) g1 (Nat.lt_of_lt_of_le hl (most_le (Nat.le_refl _)))), z2 F2 σ _ (S2.mut ho h1 rfl ⟨_, upd_same, b1, b2⟩) (e1.fs.trans e2.fs)⟩
    | dcT ks vs =>
      obtain ⟨key, ek, hl, z2⟩ := z2
      obtain ⟨kvs, g1, g2, g3, g4⟩ := own2
      obtain ⟨b, rfl, n, hd⟩ := nkT_of e2.toBs.sub r2 ek
      have hl2 : kvs.length < sizeLine := by
        have : ks.length = kvs.length := by
          have := congrArg List.length g2
          simpa using this
        rw [← this]
        exact Nat.lt_of_lt_of_le hl (most_le (Nat.le_refl _))
      obtain ⟨b1, b2, b3⟩ := put_rpT ek r2 rd g2 g3 g4
      exact ⟨l, _, rfl, .inr ⟨b, kvs, key, rfl, by rw [hw]; exact g1, keysG_of e2.toBs.sub g2 g3, n, hd, hl2, rfl⟩, z2 F2 σ _ (S2.mut ho h1 rfl ⟨_, by rw [upd_same, hw], b1, b2, b3⟩) (e1.fs.trans e2.fs)⟩
    | _ => exact z2.elim
  · cases o with
    | dct ks vs =>
      obtain ⟨key, a1, a2, a3⟩ := z2
      exact ⟨key, a1, a2, l.nx _ a3⟩
    | dcT ks vs =>
      obtain ⟨key, a1, a2, a3⟩ := z2
      exact ⟨key, a1, a2, l.nx _ a3⟩
    | _ => exact z2.elim
/-- self.f = e -/
def wFldS (i : Nat) (f : Str) (w : WE) : WS := fun D env => w env (fun d => ∃ c ns vs, env[i]? = some (.ow (.ins c ns vs)) ∧ f ∉ ns ∧ ns.length < 1000 ∧ D.nx (env.set i (.ow (.ins c (ns ++ [f]) (vs ++ [d]))))) D.xe
theorem put_fld {K : PySem.W.Frag} {dr : Addr} {F : Hp} {f : Str} {v : V} {d : D} : ∀ {fs : List (Str × V)} {vs : List D}, f ∉ fs.map (·.1) → RpA K dr F (fs.map (·.2)) vs → Rp K dr F v d → (putF f v fs).map (·.1) = fs.map (·.1) ++ [f] ∧ RpA K dr F ((putF f v fs).map (·.2)) (vs ++ [d])
  | [], _, _, r, rv => by
    cases r
    exact ⟨rfl, .cons rv .nil⟩
  | (g, x) :: fs, _, h, r, rv => by
    rw [List.map_cons, List.mem_cons, not_or] at h
    cases r with
    | cons r1 r2 =>
      obtain ⟨a1, a2⟩ := put_fld h.2 r2 rv
      unfold putF
      rw [if_neg (fun z => h.1 z.symm)]
      exact ⟨by rw [List.map_cons, a1]; rfl, .cons r1 a2⟩
theorem us_fld {i : Nat} {x f : Str} {p' p2 : Pos} (cl : Str) (hc : Cls X.K (He.ga X.K cl)) (hn : NoAttr X.K (He.ga X.K cl) f) (hv : PE X (.Name x p') (tVar i)) (h : UE X E e w) (hs : swapsWith e (some (.Attribute (.Name x p') f p2)) pos.line X.env = pure false := by rfl) :
    US X E (.Assign [.Attribute (.Name x p') f p2] e pos) (fun D env => (∃ ns vs, env[i]? = some (.ow (.ins cl ns vs))) ∧ wFldS i f w D env) := by
  refine ⟨PS.wk (ps_fld hv h.pe hs) fun D σ H ⟨me, dr, sa, F0, H0, F, env, S, ⟨ns0, vs0, hi0⟩, q⟩ => at_e h S q fun d z v F1 H1 e1 r1 => ?_, fun D D' env l ⟨a, q⟩ => ⟨a, h.mono _ _ _ _ _ (fun d ⟨c, ns, vs, a1, a2, a3, a4⟩ => ⟨c, ns, vs, a1, a2, a3, l.nx _ a4⟩) l.xe q⟩⟩
  obtain ⟨c, ns, vs, hi, nf, nl, z⟩ := z
  rw [hi0] at hi
  cases hi
  have S1 := S.go e1
  obtain ⟨l, h1, nd, fp, C, dx, fs, g1, g2, g3, g4⟩ := S1.slot i _ hi0
  subst g2 g3
  rw [List.length_map] at nl
  obtain ⟨b1, b2⟩ := put_fld nf g4 r1
  exact ⟨.ref l, h1, l, _, dx, fs, rfl, g1, hc, hn, nl, z F1 σ _ (S1.mut hi0 h1 rfl ⟨_, dx, _, upd_same, rfl, b1, b2⟩) e1.fs⟩
end
end U
/-! U9: targets, what is walked, for, while, a, b = x, y. -/
namespace U
open PySem PySem.Spec PyProof.Rows L2
variable [Wo]

/-! ### targets -/
/-- a state kept by stores into the slots is -/
abbrev GF := Addr → Hp → Hp → L2.St → En → Prop
structure Clo (K : PySem.W.Frag) (G : GF) (is : List Nat) : Prop where
  sub : ∀ dr F H σ env, G dr F H σ env → Sub F H
  set : ∀ dr F H σ env i v d, i ∈ is → G dr F H σ env → Rp K dr F v d → G dr F H (σ.set i (some v)) (env.set i (.fz d))
abbrev WG := D → En → (En → Prop) → Prop
abbrev WGs := List D → En → (En → Prop) → Prop
def tGG (K : PySem.W.Frag) (G : GF) (g : WG) : TG := fun v σ H Q => ∃ dr F env d, G dr F H σ env ∧ Rp K dr F v d ∧ g d env (fun e => ∀ τ, G dr F H τ e → Q τ H)
def tGGs (K : PySem.W.Frag) (G : GF) (g : WGs) : TGs := fun vs σ H Q => ∃ dr F env ds, G dr F H σ env ∧ RpA K dr F vs ds ∧ g ds env (fun e => ∀ τ, G dr F H τ e → Q τ H)
structure UTg (X : Cx) (tg : Expr) (is : List Nat) (g : WG) : Prop where
  pg : ∀ G, Clo X.K G is → PG X tg (tGG X.K G g)
  mono : ∀ d env (Q Q' : En → Prop), (∀ e, Q e → Q' e) → g d env Q → g d env Q'
structure UTs (X : Cx) (tg : List Expr) (is : List Nat) (g : WGs) : Prop where
  pg : ∀ G, Clo X.K G is → PGs X tg (tGGs X.K G g)
  mono : ∀ d env (Q Q' : En → Prop), (∀ e, Q e → Q' e) → g d env Q → g d env Q'
theorem Clo.less {K : PySem.W.Frag} {G : GF} {is js : List Nat} (c : Clo K G is) (h : ∀ i, i ∈ js → i ∈ is) : Clo K G js := ⟨c.sub, fun dr F H σ env i v d hi => c.set dr F H σ env i v d (h i hi)⟩
section
variable {X : Cx} {E : XK} {e e2 a b c tg : Expr} {es : List Expr} {is js : List Nat} {g : WG} {gs : WGs} {pos p : Pos} {w w1 w2 : WE}
theorem PG.wk {t t' : TG} (h : PG X tg t) (k : ∀ v σ H Q, t' v σ H Q → t v σ H Q) : PG X tg t' := ⟨fun pins s σ H v u Q I r q => h.run pins s σ H v u Q I r (k v σ H Q q)⟩
theorem PGs.wk {t t' : TGs} (h : PGs X es t) (k : ∀ v σ H Q, t' v σ H Q → t v σ H Q) : PGs X es t' := ⟨fun pins s σ H v u Q I r q => h.run pins s σ H v u Q I r (k v σ H Q q)⟩
def gN (i : Nat) : WG := fun d env Q => Q (env.set i (.fz d))
theorem ug_name {i : Nat} {x : Str} (hN : X.N.Nodup) (hi : X.N[i]? = some x) (hx : Loc X.env.scope x) (hf : X.fn x = true ∨ X.env.scope.names.lookup x = some .local := by first | exact .inl rfl | exact .inr rfl) : UTg X (.Name x pos) [i] (gN i) :=
  ⟨fun G cl => PG.wk (pg_name hN hi hx hf) fun v σ H Q ⟨dr, F, env, d, g0, r, q⟩ => q _ (cl.set dr F H σ env i v d (List.mem_singleton.mpr rfl) g0 r), fun d env Q Q' k q => k _ q⟩
def gsNil : WGs := fun ds env Q => ds = [] ∧ Q env
def gsCons (g : WG) (r : WGs) : WGs := fun ds env Q => ∃ d t, ds = d :: t ∧ g d env (fun e => r t e Q)
theorem ugs_nil : UTs X [] [] gsNil := ⟨fun G cl => PGs.wk pgs_nil fun vs σ H Q ⟨dr, F, env, ds, g0, r, e, q⟩ => by
  subst e
  cases r
  exact ⟨rfl, q σ g0⟩, fun d env Q Q' k ⟨e, q⟩ => ⟨e, k _ q⟩⟩
theorem ugs_cons (h : UTg X tg is g) (t : UTs X es js gs) (hs : (assignEach (tg :: es) X.env).map (·.2) = assign tg X.env :: (assignEach es X.env).map (·.2) := by rfl) : UTs X (tg :: es) (is ++ js) (gsCons g gs) :=
  ⟨fun G cl => PGs.wk (pgs_cons (h.pg G (cl.less fun i hi => List.mem_append_left _ hi)) (t.pg G (cl.less fun i hi => List.mem_append_right _ hi)) hs) fun vs σ H Q ⟨dr, F, env, ds, g0, r, d, ds', e, q⟩ => by
    subst e
    cases r with
    | cons r1 r2 => exact ⟨_, _, rfl, dr, F, env, d, g0, r1, h.mono d env _ _ (fun e1 q1 τ g1 => ⟨dr, F, e1, ds', g1, r2, q1⟩) q⟩,
   fun d env Q Q' k ⟨d1, t1, e, q⟩ => ⟨d1, t1, e, h.mono _ _ _ _ (fun e1 q1 => t.mono _ _ _ _ k q1) q⟩⟩
def gTp (n : Nat) (r : WGs) : WG := fun d env Q => ∃ ds, d = .tup ds ∧ ds.length = n ∧ r ds env Q
theorem ug_tup {k n : Nat} (hc : X.calm = true) (h : UTs X es is gs) (hn : (assignEach es X.env).length = n := by rfl) (hst : (assignEach es X.env).findIdx? (·.1) = none := by rfl) : UTg X (.Tuple es k pos) is (gTp n gs) :=
  ⟨fun G cl => PG.wk (pg_tup hc (h.pg G cl) hn hst) fun v σ H Q ⟨dr, F, env, d, g0, r, ds, e, hl, q⟩ => by
    subst e
    cases r with
    | tup r1 r2 => exact ⟨_, _, rfl, .inl (.inl (cl.sub dr F H σ env g0 _ _ r1)), by rw [r2.length]; exact hl, dr, F, env, ds, g0, r2, q⟩,
   fun d env Q Q' k ⟨ds, e, hl, q⟩ => ⟨ds, e, hl, h.mono _ _ _ _ k q⟩⟩
/-- a, b = e: a tuple taken apart -/
def wUnp (g : WG) (w : WE) : WS := fun D env => w env (fun d => g d env (fun e => D.nx e)) D.xe
theorem us_unp (h : UE X E e w) (t : UTg X tg is g) (hs : swapsWithSole [tg] e pos.line X.env = pure false := by rfl) (hw : swappedStores [tg] e X.env = pure none := by rfl)
    (h1 : (assignEach [tg] X.env).map (·.2) = [assign tg X.env] := by rfl) : US X E (.Assign [tg] e pos) (wUnp g w) := by
  refine ⟨⟨fun pins s σ H D I ⟨me, dr, sa, F0, H0, F, env, S, q⟩ => ?_⟩, fun D D' env l q => h.mono _ _ _ _ _ (fun d z => t.mono _ _ _ _ l.nx z) l.xe q⟩
  have cl : Clo X.K (fun dr' F' H' σ' e' => dr' = dr ∧ Ss X.K me dr sa F0 H0 F' σ' H' e') is := ⟨fun dr' F' H' σ' e' g0 => g0.2.toBs.sub, fun dr' F' H' σ' e' i v d hi g0 r => ⟨g0.1, g0.2.setF i (by rw [← g0.1]; exact r)⟩⟩
  refine (ps_asg (pos := pos) h.pe (t.pg _ cl) hs hw h1).run pins s σ H D I (at_e h S q fun d z v F' H' ev r => ⟨dr, F', env, d, ⟨rfl, S.go ev⟩, r, t.mono _ _ _ _ (fun e1 z1 τ g1 => z1 F' τ H' g1.2 ev.fs) z⟩)

/-! ### what is walked -/
/-- J yields ds, whatever comes besides -/
def ItD (K : PySem.W.Frag) (dr sa : Addr) (J : It) (F1 : Hp) (ds : List D) : Prop := ∀ F H, Bs dr sa F H → Sub F1 F →
  (∀ i d, ds[i]? = some d → J.go i H ∧ ∀ x H', J.yld i H x H' → ∃ F', Evo dr sa F H F' H' ∧ Rp K dr F' x d) ∧ J.stop ds.length H
abbrev WI := En → (List D → Prop) → XP → Prop
def tGI (E : XK) (K : PySem.W.Frag) (w : WI) : TI := fun σ H R => ∃ dr sa F env, Sr K dr sa F σ H env ∧ w env (fun ds => ∀ J F' H', Evo dr sa F H F' H' → ItD K dr sa J F' ds → R J H') (xw E K dr sa F H)
structure UI (X : Cx) (E : XK) (tg e : Expr) (w : WI) : Prop where
  pi : PI X tg e (tGI E X.K w)
  mono : ∀ env (Q Q' : List D → Prop) (x x' : XP), (∀ d, Q d → Q' d) → (∀ c n v, x c n v → x' c n v) → w env Q x → w env Q' x'
theorem PI.wk {t t' : TI} (h : PI X tg e t) (k : ∀ σ H R, t' σ H R → t σ H R) : PI X tg e t' := ⟨fun pins s σ H R I q => h.run pins s σ H R I (k σ H R q)⟩
theorem UI.or {u1 u2 : WI} (h1 : UI X E tg e u1) (h2 : UI X E tg e u2) : UI X E tg e (fun env Q x => u1 env Q x ∨ u2 env Q x) :=
  ⟨⟨fun pins s σ H R I ⟨dr, sa, F, env, S, q⟩ => q.elim (fun q => h1.pi.run pins s σ H R I ⟨dr, sa, F, env, S, q⟩) fun q => h2.pi.run pins s σ H R I ⟨dr, sa, F, env, S, q⟩⟩,
   fun env Q Q' x x' k kx q => q.elim (fun q => .inl (h1.mono env _ _ _ _ k kx q)) fun q => .inr (h2.mono env _ _ _ _ k kx q)⟩
theorem at_lst {K : PySem.W.Frag} {dr sa a : Addr} {F1 : Hp} {xs : List V} {ds : List D} (h : F1 a = some (.lst xs)) (r : RpA K dr F1 xs ds) : ItD K dr sa (Itl K a) F1 ds := fun F H B s => by
  have hs : SqL K H a xs := sqL (B.sub _ _ (s _ _ h))
  refine ⟨fun i d e => ?_, xs, hs, by rw [r.length]; exact Nat.le_refl _⟩
  obtain ⟨v, hv, rv⟩ := r.at_ e
  refine ⟨⟨xs, v, hs, hv⟩, fun x H' y => ?_⟩
  obtain ⟨e1, y⟩ := y
  subst e1
  have z := y xs hs
  rw [hv] at z
  cases z
  exact ⟨F, Evo.refl B, Rp.mono s d rv⟩
theorem at_tup {K : PySem.W.Frag} {dr sa a : Addr} {F1 : Hp} {xs : List V} {ds : List D} (h : F1 a = some (.tup xs)) (r : RpA K dr F1 xs ds) : ItD K dr sa (Itt K a) F1 ds := fun F H B s => by
  have hs : SqT K H a xs := .inl (.inl (B.sub _ _ (s _ _ h)))
  refine ⟨fun i d e => ?_, xs, hs, by rw [r.length]; exact Nat.le_refl _⟩
  obtain ⟨v, hv, rv⟩ := r.at_ e
  refine ⟨⟨xs, v, hs, hv⟩, fun x H' y => ?_⟩
  obtain ⟨e1, y⟩ := y
  subst e1
  have z := y xs hs
  rw [hv] at z
  cases z
  exact ⟨F, Evo.refl B, Rp.mono s d rv⟩
def wiL (w : WE) : WI := fun env Q x => w env (fun d => ∃ ds, d = .lst ds ∧ Q ds) x
def wiT (w : WE) : WI := fun env Q x => w env (fun d => ∃ ds, d = .tup ds ∧ Q ds) x
theorem ui_lst (h : UE X E e w) : UI X E tg e (wiL w) :=
  ⟨PI.wk (pi_list h.pe) fun σ H R ⟨dr, sa, F, env, S, q⟩ => ⟨dr, sa, F, env, S, h.mono env _ _ _ _ (fun d ⟨ds, ed, q1⟩ v F1 H1 e1 r1 => by
    subst ed
    cases r1 with
    | lst g1 g2 => exact ⟨_, rfl, ⟨_, sqL (e1.toBs.sub _ _ g1)⟩, q1 _ F1 H1 e1 (at_lst g1 g2)⟩) (fun _ _ _ z => z) q⟩,
   fun env Q Q' x x' k kx q => h.mono env _ _ _ _ (fun d ⟨ds, ed, q1⟩ => ⟨ds, ed, k _ q1⟩) kx q⟩
theorem ui_tup (h : UE X E e w) : UI X E tg e (wiT w) :=
  ⟨PI.wk (pi_tup h.pe) fun σ H R ⟨dr, sa, F, env, S, q⟩ => ⟨dr, sa, F, env, S, h.mono env _ _ _ _ (fun d ⟨ds, ed, q1⟩ v F1 H1 e1 r1 => by
    subst ed
    cases r1 with
    | tup g1 g2 => exact ⟨_, rfl, ⟨_, .inl (.inl (e1.toBs.sub _ _ g1))⟩, q1 _ F1 H1 e1 (at_tup g1 g2)⟩) (fun _ _ _ z => z) q⟩,
   fun env Q Q' x x' k kx q => h.mono env _ _ _ _ (fun d ⟨ds, ed, q1⟩ => ⟨ds, ed, k _ q1⟩) kx q⟩
/-- lo, lo + 1, .. (n of them) -/
def upD (lo : Int) : Nat → List D
  | 0 => []
  | n + 1 => .int lo :: upD (lo + 1) n
theorem upD_length : ∀ (n : Nat) (lo : Int), (upD lo n).length = n
  | 0, _ => rfl
  | n + 1, lo => by
    show (upD (lo + 1) n).length + 1 = n + 1
    rw [upD_length n]
theorem upD_at : ∀ (n : Nat) (lo : Int) (i : Nat), i < n → (upD lo n)[i]? = some (.int (lo + i))
  | 0, _, _, h => absurd h (Nat.not_lt_zero _)
  | n + 1, lo, 0, _ => by
    show some (D.int lo) = _
    rw [show lo + ((0 : Nat) : Int) = lo from Int.add_zero lo]
  | n + 1, lo, i + 1, h => by
    show (upD (lo + 1) n)[i]? = _
    rw [upD_at n (lo + 1) i (Nat.lt_of_succ_lt_succ h)]
    congr 2
    omega
theorem at_rng {K : PySem.W.Frag} {dr sa : Addr} {F1 : Hp} {lo : Int} {n : Nat} : ItD K dr sa (Itr lo n) F1 (upD lo n) := fun F H B s => by
  refine ⟨fun i d e => ?_, Nat.le_of_eq (upD_length n lo).symm⟩
  have hi : i < n := by
    have := (List.getElem?_eq_some_iff.mp e).1
    rw [upD_length] at this
    exact this
  rw [upD_at n lo i hi] at e
  cases e
  refine ⟨hi, fun x H' y => ?_⟩
  obtain ⟨e1, y⟩ := y
  subst e1 y
  exact ⟨F, Evo.refl B, .int _⟩
def inR (i : Int) : Prop := -(2 ^ 62) ≤ i ∧ i < 2 ^ 62
def wiR1 (w : WE) : WI := fun env Q x => w env (fun d => ∃ j, d = .int j ∧ inR j ∧ Q (upD 0 j.toNat)) x
def wiR2 (w1 w2 : WE) : WI := fun env Q x => w1 env (fun d => w2 env (fun d2 => ∃ i j, d = .int i ∧ d2 = .int j ∧ inR i ∧ inR j ∧ Q (upD i (j - i).toNat)) x) x
theorem ui_range1 (hg : Gl X "range") (hm : X.mg "range" = none) (h : UE X E e w) (hs : starEach [e] X.env = [(false, eval e X.env)] := by rfl) : UI X E tg (.Call (.Name "range" p) [e] [] pos) (wiR1 w) :=
  ⟨PI.wk (pi_range1 hg hm (pa_cons h.pe pa_nil hs) hs) fun σ H R ⟨dr, sa, F, env, S, q⟩ => ⟨dr, sa, F, env, S, h.mono env _ _ _ _ (fun d ⟨j, ed, hj, q1⟩ v F1 H1 e1 r1 => by
    subst ed
    exact ⟨j, by rw [rp_int r1], hj.1, hj.2, q1 _ F1 H1 e1 at_rng⟩) (fun _ _ _ z => z) q⟩,
   fun env Q Q' x x' k kx q => h.mono env _ _ _ _ (fun d ⟨j, ed, hj, q1⟩ => ⟨j, ed, hj, k _ q1⟩) kx q⟩
theorem ui_range2 (hg : Gl X "range") (hm : X.mg "range" = none) (h : UE X E e w1) (h2 : UE X E e2 w2) (hs : starEach [e, e2] X.env = [(false, eval e X.env), (false, eval e2 X.env)] := by rfl) (hs2 : starEach [e2] X.env = [(false, eval e2 X.env)] := by rfl) : UI X E tg (.Call (.Name "range" p) [e, e2] [] pos) (wiR2 w1 w2) :=
  ⟨PI.wk (pi_range2 hg hm (pa_cons h.pe (pa_cons h2.pe pa_nil hs2) (by rw [hs, hs2])) hs hs2) fun σ H R ⟨dr, sa, F, env, S, q⟩ => ⟨dr, sa, F, env, S, h.mono env _ _ _ _ (fun d q1 v F1 H1 e1 r1 => ⟨dr, sa, F1, env, S.evo e1, h2.mono env _ _ _ _ (fun d2 ⟨i, j, ed, ed2, hi, hj, q2⟩ v2 F2 H2 e2 r2 => by
    subst ed ed2
    exact ⟨i, j, by rw [rp_int r1, rp_int r2], ⟨hi.1, hi.2, hj.1, hj.2⟩, q2 _ F2 H2 (e1.trans e2) at_rng⟩) (fun _ _ _ z => z.evo e1) q1⟩) (fun _ _ _ z => z) q⟩,
   fun env Q Q' x x' k kx q => h.mono env _ _ _ _ (fun d q1 => h2.mono env _ _ _ _ (fun d2 ⟨i, j, a1, a2, a3, a4, q2⟩ => ⟨i, j, a1, a2, a3, a4, k _ q2⟩) kx q1) kx q⟩
def signs (z : Str) : List D := z.cps.toList.map fun c => .str ⟨#[c]⟩
theorem at_str {K : PySem.W.Frag} {dr sa : Addr} {F1 : Hp} {z : Str} : ItD K dr sa (Its z) F1 (signs z) := fun F H B s => by
  refine ⟨fun i d e => ?_, by show z.cps.size ≤ (signs z).length; unfold signs; rw [List.length_map, Array.length_toList]; exact Nat.le_refl _⟩
  unfold signs at e
  rw [List.getElem?_map] at e
  cases q : z.cps.toList[i]? with
  | none =>
    rw [q] at e
    cases e
  | some c =>
    rw [q] at e
    cases e
    rw [Array.getElem?_toList] at q
    refine ⟨(Array.getElem?_eq_some_iff.mp q).1, fun x H' y => ?_⟩
    obtain ⟨e1, c', hc, ex⟩ := y
    rw [q] at hc
    cases hc
    subst e1 ex
    exact ⟨F, Evo.refl B, .str _⟩
def wiS (w : WE) : WI := fun env Q x => w env (fun d => ∃ z, d = .str z ∧ Q (signs z)) x
theorem ui_str (h : UE X E e w) : UI X E tg e (wiS w) :=
  ⟨PI.wk (pi_str h.pe) fun σ H R ⟨dr, sa, F, env, S, q⟩ => ⟨dr, sa, F, env, S, h.mono env _ _ _ _ (fun d ⟨z, ed, q1⟩ v F1 H1 e1 r1 => by
    subst ed
    exact ⟨z, ro_str (H := H1) (.inl r1), q1 _ F1 H1 e1 at_str⟩) (fun _ _ _ z => z) q⟩,
   fun env Q Q' x x' k kx q => h.mono env _ _ _ _ (fun d ⟨z, ed, q1⟩ => ⟨z, ed, k _ q1⟩) kx q⟩
/-- 0, a; 1, b; .. -/
def numD (i : Nat) : List D → List D
  | [] => []
  | d :: ds => .tup [.int (i : Nat), d] :: numD (i + 1) ds
theorem numD_at : ∀ (ds : List D) (j i : Nat), (numD j ds)[i]? = (ds[i]?).map fun d => .tup [.int ((j + i : Nat) : Int), d]
  | [], _, _ => rfl
  | d :: ds, j, 0 => rfl
  | d :: ds, j, i + 1 => by
    show (numD (j + 1) ds)[i]? = (ds[i]?).map _
    rw [numD_at ds (j + 1) i, show j + 1 + i = j + (i + 1) by omega]
theorem numD_length : ∀ (ds : List D) (j : Nat), (numD j ds).length = ds.length
  | [], _ => rfl
  | d :: ds, j => by
    show (numD (j + 1) ds).length + 1 = ds.length + 1
    rw [numD_length]
theorem at_enum {K : PySem.W.Frag} {dr sa a : Addr} {F1 : Hp} {xs : List V} {ds : List D} (h : F1 a = some (.lst xs)) (r : RpA K dr F1 xs ds) : ItD K dr sa (Ite K a) F1 (numD 0 ds) := fun F H B s => by
  have hs : SqL K H a xs := sqL (B.sub _ _ (s _ _ h))
  refine ⟨fun i d e => ?_, xs, hs, by rw [r.length, numD_length]; exact Nat.le_refl _⟩
  rw [numD_at] at e
  cases q : ds[i]? with
  | none =>
    rw [q] at e
    cases e
  | some z =>
    rw [q] at e
    cases e
    obtain ⟨v, hv, rv⟩ := r.at_ q
    refine ⟨⟨xs, v, hs, hv⟩, fun x H' y => ?_⟩
    obtain ⟨T, x1, e1, hT, e2, y⟩ := y
    have z2 := y xs hs
    rw [hv] at z2
    cases z2
    subst e1 e2
    rw [Nat.zero_add]
    obtain ⟨ev, rp⟩ := Evo.tup (ds := [.int (i : Nat), z]) B hT (.cons (.int _) (.cons (Rp.mono s z rv) .nil))
    exact ⟨_, ev, rp⟩
def wiE (w : WE) : WI := fun env Q x => w env (fun d => ∃ ds, d = .lst ds ∧ Q (numD 0 ds)) x
theorem ui_enum {tp : Pos} {kk : Nat} (hg : Gl X "enumerate") (hm : X.mg "enumerate" = none) (h : UE X E e w) (hs : starEach [e] X.env = [(false, eval e X.env)] := by rfl) : UI X E (.Tuple es kk tp) (.Call (.Name "enumerate" p) [e] [] pos) (wiE w) :=
  ⟨PI.wk (pi_enum hg hm (pa_cons h.pe pa_nil hs) hs) fun σ H R ⟨dr, sa, F, env, S, q⟩ => ⟨dr, sa, F, env, S, h.mono env _ _ _ _ (fun d ⟨ds, ed, q1⟩ v F1 H1 e1 r1 => by
    subst ed
    cases r1 with
    | lst g1 g2 => exact ⟨_, _, rfl, sqL (e1.toBs.sub _ _ g1), q1 _ F1 H1 e1 (at_enum g1 g2)⟩) (fun _ _ _ z => z) q⟩,
   fun env Q Q' x x' k kx q => h.mono env _ _ _ _ (fun d ⟨ds, ed, q1⟩ => ⟨ds, ed, k _ q1⟩) kx q⟩

/-! ### for -/
def wForL (g : WG) (b : WS) (D : WEn) : List U.D → En → Prop
  | [], env => D.nx env
  | d :: ds, env => g d env fun e => b { D with nx := wForL g b D ds, ct := wForL g b D ds, bk := D.nx } e
def wFor (wi : WI) (g : WG) (b : WS) : WS := fun D env => wi env (fun ds => wForL g b D ds env) D.xe
theorem wForL_mono {bl : List Stmt} {b : WS} (t : UTg X tg is g) (hb : UB X E bl b) {D D' : WEn} (l : WEn.le D D') : ∀ (ds : List U.D) env, wForL g b D ds env → wForL g b D' ds env
  | [], env, h => l.nx _ h
  | d :: ds, env, h => t.mono _ _ _ _ (fun e q => hb.mono { D with nx := wForL g b D ds, ct := wForL g b D ds, bk := D.nx } { D' with nx := wForL g b D' ds, ct := wForL g b D' ds, bk := D'.nx } _ ⟨fun e2 q2 => wForL_mono t hb l ds e2 q2, l.rt, fun e2 q2 => l.nx _ q2, fun e2 q2 => wForL_mono t hb l ds e2 q2, l.xe⟩ q) h
theorem us_for {bl : List Stmt} {b : WS} {wi : WI} (hp : PassesOwn (model X.prog X.w) X.A X.env X.xe) (hc : X.calm = true) (hi : UI X E tg e wi) (t : UTg X tg is g) (hb : UB X E bl b) (hs : ∀ x, foldedSetIterable e X.env x = pure x := by intro _; rfl) :
    US X E (.For tg e bl [] pos) (wFor wi g b) := by
  refine ⟨⟨fun pins s σ H Dn I ⟨me, dr, sa, F0, H0, F, env, S, q⟩ => ?_⟩, fun D D' env l q => hi.mono _ _ _ _ _ (fun ds z => wForL_mono t hb l ds env z) l.xe q⟩
  have cl : Clo X.K (fun dr' F' H' σ' e' => dr' = dr ∧ Ss X.K me dr sa F0 H0 F' σ' H' e') is := ⟨fun dr' F' H' σ' e' g0 => g0.2.toBs.sub, fun dr' F' H' σ' e' i v d hi g0 r => ⟨g0.1, g0.2.setF i (by rw [← g0.1]; exact r)⟩⟩
  refine (ps_for (pos := pos) hp hc hi.pi (t.pg _ cl) hb.ps hs).run pins s σ H Dn I ⟨dr, sa, F, env, S.toSr, hi.mono env _ _ _ _ (fun ds q1 J F1 H1 e1 it => ?_) (fun _ _ _ z => z.evo S.evo) q⟩
  refine ⟨fun i m σ H => m = ds.length - i ∧ i ≤ ds.length ∧ ∃ F' e', Ss X.K me dr sa F0 H0 F' σ H e' ∧ Sub F1 F' ∧ wForL g b (wends E X.K me dr sa F0 H0 F Dn) (ds.drop i) e', ⟨_, rfl, Nat.zero_le _, F1, env, S.go e1, Sub.refl _, q1⟩, ?_⟩
  rintro i m σ' H' ⟨rfl, hil, F', e', S', sb, z⟩
  obtain ⟨go, stop⟩ := it F' H' S'.toBs sb
  by_cases hlt : i < ds.length
  · have eq := List.drop_eq_getElem_cons hlt
    rw [eq] at z
    obtain ⟨g1, g2⟩ := go i ds[i] (List.getElem?_eq_getElem hlt)
    refine .inr ⟨g1, _, fun τ G n => ⟨ds.length - (i + 1), by omega, n⟩, fun x H2 y => ?_⟩
    obtain ⟨F2, e2, r2⟩ := g2 x H2 y
    refine ⟨dr, F2, e', ds[i], ⟨rfl, S'.go e2⟩, r2, t.mono _ _ _ _ (fun e3 z3 τ g3 => ?_) z⟩
    refine ⟨me, dr, sa, F0, H0, F2, e3, g3.2, hb.mono { wends E X.K me dr sa F0 H0 F Dn with nx := wForL g b (wends E X.K me dr sa F0 H0 F Dn) (ds.drop (i + 1)), ct := wForL g b (wends E X.K me dr sa F0 H0 F Dn) (ds.drop (i + 1)), bk := (wends E X.K me dr sa F0 H0 F Dn).nx } _ _ ⟨fun e4 z4 F4 τ4 H4 S4 s4 => ?_, fun d z4 => z4, fun e4 z4 F4 τ4 H4 S4 s4 => ?_, fun e4 z4 F4 τ4 H4 S4 s4 => ?_, fun _ _ _ z => z⟩ z3⟩
    · exact ⟨rfl, hlt, F4, e4, S4, (sb.trans e2.fs).trans s4, z4⟩
    · exact z4 F4 τ4 H4 S4 (((e1.fs.trans sb).trans e2.fs).trans s4)
    · exact ⟨rfl, hlt, F4, e4, S4, (sb.trans e2.fs).trans s4, z4⟩
  · have ei : i = ds.length := by omega
    subst ei
    rw [List.drop_length] at z
    exact .inl ⟨stop, z F' σ' H' S' (e1.fs.trans sb)⟩

/-! ### while -/
def wWh (c : WT) (b : WS) (D : WEn) : Nat → En → Prop
  | 0, _ => False
  | n + 1, env => c env (fun k => if k = true then b { D with nx := wWh c b D n, ct := wWh c b D n, bk := D.nx } env else D.nx env) D.xe
def wWhile (c : WT) (b : WS) : WS := fun D env => ∃ n, wWh c b D n env
theorem wWh_mono {bl : List Stmt} {b : WS} {wc : WT} (hc : UT X E c wc) (hb : UB X E bl b) {D D' : WEn} (l : WEn.le D D') : ∀ n env, wWh wc b D n env → wWh wc b D' n env
  | 0, _, h => h
  | n + 1, env, h => hc.mono _ _ _ _ _ (fun k q => by
    cases k
    · exact l.nx _ q
    · exact hb.mono { D with nx := wWh wc b D n, ct := wWh wc b D n, bk := D.nx } { D' with nx := wWh wc b D' n, ct := wWh wc b D' n, bk := D'.nx } _ ⟨fun e2 q2 => wWh_mono hc hb l n e2 q2, l.rt, fun e2 q2 => l.nx _ q2, fun e2 q2 => wWh_mono hc hb l n e2 q2, l.xe⟩ q) l.xe h
theorem us_while {bl : List Stmt} {b : WS} {wc : WT} (hp : PassesOwn (model X.prog X.w) X.A X.env X.xe) (hc : UT X E c wc) (hb : UB X E bl b) : US X E (.While c bl [] pos) (wWhile wc b) := by
  refine ⟨PS.wk (ps_while hp hc.pe hb.ps) fun Dn σ H ⟨me, dr, sa, F0, H0, F, env, S, n, q⟩ => ?_, fun D D' env l ⟨n, q⟩ => ⟨n, wWh_mono hc hb l n env q⟩⟩
  refine ⟨fun m σ H => ∃ F' e', Ss X.K me dr sa F0 H0 F' σ H e' ∧ Sub F F' ∧ wWh wc b (wends E X.K me dr sa F0 H0 F Dn) m e', ⟨n, F, env, S, Sub.refl _, q⟩, ?_⟩
  rintro m σ' H' ⟨F', e', S', sb, z⟩
  cases m with
  | zero => exact z.elim
  | succ m =>
    refine at_t hc S' z fun k z2 F2 H2 e2 => ?_
    cases k with
    | false => exact z2 F2 σ' H2 (S'.go e2) (sb.trans e2.fs)
    | true =>
      refine ⟨_, fun τ G n => ⟨m, Nat.lt_succ_self m, n⟩, me, dr, sa, F0, H0, F2, e', S'.go e2, hb.mono { wends E X.K me dr sa F0 H0 F Dn with nx := wWh wc b (wends E X.K me dr sa F0 H0 F Dn) m, ct := wWh wc b (wends E X.K me dr sa F0 H0 F Dn) m, bk := (wends E X.K me dr sa F0 H0 F Dn).nx } _ _ ⟨fun e4 z4 F4 τ4 H4 S4 s4 => ?_, fun d z4 => z4, fun e4 z4 F4 τ4 H4 S4 s4 => ?_, fun e4 z4 F4 τ4 H4 S4 s4 => ?_, fun _ _ _ z => z⟩ z2⟩
      · exact ⟨F4, e4, S4, (sb.trans e2.fs).trans s4, z4⟩
      · exact z4 F4 τ4 H4 S4 ((sb.trans e2.fs).trans s4)
      · exact ⟨F4, e4, S4, (sb.trans e2.fs).trans s4, z4⟩

/-! ### a, b = x, y -/
abbrev WM := En → (List Vl → Prop) → XP → Prop
def owns : List V → List Vl → List Addr
  | v :: vs, .ow _ :: xs => (match v with
    | .ref p => [p]
    | _ => []) ++ owns vs xs
  | _ :: vs, .fz _ :: xs => owns vs xs
  | _ :: vs, .un :: xs => owns vs xs
  | _, _ => []
inductive MA (K : PySem.W.Frag) (dr : Addr) (F' H H' : Hp) : List V → List Vl → Prop
  | nil : MA K dr F' H H' [] []
  | fz {v : V} {vs : List V} {d : D} {xs : List Vl} : Rp K dr F' v d → MA K dr F' H H' vs xs → MA K dr F' H H' (v :: vs) (.fz d :: xs)
  | ow {p : Addr} {vs : List V} {d : D} {xs : List Vl} : H p = none → F' p = none → p ≠ dr → isIns d = false → Own K dr F' H' p d → p ∉ owns vs xs → MA K dr F' H H' vs xs → MA K dr F' H H' (.ref p :: vs) (.ow d :: xs)
theorem MA.new {K : PySem.W.Frag} {dr : Addr} {F' H H' : Hp} {vs : List V} {xs : List Vl} (m : MA K dr F' H H' vs xs) : ∀ q, q ∈ owns vs xs → H q = none ∧ q ≠ dr := by
  induction m with
  | nil => intro q h; cases h
  | fz r _ ih =>
    intro q h
    exact ih q h
  | ow h1 h2 h3 hn h4 h5 _ ih =>
    intro q h
    rcases List.mem_append.mp h with h | h
    · cases List.mem_singleton.mp h
      exact ⟨h1, h3⟩
    · exact ih q h
theorem MA.base {K : PySem.W.Frag} {dr sa : Addr} {F H F1 F' H1 H' : Hp} {vs : List V} {xs : List Vl} (e : Evo dr sa F H F1 H1) (m : MA K dr F' H1 H' vs xs) : MA K dr F' H H' vs xs := by
  induction m with
  | nil => exact .nil
  | fz r _ ih => exact .fz r ih
  | ow h1 h2 h3 hn h4 h5 _ ih => exact .ow (e.none0 h3 h1) h2 h3 hn h4 h5 ih
def tGM (E : XK) (K : PySem.W.Frag) (w : WM) : TA := fun σ H Q => ∃ dr sa F env, Sr K dr sa F σ H env ∧ w env (fun xs => ∀ vs F' H', Evo dr sa F H F' H' → MA K dr F' H H' vs xs → Q vs H') (xw E K dr sa F H)
structure UM (X : Cx) (E : XK) (es : List Expr) (w : WM) : Prop where
  pe : PA X es (tGM E X.K w)
  mono : ∀ env (Q Q' : List Vl → Prop) (x x' : XP), (∀ d, Q d → Q' d) → (∀ c n v, x c n v → x' c n v) → w env Q x → w env Q' x'
def wmNil : WM := fun _ Q _ => Q []
def wmF (w : WE) (r : WM) : WM := fun env Q x => w env (fun d => r env (fun xs => Q (.fz d :: xs)) x) x
def wmO (w : WE) (r : WM) : WM := fun env Q x => w env (fun d => r env (fun xs => Q (.ow d :: xs)) x) x
theorem um_nil : UM X E [] wmNil := ⟨PA.wk pa_nil fun σ H Q ⟨dr, sa, F, env, S, q⟩ => q [] F H (Evo.refl S.toBs) .nil, fun env Q Q' x x' k _ q => k _ q⟩
variable {wm : WM}
theorem um_f (h : UE X E e w) (r : UM X E es wm) (hs : starEach (e :: es) X.env = (false, eval e X.env) :: starEach es X.env := by rfl) : UM X E (e :: es) (wmF w wm) :=
  ⟨PA.wk (pa_cons h.pe r.pe hs) fun σ H Q ⟨dr, sa, F, env, S, q⟩ => ⟨dr, sa, F, env, S, h.mono env _ _ _ _ (fun d q1 v F1 H1 e1 r1 => ⟨dr, sa, F1, env, S.evo e1, r.mono env _ _ _ _ (fun xs q2 vs F2 H2 e2 m => q2 (v :: vs) F2 H2 (e1.trans e2) (.fz (Rp.mono e2.fs d r1) (m.base e1))) (fun _ _ _ z => z.evo e1) q1⟩) (fun _ _ _ z => z) q⟩,
   fun env Q Q' x x' k kx q => h.mono env _ _ _ _ (fun d q1 => r.mono env _ _ _ _ (fun ds q2 => k _ q2) kx q1) kx q⟩
theorem um_o (h : UF X E e w) (r : UM X E es wm) (hs : starEach (e :: es) X.env = (false, eval e X.env) :: starEach es X.env := by rfl) : UM X E (e :: es) (wmO w wm) :=
  ⟨PA.wk (pa_cons h.pe r.pe hs) fun σ H Q ⟨dr, sa, F, env, S, q⟩ => ⟨dr, sa, F, env, S, h.mono env _ _ _ _ (fun d q1 p F1 H1 e1 hp fp nd hn o => ⟨dr, sa, F1, env, S.evo e1, r.mono env _ _ _ _ (fun xs q2 vs F2 H2 e2 m => by
    obtain ⟨u, hu⟩ := o.there
    refine q2 (.ref p :: vs) F2 H2 (e1.trans e2) (.ow hp (e2.out fp hu) nd hn (o.evo e2 nd) (fun z => ?_) (m.base e1))
    have z2 := (m.new p z).1
    rw [hu] at z2
    cases z2) (fun _ _ _ z => z.evo e1) q1⟩) (fun _ _ _ z => z) q⟩,
   fun env Q Q' x x' k kx q => h.mono env _ _ _ _ (fun d q1 => r.mono env _ _ _ _ (fun ds q2 => k _ q2) kx q1) kx q⟩
def setsV : List Nat → List V → L2.St → L2.St
  | i :: is, v :: vs, σ => setsV is vs (σ.set i (some v))
  | _, _, σ => σ
def setsX : List Nat → List Vl → En → En
  | i :: is, x :: xs, env => setsX is xs (env.set i x)
  | _, _, env => env
theorem SsF.sets {K : PySem.W.Frag} {me : Option Addr} {dr sa : Addr} {F0 H0 F H' H : Hp} : ∀ {vs : List V} {xs : List Vl} (is : List Nat) {σ : L2.St} {env : En} {ft : Nat → List Addr}, MA K dr F H H' vs xs → SsF K me dr sa F0 H0 F σ H' env ft →
    (∀ (j : Nat) (a : Addr), a ∈ ft j → a ∉ owns vs xs) → (∀ a ∈ owns vs xs, H0 a = none) → Ss K me dr sa F0 H0 F (setsV is vs σ) H' (setsX is xs env)
  | [], _, is, σ, env, ft, m, S, hk, h0 => by
    cases m
    cases is <;> exact ⟨ft, S⟩
  | v :: vs, xs, [], σ, env, ft, m, S, hk, h0 => by
    cases m <;> exact ⟨ft, S⟩
  | v :: vs, _, i :: is, σ, env, ft, m, S, hk, h0 => by
    cases m with
    | fz r m' =>
      rename_i d xs
      obtain ⟨ft', S', hf⟩ := S.set i v (.fz d) [] ⟨rfl, v, rfl, r⟩ (fun _ e => nomatch e) (fun a h => nomatch h) fun a h => nomatch h
      exact SsF.sets is m' S' (fun j a ha => (hf j a ha).elim (fun z => nomatch z) fun z => hk j a z) h0
    | ow h1 h2 h3 hn h4 h5 m' =>
      rename_i p d xs
      have hp : p ∈ owns (.ref p :: vs) (.ow d :: xs) := List.mem_append_left _ (List.mem_singleton.mpr rfl)
      obtain ⟨ft', S', hf⟩ := S.set i (.ref p) (.ow d) [p] ⟨p, rfl, rfl, h3, h2, h4⟩ (fun e he => by cases he; exact hn) (fun a ha => by rw [List.mem_singleton.mp ha]; exact h0 p hp) fun a ha j _ hj => by
        rw [List.mem_singleton.mp ha] at hj
        exact hk j p hj hp
      refine SsF.sets is m' S' (fun j a ha => ?_) fun a ha => h0 a (List.mem_append_right _ ha)
      rcases hf j a ha with z | z
      · rw [List.mem_singleton.mp z]
        exact h5
      · exact fun q => hk j a z (List.mem_append_right _ q)
def wPar (is : List Nat) (w : WM) : WS := fun D env => w env (fun xs => xs.length = is.length ∧ D.nx (setsX is xs env)) D.xe
theorem par_in {E : XK} {K : PySem.W.Frag} {is : List Nat} {Dn : Ends} {me : Option Addr} {dr sa : Addr} {F0 H0 F H F1 H1 : Hp} {σ : L2.St} {env : En} {vs : List V} {xs : List Vl} (S : Ss K me dr sa F0 H0 F σ H env) (e1 : Evo dr sa F H F1 H1) (m : MA K dr F1 H H1 vs xs) (q : (wends E K me dr sa F0 H0 F Dn).nx (setsX is xs env)) : Dn.nx (setsV is vs σ) H1 :=
  S.elim fun ft S => q F1 _ H1 (SsF.sets is m (S.go e1) (fun j a hj ha => by
    obtain ⟨_, _, u, hu⟩ := S.toSrF.at_ft hj
    rw [(m.new a ha).1] at hu
    cases hu) fun a ha => S.evo.none0 (m.new a ha).2 (m.new a ha).1) e1.fs
theorem MA.length {K : PySem.W.Frag} {dr : Addr} {F' H H' : Hp} {vs : List V} {xs : List Vl} (m : MA K dr F' H H' vs xs) : vs.length = xs.length := by
  induction m with
  | nil => rfl
  | fz r _ ih => rw [List.length_cons, List.length_cons, ih]
  | ow h1 h2 h3 hn h4 h5 _ ih => rw [List.length_cons, List.length_cons, ih]
theorem us_par {i j : Nat} {x y : Str} {px py pt : Pos} {kt k2 pt2} (hc : X.calm = true) (hN : X.N.Nodup) (hi : X.N[i]? = some x) (hj : X.N[j]? = some y) (hij : i ≠ j)
    (hx : X.env.scope.names.lookup x = some .local) (hy : X.env.scope.names.lookup y = some .local) (ha : UM X E [a, b] wm)
    (hw : swappedStores [.Tuple [.Name x px, .Name y py] kt pt] (.Tuple [a, b] k2 pt2) X.env = pure (some [x, y]))
    (hs : swapsWithSole [.Tuple [.Name x px, .Name y py] kt pt] (.Tuple [a, b] k2 pt2) pos.line X.env = pure false := by rfl) :
    US X E (.Assign [.Tuple [.Name x px, .Name y py] kt pt] (.Tuple [a, b] k2 pt2) pos) (wPar [i, j] wm) :=
  ⟨PS.wk (ps_par hc hN hi hj hij hx hy ha.pe hw hs) fun Dn σ H ⟨me, dr, sa, F0, H0, F, env, S, q⟩ => ⟨dr, sa, F, env, S.toSr, ha.mono env _ _ _ _ (fun xs ⟨hl, q1⟩ vs F1 H1 e1 m => by
    have hv := m.length
    rw [hl] at hv
    match vs, hv, m with
    | [v1, v2], _, m => exact ⟨v1, v2, rfl, par_in S e1 m q1⟩) (fun _ _ _ z => z.evo S.evo) q⟩,
   fun D D' env l q => ha.mono _ _ _ _ _ (fun xs z => ⟨z.1, l.nx _ z.2⟩) l.xe q⟩
theorem us_par3 {i j l : Nat} {x y z : Str} {px py pz pt : Pos} {kt k2 pt2} (hc : X.calm = true) (hN : X.N.Nodup) (hi : X.N[i]? = some x) (hj : X.N[j]? = some y) (hl : X.N[l]? = some z) (hij : i ≠ j) (hil : i ≠ l) (hjl : j ≠ l)
    (hx : X.env.scope.names.lookup x = some .local) (hy : X.env.scope.names.lookup y = some .local) (hz : X.env.scope.names.lookup z = some .local) (ha : UM X E [a, b, c] wm)
    (hw : swappedStores [.Tuple [.Name x px, .Name y py, .Name z pz] kt pt] (.Tuple [a, b, c] k2 pt2) X.env = pure (some [x, y, z]))
    (hs : swapsWithSole [.Tuple [.Name x px, .Name y py, .Name z pz] kt pt] (.Tuple [a, b, c] k2 pt2) pos.line X.env = pure false := by rfl) :
    US X E (.Assign [.Tuple [.Name x px, .Name y py, .Name z pz] kt pt] (.Tuple [a, b, c] k2 pt2) pos) (wPar [i, j, l] wm) :=
  ⟨PS.wk (ps_par3 hc hN hi hj hl hij hil hjl hx hy hz ha.pe hw hs) fun Dn σ H ⟨me, dr, sa, F0, H0, F, env, S, q⟩ => ⟨dr, sa, F, env, S.toSr, ha.mono env _ _ _ _ (fun xs ⟨hl, q1⟩ vs F1 H1 e1 m => by
    have hv := m.length
    rw [hl] at hv
    match vs, hv, m with
    | [v1, v2, v3], _, m => exact ⟨v1, v2, v3, rfl, par_in S e1 m q1⟩) (fun _ _ _ z => z.evo S.evo) q⟩,
   fun D D' env l q => ha.mono _ _ _ _ _ (fun xs z => ⟨z.1, l.nx _ z.2⟩) l.xe q⟩
end
end U
/-! U10: comprehensions. -/
namespace U
open PySem PySem.Spec PyProof.Rows L2
variable [Wo]

theorem wipe_at (σ : L2.St) : ∀ (vs : List Nat) (j : Nat), (wipe σ vs)[j]? = if j ∈ vs ∧ j < σ.length then some none else σ[j]?
  | [], j => by
    rw [if_neg (fun h => nomatch h.1)]
    rfl
  | v :: vs, j => by
    show ((wipe σ vs).set v none)[j]? = _
    by_cases hv : v = j
    · subst hv
      by_cases hl : v < σ.length
      · rw [List.getElem?_set_self (by rw [wipe_length]; exact hl), if_pos ⟨List.mem_cons_self .., hl⟩]
      · rw [List.getElem?_eq_none (by rw [List.length_set, wipe_length]; omega), if_neg (fun h => hl h.2), List.getElem?_eq_none (by omega)]
    · rw [List.getElem?_set_ne hv, wipe_at σ vs j]
      by_cases hm : j ∈ vs
      · simp [hm]
      · simp [hm, Ne.symm hv]
theorem wipe_set {σ : L2.St} {i : Nat} {x : Option V} {vs : List Nat} (h : i ∈ vs) : wipe (σ.set i x) vs = wipe σ vs := by
  apply List.ext_getElem?
  intro j
  rw [wipe_at, wipe_at, List.length_set]
  by_cases hj : j ∈ vs ∧ j < σ.length
  · rw [if_pos hj, if_pos hj]
  · rw [if_neg hj, if_neg hj]
    by_cases e : i = j
    · subst e
      rw [List.getElem?_eq_none (by rw [List.length_set]; exact Nat.le_of_not_lt fun z => hj ⟨h, z⟩), List.getElem?_eq_none (Nat.le_of_not_lt fun z => hj ⟨h, z⟩)]
    · rw [List.getElem?_set_ne e]
theorem wipe_wipe {σ : L2.St} {vs : List Nat} : wipe (wipe σ vs) vs = wipe σ vs := by
  apply List.ext_getElem?
  intro j
  rw [wipe_at (wipe σ vs), wipe_length]
  by_cases hj : j ∈ vs ∧ j < σ.length
  · rw [if_pos hj, wipe_at, if_pos hj]
  · rw [if_neg hj]
/-- those slots forgotten -/
def wipeX (env : En) : List Nat → En
  | [] => env
  | v :: vs => (wipeX env vs).set v .un
theorem wipeX_at {env : En} {x : Vl} : ∀ {vs : List Nat} {j : Nat}, (wipeX env vs)[j]? = some x → x = .un ∨ (env[j]? = some x ∧ j ∉ vs)
  | [], j, h => .inr ⟨h, fun z => nomatch z⟩
  | v :: vs, j, h => by
    rcases set_get h with ⟨_, e, _⟩ | ⟨ne, h⟩
    · exact .inl e
    · rcases wipeX_at h with e | ⟨e, n⟩
      · exact .inl e
      · exact .inr ⟨e, fun z => by
          rcases List.mem_cons.mp z with z | z
          · exact ne z
          · exact n z⟩
theorem wipeX_length {env : En} : ∀ vs : List Nat, (wipeX env vs).length = env.length
  | [] => rfl
  | v :: vs => by
    show ((wipeX env vs).set v .un).length = _
    rw [List.length_set, wipeX_length vs]
theorem wipeX_same {env : En} : ∀ {vs : List Nat} {j : Nat}, j ∉ vs → (wipeX env vs)[j]? = env[j]?
  | [], _, _ => rfl
  | v :: vs, j, h => by
    rw [List.mem_cons, not_or] at h
    show ((wipeX env vs).set v .un)[j]? = _
    rw [List.getElem?_set_ne (Ne.symm h.1)]
    exact wipeX_same h.2
section
variable {K : PySem.W.Frag} {me : Option Addr} {dr sa : Addr} {F H F' H' : Hp} {σ : L2.St} {env : En}
theorem Sr.wipe (S : Sr K dr sa F σ H env) (vs : List Nat) : Sr K dr sa F (L2.wipe σ vs) H (wipeX env vs) := by
  obtain ⟨ft, S⟩ := S
  have same : ∀ j, j ∉ vs → (L2.wipe σ vs)[j]? = σ[j]? := fun j hj => by
    rw [wipe_at, if_neg (fun z => hj z.1)]
  have sub : ∀ j a, a ∈ (if j ∈ vs then [] else ft j) → a ∈ ft j := fun j a h => by
    by_cases q : j ∈ vs
    · rw [if_pos q] at h
      cases h
    · rw [if_neg q] at h
      exact h
  refine ⟨fun j => if j ∈ vs then [] else ft j, S.toBs, fun j x h => ?_, fun j h => ?_, fun i j a hi hj => S.dsj i j a (sub i a hi) (sub j a hj), by rw [wipe_length, wipeX_length, S.len]⟩
  · by_cases q : j ∈ vs
    · rcases wipeX_at h with e | ⟨e, n⟩
      · rw [e, if_pos q]
        rfl
      · exact absurd q n
    · rcases wipeX_at h with e | ⟨e, n⟩
      · rw [e, if_neg q]
        -- forgotten before too
        have hl : j < env.length := by
          have z := (List.getElem?_eq_some_iff.mp h).1
          rw [wipeX_length] at z
          exact z
        have h2 := wipeX_same (env := env) q
        rw [h, e] at h2
        exact S.slt j _ h2.symm
      · rw [if_neg q, same j q]
        exact S.slt j x e
  · have hn : env[j]? = none := by
      rw [List.getElem?_eq_none_iff, wipeX_length] at h
      exact List.getElem?_eq_none_iff.mpr h
    show (if j ∈ vs then [] else ft j) = []
    split
    · rfl
    · exact S.out j hn
theorem Sr.setF (S : Sr K dr sa F σ H env) (i : Nat) {v : V} {d : D} (r : Rp K dr F v d) : Sr K dr sa F (σ.set i (some v)) H (env.set i (.fz d)) := by
  obtain ⟨ft, S⟩ := S
  have sub : ∀ j a, a ∈ (if j = i then [] else ft j) → a ∈ ft j := fun j a h => by
    by_cases q : j = i
    · rw [if_pos q] at h
      cases h
    · rw [if_neg q] at h
      exact h
  refine ⟨fun j => if j = i then [] else ft j, S.toBs, fun j y h => ?_, fun j h => ?_, fun j k a hj hk => S.dsj j k a (sub j a hj) (sub k a hk), by rw [List.length_set, List.length_set, S.len]⟩
  · rcases set_get h with ⟨rfl, rfl, hl⟩ | ⟨ne, h⟩
    · rw [if_pos rfl]
      exact ⟨rfl, v, List.getElem?_set_self (by rw [S.len]; exact hl), r⟩
    · rw [List.getElem?_set_ne (Ne.symm ne), if_neg ne]
      exact S.slt j y h
  · show (if j = i then [] else ft j) = []
    split
    · rfl
    · exact S.out j (set_none h)
end
abbrev xF : XP := fun _ _ _ => False
abbrev EF : XK := fun _ _ _ => False
theorem xF_xw {K : PySem.W.Frag} {dr sa : Addr} {F H : Hp} : ∀ c n v, xF c n v → xw EF K dr sa F H c n v := fun _ _ _ h => h.elim
/-- a clause's tests -/
structure UPs (X : Cx) (ifs : List Expr) (w : WT) : Prop where
  pt : PTs X ifs (tGT EF X.K w)
  mono : ∀ env (Q Q' : Bool → Prop) (x x' : XP), (∀ d, Q d → Q' d) → (∀ c n v, x c n v → x' c n v) → w env Q x → w env Q' x'
def wtYes : WT := fun _ Q _ => Q true
theorem ups_nil {X : Cx} : UPs X [] wtYes := ⟨⟨fun pins s σ H Q I ⟨dr, sa, F, env, S, q⟩ => pts_nil.run pins s σ H Q I (q F H (Evo.refl S.toBs))⟩, fun env Q Q' x x' k _ q => k _ q⟩
theorem ups_one {X : Cx} {c : Expr} {w : WT} (h : UT X EF c w) : UPs X [c] w := ⟨pts_one h.pe, h.mono⟩

/-- the list that a comprehension makes -/
def wLcL (is : List Nat) (g : WG) (t : WT) (w : WE) (env : En) (Q : D → Prop) : List D → List D → Prop
  | [], acc => Q (.lst acc)
  | d :: ds, acc => g d (wipeX env is) fun e => t e (fun k => if k = true then w e (fun v => acc.length < most ∧ wLcL is g t w env Q ds (acc ++ [v])) xF else wLcL is g t w env Q ds acc) xF
def wLc (wi : WI) (is : List Nat) (g : WG) (t : WT) (w : WE) : WE := fun env Q x => wi env (fun ds => wLcL is g t w env Q ds []) x
def wDcL (is : List Nat) (g : WG) (t : WT) (wy w : WE) (env : En) (Q : D → Prop) : List D → List Key → List D → Prop
  | [], ks, vs => Q (.dct ks vs)
  | d :: ds, ks, vs => g d (wipeX env is) fun e => t e (fun k => if k = true then wy e (fun y => w e (fun v => ∃ z, y = kD z ∧ ks.length < most ∧ wDcL is g t wy w env Q ds (putKs ks z) (putVs ks vs z v)) xF) xF else wDcL is g t wy w env Q ds ks vs) xF
def wDc (wi : WI) (is : List Nat) (g : WG) (t : WT) (wy w : WE) : WE := fun env Q x => wi env (fun ds => wDcL is g t wy w env Q ds [] []) x
section
variable {X : Cx} {E : XK} {elt kx vx tg iter : Expr} {ifs : List Expr} {scope : Scope} {own : List (Str × Nat)} {pos spos py : Pos} {wi : WI} {g : WG} {t : WT} {w wy : WE} {is : List Nat}
abbrev blkX (X : Cx) (scope : Scope) (s : Shared) (H : Hp) (C : Addr) (cl : List (Str × Addr)) (fp : List Addr) : Cx := X.blk s H scope (compEnvC scope cl C X.env) fp
theorem wLcL_mono (hg : ∀ d env (Q Q' : En → Prop), (∀ e, Q e → Q' e) → g d env Q → g d env Q') (ht : ∀ env (Q Q' : Bool → Prop) (x x' : XP), (∀ d, Q d → Q' d) → (∀ c n v, x c n v → x' c n v) → t env Q x → t env Q' x')
    (hw : ∀ env (Q Q' : D → Prop) (x x' : XP), (∀ d, Q d → Q' d) → (∀ c n v, x c n v → x' c n v) → w env Q x → w env Q' x') {env : En} {Q Q' : D → Prop} (k : ∀ d, Q d → Q' d) : ∀ ds acc, wLcL is g t w env Q ds acc → wLcL is g t w env Q' ds acc
  | [], acc, h => k _ h
  | d :: ds, acc, h => hg _ _ _ _ (fun e q => ht _ _ _ _ _ (fun b q2 => by
    cases b
    · exact wLcL_mono hg ht hw k ds acc q2
    · exact hw _ _ _ _ _ (fun v q3 => ⟨q3.1, wLcL_mono hg ht hw k ds _ q3.2⟩) (fun _ _ _ z => z) q2) (fun _ _ _ z => z) q) h
theorem wDcL_mono (hg : ∀ d env (Q Q' : En → Prop), (∀ e, Q e → Q' e) → g d env Q → g d env Q') (ht : ∀ env (Q Q' : Bool → Prop) (x x' : XP), (∀ d, Q d → Q' d) → (∀ c n v, x c n v → x' c n v) → t env Q x → t env Q' x')
    (hy : ∀ env (Q Q' : D → Prop) (x x' : XP), (∀ d, Q d → Q' d) → (∀ c n v, x c n v → x' c n v) → wy env Q x → wy env Q' x') (hw : ∀ env (Q Q' : D → Prop) (x x' : XP), (∀ d, Q d → Q' d) → (∀ c n v, x c n v → x' c n v) → w env Q x → w env Q' x') {env : En} {Q Q' : D → Prop} (k : ∀ d, Q d → Q' d) : ∀ ds ks vs, wDcL is g t wy w env Q ds ks vs → wDcL is g t wy w env Q' ds ks vs
  | [], ks, vs, h => k _ h
  | d :: ds, ks, vs, h => hg _ _ _ _ (fun e q => ht _ _ _ _ _ (fun b q2 => by
    cases b
    · exact wDcL_mono hg ht hy hw k ds ks vs q2
    · exact hy _ _ _ _ _ (fun y q3 => hw _ _ _ _ _ (fun v ⟨z, a1, a2, q4⟩ => ⟨z, a1, a2, wDcL_mono hg ht hy hw k ds _ _ q4⟩) (fun _ _ _ z => z) q3) (fun _ _ _ z => z) q2) (fun _ _ _ z => z) q) h
/-- what the target's rule keeps within a block -/
def gBlk (K : PySem.W.Frag) (dr sa : Addr) (vs : List Nat) (σ : L2.St) : GF := fun dr' F' H' σ' e' => dr' = dr ∧ Sr K dr sa F' σ' H' e' ∧ wipe σ' vs = wipe σ vs
theorem gBlk_clo {K : PySem.W.Frag} {dr sa : Addr} {vs : List Nat} {σ : L2.St} (h : ∀ i, i ∈ is → i ∈ vs) : Clo K (gBlk K dr sa vs σ) is := ⟨fun dr' F' H' σ' e' g0 => g0.2.1.toBs.sub, fun dr' F' H' σ' e' i v d hi g0 r => ⟨g0.1, g0.2.1.setF i (by rw [← g0.1]; exact r), by rw [wipe_set (h i hi)]; exact g0.2.2⟩⟩
/-- the target's rule within a block, for all states -/
def tBlk (K : PySem.W.Frag) (vs : List Nat) (g : WG) : TG := fun v σ H Q => ∃ dr sa σ0, tGG K (gBlk K dr sa vs σ0) g v σ H Q
theorem pg_blk {X : Cx} (h : UTg X tg is g) {vs : List Nat} (hv : ∀ i, i ∈ is → i ∈ vs) : PG X tg (tBlk X.K vs g) := ⟨fun pins s σ H v u Q I r ⟨dr, sa, σ0, q⟩ => (h.pg _ (gBlk_clo hv)).run pins s σ H v u Q I r q⟩
theorem lc_in {dr sa : Addr} {F H F1 H1 : Hp} {σ : L2.St} {env : En} {vs : List Nat} {K : PySem.W.Frag} {J : It} {ds : List D} {Q : VK} {P : D → Prop} (S : Sr K dr sa F σ H env) (e1 : Evo dr sa F H F1 H1) (it : ItD K dr sa J F1 ds) (tm : ∀ d env (Q Q' : En → Prop), (∀ e, Q e → Q' e) → g d env Q → g d env Q')
    (um : ∀ env (Q Q' : Bool → Prop) (x x' : XP), (∀ d, Q d → Q' d) → (∀ c n v, x c n v → x' c n v) → t env Q x → t env Q' x') (wm : ∀ env (Q Q' : D → Prop) (x x' : XP), (∀ d, Q d → Q' d) → (∀ c n v, x c n v → x' c n v) → w env Q x → w env Q' x')
    (go : ∀ d p F' H', P d → Evo dr sa F H F' H' → H p = none → F' p = none → p ≠ dr → isIns d = false → Own K dr F' H' p d → Q (.ref p) H') (q : wLcL vs g t w env P ds []) :
    ∀ L, H1 L = none → ∃ W : Nat → Nat → Hp → Prop, (∃ m, W 0 m (upd H1 L (.lst []))) ∧ ∀ i m H, W i m H →
  (J.stop i H ∧ Q (.ref L) H) ∨ (J.go i H ∧ ∃ Nx : Hp → Prop, (∀ H', Nx H' → ∃ m', m' < m ∧ W (i + 1) m' H') ∧ ∀ x H', J.yld i H x H' → tBlk K vs g x (wipe σ vs) H' fun σ2 H2 => wipe σ2 vs = wipe σ vs ∧ tGT EF K t σ2 H2 fun b H3 =>
    if b = true then tG RF EF K w σ2 H3 fun y H4 => ∃ acc, H4 L = some (.lst acc) ∧ acc.length < sizeLine ∧ Nx (upd H4 L (.lst (acc ++ [y]))) else Nx H3) := by
  intro L hL
  obtain ⟨e0, f0, nd⟩ := own_new (σ := σ) (env := env) (u := .lst []) e1.toBs hL
  refine ⟨fun i m H' => m = ds.length - i ∧ i ≤ ds.length ∧ ∃ F' acc accD, Evo dr sa F1 H1 F' H' ∧ F' L = none ∧ H' L = some (.lst acc) ∧ RpA K dr F' acc accD ∧ wLcL vs g t w env P (ds.drop i) accD, ⟨_, rfl, Nat.zero_le _, F1, [], [], e0, f0, upd_same, .nil, q⟩, ?_⟩
  rintro i m H' ⟨rfl, hil, F', acc, accD, evo, fL, hacc, racc, z⟩
  obtain ⟨itg, its⟩ := it F' H' evo.toBs evo.fs
  by_cases hlt : i < ds.length
  · have eq := List.drop_eq_getElem_cons hlt
    rw [eq] at z
    obtain ⟨g1, g2⟩ := itg i ds[i] (List.getElem?_eq_getElem hlt)
    refine .inr ⟨g1, _, fun G n => ⟨ds.length - (i + 1), by omega, n⟩, fun x H2 y => ?_⟩
    obtain ⟨F2, e2, r2⟩ := g2 x H2 y
    have S2 : Sr K dr sa F2 (wipe σ vs) H2 (wipeX env vs) := ((S.evo e1).evo (evo.trans e2)).wipe vs
    refine ⟨dr, sa, σ, dr, F2, wipeX env vs, ds[i], ⟨rfl, S2, wipe_wipe⟩, r2, tm _ _ _ _ (fun e3 z3 τ g3 => ?_) z⟩
    refine ⟨g3.2.2, dr, sa, F2, e3, g3.2.1, um _ _ _ _ _ (fun b z4 F4 H4 e4 => ?_) xF_xw z3⟩
    have e24 := e2.trans e4
    have h4 : H4 L = some (.lst acc) := e24.keep L _ nd (fun _ z => nomatch z) hacc
    cases b with
    | false => exact ⟨rfl, hlt, F4, acc, accD, evo.trans e24, e24.out fL hacc, h4, RpA.mono e24.fs accD racc, z4⟩
    | true =>
      refine ⟨dr, sa, F4, e3, g3.2.1.evo e4, wm _ _ _ _ _ (fun v z5 y F5 H5 e5 r5 => ?_) xF_xw z4⟩
      have e25 := e24.trans e5
      have h5 : H5 L = some (.lst acc) := e25.keep L _ nd (fun _ z => nomatch z) hacc
      have ra := RpA.mono e25.fs accD racc
      have f5 := e25.out fL hacc
      exact ⟨acc, h5, by rw [racc.length]; exact Nat.lt_of_lt_of_le z5.1 (most_le (Nat.le_refl _)), rfl, hlt, F5, acc ++ [y], accD ++ [v], (evo.trans e25).chg hL f5 nd h5 (fun _ z => nomatch z) (fun _ z => nomatch z), f5, upd_same, ra.append (.cons r5 .nil), z5.2⟩
  · have ei : i = ds.length := by omega
    subst ei
    rw [List.drop_length] at z
    exact .inl ⟨its, go _ L F' H' z (e1.trans evo) (e1.none0 nd hL) fL nd rfl ⟨acc, hacc, racc⟩⟩
/-- [elt for target in iter if ..] -/
theorem uf_lc (hc : X.calm = true) (hN : X.N.Nodup) (hi : UI X E tg iter wi) (ok : BlkOk X.N X.env.scope scope own) (hv : ∀ i, i ∈ is → i ∈ own.map (·.2))
    (hg : ∀ s H C cl fp, UTg (blkX X scope s H C cl fp) tg is g) (ht : ∀ s H C cl fp, UPs (blkX X scope s H C cl fp) ifs t) (he : ∀ s H C cl fp, UE (blkX X scope s H C cl fp) EF elt w) (hs : ∀ x, foldedSetIterable iter X.env x = pure x := by intro _; rfl) :
    UF X E (.ListComp elt [⟨tg, iter, ifs, 0⟩] scope pos) (wLc wi (own.map (·.2)) g t w) := by
  refine ⟨PE.wk (pe_lc (own := own) (g := tBlk X.K (own.map (·.2)) g) (tt := tGT EF X.K t) (te := tG RF EF X.K w) hc hN hi.pi ok (fun s H C cl fp => pg_blk (hg s H C cl fp) hv) (fun s H C cl fp => (ht s H C cl fp).pt) (fun s H C cl fp => (he s H C cl fp).pe) hs) fun σ H Q ⟨dr, sa, F, env, S, q⟩ => ?_, fun env Q Q' x x' k kx q => ?_⟩
  · refine ⟨dr, sa, F, env, S, hi.mono env _ _ _ _ (fun ds q1 J F1 H1 e1 it => ?_) (fun _ _ _ z => z) q⟩
    exact lc_in S e1 it (hg X.s_0 X.H_0 0 [] []).mono (ht X.s_0 X.H_0 0 [] []).mono (he X.s_0 X.H_0 0 [] []).mono (fun d p F' H' z ev a1 a2 a3 an a4 => z p F' H' ev a1 a2 a3 an a4) q1
  · exact hi.mono env _ _ _ _ (fun ds q1 => wLcL_mono (hg X.s_0 X.H_0 0 [] []).mono (ht X.s_0 X.H_0 0 [] []).mono (he X.s_0 X.H_0 0 [] []).mono k ds [] q1) kx q
/-- name = [..] -/
theorem us_setLc {i : Nat} {y : Str} (hc : X.calm = true) (hN : X.N.Nodup) (hy : X.N[i]? = some y) (hyl : X.env.scope.names.lookup y = some .local) (hsw : swapsWith (.ListComp elt [⟨tg, iter, ifs, 0⟩] scope pos) (some (.Name y py)) spos.line X.env = pure true)
    (hi : UI X E tg iter wi) (ok : BlkOk X.N X.env.scope scope own) (hv : ∀ i, i ∈ is → i ∈ own.map (·.2))
    (hg : ∀ s H C cl fp, UTg (blkX X scope s H C cl fp) tg is g) (ht : ∀ s H C cl fp, UPs (blkX X scope s H C cl fp) ifs t) (he : ∀ s H C cl fp, UE (blkX X scope s H C cl fp) EF elt w) (hs : ∀ x, foldedSetIterable iter X.env x = pure x := by intro _; rfl) :
    US X E (.Assign [.Name y py] (.ListComp elt [⟨tg, iter, ifs, 0⟩] scope pos) spos) (wSetO i (wLc wi (own.map (·.2)) g t w)) := by
  refine ⟨PS.wk (ps_setLc (i := i) (own := own) (g := tBlk X.K (own.map (·.2)) g) (tt := tGT EF X.K t) (te := tG RF EF X.K w) hc hN hy hyl hsw hi.pi ok (fun s H C cl fp => pg_blk (hg s H C cl fp) hv) (fun s H C cl fp => (ht s H C cl fp).pt) (fun s H C cl fp => (he s H C cl fp).pe) hs) fun Dn σ H ⟨me, dr, sa, F0, H0, F, env, S, q⟩ => ?_, fun D D' env l q => ?_⟩
  · refine ⟨dr, sa, F, env, S.toSr, hi.mono env _ _ _ _ (fun ds q1 J F1 H1 e1 it => ?_) (fun _ _ _ z => z.evo S.evo) q⟩
    exact lc_in (Q := fun x H1 => gName i x σ H1 Dn.nx) S.toSr e1 it (hg X.s_0 X.H_0 0 [] []).mono (ht X.s_0 X.H_0 0 [] []).mono (he X.s_0 X.H_0 0 [] []).mono (fun d p F' H' z ev a1 a2 a3 an a4 => z F' _ H' (S.setO ev i a1 a2 a3 an a4) ev.fs) q1
  · exact hi.mono env _ _ _ _ (fun ds q1 => wLcL_mono (hg X.s_0 X.H_0 0 [] []).mono (ht X.s_0 X.H_0 0 [] []).mono (he X.s_0 X.H_0 0 [] []).mono (fun d z => l.nx _ z) ds [] q1) l.xe q
theorem wLcL_lst (hg : ∀ d env (Q Q' : En → Prop), (∀ e, Q e → Q' e) → g d env Q → g d env Q') (ht : ∀ env (Q Q' : Bool → Prop) (x x' : XP), (∀ d, Q d → Q' d) → (∀ c n v, x c n v → x' c n v) → t env Q x → t env Q' x')
    (hw : ∀ env (Q Q' : D → Prop) (x x' : XP), (∀ d, Q d → Q' d) → (∀ c n v, x c n v → x' c n v) → w env Q x → w env Q' x') {env : En} {Q : D → Prop} : ∀ ds acc, wLcL is g t w env Q ds acc → wLcL is g t w env (fun d => Q d ∧ ∃ ds, d = .lst ds) ds acc
  | [], acc, h => ⟨h, acc, rfl⟩
  | d :: ds, acc, h => hg _ _ _ _ (fun e q => ht _ _ _ _ _ (fun b q2 => by
    cases b
    · exact wLcL_lst hg ht hw ds acc q2
    · exact hw _ _ _ _ _ (fun v q3 => ⟨q3.1, wLcL_lst hg ht hw ds _ q3.2⟩) (fun _ _ _ z => z) q2) (fun _ _ _ z => z) q) h
/-- .. and let go at once -/
theorem us_setLcF {i : Nat} {y : Str} {st : Stmt} {w : WE} (h : US X E st (wSetO i w)) (hm : ∀ env (Q Q' : D → Prop) (x x' : XP), (∀ d, Q d → Q' d) → (∀ c n v, x c n v → x' c n v) → w env Q x → w env Q' x') (hl : ∀ env (Q : D → Prop) (x : XP), w env Q x → w env (fun d => Q d ∧ ∃ ds, d = .lst ds) x) : US X E st (fun D env => i < env.length ∧ wSet i w D env) :=
  ⟨PS.wk h.ps fun Dn σ H ⟨me, dr, sa, F0, H0, F, env, S, hi, q⟩ => ⟨me, dr, sa, F0, H0, F, env, S, hm _ _ _ _ _ (fun d ⟨z, ds, ed⟩ F' τ H' S' sb => by
    subst ed
    obtain ⟨G, l, S2⟩ := S'.freezeL (i := i) (ds := ds) (List.getElem?_set_self hi)
    have z2 := z G τ H'
    rw [List.set_set] at S2
    exact z2 S2 (sb.trans l)) (fun _ _ _ z => z) (hl _ _ _ q)⟩,
   fun D D' env l ⟨hi, q⟩ => ⟨hi, hm _ _ _ _ _ (fun d z => l.nx _ z) l.xe q⟩⟩

theorem dc_in {dr sa : Addr} {F H F1 H1 : Hp} {σ : L2.St} {env : En} {vs : List Nat} {K : PySem.W.Frag} {J : It} {ds : List D} {Q : VK} {P : D → Prop} (S : Sr K dr sa F σ H env) (e1 : Evo dr sa F H F1 H1) (it : ItD K dr sa J F1 ds) (tm : ∀ d env (Q Q' : En → Prop), (∀ e, Q e → Q' e) → g d env Q → g d env Q')
    (um : ∀ env (Q Q' : Bool → Prop) (x x' : XP), (∀ d, Q d → Q' d) → (∀ c n v, x c n v → x' c n v) → t env Q x → t env Q' x') (ym : ∀ env (Q Q' : D → Prop) (x x' : XP), (∀ d, Q d → Q' d) → (∀ c n v, x c n v → x' c n v) → wy env Q x → wy env Q' x') (wm : ∀ env (Q Q' : D → Prop) (x x' : XP), (∀ d, Q d → Q' d) → (∀ c n v, x c n v → x' c n v) → w env Q x → w env Q' x')
    (go : ∀ d p F' H', P d → Evo dr sa F H F' H' → H p = none → F' p = none → p ≠ dr → isIns d = false → Own K dr F' H' p d → Q (.ref p) H') (q : wDcL vs g t wy w env P ds [] []) :
    ∀ L, H1 L = none → ∃ W : Nat → Nat → Hp → Prop, (∃ m, W 0 m (upd H1 L (.dK []))) ∧ ∀ i m H, W i m H →
  (J.stop i H ∧ Q (.ref L) H) ∨ (J.go i H ∧ ∃ Nx : Hp → Prop, (∀ H', Nx H' → ∃ m', m' < m ∧ W (i + 1) m' H') ∧ ∀ x H', J.yld i H x H' → tBlk K vs g x (wipe σ vs) H' fun σ2 H2 => wipe σ2 vs = wipe σ vs ∧ tGT EF K t σ2 H2 fun b H3 =>
    if b = true then tG RF EF K wy σ2 H3 fun y H4 => tG RF EF K w σ2 H4 fun z H5 => ∃ kvs k, y = kV k ∧ H5 L = some (.dK kvs) ∧ kvs.length < sizeLine ∧ Nx (upd H5 L (.dK (putK kvs k z))) else Nx H3) := by
  intro L hL
  obtain ⟨e0, f0, nd⟩ := own_new (σ := σ) (env := env) (u := .dK []) e1.toBs hL
  refine ⟨fun i m H' => m = ds.length - i ∧ i ≤ ds.length ∧ ∃ F' acc accD, Evo dr sa F1 H1 F' H' ∧ F' L = none ∧ H' L = some (.dK acc) ∧ RpA K dr F' (acc.map (·.2)) accD ∧ wDcL vs g t wy w env P (ds.drop i) (acc.map (·.1)) accD, ⟨_, rfl, Nat.zero_le _, F1, [], [], e0, f0, upd_same, .nil, q⟩, ?_⟩
  rintro i m H' ⟨rfl, hil, F', acc, accD, evo, fL, hacc, racc, z⟩
  obtain ⟨itg, its⟩ := it F' H' evo.toBs evo.fs
  by_cases hlt : i < ds.length
  · have eq := List.drop_eq_getElem_cons hlt
    rw [eq] at z
    obtain ⟨g1, g2⟩ := itg i ds[i] (List.getElem?_eq_getElem hlt)
    refine .inr ⟨g1, _, fun G n => ⟨ds.length - (i + 1), by omega, n⟩, fun x H2 y => ?_⟩
    obtain ⟨F2, e2, r2⟩ := g2 x H2 y
    have S2 : Sr K dr sa F2 (wipe σ vs) H2 (wipeX env vs) := ((S.evo e1).evo (evo.trans e2)).wipe vs
    refine ⟨dr, sa, σ, dr, F2, wipeX env vs, ds[i], ⟨rfl, S2, wipe_wipe⟩, r2, tm _ _ _ _ (fun e3 z3 τ g3 => ?_) z⟩
    refine ⟨g3.2.2, dr, sa, F2, e3, g3.2.1, um _ _ _ _ _ (fun b z4 F4 H4 e4 => ?_) xF_xw z3⟩
    have e24 := e2.trans e4
    have h4 : H4 L = some (.dK acc) := e24.keep L _ nd (fun _ z => nomatch z) hacc
    cases b with
    | false => exact ⟨rfl, hlt, F4, acc, accD, evo.trans e24, e24.out fL hacc, h4, RpA.mono e24.fs accD racc, z4⟩
    | true =>
      refine ⟨dr, sa, F4, e3, g3.2.1.evo e4, ym _ _ _ _ _ (fun y z5 yv F5 H5 e5 r5 => ?_) xF_xw z4⟩
      refine ⟨dr, sa, F5, e3, (g3.2.1.evo e4).evo e5, wm _ _ _ _ _ (fun v z6 vv F6 H6 e6 r6 => ?_) xF_xw z5⟩
      obtain ⟨key, ek, hl, z7⟩ := z6
      subst ek
      have e26 := (e24.trans e5).trans e6
      have h6 : H6 L = some (.dK acc) := e26.keep L _ nd (fun _ z => nomatch z) hacc
      have f6 := e26.out fL hacc
      obtain ⟨b1, b2⟩ := put_rp (k := key) (RpA.mono e26.fs accD racc) r6
      rw [List.length_map] at hl
      rw [← b1] at z7
      exact ⟨acc, key, rp_key r5, h6, Nat.lt_of_lt_of_le hl (most_le (Nat.le_refl _)), rfl, hlt, F6, _, _, (evo.trans e26).chg hL f6 nd h6 (fun _ z => nomatch z) (fun _ z => nomatch z), f6, upd_same, b2, z7⟩
  · have ei : i = ds.length := by omega
    subst ei
    rw [List.drop_length] at z
    exact .inl ⟨its, go _ L F' H' z (e1.trans evo) (e1.none0 nd hL) fL nd rfl ⟨acc, hacc, rfl, racc⟩⟩
/-- {k: v for target in iter if ..} -/
theorem uf_dc (hc : X.calm = true) (hN : X.N.Nodup) (hi : UI X E tg iter wi) (ok : BlkOk X.N X.env.scope scope own) (hv : ∀ i, i ∈ is → i ∈ own.map (·.2))
    (hg : ∀ s H C cl fp, UTg (blkX X scope s H C cl fp) tg is g) (ht : ∀ s H C cl fp, UPs (blkX X scope s H C cl fp) ifs t) (hk : ∀ s H C cl fp, UE (blkX X scope s H C cl fp) EF kx wy) (he : ∀ s H C cl fp, UE (blkX X scope s H C cl fp) EF vx w) (hs : ∀ x, foldedSetIterable iter X.env x = pure x := by intro _; rfl) :
    UF X E (.DictComp kx vx [⟨tg, iter, ifs, 0⟩] scope pos) (wDc wi (own.map (·.2)) g t wy w) := by
  refine ⟨PE.wk (pe_dc (own := own) (g := tBlk X.K (own.map (·.2)) g) (tt := tGT EF X.K t) (tk := tG RF EF X.K wy) (tv := tG RF EF X.K w) hc hN hi.pi ok (fun s H C cl fp => pg_blk (hg s H C cl fp) hv) (fun s H C cl fp => (ht s H C cl fp).pt) (fun s H C cl fp => (hk s H C cl fp).pe) (fun s H C cl fp => (he s H C cl fp).pe) hs) fun σ H Q ⟨dr, sa, F, env, S, q⟩ => ?_, fun env Q Q' x x' k kx q => ?_⟩
  · refine ⟨dr, sa, F, env, S, hi.mono env _ _ _ _ (fun ds q1 J F1 H1 e1 it => ?_) (fun _ _ _ z => z) q⟩
    exact dc_in S e1 it (hg X.s_0 X.H_0 0 [] []).mono (ht X.s_0 X.H_0 0 [] []).mono (hk X.s_0 X.H_0 0 [] []).mono (he X.s_0 X.H_0 0 [] []).mono (fun d p F' H' z ev a1 a2 a3 an a4 => z p F' H' ev a1 a2 a3 an a4) q1
  · exact hi.mono env _ _ _ _ (fun ds q1 => wDcL_mono (hg X.s_0 X.H_0 0 [] []).mono (ht X.s_0 X.H_0 0 [] []).mono (hk X.s_0 X.H_0 0 [] []).mono (he X.s_0 X.H_0 0 [] []).mono k ds [] [] q1) kx q
/-- a block's context -/
theorem Ctx.blk {k : Nat} (c : Ctx k X E) (s : Shared) (H : Hp) (C : Addr) (cl : List (Str × Addr)) (fp : List Addr) : Ctx k (blkX X scope s H C cl fp) EF :=
  ⟨c.w, c.room, c.calm, c.nd, fun u s' ⟨_, _, _, _, _, _, _, _, _, _, _, _, _, _, _, _, w⟩ => w.elim, PassesOwn.never⟩
end
end U
/-! U11: a def keeps its promise by its body; __init__; errors raised. -/
namespace U
open PySem PySem.Spec PyProof.Rows L2
variable [Wo]

/-- the slots at a def's start -/
def start (n : Nat) (ds : List D) : En := ds.map Vl.fz ++ List.replicate (n - ds.length) .un
theorem start_slots {K : PySem.W.Frag} {dr : Addr} {F H : Hp} {N : List Str} {vs : List V} {ds : List D} (r : RpA K dr F vs ds) : ∀ (i : Nat) (x : Vl), (start N.length ds)[i]? = some x → Sl K dr F H x (L2.start N vs)[i]? [] := fun i x h => by
  unfold start at h
  unfold L2.start
  by_cases hl : i < ds.length
  · rw [List.getElem?_append_left (by rw [List.length_map]; exact hl), List.getElem?_map] at h
    rw [List.getElem?_append_left (by rw [List.length_map, r.length]; exact hl), List.getElem?_map]
    cases e : ds[i]? with
    | none =>
      rw [e] at h
      cases h
    | some d =>
      rw [e] at h
      cases h
      obtain ⟨v, hv, rv⟩ := r.at_ e
      rw [hv]
      exact ⟨rfl, v, rfl, rv⟩
  · rw [List.getElem?_append_right (by rw [List.length_map]; omega)] at h
    have := List.mem_of_getElem? h
    rw [List.mem_replicate] at this
    rw [this.2]
    rfl
theorem start_no {n : Nat} {ds : List D} {i : Nat} {d : D} (h : (start n ds)[i]? = some (.ow d)) : False := by
  have m := List.mem_of_getElem? h
  unfold start at m
  rcases List.mem_append.mp m with m | m
  · obtain ⟨z, _, e⟩ := List.mem_map.mp m
    cases e
  · rw [List.mem_replicate] at m
    cases m.2
theorem start_len {n : Nat} {ds : List D} : (start n ds).length = ds.length + (n - ds.length) := by
  unfold start
  rw [List.length_append, List.length_map, List.length_replicate]
/-- what a def's end asks -/
def endU (Q : D → Prop) (x : XP) : WEn := ⟨fun _ => Q .non, Q, fun _ => False, fun _ => False, x⟩
section
variable {V : Wd} {k : Nat} {f : Addr} {fd : FuncData} {x qual : Str} {params : Arguments} {body : List Stmt} {scope : Scope} {N ps : List Str} {fw : FW} {ws : WS}
/-- the context of the def's body -/
abbrev bodyX (V : Wd) (N : List Str) (qual : Str) (scope : Scope) (f : Addr) (cdv : Value) (A : Around) (outer : List Env) (s : Shared) (H : Hp) (E : XK) : Cx := cxOf (L2.CX V.P V.w) V.P V.w V.K V.mg V.base N qual scope f cdv A outer s H E
theorem body_ctx {cdv : Value} {A : Around} {outer : List Env} {s : Shared} {H : Hp} {E : XK} (hV : V.w = Wo.w) (S : FnScope N ps scope) (hr : Room k (A.deeper (envOfC qual scope s.heap.objs.size f cdv))) : Ctx k (bodyX V N qual scope f cdv A outer s H E) E :=
  ⟨hV, hr, rfl, S.nd, takes_of rfl rfl rfl rfl, passes_of rfl⟩
theorem fn_ok (hV : V.w = Wo.w) (F : FunD V.K x qual params body scope [] [] f fd) (S : FnScope N ps scope) (hb : ∀ cdv A outer s H E, Ctx k (bodyX V N qual scope f cdv A outer s H E) E → UB (bodyX V N qual scope f cdv A outer s H E) E body ws)
    (hw : ∀ ds Q z, ds.length = ps.length → fw ds Q z → ws (endU Q z) (start N.length ds)) : FnOk V.P V.w V.K V.mg V.base (L2.CX V.P V.w) (k + 1) f fd ps (spU V.K ps.length fw) := by
  refine F.ok S (fun vs H Q E ⟨dr, sa, F0, ds, B, r, hl, _⟩ => by rw [r.length, hl]) fun cdv A outer s H vs Q E hr ⟨dr, sa, F0, ds, B, r, hl, q⟩ => ?_
  have u := hb cdv A outer s H E (body_ctx hV S hr)
  refine ⟨_, u.ps, none, dr, sa, F0, H, F0, start N.length ds, ⟨fun _ => [], ⟨⟨B, start_slots r, fun _ _ => rfl, (fun _ _ _ h => nomatch h), ?_⟩, Evo.refl B, (fun _ _ h => nomatch h), fun _ _ e => nomatch e⟩⟩, ?_⟩
  · rw [start_len]
    unfold L2.start
    rw [List.length_append, List.length_map, List.length_replicate, r.length]
  · refine u.mono (endU (fun d => ∀ v F' H', Evo dr sa F0 H F' H' → Rp V.K dr F' v d → Q v H') (xw E V.K dr sa F0 H)) _ _ ⟨fun e z F' σ H' S' _ => ?_, fun d z => z, fun e z => z.elim, fun e z => z.elim, fun _ _ _ z => z⟩ (hw ds _ _ hl q)
    exact z _ F' H' S'.evo .non
/-- __init__: the instance in slot 0 -/
def startI (n : Nat) (c : Str) (ds : List D) : En := .ow (.ins c [] []) :: start (n - 1) ds
def endI (Q : D → Prop) (x : XP) : WEn := ⟨fun e => ∃ c ns vs, e[0]? = some (.ow (.ins c ns vs)) ∧ Q (.ins c ns vs), fun _ => False, fun _ => False, fun _ => False, x⟩
theorem init_ok (hV : V.w = Wo.w) {c : Str} {p0 : Str} {ps : List Str} (F : FunD V.K x qual params body scope [] [] f fd) (S : FnScope N (p0 :: ps) scope) (hN : 0 < N.length) (hb : ∀ cdv A outer s H E, Ctx k (bodyX V N qual scope f cdv A outer s H E) E → UB (bodyX V N qual scope f cdv A outer s H E) E body ws)
    (hw : ∀ ds Q z, ds.length = ps.length → fw ds Q z → ws (endI Q z) (startI N.length c ds)) : FnOk V.P V.w V.K V.mg V.base (L2.CX V.P V.w) (k + 1) f fd (p0 :: ps) (spI V.K c ps.length fw) := by
  refine F.ok S (fun vs H Q E ⟨dr, sa, F0, ds, H1, a, dx, us, e, _, _, _, _, _, r, hl, _⟩ => by rw [e, List.length_cons, List.length_cons, r.length, hl]) fun cdv A outer s H vs Q E hr ⟨dr, sa, F0, ds, H1, a, dx, us, ev, ha, hdx, hne, eH, B, r, hl, q⟩ => ?_
  have u := hb cdv A outer s H E (body_ctx hV S hr)
  subst ev eH
  obtain ⟨n0, eN⟩ : ∃ n0, N.length = n0 + 1 := ⟨N.length - 1, by omega⟩
  obtain ⟨y, N', eNN⟩ : ∃ y N', N = y :: N' := by
    cases N with
    | nil => cases eN
    | cons y N' => exact ⟨y, N', rfl⟩
  have hst : L2.start N (.ref a :: us) = some (.ref a) :: L2.start N' us := by
    subst eNN
    unfold L2.start
    rw [List.length_cons, List.length_cons, Nat.add_sub_add_right]
    rfl
  have hl' : N.length - 1 = N'.length := by
    subst eNN
    rfl
  -- the heap ahead of the instance
  have B0 := (own_new (σ := []) (env := []) (u := .own a) B hdx).1.toBs
  have nd : a ≠ dr := fun z => by
    obtain ⟨n, h⟩ := B.draw
    rw [z, h] at ha
    cases ha
  have fa : F0 a = none := by
    cases q : F0 a with
    | none => rfl
    | some z =>
      rw [B.sub a z q] at ha
      cases ha
  have ha0 : upd H1 dx (.own a) a = none := by
    rw [upd_ne (Ne.symm hne)]
    exact ha
  obtain ⟨e2, _, _⟩ := own_new (σ := []) (env := []) (u := .ins (He.ga V.K c) dx []) B0 ha0
  have e1 := (own_new (σ := []) (env := []) (u := .own a) B hdx).1
  have back : ∀ F' H', Evo dr sa F0 (upd H1 dx (.own a)) F' H' → Evo dr sa F0 H1 F' H' := fun F' H' ev => e1.trans ev
  rw [hst]
  refine ⟨_, u.ps, some a, dr, sa, F0, upd H1 dx (.own a), F0, startI N.length c ds, ⟨fun i => if i = 0 then [a] else [], ⟨⟨e2.toBs, fun i z h => ?_, fun i h => ?_, fun i j b h1 h2 => ?_, ?_⟩, e2, fun i b hb => ?_, fun b d hm hd h => ?_⟩⟩, ?_⟩
  · cases i with
    | zero =>
      have ez : Vl.ow (.ins c [] []) = z := Option.some.inj h
      subst ez
      rw [if_pos rfl]
      exact ⟨a, rfl, rfl, nd, fa, _, dx, [], upd_same, rfl, rfl, .nil⟩
    | succ i =>
      unfold startI at h
      rw [List.getElem?_cons_succ, hl'] at h
      rw [List.getElem?_cons_succ, if_neg (Nat.succ_ne_zero i)]
      exact start_slots r i z h
  · cases i with
    | zero => cases h
    | succ i =>
      show (if i + 1 = 0 then [a] else []) = []
      rw [if_neg (Nat.succ_ne_zero i)]
  · have zero : ∀ i, b ∈ (if i = 0 then [a] else []) → i = 0 := fun i h => by
      by_cases q : i = 0
      · exact q
      · rw [if_neg q] at h
        cases h
    rw [zero i h1, zero j h2]
  · unfold startI
    rw [List.length_cons, List.length_cons, start_len, hl']
    unfold L2.start
    rw [List.length_append, List.length_map, List.length_replicate, r.length]
  · have hb : b ∈ (if i = 0 then [a] else []) := hb
    by_cases q : i = 0
    · rw [if_pos q] at hb
      rw [List.mem_singleton.mp hb]
      exact ha0
    · rw [if_neg q] at hb
      cases hb
  · cases hm
    rfl
  · refine u.mono (endI (fun d => ∀ F' H', Evo dr sa F0 H1 F' H' → Rp V.K dr F' (.ref a) d → Q .non H') (xw E V.K dr sa F0 H1)) _ _ ⟨fun e z F' σ H' S' _ => ?_, fun d z => z.elim, fun e z => z.elim, fun e z => z.elim, fun cc n v z F' H' oe ev => z F' H' oe (back F' H' ev)⟩ (hw ds _ _ hl q)
    obtain ⟨c', ns, vs', he, z⟩ := z
    obtain ⟨G, _, S2⟩ := S'.freezeAt he
    have s0 := S'.self a _ rfl rfl he
    have hl0 : 0 < e.length := (List.getElem?_eq_some_iff.mp he).1
    obtain ⟨v, hv, rv⟩ := S2.slot 0 (.fz (.ins c' ns vs')) (List.getElem?_set_self hl0)
    rw [s0] at hv
    cases hv
    exact z G H' (back G H' S2.evo) rv
end

/-! ### errors -/
/-- an error class whose __init__ keeps one field f -/
structure Exf (V : Wd) (k : Nat) (cl f : Str) : Prop where
  ex : ∃ (fI : Addr) (fd : FuncData) (ps : List Str), FnOk V.P V.w V.K V.mg V.base (L2.CX V.P V.w) k fI fd ps (fun vs H Q _ => ∃ a v H1, vs = [.ref a, v] ∧ H1 a = none ∧ H = upd H1 a (exo a (He.ga V.K cl) none) ∧ ∀ dx, H1 dx = none → dx ≠ a → Q .non (upd (upd H dx (exd dx [(f, v)])) a (exo a (He.ga V.K cl) (some dx)))) ∧
    OexC V.K (He.ga V.K cl) ∧ PySem.W.findIn V.K (.ref (He.ga V.K cl)) "__init__" = some (some (.ref fI)) ∧ PySem.W.typeIn V.K (.ref fI) = some (.type "function") ∧ V.mg cl = some (.ref (He.ga V.K cl)) ∧ Binds V.K fd ps []
theorem exf_init {V : Wd} {f0 : Addr} {fd : FuncData} {x qual cl f : Str} {params : Arguments} {body : List Stmt} {scope : Scope} {p0 p1 : Str} (F : FunD V.K x qual params body scope [] [] f0 fd) (S : FnScope [p0, p1] [p0, p1] scope) (T : OexC V.K (He.ga V.K cl)) (hno : PySem.W.findIn V.K (.ref (He.ga V.K cl)) f = some none)
    (hb : ∀ cdv A outer s H E, PSs (bodyX V [p0, p1] qual scope f0 cdv A outer s H E) body (tOst V.K f (tVar 0) (tVar 1))) : FnOk V.P V.w V.K V.mg V.base (L2.CX V.P V.w) 1 f0 fd [p0, p1] (fun vs H Q _ => ∃ a v H1, vs = [.ref a, v] ∧ H1 a = none ∧ H = upd H1 a (exo a (He.ga V.K cl) none) ∧ ∀ dx, H1 dx = none → dx ≠ a → Q .non (upd (upd H dx (exd dx [(f, v)])) a (exo a (He.ga V.K cl) (some dx)))) := by
  refine F.ok (k := 0) S (fun vs H Q E ⟨a, v, H1, e, _⟩ => by rw [e]; rfl) fun cdv A outer s H vs Q E hr ⟨a, v, H1, ev, ha, eH, q⟩ => ⟨_, hb cdv A outer s H E, ?_⟩
  subst ev
  refine ⟨v, rfl, .ref a, rfl, a, _, rfl, T, hno, .inl ⟨by rw [eH, upd_same], fun dx hdx ne => q dx ?_ ne⟩⟩
  rw [eH, upd_ne ne] at hdx
  exact hdx
theorem takesNo {X : Cx} : Takes X (fun _ _ _ _ => False) := fun _ _ ⟨_, _, _, _, _, _, _, _, _, _, _, _, _, _, _, _, z⟩ => z.elim
section
variable {X : Cx} {E : XK} {k j : Nat} {cl f : Str} {e : Expr} {w : WE} {p pos pos2 : Pos}
def wRaise (cl f : Str) (w : WE) : WS := fun D env => w env (fun d => D.xe cl [f] [d]) D.xe
theorem us_raise (c : Ctx j X E) (x : Exf (wd X) k cl f) (hk : k + 1 ≤ j) (hg : Gl X cl) (h : UE X E e w) (hdb : (cl == ("__debug__" : Str)) = false := by decide) (he : starEach [e] X.env = (false, eval e X.env) :: starEach [] X.env := by rfl) : US X E (.Raise (some (.Call (.Name cl p) [e] [] pos)) none pos2) (wRaise cl f w) := by
  obtain ⟨fI, fd, ps, F, T, iC, tI, hm, hb⟩ := x.ex
  refine ⟨PS.wk (ps_raise c.calm c.tk (pmk_oex T iC tI F (c.room.mono hk) hb .nil (passes_call takesNo fun _ _ _ _ h => h) hg hm (pa_cons h.pe pa_nil he) hdb he rfl)) fun Dn σ H ⟨me, dr, sa, F0, H0, F1, env, S, q⟩ => ?_, fun D D' env l q => h.mono _ _ _ _ _ (fun d z => l.xe _ _ _ z) l.xe q⟩
  refine at_e h S q fun d z v F2 H2 e2 r2 => ⟨by show 1 ≤ 1000; decide, fun a ha => ⟨a, v, H2, rfl, ha, rfl, fun dx hdx ne => ⟨rfl, dx, [(f, v)], upd_same, ?_, hdx, ?_⟩⟩⟩
  · rw [upd_ne ne, upd_same]
  · have eh : upd (L2.del (upd (upd (upd H2 a (exo a (He.ga X.K cl) none)) dx (exd dx [(f, v)])) a (exo a (He.ga X.K cl) (some dx))) a) dx (.xd [(f, v)]) = upd H2 dx (.xd [(f, v)]) := by
      funext b
      by_cases q1 : b = dx
      · rw [q1, upd_same, upd_same]
      · rw [upd_ne q1, upd_ne q1]
        by_cases q2 : b = a
        · rw [q2, del_same, ha]
        · rw [del_ne q2, upd_ne q2, upd_ne q1, upd_ne q2]
    rw [eh]
    obtain ⟨e3, _, _⟩ := own_new (σ := σ) (env := env) (u := .xd [(f, v)]) e2.toBs hdx
    exact z F2 _ (some dx) ((S.evo.trans e2).trans e3) ⟨_, upd_same, rfl, .cons r2 .nil⟩
/-- an error class without __init__, made without arguments -/
structure Ex0 (V : Wd) (cl : Str) : Prop where
  q : PySem.W.excIn V.K (He.ga V.K cl) He.veBase "ValueError.__new__" = true
  k : PySem.W.keepIn V.K (.ref (He.ga V.K cl)) = true
  s : PySem.W.subIn V.K (.ref (He.ga V.K cl)) (.type "BaseException") = some true
  t : PySem.W.typeIn V.K (.ref (He.ga V.K cl)) = some (.type "type")
  m : V.mg cl = some (.ref (He.ga V.K cl))
theorem us_raise0 (c : Ctx j X E) (x : Ex0 (wd X) cl) (hg : Gl X cl) (hdb : (cl == ("__debug__" : Str)) = false := by decide) : US X E (.Raise (some (.Call (.Name cl p) [] [] pos)) none pos2) (fun D _ => D.xe cl [] []) := by
  have mk : PMk X (.Call (.Name cl p) [] [] pos) (fun _ H Q => Q (.ref (He.ga X.K cl)) none H) := fun pins s σ H Q I h => by
    refine wpAny_Call_Name_kw (ld_glob I hg x.m ?_ hdb)
    refine PySem.W.callWith_K0 I.kIn x.k ?_
    show wpAny _ _ (call (.ref (He.ga X.K cl)) []) _ _ _
    obtain ⟨bm, N, nm, qn, bs, hdct, sn, sub, ab, col, dd, k0, k1, k2, k3, k5, mN, hC, hN, hni, T⟩ := exc_obj I.kIn x.q
    exact wpAny_call_exc_subT PySem.F.excBase_ValueError T hC hN hni (fun h' e hm => mk_of I hm (raises_own x.s x.t) h (I.hok.gone hm.new)) (Nat.zero_le _)
  exact ⟨PS.wk (ps_raise c.calm c.tk mk) fun Dn σ H ⟨me, dr, sa, F0, H0, F1, env, S, q⟩ => q F1 H none S.evo rfl, fun D D' env l q => l.xe _ _ _ q⟩
end
end U
/-! U12: built-in functions; constants of the module. -/
namespace U
open PySem PySem.Spec PyProof.Rows L2
variable [Wo]

theorem CallR.or {X : Cx} {f : Value} {r r' : List V → Hp → VK → Prop} (h : CallR X f r) (h' : CallR X f r') : CallR X f (fun xs H Q => r xs H Q ∨ r' xs H Q) := fun pins s σ H xs us Q I rs q => q.elim (h pins s σ H xs us Q I rs) (h' pins s σ H xs us Q I rs)
theorem CallD.or {X : Cx} {r r' : List V → Hp → VK → Prop} {o o' : O1} (h : CallD X r o) (h' : CallD X r' o') : CallD X (fun xs H Q => r xs H Q ∨ r' xs H Q) (fun d Q => o d Q ∨ o' d Q) := fun dr sa F H x d Q B r q => q.elim (fun q => .inl (h dr sa F H x d Q B r q)) fun q => .inr (h' dr sa F H x d Q B r q)
section
variable {X : Cx} {E : XK} {e e2 : Expr} {w w2 : WE} {x : Str} {p pos : Pos}
/-! ### names of the module and of Python -/
theorem ue_gint {i : Int} (hg : Gl X x) (hm : ∃ t, X.mg x = some (.int i t)) (hd : (x == ("__debug__" : Str)) = false := by decide) : UE X E (.Name x pos) (wC (.int i)) := by
  obtain ⟨t, hm⟩ := hm
  exact ue_c (pe_glob (v := .int i) hg hm ⟨t, rfl⟩ hd) fun _ _ => .int i
theorem ue_gstr {z : Str} (hg : Gl X x) (hm : ∃ t, X.mg x = some (.str z t)) (hd : (x == ("__debug__" : Str)) = false := by decide) : UE X E (.Name x pos) (wC (.str z)) := by
  obtain ⟨t, hm⟩ := hm
  exact ue_c (pe_glob (v := .str z) hg hm ⟨t, rfl⟩ hd) fun _ _ => .str z
theorem ue_gcls {c : Str} (hg : Gl X c) (hm : X.mg c = some (.ref (He.ga X.K c))) (hd : (c == ("__debug__" : Str)) = false := by decide) : UE X E (.Name c pos) (wC (.cls c)) :=
  ue_c (pe_glob (v := .ref (He.ga X.K c)) hg hm rfl hd) fun _ _ => .cls c
theorem ue_ty {n : String} (hg : Gl X x) (hm : X.mg x = none) (hv : bootBuiltins x = some (.type n)) (hn : x ≠ "__name__" := by decide) (hd : (x == ("__debug__" : Str)) = false := by decide) : UE X E (.Name x pos) (wC (.ty n)) :=
  ue_c (pe_bltn (v := .ty n) hg hm hv rfl hn hd) fun _ _ => .ty n
/-! ### len -/
def oLen : O1 := fun d Q => match d with
  | .lst xs => Q (.int xs.length)
  | .tup xs => Q (.int xs.length)
  | .str z => z.length ≤ most ∧ Q (.int z.length)
  | .dct ks vs => Q (.int ks.length)
  | .scr ns => Q (.int ns.length)
  | _ => False
theorem oLen_mono : O1Mono oLen := fun d Q Q' k h => by
  unfold oLen at h ⊢
  split at h <;> first | exact k _ h | exact ⟨h.1, k _ h.2⟩ | exact h
abbrev rLenU (K : PySem.W.Frag) : List V → Hp → VK → Prop := fun xs H Q => (∃ x n, xs = [x] ∧ LenV K x H n ∧ Q (.int n) H) ∨ ∃ a kvs, xs = [.ref a] ∧ Rd H a (.dK kvs) ∧ Q (.int kvs.length) H
theorem call_lenU : CallR X (.builtin "len") (rLenU X.K) := CallR.or call_len fun pins s σ H xs us Q I r h => by
  obtain ⟨a, kvs, rfl, hd, q⟩ := h
  rw [Vals.ref1 r]
  exact d_len I hd fun t s' J => ⟨.int kvs.length, H, J, ⟨t, rfl⟩, q⟩
theorem len_d : CallD X (rLenU X.K) oLen := by
  intro dr sa F H x d Q B r h
  unfold oLen at h
  split at h
  · obtain ⟨p, xs, rfl, e1, q1⟩ := ro_lst B.sub r
    rw [← q1.length] at h
    exact .inl ⟨_, _, rfl, .inl ⟨xs, sqL e1, rfl⟩, h _ F H (Evo.refl B) (.int _)⟩
  · obtain ⟨p, xs, rfl, e1, _, q1⟩ := ro_tup B.sub r
    rw [← q1.length] at h
    exact .inl ⟨_, _, rfl, .inr ⟨xs, e1, rfl⟩, h _ F H (Evo.refl B) (.int _)⟩
  · rename_i z
    have ex := ro_str r
    subst ex
    exact .inl ⟨.str z, _, rfl, ⟨most_le h.1, rfl⟩, h.2 _ F H (Evo.refl B) (.int _)⟩
  · obtain ⟨p, kvs, rfl, e1, rfl, q1⟩ := ro_dct B.sub r
    rw [List.length_map] at h
    exact .inr ⟨p, kvs, rfl, e1, h _ F H (Evo.refl B) (.int _)⟩
  · rename_i ns
    obtain ⟨p, rfl, e1, _⟩ := ro_scr B.sub r
    exact .inl ⟨_, _, rfl, .inl ⟨_, e1, rfl⟩, by rw [List.length_map]; exact h _ F H (Evo.refl B) (.int _)⟩
  · exact h.elim
theorem ue_len (hg : Gl X "len") (hm : X.mg "len" = none) (h : UO X E e w) (hs : starEach [e] X.env = (false, eval e X.env) :: starEach [] X.env := by rfl) : UE X E (.Call (.Name "len" p) [e] [] pos) (wB1 oLen w) :=
  ue_b1 call_lenU len_d oLen_mono hg hm boot_len h (by decide) (by decide) hs

/-! ### all, any: a list of truth values -/
def blsOf : List D → Option (List Bool)
  | [] => some []
  | .bl b :: ds => (blsOf ds).map (b :: ·)
  | _ => none
theorem bls_rp {K : PySem.W.Frag} {dr : Addr} {F : Hp} : ∀ {vs : List V} {ds : List D} {bs : List Bool}, RpA K dr F vs ds → blsOf ds = some bs → vs = bs.map V.bl
  | [], _, bs, h, e => by
    cases h
    cases e
    rfl
  | v :: vs, _, bs, h, e => by
    cases h with
    | @cons _ _ d ds h1 h2 =>
      cases d with
      | bl b =>
        have e' : (blsOf ds).map (b :: ·) = some bs := e
        cases q : blsOf ds with
        | none =>
          rw [q] at e'
          cases e'
        | some cs =>
          rw [q] at e'
          cases e'
          rw [bls_rp h2 q]
          cases h1
          rfl
      | _ => cases e
def oBls (g : List Bool → Bool) : O1 := fun d Q => ∃ ds bs, d = .lst ds ∧ blsOf ds = some bs ∧ Q (.bl (g bs))
theorem oBls_mono (g : List Bool → Bool) : O1Mono (oBls g) := fun d Q Q' k ⟨ds, bs, a, b, c⟩ => ⟨ds, bs, a, b, k _ c⟩
theorem ue_all (hc : X.calm = true) (hg : Gl X "all") (hm : X.mg "all" = none) (h : UO X E e w) (hs : starEach [e] X.env = (false, eval e X.env) :: starEach [] X.env := by rfl) : UE X E (.Call (.Name "all" p) [e] [] pos) (wB1 (oBls fun bs => bs.all id) w) :=
  ue_b1 (cr_all hc) (fun dr sa F H x d Q B r ⟨ds, bs, ed, eb, q⟩ => by
    subst ed
    obtain ⟨p, xs, rfl, e1, q1⟩ := ro_lst B.sub r
    have z := bls_rp q1 eb
    subst z
    exact ⟨p, bs, rfl, sqL e1, q _ F H (Evo.refl B) (.bl _)⟩) (oBls_mono _) hg hm boot_all h (by decide) (by decide) hs
theorem ue_any (hc : X.calm = true) (hg : Gl X "any") (hm : X.mg "any" = none) (h : UO X E e w) (hs : starEach [e] X.env = (false, eval e X.env) :: starEach [] X.env := by rfl) : UE X E (.Call (.Name "any" p) [e] [] pos) (wB1 (oBls fun bs => bs.any id) w) :=
  ue_b1 (cr_any hc) (fun dr sa F H x d Q B r ⟨ds, bs, ed, eb, q⟩ => by
    subst ed
    obtain ⟨p, xs, rfl, e1, q1⟩ := ro_lst B.sub r
    have z := bls_rp q1 eb
    subst z
    exact ⟨p, bs, rfl, sqL e1, q _ F H (Evo.refl B) (.bl _)⟩) (oBls_mono _) hg hm boot_any h (by decide) (by decide) hs
/-! ### tuple, list, dict, int -/
def oTup : O1 := fun d Q => match d with
  | .lst xs => Q (.tup xs)
  | .tup xs => Q (.tup xs)
  | _ => False
theorem oTup_mono : O1Mono oTup := fun d Q Q' k h => by
  unfold oTup at h ⊢
  split at h <;> first | exact k _ h | exact h
theorem ue_tupleOf (hg : Gl X "tuple") (hm : X.mg "tuple" = none) (h : UO X E e w) (hs : starEach [e] X.env = (false, eval e X.env) :: starEach [] X.env := by rfl) : UE X E (.Call (.Name "tuple" p) [e] [] pos) (wB1 oTup w) :=
  ue_t1 call_tuple_of (fun dr sa F H x d Q B r q => by
    unfold oTup at q
    split at q
    · obtain ⟨p, xs, rfl, e1, q1⟩ := ro_lst B.sub r
      refine ⟨p, xs, rfl, .inl ⟨sqL e1, fun l hl => ?_⟩⟩
      obtain ⟨ev, rr⟩ := Evo.tup B hl q1
      exact q _ _ _ ev rr
    · obtain ⟨p, xs, rfl, e1, f1, q1⟩ := ro_tup B.sub r
      exact ⟨p, xs, rfl, .inr ⟨e1, q _ F H (Evo.refl B) (.tup f1 q1)⟩⟩
    · exact q.elim) oTup_mono hg hm boot_tuple h (by decide) (by decide) hs
def oLst : O1 := fun d Q => match d with
  | .lst xs => Q (.lst xs)
  | .tup xs => Q (.lst xs)
  | _ => False
theorem oLst_mono : O1Mono oLst := fun d Q Q' k h => by
  unfold oLst at h ⊢
  split at h <;> first | exact k _ h | exact h
theorem ue_listOf (hg : Gl X "list") (hm : X.mg "list" = none) (h : UO X E e w) (hs : starEach [e] X.env = (false, eval e X.env) :: starEach [] X.env := by rfl) : UE X E (.Call (.Name "list" p) [e] [] pos) (wB1 oLst w) :=
  ue_t1 call_list_of (fun dr sa F H x d Q B r q => by
    unfold oLst at q
    split at q
    · obtain ⟨p, xs, rfl, e1, q1⟩ := ro_lst B.sub r
      refine ⟨p, xs, rfl, .inl (sqL e1), fun l hl => ?_⟩
      obtain ⟨ev, rr⟩ := Evo.lst B hl q1
      exact q _ _ _ ev rr
    · obtain ⟨p, xs, rfl, e1, f1, q1⟩ := ro_tup B.sub r
      refine ⟨p, xs, rfl, .inr e1, fun l hl => ?_⟩
      obtain ⟨ev, rr⟩ := Evo.lst B hl q1
      exact q _ _ _ ev rr
    · exact q.elim) oLst_mono hg hm boot_list h (by decide) (by decide) hs
def oInt1 : O1 := fun d Q => ∃ i, d = .int i ∧ Q (.int i)
theorem ue_intOf (hg : Gl X "int") (hm : X.mg "int" = none) (h : UO X E e w) (hs : starEach [e] X.env = (false, eval e X.env) :: starEach [] X.env := by rfl) : UE X E (.Call (.Name "int" p) [e] [] pos) (wB1 oInt1 w) :=
  ue_t1 call_int1 (fun dr sa F H x d Q B r ⟨i, ed, q⟩ => by
    subst ed
    exact .inl ⟨i, by rw [ro_int r], q _ F H (Evo.refl B) (.int i)⟩) (fun d Q Q' k ⟨i, a, b⟩ => ⟨i, a, k _ b⟩) hg hm boot_int h (by decide) (by decide) hs
theorem call_dcopy : CallR X (.type "dict") (fun xs H Q => ∃ a kvs, xs = [.ref a] ∧ Rd H a (.dK kvs) ∧ ∀ p, H p = none → Q (.ref p) (upd H p (.dK kvs))) := by
  rintro pins s σ H xs us Q I r ⟨a, kvs, rfl, hd, q⟩
  rw [Vals.ref1 r]
  exact d_copyOf I hd fun p s' hp J => ⟨.ref p, _, J, rfl, q p hp⟩
/-- a built-in that gives a new own object -/
def CallF (X : Cx) (r : List V → Hp → VK → Prop) (o : O1) : Prop := ∀ dr sa F H x d (Q : VK), Bs dr sa F H → RO X.K dr F H x d → o d (fun d => ∀ p F' H', Evo dr sa F H F' H' → H p = none → F' p = none → p ≠ dr → isIns d = false → Own X.K dr F' H' p d → Q (.ref p) H') → r [x] H Q
theorem uf_t1 {T : String} {r : List V → Hp → VK → Prop} {o : O1} (hc : CallR X (.type T) r) (hd : CallF X r o) (om : O1Mono o) (hg : Gl X x) (hm : X.mg x = none) (hv : bootBuiltins x = some (.type T)) (ha : UO X E e w) (hn : x ≠ "__name__" := by decide) (hdb : (x == ("__debug__" : Str)) = false := by decide)
    (hs : starEach [e] X.env = (false, eval e X.env) :: starEach [] X.env := by rfl) : UF X E (.Call (.Name x p) [e] [] pos) (wB1 o w) :=
  ⟨PE.wk (pe_callTy hc hg hm hv (pa_cons ha.pe pa_nil hs) hn hdb hs rfl) fun σ H Q ⟨dr, sa, F, env, S, q⟩ => ⟨dr, sa, F, env, S, ha.mono env _ _ _ _ (fun d q1 v F1 H1 e1 r1 => hd dr sa F1 H1 v d Q e1.toBs r1 (om d _ _ (fun d q2 p F' H' e2 hp fp nd hn ow => q2 p F' H' (e1.trans e2) (e1.none0 nd hp) fp nd hn ow) q1)) (fun _ _ _ z => z) q⟩, wB1_mono om ha⟩
theorem own_dct {dr sa : Addr} {F H : Hp} {K : PySem.W.Frag} (B : Bs dr sa F H) {p : Addr} {kvs : List (Key × V)} {vs : List D} (hp : H p = none) (r : RpA K dr F (kvs.map (·.2)) vs) : Evo dr sa F H F (upd H p (.dK kvs)) ∧ F p = none ∧ p ≠ dr ∧ Own K dr F (upd H p (.dK kvs)) p (.dct (kvs.map (·.1)) vs) := by
  obtain ⟨e, fp, nd⟩ := own_new (σ := []) (env := []) (u := .dK kvs) B hp
  exact ⟨e, fp, nd, kvs, upd_same, rfl, r⟩
/-- the pairs of a list, as a dict -/
def prsOf : List D → Option (List (Key × D))
  | [] => some []
  | .tup [.int i, v] :: ds => (prsOf ds).map ((.inl i, v) :: ·)
  | .tup [.str z, v] :: ds => (prsOf ds).map ((.inr z, v) :: ·)
  | _ => none
def putAll : List Key → List D → List (Key × D) → List Key × List D
  | ks, vs, [] => (ks, vs)
  | ks, vs, (k, v) :: r => putAll (putKs ks k) (putVs ks vs k v) r
theorem merge_rp {K : PySem.W.Frag} {dr : Addr} {F : Hp} : ∀ {more : List (Key × V)} {prs : List (Key × D)} {kvs : List (Key × V)} {vs : List D}, more.map (·.1) = prs.map (·.1) → RpA K dr F (more.map (·.2)) (prs.map (·.2)) → RpA K dr F (kvs.map (·.2)) vs →
    (mergeK kvs more).map (·.1) = (putAll (kvs.map (·.1)) vs prs).1 ∧ RpA K dr F ((mergeK kvs more).map (·.2)) (putAll (kvs.map (·.1)) vs prs).2
  | [], prs, kvs, vs, e, r, r2 => by
    cases prs with
    | nil => exact ⟨rfl, r2⟩
    | cons a b => cases e
  | (k, v) :: more, prs, kvs, vs, e, r, r2 => by
    cases prs with
    | nil => cases e
    | cons a b =>
      obtain ⟨k', d⟩ := a
      rw [List.map_cons, List.map_cons] at e
      injection e with e1 e2
      have e1 : k = k' := e1
      subst e1
      cases r with
      | cons r3 r4 =>
        obtain ⟨a1, a2⟩ := put_rp (k := k) r2 r3
        have ih := merge_rp (kvs := putK kvs k v) e2 r4 a2
        rw [a1] at ih
        exact ih
theorem prs_rp {K : PySem.W.Frag} {dr : Addr} {F H : Hp} (sub : Sub F H) : ∀ {vs : List V} {ds : List D} {prs : List (Key × D)}, RpA K dr F vs ds → prsOf ds = some prs → ∃ (ps : List Addr) (kvs : List (Key × V)), vs = ps.map V.ref ∧ Paired (fun p kv => SqT K H p [kV kv.1, kv.2]) ps kvs ∧ kvs.map (·.1) = prs.map (·.1) ∧ RpA K dr F (kvs.map (·.2)) (prs.map (·.2))
  | [], _, prs, h, e => by
    cases h
    cases e
    exact ⟨[], [], rfl, .nil, rfl, .nil⟩
  | v :: vs, _, prs, h, e => by
    cases h with
    | @cons _ _ d ds h1 h2 =>
      have step : ∀ (k : Key) (y : D), d = .tup [kD k, y] → (prsOf ds).map ((k, y) :: ·) = some prs → ∃ (ps : List Addr) (kvs : List (Key × V)), v :: vs = ps.map V.ref ∧ Paired (fun p kv => SqT K H p [kV kv.1, kv.2]) ps kvs ∧ kvs.map (·.1) = prs.map (·.1) ∧ RpA K dr F (kvs.map (·.2)) (prs.map (·.2)) := fun k y ed ee => by
        subst ed
        cases q : prsOf ds with
        | none =>
          rw [q] at ee
          cases ee
        | some pr =>
          rw [q] at ee
          cases ee
          obtain ⟨ps, kvs, a1, a2, a3, a4⟩ := prs_rp sub h2 q
          cases h1 with
          | @tup a xs _ g1 g2 =>
            cases g2 with
            | @cons v1 vs1 _ _ g3 g4 =>
              cases g4 with
              | @cons v2 vs2 _ _ g5 g6 =>
                cases g6
                have ek := rp_key g3
                subst ek
                exact ⟨a :: ps, (k, v2) :: kvs, by rw [a1]; rfl, .cons (.inl (.inl (sub _ _ g1))) a2, by rw [List.map_cons, List.map_cons, a3], .cons g5 a4⟩
      unfold prsOf at e
      split at e
      · rename_i z
        cases z
      · rename_i z
        cases z
        exact step (.inl _) _ rfl e
      · rename_i z
        cases z
        exact step (.inr _) _ rfl e
      · cases e
def oDict : O1 := fun d Q => (∃ ks vs, d = .dct ks vs ∧ Q (.dct ks vs)) ∨ ∃ ds prs, d = .lst ds ∧ prsOf ds = some prs ∧ Q (.dct (putAll [] [] prs).1 (putAll [] [] prs).2)
theorem oDict_mono : O1Mono oDict := fun d Q Q' k h => h.elim (fun ⟨ks, vs, a, b⟩ => .inl ⟨ks, vs, a, k _ b⟩) fun ⟨ds, prs, a, b, c⟩ => .inr ⟨ds, prs, a, b, k _ c⟩
theorem uf_dictOf (hc : X.calm = true) (hg : Gl X "dict") (hm : X.mg "dict" = none) (h : UO X E e w) (hs : starEach [e] X.env = (false, eval e X.env) :: starEach [] X.env := by rfl) : UF X E (.Call (.Name "dict" p) [e] [] pos) (wB1 oDict w) :=
  uf_t1 (CallR.or call_dcopy (call_dictP hc)) (fun dr sa F H x d Q B r q => by
    rcases q with ⟨ks, vs, ed, q⟩ | ⟨ds, prs, ed, ep, q⟩
    · subst ed
      obtain ⟨p, kvs, rfl, e1, rfl, q1⟩ := ro_dct B.sub r
      refine .inl ⟨p, kvs, rfl, e1, fun l hl => ?_⟩
      obtain ⟨ev, fp, nd, o⟩ := own_dct B hl q1
      exact q l _ _ ev hl fp nd rfl o
    · subst ed
      obtain ⟨p, xs, rfl, e1, q1⟩ := ro_lst B.sub r
      obtain ⟨ps, kvs, rfl, a2, a3, a4⟩ := prs_rp B.sub q1 ep
      obtain ⟨b1, b2⟩ := merge_rp (kvs := []) a3 a4 .nil
      refine .inr ⟨p, ps, kvs, rfl, sqL e1, a2, fun l hl => ?_⟩
      obtain ⟨ev, fp, nd, o⟩ := own_dct B hl b2
      rw [b1] at o
      exact q l _ _ ev hl fp nd rfl o) oDict_mono hg hm boot_dict h (by decide) (by decide) hs
/-! ### max, sorted: lists of numbers, of texts -/
def intsOf : List D → Option (List Int)
  | [] => some []
  | .int b :: ds => (intsOf ds).map (b :: ·)
  | _ => none
theorem ints_rp {K : PySem.W.Frag} {dr : Addr} {F : Hp} : ∀ {vs : List V} {ds : List D} {bs : List Int}, RpA K dr F vs ds → intsOf ds = some bs → vs = bs.map V.int
  | [], _, bs, h, e => by
    cases h
    cases e
    rfl
  | v :: vs, _, bs, h, e => by
    cases h with
    | @cons _ _ d ds h1 h2 =>
      cases d with
      | int b =>
        have e' : (intsOf ds).map (b :: ·) = some bs := e
        cases q : intsOf ds with
        | none =>
          rw [q] at e'
          cases e'
        | some cs =>
          rw [q] at e'
          cases e'
          rw [ints_rp h2 q]
          cases h1
          rfl
      | _ => cases e
def oMax : O1 := fun d Q => ∃ ds ns, d = .lst ds ∧ intsOf ds = some ns ∧ 0 < ns.length ∧ ∀ m, m ∈ ns → (∀ y, y ∈ ns → y ≤ m) → Q (.int m)
theorem ue_max (hc : X.calm = true) (hg : Gl X "max") (hm : X.mg "max" = none) (h : UO X E e w) (hs : starEach [e] X.env = (false, eval e X.env) :: starEach [] X.env := by rfl) : UE X E (.Call (.Name "max" p) [e] [] pos) (wB1 oMax w) :=
  ue_b1 (cr_max hc) (fun dr sa F H x d Q B r ⟨ds, ns, ed, eb, hl, q⟩ => by
    subst ed
    obtain ⟨p, xs, rfl, e1, q1⟩ := ro_lst B.sub r
    have z := ints_rp q1 eb
    subst z
    exact ⟨p, ns, rfl, sqL e1, hl, fun m h1 h2 => q m h1 h2 _ F H (Evo.refl B) (.int _)⟩) (fun d Q Q' k ⟨ds, ns, a, b, c, q⟩ => ⟨ds, ns, a, b, c, fun m h1 h2 => k _ (q m h1 h2)⟩) hg hm boot_max h (by decide) (by decide) hs
end

/-! ### isinstance -/
/-- a value's type: a dict of tuples too -/
inductive TyU (K : PySem.W.Frag) (H : Hp) : V → Value → Prop where
  | x {v : V} {t : Value} (h : TyX K H v t) : TyU K H v t
  | gd {a : Addr} {w : World} {kvs : GKV} (e : Rd H a (GD w a kvs)) : TyU K H (.ref a) (.type "dict")
section
variable {X : Cx} {pins : List (Addr × Obj)} {σ : L2.St} {H : Hp} {s : Shared}
theorem kitU {x : V} {u t : Value} (I : Inv X pins σ H s) (rx : RelV x u) (ty : TyU X.K H x t) : ∃ P : Heap → Prop, PySem.W.KitX X.K u t P ∧ P s.heap ∧ u ≠ .builtin "__main__.__loader__#opaque" := by
  cases ty with
  | x h => exact kit_of I rx h
  | @gd a w kvs e =>
    cases (show u = Value.ref a from rx)
    obtain ⟨⟨_, _, _, xs, _, o, es, ep, ho, he, _⟩, _⟩ := e.ok I.hok
    exact ⟨_, PySem.W.kitx_dict, ⟨o, ho, he.1⟩, fun z => nomatch z⟩
def rIsi1 (K : PySem.W.Frag) : List V → Hp → VK → Prop := fun xs H Q => ∃ (x c : V) (t u : Value) (b : Bool), xs = [x, c] ∧ ClsV c u ∧ TyU K H x t ∧ PySem.W.kitOne K t u = some b ∧ Q (.bl b) H
def rIsiN (K : PySem.W.Frag) : List V → Hp → VK → Prop := fun xs H Q => ∃ (x : V) (tp : Addr) (cs : List V) (t : Value) (us : List Value) (b : Bool), xs = [x, .ref tp] ∧ H tp = some (.tup cs) ∧ Paired ClsV cs us ∧ TyU K H x t ∧ PySem.W.kitAny K t us = some b ∧ Q (.bl b) H
theorem call_isi1 : CallR X (.builtin "isinstance") (rIsi1 X.K) := by
  rintro pins s σ H xs us Q I r ⟨x, c, t, u, b, rfl, k, ty, e, q⟩
  obtain ⟨u1, u2, rfl, r1, r2⟩ := vals2 r
  cases k.eq r2
  obtain ⟨P, Z, p, hx⟩ := kitU I r1 ty
  exact PySem.W.kia_one Z I.kIn p e hx fun tk => ⟨V.bl b, H, I.tok tk, rfl, q⟩
theorem call_isiN : CallR X (.builtin "isinstance") (rIsiN X.K) := by
  rintro pins s σ H xs us Q I r ⟨x, tp, cs, t, ws, b, rfl, hT, k, ty, e, q⟩
  obtain ⟨u1, u2, rfl, r1, r2⟩ := vals2 r
  cases r2
  obtain ⟨P, Z, p, hx⟩ := kitU I r1 ty
  obtain ⟨_, its, rv, ⟨oc, od, dt, sl⟩, h1, h2, n, h3⟩ := (show ObjOk X.prog X.w H s.heap tp (.tup cs) from I.hok tp _ hT)
  cases ClsV.all k rv
  dsimp only at h2 h3
  subst h2 h3
  exact PySem.W.kia_tup Z I.kIn p h1 e hx fun tk => ⟨V.bl b, H, I.tok tk, rfl, q⟩
end
def tyNames : List String := ["NoneType", "bool", "int", "str", "tuple", "list", "dict"]
def tyAsked : List String := ["bool", "int", "str", "tuple", "list", "dict"]
def tyB (m n : String) : Bool := m == n || (m == "bool" && n == "int")
theorem ty_kit : ∀ m ∈ tyNames, ∀ n ∈ tyAsked, kitB m n = some (tyB m n) := by decide +kernel
/-- what the written part says of its classes -/
def isFB (K : PySem.W.Frag) (cs : List Str) : Bool :=
  (cs.all fun c => tyAsked.all fun n => decide (PySem.W.kitOne K (.ref (He.ga K c)) (.type n) = some false)) && ((cs.all fun c => tyNames.all fun m => decide (PySem.W.kitOne K (.type m) (.ref (He.ga K c)) = some false)) &&
  ((cs.all fun c => cs.all fun c' => decide (PySem.W.kitOne K (.ref (He.ga K c)) (.ref (He.ga K c')) = some (decide (c = c')))) &&
  (cs.all fun c => decide (PySem.W.findIn K (.ref (He.ga K c)) "__class__" = some (some (.builtin "object.__class__"))) && (decide (PySem.W.specialIn K (.builtin "object.__class__") "__get__" = some (some (.builtin "getset_descriptor.__get__"))) &&
    (decide (PySem.W.takesIn K (.builtin "object.__class__") = some true) && decide (PySem.W.mroIn K (He.ga K c) (.type "object") = some true))))))
structure IsF (K : PySem.W.Frag) (cs : List Str) : Prop where
  f : isFB K cs = true
  c : ∀ c ∈ cs, Cls K (He.ga K c)
def tyD : D → Option String
  | .non => some "NoneType"
  | .bl _ => some "bool"
  | .int _ => some "int"
  | .str _ => some "str"
  | .tup _ => some "tuple"
  | .lst _ => some "list"
  | .dct _ _ => some "dict"
  | .dcT _ _ => some "dict"
  | _ => none
theorem tyD_mem {d : D} {m : String} (h : tyD d = some m) : m ∈ tyNames := by
  cases d <;> simp only [tyD, reduceCtorEq, Option.some.injEq] at h <;> subst h <;> decide
/-- isinstance(d, t), one class -/
def isO (cs : List Str) (d t : D) : Option Bool := match t with
  | .ty n => if n ∈ tyAsked then (match d with
    | .ins c _ _ => if c ∈ cs then some false else none
    | _ => (tyD d).map fun m => tyB m n) else none
  | .cls c' => if c' ∈ cs then (match d with
    | .ins c _ _ => if c ∈ cs then some (decide (c = c')) else none
    | _ => (tyD d).map fun _ => false) else none
  | _ => none
def isA (cs : List Str) (d : D) : List D → Option Bool
  | [] => some false
  | t :: ts => (isO cs d t).bind fun a => (isA cs d ts).map fun b => a || b
section
variable {K : PySem.W.Frag} {dr : Addr} {F H : Hp} {cs : List Str}
theorem isF1 (f : IsF K cs) {c : Str} (hc : c ∈ cs) {n : String} (hn : n ∈ tyAsked) : PySem.W.kitOne K (.ref (He.ga K c)) (.type n) = some false := of_decide_eq_true (List.all_eq_true.mp (List.all_eq_true.mp (ba f.f).1 c hc) n hn)
theorem isF2 (f : IsF K cs) {c : Str} (hc : c ∈ cs) {m : String} (hm : m ∈ tyNames) : PySem.W.kitOne K (.type m) (.ref (He.ga K c)) = some false := of_decide_eq_true (List.all_eq_true.mp (List.all_eq_true.mp (ba (ba f.f).2).1 c hc) m hm)
theorem isF3 (f : IsF K cs) {c c' : Str} (hc : c ∈ cs) (hc' : c' ∈ cs) : PySem.W.kitOne K (.ref (He.ga K c)) (.ref (He.ga K c')) = some (decide (c = c')) := of_decide_eq_true (List.all_eq_true.mp (List.all_eq_true.mp (ba (ba (ba f.f).2).2).1 c hc) c' hc')
theorem isF4 (f : IsF K cs) {c : Str} (hc : c ∈ cs) {a dx : Addr} {fs : List (Str × V)} (h : H a = some (.ins (He.ga K c) dx fs)) : TyU K H (.ref a) (.ref (He.ga K c)) := by
  obtain ⟨h1, h2⟩ := ba (List.all_eq_true.mp (ba (ba (ba f.f).2).2).2 c hc)
  obtain ⟨h2, h3⟩ := ba h2
  obtain ⟨h3, h4⟩ := ba h3
  exact .x (.base (.ins h (f.c c hc) (of_decide_eq_true h1) (of_decide_eq_true h2) (of_decide_eq_true h3) (of_decide_eq_true h4)))
/-- what a value's type is, as the library's rules ask -/
theorem ty_of (sub : Sub F H) {d : D} {v : V} {m : String} (h : tyD d = some m) (r : RO K dr F H v d) : TyU K H v (.type m) := by
  cases d with
  | non => cases h; rw [show v = .non from by rcases r with r | ⟨_, _, _, _, r⟩; cases r; rfl; exact r.elim]; exact .x (.base (.non))
  | bl b => cases h; rw [show v = .bl b from by rcases r with r | ⟨_, _, _, _, r⟩; cases r; rfl; exact r.elim]; exact .x (.base (.bl b))
  | int i => cases h; rw [ro_int r]; exact .x (.base (.int i))
  | str z => cases h; rw [ro_str r]; exact .x (.base (.str z))
  | tup xs =>
    cases h
    rcases r with r | ⟨_, _, _, _, r⟩
    · cases r with
      | tup h1 h2 => exact .x (.base (.tup (sub _ _ h1)))
    · exact r.elim
  | lst xs =>
    cases h
    obtain ⟨p, xs, rfl, e1, _⟩ := ro_lst sub r
    exact .x (.base (.lst e1))
  | dct ks vs =>
    cases h
    obtain ⟨p, xs, rfl, e1, _⟩ := ro_dct sub r
    rcases e1 with e1 | ⟨o, e1⟩
    · exact .x (.base (.dK e1))
    · exact .x (.fDict e1)
  | dcT ks vs =>
    cases h
    obtain ⟨p, xs, rfl, e1, _⟩ := ro_dcT sub r
    exact .gd e1
  | _ => cases h
/-- a class as data -/
inductive ClD : D → Value → Prop
  | ty (n : String) : ClD (.ty n) (.type n)
theorem isO_kit (f : IsF K cs) (sub : Sub F H) {d t : D} {v c : V} {b : Bool} (h : isO cs d t = some b) (r : RO K dr F H v d) (rt : Rp K dr F c t) : ∃ tv u, ClsV c u ∧ TyU K H v tv ∧ PySem.W.kitOne K tv u = some b ∧ ∀ t' c' b', isO cs d t' = some b' → Rp K dr F c' t' → ∃ u', ClsV c' u' ∧ PySem.W.kitOne K tv u' = some b' := by
  -- the value's type, and what is said of it for every class
  have key : ∃ tv, TyU K H v tv ∧ ∀ t' c' b', isO cs d t' = some b' → Rp K dr F c' t' → ∃ u', ClsV c' u' ∧ PySem.W.kitOne K tv u' = some b' := by
    by_cases q : ∃ c0 ns vs, d = .ins c0 ns vs
    · obtain ⟨c0, ns, vs, rfl⟩ := q
      have hc0 : c0 ∈ cs := by
        unfold isO at h
        split at h
        · split at h
          · dsimp only at h
            split at h
            · assumption
            · cases h
          · cases h
        · split at h
          · dsimp only at h
            split at h
            · assumption
            · cases h
          · cases h
        · cases h
      have hty : TyU K H v (.ref (He.ga K c0)) := by
        rcases r with r | ⟨p, rfl, _, _, C, dx, fs, g1, g2, _⟩
        · cases r with
          | ins g1 g2 g3 g4 =>
            subst g2
            exact isF4 f hc0 (sub _ _ g1)
        · subst g2
          exact isF4 f hc0 g1
      refine ⟨_, hty, fun t' c' b' h' r' => ?_⟩
      cases t' with
      | ty n =>
        cases r'
        unfold isO at h'
        dsimp only at h'
        by_cases hn : n ∈ tyAsked
        · rw [if_pos hn, if_pos hc0] at h'
          cases h'
          exact ⟨_, .ty n, isF1 f hc0 hn⟩
        · rw [if_neg hn] at h'
          cases h'
      | cls c1 =>
        cases r'
        unfold isO at h'
        dsimp only at h'
        by_cases hn : c1 ∈ cs
        · rw [if_pos hn, if_pos hc0] at h'
          cases h'
          exact ⟨_, .own _, isF3 f hc0 hn⟩
        · rw [if_neg hn] at h'
          cases h'
      | _ => cases h'
    · have nq : ∀ c0 ns vs, d ≠ .ins c0 ns vs := fun c0 ns vs e => q ⟨c0, ns, vs, e⟩
      have hm : ∃ m, tyD d = some m := by
        cases e : tyD d with
        | some m => exact ⟨m, rfl⟩
        | none =>
          exfalso
          unfold isO at h
          split at h
          · split at h
            · split at h
              · exact nq _ _ _ rfl
              · rw [e] at h
                cases h
            · cases h
          · split at h
            · split at h
              · exact nq _ _ _ rfl
              · rw [e] at h
                cases h
            · cases h
          · cases h
      obtain ⟨m, hm⟩ := hm
      refine ⟨_, ty_of sub hm r, fun t' c' b' h' r' => ?_⟩
      cases t' with
      | ty n =>
        cases r'
        unfold isO at h'
        dsimp only at h'
        by_cases hn : n ∈ tyAsked
        · rw [if_pos hn] at h'
          split at h'
          · exact absurd rfl (nq _ _ _)
          · rw [hm] at h'
            cases h'
            exact ⟨_, .ty n, kit_ty (ty_kit m (tyD_mem hm) n hn)⟩
        · rw [if_neg hn] at h'
          cases h'
      | cls c1 =>
        cases r'
        unfold isO at h'
        dsimp only at h'
        by_cases hn : c1 ∈ cs
        · rw [if_pos hn] at h'
          split at h'
          · exact absurd rfl (nq _ _ _)
          · rw [hm] at h'
            cases h'
            exact ⟨_, .own _, isF2 f hn (tyD_mem hm)⟩
        · rw [if_neg hn] at h'
          cases h'
      | _ => cases h'
  obtain ⟨tv, h1, h2⟩ := key
  obtain ⟨u, h3, h4⟩ := h2 t c b h rt
  exact ⟨tv, u, h3, h1, h4, h2⟩
theorem isA_kit {tv : Value} : ∀ {ts : List D} {vs : List V} {d : D} {b : Bool}, (∀ t' c' b', isO cs d t' = some b' → Rp K dr F c' t' → ∃ u', ClsV c' u' ∧ PySem.W.kitOne K tv u' = some b') → isA cs d ts = some b → RpA K dr F vs ts → ∃ us, Paired ClsV vs us ∧ PySem.W.kitAny K tv us = some b
  | [], vs, d, b, hk, h, r => by
    cases r
    cases h
    exact ⟨[], .nil, kitAny_nil⟩
  | t :: ts, _, d, b, hk, h, r => by
    cases r with
    | @cons v vs _ _ r1 r2 =>
      unfold isA at h
      cases e : isO cs d t with
      | none =>
        rw [e] at h
        cases h
      | some b1 =>
        rw [e] at h
        cases e2 : isA cs d ts with
        | none =>
          rw [e2] at h
          cases h
        | some b2 =>
          rw [e2] at h
          cases h
          obtain ⟨u, h1, h2⟩ := hk t v b1 e r1
          obtain ⟨us, h3, h4⟩ := isA_kit hk e2 r2
          refine ⟨u :: us, .cons h1 h3, kitAny_cons h2 (fun z => ?_) (fun z => ?_)⟩
          · rw [z]
            exact h4
          · rw [z]
            rfl
end
def oIsi (cs : List Str) : OD := fun d t Q => match t with
  | .tup ts => ∃ b t1 ts', ts = t1 :: ts' ∧ isA cs d ts = some b ∧ Q (.bl b)
  | _ => ∃ b, isO cs d t = some b ∧ Q (.bl b)
theorem oIsi_mono {cs : List Str} : OMono (oIsi cs) := fun d t Q Q' k h => by
  unfold oIsi at h ⊢
  split at h
  · obtain ⟨b, t1, ts', a, c, q⟩ := h
    exact ⟨b, t1, ts', a, c, k _ q⟩
  · obtain ⟨b, a, q⟩ := h
    exact ⟨b, a, k _ q⟩
section
variable {X : Cx} {E : XK} {e e2 : Expr} {w w2 : WE} {x : Str} {p pos : Pos} {cs : List Str}
abbrev rIsU (K : PySem.W.Frag) : List V → Hp → VK → Prop := fun xs H Q => rIsi1 K xs H Q ∨ rIsiN K xs H Q
theorem ue_isi (f : IsF X.K cs) (hg : Gl X "isinstance") (hm : X.mg "isinstance" = none) (h : UO X E e w) (h2 : UE X E e2 w2) (hs : starEach [e, e2] X.env = (false, eval e X.env) :: starEach [e2] X.env := by rfl) (hs2 : starEach [e2] X.env = (false, eval e2 X.env) :: starEach [] X.env := by rfl)
    (hpl : (backTo pos (starEach [e2] X.env)).any (·.1) = false := by rfl) : UE X E (.Call (.Name "isinstance" p) [e, e2] [] pos) (wOp (oIsi cs) w w2) := by
  refine ⟨PE.wk (pe_callB (r := rIsU X.K) (CallR.or call_isi1 call_isiN) hg hm boot_isinstance (pa_cons h.pe (pa_cons h2.pe pa_nil hs2) hs) (by decide) (by decide) hs hpl) fun σ H Q ⟨dr, sa, F, env, S, q⟩ => ?_, fun env Q Q' x x' k kx q => h.mono env _ _ _ _ (fun d1 q1 => h2.mono env _ _ _ _ (fun d2 q2 => oIsi_mono d1 d2 _ _ k q2) kx q1) kx q⟩
  refine ⟨dr, sa, F, env, S, h.mono env _ _ _ _ (fun d q1 v F1 H1 e1 r1 => ?_) (fun _ _ _ z => z) q⟩
  refine ⟨dr, sa, F1, env, S.evo e1, h2.mono env _ _ _ _ (fun t q2 c F2 H2 e2 r2 => ?_) (fun _ _ _ z => z.evo e1) q1⟩
  have r1' := r1.evo e2
  unfold oIsi at q2
  split at q2
  · obtain ⟨b, t1, ts', et, hb, q2⟩ := q2
    cases r2 with
    | @tup a xs _ g1 g2 =>
      have h1 : ∃ b1, isO cs d t1 = some b1 := by
        rw [et] at hb
        unfold isA at hb
        cases z : isO cs d t1 with
        | none =>
          rw [z] at hb
          cases hb
        | some b1 => exact ⟨b1, rfl⟩
      obtain ⟨b1, h1⟩ := h1
      subst et
      cases g2 with
      | @cons v1 vs1 _ _ g3 g4 =>
        obtain ⟨tv, u, k1, k2, k3, k4⟩ := isO_kit f e2.toBs.sub h1 r1' g3
        obtain ⟨us, m1, m2⟩ := isA_kit k4 hb (.cons g3 g4)
        exact .inr ⟨v, a, _, tv, us, b, rfl, e2.toBs.sub _ _ g1, m1, k2, m2, q2 _ F2 H2 (e1.trans e2) (.bl b)⟩
  · obtain ⟨b, hb, q2⟩ := q2
    obtain ⟨tv, u, k1, k2, k3, _⟩ := isO_kit f e2.toBs.sub hb r1' r2
    exact .inl ⟨v, c, tv, u, b, rfl, k1, k2, k3, q2 _ F2 H2 (e1.trans e2) (.bl b)⟩
end
end U
/-! U13: more expressions: -a, is None, new dicts, displays of dicts. -/
namespace U
open PySem PySem.Spec PyProof.Rows L2
variable [Wo]
section
variable {X : Cx} {E : XK} {e e2 a b : Expr} {w w1 w2 : WE} {pos p : Pos}
def wNeg (w : WE) : WE := fun env Q x => w env (fun d => ∃ i, d = .int i ∧ Q (.int (-i))) x
theorem ue_neg (h : UE X E e w) : UE X E (.UnaryOp .USub e pos) (wNeg w) :=
  ⟨PE.wk (pe_un un_neg h.pe) fun σ H Q ⟨dr, sa, F, env, S, q⟩ => ⟨dr, sa, F, env, S, h.mono env _ _ _ _ (fun d ⟨i, ed, q1⟩ v F1 H1 e1 r1 => by
    subst ed
    exact ⟨i, rp_int r1, q1 _ F1 H1 e1 (.int _)⟩) (fun _ _ _ z => z) q⟩, fun env Q Q' x x' k kx q => h.mono env _ _ _ _ (fun d ⟨i, ed, q1⟩ => ⟨i, ed, k _ q1⟩) kx q⟩
def isN : D → Bool
  | .non => true
  | _ => false
theorem isN_V {K : PySem.W.Frag} {dr : Addr} {F H : Hp} {v : V} {d : D} (r : RO K dr F H v d) : decide (v = .non) = isN d := by
  rcases r with r | ⟨p, rfl, _, _, o⟩
  · cases r <;> simp [isN]
  · cases d <;> first | exact o.elim | simp [isN]
def oIs (g : Bool → Bool) : OD := fun d1 d2 Q => d2 = .non ∧ Q (.bl (g (isN d1)))
theorem cu_is : CmpU X .Is (fun x y H Q => y = .non ∧ Q (.bl (decide (x = .non))) H) (oIs id) :=
  ⟨op_isN, fun dr sa F H x y d1 d2 Q B r1 r2 ⟨e, q⟩ => by
    subst e
    have ey : y = .non := by
      rcases r2 with r2 | ⟨_, _, _, _, o⟩
      · cases r2
        rfl
      · exact o.elim
    refine ⟨ey, ?_⟩
    rw [isN_V r1]
    exact q _ F H (Evo.refl B) (.bl _), fun d1 d2 Q Q' k ⟨e, q⟩ => ⟨e, k _ q⟩⟩
theorem cu_isNot : CmpU X .IsNot (fun x y H Q => y = .non ∧ Q (.bl (!decide (x = .non))) H) (oIs not) :=
  ⟨op_notN, fun dr sa F H x y d1 d2 Q B r1 r2 ⟨e, q⟩ => by
    subst e
    have ey : y = .non := by
      rcases r2 with r2 | ⟨_, _, _, _, o⟩
      · cases r2
        rfl
      · exact o.elim
    refine ⟨ey, ?_⟩
    rw [isN_V r1]
    exact q _ F H (Evo.refl B) (.bl _), fun d1 d2 Q Q' k ⟨e, q⟩ => ⟨e, k _ q⟩⟩
theorem uf_dnewK : UF X E (.Dict [] [] pos) (wC (.dct [] [])) :=
  ⟨PE.wk pe_dnewK fun σ H Q ⟨dr, sa, F, env, S, q⟩ p hp => by
    obtain ⟨ev, fp, nd⟩ := own_new (σ := σ) (env := env) (u := .dK []) S.toBs hp
    exact q p F _ ev hp fp nd rfl ⟨[], upd_same, rfl, .nil⟩, fun env Q Q' x x' k _ q => k _ q⟩
theorem gd_empty {P : Program} {w w2 : World} {H : Hp} (h : Heap) (hb : sysModules < h.objs.size) : ObjOk P w H (h.push { cls := .type "dict", data := .dict #[] }) h.objs.size (GD w2 h.objs.size []) :=
  ⟨⟨Nat.zero_le _, beq_eq_false_iff_ne.mpr (Ne.symm (Nat.ne_of_lt hb)), List.nodup_nil, [], .nil, _, #[], 0, Heap.get?_push_size _ rfl, ⟨rfl, rfl, rfl⟩, rfl, rfl⟩, ⟨_, Heap.get?_push_size _ rfl⟩, fun h1 h2 ⟨a, b, c, xs, r, o, es, ep, ho, z⟩ st => ⟨a, b, c, xs, r, o, es, ep, st _ ho, z⟩⟩
theorem pe_dnewG : PE X (.Dict [] [] pos) (fun _ H Q => ∀ p, H p = none → Q (.ref p) (upd H p (GD X.w p []))) :=
  ⟨fun pins s σ H Q I h => by
    have J := I.laid (a := s.heap.objs.size) (o := GD X.w s.heap.objs.size []) (t' := s.toks) (fun _ _ q => Heap.get?_push_of_some _ q) (Nat.le_refl _) (gd_empty s.heap I.big)
    exact wpAny_Dict_empty ⟨.ref s.heap.objs.size, _, J, rfl, h _ (I.hok.fresh (Nat.le_refl _))⟩⟩
theorem uf_dnewT (hw : X.w = Wo.w) : UF X E (.Dict [] [] pos) (wC (.dcT [] [])) :=
  ⟨PE.wk pe_dnewG fun σ H Q ⟨dr, sa, F, env, S, q⟩ p hp => by
    obtain ⟨ev, fp, nd⟩ := own_new (σ := σ) (env := env) (u := GD X.w p []) S.toBs hp
    exact q p F _ ev hp fp nd rfl ⟨[], by rw [upd_same, hw], rfl, .nil, .nil⟩, fun env Q Q' x x' k _ q => k _ q⟩
/-! ### {k: v, ..}, flat keys -/
abbrev WQ := En → (List (D × D) → Prop) → XP → Prop
def wqNil : WQ := fun _ Q _ => Q []
def wqCons (w1 w2 : WE) (r : WQ) : WQ := fun env Q x => w1 env (fun k => w2 env (fun v => r env (fun ps => Q ((k, v) :: ps)) x) x) x
/-- the pairs of a display -/
structure UQ (X : Cx) (E : XK) (pos : Pos) (keys : List (Option Expr)) (values : List Expr) (w : WQ) : Prop where
  ex : ∃ trs, PPs X pos keys values trs ∧ ∀ (dr sa : Addr) (F : Hp) (env : En) (σ : L2.St) (H : Hp) (Q : List (V × V) → Hp → Prop), Sr X.K dr sa F σ H env →
    w env (fun ds => ∀ ps F' H', Evo dr sa F H F' H' → RpA X.K dr F' (ps.map (·.1)) (ds.map (·.1)) → RpA X.K dr F' (ps.map (·.2)) (ds.map (·.2)) → Q ps H') (xw E X.K dr sa F H) → tPairs trs σ H Q
  mono : ∀ env (Q Q' : List (D × D) → Prop) (x x' : XP), (∀ d, Q d → Q' d) → (∀ c n v, x c n v → x' c n v) → w env Q x → w env Q' x'
theorem uq_nil : UQ X E pos [] [] wqNil := ⟨⟨[], pps_nil, fun dr sa F env σ H Q S q => q [] F H (Evo.refl S.toBs) .nil .nil⟩, fun env Q Q' x x' k _ q => k _ q⟩
theorem uq_cons {keys : List (Option Expr)} {values : List Expr} {r : WQ} (ha : UE X E a w1) (hb : UE X E b w2) (h : UQ X E pos keys values r) : UQ X E pos (some a :: keys) (b :: values) (wqCons w1 w2 r) := by
  obtain ⟨trs, p, hr⟩ := h.ex
  refine ⟨⟨_, pps_cons ha.pe hb.pe p, fun dr sa F env σ H Q S q => ?_⟩, fun env Q Q' x x' k kx q => ha.mono _ _ _ _ _ (fun d q1 => hb.mono _ _ _ _ _ (fun d2 q2 => h.mono _ _ _ _ _ (fun ps q3 => k _ q3) kx q2) kx q1) kx q⟩
  refine ⟨dr, sa, F, env, S, ha.mono env _ _ _ _ (fun d q1 v F1 H1 e1 r1 => ?_) (fun _ _ _ z => z) q⟩
  refine ⟨dr, sa, F1, env, S.evo e1, hb.mono env _ _ _ _ (fun d2 q2 v2 F2 H2 e2 r2 => ?_) (fun _ _ _ z => z.evo e1) q1⟩
  exact hr dr sa F2 env σ H2 _ ((S.evo e1).evo e2) (h.mono _ _ _ _ _ (fun ds q3 ps F3 H3 e3 r3 r4 => q3 ((v, v2) :: ps) F3 H3 ((e1.trans e2).trans e3) (.cons (Rp.mono (e2.fs.trans e3.fs) d r1) r3) (.cons (Rp.mono e3.fs d2 r2) r4)) (fun _ _ _ z => (z.evo e1).evo e2) q2)
/-- pairs whose keys are flat -/
def prsK : List (D × D) → Option (List (Key × D))
  | [] => some []
  | (.int i, v) :: ds => (prsK ds).map ((.inl i, v) :: ·)
  | (.str z, v) :: ds => (prsK ds).map ((.inr z, v) :: ·)
  | _ => none
theorem prsK_rp {K : PySem.W.Frag} {dr : Addr} {F : Hp} : ∀ {ps : List (V × V)} {ds : List (D × D)} {prs : List (Key × D)}, RpA K dr F (ps.map (·.1)) (ds.map (·.1)) → RpA K dr F (ps.map (·.2)) (ds.map (·.2)) → prsK ds = some prs → ∃ kvs : List (Key × V), ps = kvs.map (fun q => (kV q.1, q.2)) ∧ kvs.map (·.1) = prs.map (·.1) ∧ RpA K dr F (kvs.map (·.2)) (prs.map (·.2))
  | [], [], prs, _, _, e => by
    cases e
    exact ⟨[], rfl, rfl, .nil⟩
  | [], _ :: _, _, h, _, _ => by cases h
  | _ :: _, [], _, h, _, _ => by cases h
  | p :: ps, d :: ds, prs, h1, h2, e => by
    obtain ⟨dk, dv⟩ := d
    cases h1 with
    | cons k1 k2 =>
      cases h2 with
      | cons v1 v2 =>
        have step : ∀ k : Key, dk = kD k → (prsK ds).map ((k, dv) :: ·) = some prs → ∃ kvs : List (Key × V), p :: ps = kvs.map (fun q => (kV q.1, q.2)) ∧ kvs.map (·.1) = prs.map (·.1) ∧ RpA K dr F (kvs.map (·.2)) (prs.map (·.2)) := fun k ek ee => by
          cases q : prsK ds with
          | none =>
            rw [q] at ee
            cases ee
          | some pr =>
            rw [q] at ee
            cases ee
            obtain ⟨kvs, a1, a2, a3⟩ := prsK_rp k2 v2 q
            have ek2 : p.1 = kV k := by
              have k1 : Rp K dr F p.1 dk := k1
              rw [ek] at k1
              exact rp_key k1
            refine ⟨(k, p.2) :: kvs, ?_, ?_, .cons v1 a3⟩
            · rw [List.map_cons, ← a1, ← ek2]
            · rw [List.map_cons, List.map_cons, a2]
        unfold prsK at e
        split at e
        · rename_i z
          cases z
        · rename_i z
          cases z
          exact step (.inl _) rfl e
        · rename_i z
          cases z
          exact step (.inr _) rfl e
        · cases e
def wDisp (w : WQ) : WE := fun env Q x => w env (fun ds => ∃ prs, prsK ds = some prs ∧ ds.length ≤ 15 ∧ Q (.dct (putAll [] [] prs).1 (putAll [] [] prs).2)) x
theorem uf_disp {keys : List (Option Expr)} {values : List Expr} {w : WQ} (h : UQ X E pos keys values w) (hall : keys.all (·.isSome) = true := by rfl) (hl : keys.length = values.length := by rfl) (h0 : keys ≠ [] := by intro z; cases z) (h15 : keys.length ≤ 15 := by decide) : UF X E (.Dict keys values pos) (wDisp w) := by
  obtain ⟨trs, pp, hr⟩ := h.ex
  refine ⟨PE.wk (pe_disp pp hall hl h0 h15) fun σ H Q ⟨dr, sa, F, env, S, q⟩ p hp => ?_, fun env Q Q' x x' k kx q => h.mono env _ _ _ _ (fun ds ⟨prs, a1, a2, a3⟩ => ⟨prs, a1, a2, k _ a3⟩) kx q⟩
  obtain ⟨e0, f0, nd⟩ := own_new (σ := σ) (env := env) (u := .dK []) S.toBs hp
  refine hr dr sa F env σ _ _ (S.evo e0) (h.mono _ _ _ _ _ (fun ds ⟨prs, a1, a2, q1⟩ ps F2 H2 e2 r1 r2 => ?_) (fun _ _ _ z => z.evo e0) q)
  have hat : H2 p = some (.dK []) := e2.keep p _ nd (fun _ z => nomatch z) upd_same
  have f2 : F2 p = none := e2.out f0 upd_same
  obtain ⟨kvs, b1, b2, b3⟩ := prsK_rp r1 r2 a1
  obtain ⟨c1, c2⟩ := merge_rp (kvs := []) b2 b3 .nil
  have hlen : kvs.length ≤ 15 := by
    have e := r1.length
    rw [List.length_map, List.length_map] at e
    rw [b1, List.length_map] at e
    omega
  refine ⟨hat, kvs, b1, hlen, ?_⟩
  refine q1 p F2 _ ((e0.trans e2).chg hp f2 nd hat (fun _ z => nomatch z) (fun _ z => nomatch z)) hp f2 nd rfl ⟨_, upd_same, c1, c2⟩
end
end U
/-! U14: a list or a tuple walked. -/
namespace U
open PySem PySem.Spec PyProof.Rows L2
variable [Wo]
section
variable {X : Cx} {E : XK} {e tg : Expr} {w : WE}
def wiLT (w : WE) : WI := fun env Q x => wiL w env Q x ∨ wiT w env Q x
theorem ui_seq (h : UE X E e w) : UI X E tg e (wiLT w) := UI.or (ui_lst h) (ui_tup h)
end
section
variable {X : Cx} {E : XK} {elt tg iter : Expr} {ifs : List Expr} {scope : Scope} {own : List (Str × Nat)} {pos spos py : Pos} {wi : WI} {g : WG} {t : WT} {w : WE} {is : List Nat}
/-- name = [..], let go at once -/
theorem us_setLcZ {i : Nat} {y : Str} (hc : X.calm = true) (hN : X.N.Nodup) (hy : X.N[i]? = some y) (hyl : X.env.scope.names.lookup y = some .local) (hsw : swapsWith (.ListComp elt [⟨tg, iter, ifs, 0⟩] scope pos) (some (.Name y py)) spos.line X.env = pure true)
    (hi : UI X E tg iter wi) (ok : BlkOk X.N X.env.scope scope own) (hv : ∀ i, i ∈ is → i ∈ own.map (·.2))
    (hg : ∀ s H C cl fp, UTg (blkX X scope s H C cl fp) tg is g) (ht : ∀ s H C cl fp, UPs (blkX X scope s H C cl fp) ifs t) (he : ∀ s H C cl fp, UE (blkX X scope s H C cl fp) EF elt w) (hs : ∀ x, foldedSetIterable iter X.env x = pure x := by intro _; rfl) :
    US X E (.Assign [.Name y py] (.ListComp elt [⟨tg, iter, ifs, 0⟩] scope pos) spos) (fun D env => i < env.length ∧ wSet i (wLc wi (own.map (·.2)) g t w) D env) :=
  us_setLcF (y := y) (us_setLc hc hN hy hyl hsw hi ok hv hg ht he hs) (fun env Q Q' x x' k kx q => hi.mono env _ _ _ _ (fun ds q1 => wLcL_mono (hg X.s_0 X.H_0 0 [] []).mono (ht X.s_0 X.H_0 0 [] []).mono (he X.s_0 X.H_0 0 [] []).mono k ds [] q1) kx q) fun env Q x q => hi.mono env _ _ _ _ (fun ds q1 => wLcL_lst (hg X.s_0 X.H_0 0 [] []).mono (ht X.s_0 X.H_0 0 [] []).mono (he X.s_0 X.H_0 0 [] []).mono ds [] q1) (fun _ _ _ z => z) q
end
end U
/-! U16: enumerate(a tuple). -/
namespace PySem
theorem meets_enumT (t : Addr) (items : Array Value) (n : Nat) (dct : Option Addr) (sl : Array (Option Value)) :
    Meets (Builtin.«enumerate.__new__» ⟨[.type "enumerate", .ref t], []⟩) (fun _ R z => z.heap.get? t = some { cls := .type "tuple", dict := dct, data := .seq items n, slots := sl } ∧
      R (.ok (.ret (.ref (z.heap.objs.size + 1))))
        { z with heap := (z.heap.push { cls := .type "tuple_iterator", data := .fields #[.ref t, .int 0 0] }).push { cls := .type "enumerate", data := .fields #[.none, .bool false, .ref z.heap.objs.size, rawInt 0, .none, .none] } }) :=
  .of_wp fun prog w A R z hz => by
    obtain ⟨hp, gg, dd, tk, oo⟩ := z
    obtain ⟨ht, hR⟩ := hz
    have hz1 : (hp.push { cls := .type "tuple_iterator", data := .fields #[.ref t, .int 0 0] }).objs.size = hp.objs.size + 1 := Heap.size_push ..
    dsimp only at hR
    rw [← hz1] at hR
    have hsub := sub_enumerate
    have hT : Heap.IsTuple (Shared.heap ⟨hp, gg, dd, tk, oo⟩) t items := ⟨_, ht, rfl, n, rfl⟩
    wp_walk using wpAny_loadPart' ht
    refine wpAny_stack_any fun st => wpAny_pure ?_
    split
    · rename_i c _ _ _ _ _
      cases (c == Value.type "enumerate") <;>
      · wp_walk using wpAny_loadPart' ht, wpAny_pyIter_tuple hT
        exact ⟨_, rfl, hR⟩
    · wp_walk using wpAny_loadPart' ht, wpAny_pyIter_tuple hT
      exact ⟨_, rfl, hR⟩
section
variable {prog : Program} {w : World} {A : Around} {E : Value → Shared → Prop} {s : Shared}
theorem call_enumT {t : Addr} {items : Array Value} {Q : Value → Shared → Prop} (hT : s.heap.IsTuple t items)
    (h : ∀ h', IsEnum h' (s.heap.objs.size + 1) s.heap.objs.size 0 .none → h'.IsTupleIter s.heap.objs.size t 0 → (∀ b o, s.heap.get? b = some o → h'.get? b = some o) → Q (.ref (s.heap.objs.size + 1)) { s with heap := h' }) :
    wpAny (model prog w) A (call (.type "enumerate") [.ref t]) Q E s := by
  obtain ⟨⟨oc, od, dt, sl⟩, ht, e1, n, e2⟩ := hT
  replace e1 : oc = .type "tuple" := e1
  replace e2 : dt = .seq items n := e2
  subst e1 e2
  refine callType_new F.called_enumerate (by decide) (F.typeCall_enumerate_1 _) (F.newCall_enumerate_1 _) (fun obj => F.args_object_init_2 obj _) F.entry_enumerate_new (meets_enumT t items n od sl) ⟨ht, ?_⟩
  have hz : (s.heap.push { cls := .type "tuple_iterator", data := .fields #[.ref t, .int 0 0] }).objs.size = s.heap.objs.size + 1 := Heap.size_push ..
  have he : IsEnum ((s.heap.push { cls := .type "tuple_iterator", data := .fields #[.ref t, .int 0 0] }).push { cls := .type "enumerate", data := .fields #[.none, .bool false, .ref s.heap.objs.size, rawInt 0, .none, .none] }) (s.heap.objs.size + 1) s.heap.objs.size 0 .none := by
    have z := Heap.get?_push_size (s.heap.push { cls := .type "tuple_iterator", data := .fields #[.ref t, .int 0 0] }) (o := { cls := .type "enumerate", data := .fields #[.none, .bool false, .ref s.heap.objs.size, rawInt 0, .none, .none] }) rfl
    rw [hz] at z
    exact z
  exact ⟨⟨_, he, rfl⟩, h _ he ⟨_, Heap.get?_push_of_some _ (Heap.get?_push_size _ rfl), rfl, rfl⟩ fun b o x => Heap.get?_push_of_some _ (Heap.get?_push_of_some _ x)⟩
end
end PySem
namespace U
open PySem PySem.Spec PyProof.Rows L2
variable [Wo]
/-- the tuple at a, each item in a new pair -/
def IteT (K : PySem.W.Frag) (a : Addr) : It :=
  ⟨fun i H => ∃ (xs : List V) (x : V), SqT K H a xs ∧ xs[i]? = some x, fun i H v H' => ∃ T x, v = .ref T ∧ H T = none ∧ H' = upd H T (.tup [.int (i : Nat), x]) ∧ ∀ xs, SqT K H a xs → xs[i]? = some x, fun i H => ∃ xs : List V, SqT K H a xs ∧ xs.length ≤ i⟩
theorem turn_enumT {P : Program} {w : World} {K : PySem.W.Frag} {elts : List Expr} {kk : Nat} {tpos : Pos} (a e it : Addr) :
    Turn P w K (.Tuple elts kk tpos) (IteT K a) [e, it] e (fun i h => (∃ old, IsEnum h e it ((i : Nat) : Int) old) ∧ h.IsTupleIter it a i ∧ e ≠ it) where
  mem := by simp
  obj := fun i h st b hb => by
    obtain ⟨⟨old, he⟩, ⟨o, ho, _, hd⟩, _⟩ := st
    rcases List.mem_cons.mp hb with z | z
    · rw [z]
      exact ⟨_, he, fun v q => nomatch q⟩
    · exact ⟨o, by rw [List.mem_singleton.mp z]; exact ho, fun v q => by rw [hd] at q; cases q⟩
  keep := fun i h h' st k => ⟨st.1.imp fun old he => k e (by simp) _ he, st.2.1.at fun o q => k it (by simp) o q, st.2.2⟩
  item := by
    rintro X rfl rfl rfl hc i pins s σ H E I hf ⟨⟨old, he⟩, hit, hne⟩ ⟨xs, x, hq, hx⟩
    obtain ⟨its, rv, ht, hz⟩ := I.tuple hq
    obtain ⟨u, hu, ru⟩ := rv.get hx
    obtain ⟨ot, hot, hct, nt, hdt⟩ := ht
    have hel : e < s.heap.objs.size := Heap.lt_size he
    have ne1 : ∀ b ob, s.heap.get? b = some ob → ob.cls ≠ .type "tuple" → a ≠ b := fun b ob q n z => by
      rw [← z, hot] at q
      cases q
      exact n hct
    have hae : a ≠ e := ne1 e _ he fun z => absurd (Value.type.inj z) (by decide)
    have hai : a ≠ it := by
      obtain ⟨oi, hoi, hci, _⟩ := id hit
      exact ne1 it oi hoi fun z => absurd (Value.type.inj (hci.symm.trans z)) (by decide)
    have hil : it < s.heap.objs.size := by
      obtain ⟨_, q, _⟩ := hit
      exact Heap.lt_size q
    have hlt : i < its.toArray.size := by
      have := (List.getElem?_eq_some_iff.mp hu).1
      simpa using this
    refine wpAny_pyNext_enum_itemD (Draws.tuple (by simpa using I.ok.hd hc) it a hai its.toArray) he ⟨hit, ot, hot, hct, nt, hdt⟩ hlt hne (by simp [hne, Ne.symm hae]) fun x' h' tk hx' out st' hT hsz hk => ?_
    have ex : x' = u := by
      have z : its[i]? = some x' := by simpa using hx'
      rw [hu] at z
      exact (Option.some.inj z).symm
    subst ex
    refine ⟨_, rfl, wpAny_letOwnedTupleGo_enum (s := { s with heap := h', toks := tk + 1 }) out fun h2 he2 sb => ?_⟩
    have hT2 : h2.get? s.heap.objs.size = some { cls := .type "tuple", data := .seq #[.int i tk, x'] } := (sb.2 _ (Nat.ne_of_gt hel)).trans hT
    have new : ObjOk X.prog X.w (upd H s.heap.objs.size (.tup [.int (i : Nat), x])) h2 s.heap.objs.size (.tup [.int (i : Nat), x]) := ⟨by show 2 ≤ sizeLine; decide, [.int i tk, x'], .cons ⟨_, rfl⟩ (.cons ru .nil), ⟨_, hT2, rfl, _, rfl⟩⟩
    have I1 : Inv X pins σ (upd H s.heap.objs.size (.tup [.int (i : Nat), x])) { s with heap := h2, toks := tk + 1 } :=
      I.turnedNew (ch := [e, it]) (fun b ob hb q => (sb.2 b (fun z => hb (by simp [z]))).trans (hk b ob (fun z => hb (by simp [z])) (fun z => hb (by simp [z])) q)) hf (Nat.le_refl _) new
    refine ⟨.ref s.heap.objs.size, _, I1, rfl, ⟨_, x, rfl, I.hok.fresh (Nat.le_refl _), rfl, fun ys hy => by rw [I.tuple_inj hy hq]; exact hx⟩, ⟨⟨x', ?_⟩, st'.1.at fun o q => (sb.2 it (Ne.symm hne)).trans q, hne⟩, fun b hb => ?_⟩
    · rw [show ((i + 1 : Nat) : Int) = (i : Int) + 1 by omega]
      exact he2
    · have hb2 : b < s.heap.objs.size := by
        rcases List.mem_cons.mp hb with z | z
        · rw [z]
          exact hel
        · rw [List.mem_singleton.mp z]
          exact hil
      rw [upd_ne (Nat.ne_of_lt hb2)]
      exact (hf b hb).1
  done := by
    rintro X rfl rfl rfl hc i pins s σ H E I hf ⟨⟨old, he⟩, hit, hne⟩ ⟨xs, hq, hx⟩
    obtain ⟨its, rv, ht, hz⟩ := I.tuple hq
    obtain ⟨f0, f1, f2, f3, f4, f5⟩ := hf it (by simp)
    obtain ⟨ot, hot, hct, nt, hdt⟩ := ht
    have hai : a ≠ it := by
      obtain ⟨oi, hoi, hci, _⟩ := id hit
      intro z
      rw [← z, hot] at hoi
      cases hoi
      exact absurd (Value.type.inj (hct.symm.trans hci)) (by decide)
    have hT : s.heap.IsTuple a its.toArray := ⟨ot, hot, hct, nt, hdt⟩
    have hend : its.toArray[i]? = none := by
      have := rv.length
      simp
      omega
    have hh : X.A.in1.handled = none := by
      simpa using I.ok.hd hc
    have hTy : s.TypeIs (.ref e) "enumerate" := ⟨_, he, rfl⟩
    unfold pyNext
    refine wpAny_bind (wpAny_attempt (wpAny_callSpecial?_slot (name := Str.ofString "__next__") hTy F.slot_enumerate_next (wpAny_call_entry F.slot_enumerate_next hTy F.entry_enumerate_next ?_ (F.args_enumerate_next_1 _))))
    show wpAny _ _ (field (.ref e) 2 >>= _) _ _ _
    refine wpAny_bind (wpAny_field he rfl (x := .ref it) rfl ?_)
    refine wpAny_bind (wpAny_nextOf_tuple_end hh hit hT hend fun h' y eb hy => ?_)
    obtain ⟨o, ho, ho2⟩ := hy
    refine wpAny_bind (wpAny_isInstance (T := "StopIteration") (b := true) ⟨o, ho, ho2⟩ isSubtype_stop ?_)
    exact wpAny_pure ⟨rfl, I.turned (t' := s.toks) (fun b o hb q => eb b o hb q) f0 f1 f3 f4 f5⟩
  self := fun A i s Q E st h => st.1.elim fun _ he => wpAny_pyIter_enum he h
end U
/-! U17: for i, x in enumerate(a tuple or a list). -/
namespace U
open PySem PySem.Spec PyProof.Rows L2
variable [Wo]
def iEnumT (K : PySem.W.Frag) (ta : TA) : TI := fun σ H R => ta σ H fun vs H1 => ∃ a xs, vs = [.ref a] ∧ SqT K H1 a xs ∧ R (IteT K a) H1
theorem pi_enumT {X : Cx} {e : Expr} {ta : TA} {p pos tp : Pos} {elts : List Expr} {kk : Nat} (hg : Gl X "enumerate") (hm : X.mg "enumerate" = none) (ha : PA X [e] ta) (hs : starEach [e] X.env = [(false, eval e X.env)] := by rfl) :
    PI X (.Tuple elts kk tp) (.Call (.Name "enumerate" p) [e] [] pos) (iEnumT X.K ta) := by
  refine ⟨fun pins s σ H R I h => Call_ (ld_blt I hg hm boot_enumerate (PyProof.Rows.callWith_type1 (thn (ha.run pos pins s σ H _ I h) fun us s1 ⟨vs, H1, I1, r1, a, xs, ex, hq, q⟩ => ?_) hs rfl))⟩
  subst ex
  rw [Vals.ref1 r1]
  obtain ⟨its, rv, ht, hz⟩ := I1.tuple hq
  refine call_enumT (items := its.toArray) ht fun h' he hit hk => wpAny_pyIter_enum he ?_
  have J : Inv X pins σ H1 { s1 with heap := h' } := I1.kept (t' := s1.toks) hk
  refine ⟨s1.heap.objs.size + 1, [s1.heap.objs.size + 1, s1.heap.objs.size], _, _, H1, rfl, J, turn_enumT a (s1.heap.objs.size + 1) s1.heap.objs.size, ⟨⟨.none, he⟩, hit, Nat.succ_ne_self _⟩, fun b hb => ?_, q⟩
  have hle : s1.heap.objs.size ≤ b := by
    rcases List.mem_cons.mp hb with z | z
    · rw [z]
      exact Nat.le_succ _
    · rw [List.mem_singleton.mp z]
      exact Nat.le_refl _
  exact I1.fpOk hle (I1.hok.fresh hle)
theorem at_enumT {K : PySem.W.Frag} {dr sa a : Addr} {F1 : Hp} {xs : List V} {ds : List D} (h : F1 a = some (.tup xs)) (r : RpA K dr F1 xs ds) : ItD K dr sa (IteT K a) F1 (numD 0 ds) := fun F H B s => by
  have hs : SqT K H a xs := .inl (.inl (B.sub _ _ (s _ _ h)))
  refine ⟨fun i d e => ?_, xs, hs, by rw [r.length, numD_length]; exact Nat.le_refl _⟩
  rw [numD_at] at e
  cases q : ds[i]? with
  | none =>
    rw [q] at e
    cases e
  | some z =>
    rw [q] at e
    cases e
    obtain ⟨v, hv, rv⟩ := r.at_ q
    refine ⟨⟨xs, v, hs, hv⟩, fun x H' y => ?_⟩
    obtain ⟨T, x1, e1, hT, e2, y⟩ := y
    have z2 := y xs hs
    rw [hv] at z2
    cases z2
    subst e1 e2
    rw [Nat.zero_add]
    obtain ⟨ev, rp⟩ := Evo.tup (ds := [.int (i : Nat), z]) B hT (.cons (.int _) (.cons (Rp.mono s z rv) .nil))
    exact ⟨_, ev, rp⟩
section
variable {X : Cx} {E : XK} {e : Expr} {es : List Expr} {w : WE} {p pos tp : Pos} {kk : Nat}
def wiET (w : WE) : WI := fun env Q x => w env (fun d => ∃ ds, d = .tup ds ∧ Q (numD 0 ds)) x
theorem ui_enumT (hg : Gl X "enumerate") (hm : X.mg "enumerate" = none) (h : UE X E e w) (hs : starEach [e] X.env = [(false, eval e X.env)] := by rfl) : UI X E (.Tuple es kk tp) (.Call (.Name "enumerate" p) [e] [] pos) (wiET w) :=
  ⟨PI.wk (pi_enumT hg hm (pa_cons h.pe pa_nil hs) hs) fun σ H R ⟨dr, sa, F, env, S, q⟩ => ⟨dr, sa, F, env, S, h.mono env _ _ _ _ (fun d ⟨ds, ed, q1⟩ v F1 H1 e1 r1 => by
    subst ed
    cases r1 with
    | tup g1 g2 => exact ⟨_, _, rfl, .inl (.inl (e1.toBs.sub _ _ g1)), q1 _ F1 H1 e1 (at_enumT g1 g2)⟩) (fun _ _ _ z => z) q⟩,
   fun env Q Q' x x' k kx q => h.mono env _ _ _ _ (fun d ⟨ds, ed, q1⟩ => ⟨ds, ed, k _ q1⟩) kx q⟩
def wiEE (w : WE) : WI := fun env Q x => wiE w env Q x ∨ wiET w env Q x
theorem ui_enumU (hg : Gl X "enumerate") (hm : X.mg "enumerate" = none) (h : UE X E e w) (hs : starEach [e] X.env = [(false, eval e X.env)] := by rfl) : UI X E (.Tuple es kk tp) (.Call (.Name "enumerate" p) [e] [] pos) (wiEE w) := UI.or (ui_enum hg hm h hs) (ui_enumT hg hm h hs)
end
end U
/-! U18: {(a, b): v}, one pair, the key a tuple. -/
namespace U
open PySem PySem.Spec PyProof.Rows L2
variable [Wo]
/-- {k: v}, one pair, the key a tuple -/
def tDispG (w : World) (tk tv : TE) : TE := fun σ H Q => ∀ p, H p = none → tPairs [(tk, tv)] σ (upd H p (GD w p [])) fun ps H2 => H2 p = some (GD w p []) ∧ ∃ (k : NestedKey) (c : Addr) (v : V), ps = [(.ref c, v)] ∧ NkH H2 (.ref c) k ∧ k.depth ≤ 8 ∧ Q (.ref p) (upd H2 p (GD w p [(k, c, v)]))
theorem pe_dispG {X : Cx} {a b : Expr} {pos : Pos} {tk tv : TE} (hu : X.A.units + 64 < cLine) (hk : PE X a tk) (hv : PE X b tv) : PE X (.Dict [some a] [b] pos) (tDispG X.w tk tv) := by
  refine ⟨fun pins s σ H Q I q => ?_⟩
  have hn := I.hok.fresh (Nat.le_refl s.heap.objs.size)
  have I1 := I.laid (a := s.heap.objs.size) (o := GD X.w s.heap.objs.size []) (h' := s.heap.push { cls := .type "dict", data := .dict #[] }) (t' := s.toks) (fun _ _ z => Heap.get?_push_of_some _ z) (Nat.le_refl _) (gd_empty s.heap I.big)
  have shape := zip_pairTrees [some a] [b] X.env pos rfl rfl
  rw [arm_eval_Dict, shape, dictDisplay_pairs (pairTrees [some a] [b] X.env pos) (fun z => nomatch z) (by show 1 < 17; decide)]
  refine wpAny_bind (wpAny_standAt (wpAny_bind (wpAny_subDictH (knd := nestedKind X.prog X.w) (Q := fun d s' => wpAny (model X.prog X.w) X.A (pure (Value.ref d)) (EP X pins σ Q) X.xe s') ?_ (by show 1 ≤ 15; decide) ?_)))
  · show X.A.units + 8 < cLine
    omega
  · refine thn ((pps_cons hk hv pps_nil).run pins _ σ _ _ I1 (q _ hn)) fun ws s2 ⟨ps, H2, I2, rel, e, k, c, v, ep, nk, kd, q2⟩ => ?_
    subst ep
    cases rel with
    | @cons _ w1 _ ws1 r1 r2 =>
      cases r2
      obtain ⟨rk, rv⟩ := r1
      obtain ⟨kv, u⟩ := w1
      obtain rfl : kv = Value.ref c := rk
      obtain ⟨_, hd, xs, r0, dd⟩ := gd_at I2.hok (.inl e) (fun p hp => nomatch hp)
      cases r0
      refine ⟨[(k, c, u)], ⟨rfl, rfl, ⟨nk.is I2.hok _ rfl, kd⟩, trivial⟩, dd, fun h' tk' dd' hs => wpAny_pure ⟨.ref s.heap.objs.size, upd H2 s.heap.objs.size (GD X.w s.heap.objs.size [(k, c, v)]), ?_, rfl, q2⟩⟩
      obtain ⟨o, es, ep, ho, h2, h3, h4, _, h5⟩ := dd'
      refine d_write (t' := tk') I2 (by rw [e]; exact True.intro) hs ⟨o, ho⟩ ⟨⟨by show 1 ≤ sizeLine; decide, hd, (by simp), [(k, c, u)], .cons ⟨rfl, rfl, rv⟩ .nil, o, es, ep, ho, h2, h3, h4⟩, ⟨o, ho⟩, ?_⟩
      rintro h1 h2 ⟨z1, z2, z3, ys, z4, o, es, ep, ho, z5⟩ st
      exact ⟨z1, z2, z3, ys, z4, o, es, ep, st _ ho, z5⟩
section
variable {X : Cx} {E : XK} {a b : Expr} {w1 w2 : WE} {pos : Pos}
def wDispT (w1 w2 : WE) : WE := fun env Q x => w1 env (fun k => w2 env (fun v => (nkT k).isSome = true ∧ Q (.dcT [k] [v])) x) x
theorem uf_dispT (hw : X.w = Wo.w) (hu : X.A.units + 64 < cLine) (hk : UE X E a w1) (hv : UE X E b w2) : UF X E (.Dict [some a] [b] pos) (wDispT w1 w2) := by
  refine ⟨PE.wk (pe_dispG hu hk.pe hv.pe) fun σ H Q ⟨dr, sa, F, env, S, q⟩ p hp => ?_, fun env Q Q' x x' k kx q => hk.mono env _ _ _ _ (fun d q1 => hv.mono env _ _ _ _ (fun d2 ⟨a1, a2⟩ => ⟨a1, k _ a2⟩) kx q1) kx q⟩
  obtain ⟨e0, f0, nd⟩ := own_new (σ := σ) (env := env) (u := GD X.w p []) S.toBs hp
  refine ⟨dr, sa, F, env, S.evo e0, hk.mono env _ _ _ _ (fun d q1 v F1 H1 e1 r1 => ?_) (fun _ _ _ z => z.evo e0) q⟩
  refine ⟨dr, sa, F1, env, (S.evo e0).evo e1, hv.mono env _ _ _ _ (fun d2 q2 v2 F2 H2 e2 r2 => ?_) (fun _ _ _ z => (z.evo e0).evo e1) q1⟩
  obtain ⟨hz, q3⟩ := q2
  obtain ⟨z, ez⟩ := Option.isSome_iff_exists.mp hz
  have ev := (e0.trans e1).trans e2
  have hat : H2 p = some (GD X.w p []) := (e1.trans e2).keep p _ nd gd_noT upd_same
  have f2 : F2 p = none := (e1.trans e2).out f0 upd_same
  have r1' := Rp.mono e2.fs _ r1
  obtain ⟨c, rfl, n, hd⟩ := nkT_of e2.toBs.sub r1' ez
  refine ⟨hat, z, c, v2, rfl, n, hd, ?_⟩
  exact q3 p F2 _ (ev.chg hp f2 nd hat gd_noT (fun q => gd_noC)) hp f2 nd rfl ⟨[(z, c, v2)], by rw [upd_same, hw], by rw [List.map_cons, ez]; rfl, .cons r1' .nil, .cons r2 .nil⟩
end
end U
/-! U19: sorted(a tuple or a list of texts). -/
namespace PyProof.Rows
open PySem PySem.Spec
section
variable {prog : Program} {w : World} {A : Around} {E : Value → Shared → Prop} {s : Shared}
/-- the list that a collection is gathered in -/
abbrev gath (h : Heap) (vs : List Value) : Heap := (h.push (seqObj "list" #[] 0)).update h.objs.size (Obj.mapSeq (· ++ vs.toArray))
theorem collectT {t : Addr} {vs : List Value} {Q : List Value → Shared → Prop} {oc : Obj} {k : Nat} (ht : s.heap.get? t = some oc) (hc : oc.cls = .type "tuple") (hd : oc.data = .seq vs.toArray k) (h : Q vs { s with heap := gath s.heap vs }) (hz : vs.length ≤ sizeLine) : wpAny (model prog w) A (collect (.ref t)) Q E s := by
  have tt : (s.heap.push (seqObj "list" #[] 0)).get? t = some oc := Heap.get?_push_of_some _ ht
  have own : (s.heap.push (seqObj "list" #[] 0)).get? s.heap.objs.size = some (seqObj "list" #[] 0) := Heap.get?_push_size _ rfl
  unfold collect
  refine wpAny_bind (wpAny_runValue (codeAny_builtin entry_proto_collect' ?_))
  show wpAny _ _ (newList [] >>= fun n => again (.builtin "list.__iadd__" ⟨[n, .ref t], []⟩)) _ _ s
  refine wpAny_bind (wpAny_newList (wpAny_pure ⟨Code.quiet_builtin _ (by decide +kernel), codeAny_builtin entry_list_iadd' ?_⟩))
  show wpAny _ _ (Builtin.List.listExtendWith (.ref s.heap.objs.size) (.ref t) (.ref s.heap.objs.size)) _ _ { s with heap := s.heap.push (seqObj "list" #[] 0) }
  unfold Builtin.List.listExtendWith
  refine wpAny_bind (wpAny_typeOf (T := "tuple") ⟨oc, tt, hc⟩ ?_)
  have yes : (Value.type "tuple" == Value.type "tuple") = true := by rfl
  rw [if_pos (by rw [yes]; simp)]
  refine wpAny_bind (listItems_at tt hd ?_)
  refine wpAny_bind (listItems_at (xs := #[]) (n := 0) own rfl ?_)
  rw [if_neg (by simp)]
  refine wpAny_bind (listUpdate_at (xs := #[]) (n := 0) own rfl ?_ (Nat.zero_le _) (by show (#[] ++ vs.toArray).size ≤ sizeLine + 1; simp only [Array.size_append, List.size_toArray, List.length_nil]; omega))
  refine wpAny_pure ?_
  show wpAny (model prog w) A (load s.heap.objs.size >>= fun z => match z.data with
      | .seq xs _ => pure xs.toList
      | _ => unsupported "internal:collect") Q E { s with heap := gath s.heap vs }
  refine wpAny_bind (wpAny_load (get?_update_seq own _) ?_)
  show wpAny _ _ (pure ((#[] : Array Value) ++ vs.toArray).toList) Q E _
  have e : ((#[] : Array Value) ++ vs.toArray).toList = vs := by simp
  rw [e]
  exact wpAny_pure h
theorem sorted_tupS {t : Addr} {vs : List Value} {ss : List Str} {Q : Value → Shared → Prop} {oc : Obj} {k : Nat} (ht : s.heap.get? t = some oc) (hc : oc.cls = .type "tuple") (hd : oc.data = .seq vs.toArray k) (hS : StrsAre vs ss) (h64 : vs.length < 64)
    (h : ∀ (out : Array Value) (ss' : List Str), StrsAre out.toList ss' → ss'.Perm ss → sortedS ss' = true → Q (.ref (s.heap.objs.size + 1)) { s with heap := sortedAll s.heap vs out }) : wpAny (model prog w) A (call (.builtin "sorted") [.ref t]) Q E s := by
  refine Calls.call_function_entry kind_sorted plain_sorted entry_sorted (args_sorted1 _) ?_
  unfold Builtin.«sorted»
  refine wpAny_bind (m := checkCount "sorted" 1 1 _) (wpAny_pure ?_)
  refine wpAny_bind (collectT ht hc hd ?_ (by rw [sizeLine_eq]; omega))
  refine wpAny_bind (wpAny_newList ?_)
  have size1 : (gath s.heap vs).objs.size = s.heap.objs.size + 1 := by rw [Heap.size_update, size_push']
  have there : ((gath s.heap vs).push (seqObj "list" vs.toArray 0)).get? (s.heap.objs.size + 1) = some (seqObj "list" vs.toArray 0) := by
    have z := Heap.get?_push_size (gath s.heap vs) (o := seqObj "list" vs.toArray 0) rfl
    rw [size1] at z
    exact z
  show wpAny _ _ _ _ _ { s with heap := (gath s.heap vs).push (seqObj "list" vs.toArray 0) }
  rw [size1]
  refine wpAny_bind (wpAny_holding (wpAny_call_entry slot_list_sort ⟨_, there, rfl⟩ entry_list_sort (list_sort_treeK strKind_oneLt there hS.keysOf (fun v₁ v₂ rest e => keyKind_strs (by rw [← e]; exact hS)) h64 fun st' a1 a2 => ⟨_, rfl, ?_⟩) (args_list_sort _)))
  obtain ⟨ss', b1, b2, b3⟩ := sorted_out_str hS a1 a2
  exact wpAny_pure ⟨_, rfl, h _ ss' b1 b2 b3⟩
end
end PyProof.Rows
namespace U
open PySem PySem.Spec PyProof.Rows L2
variable [Wo]
def rSortedT (K : PySem.W.Frag) : List V → Hp → VK → Prop := fun vs H Q => ∃ (a : Addr) (xs : List Str), vs = [V.ref a] ∧ SqT K H a (xs.map V.str) ∧ xs.length < 64 ∧ ∀ (ys : List Str) (p : Addr), ys.Perm xs → sortedS ys = true → H p = none → Q (.ref p) (upd H p (.lst (ys.map V.str)))
theorem cr_sortedT {X : Cx} : CallR X (.builtin "sorted") (rSortedT X.K) := by
  rintro pins s σ H vs us Q I r ⟨a, xs, rfl, hs, h64, q⟩
  obtain ⟨its, rv, ht, hz⟩ := I.tuple hs
  rw [Vals.ref1 r]
  have len : xs.length = its.length := by
    have z := rv.length
    rw [List.length_map] at z
    exact z
  obtain ⟨o, ho, hc, n, hd⟩ := ht
  refine sorted_tupS ho hc hd rv.strs (by omega) fun out ys h1 h2 h3 => ?_
  obtain ⟨ep, at'⟩ := PyProof.Rows.sortedAll_at s.heap its out
  have fits : (ys.map V.str).length ≤ sizeLine := by
    rw [List.length_map, h2.length_eq]
    exact small64 h64
  exact ⟨.ref _, upd H (s.heap.objs.size + 1) (.lst (ys.map V.str)), I.laid (t' := s.toks) (fun _ _ => PyProof.Rows.sortedAll_old) (Nat.le_succ _) ⟨fits, out.toList, ep, vals_of_strs h1, at'⟩, rfl, q ys _ h2 h3 (I.hok.fresh (Nat.le_succ _))⟩
def strsOf : List D → Option (List Str)
  | [] => some []
  | .str b :: ds => (strsOf ds).map (b :: ·)
  | _ => none
theorem strs_rp {K : PySem.W.Frag} {dr : Addr} {F : Hp} : ∀ {vs : List V} {ds : List D} {bs : List Str}, RpA K dr F vs ds → strsOf ds = some bs → vs = bs.map V.str
  | [], _, bs, h, e => by
    cases h
    cases e
    rfl
  | v :: vs, _, bs, h, e => by
    cases h with
    | @cons _ _ d ds h1 h2 =>
      cases d with
      | str b =>
        have e' : (strsOf ds).map (b :: ·) = some bs := e
        cases q : strsOf ds with
        | none =>
          rw [q] at e'
          cases e'
        | some cs =>
          rw [q] at e'
          cases e'
          rw [strs_rp h2 q]
          cases h1
          rfl
      | _ => cases e
theorem rp_strs {K : PySem.W.Frag} {dr : Addr} {F : Hp} : ∀ bs : List Str, RpA K dr F (bs.map V.str) (bs.map D.str)
  | [] => .nil
  | b :: bs => .cons (.str b) (rp_strs bs)
def oSorted : O1 := fun d Q => ∃ ds zs, (d = .lst ds ∨ d = .tup ds) ∧ strsOf ds = some zs ∧ zs.length < 64 ∧ ∀ ys : List Str, ys.Perm zs → sortedS ys = true → Q (.lst (ys.map .str))
section
variable {X : Cx} {E : XK} {e : Expr} {w : WE} {p pos : Pos}
theorem ue_sorted (hc : X.calm = true) (hg : Gl X "sorted") (hm : X.mg "sorted" = none) (h : UO X E e w) (hs : starEach [e] X.env = (false, eval e X.env) :: starEach [] X.env := by rfl) : UE X E (.Call (.Name "sorted" p) [e] [] pos) (wB1 oSorted w) :=
  ue_b1 (CallR.or cr_sortedS cr_sortedT) (fun dr sa F H x d Q B r ⟨ds, zs, ed, ez, hl, q⟩ => by
    rcases ed with ed | ed
    · subst ed
      obtain ⟨p, xs, rfl, e1, q1⟩ := ro_lst B.sub r
      have z := strs_rp q1 ez
      subst z
      refine .inl ⟨p, zs, rfl, sqL e1, hl, fun ys l h1 h2 h3 => ?_⟩
      obtain ⟨ev, rr⟩ := Evo.lst B h3 (rp_strs ys)
      exact q ys h1 h2 _ _ _ ev rr
    · subst ed
      obtain ⟨p, xs, rfl, e1, _, q1⟩ := ro_tup B.sub r
      have z := strs_rp q1 ez
      subst z
      refine .inr ⟨p, zs, rfl, e1, hl, fun ys l h1 h2 h3 => ?_⟩
      obtain ⟨ev, rr⟩ := Evo.lst B h3 (rp_strs ys)
      exact q ys h1 h2 _ _ _ ev rr) (fun d Q Q' k ⟨ds, zs, a, b, c, q⟩ => ⟨ds, zs, a, b, c, fun ys h1 h2 => k _ (q ys h1 h2)⟩) hg hm boot_sorted h (by decide) (by decide) hs
end
end U
/-! U20: len(set(texts)), the texts all different. -/
namespace USet
open PySem PySem.Spec PyProof.Rows
/-- some of the first i texts is k -/
abbrev met (xs : List Str) (i : Nat) : Str → Bool := fun k => (xs.take i).any (· == k)
theorem met_next {xs : List Str} {i : Nat} (nd : xs.Nodup) (hi : i < xs.length) : met xs i (xs.getD i Str.empty) = false ∧ ∀ k, (met xs i k || decide (k = xs.getD i Str.empty)) = met xs (i + 1) k := by
  have e : xs.getD i Str.empty = xs[i] := by rw [List.getD_eq_getElem?_getD, List.getElem?_eq_getElem hi]; rfl
  rw [e]
  refine ⟨?_, fun k => ?_⟩
  · cases q : met xs i xs[i] with
    | false => rfl
    | true =>
      exfalso
      obtain ⟨y, hy, ey⟩ := List.any_eq_true.mp q
      have ey := eq_of_beq ey
      subst ey
      obtain ⟨j, hj, ej⟩ := List.mem_take_iff_getElem.mp hy
      have := (List.getElem_inj nd).mp ej
      omega
  · show ((xs.take i).any (· == k) || decide (k = xs[i])) = (xs.take (i + 1)).any (· == k)
    rw [List.take_succ_eq_append_getElem hi, List.any_append]
    congr 1
    show decide (k = xs[i]) = ((xs[i] == k) || false)
    rw [Bool.or_false]
    by_cases q : k = xs[i]
    · subst q; simp
    · rw [decide_eq_false q]
      exact (beq_eq_false_iff_ne.mpr (Ne.symm q)).symm
section
variable {prog : Program} {w : World} {A : Around} {R : Result → Shared → Prop} {I : Addr} {fp wr : List Addr} {G : Array GenState → Array GenState → Prop} {n : Nat} {P : Nat → Value → Prop} {St : Nat → Shared → Prop}
theorem fill (W : WalksS prog w A.in1 I fp wr G n P St) (S : Addr) (off : S ∉ fp) (xs : List Str) (len : xs.length = n) (nd : xs.Nodup) (room : n + 1 < scanBound) (val : ∀ i v, P i v → ∃ t, v = .str (xs.getD i Str.empty) t) :
    ∀ (k i : Nat) (s : Shared), n - i = k → i ≤ n → St i s → s.heap.SetOf (PySem.strKind prog w) S (met xs i) i →
      (∀ z, Moved (S :: wr) G s z → z.heap.SetOf (PySem.strKind prog w) S (met xs n) n → R (.ok (.ret .none)) z) → codeAny (model prog w) A (.builtin "set.update.loop" ⟨[.ref S, .ref I], []⟩) R s := by
  have offw : S ∉ wr := fun z => off (W.sub _ z)
  have sub : ∀ b ∈ wr, b ∈ S :: wr := fun b z => List.mem_cons_of_mem _ z
  have stays : ∀ {s z : Shared} {f : Str → Bool} {m : Nat}, Moved wr G s z → s.heap.SetOf (PySem.strKind prog w) S f m → z.heap.SetOf (PySem.strKind prog w) S f m := fun {s z f m} mv q => by
    obtain ⟨o, es, ep, t, ho, rest⟩ := q
    exact ⟨o, es, ep, t, mv.heap S _ offw ho, rest⟩
  intro k
  induction k with
  | zero =>
    intro i s hk hi hst hS fin
    obtain rfl : i = n := by omega
    refine codeAny_builtin PyProof.Rows.F.entry_set_update_loop ?_
    rw [Around.under_plainId PyProof.Rows.F.plain_set_update_loop _]
    show wpAny _ A.in1 (pyNext (.ref I) >>= _) _ _ s
    refine wpAny_bind (W.done s _ _ hst fun z mv => ?_)
    exact wpAny_pure (fin z (mv.mono sub) (stays mv hS))
  | succ k ih =>
    intro i s hk hi hst hS fin
    have lt : i < n := by omega
    refine codeAny_builtin PyProof.Rows.F.entry_set_update_loop ?_
    rw [Around.under_plainId PyProof.Rows.F.plain_set_update_loop _]
    show wpAny _ A.in1 (pyNext (.ref I) >>= _) _ _ s
    refine wpAny_bind (W.item i s _ _ lt hst fun v z hv hst2 mv => ?_)
    obtain ⟨t, rfl⟩ := val i v hv
    have hS2 := stays mv hS
    show wpAny _ A.in1 (holding [Value.str (xs.getD i Str.empty) t] (setAdd S (.str (xs.getD i Str.empty) t)) >>= _) _ _ z
    refine wpAny_bind (wpAny_holding ?_)
    unfold setAdd
    refine wpAny_holding (wpAny_bind ((PySem.strKind prog w).pyHash (k := xs.getD i Str.empty) (strKind_is _ _ _ _) ?_))
    refine wpAny_setAddHashed_of (knd := PySem.strKind prog w) (s := { z with toks := z.toks + 1 }) (strKind_is _ _ _ _) rfl hS2 (by omega) fun h2 sb more => ?_
    obtain ⟨no, all⟩ := met_next nd (i := i) (by omega)
    have hS3 : h2.SetOf (PySem.strKind prog w) S (met xs (i + 1)) (i + 1) := SetOf_congr more all (by rw [no]; rfl)
    have other : ∀ b, b ≠ S → ∀ o, z.heap.get? b = some o → h2.get? b = some o := fun b nb o e => (sb.2 b nb).trans e
    refine wpAny_pure ⟨plainId_quiet PyProof.Rows.F.plain_set_update_loop _, ih (i + 1) _ (by omega) lt (W.frame _ z _ _ hst2 (Nat.le_succ _) fun b hb o e => other b (fun q => off (q ▸ hb)) o e) hS3 fun y mv2 hy => ?_⟩
    exact fin y (Moved.trans W.gtrans ((mv.mono sub).then_heap (Nat.le_succ _) fun b o hb e => other b (fun q => hb (by rw [q]; exact List.mem_cons_self)) o e) mv2) hy
end
section
variable {prog : Program} {w : World} {A : Around} {E : Value → Shared → Prop} {s : Shared}
abbrev newSet (led : Bool) : Obj := { cls := .type "set", dict := none, data := .set #[] 0 (.fresh 0 0 led) }
theorem strs_get : ∀ {us : List Value} {xs : List Str}, StrsAre us xs → ∀ (i : Nat) (v : Value), us[i]? = some v → ∃ t, v = .str (xs.getD i Str.empty) t
  | _, _, .nil, i, v, h => by simp at h
  | _, _, .cons x t r, 0, v, h => ⟨t, (Option.some.inj h).symm⟩
  | _, _, .cons x t r, i + 1, v, h => strs_get r i v h
set_option maxHeartbeats 8000000 in
theorem call_set_texts {l : Addr} {items : Array Value} {xs : List Str} {Q : Value → Shared → Prop} (calm : A.handled = none) (at_ : s.heap.IsList l items ∨ s.heap.IsTuple l items) (txt : StrsAre items.toList xs) (nd : xs.Nodup) (few : xs.length + 1 < scanBound)
    (h : ∀ (h' : Heap) (tk : Nat), h'.SetOf (PySem.strKind prog w) s.heap.objs.size (met xs items.size) items.size → (∀ b o, b < s.heap.objs.size → s.heap.get? b = some o → h'.get? b = some o) → Q (.ref s.heap.objs.size) { s with heap := h', toks := tk }) :
    wpAny (model prog w) A (call (.type "set") [.ref l]) Q E s := by
  obtain ⟨mc, mt, mro⟩ := PySem.F.called_set.mro
  have made := PySem.F.called_set.made
  have issub := PySem.F.called_set.sub
  have n1 := PySem.F.called_set.notType
  have n2 := PySem.F.called_set.canCreate
  have n3 := PySem.F.typeCall_set_1 (.ref l)
  refine wpAny_call (codeAny_of_tree ?_)
  show wpAny _ _ (callAny (.type "set") _) _ _ _
  refine wpAny_pure ⟨Code.quiet_builtin _ (by decide +kernel), codeAny_builtin PySem.F.entry_type_call ?_⟩
  rw [Around.under_plain (weight_type_call_type "set" [.ref l] []) rfl]
  repeat (any_goals (first | assumption | wp_step))
  refine codeAny_mono (code_set_new_1 (.ref l) (E := E) (Q₁ := fun y z => ∃ led : Bool, y = .ref s.heap.objs.size ∧ z = { s with heap := s.heap.push (newSet led) }) fun led => ⟨led, rfl, rfl⟩) fun r z hr => ?_
  cases r with
  | error e => exact hr
  | ok fl =>
    cases fl with
    | ret y =>
      obtain ⟨led, rfl, rfl⟩ := hr
      have laid : (s.heap.push (newSet led)).get? s.heap.objs.size = some (newSet led) := Heap.get?_push_size _ rfl
      have size1 : (s.heap.push (newSet led)).objs.size = s.heap.objs.size + 1 := Heap.size_push ..
      have ty : Shared.TypeIs { s with heap := s.heap.push (newSet led) } (.ref s.heap.objs.size) "set" := ⟨_, laid, rfl⟩
      have i1 := PySem.F.called_set.init.lookup
      have i2 := PySem.F.called_set.init.bind (.ref s.heap.objs.size)
      repeat (any_goals (first | assumption | wp_step))
      refine codeAny_mono (codeAny_call_builtin (R := wants (fun r z => r = .none ∧ ∃ h' tk, z = { s with heap := h', toks := tk } ∧ h'.SetOf (PySem.strKind prog w) s.heap.objs.size (met xs items.size) items.size ∧ (∀ b o, b < s.heap.objs.size → s.heap.get? b = some o → h'.get? b = some o)) E)
        PySem.F.called_set.init.plain PySem.F.entry_set_init (check_set_init_1 ty ?_)) fun r2 z2 hr2 => ?_
      · have len : xs.length = items.size := by rw [← StrsAre.len_eq txt, Array.length_toList]
        have val : ∀ (i : Nat) (v : Value), items[i]? = some v → ∃ t, v = .str (xs.getD i Str.empty) t := fun i v hv => strs_get txt i v (by rw [Array.getElem?_toList]; exact hv)
        have calm3 : A.in1.in1.in1.handled = none := by simp [calm]
        have last : ∀ (c : String) (z : Shared) (it : Addr), it = s.heap.objs.size + 1 → Moved (s.heap.objs.size :: [it]) (fun a b => b = a) { s with heap := (s.heap.push (newSet led)).push { cls := .type c, data := .fields #[.ref l, .int 0 0] } } z → z.heap.SetOf (PySem.strKind prog w) s.heap.objs.size (met xs items.size) items.size → (wants (fun r z => r = .none ∧ ∃ h' tk, z = { s with heap := h', toks := tk } ∧ h'.SetOf (PySem.strKind prog w) s.heap.objs.size (met xs items.size) items.size ∧ (∀ b o, b < s.heap.objs.size → s.heap.get? b = some o → h'.get? b = some o)) E) (.ok (.ret .none)) z := fun c z it eit mv hz => by
          obtain ⟨hh, gg, dd, tt, oo⟩ := z
          obtain rfl : gg = s.gens := mv.gens
          obtain rfl : dd = s.drawn := mv.drawn
          obtain rfl : oo = s.os := mv.os
          refine ⟨rfl, hh, tt, rfl, hz, fun b o hb e => mv.heap b o ?_ (Heap.get?_push_of_some _ (Heap.get?_push_of_some _ e))⟩
          simp only [List.mem_cons, List.mem_singleton, List.not_mem_nil, or_false, not_or]
          exact ⟨Nat.ne_of_lt hb, by rw [eit]; exact Nat.ne_of_lt (Nat.lt_succ_of_lt hb)⟩
        have first0 : ∀ (c : String), ((s.heap.push (newSet led)).push { cls := .type c, data := .fields #[.ref l, .int 0 0] }).SetOf (PySem.strKind prog w) s.heap.objs.size (met xs 0) 0 := fun c =>
          SetOf_congr ((PyProof.Rows.setObjOf_fresh (knd := PySem.strKind prog w) led).setOf (Heap.get?_push_of_some _ laid) (by unfold scanBound; omega)) (fun _ => rfl) rfl
        rcases at_ with hl | hl
        · obtain ⟨⟨oc, od, dt, sl⟩, hol, hc, nl, hd⟩ := hl
          simp only at hc hd
          subst hc hd
          have hol2 : (s.heap.push (newSet led)).get? l = some { cls := .type "list", dict := od, data := .seq items nl, slots := sl } := Heap.get?_push_of_some _ hol
          have old : l < s.heap.objs.size := Heap.lt_size hol
          have isl : (s.heap.push (newSet led)).IsList l items := ⟨_, hol2, rfl, nl, rfl⟩
          have u1 := PySem.F.sub_list_set
          have u2 := PySem.F.sub_list_frozenset
          have u3 : (Value.type "list" == Value.type "dict") = false := by decide
          unfold Builtin.«set.__init__» noKeywords Builtin.Frozenset.updateFrom
          generalize ePI : pyIter = PI
          wp_walk
          subst ePI
          refine wpAny_pyIter_list isl (wpAny_bind (wpAny_runValue ?_))
          have nI : l ≠ (s.heap.push (newSet led)).objs.size := by rw [size1]; exact Nat.ne_of_lt (Nat.lt_succ_of_lt old)
          have off : s.heap.objs.size ∉ [(s.heap.push (newSet led)).objs.size, l] := by
            rw [size1]
            simp only [List.mem_cons, List.mem_singleton, List.not_mem_nil, or_false, not_or]
            exact ⟨Nat.ne_of_lt (Nat.lt_succ_self _), Nat.ne_of_gt old⟩
          refine fill ((Walks.list calm3 _ l nI items).toS) s.heap.objs.size off xs len nd (by omega) val (items.size - 0) 0 _ (by omega) (Nat.zero_le _) ⟨⟨_, Heap.get?_push_size _ rfl, rfl, rfl⟩, (isl.push _)⟩ (first0 "list_iterator") fun z mv hz => ?_
          exact wpAny_pure (wpAny_pure (last "list_iterator" z _ size1 mv hz))
        · obtain ⟨⟨oc, od, dt, sl⟩, hol, hc, nl, hd⟩ := hl
          simp only at hc hd
          subst hc hd
          have hol2 : (s.heap.push (newSet led)).get? l = some { cls := .type "tuple", dict := od, data := .seq items nl, slots := sl } := Heap.get?_push_of_some _ hol
          have old : l < s.heap.objs.size := Heap.lt_size hol
          have isl : (s.heap.push (newSet led)).IsTuple l items := ⟨_, hol2, rfl, nl, rfl⟩
          have u1 := PySem.F.sub_tuple_set
          have u2 := PySem.F.sub_tuple_frozenset
          have u3 : (Value.type "tuple" == Value.type "dict") = false := by decide
          unfold Builtin.«set.__init__» noKeywords Builtin.Frozenset.updateFrom
          generalize ePI : pyIter = PI
          wp_walk
          subst ePI
          refine wpAny_pyIter_tuple isl (wpAny_bind (wpAny_runValue ?_))
          have nI : l ≠ (s.heap.push (newSet led)).objs.size := by rw [size1]; exact Nat.ne_of_lt (Nat.lt_succ_of_lt old)
          have off : s.heap.objs.size ∉ [(s.heap.push (newSet led)).objs.size, l] := by
            rw [size1]
            simp only [List.mem_cons, List.mem_singleton, List.not_mem_nil, or_false, not_or]
            exact ⟨Nat.ne_of_lt (Nat.lt_succ_self _), Nat.ne_of_gt old⟩
          refine fill ((Walks.tuple calm3 _ l nI items).toS) s.heap.objs.size off xs len nd (by omega) val (items.size - 0) 0 _ (by omega) (Nat.zero_le _) ⟨⟨_, Heap.get?_push_size _ rfl, rfl, rfl⟩, (isl.push _)⟩ (first0 "tuple_iterator") fun z mv hz => ?_
          exact wpAny_pure (wpAny_pure (last "tuple_iterator" z _ size1 mv hz))
      · cases r2 with
        | error e => exact hr2
        | ok fl2 =>
          cases fl2 with
          | ret r =>
            obtain ⟨rfl, h', tk, rfl, hS, hk⟩ := hr2
            repeat (any_goals (first | assumption | wp_step))
            exact h _ _ hS hk
          | _ => exact hr2.elim
    | _ => exact hr.elim
end
end USet

namespace U
open PySem PySem.Spec PyProof.Rows L2
variable [Wo]
section
variable {X : Cx} {E : XK} {e : Expr} {w : WE} {p p2 q pos : Pos}
def tLenSet (K : PySem.W.Frag) (ta : TE) : TE := fun σ H Q => ta σ H fun x H1 => ∃ l, ∃ xs : List Str, x = .ref l ∧ (SqL K H1 l (xs.map V.str) ∨ SqT K H1 l (xs.map V.str)) ∧ xs.Nodup ∧ xs.length ≤ 60 ∧ Q (.int xs.length) H1
theorem pe_lenSetU {ta : TE} (hc : X.calm = true) (hg : Gl X "len") (hm : X.mg "len" = none) (hg2 : Gl X "set") (hm2 : X.mg "set" = none) (ha : PE X e ta) (na : starEach [e] X.env = (false, eval e X.env) :: starEach [] X.env := by rfl) :
    PE X (.Call (.Name "len" p) [.Call (.Name "set" p2) [e] [] q] [] pos) (tLenSet X.K ta) := by
  refine ⟨fun pins s σ H Q I h => Call_ (ld_blt I hg hm boot_len (PyProof.Rows.callWith_builtin1 (PyProof.Rows.args_cons ?_ rfl) rfl rfl))⟩
  refine Call_ (ld_blt I hg2 hm2 boot_set (PyProof.Rows.callWith_type1 (PyProof.Rows.args_cons (thn (ha.run pins s σ H _ I h) fun v s1 ⟨x, H1, I1, r1, q1⟩ => PyProof.Rows.args_nil ?_) na) na rfl))
  obtain ⟨l, xs, rfl, hq, nd, few, q1⟩ := q1
  cases r1
  have fin : ∀ (its : List Value), Vals (xs.map V.str) its → (s1.heap.IsList l its.toArray ∨ s1.heap.IsTuple l its.toArray) → wpAny (model X.prog X.w) X.A (call (.type "set") [.ref l]) (fun v s₂ => wpAny (model X.prog X.w) X.A (spliced (backTo pos (starEach [] X.env))) (fun vs s₃ => wpAny (model X.prog X.w) X.A (call (.builtin "len") (v :: vs)) (EP X pins σ Q) X.xe s₃) X.xe s₂) X.xe s1 := fun its r where_ => by
    have ln : its.toArray.size = xs.length := by rw [List.size_toArray, ← r.length, List.length_map]
    refine USet.call_set_texts (I1.ok.hd hc) where_ (by simpa using strsAre_of r) nd (by unfold scanBound; omega) fun h' tk hS hk => PyProof.Rows.args_nil ?_
    rw [ln] at hS
    obtain ⟨o, es, ep, t, ho, hex, hd, _, _, _, hf, hn⟩ := hS
    have I2 : Inv X pins σ H1 { s1 with heap := h', toks := tk } := I1.kept fun b o e => hk b o (Heap.lt_size e) e
    exact call_len_set ho hex hd hf (by rw [hn]; omega) ⟨.int xs.length, H1, I2.tok _, ⟨_, by rw [hn]⟩, q1⟩
  rcases hq with hq | hq
  · obtain ⟨its, r, pl, _⟩ := I1.list hq
    exact fin its r (.inl pl.isList)
  · obtain ⟨its, r, pl, _⟩ := I1.tuple hq
    exact fin its r (.inr pl)
def wLenSet (w : WE) : WE := fun env Q x => w env (fun d => ∃ ds zs, (d = .lst ds ∨ d = .tup ds) ∧ strsOf ds = some zs ∧ zs.Nodup ∧ zs.length ≤ 60 ∧ Q (.int zs.length)) x
theorem ue_lenSet (hc : X.calm = true) (hg : Gl X "len") (hm : X.mg "len" = none) (hg2 : Gl X "set") (hm2 : X.mg "set" = none) (h : UE X E e w) (na : starEach [e] X.env = (false, eval e X.env) :: starEach [] X.env := by rfl) : UE X E (.Call (.Name "len" p) [.Call (.Name "set" p2) [e] [] q] [] pos) (wLenSet w) :=
  ⟨PE.wk (pe_lenSetU hc hg hm hg2 hm2 h.pe na) fun σ H Q ⟨dr, sa, F, env, S, q⟩ => ⟨dr, sa, F, env, S, h.mono env _ _ _ _ (fun d ⟨ds, zs, ed, ez, nd, few, q1⟩ v F1 H1 e1 r1 => by
    rcases ed with ed | ed
    · subst ed
      obtain ⟨a, xs, rfl, g1, g2⟩ := ro_lst e1.toBs.sub (RO.evo (Evo.refl e1.toBs) (.inl r1))
      have z := strs_rp g2 ez
      subst z
      exact ⟨a, zs, rfl, .inl (sqL g1), nd, few, q1 _ F1 H1 e1 (.int _)⟩
    · subst ed
      obtain ⟨a, xs, rfl, g1, _, g2⟩ := ro_tup e1.toBs.sub (RO.evo (Evo.refl e1.toBs) (.inl r1))
      have z := strs_rp g2 ez
      subst z
      exact ⟨a, zs, rfl, .inr g1, nd, few, q1 _ F1 H1 e1 (.int _)⟩) (fun _ _ _ z => z) q⟩,
   fun env Q Q' x x' k kx q => h.mono env _ _ _ _ (fun d ⟨ds, zs, a, b, c, e, q1⟩ => ⟨ds, zs, a, b, c, e, k _ q1⟩) kx q⟩
end
end U
/-! U21: the draws; powers; dicts that are unlike. -/
namespace U
open PySem PySem.Spec PyProof.Rows L2
variable [Wo]
section
variable {X : Cx} {E : XK} {e a b : Expr} {w w1 w2 : WE} {pos pos2 p p2 p3 : Pos} {i : Nat} {x : Str}
abbrev oPow : OD := oInt CPow fun i j => .int (i ^ j.toNat)
theorem ue_pow (ha : UO X E a w1) (hb : UO X E b w2) : UE X E (.BinOp a .Pow b pos) (wOp oPow w1 w2) := ue_op2 (t := fun a _ => a) (opd_int fun i j dr F => .int _) oInt_mono ha hb (pe_op op_pow ha.pe hb.pe)

/-! ### the list of draws: the script, a number -/
def wDraw0 (i : Nat) : WE := fun env Q _ => env[i]? = some (.fz .drw) ∧ ∀ ns : List Int, ns.length ≤ 63 → Q (.scr ns)
def wDraw1 (i : Nat) : WE := fun env Q _ => env[i]? = some (.fz .drw) ∧ ∀ n : Int, Q (.int n)
theorem slot_drw {K : PySem.W.Frag} {dr sa : Addr} {F H : Hp} {σ : L2.St} {env : En} (S : Sr K dr sa F σ H env) (h : env[i]? = some (.fz .drw)) : σ[i]? = some (some (V.ref dr)) := by
  obtain ⟨v, h1, h2⟩ := S.slot i _ h
  cases h2
  exact h1
theorem ue_draw0 {j} (h : PE X (.Name x p) (tVar i)) : UE X E (.Subscript (.Name x p) (.Constant (.int 0) j p2) pos) (wDraw0 i) :=
  ⟨PE.wk (pe_ix ix_list h pe_int (fun _ _ => rfl)) fun σ H Q ⟨dr, sa, F, env, S, hi, q⟩ => by
    obtain ⟨n, hn⟩ := S.toBs.draw
    obtain ⟨ns, o, h1, h2⟩ := S.toBs.scr
    exact ⟨_, slot_drw S hi, dr, _, 0, .ref sa, rfl, rfl, sqL hn, rfl, q ns h2.2 _ F H (Evo.refl S.toBs) (.scr h1 h2)⟩, fun env Q Q' x x' k _ ⟨hi, q⟩ => ⟨hi, fun ns h => k _ (q ns h)⟩⟩
theorem ue_draw1 {j} (h : PE X (.Name x p) (tVar i)) : UE X E (.Subscript (.Name x p) (.Constant (.int 1) j p2) pos) (wDraw1 i) :=
  ⟨PE.wk (pe_ix ix_list h pe_int (fun _ _ => rfl)) fun σ H Q ⟨dr, sa, F, env, S, hi, q⟩ => by
    obtain ⟨n, hn⟩ := S.toBs.draw
    exact ⟨_, slot_drw S hi, dr, _, 1, .int n, rfl, rfl, sqL hn, rfl, q n _ F H (Evo.refl S.toBs) (.int n)⟩, fun env Q Q' x x' k _ ⟨hi, q⟩ => ⟨hi, fun n => k _ (q n)⟩⟩
/-- xs[1], by values -/
def rGet1 : V → V → Hp → VK → Prop := fun o i H Q => ∃ p x v, o = .ref p ∧ i = .int 1 ∧ H p = some (.lst [x, v]) ∧ Q v H
theorem get_one : PGet X rGet1 := by
  rintro pins s σ H o i ov iv Q I ro ri ⟨p, y, v, rfl, rfl, hq, q⟩
  cases ro
  obtain ⟨t, rfl⟩ := ri
  obtain ⟨its, r, pl, hz⟩ := I.list (sqL hq)
  obtain ⟨u, hu, ru⟩ := r.get (i := 1) rfl
  exact wpAny_getItem_list pl.isList (by decide) (by decide) (by simpa using hu) ⟨v, H, I, ru, q⟩
/-- draw[1] += 1 -/
def wDrawS (i : Nat) : WS := fun D env => env[i]? = some (.fz .drw) ∧ D.nx env
theorem Evo.turn {dr sa : Addr} {F H : Hp} (B : Bs dr sa F H) (n : Int) : Evo dr sa F H F (upd H dr (.lst [.ref sa, .int n])) := by
  obtain ⟨m, hm⟩ := B.draw
  refine ⟨⟨fun y o h => ?_, B.nod, B.ntb, ⟨n, upd_same⟩, B.scr, tabs_but B.tabs hm (fun _ z => nomatch z) (fun _ z => nomatch z)⟩, Sub.refl F, fun y o ne _ h => ?_, fun y ps h => ⟨ps, ?_⟩, fun y o h => .inl ⟨o, h⟩⟩
  · have ne : y ≠ dr := fun z => by
      rw [z, B.nod] at h
      cases h
    rw [upd_ne ne]
    exact B.sub y o h
  · rw [upd_ne ne]
    exact h
  · have ne : y ≠ dr := fun z => by
      rw [z, hm] at h
      cases h
    rw [upd_ne ne]
    exact h
theorem us_drawS {j j2} (h : PE X (.Name x p) (tVar i)) : US X E (.AugAssign (.Subscript (.Name x p) (.Constant (.int 1) j p2) p3) .Add (.Constant (.int 1) j2 pos) pos2) (wDrawS i) :=
  ⟨PS.wk (ps_augS h pe_int get_one pe_int ip_add set_list) fun D σ H ⟨me, dr, sa, F0, H0, F, env, S, hi, q⟩ => by
    obtain ⟨n, hn⟩ := S.toBs.draw
    refine ⟨_, slot_drw S.toSr hi, dr, .ref sa, .int n, rfl, rfl, hn, n, 1, rfl, rfl, dr, [.ref sa, .int n], 1, 1, rfl, rfl, hn, rfl, ?_⟩
    have e := Evo.turn S.toBs (n + 1)
    exact q F σ _ (S.go e) (Sub.refl F), fun D D' env l ⟨hi, q⟩ => ⟨hi, l.nx _ q⟩⟩
/-! ### one dict against another of the same keys and flat values -/
def flatK : D → Bool
  | .non => true
  | .bl _ => true
  | .int _ => true
  | .str _ => true
  | _ => false
theorem flatB_of {K : PySem.W.Frag} {dr : Addr} {F : Hp} {v : V} {d : D} (f : flatK d = true) (r : Rp K dr F v d) : flatB v = true := by
  cases d <;> first | exact absurd f Bool.false_ne_true | (cases r; rfl)
theorem flat_one {K : PySem.W.Frag} {dr : Addr} {F : Hp} {v u : V} {d : D} (f : flatK d = true) (r : Rp K dr F v d) (r2 : Rp K dr F u d) : u = v := by
  cases d <;> first | exact absurd f Bool.false_ne_true | (cases r; cases r2; rfl)
/-- != of two dicts that are alike -/
def oNeDct : OD := fun d1 d2 Q => ∃ ks vs ls us, d1 = .dct ks vs ∧ d2 = .dct ls us ∧ ks.length = ls.length ∧ ks.length = vs.length ∧ (∀ k v, lookD ks vs k = some v → lookD ls us k = some v ∧ flatK v = true) ∧ ks.Nodup ∧ Q (.bl false)
end
end U
/-! V1: readings as functions: a body's reading is a tree of outcomes. -/
namespace U
open PySem PySem.Spec PyProof.Rows L2
variable [Wo]

/-- what comes of it: a value, an error, nothing known, or one of some numbers' worth of ways -/
inductive Tr (α : Type) where
  | ret (a : α)
  | err (c : Str) (ns : List Str) (vs : List D)
  | bad
  | any (n : Nat) (k : Nat → Tr α)
namespace Tr
variable {α β γ : Type}
def sat (Q : α → Prop) (x : XP) : Tr α → Prop
  | .ret a => Q a
  | .err c ns vs => x c ns vs
  | .bad => False
  | .any n k => ∀ i, i < n → (k i).sat Q x
def bind : Tr α → (α → Tr β) → Tr β
  | .ret a, f => f a
  | .err c ns vs, _ => .err c ns vs
  | .bad, _ => .bad
  | .any n k, f => .any n fun i => (k i).bind f
def of : Option α → Tr α
  | some a => .ret a
  | none => .bad
@[simp] theorem bind_ret (a : α) (f : α → Tr β) : (Tr.ret a).bind f = f a := rfl
@[simp] theorem bind_err (c : Str) (ns : List Str) (vs : List D) (f : α → Tr β) : (Tr.err c ns vs).bind f = .err c ns vs := rfl
@[simp] theorem bind_bad (f : α → Tr β) : (Tr.bad).bind f = .bad := rfl
@[simp] theorem bind_any (n : Nat) (k : Nat → Tr α) (f : α → Tr β) : (Tr.any n k).bind f = .any n fun i => (k i).bind f := rfl
@[simp] theorem sat_ret (Q : α → Prop) (x : XP) (a : α) : (Tr.ret a).sat Q x = Q a := rfl
@[simp] theorem sat_err (Q : α → Prop) (x : XP) (c : Str) (ns : List Str) (vs : List D) : (Tr.err c ns vs : Tr α).sat Q x = x c ns vs := rfl
@[simp] theorem sat_bad (Q : α → Prop) (x : XP) : (Tr.bad : Tr α).sat Q x = False := rfl
@[simp] theorem sat_any (Q : α → Prop) (x : XP) (n : Nat) (k : Nat → Tr α) : (Tr.any n k).sat Q x = ∀ i, i < n → (k i).sat Q x := rfl
@[simp] theorem of_some (a : α) : Tr.of (some a) = .ret a := rfl
@[simp] theorem of_none : Tr.of (none : Option α) = .bad := rfl
theorem sat_bind (Q : β → Prop) (x : XP) (f : α → Tr β) : ∀ t : Tr α, (t.bind f).sat Q x ↔ t.sat (fun a => (f a).sat Q x) x
  | .ret a => Iff.rfl
  | .err c ns vs => Iff.rfl
  | .bad => Iff.rfl
  | .any n k => ⟨fun h i hi => (sat_bind Q x f (k i)).mp (h i hi), fun h i hi => (sat_bind Q x f (k i)).mpr (h i hi)⟩
theorem bind_assoc (f : α → Tr β) (g : β → Tr γ) : ∀ t : Tr α, (t.bind f).bind g = t.bind fun a => (f a).bind g
  | .ret a => rfl
  | .err c ns vs => rfl
  | .bad => rfl
  | .any n k => by
    show Tr.any n (fun i => ((k i).bind f).bind g) = Tr.any n fun i => (k i).bind fun a => (f a).bind g
    congr 1
    funext i
    exact bind_assoc f g (k i)
theorem sat_mono {Q Q' : α → Prop} {x x' : XP} (h : ∀ a, Q a → Q' a) (hx : ∀ c n v, x c n v → x' c n v) : ∀ t : Tr α, t.sat Q x → t.sat Q' x'
  | .ret a, q => h a q
  | .err c ns vs, q => hx c ns vs q
  | .bad, q => q
  | .any n k, q => fun i hi => sat_mono h hx (k i) (q i hi)
theorem sat_of {Q : α → Prop} {x : XP} {o : Option α} : (Tr.of o).sat Q x ↔ ∃ a, o = some a ∧ Q a := by
  cases o with
  | none => exact ⟨fun h => h.elim, fun ⟨a, e, _⟩ => nomatch e⟩
  | some a => exact ⟨fun h => ⟨a, rfl, h⟩, fun ⟨b, e, q⟩ => by cases e; exact q⟩
end Tr
open Tr

abbrev FE := En → Tr D
abbrev FT := En → Tr Bool
abbrev FA := En → Tr (List D)
abbrev FO := En → Tr (Option Int)
abbrev FM := En → Tr (List Vl)
/-- the reading that a function tells -/
def wF (f : FE) : WE := fun env Q x => (f env).sat Q x
def wFT (f : FT) : WT := fun env Q x => (f env).sat Q x
def wFA (f : FA) : WA := fun env Q x => (f env).sat Q x
def wFO (f : FO) : WO := fun env Q x => (f env).sat Q x
def wFM (f : FM) : WM := fun env Q x => (f env).sat Q x
abbrev VG (R : RK) (X : Cx) (E : XK) (e : Expr) (f : FE) : Prop := UG R X E e (wF f)
abbrev VE (X : Cx) (E : XK) (e : Expr) (f : FE) : Prop := UE X E e (wF f)
abbrev VO (X : Cx) (E : XK) (e : Expr) (f : FE) : Prop := UO X E e (wF f)
abbrev VF (X : Cx) (E : XK) (e : Expr) (f : FE) : Prop := UF X E e (wF f)
abbrev VT (X : Cx) (E : XK) (e : Expr) (f : FT) : Prop := UT X E e (wFT f)
abbrev VW (X : Cx) (E : XK) (e : Expr) (f : FT) : Prop := UW X E e (wFT f)
abbrev VA (X : Cx) (E : XK) (es : List Expr) (f : FA) : Prop := UA X E es (wFA f)
abbrev VP (X : Cx) (E : XK) (e : Option Expr) (f : FO) : Prop := UP X E e (wFO f)
abbrev VM (X : Cx) (E : XK) (es : List Expr) (f : FM) : Prop := UM X E es (wFM f)
abbrev VI (X : Cx) (E : XK) (tg e : Expr) (f : FA) : Prop := UI X E tg e (wFA f)
theorem wF_mono {f : FE} : ∀ env (Q Q' : D → Prop) (x x' : XP), (∀ d, Q d → Q' d) → (∀ c n v, x c n v → x' c n v) → wF f env Q x → wF f env Q' x' := fun env Q Q' x x' k kx q => sat_mono k kx _ q
section
variable {X : Cx} {E : XK} {e e2 a b c tg : Expr} {es : List Expr} {R : RK} {f f1 f2 f3 : FE} {ft ft2 : FT} {fa : FA} {w : WE} {wt : WT} {wa : WA} {pos p2 : Pos} {x : Str}
/-- a reading by a function that is enough for it -/
theorem UG.v (h : UG R X E e w) (k : ∀ env Q x, (f env).sat Q x → w env Q x) : VG R X E e f :=
  ⟨PE.wk h.pe fun σ H Q ⟨dr, sa, F, env, S, q⟩ => ⟨dr, sa, F, env, S, k _ _ _ q⟩, wF_mono⟩
theorem UF.v (h : UF X E e w) (k : ∀ env Q x, (f env).sat Q x → w env Q x) : VF X E e f :=
  ⟨PE.wk h.pe fun σ H Q ⟨dr, sa, F, env, S, q⟩ => ⟨dr, sa, F, env, S, k _ _ _ q⟩, wF_mono⟩
theorem UT.v (h : UT X E e wt) (k : ∀ env Q x, (ft env).sat Q x → wt env Q x) : VT X E e ft :=
  ⟨PT.wk h.pe fun σ H Q ⟨dr, sa, F, env, S, q⟩ => ⟨dr, sa, F, env, S, k _ _ _ q⟩, fun env Q Q' x x' k kx q => sat_mono k kx _ q⟩
theorem UW.v (h : UW X E e wt) (k : ∀ env Q x, (ft env).sat Q x → wt env Q x) : VW X E e ft :=
  ⟨PW.wk h.pe fun σ H Q ⟨dr, sa, F, env, S, q⟩ => ⟨dr, sa, F, env, S, k _ _ _ q⟩, fun env Q Q' x x' k kx q => sat_mono k kx _ q⟩
theorem UA.v (h : UA X E es wa) (k : ∀ env Q x, (fa env).sat Q x → wa env Q x) : VA X E es fa :=
  ⟨PA.wk h.pe fun σ H Q ⟨dr, sa, F, env, S, q⟩ => ⟨dr, sa, F, env, S, k _ _ _ q⟩, fun env Q Q' x x' k kx q => sat_mono k kx _ q⟩
theorem UP.v {e : Option Expr} {w : WO} {f : FO} (h : UP X E e w) (k : ∀ env Q x, (f env).sat Q x → w env Q x) : VP X E e f :=
  ⟨⟨fun pins s σ H Q I ⟨dr, sa, F, env, S, q⟩ => h.pe.run pins s σ H Q I ⟨dr, sa, F, env, S, k _ _ _ q⟩⟩, fun env Q Q' x x' k kx q => sat_mono k kx _ q⟩
theorem UM.v {w : WM} {f : FM} (h : UM X E es w) (k : ∀ env Q x, (f env).sat Q x → w env Q x) : VM X E es f :=
  ⟨PA.wk h.pe fun σ H Q ⟨dr, sa, F, env, S, q⟩ => ⟨dr, sa, F, env, S, k _ _ _ q⟩, fun env Q Q' x x' k kx q => sat_mono k kx _ q⟩
theorem UI.v {w : WI} (h : UI X E tg e w) (k : ∀ env Q x, (fa env).sat Q x → w env Q x) : VI X E tg e fa :=
  ⟨PI.wk h.pi fun σ H R ⟨dr, sa, F, env, S, q⟩ => ⟨dr, sa, F, env, S, k _ _ _ q⟩, fun env Q Q' x x' k kx q => sat_mono k kx _ q⟩
theorem VE.o (h : VE X E e f) : VO X E e f := UE.o h
theorem VF.ue (h : VF X E e f) : VE X E e f := UF.ue h

/-! ### names, constants -/
def fVar (i : Nat) : FE := fun env => match env[i]? with
  | some (.fz d) => .ret d
  | _ => .bad
theorem ve_var (i : Nat) (h : PE X (.Name x pos) (tVar i)) : VE X E (.Name x pos) (fVar i) := UG.v (ue_var i h) fun env Q z q => by
  unfold fVar at q
  split at q
  · next d e => exact ⟨d, e, q⟩
  · exact q.elim
def fVarO (i : Nat) : FE := fun env => match env[i]? with
  | some (.fz d) => .ret d
  | some (.ow d) => .ret d
  | _ => .bad
theorem vo_var (i : Nat) (h : PE X (.Name x pos) (tVar i)) : VO X E (.Name x pos) (fVarO i) := UG.v (uo_var i h) fun env Q z q => by
  unfold fVarO at q
  split at q
  · next d e => exact ⟨d, .inl e, q⟩
  · next d e => exact ⟨d, .inr e, q⟩
  · exact q.elim
def fC (d : D) : FE := fun _ => .ret d
theorem ve_c {d : D} (h : UE X E e (wC d)) : VE X E e (fC d) := UG.v h fun env Q z q => q
theorem vf_c {d : D} (h : UF X E e (wC d)) : VF X E e (fC d) := UF.v h fun env Q z q => q
theorem ve_int {i j} : VE X E (.Constant (.int i) j pos) (fC (.int i)) := ve_c ue_int
theorem ve_str {z j} : VE X E (.Constant (.str z) j pos) (fC (.str z)) := ve_c ue_str
theorem ve_bl {z j} : VE X E (.Constant (.bool z) j pos) (fC (.bl z)) := ve_c ue_bl
theorem ve_non {j} : VE X E (.Constant .none j pos) (fC .non) := ve_c ue_non

/-! ### operators -/
abbrev OF := D → D → Option D
/-- a function that is enough for an operator's reading -/
def OS (f : OF) (o : OD) : Prop := ∀ a b r Q, f a b = some r → Q r → o a b Q
def fOp (o : OF) (f1 f2 : FE) : FE := fun env => (f1 env).bind fun a => (f2 env).bind fun b => .of (o a b)
theorem fOp_w {o : OF} {w : OD} (h : OS o w) {env : En} {Q : D → Prop} {z : XP} (q : (fOp o f1 f2 env).sat Q z) : wOp w (wF f1) (wF f2) env Q z := by
  unfold fOp at q
  rw [sat_bind] at q
  refine sat_mono (fun d q => ?_) (fun _ _ _ q => q) _ q
  rw [sat_bind] at q
  refine sat_mono (fun d2 q => ?_) (fun _ _ _ q => q) _ q
  obtain ⟨r, e, q⟩ := sat_of.mp q
  exact h _ _ _ _ e q
def foAdd : OF := fun d1 d2 => match d1, d2 with
  | .int i, .int j => some (.int (i + j))
  | .lst xs, .lst ys => if xs.length + ys.length ≤ most then some (.lst (xs ++ ys)) else none
  | .tup xs, .tup ys => if xs.length + ys.length ≤ most then some (.tup (xs ++ ys)) else none
  | .str x, .str y => if x.length + y.length ≤ most then some (.str (x ++ y)) else none
  | _, _ => none
theorem os_add : OS foAdd oAdd := fun a b r Q e q => by
  unfold foAdd at e
  unfold oAdd
  split at e
  · cases e
    exact q
  · split at e
    · next h => cases e; exact ⟨h, q⟩
    · cases e
  · split at e
    · next h => cases e; exact ⟨h, q⟩
    · cases e
  · split at e
    · next h => cases e; exact ⟨h, q⟩
    · cases e
  · cases e
theorem ve_add (ha : VO X E a f1) (hb : VO X E b f2) : VE X E (.BinOp a .Add b pos) (fOp foAdd f1 f2) := UG.v (ue_addU ha hb) fun _ _ _ q => fOp_w os_add q
/-- whole numbers, under a condition -/
def foInt (C : Int → Int → Bool) (g : Int → Int → D) : OF := fun d1 d2 => match d1, d2 with
  | .int i, .int j => if C i j = true then some (g i j) else none
  | _, _ => none
theorem os_int {C : Int → Int → Bool} {P : Int → Int → Prop} {g : Int → Int → D} (h : ∀ i j, C i j = true → P i j) : OS (foInt C g) (oInt P g) := fun a b r Q e q => by
  unfold foInt at e
  split at e
  · split at e
    · next c =>
      cases e
      exact ⟨_, _, rfl, rfl, h _ _ c, q⟩
    · cases e
  · cases e
abbrev yes2 : Int → Int → Bool := fun _ _ => true
abbrev foSub : OF := foInt yes2 fun i j => .int (i - j)
def bMul (i j : Int) : Bool := (decide (-(2 ^ 64) < i) && decide (i < 2 ^ 64)) || (decide (-(2 ^ 64) < j) && decide (j < 2 ^ 64))
abbrev foMul : OF := foInt bMul fun i j => .int (i * j)
def bDiv (i j : Int) : Bool := decide (0 < j) && decide (j < 2 ^ 30)
abbrev foDiv : OF := foInt bDiv fun i j => .int (i / j)
abbrev foMod : OF := foInt (fun _ j => decide (0 < j)) fun i j => .int (i % j)
theorem ve_sub (ha : VO X E a f1) (hb : VO X E b f2) : VE X E (.BinOp a .Sub b pos) (fOp foSub f1 f2) := UG.v (ue_sub ha hb) fun _ _ _ q => fOp_w (os_int fun _ _ _ => trivial) q
theorem ve_mul (ha : VO X E a f1) (hb : VO X E b f2) : VE X E (.BinOp a .Mult b pos) (fOp foMul f1 f2) := UG.v (ue_mul ha hb) fun _ _ _ q => fOp_w (os_int fun i j h => by
  unfold bMul at h
  simpa [CMul] using h) q
theorem ve_div (ha : VO X E a f1) (hb : VO X E b f2) : VE X E (.BinOp a .FloorDiv b pos) (fOp foDiv f1 f2) := UG.v (ue_div ha hb) fun _ _ _ q => fOp_w (os_int fun i j h => by
  unfold bDiv at h
  simpa [CDiv] using h) q
theorem ve_mod (ha : VO X E a f1) (hb : VO X E b f2) : VE X E (.BinOp a .Mod b pos) (fOp foMod f1 f2) := UG.v (ue_mod ha hb) fun _ _ _ q => fOp_w (os_int fun i j h => of_decide_eq_true h) q
end
end U
/-! V2: comparisons, tests, displays, subscripts, slices, fields. -/
namespace U
open PySem PySem.Spec PyProof.Rows L2 Tr
variable [Wo]
section
variable {X : Cx} {E : XK} {e e2 a b c tg : Expr} {es rest : List Expr} {R : RK} {f f1 f2 f3 : FE} {ft ft2 : FT} {fa : FA} {pos p2 : Pos} {x : Str}
/-! ### comparisons -/
abbrev foLt : OF := foInt yes2 fun i j => .bl (decide (i < j))
abbrev foLe : OF := foInt yes2 fun i j => .bl (decide (i ≤ j))
abbrev foGt : OF := foInt yes2 fun i j => .bl (decide (j < i))
abbrev foGe : OF := foInt yes2 fun i j => .bl (decide (j ≤ i))
def foEq : OF := fun d1 d2 => if cmp d1 = true ∧ cmp d2 = true then some (.bl (eqD d1 d2)) else none
def foNe : OF := fun d1 d2 => if cmp d1 = true ∧ cmp d2 = true then some (.bl (!eqD d1 d2)) else none
/-- the key that data is -/
def keyD : D → Option Key
  | .int i => some (.inl i)
  | .str z => some (.inr z)
  | _ => none
theorem keyD_eq {d : D} {k : Key} (h : keyD d = some k) : d = kD k := by
  cases d <;> simp only [keyD, reduceCtorEq, Option.some.injEq] at h <;> subst h <;> rfl
theorem keyD_kD (k : Key) : keyD (kD k) = some k := by cases k <;> rfl
def foInB (g : Bool → Bool) : OF := fun d1 d2 => match d2 with
  | .lst xs => if cmp d1 = true ∧ cmp (.lst xs) = true then some (.bl (g (xs.any fun z => eqD z d1))) else none
  | .tup xs => if flatD d1 = true ∧ xs.all flatD = true then some (.bl (g (xs.any fun z => eqD z d1))) else none
  | .dct ks vs => (keyD d1).map fun k => .bl (g (lookD ks vs k).isSome)
  | .dcT ks vs => (nkT d1).map fun k => .bl (g (lookT ks vs k).isSome)
  | .str z => match d1 with
    | .str u => match u.cps.toList with
      | [c] => some (.bl (g (decide (c ∈ z.cps.toList))))
      | _ => none
    | _ => none
  | _ => none
abbrev foIn : OF := foInB id
abbrev foNotIn : OF := foInB not
theorem os_inB (g : Bool → Bool) : OS (foInB g) (oInB g) := fun a b r Q e q => by
  unfold foInB at e
  unfold oInB
  split at e
  · split at e
    · next h => cases e; exact ⟨h.1, h.2, q⟩
    · cases e
  · split at e
    · next h => cases e; exact ⟨h.1, h.2, q⟩
    · cases e
  · cases h : keyD a with
    | none => rw [h] at e; cases e
    | some k => rw [h] at e; cases e; exact ⟨k, keyD_eq h, q⟩
  · cases h : nkT a with
    | none => rw [h] at e; cases e
    | some k => rw [h] at e; cases e; exact ⟨k, rfl, q⟩
  · split at e
    · next u =>
      split at e
      · next c h =>
        cases e
        exact ⟨c, by
          obtain ⟨arr⟩ := u
          have h : arr.toList = [c] := h
          congr 2
          exact Array.toList_inj.mp (by rw [h]), q⟩
      · cases e
    · cases e
  · cases e
def foIs (g : Bool → Bool) : OF := fun d1 d2 => match d2 with
  | .non => some (.bl (g (isN d1)))
  | _ => none
/-- a comparison's rule over a function -/
structure CmpV (X : Cx) (op : CmpOp) (f : OF) : Prop where
  h : ∃ r o, CmpU X op r o ∧ OS f o
theorem cv_lt : CmpV X .Lt foLt := ⟨_, _, cu_lt, os_int fun _ _ _ => trivial⟩
theorem cv_le : CmpV X .LtE foLe := ⟨_, _, cu_le, os_int fun _ _ _ => trivial⟩
theorem cv_gt : CmpV X .Gt foGt := ⟨_, _, cu_gt, os_int fun _ _ _ => trivial⟩
theorem cv_ge : CmpV X .GtE foGe := ⟨_, _, cu_ge, os_int fun _ _ _ => trivial⟩
theorem cv_eq (hu : X.A.units + 64 < cLine) : CmpV X .Eq foEq := ⟨_, _, cu_eq hu, fun a b r Q e q => by
  unfold foEq at e
  split at e
  · next h => cases e; exact ⟨h.1, h.2, q⟩
  · cases e⟩
theorem cv_ne (hu : X.A.units + 64 < cLine) : CmpV X .NotEq foNe := ⟨_, _, cu_ne hu, fun a b r Q e q => by
  unfold foNe at e
  split at e
  · next h => cases e; exact ⟨h.1, h.2, q⟩
  · cases e⟩
theorem cv_in (hw : X.w = Wo.w) (hu : X.A.units + 65 < cLine) : CmpV X .In foIn := ⟨_, _, cu_in hw hu, os_inB _⟩
theorem cv_notIn (hw : X.w = Wo.w) (hu : X.A.units + 65 < cLine) : CmpV X .NotIn foNotIn := ⟨_, _, cu_notIn hw hu, os_inB _⟩
theorem os_is (g : Bool → Bool) : OS (foIs g) (oIs g) := fun a b r Q e q => by
  unfold foIs at e
  split at e
  · cases e; exact ⟨rfl, q⟩
  · cases e
theorem cv_is : CmpV X .Is (foIs id) := ⟨_, _, cu_is, os_is _⟩
theorem cv_isNot : CmpV X .IsNot (foIs not) := ⟨_, _, cu_isNot, os_is _⟩
theorem ve_cmp {op : CmpOp} {o : OF} (cv : CmpV X op o) (ha : VO X E a f1) (hb : VO X E b f2) (hm : behindInMarks op b = false) : VE X E (.Compare a [op] [b] pos) (fOp o f1 f2) := by
  obtain ⟨r, w, cu, os⟩ := cv
  exact UG.v (ue_cmp cu ha hb hm) fun _ _ _ q => fOp_w os q
/-! ### tests -/
def isBl : D → Tr Bool
  | .bl k => .ret k
  | _ => .bad
theorem isBl_w {d : D} {Q : Bool → Prop} {z : XP} (q : (isBl d).sat Q z) : isB Q d := by
  unfold isBl at q
  split at q
  · exact ⟨_, rfl, q⟩
  · exact q.elim
def fT (f : FE) : FT := fun env => (f env).bind isBl
theorem fT_w {env : En} {Q : Bool → Prop} {z : XP} (q : (fT f env).sat Q z) : wT (wF f) env Q z := by
  unfold fT at q
  rw [sat_bind] at q
  exact sat_mono (fun d q => isBl_w q) (fun _ _ _ q => q) _ q
theorem vt_val (h : VE X E e f) (he : ∀ whole, isTrue e X.env whole = (do let v ← whole; standAt e.pos; holding [v] (truthy v)) := by intro _; rfl) : VT X E e (fT f) := UT.v (ut_val h he) fun _ _ _ q => fT_w q
theorem wT_of {w : WE} (h : UE X E e w) (k : ∀ env Q z, (f env).sat Q z → w env Q z) {env : En} {Q : Bool → Prop} {z : XP} (q : (fT f env).sat Q z) : wT w env Q z := by
  unfold fT at q
  rw [sat_bind] at q
  exact h.mono _ _ _ _ _ (fun d q => isBl_w q) (fun _ _ _ q => q) (k _ _ _ q)
theorem vt_cmp {op : CmpOp} {o : OF} (cv : CmpV X op o) (ha : VO X E a f1) (hb : VO X E b f2) (hm : behindInMarks op b = false) : VT X E (.Compare a [op] [b] pos) (fT (fOp o f1 f2)) := by
  obtain ⟨r, w, cu, os⟩ := cv
  exact UT.v (ut_cmp cu ha hb hm) fun _ _ _ q => wT_of (ue_cmp (pos := pos) cu ha hb hm) (fun _ _ _ q => fOp_w os q) q
def fNot (t : FT) : FT := fun env => (t env).bind fun k => .ret (!k)
theorem vt_not (h : VT X E a ft) : VT X E (.UnaryOp .Not a pos) (fNot ft) := UT.v (ut_not h) fun env Q z q => by
  unfold fNot at q
  rw [sat_bind] at q
  exact q
def fAnd (t u : FT) : FT := fun env => (t env).bind fun k => if k = true then u env else .ret false
def fOr (t u : FT) : FT := fun env => (t env).bind fun k => if k = true then .ret true else u env
theorem UW.t' (h : VW X E e ft) : VT X E e ft := UW.t h
theorem vw_and1 (h : VT X E a ft) : VW X E (.BoolOp .And [a] pos) ft := uw_and1 h
theorem vw_or1 (h : VT X E a ft) : VW X E (.BoolOp .Or [a] pos) ft := uw_or1 h
theorem vw_and (ha : VT X E a ft) (hb : VW X E (.BoolOp .And (b :: rest) pos) ft2) : VW X E (.BoolOp .And (a :: b :: rest) pos) (fAnd ft ft2) := UW.v (uw_and ha hb) fun env Q z q => by
  unfold fAnd at q
  rw [sat_bind] at q
  refine sat_mono (fun k q => ?_) (fun _ _ _ q => q) _ q
  cases k <;> exact q
theorem vw_or (ha : VT X E a ft) (hb : VW X E (.BoolOp .Or (b :: rest) pos) ft2) : VW X E (.BoolOp .Or (a :: b :: rest) pos) (fOr ft ft2) := UW.v (uw_or ha hb) fun env Q z q => by
  unfold fOr at q
  rw [sat_bind] at q
  refine sat_mono (fun k q => ?_) (fun _ _ _ q => q) _ q
  cases k <;> exact q
def fAndV (f1 f2 : FE) : FE := fun env => (f1 env).bind fun d => (isBl d).bind fun k => if k = true then f2 env else .ret (.bl false)
def fOrV (f1 f2 : FE) : FE := fun env => (f1 env).bind fun d => (isBl d).bind fun k => if k = true then .ret (.bl true) else f2 env
def fNotV (f1 : FE) : FE := fun env => (f1 env).bind fun d => (isBl d).bind fun k => .ret (.bl (!k))
theorem isBl_sat {d : D} {α : Type} {g : Bool → Tr α} {Q : α → Prop} {z : XP} (q : ((isBl d).bind g).sat Q z) : ∃ k, d = .bl k ∧ (g k).sat Q z := by
  rw [sat_bind] at q
  exact isBl_w q
theorem ve_one {op : BoolOp} (h : VE X E a f) : VE X E (.BoolOp op [a] pos) f := ue_one h
theorem ve_and (ha : VE X E a f1) (hb : VE X E (.BoolOp .And (b :: rest) pos) f2) : VE X E (.BoolOp .And (a :: b :: rest) pos) (fAndV f1 f2) := UG.v (ue_and ha hb) fun env Q z q => by
  unfold fAndV at q
  rw [sat_bind] at q
  refine sat_mono (fun d q => ?_) (fun _ _ _ q => q) _ q
  obtain ⟨k, e, q⟩ := isBl_sat q
  exact ⟨k, e, by cases k <;> exact q⟩
theorem ve_or (ha : VE X E a f1) (hb : VE X E (.BoolOp .Or (b :: rest) pos) f2) : VE X E (.BoolOp .Or (a :: b :: rest) pos) (fOrV f1 f2) := UG.v (ue_or ha hb) fun env Q z q => by
  unfold fOrV at q
  rw [sat_bind] at q
  refine sat_mono (fun d q => ?_) (fun _ _ _ q => q) _ q
  obtain ⟨k, e, q⟩ := isBl_sat q
  exact ⟨k, e, by cases k <;> exact q⟩
theorem ve_not (ha : VE X E a f1) : VE X E (.UnaryOp .Not a pos) (fNotV f1) := UG.v (ue_not ha) fun env Q z q => by
  unfold fNotV at q
  rw [sat_bind] at q
  refine sat_mono (fun d q => ?_) (fun _ _ _ q => q) _ q
  obtain ⟨k, e, q⟩ := isBl_sat q
  exact ⟨k, e, q⟩
def fIf (t : FT) (f1 f2 : FE) : FE := fun env => (t env).bind fun k => if k = true then f1 env else f2 env
theorem ve_if (hc : VT X E c ft) (ha : VE X E a f1) (hb : VE X E b f2) : VE X E (.IfExp c a b pos) (fIf ft f1 f2) := UG.v (ue_if hc ha hb) fun env Q z q => by
  unfold fIf at q
  rw [sat_bind] at q
  refine sat_mono (fun k q => ?_) (fun _ _ _ q => q) _ q
  cases k <;> exact q
/-! ### displays -/
def faNil : FA := fun _ => .ret []
def faCons (f : FE) (r : FA) : FA := fun env => (f env).bind fun d => (r env).bind fun ds => .ret (d :: ds)
def seqD : D → Option (List D)
  | .tup xs => some xs
  | .lst xs => some xs
  | _ => none
theorem seqD_eq {d : D} {xs : List D} (h : seqD d = some xs) : d = .tup xs ∨ d = .lst xs := by
  cases d <;> simp only [seqD, reduceCtorEq, Option.some.injEq] at h <;> subst h
  · exact .inl rfl
  · exact .inr rfl
def faStar (f : FE) (r : FA) : FA := fun env => (f env).bind fun d => (Tr.of (seqD d)).bind fun xs => (r env).bind fun ds => .ret (xs ++ ds)
theorem va_nil : VA X E [] faNil := UA.v ua_nil fun _ _ _ q => q
theorem va_cons (h : VE X E e f) (r : VA X E es fa) (hs : starEach (e :: es) X.env = (false, eval e X.env) :: starEach es X.env := by rfl) : VA X E (e :: es) (faCons f fa) := UA.v (ua_cons h r hs) fun env Q z q => by
  unfold faCons at q
  rw [sat_bind] at q
  refine sat_mono (fun d q => ?_) (fun _ _ _ q => q) _ q
  rw [sat_bind] at q
  exact q
theorem va_star {p : Pos} (h : VO X E e f) (r : VA X E es fa) (hs : starEach (.Starred e p :: es) X.env = (true, eval e X.env) :: starEach es X.env := by rfl) : VA X E (.Starred e p :: es) (faStar f fa) := UA.v (ua_star h r hs) fun env Q z q => by
  unfold faStar at q
  rw [sat_bind] at q
  refine sat_mono (fun d q => ?_) (fun _ _ _ q => q) _ q
  rw [sat_bind] at q
  obtain ⟨xs, e, q⟩ := sat_of.mp q
  rw [sat_bind] at q
  exact ⟨xs, seqD_eq e, q⟩
def few {α β : Type} (ds : List α) (b : β) : Tr β := if ds.length ≤ most then .ret b else .bad
theorem few_w {α β : Type} {ds : List α} {b : β} {Q : β → Prop} {z : XP} (q : (few ds b).sat Q z) : ds.length ≤ most ∧ Q b := by
  unfold few at q
  split at q
  · next h => exact ⟨h, q⟩
  · exact q.elim
def fTup (r : FA) : FE := fun env => (r env).bind fun ds => few ds (.tup ds)
def fLst (r : FA) : FE := fun env => (r env).bind fun ds => few ds (.lst ds)
theorem ve_tup {x1 : Nat} (r : VA X E es fa) : VE X E (.Tuple es x1 pos) (fTup fa) := UG.v (ue_tup r) fun env Q z q => by
  unfold fTup at q
  rw [sat_bind] at q
  exact sat_mono (fun d q => few_w q) (fun _ _ _ q => q) _ q
theorem vf_lst (r : VA X E es fa) : VF X E (.List es pos) (fLst fa) := UF.v (uf_lst r) fun env Q z q => by
  unfold fLst at q
  rw [sat_bind] at q
  exact sat_mono (fun d q => few_w q) (fun _ _ _ q => q) _ q
/-! ### a[b], slices, o.f, chains -/
def foIx : OF := fun d1 d2 => match d1, d2 with
  | .lst xs, .int i => atI xs i
  | .tup xs, .int i => atI xs i
  | .scr ns, .int i => (atI ns i).map .int
  | .str z, .int i => if z.length ≤ most then (atI z.cps.toList i).map fun c => .str ⟨#[c]⟩ else none
  | .dct ks vs, d => (keyD d).bind fun k => lookD ks vs k
  | .dcT ks vs, d => (nkT d).bind fun k => lookT ks vs k
  | _, _ => none
theorem os_ix : OS foIx oIx := fun a b r Q e q => by
  unfold foIx at e
  unfold oIx
  split at e
  · exact ⟨_, _, rfl, e, q⟩
  · exact ⟨_, _, rfl, e, q⟩
  · next ns i =>
    cases h : atI ns i with
    | none => rw [h] at e; cases e
    | some n => rw [h] at e; cases e; exact ⟨_, _, rfl, h, q⟩
  · next z i =>
    split at e
    · next hl =>
      cases h : atI z.cps.toList i with
      | none => rw [h] at e; cases e
      | some n => rw [h] at e; cases e; exact ⟨_, _, rfl, hl, h, q⟩
    · cases e
  · cases h : keyD b with
    | none => rw [h] at e; cases e
    | some k => rw [h] at e; exact ⟨k, _, keyD_eq h, e, q⟩
  · cases h : nkT b with
    | none => rw [h] at e; cases e
    | some k => rw [h] at e; exact ⟨k, _, rfl, e, q⟩
  · cases e
theorem ve_ix (hw : X.w = Wo.w) (hu : X.A.units + 64 < cLine) (ha : VO X E a f1) (hb : VO X E b f2) (hs : PlainIx b) : VE X E (.Subscript a b pos) (fOp foIx f1 f2) := UG.v (ue_ix hw hu ha hb hs) fun _ _ _ q => fOp_w os_ix q
def intD : D → Tr Int
  | .int i => .ret i
  | _ => .bad
theorem intD_sat {d : D} {α : Type} {g : Int → Tr α} {Q : α → Prop} {z : XP} (q : ((intD d).bind g).sat Q z) : ∃ k, d = .int k ∧ (g k).sat Q z := by
  cases d <;> first | exact q.elim | exact ⟨_, rfl, q⟩
def foNone : FO := fun _ => .ret none
def foSome (f : FE) : FO := fun env => (f env).bind fun d => (intD d).bind fun i => .ret (some i)
theorem vp_none : VP X E none foNone := UP.v up_none fun _ _ _ q => q
theorem vp_some (h : VE X E e f) : VP X E (some e) (foSome f) := UP.v (up_some h) fun env Q z q => by
  unfold foSome at q
  rw [sat_bind] at q
  exact sat_mono (fun d q => intD_sat q) (fun _ _ _ q => q) _ q
def cutF (d : D) (l u : Option Int) : Option D := match d with
  | .lst xs => some (.lst (cutD xs l u))
  | .tup xs => some (.tup (cutD xs l u))
  | _ => none
def fCut (f : FE) (lo hi : FO) : FE := fun env => (f env).bind fun d => (lo env).bind fun l => (hi env).bind fun u => .of (cutF d l u)
theorem ve_cut {lo hi : Option Expr} {fl fh : FO} (ha : VO X E a f) (hl : VP X E lo fl) (hh : VP X E hi fh) : VE X E (.Subscript a (.Slice lo hi none p2) pos) (fCut f fl fh) := UG.v (ue_cut ha hl hh) fun env Q z q => by
  unfold fCut at q
  rw [sat_bind] at q
  refine sat_mono (fun d q => ?_) (fun _ _ _ q => q) _ q
  rw [sat_bind] at q
  refine sat_mono (fun l q => ?_) (fun _ _ _ q => q) _ q
  rw [sat_bind] at q
  refine sat_mono (fun u q => ?_) (fun _ _ _ q => q) _ q
  obtain ⟨r, e, q⟩ := sat_of.mp q
  unfold cutF at e
  split at e <;> first | (cases e; exact q) | cases e
def fldF (cs : List Str) (f : Str) (d : D) : Option D := match d with
  | .ins c ns vs => if c ∈ cs then lookF ns vs f else none
  | _ => none
def fFld (cs : List Str) (n : Str) (f : FE) : FE := fun env => (f env).bind fun d => .of (fldF cs n d)
theorem ve_fld (cs : List Str) {n : Str} (hc : ∀ c ∈ cs, Cls X.K (He.ga X.K c) ∧ NoAttr X.K (He.ga X.K c) n) (h : VO X E e f) (hb : attributeBase e n X.env (eval e X.env) = eval e X.env := by rfl) : VE X E (.Attribute e n pos) (fFld cs n f) := UG.v (ue_fld cs hc h hb) fun env Q z q => by
  unfold fFld at q
  rw [sat_bind] at q
  refine sat_mono (fun d q => ?_) (fun _ _ _ q => q) _ q
  obtain ⟨r, e, q2⟩ := sat_of.mp q
  unfold fldF at e
  split at e
  · split at e
    · next h => exact ⟨_, _, _, r, rfl, h, e, q2⟩
    · cases e
  · cases e
def fChain (o o2 : OF) (f1 f2 f3 : FE) : FE := fun env => (f1 env).bind fun d1 => (f2 env).bind fun d2 => (Tr.of (o d1 d2)).bind fun d => (isBl d).bind fun k => if k = true then (f3 env).bind fun d3 => .of (o2 d2 d3) else .ret (.bl false)
theorem fChain_w {o o2 : OF} {w w2 : OD} (h : OS o w) (h2 : OS o2 w2) {env : En} {Q : D → Prop} {z : XP} (q : (fChain o o2 f1 f2 f3 env).sat Q z) : wChain w w2 (wF f1) (wF f2) (wF f3) env Q z := by
  unfold fChain at q
  rw [sat_bind] at q
  refine sat_mono (fun d q => ?_) (fun _ _ _ q => q) _ q
  rw [sat_bind] at q
  refine sat_mono (fun d2 q => ?_) (fun _ _ _ q => q) _ q
  rw [sat_bind] at q
  obtain ⟨r, e, q⟩ := sat_of.mp q
  refine h _ _ _ _ e ?_
  obtain ⟨k, ek, q⟩ := isBl_sat q
  refine ⟨k, ek, ?_⟩
  cases k
  · exact q
  · have q : ((f3 env).bind fun d3 => Tr.of (o2 d2 d3)).sat Q z := q
    rw [sat_bind] at q
    refine sat_mono (fun d3 q => ?_) (fun _ _ _ q => q) _ q
    obtain ⟨r2, e2, q⟩ := sat_of.mp q
    exact h2 _ _ _ _ e2 q
theorem ve_chain {op op2 : CmpOp} {o o2 : OF} (cv : CmpV X op o) (cv2 : CmpV X op2 o2) (ha : VO X E a f1) (hb : VO X E b f2) (hc : VO X E c f3) (hm : lastMarks [op, op2] [b, c] = false := by with_unfolding_all rfl) : VE X E (.Compare a [op, op2] [b, c] pos) (fChain o o2 f1 f2 f3) := by
  obtain ⟨r, w, cu, os⟩ := cv
  obtain ⟨r2, w2, cu2, os2⟩ := cv2
  exact UG.v (ue_chain cu cu2 ha hb hc hm) fun _ _ _ q => fChain_w os os2 q
theorem vt_chain {op op2 : CmpOp} {o o2 : OF} (cv : CmpV X op o) (cv2 : CmpV X op2 o2) (ha : VO X E a f1) (hb : VO X E b f2) (hc : VO X E c f3) (hm : lastMarks [op, op2] [b, c] = false := by with_unfolding_all rfl) : VT X E (.Compare a [op, op2] [b, c] pos) (fT (fChain o o2 f1 f2 f3)) := by
  obtain ⟨r, w, cu, os⟩ := cv
  obtain ⟨r2, w2, cu2, os2⟩ := cv2
  exact UT.v (ut_chain cu cu2 ha hb hc hm) fun _ _ _ q => wT_of (ue_chain (pos := pos) cu cu2 ha hb hc hm) (fun _ _ _ q => fChain_w os os2 q) q
def fNeg (f : FE) : FE := fun env => (f env).bind fun d => (intD d).bind fun i => .ret (.int (-i))
theorem ve_neg (h : VE X E e f) : VE X E (.UnaryOp .USub e pos) (fNeg f) := UG.v (ue_neg h) fun env Q z q => by
  unfold fNeg at q
  rw [sat_bind] at q
  exact sat_mono (fun d q => intD_sat q) (fun _ _ _ q => q) _ q
def bPow (i j : Int) : Bool := decide (0 ≤ j) && decide (j ≤ 1000000) && decide (i.natAbs < 2 ^ 64)
abbrev foPow : OF := foInt bPow fun i j => .int (i ^ j.toNat)
theorem ve_pow (ha : VO X E a f1) (hb : VO X E b f2) : VE X E (.BinOp a .Pow b pos) (fOp foPow f1 f2) := UG.v (ue_pow ha hb) fun _ _ _ q => fOp_w (os_int fun i j h => by
  unfold bPow at h
  simpa [CPow, and_assoc] using h) q
end
end U
/-! V3: sorting; calls; built-ins. -/
namespace U
open PySem PySem.Spec PyProof.Rows L2 Tr
variable [Wo]
/-! ### sorting, by an order that is total -/
section
variable {α : Type}
def insBy (le : α → α → Bool) (a : α) : List α → List α
  | [] => [a]
  | b :: r => if le a b = true then a :: b :: r else b :: insBy le a r
def sortBy (le : α → α → Bool) : List α → List α
  | [] => []
  | a :: r => insBy le a (sortBy le r)
theorem insBy_perm (le : α → α → Bool) (a : α) : ∀ l, (insBy le a l).Perm (a :: l)
  | [] => List.Perm.refl _
  | b :: r => by
    unfold insBy
    split
    · exact List.Perm.refl _
    · exact ((insBy_perm le a r).cons b).trans (List.Perm.swap a b r)
theorem sortBy_perm (le : α → α → Bool) : ∀ l, (sortBy le l).Perm l
  | [] => List.Perm.refl _
  | a :: r => (insBy_perm le a _).trans ((sortBy_perm le r).cons a)
/-- a total order on what is to be sorted -/
structure TotO (le : α → α → Bool) : Prop where
  tot : ∀ a b, le a b = true ∨ le b a = true
  tr : ∀ a b c, le a b = true → le b c = true → le a c = true
  anti : ∀ a b, le a b = true → le b a = true → a = b
abbrev Srt (le : α → α → Bool) (l : List α) : Prop := l.Pairwise fun a b => le a b = true
theorem insBy_srt {le : α → α → Bool} (o : TotO le) (a : α) : ∀ l, Srt le l → Srt le (insBy le a l)
  | [], _ => List.pairwise_singleton _ _
  | b :: r, h => by
    obtain ⟨h1, h2⟩ := List.pairwise_cons.mp h
    unfold insBy
    split
    · next q =>
      refine List.pairwise_cons.mpr ⟨fun c hc => ?_, h⟩
      rcases List.mem_cons.mp hc with rfl | hc
      · exact q
      · exact o.tr _ _ _ q (h1 c hc)
    · next q =>
      refine List.pairwise_cons.mpr ⟨fun c hc => ?_, insBy_srt o a r h2⟩
      rcases List.mem_cons.mp ((insBy_perm le a r).mem_iff.mp hc) with rfl | hc
      · rcases o.tot b c with z | z
        · exact z
        · exact absurd z q
      · exact h1 c hc
theorem sortBy_srt {le : α → α → Bool} (o : TotO le) : ∀ l, Srt le (sortBy le l)
  | [] => List.Pairwise.nil
  | a :: r => insBy_srt o a _ (sortBy_srt o r)
theorem srt_one {le : α → α → Bool} (o : TotO le) : ∀ l m : List α, l.Perm m → Srt le l → Srt le m → l = m
  | [], m, p, _, _ => by rw [List.nil_perm.mp p]
  | a :: r, [], p, _, _ => absurd (List.perm_nil.mp p) (List.cons_ne_nil _ _)
  | a :: r, b :: t, p, h, g => by
    obtain ⟨h1, h2⟩ := List.pairwise_cons.mp h
    obtain ⟨g1, g2⟩ := List.pairwise_cons.mp g
    have e : a = b := by
      rcases List.mem_cons.mp (p.mem_iff.mp (List.mem_cons_self ..)) with q | q
      · exact q
      · rcases List.mem_cons.mp (p.mem_iff.mpr (List.mem_cons_self ..)) with q2 | q2
        · exact q2.symm
        · exact o.anti _ _ (h1 _ q2) (g1 _ q)
    subst e
    rw [srt_one o r t ((List.perm_cons a).mp p) h2 g2]
theorem sortBy_one {le : α → α → Bool} (o : TotO le) {l m : List α} (p : l.Perm m) (h : Srt le l) : l = sortBy le m := srt_one o _ _ (p.trans (sortBy_perm le m).symm) h (sortBy_srt o m)
end
def leS (a b : Str) : Bool := !ltCps b.cps.toList a.cps.toList
theorem leS_eq (a b : Str) : leS a b = true ↔ a.cps.toList ≤ b.cps.toList := by
  unfold leS
  rw [ltCps_eq, Bool.not_eq_true', decide_eq_false_iff_not]
  exact List.not_lt
theorem totS : TotO leS where
  tot := fun a b => by
    rw [leS_eq, leS_eq]
    exact List.le_total _ _
  tr := fun a b c => by
    rw [leS_eq, leS_eq, leS_eq]
    exact fun h g => List.le_trans h g
  anti := fun a b => by
    rw [leS_eq, leS_eq]
    intro h g
    have e := List.le_antisymm h g
    obtain ⟨x⟩ := a
    obtain ⟨y⟩ := b
    congr 1
    exact Array.toList_inj.mp e
theorem risingS_srt : ∀ (p : Str) (l : List Str), risingS p l = true → Srt leS (p :: l)
  | p, [], _ => List.pairwise_singleton _ _
  | p, x :: r, h => by
    unfold risingS at h
    obtain ⟨h1, h2⟩ := ba h
    have ih := risingS_srt x r h2
    refine List.pairwise_cons.mpr ⟨fun c hc => ?_, ih⟩
    have e : leS p x = true := h1
    rcases List.mem_cons.mp hc with rfl | hc
    · exact e
    · exact totS.tr _ _ _ e ((List.pairwise_cons.mp ih).1 c hc)
theorem sortedS_srt : ∀ l : List Str, sortedS l = true → Srt leS l
  | [], _ => List.Pairwise.nil
  | p :: l, h => risingS_srt p l h
theorem sortS_of {ys zs : List Str} (p : ys.Perm zs) (h : sortedS ys = true) : ys = sortBy leS zs := sortBy_one totS p (sortedS_srt _ h)

/-! ### calls -/
abbrev FR := List D → Tr D
def fwOf (f : FR) : FW := fun ds Q x => (f ds).sat Q x
theorem fwOf_mono (f : FR) : FMono (fwOf f) := fun ds Q Q' x x' k kx q => sat_mono k kx _ q
section
variable {X : Cx} {E : XK} {e e2 a b c tg : Expr} {es rest : List Expr} {R : RK} {f f1 f2 f3 : FE} {g : FR} {ft ft2 : FT} {fa : FA} {pos p2 p apos : Pos} {x m : Str} {k j n : Nat}
def fCall (n : Nat) (g : FR) (fa : FA) : FE := fun env => (fa env).bind fun ds => if ds.length = n then g ds else .bad
theorem fCall_w {env : En} {Q : D → Prop} {z : XP} (q : (fCall n g fa env).sat Q z) : wCall n (fwOf g) (wFA fa) env Q z := by
  unfold fCall at q
  rw [sat_bind] at q
  refine sat_mono (fun ds q => ?_) (fun _ _ _ q => q) _ q
  by_cases h : ds.length = n
  · rw [if_pos h] at q
    exact ⟨h, q⟩
  · rw [if_neg h] at q
    exact q.elim
theorem ve_call (c : Ctx j X E) (f : Fn (wd X) k x n (fwOf g)) (hk : k ≤ j) (hg : Gl X x) (ha : VA X E (e :: es) fa) (hdb : (x == ("__debug__" : Str)) = false := by decide) (he : starEach (e :: es) X.env = (false, eval e X.env) :: starEach es X.env := by rfl) (hpl : (backTo pos (starEach es X.env)).any (·.1) = false := by rfl) :
    VE X E (.Call (.Name x p) (e :: es) [] pos) (fCall n g fa) := UG.v (ue_call c f hk hg ha hdb he hpl) fun _ _ _ q => fCall_w q
theorem ve_call0 (c : Ctx j X E) (f : Fn (wd X) k x n (fwOf g)) (hk : k ≤ j) (hg : Gl X x) (hdb : (x == ("__debug__" : Str)) = false := by decide) : VE X E (.Call (.Name x p) [] [] pos) (fCall n g faNil) := UG.v (ue_call0 c f hk hg hdb) fun _ _ _ q => fCall_w q
theorem ve_make {cl : Str} (c : Ctx j X E) (f : Mkr (wd X) k cl n (fwOf g)) (hk : k + 1 ≤ j) (hg : Gl X cl) (ha : VA X E (e :: es) fa) (hdb : (cl == ("__debug__" : Str)) = false := by decide) (he : starEach (e :: es) X.env = (false, eval e X.env) :: starEach es X.env := by rfl) (hpl : (backTo pos (starEach es X.env)).any (·.1) = false := by rfl) :
    VE X E (.Call (.Name cl p) (e :: es) [] pos) (fCall n g fa) := UG.v (ue_make c f hk hg ha hdb he hpl) fun _ _ _ q => fCall_w q
/-- the instance that a method is asked of -/
def insOf (cl m : Str) : D → Tr D
  | .ins c ns vs => if c = cl ∧ m ∉ ns then .ret (.ins c ns vs) else .bad
  | _ => .bad
theorem insOf_sat {cl m : Str} {d : D} {α : Type} {h : D → Tr α} {Q : α → Prop} {z : XP} (q : ((insOf cl m d).bind h).sat Q z) : ∃ ns vs, d = .ins cl ns vs ∧ m ∉ ns ∧ (h d).sat Q z := by
  cases d with
  | ins c ns vs =>
    have q : ((if c = cl ∧ m ∉ ns then Tr.ret (D.ins c ns vs) else Tr.bad).bind h).sat Q z := q
    by_cases k : c = cl ∧ m ∉ ns
    · rw [if_pos k] at q
      exact ⟨_, _, by rw [k.1], k.2, q⟩
    · rw [if_neg k] at q
      exact q.elim
  | _ => exact q.elim
def fMeth (cl m : Str) (n : Nat) (g : FR) (f : FE) (fa : FA) : FE := fun env => (f env).bind fun d => (insOf cl m d).bind fun d => (fa env).bind fun ds => if (d :: ds).length = n then g (d :: ds) else .bad
theorem fMeth_w {cl : Str} {env : En} {Q : D → Prop} {z : XP} (q : (fMeth cl m n g f fa env).sat Q z) : wMeth cl m n (fwOf g) (wF f) (wFA fa) env Q z := by
  unfold fMeth at q
  rw [sat_bind] at q
  refine sat_mono (fun d q => ?_) (fun _ _ _ q => q) _ q
  obtain ⟨ns, vs, ed, hm, q⟩ := insOf_sat q
  rw [sat_bind] at q
  refine ⟨ns, vs, ed, hm, sat_mono (fun ds q => ?_) (fun _ _ _ q => q) _ q⟩
  split at q
  · next h => exact ⟨h, q⟩
  · exact q.elim
theorem ve_meth {cl : Str} {o : Expr} {pl : Sem Bool} (c : Ctx j X E) (fm : Mt (wd X) k cl m n (fwOf g)) (hk : k ≤ j) (ho : VE X E o f) (ha : VA X E (e :: es) fa)
    (hst : starEach (e :: es) X.env = (false, eval e X.env) :: starEach es X.env := by rfl) (hpl : (backTo pos (starEach es X.env)).any (·.1) = false := by rfl)
    (ht : eval (.Call (.Attribute o m apos) (e :: es) [] pos) X.env = (do
      let ov ← eval o X.env
      standAt apos.atName
      let (f, first) ← holding [ov] (getMethod ov m pl)
      callWith pos f first (backTo pos (starEach (e :: es) X.env)) (backToKw pos (keywordEach [] X.env))) := by rfl) : VE X E (.Call (.Attribute o m apos) (e :: es) [] pos) (fMeth cl m n g f fa) := UG.v (ue_meth c fm hk ho ha hst hpl ht) fun _ _ _ q => fMeth_w q
theorem ve_meth0 {cl : Str} {o : Expr} {pl : Sem Bool} (c : Ctx j X E) (fm : Mt (wd X) k cl m n (fwOf g)) (hk : k ≤ j) (ho : VE X E o f)
    (ht : eval (.Call (.Attribute o m apos) [] [] pos) X.env = (do
      let ov ← eval o X.env
      standAt apos.atName
      let (f, first) ← holding [ov] (getMethod ov m pl)
      callWith pos f first (backTo pos (starEach [] X.env)) (backToKw pos (keywordEach [] X.env))) := by rfl) : VE X E (.Call (.Attribute o m apos) [] [] pos) (fMeth cl m n g f faNil) := UG.v (ue_meth0 c fm hk ho ht) fun _ _ _ q => fMeth_w q
/-- one of two readings, by the class of what o gives -/
def fByCls (cl : Str) (o f1 f2 : FE) : FE := fun env => match o env with
  | .ret (.ins c _ _) => if c = cl then f1 env else f2 env
  | _ => .bad
theorem VE.or {cl : Str} {o : FE} (h1 : VE X E e f1) (h2 : VE X E e f2) : VE X E e (fByCls cl o f1 f2) := UG.v (UE.or h1 h2) fun env Q z q => by
  unfold fByCls at q
  split at q
  · split at q
    · exact .inl q
    · exact .inr q
  · exact q.elim

/-! ### built-ins of one argument -/
abbrev OF1 := D → Option D
def OS1 (f : OF1) (o : O1) : Prop := ∀ d r Q, f d = some r → Q r → o d Q
def fB1 (o : OF1) (f : FE) : FE := fun env => (f env).bind fun d => .of (o d)
theorem fB1_w {o : OF1} {w : O1} (h : OS1 o w) {env : En} {Q : D → Prop} {z : XP} (q : (fB1 o f env).sat Q z) : wB1 w (wF f) env Q z := by
  unfold fB1 at q
  rw [sat_bind] at q
  refine sat_mono (fun d q => ?_) (fun _ _ _ q => q) _ q
  obtain ⟨r, e, q⟩ := sat_of.mp q
  exact h _ _ _ e q
def foLen : OF1 := fun d => match d with
  | .lst xs => some (.int xs.length)
  | .tup xs => some (.int xs.length)
  | .str z => if z.length ≤ most then some (.int z.length) else none
  | .dct ks vs => some (.int ks.length)
  | .scr ns => some (.int ns.length)
  | _ => none
theorem os_len : OS1 foLen oLen := fun d r Q e q => by
  unfold foLen at e
  unfold oLen
  split at e <;> first | (cases e; exact q) | cases e | skip
  split at e
  · next h => cases e; exact ⟨h, q⟩
  · cases e
theorem ve_len (hg : Gl X "len") (hm : X.mg "len" = none) (h : VO X E e f) (hs : starEach [e] X.env = (false, eval e X.env) :: starEach [] X.env := by rfl) : VE X E (.Call (.Name "len" p) [e] [] pos) (fB1 foLen f) := UG.v (ue_len hg hm h hs) fun _ _ _ q => fB1_w os_len q
def foBls (g : List Bool → Bool) : OF1 := fun d => match d with
  | .lst ds => (blsOf ds).map fun bs => .bl (g bs)
  | _ => none
theorem os_bls (g : List Bool → Bool) : OS1 (foBls g) (oBls g) := fun d r Q e q => by
  unfold foBls at e
  split at e
  · next ds =>
    cases h : blsOf ds with
    | none => rw [h] at e; cases e
    | some bs => rw [h] at e; cases e; exact ⟨ds, bs, rfl, h, q⟩
  · cases e
abbrev foAll : OF1 := foBls fun bs => bs.all id
abbrev foAny : OF1 := foBls fun bs => bs.any id
theorem ve_all (hc : X.calm = true) (hg : Gl X "all") (hm : X.mg "all" = none) (h : VO X E e f) (hs : starEach [e] X.env = (false, eval e X.env) :: starEach [] X.env := by rfl) : VE X E (.Call (.Name "all" p) [e] [] pos) (fB1 foAll f) := UG.v (ue_all hc hg hm h hs) fun _ _ _ q => fB1_w (os_bls _) q
theorem ve_any (hc : X.calm = true) (hg : Gl X "any") (hm : X.mg "any" = none) (h : VO X E e f) (hs : starEach [e] X.env = (false, eval e X.env) :: starEach [] X.env := by rfl) : VE X E (.Call (.Name "any" p) [e] [] pos) (fB1 foAny f) := UG.v (ue_any hc hg hm h hs) fun _ _ _ q => fB1_w (os_bls _) q
def foTup : OF1 := fun d => (seqD d).map .tup
def foLst : OF1 := fun d => (seqD d).map .lst
theorem os_tup : OS1 foTup oTup := fun d r Q e q => by
  unfold foTup at e
  cases d <;> simp only [seqD, Option.map_some, Option.map_none, reduceCtorEq] at e <;> cases e <;> exact q
theorem os_lst : OS1 foLst oLst := fun d r Q e q => by
  unfold foLst at e
  cases d <;> simp only [seqD, Option.map_some, Option.map_none, reduceCtorEq] at e <;> cases e <;> exact q
theorem ve_tupleOf (hg : Gl X "tuple") (hm : X.mg "tuple" = none) (h : VO X E e f) (hs : starEach [e] X.env = (false, eval e X.env) :: starEach [] X.env := by rfl) : VE X E (.Call (.Name "tuple" p) [e] [] pos) (fB1 foTup f) := UG.v (ue_tupleOf hg hm h hs) fun _ _ _ q => fB1_w os_tup q
theorem ve_listOf (hg : Gl X "list") (hm : X.mg "list" = none) (h : VO X E e f) (hs : starEach [e] X.env = (false, eval e X.env) :: starEach [] X.env := by rfl) : VE X E (.Call (.Name "list" p) [e] [] pos) (fB1 foLst f) := UG.v (ue_listOf hg hm h hs) fun _ _ _ q => fB1_w os_lst q
def foInt1 : OF1 := fun d => match d with
  | .int i => some (.int i)
  | _ => none
theorem os_int1 : OS1 foInt1 oInt1 := fun d r Q e q => by
  unfold foInt1 at e
  split at e
  · cases e; exact ⟨_, rfl, q⟩
  · cases e
theorem ve_intOf (hg : Gl X "int") (hm : X.mg "int" = none) (h : VO X E e f) (hs : starEach [e] X.env = (false, eval e X.env) :: starEach [] X.env := by rfl) : VE X E (.Call (.Name "int" p) [e] [] pos) (fB1 foInt1 f) := UG.v (ue_intOf hg hm h hs) fun _ _ _ q => fB1_w os_int1 q
def foDict : OF1 := fun d => match d with
  | .dct ks vs => some (.dct ks vs)
  | .lst ds => (prsOf ds).map fun prs => .dct (putAll [] [] prs).1 (putAll [] [] prs).2
  | _ => none
theorem os_dict : OS1 foDict oDict := fun d r Q e q => by
  unfold foDict at e
  split at e
  · cases e; exact .inl ⟨_, _, rfl, q⟩
  · next ds =>
    cases h : prsOf ds with
    | none => rw [h] at e; cases e
    | some prs => rw [h] at e; cases e; exact .inr ⟨ds, prs, rfl, h, q⟩
  · cases e
theorem vf_dictOf (hc : X.calm = true) (hg : Gl X "dict") (hm : X.mg "dict" = none) (h : VO X E e f) (hs : starEach [e] X.env = (false, eval e X.env) :: starEach [] X.env := by rfl) : VF X E (.Call (.Name "dict" p) [e] [] pos) (fB1 foDict f) := UF.v (uf_dictOf hc hg hm h hs) fun _ _ _ q => fB1_w os_dict q
def maxI (a : Int) : List Int → Int
  | [] => a
  | b :: r => maxI (if a < b then b else a) r
theorem maxI_ge : ∀ (r : List Int) (a : Int), a ≤ maxI a r ∧ (∀ b ∈ r, b ≤ maxI a r) ∧ (maxI a r = a ∨ maxI a r ∈ r)
  | [], a => ⟨Int.le_refl _, fun b h => (nomatch h), .inl rfl⟩
  | b :: r, a => by
    unfold maxI
    by_cases k : a < b
    · obtain ⟨h1, h2, h3⟩ := maxI_ge r b
      rw [if_pos k]
      refine ⟨by omega, fun c hc => ?_, ?_⟩
      · rcases List.mem_cons.mp hc with rfl | hc
        · exact h1
        · exact h2 c hc
      · rcases h3 with h3 | h3
        · right; rw [h3]; exact List.mem_cons_self ..
        · exact .inr (List.mem_cons_of_mem _ h3)
    · obtain ⟨h1, h2, h3⟩ := maxI_ge r a
      rw [if_neg k]
      refine ⟨h1, fun c hc => ?_, ?_⟩
      · rcases List.mem_cons.mp hc with rfl | hc
        · omega
        · exact h2 c hc
      · rcases h3 with h3 | h3
        · exact .inl h3
        · exact .inr (List.mem_cons_of_mem _ h3)
def foMax : OF1 := fun d => match d with
  | .lst ds => match intsOf ds with
    | some (n :: ns) => some (.int (maxI n ns))
    | _ => none
  | _ => none
theorem os_max : OS1 foMax oMax := fun d r Q e q => by
  unfold foMax at e
  split at e
  · next ds =>
    split at e
    · next n ns h =>
      cases e
      refine ⟨ds, n :: ns, rfl, h, by simp, fun m h1 h2 => ?_⟩
      obtain ⟨g1, g2, g3⟩ := maxI_ge ns n
      have e1 : m ≤ maxI n ns := by
        rcases List.mem_cons.mp h1 with rfl | h1
        · exact g1
        · exact g2 m h1
      have e2 : maxI n ns ≤ m := h2 _ (by rcases g3 with g3 | g3; rw [g3]; exact List.mem_cons_self ..; exact List.mem_cons_of_mem _ g3)
      rw [show m = maxI n ns by omega]
      exact q
    · cases e
  · cases e
theorem ve_max (hc : X.calm = true) (hg : Gl X "max") (hm : X.mg "max" = none) (h : VO X E e f) (hs : starEach [e] X.env = (false, eval e X.env) :: starEach [] X.env := by rfl) : VE X E (.Call (.Name "max" p) [e] [] pos) (fB1 foMax f) := UG.v (ue_max hc hg hm h hs) fun _ _ _ q => fB1_w os_max q
def foSorted : OF1 := fun d => match seqD d with
  | some ds => match strsOf ds with
    | some zs => if zs.length < 64 then some (.lst ((sortBy leS zs).map .str)) else none
    | none => none
  | none => none
theorem os_sorted : OS1 foSorted oSorted := fun d r Q e q => by
  unfold foSorted at e
  split at e
  · next ds hd =>
    split at e
    · next zs hz =>
      split at e
      · next hl =>
        cases e
        refine ⟨ds, zs, (seqD_eq hd).symm, hz, hl, fun ys p s => ?_⟩
        rw [sortS_of p s]
        exact q
      · cases e
    · cases e
  · cases e
theorem ve_sorted (hc : X.calm = true) (hg : Gl X "sorted") (hm : X.mg "sorted" = none) (h : VO X E e f) (hs : starEach [e] X.env = (false, eval e X.env) :: starEach [] X.env := by rfl) : VE X E (.Call (.Name "sorted" p) [e] [] pos) (fB1 foSorted f) := UG.v (ue_sorted hc hg hm h hs) fun _ _ _ q => fB1_w os_sorted q
/-- len(set(texts)), the texts all different -/
def nodupB : List Str → Bool
  | [] => true
  | z :: zs => !decide (z ∈ zs) && nodupB zs
theorem nodupB_iff : ∀ {zs : List Str}, nodupB zs = true → zs.Nodup
  | [], _ => List.nodup_nil
  | z :: zs, h => by
    unfold nodupB at h
    obtain ⟨h1, h2⟩ := ba h
    refine List.nodup_cons.mpr ⟨fun q => ?_, nodupB_iff h2⟩
    rw [decide_eq_true q] at h1
    cases h1
def foLenSet : OF1 := fun d => match seqD d with
  | some ds => match strsOf ds with
    | some zs => if nodupB zs = true ∧ zs.length ≤ 60 then some (.int zs.length) else none
    | none => none
  | none => none
theorem ve_lenSet (hc : X.calm = true) (hg : Gl X "len") (hm : X.mg "len" = none) (hg2 : Gl X "set") (hm2 : X.mg "set" = none) (h : VE X E e f) (na : starEach [e] X.env = (false, eval e X.env) :: starEach [] X.env := by rfl) : VE X E (.Call (.Name "len" p) [.Call (.Name "set" p2) [e] [] apos] [] pos) (fB1 foLenSet f) := UG.v (ue_lenSet hc hg hm hg2 hm2 h na) fun env Q z q => by
  unfold fB1 at q
  rw [sat_bind] at q
  refine sat_mono (fun d q => ?_) (fun _ _ _ q => q) _ q
  obtain ⟨r, e, q⟩ := sat_of.mp q
  unfold foLenSet at e
  split at e
  · next ds hd =>
    split at e
    · next zs hz =>
      split at e
      · next hl =>
        cases e
        exact ⟨ds, zs, (seqD_eq hd).symm, hz, nodupB_iff hl.1, hl.2, q⟩
      · cases e
    · cases e
  · cases e
def foIsi (cs : List Str) : OF := fun d t => match t with
  | .tup (t1 :: ts) => (isA cs d (t1 :: ts)).map .bl
  | .tup [] => none
  | t => (isO cs d t).map .bl
theorem os_isi (cs : List Str) : OS (foIsi cs) (oIsi cs) := fun d t r Q e q => by
  have one : ∀ t : D, (isO cs d t).map D.bl = some r → ∃ b, isO cs d t = some b ∧ Q (.bl b) := fun t e => by
    cases h : isO cs d t with
    | none => rw [h] at e; cases e
    | some k => rw [h] at e; cases e; exact ⟨k, rfl, q⟩
  cases t with
  | tup ts =>
    cases ts with
    | nil => cases e
    | cons t1 ts =>
      have e : (isA cs d (t1 :: ts)).map D.bl = some r := e
      cases h : isA cs d (t1 :: ts) with
      | none => rw [h] at e; cases e
      | some k => rw [h] at e; cases e; exact ⟨k, t1, ts, rfl, h, q⟩
  | _ => exact one _ e
theorem ve_isi {cs : List Str} (f0 : IsF X.K cs) (hg : Gl X "isinstance") (hm : X.mg "isinstance" = none) (h : VO X E e f1) (h2 : VE X E e2 f2) (hs : starEach [e, e2] X.env = (false, eval e X.env) :: starEach [e2] X.env := by rfl) (hs2 : starEach [e2] X.env = (false, eval e2 X.env) :: starEach [] X.env := by rfl)
    (hpl : (backTo pos (starEach [e2] X.env)).any (·.1) = false := by rfl) : VE X E (.Call (.Name "isinstance" p) [e, e2] [] pos) (fOp (foIsi cs) f1 f2) := UG.v (ue_isi f0 hg hm h h2 hs hs2 hpl) fun _ _ _ q => fOp_w (os_isi cs) q
/-! ### new dicts -/
abbrev FQ := En → Tr (List (D × D))
def wFQ (f : FQ) : WQ := fun env Q x => (f env).sat Q x
abbrev VQ (X : Cx) (E : XK) (pos : Pos) (keys : List (Option Expr)) (values : List Expr) (f : FQ) : Prop := UQ X E pos keys values (wFQ f)
def fqNil : FQ := fun _ => .ret []
def fqCons (f1 f2 : FE) (r : FQ) : FQ := fun env => (f1 env).bind fun k => (f2 env).bind fun v => (r env).bind fun ps => .ret ((k, v) :: ps)
theorem vq_nil : VQ X E pos [] [] fqNil := ⟨(uq_nil (X := X) (E := E) (pos := pos)).ex, fun env Q Q' x x' k kx q => sat_mono k kx _ q⟩
theorem vq_cons {keys : List (Option Expr)} {values : List Expr} {r : FQ} (ha : VE X E a f1) (hb : VE X E b f2) (h : VQ X E pos keys values r) : VQ X E pos (some a :: keys) (b :: values) (fqCons f1 f2 r) := by
  have u := uq_cons ha hb h
  refine ⟨?_, fun env Q Q' x x' k kx q => sat_mono k kx _ q⟩
  obtain ⟨trs, p, hr⟩ := u.ex
  refine ⟨trs, p, fun dr sa F env σ H Q S q => hr dr sa F env σ H Q S ?_⟩
  unfold wFQ fqCons at q
  rw [sat_bind] at q
  refine sat_mono (fun d q => ?_) (fun _ _ _ q => q) _ q
  rw [sat_bind] at q
  refine sat_mono (fun d q => ?_) (fun _ _ _ q => q) _ q
  rw [sat_bind] at q
  exact q
def fDisp (r : FQ) : FE := fun env => (r env).bind fun ds => if ds.length ≤ 15 then (Tr.of (prsK ds)).bind fun prs => .ret (.dct (putAll [] [] prs).1 (putAll [] [] prs).2) else .bad
theorem vf_disp {keys : List (Option Expr)} {values : List Expr} {r : FQ} (h : VQ X E pos keys values r) (hall : keys.all (·.isSome) = true := by rfl) (hl : keys.length = values.length := by rfl) (h0 : keys ≠ [] := by intro z; cases z) (h15 : keys.length ≤ 15 := by decide) : VF X E (.Dict keys values pos) (fDisp r) := UF.v (uf_disp h hall hl h0 h15) fun env Q z q => by
  unfold fDisp at q
  rw [sat_bind] at q
  refine sat_mono (fun ds q => ?_) (fun _ _ _ q => q) _ q
  split at q
  · next hl =>
    rw [sat_bind] at q
    obtain ⟨prs, e, q⟩ := sat_of.mp q
    exact ⟨prs, e, hl, q⟩
  · exact q.elim
theorem vf_dnewK : VF X E (.Dict [] [] pos) (fC (.dct [] [])) := vf_c uf_dnewK
theorem vf_dnewT (hw : X.w = Wo.w) : VF X E (.Dict [] [] pos) (fC (.dcT [] [])) := vf_c (uf_dnewT hw)
def fDispT (f1 f2 : FE) : FE := fun env => (f1 env).bind fun k => (f2 env).bind fun v => if (nkT k).isSome = true then .ret (.dcT [k] [v]) else .bad
theorem vf_dispT (hw : X.w = Wo.w) (hu : X.A.units + 64 < cLine) (hk : VE X E a f1) (hv : VE X E b f2) : VF X E (.Dict [some a] [b] pos) (fDispT f1 f2) := UF.v (uf_dispT hw hu hk hv) fun env Q z q => by
  unfold fDispT at q
  rw [sat_bind] at q
  refine sat_mono (fun d q => ?_) (fun _ _ _ q => q) _ q
  rw [sat_bind] at q
  refine sat_mono (fun v q => ?_) (fun _ _ _ q => q) _ q
  split at q
  · next h => exact ⟨h, q⟩
  · exact q.elim
end
end U
/-! V4: what is walked, targets, comprehensions. -/
namespace U
open PySem PySem.Spec PyProof.Rows L2 Tr
variable [Wo]
namespace Tr
variable {α β : Type}
/-- as bind, of one outcome alone -/
def one : Tr α → (α → Tr β) → Tr β
  | .ret a, f => f a
  | .err c ns vs, _ => .err c ns vs
  | _, _ => .bad
@[simp] theorem one_ret (a : α) (f : α → Tr β) : (Tr.ret a).one f = f a := rfl
@[simp] theorem one_err (c : Str) (ns : List Str) (vs : List D) (f : α → Tr β) : (Tr.err c ns vs).one f = .err c ns vs := rfl
/-- errors are let by no one -/
def ne : Tr α → Tr α
  | .ret a => .ret a
  | .err _ _ _ => .bad
  | .bad => .bad
  | .any n k => .any n fun i => (k i).ne
@[simp] theorem ne_ret (a : α) : (Tr.ret a).ne = .ret a := rfl
@[simp] theorem ne_any (n : Nat) (k : Nat → Tr α) : (Tr.any n k).ne = .any n fun i => (k i).ne := rfl
theorem sat_ne {Q : α → Prop} {x : XP} : ∀ t : Tr α, t.ne.sat Q x → t.sat Q xF
  | .ret a, q => q
  | .err c ns vs, q => q.elim
  | .bad, q => q
  | .any n k, q => fun i hi => sat_ne (k i) (q i hi)
end Tr
section
variable {X : Cx} {E : XK} {e e2 a b c tg : Expr} {es rest : List Expr} {R : RK} {f f1 f2 f3 : FE} {ft ft2 : FT} {fa : FA} {pos p2 p apos tp : Pos} {x m : Str} {k j n kk : Nat}
/-! ### what is walked -/
def lstD : D → Option (List D)
  | .lst xs => some xs
  | _ => none
def tupD : D → Option (List D)
  | .tup xs => some xs
  | _ => none
def strD : D → Option Str
  | .str z => some z
  | _ => none
def fiL (f : FE) : FA := fun env => (f env).bind fun d => .of (lstD d)
def fiT (f : FE) : FA := fun env => (f env).bind fun d => .of (tupD d)
def fiSeq (f : FE) : FA := fun env => (f env).one fun d => .of (seqD d)
def fiS (f : FE) : FA := fun env => (f env).bind fun d => .of ((strD d).map signs)
def fiEE (f : FE) : FA := fun env => (f env).one fun d => .of ((seqD d).map (numD 0))
def inRB (i : Int) : Bool := decide (-(2 ^ 62) ≤ i) && decide (i < 2 ^ 62)
theorem inRB_iff {i : Int} (h : inRB i = true) : inR i := by
  unfold inRB at h
  obtain ⟨h1, h2⟩ := ba h
  exact ⟨of_decide_eq_true h1, of_decide_eq_true h2⟩
def fiR1 (f : FE) : FA := fun env => (f env).bind fun d => (intD d).bind fun j => if inRB j = true then .ret (upD 0 j.toNat) else .bad
def fiR2 (f1 f2 : FE) : FA := fun env => (f1 env).bind fun d => (f2 env).bind fun d2 => (intD d).bind fun i => (intD d2).bind fun j => if inRB i = true ∧ inRB j = true then .ret (upD i (j - i).toNat) else .bad
theorem vi_lst (h : VE X E e f) : VI X E tg e (fiL f) := UI.v (ui_lst h) fun env Q z q => by
  unfold fiL at q
  rw [sat_bind] at q
  refine sat_mono (fun d q => ?_) (fun _ _ _ q => q) _ q
  obtain ⟨r, e, q⟩ := sat_of.mp q
  cases d <;> simp only [lstD, reduceCtorEq, Option.some.injEq] at e
  subst e
  exact ⟨_, rfl, q⟩
theorem vi_tup (h : VE X E e f) : VI X E tg e (fiT f) := UI.v (ui_tup h) fun env Q z q => by
  unfold fiT at q
  rw [sat_bind] at q
  refine sat_mono (fun d q => ?_) (fun _ _ _ q => q) _ q
  obtain ⟨r, e, q⟩ := sat_of.mp q
  cases d <;> simp only [tupD, reduceCtorEq, Option.some.injEq] at e
  subst e
  exact ⟨_, rfl, q⟩
theorem vi_seq (h : VE X E e f) : VI X E tg e (fiSeq f) := UI.v (ui_seq h) fun env Q z q => by
  unfold fiSeq at q
  cases t : f env with
  | ret d =>
    rw [t, one_ret] at q
    obtain ⟨r, e, q⟩ := sat_of.mp q
    rcases seqD_eq e with rfl | rfl
    · refine .inr ?_
      show (f env).sat _ z
      rw [t]
      exact ⟨_, rfl, q⟩
    · refine .inl ?_
      show (f env).sat _ z
      rw [t]
      exact ⟨_, rfl, q⟩
  | err c ns vs =>
    rw [t] at q
    refine .inl ?_
    show (f env).sat _ z
    rw [t]
    exact q
  | bad => rw [t] at q; exact q.elim
  | any n k => rw [t] at q; exact q.elim
theorem vi_str (h : VE X E e f) : VI X E tg e (fiS f) := UI.v (ui_str h) fun env Q z q => by
  unfold fiS at q
  rw [sat_bind] at q
  refine sat_mono (fun d q => ?_) (fun _ _ _ q => q) _ q
  obtain ⟨r, e, q⟩ := sat_of.mp q
  cases d <;> simp only [strD, Option.map_none, Option.map_some, reduceCtorEq, Option.some.injEq] at e
  subst e
  exact ⟨_, rfl, q⟩
theorem vi_range1 (hg : Gl X "range") (hm : X.mg "range" = none) (h : VE X E e f) (hs : starEach [e] X.env = [(false, eval e X.env)] := by rfl) : VI X E tg (.Call (.Name "range" p) [e] [] pos) (fiR1 f) := UI.v (ui_range1 hg hm h hs) fun env Q z q => by
  unfold fiR1 at q
  rw [sat_bind] at q
  refine sat_mono (fun d q => ?_) (fun _ _ _ q => q) _ q
  obtain ⟨j, e, q⟩ := intD_sat q
  split at q
  · next hj => exact ⟨j, e, inRB_iff hj, q⟩
  · exact q.elim
theorem vi_range2 (hg : Gl X "range") (hm : X.mg "range" = none) (h : VE X E e f1) (h2 : VE X E e2 f2) (hs : starEach [e, e2] X.env = [(false, eval e X.env), (false, eval e2 X.env)] := by rfl) (hs2 : starEach [e2] X.env = [(false, eval e2 X.env)] := by rfl) : VI X E tg (.Call (.Name "range" p) [e, e2] [] pos) (fiR2 f1 f2) := UI.v (ui_range2 hg hm h h2 hs hs2) fun env Q z q => by
  unfold fiR2 at q
  rw [sat_bind] at q
  refine sat_mono (fun d q => ?_) (fun _ _ _ q => q) _ q
  rw [sat_bind] at q
  refine sat_mono (fun d2 q => ?_) (fun _ _ _ q => q) _ q
  obtain ⟨i, e, q⟩ := intD_sat q
  obtain ⟨j, e2, q⟩ := intD_sat q
  split at q
  · next hj => exact ⟨i, j, e, e2, inRB_iff hj.1, inRB_iff hj.2, q⟩
  · exact q.elim
theorem vi_enum (hg : Gl X "enumerate") (hm : X.mg "enumerate" = none) (h : VE X E e f) (hs : starEach [e] X.env = [(false, eval e X.env)] := by rfl) : VI X E (.Tuple es kk tp) (.Call (.Name "enumerate" p) [e] [] pos) (fiEE f) := UI.v (ui_enumU hg hm h hs) fun env Q z q => by
  unfold fiEE at q
  cases t : f env with
  | ret d =>
    rw [t, one_ret] at q
    obtain ⟨r, e, q⟩ := sat_of.mp q
    cases h : seqD d with
    | none => rw [h] at e; cases e
    | some ds =>
      rw [h] at e
      cases e
      rcases seqD_eq h with rfl | rfl
      · refine .inr ?_
        show (f env).sat _ z
        rw [t]
        exact ⟨_, rfl, q⟩
      · refine .inl ?_
        show (f env).sat _ z
        rw [t]
        exact ⟨_, rfl, q⟩
  | err c ns vs =>
    rw [t] at q
    refine .inl ?_
    show (f env).sat _ z
    rw [t]
    exact q
  | bad => rw [t] at q; exact q.elim
  | any n k => rw [t] at q; exact q.elim

/-! ### targets -/
abbrev FG := D → En → Option En
abbrev FGs := List D → En → Option En
def wG (g : FG) : WG := fun d env Q => ∃ e, g d env = some e ∧ Q e
def wGs (g : FGs) : WGs := fun ds env Q => ∃ e, g ds env = some e ∧ Q e
abbrev VTg (X : Cx) (tg : Expr) (is : List Nat) (g : FG) : Prop := UTg X tg is (wG g)
abbrev VTs (X : Cx) (tg : List Expr) (is : List Nat) (g : FGs) : Prop := UTs X tg is (wGs g)
theorem wG_mono (g : FG) : ∀ d env (Q Q' : En → Prop), (∀ e, Q e → Q' e) → wG g d env Q → wG g d env Q' := fun d env Q Q' k ⟨e, h, q⟩ => ⟨e, h, k _ q⟩
def fgN (i : Nat) : FG := fun d env => some (env.set i (.fz d))
def fgNil : FGs := fun ds env => match ds with
  | [] => some env
  | _ => none
def fgCons (g : FG) (r : FGs) : FGs := fun ds env => match ds with
  | d :: t => (g d env).bind fun e => r t e
  | [] => none
def fgT (n : Nat) (r : FGs) : FG := fun d env => match d with
  | .tup ds => if ds.length = n then r ds env else none
  | _ => none
variable {is js : List Nat} {g : FG} {gs : FGs}
theorem vg_name {i : Nat} {x : Str} (hN : X.N.Nodup) (hi : X.N[i]? = some x) (hx : Loc X.env.scope x) (hf : X.fn x = true ∨ X.env.scope.names.lookup x = some .local := by first | exact .inl rfl | exact .inr rfl) : VTg X (.Name x pos) [i] (fgN i) :=
  ⟨fun G cl => PG.wk ((ug_name hN hi hx hf).pg G cl) fun v σ H Q ⟨dr, F, env, d, g0, r, e, h, q⟩ => ⟨dr, F, env, d, g0, r, by cases h; exact q⟩, wG_mono _⟩
theorem vgs_nil : VTs X [] [] fgNil :=
  ⟨fun G cl => PGs.wk (ugs_nil.pg G cl) fun vs σ H Q ⟨dr, F, env, ds, g0, r, e, h, q⟩ => ⟨dr, F, env, ds, g0, r, by
    cases ds with
    | nil => cases h; exact ⟨rfl, q⟩
    | cons d t => cases h⟩, fun d env Q Q' k ⟨e, h, q⟩ => ⟨e, h, k _ q⟩⟩
theorem vgs_cons (h : VTg X tg is g) (t : VTs X es js gs) (hs : (assignEach (tg :: es) X.env).map (·.2) = assign tg X.env :: (assignEach es X.env).map (·.2) := by rfl) : VTs X (tg :: es) (is ++ js) (fgCons g gs) :=
  ⟨fun G cl => PGs.wk ((ugs_cons h t hs).pg G cl) fun vs σ H Q ⟨dr, F, env, ds, g0, r, e, h, q⟩ => ⟨dr, F, env, ds, g0, r, by
    cases ds with
    | nil => cases h
    | cons d t =>
      have h : (g d env).bind (fun e => gs t e) = some e := h
      cases z : g d env with
      | none => rw [z] at h; cases h
      | some e1 => rw [z] at h; exact ⟨d, t, rfl, e1, z, e, h, q⟩⟩, fun d env Q Q' k ⟨e, h, q⟩ => ⟨e, h, k _ q⟩⟩
theorem vg_tup {k n : Nat} (hc : X.calm = true) (h : VTs X es is gs) (hn : (assignEach es X.env).length = n := by rfl) (hst : (assignEach es X.env).findIdx? (·.1) = none := by rfl) : VTg X (.Tuple es k pos) is (fgT n gs) :=
  ⟨fun G cl => PG.wk ((ug_tup hc h hn hst).pg G cl) fun v σ H Q ⟨dr, F, env, d, g0, r, e, h, q⟩ => ⟨dr, F, env, d, g0, r, by
    cases d with
    | tup ds =>
      have h : (if ds.length = n then gs ds env else none) = some e := h
      by_cases z : ds.length = n
      · rw [if_pos z] at h
        exact ⟨ds, rfl, z, e, h, q⟩
      · rw [if_neg z] at h
        cases h
    | _ => cases h⟩, wG_mono _⟩

/-! ### comprehensions -/
abbrev VPs (X : Cx) (ifs : List Expr) (t : FT) : Prop := UPs X ifs (wFT t)
def ftYes : FT := fun _ => .ret true
theorem vps_nil : VPs X [] ftYes := ⟨⟨fun pins s σ H Q I ⟨dr, sa, F, env, S, q⟩ => ups_nil.pt.run pins s σ H Q I ⟨dr, sa, F, env, S, q⟩⟩, fun env Q Q' x x' k kx q => sat_mono k kx _ q⟩
theorem vps_one (h : VT X EF c ft) : VPs X [c] ft := ups_one h
/-- what a comprehension makes of its items -/
def lcF (is : List Nat) (g : FG) (t : FT) (f : FE) (env : En) : List D → Tr (List D)
  | [] => .ret []
  | d :: ds => (Tr.of (g d (wipeX env is))).bind fun e => (t e).bind fun k => if k = true then (f e).bind fun v => (lcF is g t f env ds).bind fun vs => .ret (v :: vs) else lcF is g t f env ds
def fLc (fi : FA) (is : List Nat) (g : FG) (t : FT) (f : FE) : FE := fun env => (fi env).bind fun ds => if ds.length ≤ most then (lcF is g t f env ds).ne.bind fun vs => .ret (.lst vs) else .bad
theorem lcF_w {is : List Nat} {t : FT} {env : En} {Q : D → Prop} : ∀ (ds acc : List D), acc.length + ds.length ≤ most → (lcF is g t f env ds).sat (fun vs => Q (.lst (acc ++ vs))) xF → wLcL is (wG g) (wFT t) (wF f) env Q ds acc
  | [], acc, _, q => by
    have q : Q (.lst (acc ++ [])) := q
    rw [List.append_nil] at q
    exact q
  | d :: ds, acc, hl, q => by
    rw [List.length_cons] at hl
    unfold lcF at q
    rw [sat_bind] at q
    obtain ⟨e, he, q⟩ := sat_of.mp q
    refine ⟨e, he, ?_⟩
    rw [sat_bind] at q
    refine sat_mono (fun k q => ?_) (fun _ _ _ q => q) _ q
    cases k with
    | false => exact lcF_w ds acc (by omega) q
    | true =>
      have q : ((f e).bind fun v => (lcF is g t f env ds).bind fun vs => .ret (v :: vs)).sat (fun vs => Q (.lst (acc ++ vs))) xF := q
      rw [sat_bind] at q
      refine sat_mono (fun v q => ⟨by omega, ?_⟩) (fun _ _ _ q => q) _ q
      rw [sat_bind] at q
      refine lcF_w ds (acc ++ [v]) (by rw [List.length_append, List.length_singleton]; omega) ?_
      refine sat_mono (fun vs q => ?_) (fun _ _ _ q => q) _ q
      rw [List.append_assoc]
      exact q
theorem fLc_w {fi : FA} {is : List Nat} {t : FT} {env : En} {Q : D → Prop} {z : XP} (q : (fLc fi is g t f env).sat Q z) : wLc (wFA fi) is (wG g) (wFT t) (wF f) env Q z := by
  unfold fLc at q
  rw [sat_bind] at q
  refine sat_mono (fun ds q => ?_) (fun _ _ _ q => q) _ q
  split at q
  · next h =>
    rw [sat_bind] at q
    exact lcF_w ds [] (by simpa using h) (sat_ne _ q)
  · exact q.elim
/-- a dict's keys, values behind d[k] = v -/
def dcF (is : List Nat) (g : FG) (t : FT) (fk f : FE) (env : En) : List D → List Key → List D → Tr D
  | [], ks, vs => .ret (.dct ks vs)
  | d :: ds, ks, vs => (Tr.of (g d (wipeX env is))).bind fun e => (t e).bind fun k => if k = true then (fk e).bind fun y => (f e).bind fun v => (Tr.of (keyD y)).bind fun z => dcF is g t fk f env ds (putKs ks z) (putVs ks vs z v) else dcF is g t fk f env ds ks vs
def fDc (fi : FA) (is : List Nat) (g : FG) (t : FT) (fk f : FE) : FE := fun env => (fi env).bind fun ds => if ds.length ≤ most then (dcF is g t fk f env ds [] []).ne else .bad
theorem putKs_le {κ : Type} [DecidableEq κ] (ks : List κ) (k : κ) : (putKs ks k).length ≤ ks.length + 1 := by
  unfold putKs
  split
  · omega
  · rw [List.length_append, List.length_singleton]
    omega
theorem dcF_w {is : List Nat} {t : FT} {fk : FE} {env : En} {Q : D → Prop} : ∀ (ds : List D) (ks : List Key) (vs : List D), ks.length + ds.length ≤ most → (dcF is g t fk f env ds ks vs).sat Q xF → wDcL is (wG g) (wFT t) (wF fk) (wF f) env Q ds ks vs
  | [], ks, vs, _, q => q
  | d :: ds, ks, vs, hl, q => by
    rw [List.length_cons] at hl
    unfold dcF at q
    rw [sat_bind] at q
    obtain ⟨e, he, q⟩ := sat_of.mp q
    refine ⟨e, he, ?_⟩
    rw [sat_bind] at q
    refine sat_mono (fun k q => ?_) (fun _ _ _ q => q) _ q
    cases k with
    | false => exact dcF_w ds ks vs (by omega) q
    | true =>
      have q : ((fk e).bind fun y => (f e).bind fun v => (Tr.of (keyD y)).bind fun z => dcF is g t fk f env ds (putKs ks z) (putVs ks vs z v)).sat Q xF := q
      rw [sat_bind] at q
      refine sat_mono (fun y q => ?_) (fun _ _ _ q => q) _ q
      rw [sat_bind] at q
      refine sat_mono (fun v q => ?_) (fun _ _ _ q => q) _ q
      rw [sat_bind] at q
      obtain ⟨z, hz, q⟩ := sat_of.mp q
      have := putKs_le ks z
      exact ⟨z, keyD_eq hz, by omega, dcF_w ds _ _ (by omega) q⟩
variable {elt kx vx iter : Expr} {ifs : List Expr} {scope : Scope} {own : List (Str × Nat)} {spos py : Pos} {fi : FA} {t : FT} {fk : FE}
theorem vf_lc (hc : X.calm = true) (hN : X.N.Nodup) (hi : VI X E tg iter fi) (ok : BlkOk X.N X.env.scope scope own) (hv : ∀ i, i ∈ is → i ∈ own.map (·.2))
    (hg : ∀ s H C cl fp, VTg (blkX X scope s H C cl fp) tg is g) (ht : ∀ s H C cl fp, VPs (blkX X scope s H C cl fp) ifs t) (he : ∀ s H C cl fp, VE (blkX X scope s H C cl fp) EF elt f) (hs : ∀ x, foldedSetIterable iter X.env x = pure x := by intro _; rfl) :
    VF X E (.ListComp elt [⟨tg, iter, ifs, 0⟩] scope pos) (fLc fi (own.map (·.2)) g t f) := UF.v (uf_lc hc hN hi ok hv hg ht he hs) fun _ _ _ q => fLc_w q
theorem vf_dc (hc : X.calm = true) (hN : X.N.Nodup) (hi : VI X E tg iter fi) (ok : BlkOk X.N X.env.scope scope own) (hv : ∀ i, i ∈ is → i ∈ own.map (·.2))
    (hg : ∀ s H C cl fp, VTg (blkX X scope s H C cl fp) tg is g) (ht : ∀ s H C cl fp, VPs (blkX X scope s H C cl fp) ifs t) (hk : ∀ s H C cl fp, VE (blkX X scope s H C cl fp) EF kx fk) (he : ∀ s H C cl fp, VE (blkX X scope s H C cl fp) EF vx f) (hs : ∀ x, foldedSetIterable iter X.env x = pure x := by intro _; rfl) :
    VF X E (.DictComp kx vx [⟨tg, iter, ifs, 0⟩] scope pos) (fDc fi (own.map (·.2)) g t fk f) := UF.v (uf_dc hc hN hi ok hv hg ht hk he hs) fun env Q z q => by
  unfold fDc at q
  rw [sat_bind] at q
  refine sat_mono (fun ds q => ?_) (fun _ _ _ q => q) _ q
  split at q
  · next h => exact dcF_w ds [] [] (by simpa using h) (sat_ne _ q)
  · exact q.elim
end
end U
/-! V5: statements, defs. -/
namespace U
open PySem PySem.Spec PyProof.Rows L2 Tr
variable [Wo]
/-- how a statement ends -/
inductive Out where
  | nx (e : En) | rt (d : D) | bk (e : En) | ct (e : En)
def Out.to (W : WEn) : Out → Prop
  | .nx e => W.nx e
  | .rt d => W.rt d
  | .bk e => W.bk e
  | .ct e => W.ct e
abbrev FS := En → Tr Out
def wS (s : FS) : WS := fun W env => (s env).sat (Out.to W) W.xe
abbrev VS (X : Cx) (E : XK) (st : Stmt) (s : FS) : Prop := US X E st (wS s)
abbrev VB (X : Cx) (E : XK) (st : List Stmt) (s : FS) : Prop := UB X E st (wS s)
theorem Out.mono {W W' : WEn} (l : WEn.le W W') : ∀ o : Out, o.to W → o.to W'
  | .nx e, h => l.nx e h
  | .rt d, h => l.rt d h
  | .bk e, h => l.bk e h
  | .ct e, h => l.ct e h
theorem wS_mono (s : FS) : SMono (wS s) := fun D D' env l q => sat_mono (Out.mono l) l.xe _ q
section
variable {X : Cx} {E : XK} {e e2 a b c tg : Expr} {es : List Expr} {R : RK} {f f1 f2 f3 fk : FE} {ft ft2 : FT} {fa fi : FA} {fm : FM} {pos p2 p apos : Pos} {x m : Str} {k j n i : Nat} {st : Stmt} {rest bl bl2 : List Stmt} {s s2 : FS} {ws : WS} {g : FG} {is : List Nat}
theorem US.v (h : US X E st ws) (k : ∀ W env, (s env).sat (Out.to W) W.xe → ws W env) : VS X E st s :=
  ⟨PS.wk h.ps fun D σ H ⟨me, dr, sa, F0, H0, F, env, S, q⟩ => ⟨me, dr, sa, F0, H0, F, env, S, k _ _ q⟩, wS_mono s⟩
theorem UB.v (h : UB X E bl ws) (k : ∀ W env, (s env).sat (Out.to W) W.xe → ws W env) : VB X E bl s :=
  ⟨PSs.wk h.ps fun D σ H ⟨me, dr, sa, F0, H0, F, env, S, q⟩ => ⟨me, dr, sa, F0, H0, F, env, S, k _ _ q⟩, wS_mono s⟩
/-! ### blocks -/
def Out.then (k : En → Tr Out) : Out → Tr Out
  | .nx e => k e
  | o => .ret o
def fsNext : FS := fun env => .ret (.nx env)
def fsSeq (s s2 : FS) : FS := fun env => (s env).bind (Out.then s2)
theorem vb_nil : VB X E [] fsNext := UB.v ub_nil fun _ _ q => q
theorem vb_one (h : VS X E st s) : VB X E [st] s := ub_one h
theorem vb_cons (h : VS X E st s) (t : VB X E rest s2) : VB X E (st :: rest) (fsSeq s s2) := UB.v (ub_cons h t) fun W env q => by
  unfold fsSeq at q
  rw [sat_bind] at q
  refine sat_mono (fun o q => ?_) (fun _ _ _ q => q) _ q
  cases o <;> exact q
def fsFrz (i : Nat) (s : FS) : FS := fun env => match env[i]? with
  | some (.ow d) => s (env.set i (.fz d))
  | _ => .bad
theorem vs_frz (i : Nat) (h : VS X E st s) : VS X E st (fsFrz i s) := US.v (us_frz i h) fun W env q => by
  unfold fsFrz at q
  split at q
  · next d hd => exact ⟨d, hd, q⟩
  · exact q.elim
/-! ### small statements -/
theorem vs_pass : VS X E (.Pass pos) fsNext := US.v us_pass fun _ _ q => q
def fsBreak : FS := fun env => .ret (.bk env)
def fsCont : FS := fun env => .ret (.ct env)
theorem vs_break : VS X E (.Break pos) fsBreak := US.v us_break fun _ _ q => q
theorem vs_cont : VS X E (.Continue pos) fsCont := US.v us_cont fun _ _ q => q
def fsExpr (f : FE) : FS := fun env => (f env).bind fun _ => .ret (.nx env)
theorem vs_expr (h : VE X E e f) (hs : swapsWith e none pos.line X.env = pure false := by rfl) : VS X E (.Expr e pos) (fsExpr f) := US.v (us_expr h hs) fun W env q => by
  unfold fsExpr at q
  rw [sat_bind] at q
  exact q
def fsRet (f : FE) : FS := fun env => (f env).bind fun d => .ret (.rt d)
theorem vs_ret (h : VE X E e f) : VS X E (.Return (some e) pos) (fsRet f) := US.v (us_ret h) fun W env q => by
  unfold fsRet at q
  rw [sat_bind] at q
  exact q
def fsRetN : FS := fun _ => .ret (.rt .non)
theorem vs_retN : VS X E (.Return none pos) fsRetN := US.v us_retN fun _ _ q => q
def fsSet (i : Nat) (f : FE) : FS := fun env => (f env).bind fun d => .ret (.nx (env.set i (.fz d)))
theorem vs_set {i : Nat} {x : Str} {p' : Pos} (hN : X.N.Nodup) (hi : X.N[i]? = some x) (hx : Loc X.env.scope x) (h : VE X E e f) (hs : swapsWith e (some (.Name x p')) pos.line X.env = pure false := by rfl) (hf : X.fn x = true ∨ X.env.scope.names.lookup x = some .local := by first | exact .inl rfl | exact .inr rfl) : VS X E (.Assign [.Name x p'] e pos) (fsSet i f) := US.v (us_set hN hi hx h hs hf) fun W env q => by
  unfold fsSet at q
  rw [sat_bind] at q
  exact q
def fsSetO (i : Nat) (f : FE) : FS := fun env => (f env).bind fun d => .ret (.nx (env.set i (.ow d)))
theorem vs_setO {i : Nat} {x : Str} {p' : Pos} (hN : X.N.Nodup) (hi : X.N[i]? = some x) (hx : Loc X.env.scope x) (h : VF X E e f) (hs : swapsWith e (some (.Name x p')) pos.line X.env = pure false := by rfl) (hf : X.fn x = true ∨ X.env.scope.names.lookup x = some .local := by first | exact .inl rfl | exact .inr rfl) : VS X E (.Assign [.Name x p'] e pos) (fsSetO i f) := US.v (us_setO hN hi hx h hs hf) fun W env q => by
  unfold fsSetO at q
  rw [sat_bind] at q
  exact q
def fsIf (t : FT) (s s2 : FS) : FS := fun env => (t env).bind fun k => if k = true then s env else s2 env
theorem vs_if (hc : VT X E c ft) (ha : VB X E bl s) (hb : VB X E bl2 s2) : VS X E (.If c bl bl2 pos) (fsIf ft s s2) := US.v (us_if hc ha hb) fun W env q => by
  unfold fsIf at q
  rw [sat_bind] at q
  refine sat_mono (fun k q => ?_) (fun _ _ _ q => q) _ q
  cases k <;> exact q
/-- x += e, whole numbers -/
def fsAugI (i : Nat) (f : FE) : FS := fun env => match env[i]? with
  | some (.fz (.int a)) => (f env).bind fun d => (intD d).bind fun b => .ret (.nx (env.set i (.fz (.int (a + b)))))
  | _ => .bad
theorem vs_augI {i : Nat} {x : Str} {p' : Pos} (hN : X.N.Nodup) (hi : X.N[i]? = some x) (hx : Loc X.env.scope x) (h : VE X E e f) (hf : X.fn x = true ∨ X.env.scope.names.lookup x = some .local := by first | exact .inl rfl | exact .inr rfl) : VS X E (.AugAssign (.Name x p') .Add e pos) (fsAugI i f) := US.v (us_augI hN hi hx h hf) fun W env q => by
  unfold fsAugI at q
  split at q
  · next a ha =>
    rw [sat_bind] at q
    exact ⟨a, ha, sat_mono (fun d q => intD_sat q) (fun _ _ _ q => q) _ q⟩
  · exact q.elim
/-! ### own lists, dicts, instances -/
def fsApp (i : Nat) (f : FE) : FS := fun env => match env[i]? with
  | some (.ow (.lst ds)) => (f env).bind fun d => if ds.length < most then .ret (.nx (env.set i (.ow (.lst (ds ++ [d]))))) else .bad
  | _ => .bad
theorem vs_app {i : Nat} {x : Str} {p' : Pos} (hv : PE X (.Name x p') (tVar i)) (h : VE X E e f)
    (hpe : ∀ {t : TE} {t2 : TE}, PE X (.Name x p') t → PE X e t2 → PE X (.Call (.Attribute (.Name x p') "append" apos) [e] [] p) (tBM X.K "list" rAppend t (tCons t2 tNil)))
    (hs : swapsWith (.Call (.Attribute (.Name x p') "append" apos) [e] [] p) none pos.line X.env = pure false := by rfl) : VS X E (.Expr (.Call (.Attribute (.Name x p') "append" apos) [e] [] p) pos) (fsApp i f) := US.v (us_app hv h hpe hs) fun W env q => by
  unfold fsApp at q
  split at q
  · next ds hd =>
    rw [sat_bind] at q
    refine ⟨ds, hd, sat_mono (fun d q => ?_) (fun _ _ _ q => q) _ q⟩
    split at q
    · next h => exact ⟨h, q⟩
    · exact q.elim
  · exact q.elim
/-- a dict behind d[k] = v -/
def putD (o k v : D) : Option D := match o with
  | .dct ks vs => if ks.length < most then (keyD k).map fun z => .dct (putKs ks z) (putVs ks vs z v) else none
  | .dcT ks vs => if ks.length < most then (nkT k).map fun z => .dcT (putKT ks k z) (putVT ks vs z v) else none
  | _ => none
def fsPut (i : Nat) (fk f : FE) : FS := fun env => match env[i]? with
  | some (.ow o) => (f env).bind fun v => (fk env).bind fun k => (Tr.of (putD o k v)).bind fun o => .ret (.nx (env.set i (.ow o)))
  | _ => .bad
theorem vs_put {i : Nat} {x : Str} {p' p2 : Pos} (hw : X.w = Wo.w) (hu : X.A.units + 64 < cLine) (hv : PE X (.Name x p') (tVar i)) (hk : VE X E e2 fk) (h : VE X E e f) (hs : swapsWith e (some (.Subscript (.Name x p') e2 p2)) pos.line X.env = pure false := by rfl) : VS X E (.Assign [.Subscript (.Name x p') e2 p2] e pos) (fsPut i fk f) := US.v (us_put hw hu hv hk h hs) fun W env q => by
  unfold fsPut at q
  split at q
  · next o ho =>
    rw [sat_bind] at q
    refine sat_mono (fun v q => ?_) (fun _ _ _ q => q) _ q
    rw [sat_bind] at q
    refine ⟨o, ho, sat_mono (fun k q => ?_) (fun _ _ _ q => q) _ q⟩
    rw [sat_bind] at q
    obtain ⟨o', e', q⟩ := sat_of.mp q
    cases o with
    | dct ks vs =>
      have e' : (if ks.length < most then (keyD k).map fun z => D.dct (putKs ks z) (putVs ks vs z v) else none) = some o' := e'
      by_cases hl : ks.length < most
      · rw [if_pos hl] at e'
        cases hk : keyD k with
        | none => rw [hk] at e'; cases e'
        | some z => rw [hk] at e'; cases e'; exact ⟨z, keyD_eq hk, hl, q⟩
      · rw [if_neg hl] at e'
        cases e'
    | dcT ks vs =>
      have e' : (if ks.length < most then (nkT k).map fun z => D.dcT (putKT ks k z) (putVT ks vs z v) else none) = some o' := e'
      by_cases hl : ks.length < most
      · rw [if_pos hl] at e'
        cases hk : nkT k with
        | none => rw [hk] at e'; cases e'
        | some z => rw [hk] at e'; cases e'; exact ⟨z, rfl, hl, q⟩
      · rw [if_neg hl] at e'
        cases e'
    | _ => cases e'
  · exact q.elim
/-- self.f = e -/
def fsFld (i : Nat) (cl n : Str) (f : FE) : FS := fun env => match env[i]? with
  | some (.ow (.ins c ns vs)) => if c = cl ∧ n ∉ ns ∧ ns.length < 1000 then (f env).bind fun d => .ret (.nx (env.set i (.ow (.ins c (ns ++ [n]) (vs ++ [d]))))) else .bad
  | _ => .bad
theorem vs_fld {i : Nat} {x n : Str} {p' p2 : Pos} (cl : Str) (hc : Cls X.K (He.ga X.K cl)) (hn : NoAttr X.K (He.ga X.K cl) n) (hv : PE X (.Name x p') (tVar i)) (h : VE X E e f) (hs : swapsWith e (some (.Attribute (.Name x p') n p2)) pos.line X.env = pure false := by rfl) :
    VS X E (.Assign [.Attribute (.Name x p') n p2] e pos) (fsFld i cl n f) := US.v (us_fld cl hc hn hv h hs) fun W env q => by
  unfold fsFld at q
  split at q
  · next c ns vs hi =>
    split at q
    · next k =>
      obtain ⟨rfl, k1, k2⟩ := k
      rw [sat_bind] at q
      exact ⟨⟨ns, vs, hi⟩, sat_mono (fun d q => ⟨c, ns, vs, hi, k1, k2, q⟩) (fun _ _ _ q => q) _ q⟩
    · exact q.elim
  · exact q.elim
/-! ### a, b = .. -/
def fsUnp (g : FG) (f : FE) : FS := fun env => (f env).bind fun d => (Tr.of (g d env)).bind fun e => .ret (.nx e)
theorem vs_unp (h : VE X E e f) (t : VTg X tg is g) (hs : swapsWithSole [tg] e pos.line X.env = pure false := by rfl) (hw : swappedStores [tg] e X.env = pure none := by rfl)
    (h1 : (assignEach [tg] X.env).map (·.2) = [assign tg X.env] := by rfl) : VS X E (.Assign [tg] e pos) (fsUnp g f) := US.v (us_unp h t hs hw h1) fun W env q => by
  unfold fsUnp at q
  rw [sat_bind] at q
  refine sat_mono (fun d q => ?_) (fun _ _ _ q => q) _ q
  rw [sat_bind] at q
  exact sat_of.mp q
def fmNil : FM := fun _ => .ret []
def fmF (f : FE) (r : FM) : FM := fun env => (f env).bind fun d => (r env).bind fun xs => .ret (.fz d :: xs)
def fmO (f : FE) (r : FM) : FM := fun env => (f env).bind fun d => (r env).bind fun xs => .ret (.ow d :: xs)
theorem vm_nil : VM X E [] fmNil := UM.v um_nil fun _ _ _ q => q
theorem vm_f (h : VE X E e f) (r : VM X E es fm) (hs : starEach (e :: es) X.env = (false, eval e X.env) :: starEach es X.env := by rfl) : VM X E (e :: es) (fmF f fm) := UM.v (um_f h r hs) fun env Q z q => by
  unfold fmF at q
  rw [sat_bind] at q
  refine sat_mono (fun d q => ?_) (fun _ _ _ q => q) _ q
  rw [sat_bind] at q
  exact q
theorem vm_o (h : VF X E e f) (r : VM X E es fm) (hs : starEach (e :: es) X.env = (false, eval e X.env) :: starEach es X.env := by rfl) : VM X E (e :: es) (fmO f fm) := UM.v (um_o h r hs) fun env Q z q => by
  unfold fmO at q
  rw [sat_bind] at q
  refine sat_mono (fun d q => ?_) (fun _ _ _ q => q) _ q
  rw [sat_bind] at q
  exact q
def fsPar (is : List Nat) (f : FM) : FS := fun env => (f env).bind fun xs => if xs.length = is.length then .ret (.nx (setsX is xs env)) else .bad
theorem fsPar_w {W : WEn} {env : En} (q : (fsPar is fm env).sat (Out.to W) W.xe) : wPar is (wFM fm) W env := by
  unfold fsPar at q
  rw [sat_bind] at q
  refine sat_mono (fun xs q => ?_) (fun _ _ _ q => q) _ q
  split at q
  · next h => exact ⟨h, q⟩
  · exact q.elim
theorem vs_par {i j : Nat} {x y : Str} {px py pt : Pos} {kt k2 pt2} (hc : X.calm = true) (hN : X.N.Nodup) (hi : X.N[i]? = some x) (hj : X.N[j]? = some y) (hij : i ≠ j)
    (hx : X.env.scope.names.lookup x = some .local) (hy : X.env.scope.names.lookup y = some .local) (ha : VM X E [a, b] fm)
    (hw : swappedStores [.Tuple [.Name x px, .Name y py] kt pt] (.Tuple [a, b] k2 pt2) X.env = pure (some [x, y]))
    (hs : swapsWithSole [.Tuple [.Name x px, .Name y py] kt pt] (.Tuple [a, b] k2 pt2) pos.line X.env = pure false := by rfl) :
    VS X E (.Assign [.Tuple [.Name x px, .Name y py] kt pt] (.Tuple [a, b] k2 pt2) pos) (fsPar [i, j] fm) := US.v (us_par hc hN hi hj hij hx hy ha hw hs) fun _ _ q => fsPar_w q
theorem vs_par3 {i j l : Nat} {x y z : Str} {px py pz pt : Pos} {kt k2 pt2} (hc : X.calm = true) (hN : X.N.Nodup) (hi : X.N[i]? = some x) (hj : X.N[j]? = some y) (hl : X.N[l]? = some z) (hij : i ≠ j) (hil : i ≠ l) (hjl : j ≠ l)
    (hx : X.env.scope.names.lookup x = some .local) (hy : X.env.scope.names.lookup y = some .local) (hz : X.env.scope.names.lookup z = some .local) (ha : VM X E [a, b, c] fm)
    (hw : swappedStores [.Tuple [.Name x px, .Name y py, .Name z pz] kt pt] (.Tuple [a, b, c] k2 pt2) X.env = pure (some [x, y, z]))
    (hs : swapsWithSole [.Tuple [.Name x px, .Name y py, .Name z pz] kt pt] (.Tuple [a, b, c] k2 pt2) pos.line X.env = pure false := by rfl) :
    VS X E (.Assign [.Tuple [.Name x px, .Name y py, .Name z pz] kt pt] (.Tuple [a, b, c] k2 pt2) pos) (fsPar [i, j, l] fm) := US.v (us_par3 hc hN hi hj hl hij hil hjl hx hy hz ha hw hs) fun _ _ q => fsPar_w q
/-- name = [..] -/
theorem vs_setLc {elt iter : Expr} {ifs : List Expr} {scope : Scope} {own : List (Str × Nat)} {spos py : Pos} {t : FT} {i : Nat} {y : Str} (hc : X.calm = true) (hN : X.N.Nodup) (hy : X.N[i]? = some y) (hyl : X.env.scope.names.lookup y = some .local) (hsw : swapsWith (.ListComp elt [⟨tg, iter, ifs, 0⟩] scope pos) (some (.Name y py)) spos.line X.env = pure true)
    (hi : VI X E tg iter fi) (ok : BlkOk X.N X.env.scope scope own) (hv : ∀ i, i ∈ is → i ∈ own.map (·.2))
    (hg : ∀ s H C cl fp, VTg (blkX X scope s H C cl fp) tg is g) (ht : ∀ s H C cl fp, VPs (blkX X scope s H C cl fp) ifs t) (he : ∀ s H C cl fp, VE (blkX X scope s H C cl fp) EF elt f) (hs : ∀ x, foldedSetIterable iter X.env x = pure x := by intro _; rfl) :
    VS X E (.Assign [.Name y py] (.ListComp elt [⟨tg, iter, ifs, 0⟩] scope pos) spos) (fsSetO i (fLc fi (own.map (·.2)) g t f)) := US.v (us_setLc hc hN hy hyl hsw hi ok hv hg ht he hs) fun W env q => by
  unfold fsSetO at q
  rw [sat_bind] at q
  exact fLc_w q
/-- .. let go at once -/
theorem vs_setLcZ {elt iter : Expr} {ifs : List Expr} {scope : Scope} {own : List (Str × Nat)} {spos py : Pos} {t : FT} {i : Nat} {y : Str} (hc : X.calm = true) (hN : X.N.Nodup) (hy : X.N[i]? = some y) (hyl : X.env.scope.names.lookup y = some .local) (hsw : swapsWith (.ListComp elt [⟨tg, iter, ifs, 0⟩] scope pos) (some (.Name y py)) spos.line X.env = pure true)
    (hi : VI X E tg iter fi) (ok : BlkOk X.N X.env.scope scope own) (hv : ∀ i, i ∈ is → i ∈ own.map (·.2))
    (hg : ∀ s H C cl fp, VTg (blkX X scope s H C cl fp) tg is g) (ht : ∀ s H C cl fp, VPs (blkX X scope s H C cl fp) ifs t) (he : ∀ s H C cl fp, VE (blkX X scope s H C cl fp) EF elt f) (hs : ∀ x, foldedSetIterable iter X.env x = pure x := by intro _; rfl) :
    VS X E (.Assign [.Name y py] (.ListComp elt [⟨tg, iter, ifs, 0⟩] scope pos) spos) (fun env => if i < env.length then fsSet i (fLc fi (own.map (·.2)) g t f) env else .bad) := US.v (us_setLcZ hc hN hy hyl hsw hi ok hv hg ht he hs) fun W env q => by
  split at q
  · next h =>
    unfold fsSet at q
    rw [sat_bind] at q
    exact ⟨h, fLc_w q⟩
  · exact q.elim
/-! ### loops -/
def forF (g : FG) (b : FS) : List D → En → Tr Out
  | [], env => .ret (.nx env)
  | d :: ds, env => (Tr.of (g d env)).bind fun e => (b e).bind fun o => match o with
    | .nx e2 => forF g b ds e2
    | .ct e2 => forF g b ds e2
    | .bk e2 => .ret (.nx e2)
    | .rt d => .ret (.rt d)
def fsFor (fi : FA) (g : FG) (b : FS) : FS := fun env => (fi env).bind fun ds => forF g b ds env
theorem forF_w {W : WEn} : ∀ (ds : List D) (env : En), (forF g s ds env).sat (Out.to W) W.xe → wForL (wG g) (wS s) W ds env
  | [], env, q => q
  | d :: ds, env, q => by
    unfold forF at q
    rw [sat_bind] at q
    obtain ⟨e, he, q⟩ := sat_of.mp q
    refine ⟨e, he, ?_⟩
    rw [sat_bind] at q
    refine sat_mono (fun o q => ?_) (fun _ _ _ q => q) _ q
    cases o with
    | nx e2 => exact forF_w ds e2 q
    | ct e2 => exact forF_w ds e2 q
    | bk e2 => exact q
    | rt d => exact q
theorem vs_for (hp : PassesOwn (model X.prog X.w) X.A X.env X.xe) (hc : X.calm = true) (hi : VI X E tg e fi) (t : VTg X tg is g) (hb : VB X E bl s) (hs : ∀ x, foldedSetIterable e X.env x = pure x := by intro _; rfl) :
    VS X E (.For tg e bl [] pos) (fsFor fi g s) := US.v (us_for hp hc hi t hb hs) fun W env q => by
  unfold fsFor at q
  rw [sat_bind] at q
  exact sat_mono (fun ds q => forF_w ds env q) (fun _ _ _ q => q) _ q
def whF (c : FT) (b : FS) : Nat → En → Tr Out
  | 0, _ => .bad
  | n + 1, env => (c env).bind fun k => if k = true then (b env).bind fun o => match o with
    | .nx e2 => whF c b n e2
    | .ct e2 => whF c b n e2
    | .bk e2 => .ret (.nx e2)
    | .rt d => .ret (.rt d) else .ret (.nx env)
/-- turns enough for every while here -/
def fuel : Nat := 1000000
def fsWhile (c : FT) (b : FS) : FS := fun env => whF c b fuel env
theorem whF_w {W : WEn} : ∀ (n : Nat) (env : En), (whF ft s n env).sat (Out.to W) W.xe → wWh (wFT ft) (wS s) W n env
  | 0, env, q => q
  | n + 1, env, q => by
    unfold whF at q
    rw [sat_bind] at q
    refine sat_mono (fun k q => ?_) (fun _ _ _ q => q) _ q
    cases k with
    | false => exact q
    | true =>
      rw [if_pos rfl, sat_bind] at q
      refine sat_mono (fun o q => ?_) (fun _ _ _ q => q) _ q
      cases o with
      | nx e2 => exact whF_w n e2 q
      | ct e2 => exact whF_w n e2 q
      | bk e2 => exact q
      | rt d => exact q
theorem vs_while (hp : PassesOwn (model X.prog X.w) X.A X.env X.xe) (hc : VT X E c ft) (hb : VB X E bl s) : VS X E (.While c bl [] pos) (fsWhile ft s) := US.v (us_while hp hc hb) fun W env q => ⟨fuel, whF_w fuel env q⟩
/-- more turns do no harm -/
theorem whF_more {c : FT} {b : FS} {Q : Out → Prop} {z : XP} : ∀ (n m : Nat) (env : En), n ≤ m → (whF c b n env).sat Q z → (whF c b m env).sat Q z
  | 0, _, env, _, q => q.elim
  | n + 1, 0, env, h, q => absurd h (Nat.not_succ_le_zero n)
  | n + 1, m + 1, env, h, q => by
    unfold whF at q ⊢
    rw [sat_bind] at q ⊢
    refine sat_mono (fun k q => ?_) (fun _ _ _ q => q) _ q
    split
    · next hk =>
      rw [if_pos hk] at q
      rw [sat_bind] at q ⊢
      refine sat_mono (fun o q => ?_) (fun _ _ _ q => q) _ q
      cases o with
      | nx e2 => exact whF_more n m e2 (Nat.le_of_succ_le_succ h) q
      | ct e2 => exact whF_more n m e2 (Nat.le_of_succ_le_succ h) q
      | bk e2 => exact q
      | rt d => exact q
    · next hk =>
      rw [if_neg hk] at q
      exact q
/-! ### errors -/
def fsRaise (cl n : Str) (f : FE) : FS := fun env => (f env).bind fun d => .err cl [n] [d]
theorem vs_raise {cl n : Str} {pos2 : Pos} (c : Ctx j X E) (x : Exf (wd X) k cl n) (hk : k + 1 ≤ j) (hg : Gl X cl) (h : VE X E e f) (hdb : (cl == ("__debug__" : Str)) = false := by decide) (he : starEach [e] X.env = (false, eval e X.env) :: starEach [] X.env := by rfl) : VS X E (.Raise (some (.Call (.Name cl p) [e] [] pos)) none pos2) (fsRaise cl n f) := US.v (us_raise c x hk hg h hdb he) fun W env q => by
  unfold fsRaise at q
  rw [sat_bind] at q
  exact q
def fsRaise0 (cl : Str) : FS := fun _ => .err cl [] []
theorem vs_raise0 {cl : Str} {pos2 : Pos} (c : Ctx j X E) (x : Ex0 (wd X) cl) (hg : Gl X cl) (hdb : (cl == ("__debug__" : Str)) = false := by decide) : VS X E (.Raise (some (.Call (.Name cl p) [] [] pos)) none pos2) (fsRaise0 cl) := US.v (us_raise0 c x hg hdb) fun _ _ q => q
/-! ### draws -/
def fsDrawS (i : Nat) : FS := fun env => match env[i]? with
  | some (.fz .drw) => .ret (.nx env)
  | _ => .bad
end
/-! ### defs -/
/-- what a def's body gives -/
def Out.fin : Out → Tr D
  | .nx _ => .ret .non
  | .rt d => .ret d
  | _ => .bad
/-- a def of n names, np of them parameters, over its body -/
def fnF (np n : Nat) (s : FS) : FR := fun ds => if ds.length = np then (s (start n ds)).bind Out.fin else .bad
/-- __init__ -/
def Out.finI : Out → Tr D
  | .nx e => match (e[0]? : Option Vl) with
    | some (.ow (.ins c ns vs)) => .ret (.ins c ns vs)
    | _ => .bad
  | _ => .bad
def inF (np n : Nat) (c : Str) (s : FS) : FR := fun ds => if ds.length = np then (s (startI n c ds)).bind Out.finI else .bad
section
variable {V : Wd} {k np : Nat} {f : Addr} {fd : FuncData} {x qual : Str} {params : Arguments} {body : List Stmt} {scope : Scope} {N ps : List Str} {s : FS}
theorem fnF_w {np n : Nat} {ds : List D} {Q : D → Prop} {z : XP} (q : fwOf (fnF np n s) ds Q z) : wS s (endU Q z) (start n ds) := by
  unfold fwOf fnF at q
  split at q
  · rw [sat_bind] at q
    refine sat_mono (fun o q => ?_) (fun _ _ _ q => q) _ q
    cases o with
    | nx e => exact q
    | rt d => exact q
    | bk e => exact q.elim
    | ct e => exact q.elim
  · exact q.elim
theorem fnV_ok (hV : V.w = Wo.w) (F : FunD V.K x qual params body scope [] [] f fd) (S : FnScope N ps scope) (hb : ∀ cdv A outer s0 H E, Ctx k (bodyX V N qual scope f cdv A outer s0 H E) E → VB (bodyX V N qual scope f cdv A outer s0 H E) E body s) (hn : np = ps.length) {n : Nat} (hN : n = N.length) :
    FnOk V.P V.w V.K V.mg V.base (L2.CX V.P V.w) (k + 1) f fd ps (spU V.K ps.length (fwOf (fnF np n s))) := by
  subst hn hN
  exact fn_ok hV F S hb fun ds Q z _ q => fnF_w q
theorem inF_w {np n : Nat} {c : Str} {ds : List D} {Q : D → Prop} {z : XP} (q : fwOf (inF np n c s) ds Q z) : wS s (endI Q z) (startI n c ds) := by
  unfold fwOf inF at q
  split at q
  · rw [sat_bind] at q
    refine sat_mono (fun o q => ?_) (fun _ _ _ q => q) _ q
    cases o with
    | nx e =>
      have q2 : (match (e[0]? : Option Vl) with
        | some (.ow (.ins c ns vs)) => Tr.ret (D.ins c ns vs)
        | _ => Tr.bad).sat Q z := q
      clear q
      split at q2
      · next c2 ns vs he => exact ⟨c2, ns, vs, he, q2⟩
      · exact q2.elim
    | _ => exact q.elim
  · exact q.elim
theorem inV_ok (hV : V.w = Wo.w) {c p0 : Str} (F : FunD V.K x qual params body scope [] [] f fd) (S : FnScope N (p0 :: ps) scope) (hN0 : 0 < N.length) (hb : ∀ cdv A outer s0 H E, Ctx k (bodyX V N qual scope f cdv A outer s0 H E) E → VB (bodyX V N qual scope f cdv A outer s0 H E) E body s) (hn : np = ps.length) {n : Nat} (hN : n = N.length) :
    FnOk V.P V.w V.K V.mg V.base (L2.CX V.P V.w) (k + 1) f fd (p0 :: ps) (spI V.K c ps.length (fwOf (inF np n c s))) := by
  subst hn hN
  exact init_ok hV F S hN0 hb fun ds Q z _ q => inF_w q
end
end U
/-! U22: own lists and dicts of own things. -/
namespace U
open PySem PySem.Spec PyProof.Rows L2
variable [Wo]
section
variable {K : PySem.W.Frag} {me : Option Addr} {dr sa : Addr} {F0 H0 F H F' H' : Hp} {σ : L2.St} {env : En} {ft : Nat → List Addr}
theorem OwL.evo {qs : List Addr} {ds : List D} (a : Evo dr sa F H F' H') (h : OwL K dr F H qs ds) : OwL K dr F' H' qs ds :=
  h.move a.fs (fun q hq fq => by
    obtain ⟨_, _, u, hu⟩ := h.there q hq
    exact a.out fq hu) fun q hq o t e => a.keep q o (h.there q hq).1 t e
theorem OwL.off {qs : List Addr} {ds : List D} {p : Addr} {u : HO} (h : OwL K dr F H qs ds) (hp : p ∉ qs) : OwL K dr F (upd H p u) qs ds :=
  h.move (Sub.refl F) (fun _ _ z => z) fun q hq o _ e => by
    have ne : q ≠ p := fun z => hp (z ▸ hq)
    rw [upd_ne ne]
    exact e
theorem OwL.app : ∀ {qs rs : List Addr} {ds es : List D}, OwL K dr F H qs ds → OwL K dr F H rs es → OwL K dr F H (qs ++ rs) (ds ++ es)
  | [], _, [], _, _, h => h
  | [], _, _ :: _, _, h, _ => h.elim
  | _ :: _, _, [], _, h, _ => h.elim
  | q :: qs, _, d :: ds, _, ⟨h1, h2, h3, h4⟩, g => ⟨h1, h2, h3, OwL.app h4 g⟩
theorem OwL.len : ∀ {qs : List Addr} {ds : List D}, OwL K dr F H qs ds → qs.length = ds.length
  | [], [], _ => rfl
  | [], _ :: _, h => h.elim
  | _ :: _, [], h => h.elim
  | _ :: qs, _ :: ds, h => by rw [List.length_cons, List.length_cons, OwL.len h.2.2.2]
theorem OwL.at_ : ∀ {qs : List Addr} {ds : List D} {i : Nat} {d : D}, OwL K dr F H qs ds → ds[i]? = some d → ∃ q, qs[i]? = some q ∧ q ≠ dr ∧ F q = none ∧ Own K dr F H q d
  | [], [], _, _, _, e => nomatch e
  | [], _ :: _, _, _, h, _ => h.elim
  | _ :: _, [], _, _, h, _ => h.elim
  | q :: qs, d :: ds, 0, d', ⟨h1, h2, h3, h4⟩, e => by
    cases e
    exact ⟨q, rfl, h1, h2, h3⟩
  | q :: qs, d :: ds, i + 1, d', ⟨h1, h2, h3, h4⟩, e => by
    rw [List.getElem?_cons_succ] at e
    obtain ⟨r, hr, g⟩ := OwL.at_ h4 e
    exact ⟨r, by rw [List.getElem?_cons_succ]; exact hr, g⟩
/-- one of them changed -/
theorem OwL.chg : ∀ {qs : List Addr} {ds : List D} {i : Nat} {q : Addr} {d' : D} {u : HO}, qs.Nodup → OwL K dr F H qs ds → qs[i]? = some q → Own K dr F (upd H q u) q d' → OwL K dr F (upd H q u) qs (ds.set i d')
  | [], _, _, _, _, _, _, _, e, _ => nomatch e
  | _ :: _, [], _, _, _, _, _, h, _, _ => h.elim
  | q :: qs, d :: ds, 0, q', d', u, nd, ⟨h1, h2, h3, h4⟩, e, o => by
    cases e
    exact ⟨h1, h2, o, h4.off (List.nodup_cons.mp nd).1⟩
  | q :: qs, d :: ds, i + 1, q', d', u, nd, ⟨h1, h2, h3, h4⟩, e, o => by
    rw [List.getElem?_cons_succ] at e
    obtain ⟨n1, n2⟩ := List.nodup_cons.mp nd
    have ne : q ≠ q' := fun z => n1 (z ▸ List.mem_of_getElem? e)
    exact ⟨h1, h2, h3.move (Sub.refl F) fun o _ e => by rw [upd_ne ne]; exact e, OwL.chg n2 h4 e o⟩
/-! ### let go -/
/-- locked one after the other -/
def Lks : List Addr → Hp → (Hp → Prop) → Prop
  | [], H, P => P H
  | p :: ps, H, P => ∃ u, H p = some u ∧ Mut (some u) ∧ ∀ od, Lks ps (upd H p (.frz od u)) P
theorem Lks.mono {P P' : Hp → Prop} (h : ∀ H, P H → P' H) : ∀ (ps : List Addr) (H : Hp), Lks ps H P → Lks ps H P'
  | [], H, q => h H q
  | p :: ps, H, ⟨u, a, b, c⟩ => ⟨u, a, b, fun od => Lks.mono h ps _ (c od)⟩
theorem Lks.app {P : Hp → Prop} : ∀ (ps qs : List Addr) (H : Hp), Lks ps H (fun H' => Lks qs H' P) → Lks (ps ++ qs) H P
  | [], qs, H, q => q
  | p :: ps, qs, H, ⟨u, a, b, c⟩ => ⟨u, a, b, fun od => Lks.app ps qs _ (c od)⟩
theorem PS.lks {X : Cx} {st : Stmt} {t : TS} (h : PS X st t) : PS X st (fun D σ H => ∃ ps, Lks ps H (t D σ)) :=
  ⟨fun pins s σ H D I ⟨ps, q⟩ => by
    have go : ∀ (ps : List Addr) (H : Hp), Inv X pins σ H s → Lks ps H (t D σ) → wpAny (model X.prog X.w) X.A (exec st X.env) (SP X pins D) X.xe s := fun ps => by
      induction ps with
      | nil => exact fun H I q => h.run pins s σ H D I q
      | cons p ps ih =>
        intro H I q
        obtain ⟨u, hu, mu, q⟩ := q
        obtain ⟨od, I2⟩ := I.lock hu mu
        exact ih _ I2 (q od)
    exact go ps H I q⟩
/-- a thing that no slot holds stands from now on -/
theorem SsF.standA (S : SsF K me dr sa F0 H0 F σ H env ft) {a : Addr} {u u2 : HO} (ha : ∀ j, a ∉ ft j) (nd : a ≠ dr) (fa : F a = none) (h0 : H0 a = none) (hu : H a = some u) (nt : NoT u) (nc : NoC a u) (nt2 : NoT u2) : SsF K me dr sa F0 H0 (upd F a u2) σ (upd H a u2) env ft := by
  have E := stand_at S.evo h0 fa nd hu nt nc nt2
  have sub : Sub F (upd F a u2) := fun x z h => by rw [upd_ne (ne_of_none h fa)]; exact h
  refine ⟨⟨E.toBs, fun i x h => ?_, S.out, S.dsj, S.len⟩, E, S.own0, S.self⟩
  have out : ∀ b ∈ ft i, b ≠ a := fun b hb z => ha i (z ▸ hb)
  exact (S.slt i x h).move sub (fun b hb => by rw [upd_ne (out b hb)]; exact (S.toSrF.at_ft hb).2.1) fun b hb z _ hz => by rw [upd_ne (out b hb)]; exact hz
/-- a slot forgotten, with what it holds -/
theorem SsF.drop (S : SsF K me dr sa F0 H0 F σ H env ft) (i : Nat) : SsF K me dr sa F0 H0 F σ H (env.set i .un) (fun j => if j = i then [] else ft j) := by
  have sub : ∀ j a, a ∈ (if j = i then [] else ft j) → a ∈ ft j := fun j a h => by
    by_cases q : j = i
    · rw [if_pos q] at h
      cases h
    · rw [if_neg q] at h
      exact h
  refine ⟨⟨S.toBs, fun j y h => ?_, fun j h => ?_, fun j k a hj hk => S.dsj j k a (sub j a hj) (sub k a hk), by rw [List.length_set, S.len]⟩, S.evo, fun j a hj => S.own0 j a (sub j a hj), fun a d hm hd h => ?_⟩
  · rcases set_get h with ⟨rfl, rfl, hl⟩ | ⟨ne, h⟩
    · rw [if_pos rfl]
      rfl
    · rw [if_neg ne]
      exact S.slt j y h
  · show (if j = i then [] else ft j) = []
    split
    · rfl
    · exact S.out j (set_none h)
  · rcases set_get h with ⟨_, e, _⟩ | ⟨ne, h⟩
    · cases e
    · exact S.self a d hm hd h
/-- the places that are locked when these things are let go -/
def lkD (a : Addr) : D → List Addr
  | .dct _ _ => [a]
  | .dcT _ _ => [a]
  | _ => []
def lkL : List Addr → List D → List Addr
  | q :: qs, d :: ds => lkD q d ++ lkL qs ds
  | _, _ => []
/-- an own object that no slot holds any more stands, locked if it must -/
theorem SsF.stand1 (S : SsF K me dr sa F0 H0 F σ H env ft) {a : Addr} {d : D} (ha : ∀ j, a ∉ ft j) (nd : a ≠ dr) (fa : F a = none) (h0 : H0 a = none) (o : Own K dr F H a d) :
    Lks (lkD a d) H fun H' => ∃ F', Sub F F' ∧ SsF K me dr sa F0 H0 F' σ H' env ft ∧ Rp K dr F' (.ref a) d ∧ (∀ b, b ≠ a → F' b = F b ∧ H' b = H b) := by
  obtain ⟨u0, hu0, nt, nc⟩ := o.noTC
  have sub : ∀ u, Sub F (upd F a u) := fun u x z h => by rw [upd_ne (ne_of_none h fa)]; exact h
  have off : ∀ u b, b ≠ a → upd F a u b = F b ∧ upd H a u b = H b := fun u b hb => ⟨upd_ne hb, upd_ne hb⟩
  have go : ∀ u2 : HO, NoT u2 → SsF K me dr sa F0 H0 (upd F a u2) σ (upd H a u2) env ft := fun u2 n2 => S.standA ha nd fa h0 hu0 nt nc n2
  cases d with
  | lst ds =>
    obtain ⟨xs, h1, h2⟩ := o
    have g := go (.lst xs) (fun _ z => nomatch z)
    rw [upd_self h1] at g
    exact ⟨_, sub _, g, .lst upd_same (RpA.mono (sub _) ds h2), fun b hb => ⟨upd_ne hb, rfl⟩⟩
  | dct ks vs =>
    obtain ⟨kvs, h1, h2, h3⟩ := o
    exact ⟨_, h1, trivial, fun od => ⟨_, sub _, go _ (fun _ z => nomatch z), .dct upd_same h2 (RpA.mono (sub _) vs h3), off _⟩⟩
  | dcT ks vs =>
    obtain ⟨kvs, h1, h2, h3, h4⟩ := o
    exact ⟨_, h1, trivial, fun od => ⟨_, sub _, go _ (fun _ z => nomatch z), .dcT upd_same h2 (RpA.mono (sub _) ks h3) (RpA.mono (sub _) vs h4), off _⟩⟩
  | ins c ns vs =>
    obtain ⟨C, dx, fs, h1, h2, h3, h4⟩ := o
    have g := go (.ins C dx fs) (fun _ z => nomatch z)
    rw [upd_self h1] at g
    exact ⟨_, sub _, g, .ins upd_same h2 h3 (RpA.mono (sub _) vs h4), fun b hb => ⟨upd_ne hb, rfl⟩⟩
  | _ => exact o.elim
theorem SsF.standL : ∀ {qs : List Addr} {ds : List D} {F H : Hp}, SsF K me dr sa F0 H0 F σ H env ft → OwL K dr F H qs ds → qs.Nodup → (∀ q ∈ qs, ∀ j, q ∉ ft j) → (∀ q ∈ qs, H0 q = none) →
    Lks (lkL qs ds) H fun H' => ∃ F', Sub F F' ∧ SsF K me dr sa F0 H0 F' σ H' env ft ∧ RpA K dr F' (qs.map V.ref) ds ∧ (∀ b, b ∉ qs → F' b = F b ∧ H' b = H b)
  | [], [], F, H, S, _, _, _, _ => ⟨F, Sub.refl F, S, .nil, fun b _ => ⟨rfl, rfl⟩⟩
  | [], _ :: _, _, _, _, h, _, _, _ => h.elim
  | _ :: _, [], _, _, _, h, _, _, _ => h.elim
  | q :: qs, d :: ds, F, H, S, ⟨h1, h2, h3, h4⟩, nd, hf, h0 => by
    obtain ⟨n1, n2⟩ := List.nodup_cons.mp nd
    have L := S.stand1 (hf q (List.mem_cons_self ..)) h1 h2 (h0 q (List.mem_cons_self ..)) h3
    refine Lks.app _ _ _ (Lks.mono (fun H' ⟨F', s, S', r, off⟩ => ?_) _ _ L)
    have h4' : OwL K dr F' H' qs ds := h4.move s (fun r hr fr => by
      have ne : r ≠ q := fun z => n1 (z ▸ hr)
      rw [(off r ne).1]
      exact fr) fun r hr o _ e => by
      have ne : r ≠ q := fun z => n1 (z ▸ hr)
      rw [(off r ne).2]
      exact e
    refine Lks.mono (fun H2 ⟨F2, s2, S2, r2, off2⟩ => ?_) _ _ (SsF.standL S' h4' n2 (fun r hr => hf r (List.mem_cons_of_mem _ hr)) fun r hr => h0 r (List.mem_cons_of_mem _ hr))
    refine ⟨F2, s.trans s2, S2, .cons (Rp.mono s2 d r) r2, fun b hb => ?_⟩
    rw [List.mem_cons, not_or] at hb
    obtain ⟨a1, a2⟩ := off b hb.1
    obtain ⟨b1, b2⟩ := off2 b hb.2
    exact ⟨b1.trans a1, b2.trans a2⟩
/-- an own thing of own things is let go -/
theorem Ss.freeze2 (S : Ss K me dr sa F0 H0 F σ H env) {i : Nat} {d : D} (hi : env[i]? = some (.ow2 d)) : ∃ ps, Lks ps H fun H' => ∃ F', Sub F F' ∧ Ss K me dr sa F0 H0 F' σ H' (env.set i (.fz d)) := by
  obtain ⟨ft, S⟩ := S
  obtain ⟨p, qs, el, si, nd, fp, nn, o⟩ := S.slt i _ hi
  have S1 := S.drop i
  have out : ∀ a ∈ p :: qs, ∀ j, a ∉ (fun j => if j = i then [] else ft j) j := fun a ha j h => by
    have h : a ∈ (if j = i then [] else ft j) := h
    by_cases q : j = i
    · rw [if_pos q] at h
      cases h
    · rw [if_neg q] at h
      exact q (S.dsj j i a h (by rw [el]; exact ha))
  have h0 : ∀ a ∈ p :: qs, H0 a = none := fun a ha => S.own0 i a (by rw [el]; exact ha)
  obtain ⟨n1, n2⟩ := List.nodup_cons.mp nn
  have hp := List.mem_cons_self (a := p) (l := qs)
  have e2 : ∀ x : Vl, (env.set i .un).set i x = env.set i x := fun x => List.set_set ..
  have es : σ.set i (some (.ref p)) = σ := by
    apply List.ext_getElem?
    intro j
    by_cases q : i = j
    · subst q
      rw [si, List.getElem?_set_self (List.getElem?_eq_some_iff.mp si).1]
    · rw [List.getElem?_set_ne q]
  -- the end: the whole stands too
  have fin : ∀ {F' H' : Hp} {u2 : HO} {u : HO}, Sub F F' → SsF K me dr sa F0 H0 F' σ H' (env.set i .un) (fun j => if j = i then [] else ft j) → F' p = none → H' p = some u → NoT u → NoC p u → NoT u2 → (∀ G, Sub F' G → G p = some u2 → Rp K dr G (.ref p) d) → ∃ G, Sub F G ∧ Ss K me dr sa F0 H0 G σ (upd H' p u2) (env.set i (.fz d)) := fun {F' H' u2 u} s S' f h nt nc nt2 r => by
    have S2 := S'.standA (u2 := u2) (out p hp) nd f (h0 p hp) h nt nc nt2
    have sub : Sub F' (upd F' p u2) := fun x z h => by rw [upd_ne (ne_of_none h f)]; exact h
    obtain ⟨ft', S3, _⟩ := S2.set i (.ref p) (.fz d) [] ⟨rfl, _, rfl, r _ sub upd_same⟩ (fun _ e => nomatch e) (fun a h => nomatch h) fun a h => nomatch h
    rw [e2, es] at S3
    exact ⟨_, s.trans sub, ft', S3⟩
  cases d with
  | lst ds =>
    obtain ⟨g1, g2⟩ := o
    refine ⟨lkL qs ds, Lks.mono (fun H' ⟨F', s, S', r, off⟩ => ?_) _ _ (S1.standL g2 n2 (fun q hq => out q (List.mem_cons_of_mem _ hq)) fun q hq => h0 q (List.mem_cons_of_mem _ hq))⟩
    obtain ⟨o1, o2⟩ := off p n1
    have z := fin (u2 := .lst (qs.map V.ref)) (u := .lst (qs.map V.ref)) s S' (by rw [o1]; exact fp) (by rw [o2]; exact g1) (fun _ z => nomatch z) (fun _ z => nomatch z) (fun _ z => nomatch z) fun G sG e => .lst e (RpA.mono sG ds r)
    rw [upd_self (by rw [o2]; exact g1)] at z
    exact z
  | dct ks vs =>
    obtain ⟨kvs, g1, g2, g3, g4⟩ := o
    refine ⟨lkL qs vs ++ [p], Lks.app _ _ _ (Lks.mono (fun H' ⟨F', s, S', r, off⟩ => ?_) _ _ (S1.standL g4 n2 (fun q hq => out q (List.mem_cons_of_mem _ hq)) fun q hq => h0 q (List.mem_cons_of_mem _ hq)))⟩
    obtain ⟨o1, o2⟩ := off p n1
    refine ⟨.dK kvs, by rw [o2]; exact g1, trivial, fun od => ?_⟩
    exact fin (u := .dK kvs) s S' (by rw [o1]; exact fp) (by rw [o2]; exact g1) (fun _ z => nomatch z) (fun _ z => nomatch z) (fun _ z => nomatch z) fun G sG e => .dct e g2 (by rw [g3]; exact RpA.mono sG vs r)
  | dcT ks vs =>
    obtain ⟨kvs, g1, g2, g3, g4, g5⟩ := o
    refine ⟨lkL qs vs ++ [p], Lks.app _ _ _ (Lks.mono (fun H' ⟨F', s, S', r, off⟩ => ?_) _ _ (S1.standL g5 n2 (fun q hq => out q (List.mem_cons_of_mem _ hq)) fun q hq => h0 q (List.mem_cons_of_mem _ hq)))⟩
    obtain ⟨o1, o2⟩ := off p n1
    refine ⟨GD Wo.w p kvs, by rw [o2]; exact g1, trivial, fun od => ?_⟩
    exact fin s S' (by rw [o1]; exact fp) (by rw [o2]; exact g1) gd_noT (fun q => gd_noC) (fun _ z => nomatch z) fun G sG e => .dcT e g2 (RpA.mono (s.trans sG) ks g3) (by rw [g4]; exact RpA.mono sG vs r)
  | _ => exact o.elim
end
end U
/-! X1: == and != by an own __eq__, bool() by an own __bool__. -/
namespace U
open PySem PySem.Spec PyProof.Rows L2 Tr
variable [Wo]

section
variable {prog : Program} {w : World} {A : Around} {E : Value → Shared → Prop} {s : Shared} {K : PySem.W.Frag} {x C f : Addr} {ox : Obj} {od : Option Obj} {b tb : Value}
/-- what the other one's type is: the class itself, or one not below it -/
def Beside (prog : Program) (w : World) (h : Heap) (C : Addr) (tb : Value) : Prop := tb = .ref C ∨ PySem.W.Looks (model prog w) h (isSubtype tb (.ref C)) false
/-- a comparison that the left one answers -/
theorem cmp_left {op : CmpOp} {Q : Value → Shared → Prop} (hu : A.units < cLine) (J : PySem.W.InstAt s.heap x ox C od) (hb : PySem.W.Looks (model prog w) s.heap (typeOf b) tb) (hn : Beside prog w s.heap C tb)
    (h : wpAny (model prog w) A (tryCompare (.ref x) (cmpInfo op).2.1 b) (fun r s' => ∃ v, r = some v ∧ Q v s') E s) :
    wpAny (model prog w) A (richCompare op (.ref x) b) Q E s := by
  have last : ∀ {r : Option Value} {s' : Shared}, (∃ v, r = some v ∧ Q v s') → ∃ v, r = some v ∧ Q v s' := fun z => z
  unfold richCompare
  simp only [oneThing_ref]
  refine wpAny_holding ?_
  refine wpAny_bind (wpAny_cRoomFor hu ?_)
  refine wpAny_bind (J.type.here ?_)
  refine wpAny_bind (hb.here ?_)
  by_cases q : (Value.ref C != tb) = true
  · rw [if_pos q]
    rcases hn with e | l
    · subst e
      simp at q
    · refine wpAny_bind (l.here ?_)
      rw [if_neg Bool.false_ne_true]
      refine wpAny_bind (wpAny_mono h (fun r s' z => ?_) fun _ _ e => e)
      obtain ⟨v, e, hq⟩ := z
      subst e
      exact wpAny_pure hq
  · rw [if_neg q]
    refine wpAny_bind (wpAny_pure ?_)
    rw [if_neg Bool.false_ne_true]
    refine wpAny_bind (wpAny_mono h (fun r s' z => ?_) fun _ _ e => e)
    obtain ⟨v, e, hq⟩ := z
    subst e
    exact wpAny_pure hq
/-- == asked of an own __eq__ -/
theorem try_eq {Q : Option Value → Shared → Prop} (X : K.In s.heap) (J : PySem.W.InstAt s.heap x ox C od) (hs : PySem.W.findIn K (.ref C) "__eq__" = some (some (.ref f))) (hf : PySem.W.isFn K (.ref f) = true)
    (h : wpAny (model prog w) A (call (.ref f) [.ref x, b]) (fun v s' => ∃ k, v = .bool k ∧ Q (some (.bool k)) s') E s) : wpAny (model prog w) A (tryCompare (.ref x) "__eq__" b) Q E s := by
  unfold tryCompare
  refine wpAny_bind (PySem.W.ifBound_K X J hs hf (wpAny_mono h (fun v s' hv => ?_) fun _ _ e => e))
  obtain ⟨k, e, hq⟩ := hv
  subst e
  exact wpAny_pure hq
/-- what the written part says of a class for != -/
def neB (K : PySem.W.Frag) (C : Addr) : Bool := decide (PySem.W.findIn K (.ref C) "__ne__" = some (some (.builtin "object.__ne__"))) && decide (PySem.W.mroIn K C (.type "object") = some true)
/-- != asked of object's __ne__, which asks the own __eq__ -/
theorem try_ne {Q : Option Value → Shared → Prop} (hu : A.units + 1 < cLine) (X : K.In s.heap) (J : PySem.W.InstAt s.heap x ox C od) (hn : neB K C = true) (hs : PySem.W.findIn K (.ref C) "__eq__" = some (some (.ref f))) (hf : PySem.W.isFn K (.ref f) = true)
    (h : wpAny (model prog w) A.in1 (call (.ref f) [.ref x, b]) (fun v s' => ∃ k, v = .bool k ∧ Q (some (.bool (!k))) s') E s) : wpAny (model prog w) A (tryCompare (.ref x) "__ne__" b) Q E s := by
  have n1 : PySem.W.findIn K (.ref C) "__ne__" = some (some (.builtin "object.__ne__")) := of_decide_eq_true (ba hn).1
  have n2 : PySem.W.mroIn K C (.type "object") = some true := of_decide_eq_true (ba hn).2
  have body : wpAny (model prog w) A (call (.builtin "object.__ne__") [.ref x, b]) (fun v s' => ∃ k, v = .bool k ∧ Q (some (.bool k)) s') E s := by
    refine wpAny_call (codeAny_call_builtin F.cmp_object.ne.plain F.cmpEntry_ne (PySem.W.check_slot F.cmpKind_ne F.cmpSplit_ne (J.type.andThen (PySem.W.looks_mroIn X n2)) (F.cmpArgs_ne _ _) ?_))
    show wpAny (model prog w) A.in1 (Builtin.«object.__ne__» ⟨[.ref x, b], []⟩) _ _ s
    unfold Builtin.«object.__ne__»
    repeat (first
      | with_reducible refine wpAny_cRoomFor (show A.in1.units < cLine from hu) ?_
      | (refine wpAny_bind (m := callSpecialIfBound? (.ref x) (Str.ofString "__eq__") [b]) (PySem.W.ifBound_K X J hs hf (wpAny_mono h (fun r s' hr => by
          obtain ⟨k, e, hq⟩ := hr
          subst e
          have hq' : ∃ k', Value.bool (!k) = .bool k' ∧ Q (some (.bool k')) s' := ⟨_, rfl, hq⟩
          repeat (first | exact hq' | exact wpAny_pure hq' | exact wpAny_truthy_bool hq' | (refine wpAny_bind (m := truthy (.bool _)) (wpAny_truthy_bool ?_)) | wp_step)) fun _ _ e => e)))
      | wp_step)
  unfold tryCompare
  refine wpAny_bind ?_
  simp only [callSpecialIfBound?, bindSpecialIfBound?]
  refine wpAny_holding (wpAny_bind (wpAny_bind (wpAny_bind (J.type.here ((PySem.W.looks_findIn X n1).here ?_)))))
  refine wpAny_bind (wpAny_askSetting (wpAny_ite ?_))
  have fin : wpAny (model prog w) A (call (.builtin "object.__ne__") ([.ref x] ++ [b]) >>= fun v => pure (some v)) (fun r s' => wpAny (model prog w) A (match r with | some .notImplemented | none => pure none | some v => pure (some v)) Q E s') E s :=
    wpAny_bind (wpAny_mono body (fun v s' z => by
      obtain ⟨k, e, hq⟩ := z
      subst e
      exact wpAny_pure (wpAny_pure hq)) fun _ _ e => e)
  split
  · exact wpAny_bind (wpAny_of_eq (F.cmp_object.ne.bind _) (wpAny_pure (by exact fin)))
  · exact wpAny_tryCatch (wpAny_bind (wpAny_of_eq (F.cmp_object.ne.bind _) (wpAny_pure (by exact fin))))
end
section
variable {K : PySem.W.Frag} {dr : Addr} {F H : Hp} {cs : List Str} {prog : Program} {w : World}
theorem beside_kit {h0 : Heap} {C : Addr} {tb : Value} (X : K.In h0) (e : PySem.W.kitOne K tb (.ref C) = some false) : Beside prog w h0 C tb := by
  unfold PySem.W.kitOne at e
  split at e
  · cases e
  · exact .inr (PySem.W.kit_cls X e).2.2
/-- the other one's type, beside the class c -/
theorem beside_of (f : IsF K cs) (sub : Sub F H) {c : Str} {d : D} {v : V} (h : (isO cs d (.cls c)).isSome = true) (r : RO K dr F H v d) : ∃ tv, TyU K H v tv ∧ ∀ h0 : Heap, K.In h0 → Beside prog w h0 (He.ga K c) tv := by
  by_cases hc : c ∈ cs
  · by_cases q : ∃ c0 ns vs, d = .ins c0 ns vs
    · obtain ⟨c0, ns, vs, e⟩ := q
      subst e
      by_cases hc0 : c0 ∈ cs
      · have hty : TyU K H v (.ref (He.ga K c0)) := by
          rcases r with r | ⟨p, e, _, _, C, dx, fs, g1, g2, _⟩
          · cases r with
            | ins g1 g2 g3 g4 =>
              subst g2
              exact isF4 f hc0 (sub _ _ g1)
          · subst e
            subst g2
            exact isF4 f hc0 g1
        refine ⟨_, hty, fun h0 X => ?_⟩
        by_cases e : c0 = c
        · exact .inl (by rw [e])
        · have k := isF3 f hc0 hc
          rw [decide_eq_false e] at k
          exact beside_kit X k
      · exfalso
        unfold isO at h
        dsimp only at h
        rw [if_pos hc, if_neg hc0] at h
        exact Bool.noConfusion h
    · have hm : ∃ m, tyD d = some m := by
        cases e : tyD d with
        | some m => exact ⟨m, rfl⟩
        | none =>
          exfalso
          unfold isO at h
          dsimp only at h
          rw [if_pos hc] at h
          split at h
          · exact q ⟨_, _, _, rfl⟩
          · rw [e] at h
            exact Bool.noConfusion h
      obtain ⟨m, hm⟩ := hm
      exact ⟨_, ty_of sub hm r, fun h0 X => beside_kit X (isF2 f hc (tyD_mem hm))⟩
  · exfalso
    unfold isO at h
    dsimp only at h
    rw [if_neg hc] at h
    exact Bool.noConfusion h
end
/-- the classes with an own m, and what it does: a def of so many parameters, below level j -/
abbrev Tab := List (Str × FR)
def TabOk (V : Wd) (j : Nat) (m : Str) (n : Nat) (T : Tab) : Prop := ∀ c g, T.lookup c = some g → ∃ k, k + 1 ≤ j ∧ Mt V k c m n (fwOf g)
section
variable {X : Cx} {E : XK} {j : Nat} {T : Tab} {cs : List Str} {a b e : Expr} {f f1 f2 : FE} {pos p : Pos}
/-- x == y, x != y, x an instance of a class of the table: its __eq__ is called -/
def rOwnT (X : Cx) (E : XK) (T : Tab) (neg : Bool) : R2 := fun x y H Q => ∃ c g a dx fs tb, T.lookup c = some g ∧ x = .ref a ∧ H a = some (.ins (He.ga X.K c) dx fs) ∧ TyU X.K H y tb ∧ (∀ h0 : Heap, X.K.In h0 → Beside X.prog X.w h0 (He.ga X.K c) tb) ∧
  spU X.K 2 (fwOf g) [x, y] H (fun v H' => ∃ b, v = .bl b ∧ Q (.bl (if neg = true then !b else b)) H') E
theorem op_ownT {op : CmpOp} {neg : Bool} (c : Ctx j X E) (hT : TabOk (wd X) j "__eq__" 2 T) (hn : ∀ c g, T.lookup c = some g → neB X.K (He.ga X.K c) = true) (hop : op = .Eq ∧ neg = false ∨ op = .NotEq ∧ neg = true) : OpR X (compareOp op) (rOwnT X E T neg) := by
  intro pins s σ H x y v u Q I rx ry ⟨cl, g, a, dx, fs, tb, hl, ex, ha, ty, bs, q⟩
  subst ex
  cases (show v = Value.ref a from rx)
  obtain ⟨k, hk, ⟨f0, fd, ps, Fo, cc, hm, hb⟩, fm⟩ := hT cl g hl
  obtain ⟨mA, J, _⟩ := ins_get I.hok ha
  obtain ⟨od, J, _⟩ := J.look
  obtain ⟨P, Z, hp, _⟩ := kitU I ry ty
  have look := Z.ty (model X.prog X.w) s.heap I.kIn hp
  have bes := bs s.heap I.kIn
  have hu := c.hu1
  have hx := c.pass
  have hl2 := Fo.len _ _ _ _ q
  have r2 : Vals [V.ref a, y] [Value.ref a, u] := .cons rfl (.cons ry .nil)
  rcases hop with ⟨e1, e2⟩ | ⟨e1, e2⟩
  · subst e1
    subst e2
    show wpAny (model X.prog X.w) X.A (richCompare .Eq (.ref a) u) _ _ s
    refine cmp_left (Nat.lt_of_succ_lt hu) J look bes (try_eq I.kIn J hm.at_ hm.fn ?_)
    refine wpAny_mono (run_fn Fo (c.room.mono (by omega)) hb .nil hx I r2 q) (fun z s' h => ?_) fun _ _ h => h
    obtain ⟨w', H', I', rz, b, e, q'⟩ := h
    subst e
    cases (show z = Value.bool b from rz)
    exact ⟨b, rfl, _, rfl, .bl b, H', I', rfl, by simpa using q'⟩
  · subst e1
    subst e2
    show wpAny (model X.prog X.w) X.A (richCompare .NotEq (.ref a) u) _ _ s
    refine cmp_left (Nat.lt_of_succ_lt hu) J look bes (try_ne hu I.kIn J (hn cl g hl) hm.at_ hm.fn ?_)
    have bd := hb s [Value.ref a, u] I.kIn (by simpa using hl2)
    rw [List.append_nil] at bd
    refine wpAny_call (codeAny_mono (Fo.run X.A.in1 X.stack s H ⟨[.ref a, u], []⟩ _ _ _ E ((c.room.mono hk).in1) I.env0.in1 bd r2 q) fun r s' hq => ?_)
    cases r with
    | error e => exact hx pins σ H s e s' I hq
    | ok fl =>
      cases fl with
      | ret z =>
        obtain ⟨w', H', I', rz, b, e, q'⟩ := I.after hq
        subst e
        cases (show z = Value.bool b from rz)
        exact ⟨b, rfl, _, rfl, .bl (!b), H', I', rfl, by simpa using q'⟩
      | next => exact False.elim hq
      | brk => exact False.elim hq
      | cont => exact False.elim hq

/-! ### comparisons with errors, of things that stand -/
abbrev OX := D → D → Tr D
def OpX (X : Cx) (E : XK) (r : R2) (o : OX) : Prop := ∀ dr sa F H x y d1 d2 (Q : VK), Bs dr sa F H → Rp X.K dr F x d1 → Rp X.K dr F y d2 → (o d1 d2).sat (fun d => ∀ v F' H', Evo dr sa F H F' H' → Rp X.K dr F' v d → Q v H') (xw E X.K dr sa F H) → r x y H Q
structure CmpX (X : Cx) (E : XK) (op : CmpOp) (o : OX) : Prop where
  h : ∃ r, OpR X (compareOp op) r ∧ OpX X E r o
def fOx (o : OX) (f1 f2 : FE) : FE := fun env => (f1 env).bind fun a => (f2 env).bind fun b => o a b
theorem fOx_w {o : OX} {env : En} {Q : D → Prop} {z : XP} (q : (fOx o f1 f2 env).sat Q z) : (f1 env).sat (fun d1 => (f2 env).sat (fun d2 => (o d1 d2).sat Q z) z) z := by
  unfold fOx at q
  rw [sat_bind] at q
  exact sat_mono (fun d q => by rwa [sat_bind] at q) (fun _ _ _ q => q) _ q
theorem ve_cmpx {op : CmpOp} {o : OX} (cv : CmpX X E op o) (ha : VE X E a f1) (hb : VE X E b f2) (hm : behindInMarks op b = false) : VE X E (.Compare a [op] [b] pos) (fOx o f1 f2) := by
  obtain ⟨r, hr, ho⟩ := cv
  refine ⟨PE.wk (pe_cmpR hr ha.pe hb.pe hm) fun σ H Q ⟨dr, sa, F, env, S, q⟩ => ?_, wF_mono⟩
  refine ⟨dr, sa, F, env, S, ha.mono env _ _ _ _ (fun d1 q1 v1 F1 H1 e1 r1 => ?_) (fun _ _ _ z => z) (fOx_w q)⟩
  refine ⟨dr, sa, F1, env, S.evo e1, hb.mono env _ _ _ _ (fun d2 q2 v2 F2 H2 e2 r2 => ?_) (fun _ _ _ z => z.evo e1) q1⟩
  exact ho dr sa F2 H2 v1 v2 d1 d2 Q e2.toBs (Rp.mono e2.fs _ r1) r2 (sat_mono (fun d q3 v F' H' e3 r3 => q3 v F' H' ((e1.trans e2).trans e3) r3) (fun _ _ _ z => z.evo (e1.trans e2)) _ q2)
theorem vt_cmpx {op : CmpOp} {o : OX} (cv : CmpX X E op o) (ha : VE X E a f1) (hb : VE X E b f2) (hm : behindInMarks op b = false) : VT X E (.Compare a [op] [b] pos) (fT (fOx o f1 f2)) := by
  obtain ⟨r, hr, ho⟩ := cv
  refine ⟨PT.wk (pt_cmpR hr ha.pe hb.pe hm) fun σ H Q ⟨dr, sa, F, env, S, q⟩ => ?_, fun env Q Q' x x' k kx q => sat_mono k kx _ q⟩
  unfold wFT fT at q
  rw [sat_bind] at q
  refine ⟨dr, sa, F, env, S, ha.mono env _ _ _ _ (fun d1 q1 v1 F1 H1 e1 r1 => ?_) (fun _ _ _ z => z) (fOx_w q)⟩
  refine ⟨dr, sa, F1, env, S.evo e1, hb.mono env _ _ _ _ (fun d2 q2 v2 F2 H2 e2 r2 => ?_) (fun _ _ _ z => z.evo e1) q1⟩
  refine ho dr sa F2 H2 v1 v2 d1 d2 _ e2.toBs (Rp.mono e2.fs _ r1) r2 (sat_mono (fun d q3 v F' H' e3 r3 => ?_) (fun _ _ _ z => z.evo (e1.trans e2)) _ q2)
  obtain ⟨k, e, r⟩ := isBl_w q3
  subst e
  exact ⟨k, rp_bl r3, r F' H' ((e1.trans e2).trans e3)⟩
/-- == and != with a table of own ones -/
def oxEq (cs : List Str) (T : Tab) (neg : Bool) : OX := fun a b => match a with
  | .ins c _ _ => match T.lookup c with
    | some g => if (isO cs b (.cls c)).isSome = true then (g [a, b]).bind fun d => (isBl d).bind fun k => .ret (.bl (if neg = true then !k else k)) else .bad
    | none => .bad
  | _ => .of ((if neg = true then foNe else foEq) a b)
theorem oxEq_own {neg : Bool} (f : IsF X.K cs) : OpX X E (fun x y H Q => rOwnT X E T neg x y H Q ∨ (if neg = true then rNeD X.K else rEqD X.K) x y H Q) (oxEq cs T neg) := by
  intro dr sa F H x y d1 d2 Q B r1 r2 q
  unfold oxEq at q
  split at q
  · rename_i c ns vs
    split at q
    · rename_i g hl
      split at q
      · rename_i hi
        left
        obtain ⟨tv, ty, bs⟩ := beside_of (prog := X.prog) (w := X.w) f B.sub hi (.inl r2)
        have r0 := r1
        cases r1 with
        | @ins a0 C dx fs _ _ _ g1 g2 g3 g4 =>
          subst g2
          refine ⟨c, g, a0, dx, fs, tv, hl, rfl, B.sub _ _ g1, ty, bs, dr, sa, F, [.ins c ns vs, d2], B, .cons r0 (.cons r2 .nil), rfl, ?_⟩
          rw [sat_bind] at q
          refine sat_mono (fun d q v F' H' e r => ?_) (fun _ _ _ z => z) _ q
          obtain ⟨k, ek, q⟩ := isBl_sat q
          subst ek
          exact ⟨k, rp_bl r, q _ F' H' e (.bl _)⟩
      · exact q.elim
    · exact q.elim
  · right
    obtain ⟨r, er, q⟩ := sat_of.mp q
    cases neg with
    | true =>
      have er : foNe d1 d2 = some r := er
      unfold foNe at er
      split at er
      · next h =>
        cases er
        exact opd_ne dr sa F H x y d1 d2 Q B (.inl r1) (.inl r2) ⟨h.1, h.2, q⟩
      · cases er
    | false =>
      have er : foEq d1 d2 = some r := er
      unfold foEq at er
      split at er
      · next h =>
        cases er
        exact opd_eq dr sa F H x y d1 d2 Q B (.inl r1) (.inl r2) ⟨h.1, h.2, q⟩
      · cases er
theorem cx_eq (c : Ctx j X E) (f : IsF X.K cs) (hT : TabOk (wd X) j "__eq__" 2 T) (hn : ∀ c g, T.lookup c = some g → neB X.K (He.ga X.K c) = true) : CmpX X E .Eq (oxEq cs T false) :=
  ⟨_, OpR.or (op_ownT c hT hn (.inl ⟨rfl, rfl⟩)) (op_eqD c.hu), oxEq_own (neg := false) f⟩
theorem cx_ne (c : Ctx j X E) (f : IsF X.K cs) (hT : TabOk (wd X) j "__eq__" 2 T) (hn : ∀ c g, T.lookup c = some g → neB X.K (He.ga X.K c) = true) : CmpX X E .NotEq (oxEq cs T true) :=
  ⟨_, OpR.or (op_ownT c hT hn (.inr ⟨rfl, rfl⟩)) (op_neD c.hu), oxEq_own (neg := true) f⟩
end
end U
/-! X2: bool() by an own __bool__. -/
namespace U
open PySem PySem.Spec PyProof.Rows L2 Tr
variable [Wo]

section
variable {prog : Program} {w : World} {A : Around} {E : Value → Shared → Prop} {s : Shared} {K : PySem.W.Frag} {x C f : Addr} {ox : Obj} {od : Option Obj}
/-- the truth of an instance with an own __bool__ -/
theorem truth_own {Q : Bool → Shared → Prop} (X : K.In s.heap) (J : PySem.W.InstAt s.heap x ox C od) (hs : PySem.W.findIn K (.ref C) "__bool__" = some (some (.ref f))) (hf : PySem.W.isFn K (.ref f) = true)
    (h : wpAny (model prog w) A (call (.ref f) [.ref x]) (fun v s' => ∃ k, v = .bool k ∧ Q k s') E s) : wpAny (model prog w) A (truthy (.ref x)) Q E s := by
  unfold truthy
  refine wpAny_bind (m := callSpecial? (.ref x) (Str.ofString "__bool__")) (PySem.W.special_fn X J hs (beq_iff_eq.mp hf) (wpAny_mono h (fun r s' hr => ?_) fun _ _ y => y))
  obtain ⟨k, e, q⟩ := hr
  subst e
  exact wpAny_pure q
/-- bool() of what can be asked for its truth -/
theorem bool_of {v : Value} {Q : Value → Shared → Prop} (h : wpAny (model prog w) A.in1.in1 (truthy v) (fun k s' => Q (.bool k) s') E s) : wpAny (model prog w) A (call (.type "bool") [v]) Q E s := by
  refine callType_codes (T := "bool") (Bi := Builtin.«object.__init__») (Q₁ := fun r s₁ => ∃ k, r = Value.bool k ∧ Q r s₁) PySem.F.called_bool (PySem.F.typeCall_bool_1 _) PySem.F.entry_object_init ?_ ?_
  · refine codeAny_of_tree ?_
    show wpAny _ A.in1.in1 (do checkBuiltinCall "bool.__new__" ⟨[.type "bool", v], []⟩; again (.builtin "bool.__new__" ⟨[.type "bool", v], []⟩)) _ _ s
    refine wpAny_bind (wpAny_of_eq (PySem.F.newCall_bool_1 _) (wpAny_pure ⟨plainId_quiet (by decide +kernel) _, codeAny_builtin PySem.F.entry_bool_new ?_⟩))
    rw [Around.under_plainId (by decide +kernel) _]
    unfold Builtin.«bool.__new__»
    have f1 := F.conv_sub_bool
    repeat (any_goals (first
      | (refine wpAny_bind (m := truthy v) (wpAny_mono h (fun k s' hk => ?_) fun _ _ y => y))
      | wp_step))
    all_goals first | exact ⟨k, rfl, hk⟩ | exact wpAny_pure ⟨k, rfl, hk⟩ | exact wpAny_pure (wpAny_pure ⟨k, rfl, hk⟩) | skip
  · rintro obj s₁ ⟨k, rfl, hq⟩
    exact ⟨rfl, PySem.F.args_object_init_2 _ _, object_init_meets PySem.F.called_bool.init.lookup PySem.F.called_bool.made (by decide) prog w A.in1 _ s₁ ⟨rfl, rfl, hq⟩⟩
end
section
variable {X : Cx} {E : XK} {j j' : Nat} {T : Tab} {e : Expr} {f : FE} {pos p : Pos} {x : Str}
def rBoolT (X : Cx) (E : XK) (T : Tab) : List V → Hp → VK → Prop := fun xs H Q => ∃ c g a dx fs, T.lookup c = some g ∧ xs = [.ref a] ∧ H a = some (.ins (He.ga X.K c) dx fs) ∧ spU X.K 1 (fwOf g) [.ref a] H (fun v H' => ∃ b, v = .bl b ∧ Q (.bl b) H') E
theorem call_boolT (c : Ctx j X E) (hT : TabOk (wd X) j' "__bool__" 1 T) (hj : j' + 1 ≤ j) : CallR X (.type "bool") (rBoolT X E T) := by
  intro pins s σ H xs us Q I r ⟨cl, g, a, dx, fs, hl, ex, ha, q⟩
  subst ex
  obtain ⟨u, eu, ru⟩ := r.one
  subst eu
  cases (show u = Value.ref a from ru)
  obtain ⟨k, hk, ⟨f0, fd, ps, Fo, cc, hm, hb⟩, fm⟩ := hT cl g hl
  obtain ⟨mA, J, _⟩ := ins_get I.hok ha
  obtain ⟨od, J, _⟩ := J.look
  have hl2 := Fo.len _ _ _ _ q
  have bd := hb s [Value.ref a] I.kIn (by simpa using hl2)
  rw [List.append_nil] at bd
  have rs : Vals [V.ref a] [Value.ref a] := .cons rfl .nil
  have rm : Room k X.A.in1.in1 := ((c.room.mono (show k + 2 ≤ j by omega)).in1).in1
  refine bool_of (truth_own I.kIn J hm.at_ hm.fn (wpAny_call (codeAny_mono (Fo.run X.A.in1.in1 X.stack s H ⟨[.ref a], []⟩ _ _ _ E rm I.env0.in1.in1 bd rs q) fun r s' hq => ?_)))
  cases r with
  | error e => exact c.pass pins σ H s e s' I hq
  | ok fl =>
    cases fl with
    | ret z =>
      obtain ⟨w', H', I', rz, b, e, q'⟩ := I.after hq
      subst e
      cases (show z = Value.bool b from rz)
      exact ⟨b, rfl, .bl b, H', I', rfl, q'⟩
    | next => exact False.elim hq
    | brk => exact False.elim hq
    | cont => exact False.elim hq
theorem boot_bool' : bootBuiltins "bool" = some (.type "bool") := by decide +kernel
def boolT (T : Tab) : D → Tr D := fun d => match d with
  | .ins c _ _ => match T.lookup c with
    | some g => (g [d]).bind fun r => (isBl r).bind fun k => .ret (.bl k)
    | none => .bad
  | .bl k => .ret (.bl k)
  | .int i => .ret (.bl (i != 0))
  | _ => .bad
def fBool (T : Tab) (f : FE) : FE := fun env => (f env).bind (boolT T)
theorem ve_bool (c : Ctx j X E) (hT : TabOk (wd X) j' "__bool__" 1 T) (hj : j' + 1 ≤ j) (hg : Gl X "bool") (hm : X.mg "bool" = none) (h : VE X E e f) (hs : starEach [e] X.env = (false, eval e X.env) :: starEach [] X.env := by rfl) : VE X E (.Call (.Name "bool" p) [e] [] pos) (fBool T f) := by
  refine ⟨PE.wk (pe_callTy (CallR.or (call_boolT c hT hj) call_bool1) hg hm boot_bool' (pa_cons h.pe pa_nil hs) (by decide) (by decide) hs rfl) fun σ H Q ⟨dr, sa, F, env, S, q⟩ => ?_, wF_mono⟩
  have q := q
  unfold wF fBool at q
  rw [sat_bind] at q
  refine ⟨dr, sa, F, env, S, h.mono env _ _ _ _ (fun d q1 v F1 H1 e1 r1 => ?_) (fun _ _ _ z => z) q⟩
  unfold boolT at q1
  split at q1
  · rename_i cl ns vs
    split at q1
    · rename_i g hl
      left
      rw [sat_bind] at q1
      have r0 := r1
      cases r1 with
      | @ins a dx C fs _ _ _ g1 g2 g3 g4 =>
        subst g2
        refine ⟨cl, g, _, _, _, hl, rfl, e1.toBs.sub _ _ g1, dr, sa, F1, [.ins cl ns vs], e1.toBs, .cons r0 .nil, rfl, ?_⟩
        refine sat_mono (fun d q3 v F' H' e3 r3 => ?_) (fun _ _ _ z => z.evo e1) _ q1
        obtain ⟨k, ek, q4⟩ := isBl_sat q3
        subst ek
        exact ⟨k, rp_bl r3, q4 _ F' H' (e1.trans e3) (.bl _)⟩
    · exact q1.elim
  · cases r1
    exact .inr (.inr ⟨_, rfl, q1 _ F1 H1 e1 (.bl _)⟩)
  · cases r1
    exact .inr (.inl ⟨_, rfl, q1 _ F1 H1 e1 (.bl _)⟩)
  · exact q1.elim
end
end U
/-! X3: enumerate(d.items()), what the interpreter does. -/
namespace PySem
open Builtin
/-- an iterator of a dict's pairs at d: the next one is the i-th of n; whatever tuple it keeps -/
def ItemsIt (h : Heap) (it d : Addr) (i n ep : Nat) : Prop :=
  ∃ (own ok ov : Value) (f : Bool), (own = Value.none ∨ ∃ a : Nat, own = rawInt a) ∧
    h.get? it = some { cls := .type "dict_itemiterator", dict := none, data := .fields #[own, .bool f, .ref d, .int i 0, .int n 0, .int ep 0, ok, ov], slots := #[] }
section
variable {prog : Program} {w : World} {A : Around} {E : Value → Shared → Prop} {s : Shared} {it d : Addr} {i ep : Nat} {es : Array DictEntry}
theorem ItemsIt.first {h : Heap} {n : Nat} {ok ov : Value} (x : IsItemIter h it d i n ep ok ov) : ItemsIt h it d i n ep := ⟨.none, ok, ov, false, .inl rfl, x⟩
theorem ItemsIt.stay {h h' : Heap} {n : Nat} (x : ItemsIt h it d i n ep) (k : ∀ o, h.get? it = some o → h'.get? it = some o) : ItemsIt h' it d i n ep := by
  obtain ⟨a, b, c, f, e, g⟩ := x
  exact ⟨a, b, c, f, e, k _ g⟩
theorem sameBut_trans {h h' h2 : Heap} (a : Heap.SameBut it h h') (b : Heap.SameBut it h' h2) : Heap.SameBut it h h2 := ⟨b.1.trans a.1, fun c hc => (b.2 c hc).trans (a.2 c hc)⟩
theorem dead_at {a : Addr} {Q : Option Obj → Shared → Prop} (ha : s.heap.get? a = none) (h : Q none s) : wpAny (model prog w) A (loadIfAlive a) Q E s := fun _ _ _ => by
  show Q (s.heap.get? a) s
  rw [ha]
  exact h
/-- whether the iterator's own tuple is free -/
theorem free_at {own ok ov : Value} {f : Bool} {n j : Nat} (hown : own = Value.none ∨ ∃ a : Nat, own = rawInt a)
    (r : s.heap.get? it = some { cls := .type "dict_itemiterator", dict := none, data := .fields #[own, .bool f, .ref d, .int j 0, .int n 0, .int ep 0, ok, ov], slots := #[] }) {Q : Bool → Shared → Prop}
    (h : ∀ b f' h3, h3.get? it = some { cls := .type "dict_itemiterator", dict := none, data := .fields #[own, .bool f', .ref d, .int j 0, .int n 0, .int ep 0, ok, ov], slots := #[] } → Heap.SameBut it s.heap h3 → Q b { s with heap := h3 }) :
    wpAny (model prog w) A (Dict_items.ownedTupleIsFree (.ref it)) Q E s := by
  have same : ∀ b, Q b s := fun b => h b f s.heap r (Heap.SameBut.refl _ _)
  unfold Dict_items.ownedTupleIsFree
  refine wpAny_bind (wpAny_field r rfl (x := own) rfl ?_)
  rcases hown with e | ⟨a, e⟩
  · subst e
    exact wpAny_pure (same true)
  · subst e
    show wpAny _ _ (loadIfAlive ((a : Int).toNat) >>= _) _ _ _
    rw [Int.toNat_natCast]
    refine wpAny_bind ?_
    cases ha : s.heap.get? a with
    | none =>
      refine dead_at ha ?_
      refine wpAny_ite_split (fun _ => wpAny_pure (same true)) (fun z => absurd rfl z)
    | some oa =>
      refine W.kdx_alive ha ?_
      refine wpAny_ite_split (fun z => Bool.noConfusion (show false = true from z)) (fun _ => ?_)
      refine wpAny_bind (wpAny_field r rfl (x := .bool f) rfl ?_)
      cases f with
      | true => exact wpAny_ite_split (fun z => Bool.noConfusion (show false = true from z)) (fun _ => wpAny_pure (same false))
      | false => exact wpAny_ite_split (fun _ => wpAny_bind (wpAny_setField_rec r (by simp) fun h3 rec3 sb3 => wpAny_pure (h false true h3 rec3 sb3))) (fun z => absurd rfl z)
theorem nextOf_items {Q : Value → Shared → Prop} (hit : ItemsIt s.heap it d i es.size ep) (hm : s.heap.DictRaw d es ep) (hlt : i < es.size)
    (hQ : ∀ h', ItemsIt h' it d (i + 1) es.size ep → h'.get? s.heap.objs.size = some { cls := .type "tuple", data := .seq #[es[i].key, es[i].val] } → h'.objs.size = s.heap.objs.size + 1 →
      (∀ b o, b ≠ it → s.heap.get? b = some o → h'.get? b = some o) → Q (.ref s.heap.objs.size) { s with heap := h' }) :
    wpAny (model prog w) A (SmallTypes.nextOf (.ref it)) Q E s := by
  obtain ⟨h0, g, dr, tk, os⟩ := s
  obtain ⟨own, ok, ov, f, hown, rec0⟩ := hit
  obtain ⟨od, hod, hcd, hdd⟩ := id hm
  have ty0 : Shared.TypeIs ⟨h0, g, dr, tk, os⟩ (.ref it) "dict_itemiterator" := ⟨_, rec0, rfl⟩
  have two : Dict_items.ownsTuple "dict_itemiterator" = true := by decide
  have ltI : it < h0.objs.size := Heap.lt_size rec0
  unfold SmallTypes.nextOf
  refine wpAny_bind (wpAny_callSpecial?_slot (name := Str.ofString "__next__") ty0 F.slot_dict_itemiterator_next (wpAny_call_entry F.slot_dict_itemiterator_next ty0 F.entry_dict_itemiterator_next ?_ (F.args_dict_itemiterator_next_1 _)))
  refine wpAny_bind (wpAny_pure ?_); refine wpAny_bind ?_; refine wpAny_bind ?_
  refine wpAny_bind (wpAny_typeNameOfWhole_itemiter ty0 (wpAny_pure ?_)); refine wpAny_bind (wpAny_fieldsOf rec0 rfl ?_)
  simp only [two, if_true]; show wpAny _ _ (if (Value.ref d == Value.none) = true then _ else _) _ _ _
  refine wpAny_ite_split (fun z => Bool.noConfusion (show false = true from z)) (fun _ => ?_); refine wpAny_bind (wpAny_pure ?_)
  refine wpAny_bind (wpAny_dictEntries hod hdd ?_); rw [if_neg (by simp)]
  refine wpAny_bind (wpAny_pure ?_); refine wpAny_bind (wpAny_dictEpoch hod hdd ?_); rw [if_neg (by simp)]
  refine wpAny_pure ?_; simp only [show ¬ ((i : Int) < 0) from by omega, if_false, Int.toNat_natCast, Array.getElem?_eq_getElem hlt]
  refine wpAny_bind ?_; refine wpAny_bind (wpAny_typeNameOfWhole_itemiter ty0 (wpAny_pure ?_))
  refine wpAny_bind (wpAny_isOneOf_itemiter ty0 ?_)
  show wpAny _ _ (setField (.ref it) 3 (rawInt ((i : Int) + 1)) >>= _) _ _ (Shared.mk h0 g dr tk os)
  refine wpAny_bind (wpAny_setField_rec rec0 (by simp) fun h1 rec1 sb1 => ?_)
  replace sb1 : Heap.SameBut it h0 h1 := sb1
  replace rec1 : h1.get? it = some { cls := .type "dict_itemiterator", dict := none, data := .fields #[own, .bool f, .ref d, .int (i + 1 : Nat) 0, .int es.size 0, .int ep 0, ok, ov], slots := #[] } := by
    rw [show ((i + 1 : Nat) : Int) = (i : Int) + 1 by omega]; simpa [rawInt] using rec1
  have ty1 : Shared.TypeIs ⟨h1, g, dr, tk, os⟩ (.ref it) "dict_itemiterator" := ⟨_, rec1, rfl⟩
  refine wpAny_bind (wpAny_holding ?_); refine wpAny_bind (wpAny_isOneOf_itemiter ty1 ?_); refine wpAny_bind (wpAny_isOneOf_itemiter ty1 ?_)
  show wpAny _ _ (Dict_items.pairFromOwner (.ref it) 6 es[i].key es[i].val) _ _ (Shared.mk h1 g dr tk os)
  unfold Dict_items.pairFromOwner; refine wpAny_bind (wpAny_newTuple ?_)
  have rec2 := Heap.get?_push_of_some { cls := .type "tuple", data := .seq #[es[i].key, es[i].val] } rec1
  have z1 : h1.objs.size = h0.objs.size := sb1.1
  have tp2 : (h1.push { cls := .type "tuple", data := .seq #[es[i].key, es[i].val] }).get? h0.objs.size = some { cls := .type "tuple", data := .seq #[es[i].key, es[i].val] } := by rw [← z1]; exact Heap.get?_push_size _ rfl
  have z2 : (h1.push { cls := .type "tuple", data := .seq #[es[i].key, es[i].val] }).objs.size = h0.objs.size + 1 := by rw [Heap.size_push, z1]
  have kp2 : ∀ b o, b ≠ it → h0.get? b = some o → (h1.push { cls := .type "tuple", data := .seq #[es[i].key, es[i].val] }).get? b = some o := fun b o hb e => Heap.get?_push_of_some _ (sb1.extBut b o hb e)
  generalize h1.push { cls := .type "tuple", data := .seq #[es[i].key, es[i].val] } = h2 at rec2 tp2 z2 kp2
  rw [z1]; show wpAny _ _ (Dict_items.ownedTupleIsFree (.ref it) >>= _) _ _ (Shared.mk h2 g dr tk os)
  -- what is left once the heap differs from h2 at the iterator alone
  have fin : ∀ h3 : Heap, ItemsIt h3 it d (i + 1) es.size ep → Heap.SameBut it h2 h3 → Q (.ref h0.objs.size) ⟨h3, g, dr, tk, os⟩ := fun h3 r3 sb3 =>
    hQ h3 r3 (by exact sb3.extBut _ _ (Nat.ne_of_gt ltI) tp2) (by show h3.objs.size = h0.objs.size + 1; rw [sb3.1, z2]) fun b o hb e => sb3.extBut b o hb (kp2 b o hb e)
  refine wpAny_bind (free_at hown rec2 fun b f' h2' rec2' sb2 => ?_)
  cases b with
  | true =>
    simp only [if_true]
    refine wpAny_bind (wpAny_field rec2' rfl (x := ok) rfl ?_)
    refine wpAny_bind (wpAny_field rec2' rfl (x := ov) rfl ?_)
    refine wpAny_bind (wpAny_setField_rec rec2' (by simp) fun h3 rec3 sb3 => ?_)
    refine wpAny_bind (wpAny_setField_rec rec3 (by simp) fun h4 rec4 sb4 => ?_)
    refine wpAny_bind (wpAny_setField_rec rec4 (by simp) fun h5 rec5 sb5 => ?_)
    refine wpAny_bind (wpAny_setField_rec rec5 (by simp) fun h6 rec6 sb6 => ?_)
    refine wpAny_bind (wpAny_letGo (wpAny_pure (wpAny_pure ⟨_, rfl, wpAny_pure (fin h6 ⟨rawInt h0.objs.size, es[i].key, es[i].val, false, .inr ⟨_, rfl⟩, rec6⟩ ?_)⟩)))
    exact sameBut_trans sb2 (sameBut_trans sb3 (sameBut_trans sb4 (sameBut_trans sb5 sb6)))
  | false =>
    simp only [Bool.false_eq_true, if_false]
    exact wpAny_pure (wpAny_pure ⟨_, rfl, wpAny_pure (fin h2' ⟨own, ok, ov, f', hown, rec2'⟩ sb2)⟩)
theorem nextOf_items_end {Q : Value → Shared → Prop} (hh : A.handled = none) (hit : ItemsIt s.heap it d i es.size ep) (hm : s.heap.DictRaw d es ep) (hge : es.size ≤ i)
    (hE : ∀ h' e, Heap.ExtBut it s.heap h' → (∃ o, h'.get? e = some o ∧ o.cls = .type "StopIteration") → E (.ref e) { s with heap := h' }) : wpAny (model prog w) A (SmallTypes.nextOf (.ref it)) Q E s := by
  obtain ⟨own, ok, ov, f, hown, rec0⟩ := hit
  obtain ⟨od, hod, hcd, hdd⟩ := id hm
  have ty0 : s.TypeIs (.ref it) "dict_itemiterator" := ⟨_, rec0, rfl⟩
  have two : Dict_items.ownsTuple "dict_itemiterator" = true := by decide
  unfold SmallTypes.nextOf
  refine wpAny_bind (wpAny_callSpecial?_slot (name := Str.ofString "__next__") ty0 F.slot_dict_itemiterator_next (wpAny_call_entry F.slot_dict_itemiterator_next ty0 F.entry_dict_itemiterator_next ?_ (F.args_dict_itemiterator_next_1 _)))
  refine wpAny_bind (wpAny_pure ?_); refine wpAny_bind ?_; refine wpAny_bind ?_
  refine wpAny_bind (wpAny_typeNameOfWhole_itemiter ty0 (wpAny_pure ?_)); refine wpAny_bind (wpAny_fieldsOf rec0 rfl ?_)
  simp only [two, if_true]; show wpAny _ _ (if (Value.ref d == Value.none) = true then _ else _) _ _ _
  refine wpAny_ite_split (fun z => Bool.noConfusion (show false = true from z)) (fun _ => ?_); refine wpAny_bind (wpAny_pure ?_)
  refine wpAny_bind (wpAny_dictEntries hod hdd ?_); rw [if_neg (by simp)]
  refine wpAny_bind (wpAny_pure ?_); refine wpAny_bind (wpAny_dictEpoch hod hdd ?_); rw [if_neg (by simp)]
  refine wpAny_pure ?_; simp only [show ¬ ((i : Int) < 0) from by omega, if_false, Int.toNat_natCast, Array.getElem?_eq_none hge]
  refine wpAny_bind ?_; refine wpAny_bind (wpAny_typeNameOfWhole_itemiter ty0 (wpAny_pure ?_))
  show wpAny _ _ (setField (.ref it) 2 .none >>= _) _ _ s
  refine wpAny_bind (wpAny_setField rec0 rfl (by simp) ?_); show wpAny _ _ (newExc (.type "StopIteration") [] >>= _) _ _ _
  refine wpAny_bind ?_; simp only [newExc, newTuple]; refine wpAny_bind (wpAny_newObj_type ?_ (by size_fits))
  refine wpAny_bind (m := firstArgMember _ _) (wpAny_of_eq (a := Value.none) (by first | rfl | (simp only [firstArgMember]; rfl)) ?_)
  refine wpAny_newObj_type ?_ (by size_fits); simp only [raiseNew]; refine wpAny_bind (wpAny_handled ?_)
  rw [show A.in1.handled = none from hh]; refine wpAny_bind (wpAny_pure (wpAny_throw ?_))
  exact hE _ _ (((Heap.SameBut.update ..).extBut.push _).push _) ⟨_, Heap.get?_push_size _ rfl, rfl⟩
/-- the next of enumerate(d.items()): the pair at N, the pair with its number at N + 1 -/
theorem next_enumItems {e : Addr} {old : Value} {Q : Option Value → Shared → Prop} (he : IsEnum s.heap e it i old) (hit : ItemsIt s.heap it d i es.size ep) (hm : s.heap.DictRaw d es ep) (hlt : i < es.size) (hne : e ≠ it)
    (hQ : ∀ h1 h2 tk, ItemsIt h1 it d (i + 1) es.size ep → h1.get? s.heap.objs.size = some { cls := .type "tuple", data := .seq #[es[i].key, es[i].val] } → h1.objs.size = s.heap.objs.size + 1 →
      (∀ b o, b ≠ it → s.heap.get? b = some o → h1.get? b = some o) → IsEnumOut h2 e it ((i : Int) + 1) (.ref s.heap.objs.size) (s.heap.objs.size + 1) →
      h2.get? (s.heap.objs.size + 1) = some { cls := .type "tuple", data := .seq #[.int i tk, .ref s.heap.objs.size] } → (∀ b o, b ≠ e → h1.get? b = some o → h2.get? b = some o) →
      Q (some (.ref (s.heap.objs.size + 1))) { s with heap := h2, toks := tk + 1 }) : wpAny (model prog w) A (pyNext (.ref e)) Q E s := by
  obtain ⟨h0, g, dr, tk, os⟩ := s
  have ty0 : Shared.TypeIs ⟨h0, g, dr, tk, os⟩ (.ref e) "enumerate" := ⟨_, he, rfl⟩
  have ltE : e < h0.objs.size := Heap.lt_size he
  unfold pyNext
  refine wpAny_bind (wpAny_attempt (wpAny_callSpecial?_slot (name := Str.ofString "__next__") ty0 F.slot_enumerate_next (wpAny_call_entry F.slot_enumerate_next ty0 F.entry_enumerate_next ?_ (F.args_enumerate_next_1 _))))
  show wpAny _ _ (field (.ref e) 2 >>= _) _ _ _
  refine wpAny_bind (wpAny_field he rfl (x := .ref it) rfl ?_); refine wpAny_bind (nextOf_items hit hm hlt fun h1 it1 tp1 z1 kp1 => ?_)
  replace tp1 : h1.get? h0.objs.size = some { cls := .type "tuple", data := .seq #[es[i].key, es[i].val] } := tp1
  replace z1 : h1.objs.size = h0.objs.size + 1 := z1
  replace kp1 : ∀ b o, b ≠ it → h0.get? b = some o → h1.get? b = some o := kp1
  have en1 : IsEnum h1 e it i old := kp1 _ _ hne he
  show wpAny _ _ (field (.ref e) 3 >>= _) _ _ (Shared.mk h1 g dr tk os)
  refine wpAny_bind (wpAny_field en1 rfl (x := rawInt i) rfl ?_); show wpAny _ _ (field (.ref e) 4 >>= _) _ _ (Shared.mk h1 g dr tk os)
  refine wpAny_bind (wpAny_field en1 rfl (x := .none) rfl ?_); show wpAny _ _ (mkInt i >>= _) _ _ (Shared.mk h1 g dr tk os)
  refine wpAny_bind (wpAny_mkInt ?_)
  show wpAny _ _ (setField (.ref e) 3 (rawInt ((i : Int) + 1)) >>= _) _ _ (Shared.mk h1 g dr (tk + 1) os)
  refine wpAny_bind (wpAny_setField_rec en1 (by simp) fun h2 en2 sb2 => ?_); replace en2 : IsEnum h2 e it ((i : Int) + 1) old := en2
  show wpAny _ _ (setField (.ref e) 4 .none >>= _) _ _ (Shared.mk h2 g dr (tk + 1) os)
  refine wpAny_bind (wpAny_setField_rec en2 (by simp) fun h3 en3 sb3 => ?_); replace en3 : IsEnum h3 e it ((i : Int) + 1) old := en3
  replace sb2 : Heap.SameBut e h1 h2 := sb2; replace sb3 : Heap.SameBut e h2 h3 := sb3
  show wpAny _ _ (newTuple [.int i tk, .ref h0.objs.size] >>= _) _ _ (Shared.mk h3 g dr (tk + 1) os)
  refine wpAny_bind (wpAny_newTuple ?_)
  have z3 : h3.objs.size = h0.objs.size + 1 := by rw [sb3.1, sb2.1, z1]
  have en4 := Heap.get?_push_of_some { cls := .type "tuple", data := .seq #[.int i tk, .ref h0.objs.size] } en3
  have tp4 : (h3.push { cls := .type "tuple", data := .seq #[.int i tk, .ref h0.objs.size] }).get? (h0.objs.size + 1) = some { cls := .type "tuple", data := .seq #[.int i tk, .ref h0.objs.size] } := by rw [← z3]; exact Heap.get?_push_size _ rfl
  have kp4 : ∀ b o, b ≠ e → h1.get? b = some o → (h3.push { cls := .type "tuple", data := .seq #[.int i tk, .ref h0.objs.size] }).get? b = some o := fun b o hb x => Heap.get?_push_of_some _ (sb3.extBut b o hb (sb2.extBut b o hb x))
  rw [z3]
  generalize h3.push { cls := .type "tuple", data := .seq #[.int i tk, .ref h0.objs.size] } = h4 at en4 tp4 kp4
  show wpAny _ _ (SmallTypes.ownedTupleIsFree (.ref e) >>= _) _ _ (Shared.mk h4 g dr (tk + 1) os)
  refine wpAny_bind ?_; unfold SmallTypes.ownedTupleIsFree; refine wpAny_bind (wpAny_field en4 rfl (x := .none) rfl (wpAny_pure ?_))
  simp only [if_true]; refine wpAny_bind (wpAny_rule ?_); refine wpAny_bind (wpAny_field en4 rfl (x := old) rfl ?_)
  refine wpAny_bind (wpAny_setField_rec en4 (by simp) fun h5 en5 sb5 => ?_)
  refine wpAny_bind ?_; unfold SmallTypes.ownedTupleHandOut
  refine wpAny_bind (wpAny_setField_rec en5 (by simp) fun h6 en6 sb6 => ?_); refine wpAny_setField_rec en6 (by simp) fun h7 en7 sb7 => ?_
  replace sb5 : Heap.SameBut e h4 h5 := sb5; replace sb6 : Heap.SameBut e h5 h6 := sb6; replace sb7 : Heap.SameBut e h6 h7 := sb7
  have sb := sameBut_trans sb5 (sameBut_trans sb6 sb7)
  refine wpAny_bind (wpAny_letGo (wpAny_pure ⟨_, rfl, wpAny_pure (hQ h1 h7 tk it1 tp1 z1 kp1 en7 ?_ fun b o hb x => ?_)⟩))
  · exact sb.extBut _ _ (Nat.ne_of_gt (Nat.lt_succ_of_lt ltE)) tp4
  · exact sb.extBut b o hb (kp4 b o hb x)
theorem next_enumItems_end {e : Addr} {old : Value} {Q : Option Value → Shared → Prop} (hh : A.handled = none) (he : IsEnum s.heap e it i old) (hit : ItemsIt s.heap it d i es.size ep) (hm : s.heap.DictRaw d es ep) (hge : es.size ≤ i)
    (hQ : ∀ h', Heap.ExtBut it s.heap h' → Q none { s with heap := h' }) : wpAny (model prog w) A (pyNext (.ref e)) Q E s := by
  have ty0 : s.TypeIs (.ref e) "enumerate" := ⟨_, he, rfl⟩
  unfold pyNext
  refine wpAny_bind (wpAny_attempt (wpAny_callSpecial?_slot (name := Str.ofString "__next__") ty0 F.slot_enumerate_next (wpAny_call_entry F.slot_enumerate_next ty0 F.entry_enumerate_next ?_ (F.args_enumerate_next_1 _))))
  show wpAny _ _ (field (.ref e) 2 >>= _) _ _ _
  refine wpAny_bind (wpAny_field he rfl (x := .ref it) rfl ?_)
  refine wpAny_bind (nextOf_items_end hh hit hm hge fun h' y eb hy => ?_)
  obtain ⟨o, ho, ho2⟩ := hy
  exact wpAny_bind (wpAny_isInstance (T := "StopIteration") (b := true) ⟨o, ho, ho2⟩ isSubtype_stop (wpAny_pure (hQ _ eb)))
/-- enumerate(a view of d's pairs) -/
theorem meets_enumI (v : Addr) (hv : True) : Meets (Builtin.«enumerate.__new__» ⟨[.type "enumerate", .ref v], []⟩) (fun _ R z => (z.heap.IsItemsView v d ∧ z.heap.DictRaw d es ep) ∧
      R (.ok (.ret (.ref (z.heap.objs.size + 1))))
        { z with heap := (z.heap.push { cls := .type "dict_itemiterator", data := .fields #[.none, .bool false, .ref d, .int 0 0, .int es.size 0, .int ep 0, .none, .none] }).push { cls := .type "enumerate", data := .fields #[.none, .bool false, .ref z.heap.objs.size, rawInt 0, .none, .none] } }) :=
  .of_wp fun prog w A R z hz => by
    obtain ⟨hp, gg, dd, tk, oo⟩ := z
    obtain ⟨⟨ht, hm⟩, hR⟩ := hz
    have hz1 : (hp.push { cls := .type "dict_itemiterator", data := .fields #[.none, .bool false, .ref d, .int 0 0, .int es.size 0, .int ep 0, .none, .none] }).objs.size = hp.objs.size + 1 := Heap.size_push ..
    dsimp only at hR
    rw [← hz1] at hR
    have hsub := sub_enumerate
    wp_walk
    refine wpAny_stack_any fun st => wpAny_pure ?_
    split
    · rename_i c _ _ _ _ _
      cases (c == Value.type "enumerate") <;>
      · wp_walk using wpAny_pyIter_items_raw ht hm
        exact ⟨_, rfl, hR⟩
    · wp_walk using wpAny_pyIter_items_raw ht hm
      exact ⟨_, rfl, hR⟩
end
end PySem
/-! X4: dicts that stand, walked: keys, values, pairs, numbered pairs. -/
namespace U
open PySem PySem.Spec PyProof.Rows L2 Tr
variable [Wo]

/-- a locked dict's entries, keys of either kind -/
def LockD (H : Hp) (d : Addr) (o : Obj) (ps : List (V × V)) : Prop :=
  (∃ kvs : List (Key × V), H d = some (.frz o (.dK kvs)) ∧ ps = kvs.map fun p => (kV p.1, p.2)) ∨ ∃ kvs : GKV, H d = some (.frz o (GD Wo.w d kvs)) ∧ ps = kvs.map fun p => (V.ref p.2.1, p.2.2)
section
variable {X : Cx} {pins : List (Addr × Obj)} {σ : L2.St} {H H' : Hp} {s : Shared} {d : Addr} {o : Obj} {ps : List (V × V)}
theorem LockD.sub (h : LockD H d o ps) (s : Sub H H') : LockD H' d o ps := by
  rcases h with ⟨kvs, h1, h2⟩ | ⟨kvs, h1, h2⟩
  · exact .inl ⟨kvs, s _ _ h1, h2⟩
  · exact .inr ⟨kvs, s _ _ h1, h2⟩
theorem LockD.raw (I : Inv X pins σ H s) (h : LockD H d o ps) : (d == sysModules) = false ∧ s.heap.get? d = some o ∧ o.ExactDict ∧ ps.length ≤ sizeLine ∧ ∃ es ep, o.data = .dict es ep ∧ s.heap.DictRaw d es ep ∧ es.size = ps.length ∧
    ∀ i (hi : i < es.size) k v, ps[i]? = some (k, v) → RelV k es[i].key ∧ RelV v es[i].val := by
  rcases h with ⟨kvs, h1, e⟩ | ⟨kvs, h1, e⟩
  · obtain ⟨hs, hgd, hx, es, ep, vs, hdt, hsz, kv, hm⟩ := I.frzK h1
    obtain ⟨es', ep', ⟨o', ho', _, hd'⟩, hz', ent⟩ := hm.dictOf.raw
    rw [hgd] at ho'
    cases ho'
    rw [hdt] at hd'
    cases hd'
    subst e
    have z : kvs.length ≤ sizeLine := (I.hok d _ h1).2.1
    refine ⟨hs, hgd, hx, by rw [List.length_map]; exact z, es, ep, hdt, ⟨o, hgd, hx, hdt⟩, by rw [List.length_map]; exact hsz, fun i hi k v hp => ?_⟩
    rw [List.getElem?_map] at hp
    cases q : kvs[i]? with
    | none =>
      rw [q] at hp
      cases hp
    | some p =>
      rw [q] at hp
      cases hp
      obtain ⟨k, v⟩ := p
      obtain ⟨u, hu, ru⟩ := kv_get kv q
      obtain ⟨a1, a2⟩ := ent i hi k u hu
      exact ⟨relV_key (show keyIs k es[i].key = true from a1), by rw [a2]; exact ru⟩
  · obtain ⟨hgd, ⟨z, hs, nd, xs, pr, o', es, ep, ho, hx, hdt, he⟩, _⟩ := I.hok d _ h1
    rw [hgd] at ho
    cases ho
    subst e
    have hl : kvs.length = xs.length := Paired.length pr
    have hz : es.size = xs.length := by
      have := congrArg List.length he
      rw [List.length_map, Array.length_toList] at this
      exact this
    refine ⟨hs, hgd, hx, by rw [List.length_map]; exact z, es, ep, hdt, ⟨o, hgd, hx, hdt⟩, by rw [List.length_map, hl]; exact hz, fun i hi k v hp => ?_⟩
    rw [List.getElem?_map] at hp
    cases q : kvs[i]? with
    | none =>
      rw [q] at hp
      cases hp
    | some p =>
      rw [q] at hp
      cases hp
      obtain ⟨y, hy, e1, e2, e3⟩ := paired_get pr q
      have g : es.toList[i]? = some ⟨y.1.hash Wo.w, .ref y.2.1, y.2.2⟩ := by rw [he, List.getElem?_map, hy]; rfl
      have g2 : es[i] = ⟨y.1.hash Wo.w, .ref y.2.1, y.2.2⟩ := by
        rw [Array.getElem?_toList, Array.getElem?_eq_getElem hi] at g
        exact Option.some.inj g
      rw [g2]
      exact ⟨by rw [e2]; rfl, e3⟩
end
abbrev ByD (go : Nat → Hp → V → Hp → Prop) (d : Addr) (o : Obj) (ps : List (V × V)) : It := ⟨fun i H => LockD H d o ps ∧ i < ps.length, go, fun i H => LockD H d o ps ∧ ps.length ≤ i⟩
/-- the keys -/
def IwK (d : Addr) (o : Obj) (ps : List (V × V)) : It := ByD (fun i H x H' => H' = H ∧ ∃ v, ps[i]? = some (x, v)) d o ps
/-- the values -/
def IwV (d : Addr) (o : Obj) (ps : List (V × V)) : It := ByD (fun i H x H' => H' = H ∧ ∃ k, ps[i]? = some (k, x)) d o ps
/-- the pairs -/
def IwI (d : Addr) (o : Obj) (ps : List (V × V)) : It := ByD (fun i H x H' => ∃ T k v, ps[i]? = some (k, v) ∧ x = .ref T ∧ H T = none ∧ H' = upd H T (.tup [k, v])) d o ps
/-- the pairs with their numbers -/
def IwE (d : Addr) (o : Obj) (ps : List (V × V)) : It := ByD (fun i H x H' => ∃ T U k v, ps[i]? = some (k, v) ∧ x = .ref U ∧ H T = none ∧ H U = none ∧ T ≠ U ∧ H' = upd (upd H T (.tup [k, v])) U (.tup [.int (i : Nat), .ref T])) d o ps
section
variable {P : Program} {w : World} {K : PySem.W.Frag} {tg : Expr} {d : Addr} {o : Obj} {es : Array DictEntry} {ep : Nat} {ps : List (V × V)}
theorem at_ps {i : Nat} (h : i < ps.length) : ∃ k v, ps[i]? = some (k, v) := ⟨ps[i].1, ps[i].2, List.getElem?_eq_getElem h⟩
theorem wturn_keys (it : Addr) (hod : o.data = .dict es ep) (hsz : es.size = ps.length) : Turn P w K tg (IwK d o ps) [it] it (fun i h => h.IsKeyIter it d i es.size ep) where
  mem := List.mem_singleton.mpr rfl
  obj := fun i h st b hb => by
    rw [List.mem_singleton.mp hb]
    obtain ⟨oi, e, _, dd⟩ := st
    exact ⟨oi, e, fun v z => by rw [dd] at z; cases z⟩
  keep := fun i h h' st k => st.at fun oi e => k it (List.mem_singleton.mpr rfl) oi e
  item := by
    rintro X rfl rfl rfl hc i pins s σ H E I hf st ⟨hd, hi⟩
    obtain ⟨f0, f1, f2, f3, f4, f5⟩ := hf it (List.mem_singleton.mpr rfl)
    obtain ⟨hs, hgd, hx, hz, es', ep', hdt, hm, _, rel⟩ := hd.raw I
    rw [hod] at hdt
    cases hdt
    obtain ⟨k, v, hkv⟩ := at_ps hi
    have hi2 : i < es.size := by rw [hsz]; exact hi
    refine wpAny_pyNext_keys_item_raw st hm hi2 fun h' st' sb => ?_
    have J : Inv X pins σ H { s with heap := h' } := I.turned (t' := s.toks) (fun b ob hb e => (sb.2 b hb).trans e) f0 f1 f3 f4 f5
    obtain ⟨oi, e, c, dd⟩ := id st'
    exact ⟨_, rfl, go_of (s := { s with heap := h' }) e c dd (by decide) ⟨k, H, J, (rel i hi2 k v hkv).1, ⟨rfl, v, hkv⟩, st', fun b hb => (hf b hb).1⟩⟩
  done := by
    rintro X rfl rfl rfl hc i pins s σ H E I hf st ⟨hd, hi⟩
    obtain ⟨f0, f1, f2, f3, f4, f5⟩ := hf it (List.mem_singleton.mpr rfl)
    obtain ⟨hs, hgd, hx, hz, es', ep', hdt, hm, _, rel⟩ := hd.raw I
    rw [hod] at hdt
    cases hdt
    exact wpAny_pyNext_keys_end_raw (I.ok.hd hc) st hm (by rw [hsz]; exact hi) fun h' eb => ⟨rfl, I.turned (t' := s.toks) (fun b ob hb e => eb b ob hb e) f0 f1 f3 f4 f5⟩
  self := fun A i s Q E st h => wpAny_pyIter_keyiter st h
theorem wturn_vals (it : Addr) (hod : o.data = .dict es ep) (hsz : es.size = ps.length) : Turn P w K tg (IwV d o ps) [it] it (fun i h => h.IsValIter it d i es.size ep) where
  mem := List.mem_singleton.mpr rfl
  obj := fun i h st b hb => by
    rw [List.mem_singleton.mp hb]
    obtain ⟨oi, e, _, dd⟩ := st
    exact ⟨oi, e, fun v z => by rw [dd] at z; cases z⟩
  keep := fun i h h' st k => st.at fun oi e => k it (List.mem_singleton.mpr rfl) oi e
  item := by
    rintro X rfl rfl rfl hc i pins s σ H E I hf st ⟨hd, hi⟩
    obtain ⟨f0, f1, f2, f3, f4, f5⟩ := hf it (List.mem_singleton.mpr rfl)
    obtain ⟨hs, hgd, hx, hz, es', ep', hdt, hm, _, rel⟩ := hd.raw I
    rw [hod] at hdt
    cases hdt
    obtain ⟨k, v, hkv⟩ := at_ps hi
    have hi2 : i < es.size := by rw [hsz]; exact hi
    refine wpAny_pyNext_values_item_raw st hm hi2 fun h' st' sb => ?_
    have J : Inv X pins σ H { s with heap := h' } := I.turned (t' := s.toks) (fun b ob hb e => (sb.2 b hb).trans e) f0 f1 f3 f4 f5
    obtain ⟨oi, e, c, dd⟩ := id st'
    exact ⟨_, rfl, go_of (s := { s with heap := h' }) e c dd (by decide) ⟨v, H, J, (rel i hi2 k v hkv).2, ⟨rfl, k, hkv⟩, st', fun b hb => (hf b hb).1⟩⟩
  done := by
    rintro X rfl rfl rfl hc i pins s σ H E I hf st ⟨hd, hi⟩
    obtain ⟨f0, f1, f2, f3, f4, f5⟩ := hf it (List.mem_singleton.mpr rfl)
    obtain ⟨hs, hgd, hx, hz, es', ep', hdt, hm, _, rel⟩ := hd.raw I
    rw [hod] at hdt
    cases hdt
    exact wpAny_pyNext_values_end_raw (I.ok.hd hc) st hm (by rw [hsz]; exact hi) fun h' eb => ⟨rfl, I.turned (t' := s.toks) (fun b ob hb e => eb b ob hb e) f0 f1 f3 f4 f5⟩
  self := fun A i s Q E st h => wpAny_pyIter_valiter st h
theorem new_pair {X : Cx} {H : Hp} {h2 : Heap} {T : Addr} {k v : V} {u r : Value} (rk : RelV k u) (rv : RelV v r) (hT : h2.get? T = some { cls := .type "tuple", data := .seq #[u, r] }) : ObjOk X.prog X.w (upd H T (.tup [k, v])) h2 T (.tup [k, v]) :=
  ⟨by show 2 ≤ sizeLine; decide, [u, r], .cons rk (.cons rv .nil), ⟨_, hT, rfl, _, rfl⟩⟩
theorem wturn_items {elts : List Expr} {kk : Nat} {tp : Pos} (it : Addr) (hod : o.data = .dict es ep) (hsz : es.size = ps.length) :
    Turn P w K (.Tuple elts kk tp) (IwI d o ps) [it] it (fun i h => ∃ ok ov, IsItemIter h it d i es.size ep ok ov) where
  mem := List.mem_singleton.mpr rfl
  obj := fun i h st b hb => by
    rw [List.mem_singleton.mp hb]
    obtain ⟨ok, ov, e⟩ := st
    exact ⟨_, e, fun v z => nomatch z⟩
  keep := fun i h h' st k => by
    obtain ⟨ok, ov, e⟩ := st
    exact ⟨ok, ov, k it (List.mem_singleton.mpr rfl) _ e⟩
  item := by
    rintro X rfl rfl rfl hc i pins s σ H E I hf ⟨ok, ov, st⟩ ⟨hd, hi⟩
    obtain ⟨hs, hgd, hx, hz, es', ep', hdt, hm, _, rel⟩ := hd.raw I
    rw [hod] at hdt
    cases hdt
    obtain ⟨k, v, hkv⟩ := at_ps hi
    have hi2 : i < es.size := by rw [hsz]; exact hi
    have lt : it < s.heap.objs.size := Heap.lt_size st
    refine wpAny_pyNext_items_item_raw st hm hi2 fun h' ho hT hz' hk => ?_
    refine ⟨_, rfl, wpAny_letOwnedTupleGo_items (s := { s with heap := h' }) ho fun h2 he sb => ?_⟩
    have hT2 := (sb.2 _ (Nat.ne_of_gt lt)).trans hT
    have J : Inv X pins σ (upd H s.heap.objs.size (.tup [k, v])) { s with heap := h2 } :=
      I.turnedNew (t' := s.toks) (ch := [it]) (fun b ob hb e => by
        have nb : b ≠ it := fun z => hb (List.mem_singleton.mpr z)
        exact (sb.2 b nb).trans (hk b ob nb e)) hf (Nat.le_refl _) (new_pair (rel i hi2 k v hkv).1 (rel i hi2 k v hkv).2 hT2)
    refine ⟨.ref s.heap.objs.size, _, J, rfl, ⟨_, k, v, hkv, rfl, I.hok.fresh (Nat.le_refl _), rfl⟩, ⟨_, _, he⟩, fun b hb => ?_⟩
    rw [List.mem_singleton.mp hb, upd_ne (Nat.ne_of_lt lt)]
    exact (hf it (List.mem_singleton.mpr rfl)).1
  done := by
    rintro X rfl rfl rfl hc i pins s σ H E I hf ⟨ok, ov, st⟩ ⟨hd, hi⟩
    obtain ⟨f0, f1, f2, f3, f4, f5⟩ := hf it (List.mem_singleton.mpr rfl)
    obtain ⟨hs, hgd, hx, hz, es', ep', hdt, hm, _, rel⟩ := hd.raw I
    rw [hod] at hdt
    cases hdt
    exact wpAny_pyNext_items_end_raw (I.ok.hd hc) st hm (by rw [hsz]; exact hi) fun h' eb => ⟨rfl, I.turned (t' := s.toks) (fun b ob hb e => eb b ob hb e) f0 f1 f3 f4 f5⟩
  self := fun A i s Q E st h => by
    obtain ⟨_, _, e⟩ := st
    exact PySem.W.kcp_self e h
theorem wturn_enum {elts : List Expr} {kk : Nat} {tp : Pos} (e it : Addr) (hod : o.data = .dict es ep) (hsz : es.size = ps.length) :
    Turn P w K (.Tuple elts kk tp) (IwE d o ps) [e, it] e (fun i h => (∃ old, IsEnum h e it ((i : Nat) : Int) old) ∧ ItemsIt h it d i es.size ep ∧ e ≠ it) where
  mem := List.mem_cons_self ..
  obj := fun i h st b hb => by
    obtain ⟨⟨old, he⟩, ⟨_, _, _, _, _, hi⟩, _⟩ := st
    rcases List.mem_cons.mp hb with z | z
    · rw [z]
      exact ⟨_, he, fun v q => nomatch q⟩
    · rw [List.mem_singleton.mp z]
      exact ⟨_, hi, fun v q => nomatch q⟩
  keep := fun i h h' st k => ⟨st.1.imp fun old he => k e (List.mem_cons_self ..) _ he, st.2.1.stay fun o q => k it (List.mem_cons_of_mem _ (List.mem_singleton.mpr rfl)) o q, st.2.2⟩
  item := by
    rintro X rfl rfl rfl hc i pins s σ H E I hf ⟨⟨old, he⟩, hit, hne⟩ ⟨hd, hi⟩
    obtain ⟨hs, hgd, hx, hz, es', ep', hdt, hm, _, rel⟩ := hd.raw I
    rw [hod] at hdt
    cases hdt
    obtain ⟨k, v, hkv⟩ := at_ps hi
    have hi2 : i < es.size := by rw [hsz]; exact hi
    have ltE : e < s.heap.objs.size := Heap.lt_size he
    have ltI : it < s.heap.objs.size := by
      obtain ⟨_, _, _, _, _, q⟩ := id hit
      exact Heap.lt_size q
    have mI : it ∈ [e, it] := List.mem_cons_of_mem _ (List.mem_singleton.mpr rfl)
    refine next_enumItems he hit hm hi2 hne fun h1 h2 tk it1 tp1 z1 kp1 en2 tp2 kp2 => ?_
    refine ⟨_, rfl, wpAny_letOwnedTupleGo_enum (s := { s with heap := h2, toks := tk + 1 }) en2 fun h3 en3 sb => ?_⟩
    have J1 : Inv X pins σ (upd H s.heap.objs.size (.tup [k, v])) { s with heap := h1, toks := tk } :=
      I.turnedNew (t' := tk) (ch := [it]) (fun b ob hb q => kp1 b ob (fun z => hb (List.mem_singleton.mpr z)) q) (fun b hb => by rw [List.mem_singleton.mp hb]; exact hf it mI) (Nat.le_refl _) (new_pair (rel i hi2 k v hkv).1 (rel i hi2 k v hkv).2 tp1)
    have fe : FpOk X pins (upd H s.heap.objs.size (.tup [k, v])) e := by
      obtain ⟨f0, f1⟩ := hf e (List.mem_cons_self ..)
      exact ⟨by rw [upd_ne (Nat.ne_of_lt ltE)]; exact f0, f1⟩
    have tp3 : h3.get? (s.heap.objs.size + 1) = some { cls := .type "tuple", data := .seq #[.int i tk, .ref s.heap.objs.size] } := (sb.2 _ (Nat.ne_of_gt (Nat.lt_succ_of_lt ltE))).trans tp2
    have ri : RelV (.int (i : Nat)) (.int (i : Nat) tk) := ⟨_, rfl⟩
    have rr : RelV (.ref s.heap.objs.size) (.ref s.heap.objs.size) := rfl
    have J2 : Inv X pins σ (upd (upd H s.heap.objs.size (.tup [k, v])) (s.heap.objs.size + 1) (.tup [.int (i : Nat), .ref s.heap.objs.size])) { s with heap := h3, toks := tk + 1 } :=
      J1.turnedNew (t' := tk + 1) (ch := [e]) (fun b ob hb q => by
        have nb : b ≠ e := fun z => hb (List.mem_singleton.mpr z)
        exact (sb.2 b nb).trans (kp2 b ob nb q)) (fun b hb => by rw [List.mem_singleton.mp hb]; exact fe) (by show h1.objs.size ≤ _; rw [z1]; exact Nat.le_refl _) (new_pair (X := X) ri rr tp3)
    have y : (IwE d o ps).yld i H (.ref (s.heap.objs.size + 1)) (upd (upd H s.heap.objs.size (.tup [k, v])) (s.heap.objs.size + 1) (.tup [.int (i : Nat), .ref s.heap.objs.size])) :=
      ⟨s.heap.objs.size, s.heap.objs.size + 1, k, v, hkv, rfl, I.hok.fresh (Nat.le_refl _), I.hok.fresh (Nat.le_succ _), Nat.ne_of_lt (Nat.lt_succ_self _), rfl⟩
    have en4 : IsEnum h3 e it ((i + 1 : Nat) : Int) (.ref s.heap.objs.size) := by
      rw [show ((i + 1 : Nat) : Int) = (i : Int) + 1 by omega]
      exact en3
    have it4 : ItemsIt h3 it d (i + 1) es.size ep := it1.stay fun q hq => (sb.2 it (Ne.symm hne)).trans (kp2 it q (Ne.symm hne) hq)
    refine ⟨.ref (s.heap.objs.size + 1), _, J2, rfl, y, ⟨⟨_, en4⟩, it4, hne⟩, fun b hb => ?_⟩
    have lb : b < s.heap.objs.size := by
      rcases List.mem_cons.mp hb with z | z
      · rw [z]
        exact ltE
      · rw [List.mem_singleton.mp z]
        exact ltI
    rw [upd_ne (Nat.ne_of_lt (Nat.lt_succ_of_lt lb)), upd_ne (Nat.ne_of_lt lb)]
    exact (hf b hb).1
  done := by
    rintro X rfl rfl rfl hc i pins s σ H E I hf ⟨⟨old, he⟩, hit, hne⟩ ⟨hd, hi⟩
    obtain ⟨f0, f1, f2, f3, f4, f5⟩ := hf it (List.mem_cons_of_mem _ (List.mem_singleton.mpr rfl))
    obtain ⟨hs, hgd, hx, hz, es', ep', hdt, hm, _, rel⟩ := hd.raw I
    rw [hod] at hdt
    cases hdt
    refine next_enumItems_end (I.ok.hd hc) he hit hm (by rw [hsz]; exact hi) fun h' eb => ⟨rfl, I.turned (t' := s.toks) (fun b ob hb e => eb b ob hb e) f0 f1 f3 f4 f5⟩
  self := fun A i s Q E st h => st.1.elim fun _ he => wpAny_pyIter_enum he h
end
end U
/-! X5: for k in d, for v in d.values(), for k, v in d.items(), for i, (k, v) in enumerate(d.items()). -/
namespace U
open PySem PySem.Spec PyProof.Rows L2 Tr
variable [Wo]

/-- a dict's entries as data -/
def entD : D → Option (List (D × D))
  | .dct ks vs => some ((ks.map kD).zip vs)
  | .dcT ks vs => some (ks.zip vs)
  | _ => none
theorem zip_fst {α β : Type} : ∀ {xs : List α} {ys : List β}, xs.length = ys.length → (xs.zip ys).map (·.1) = xs
  | [], _, _ => rfl
  | x :: xs, [], h => by cases h
  | x :: xs, y :: ys, h => by
    show x :: (xs.zip ys).map (·.1) = x :: xs
    rw [zip_fst (Nat.succ.inj h)]
theorem zip_snd {α β : Type} : ∀ {xs : List α} {ys : List β}, xs.length = ys.length → (xs.zip ys).map (·.2) = ys
  | [], [], _ => rfl
  | [], _ :: _, h => by cases h
  | x :: xs, [], h => by cases h
  | x :: xs, y :: ys, h => by
    show y :: (xs.zip ys).map (·.2) = y :: ys
    rw [zip_snd (Nat.succ.inj h)]
section
variable {K : PySem.W.Frag} {dr sa a : Addr} {F H : Hp} {v : V} {d : D} {es : List (D × D)} {ps : List (V × V)} {o : Obj}
theorem rp_kD : ∀ ks : List Key, RpA K dr F (ks.map kV) (ks.map kD)
  | [] => .nil
  | .inl i :: ks => .cons (.int i) (rp_kD ks)
  | .inr z :: ks => .cons (.str z) (rp_kD ks)
theorem lock_of (h : entD d = some es) (r : Rp K dr F v d) : ∃ a o ps, v = .ref a ∧ LockD F a o ps ∧ RpA K dr F (ps.map (·.1)) (es.map (·.1)) ∧ RpA K dr F (ps.map (·.2)) (es.map (·.2)) := by
  cases d with
  | dct ks vs =>
    cases h
    cases r with
    | @dct a o kvs _ _ h1 h2 h3 =>
      have hl := h3.length
      subst h2
      refine ⟨a, o, _, rfl, .inl ⟨kvs, h1, rfl⟩, ?_, ?_⟩
      · rw [zip_fst (by simpa using hl), List.map_map]
        have := rp_kD (K := K) (dr := dr) (F := F) (kvs.map (·.1))
        rwa [List.map_map] at this
      · rw [zip_snd (by simpa using hl), List.map_map]
        exact h3
  | dcT ks vs =>
    cases h
    cases r with
    | @dcT a o kvs _ _ h1 h2 h3 h4 =>
      have hl := h4.length
      have hl2 := h3.length
      refine ⟨a, o, _, rfl, .inr ⟨kvs, h1, rfl⟩, ?_, ?_⟩
      · rw [zip_fst (by simp at hl hl2; omega), List.map_map]
        exact h3
      · rw [zip_snd (by simp at hl hl2; omega), List.map_map]
        exact h4
  | _ => cases h
theorem rp_at {i : Nat} {k v : V} (r1 : RpA K dr F (ps.map (·.1)) (es.map (·.1))) (r2 : RpA K dr F (ps.map (·.2)) (es.map (·.2))) (hp : ps[i]? = some (k, v)) {x y : D} (he : es[i]? = some (x, y)) : Rp K dr F k x ∧ Rp K dr F v y := by
  obtain ⟨k', h1, h2⟩ := r1.at_ (i := i) (d := x) (by rw [List.getElem?_map, he]; rfl)
  obtain ⟨v', h3, h4⟩ := r2.at_ (i := i) (d := y) (by rw [List.getElem?_map, he]; rfl)
  rw [List.getElem?_map, hp] at h1 h3
  cases h1
  cases h3
  exact ⟨h2, h4⟩
theorem rp_len (r1 : RpA K dr F (ps.map (·.1)) (es.map (·.1))) : ps.length = es.length := by
  have := r1.length
  simpa using this
theorem at_lt {i : Nat} {x : D × D} (r1 : RpA K dr F (ps.map (·.1)) (es.map (·.1))) (he : es[i]? = some x) : i < ps.length := by
  rw [rp_len r1]
  exact (List.getElem?_eq_some_iff.mp he).1
theorem at_wK (l : LockD F a o ps) (r1 : RpA K dr F (ps.map (·.1)) (es.map (·.1))) (r2 : RpA K dr F (ps.map (·.2)) (es.map (·.2))) : ItD K dr sa (IwK a o ps) F (es.map (·.1)) := fun F' H B s => by
  have lh : LockD H a o ps := l.sub (s.trans B.sub)
  refine ⟨fun i d e => ?_, lh, by rw [List.length_map, rp_len r1]; exact Nat.le_refl _⟩
  rw [List.getElem?_map] at e
  cases q : es[i]? with
  | none =>
    rw [q] at e
    cases e
  | some p =>
    rw [q] at e
    cases e
    refine ⟨⟨lh, at_lt r1 q⟩, fun x H' y => ?_⟩
    obtain ⟨e1, v, hv⟩ := y
    subst e1
    exact ⟨F', Evo.refl B, Rp.mono s _ (rp_at r1 r2 hv q).1⟩
theorem at_wV (l : LockD F a o ps) (r1 : RpA K dr F (ps.map (·.1)) (es.map (·.1))) (r2 : RpA K dr F (ps.map (·.2)) (es.map (·.2))) : ItD K dr sa (IwV a o ps) F (es.map (·.2)) := fun F' H B s => by
  have lh : LockD H a o ps := l.sub (s.trans B.sub)
  refine ⟨fun i d e => ?_, lh, by rw [List.length_map, rp_len r1]; exact Nat.le_refl _⟩
  rw [List.getElem?_map] at e
  cases q : es[i]? with
  | none =>
    rw [q] at e
    cases e
  | some p =>
    rw [q] at e
    cases e
    refine ⟨⟨lh, at_lt r1 q⟩, fun x H' y => ?_⟩
    obtain ⟨e1, v, hv⟩ := y
    subst e1
    exact ⟨F', Evo.refl B, Rp.mono s _ (rp_at r1 r2 hv q).2⟩
abbrev tupP (p : D × D) : D := .tup [p.1, p.2]
theorem at_wI (l : LockD F a o ps) (r1 : RpA K dr F (ps.map (·.1)) (es.map (·.1))) (r2 : RpA K dr F (ps.map (·.2)) (es.map (·.2))) : ItD K dr sa (IwI a o ps) F (es.map tupP) := fun F' H B s => by
  have lh : LockD H a o ps := l.sub (s.trans B.sub)
  refine ⟨fun i d e => ?_, lh, by rw [List.length_map, rp_len r1]; exact Nat.le_refl _⟩
  rw [List.getElem?_map] at e
  cases q : es[i]? with
  | none =>
    rw [q] at e
    cases e
  | some p =>
    rw [q] at e
    cases e
    refine ⟨⟨lh, at_lt r1 q⟩, fun x H' y => ?_⟩
    obtain ⟨T, k, v, hv, e1, hT, e2⟩ := y
    subst e1 e2
    obtain ⟨g1, g2⟩ := rp_at r1 r2 hv q
    obtain ⟨ev, rp⟩ := Evo.tup (ds := [p.1, p.2]) B hT (.cons (Rp.mono s _ g1) (.cons (Rp.mono s _ g2) .nil))
    exact ⟨_, ev, rp⟩
theorem at_wE (l : LockD F a o ps) (r1 : RpA K dr F (ps.map (·.1)) (es.map (·.1))) (r2 : RpA K dr F (ps.map (·.2)) (es.map (·.2))) : ItD K dr sa (IwE a o ps) F (numD 0 (es.map tupP)) := fun F' H B s => by
  have lh : LockD H a o ps := l.sub (s.trans B.sub)
  refine ⟨fun i d e => ?_, lh, by rw [numD_length, List.length_map, rp_len r1]; exact Nat.le_refl _⟩
  rw [numD_at, List.getElem?_map] at e
  cases q : es[i]? with
  | none =>
    rw [q] at e
    cases e
  | some p =>
    rw [q] at e
    cases e
    refine ⟨⟨lh, at_lt r1 q⟩, fun x H' y => ?_⟩
    obtain ⟨T, W, k, v, hv, e1, hT, hW, ne, e2⟩ := y
    subst e1 e2
    rw [Nat.zero_add]
    obtain ⟨g1, g2⟩ := rp_at r1 r2 hv q
    obtain ⟨ev, rp⟩ := Evo.tup (ds := [p.1, p.2]) B hT (.cons (Rp.mono s _ g1) (.cons (Rp.mono s _ g2) .nil))
    obtain ⟨ev2, rp2⟩ := Evo.tup (ds := [.int (i : Nat), tupP p]) ev.toBs (by rw [upd_ne (Ne.symm ne)]; exact hW) (.cons (.int _) (.cons rp .nil))
    exact ⟨_, ev.trans ev2, rp2⟩
end
/-- the dict that td gives stands; J walks it -/
def iW (J : Addr → Obj → List (V × V) → It) (td : TE) : TI := fun σ H R => td σ H fun x H1 => ∃ d o ps, x = .ref d ∧ LockD H1 d o ps ∧ R (J d o ps) H1
section
variable {X : Cx} {tg e : Expr} {td : TE} {apos cpos pos p tp : Pos} {kk : Nat} {elts : List Expr}
theorem pi_wK (he : PE X e td) : PI X tg e (iW IwK td) := by
  refine ⟨fun pins s σ H R I h => thn (he.run pins s σ H _ I h) fun u s1 ⟨x, H1, I1, rx, d, o, ps, ex, hd, q⟩ => ?_⟩
  subst ex
  cases (show u = Value.ref d from rx)
  obtain ⟨hs, hgd, hx, hz, es, ep, hdt, hm, hsz, rel⟩ := hd.raw I1
  exact wpAny_pyIter_dict_raw hs hm (pi_one (tk := s1.toks) I1 _ (wturn_keys _ hdt hsz) ⟨_, Heap.get?_push_size _ rfl, rfl, rfl⟩ q)
theorem pi_wV (he : PE X e td) (hbase : attributeBase e "values" X.env (eval e X.env) = eval e X.env := by rfl) (hline : (apos.endLine == cpos.line) = true := by rfl) : PI X tg (.Call (.Attribute e "values" apos) [] [] cpos) (iW IwV td) := by
  refine ⟨fun pins s σ H R I h => wpAny_Call_method (T := "dict") (id := "dict.values") hbase rfl hline F.plainAttrs_dict F.slot_dict_values F.type_dict_values (thn (he.run pins s σ H _ I h) fun u s1 ⟨x, H1, I1, rx, d, o, ps, ex, hd, q⟩ => ?_)⟩
  subst ex
  cases (show u = Value.ref d from rx)
  obtain ⟨hs, hgd, hx, hz, es, ep, hdt, hm, hsz, rel⟩ := hd.raw I1
  refine ⟨hm.typeIs, fun b e => ⟨o, by cases e; exact hgd, hx.2.1⟩, ?_⟩
  have J : Inv X pins σ H1 { s1 with heap := s1.heap.push { cls := .type "dict_values", data := .fields #[.ref d] } } := I1.kept (t' := s1.toks) fun b ob q => Heap.get?_push_of_some _ q
  have fin : wpAny (model X.prog X.w) X.A (pyIter (.ref s1.heap.objs.size)) (PIE X pins σ tg R) X.xe { s1 with heap := s1.heap.push { cls := .type "dict_values", data := .fields #[.ref d] } } :=
    wpAny_pyIter_values_raw ⟨_, Heap.get?_push_size _ rfl, rfl, rfl⟩ (hm.at fun _ => Heap.get?_push_of_some _) (pi_one (tk := s1.toks) J _ (wturn_vals _ hdt hsz) ⟨_, Heap.get?_push_size _ rfl, rfl, rfl⟩ q)
  show wpAny _ _ (callWith cpos (.builtin "dict.values") [.ref d] [] []) _ X.xe s1
  exact method_meetsIn F.slot_dict_values F.entry_dict_values rfl (PySem.evalArgs_none ⟨rfl, hm.typeIs, F.args_dict_values_1 _, _, meets_dict_values_raw d hs, ⟨es, ep, hm⟩, fin⟩)
theorem pi_wI (he : PE X e td) (hbase : attributeBase e "items" X.env (eval e X.env) = eval e X.env := by rfl) (hline : (apos.endLine == cpos.line) = true := by rfl) : PI X (.Tuple elts kk tp) (.Call (.Attribute e "items" apos) [] [] cpos) (iW IwI td) := by
  refine ⟨fun pins s σ H R I h => wpAny_Call_method (T := "dict") (id := "dict.items") hbase rfl hline F.plainAttrs_dict F.slot_dict_items F.type_dict_items (thn (he.run pins s σ H _ I h) fun u s1 ⟨x, H1, I1, rx, d, o, ps, ex, hd, q⟩ => ?_)⟩
  subst ex
  cases (show u = Value.ref d from rx)
  obtain ⟨hs, hgd, hx, hz, es, ep, hdt, hm, hsz, rel⟩ := hd.raw I1
  refine ⟨hm.typeIs, fun b e => ⟨o, by cases e; exact hgd, hx.2.1⟩, ?_⟩
  have J : Inv X pins σ H1 { s1 with heap := s1.heap.push { cls := .type "dict_items", data := .fields #[.ref d] } } := I1.kept (t' := s1.toks) fun b ob q => Heap.get?_push_of_some _ q
  have fin : wpAny (model X.prog X.w) X.A (pyIter (.ref s1.heap.objs.size)) (PIE X pins σ (.Tuple elts kk tp) R) X.xe { s1 with heap := s1.heap.push { cls := .type "dict_items", data := .fields #[.ref d] } } :=
    wpAny_pyIter_items_raw ⟨_, Heap.get?_push_size _ rfl, rfl, rfl⟩ (hm.at fun _ => Heap.get?_push_of_some _) (pi_one (tk := s1.toks) J _ (wturn_items _ hdt hsz) ⟨.none, .none, Heap.get?_push_size _ rfl⟩ q)
  show wpAny _ _ (callWith cpos (.builtin "dict.items") [.ref d] [] []) _ X.xe s1
  exact method_meetsIn F.slot_dict_items F.entry_dict_items rfl (PySem.evalArgs_none ⟨rfl, hm.typeIs, F.args_dict_items_1 _, _, meets_dict_items_raw d hs, ⟨es, ep, hm⟩, fin⟩)
/-- enumerate(e.items()) -/
theorem pi_wE (hg : Gl X "enumerate") (hm0 : X.mg "enumerate" = none) (he : PE X e td) (hbase : attributeBase e "items" X.env (eval e X.env) = eval e X.env := by rfl) (hline : (apos.endLine == cpos.line) = true := by rfl)
    (hst : starEach [.Call (.Attribute e "items" apos) [] [] cpos] X.env = [(false, eval (.Call (.Attribute e "items" apos) [] [] cpos) X.env)] := by rfl) :
    PI X (.Tuple elts kk tp) (.Call (.Name "enumerate" p) [.Call (.Attribute e "items" apos) [] [] cpos] [] pos) (iW IwE td) := by
  refine ⟨fun pins s σ H R I h => Call_ (ld_blt I hg hm0 boot_enumerate (PyProof.Rows.callWith_type1 ?_ hst rfl))⟩
  rw [hst]
  show wpAny _ _ (spliced ((false, eval (.Call (.Attribute e "items" apos) [] [] cpos) X.env) :: backTo pos (starEach [] X.env))) _ _ s
  refine Calls.spliced_cons ?_
  refine wpAny_Call_method (T := "dict") (id := "dict.items") hbase rfl hline F.plainAttrs_dict F.slot_dict_items F.type_dict_items (thn (he.run pins s σ H _ I h) fun u s1 ⟨x, H1, I1, rx, d, o, ps, ex, hd, q⟩ => ?_)
  subst ex
  cases (show u = Value.ref d from rx)
  obtain ⟨hs, hgd, hx, hz, es, ep, hdt, hm, hsz, rel⟩ := hd.raw I1
  refine ⟨hm.typeIs, fun b e => ⟨o, by cases e; exact hgd, hx.2.1⟩, ?_⟩
  show wpAny _ _ (callWith cpos (.builtin "dict.items") [.ref d] [] []) _ X.xe s1
  refine method_meetsIn F.slot_dict_items F.entry_dict_items rfl (PySem.evalArgs_none ⟨rfl, hm.typeIs, F.args_dict_items_1 _, _, meets_dict_items_raw d hs, ⟨es, ep, hm⟩, ?_⟩)
  refine Calls.spliced_nil ?_
  have iv : Heap.IsItemsView (s1.heap.push { cls := .type "dict_items", data := .fields #[.ref d] }) s1.heap.objs.size d := ⟨_, Heap.get?_push_size _ rfl, rfl, rfl⟩
  have dr : (s1.heap.push { cls := .type "dict_items", data := .fields #[.ref d] }).DictRaw d es ep := hm.at fun _ => Heap.get?_push_of_some _
  have J : Inv X pins σ H1 { s1 with heap := s1.heap.push { cls := .type "dict_items", data := .fields #[.ref d] } } := I1.kept (t' := s1.toks) fun b ob q => Heap.get?_push_of_some _ q
  generalize hv : s1.heap.objs.size = v at iv
  generalize s1.heap.push { cls := .type "dict_items", data := .fields #[.ref d] } = h1 at iv dr J
  refine callType_new F.called_enumerate (by decide) (F.typeCall_enumerate_1 _) (F.newCall_enumerate_1 _) (fun obj => F.args_object_init_2 obj _) F.entry_enumerate_new (meets_enumI v trivial) ⟨⟨iv, dr⟩, ?_⟩
  have ko : ∀ b ob, h1.get? b = some ob → ((h1.push { cls := .type "dict_itemiterator", data := .fields #[.none, .bool false, .ref d, .int 0 0, .int es.size 0, .int ep 0, .none, .none] }).push { cls := .type "enumerate", data := .fields #[.none, .bool false, .ref h1.objs.size, rawInt 0, .none, .none] }).get? b = some ob := fun b ob y => Heap.get?_push_of_some _ (Heap.get?_push_of_some _ y)
  have zz : (h1.push { cls := .type "dict_itemiterator", data := .fields #[.none, .bool false, .ref d, .int 0 0, .int es.size 0, .int ep 0, .none, .none] }).objs.size = h1.objs.size + 1 := Heap.size_push ..
  have ien : IsEnum ((h1.push { cls := .type "dict_itemiterator", data := .fields #[.none, .bool false, .ref d, .int 0 0, .int es.size 0, .int ep 0, .none, .none] }).push { cls := .type "enumerate", data := .fields #[.none, .bool false, .ref h1.objs.size, rawInt 0, .none, .none] }) (h1.objs.size + 1) h1.objs.size 0 .none := by
    have y := Heap.get?_push_size (h1.push { cls := .type "dict_itemiterator", data := .fields #[.none, .bool false, .ref d, .int 0 0, .int es.size 0, .int ep 0, .none, .none] }) (o := { cls := .type "enumerate", data := .fields #[.none, .bool false, .ref h1.objs.size, rawInt 0, .none, .none] }) rfl
    rw [zz] at y
    exact y
  have iit : ItemsIt ((h1.push { cls := .type "dict_itemiterator", data := .fields #[.none, .bool false, .ref d, .int 0 0, .int es.size 0, .int ep 0, .none, .none] }).push { cls := .type "enumerate", data := .fields #[.none, .bool false, .ref h1.objs.size, rawInt 0, .none, .none] }) h1.objs.size d 0 es.size ep :=
    .first (Heap.get?_push_of_some _ (Heap.get?_push_size _ rfl))
  refine ⟨⟨_, ien, rfl⟩, wpAny_pyIter_enum ien ⟨h1.objs.size + 1, [h1.objs.size + 1, h1.objs.size], _, _, H1, rfl, J.kept (t' := s1.toks) ko, wturn_enum (h1.objs.size + 1) h1.objs.size hdt hsz, ⟨⟨.none, ien⟩, iit, Nat.succ_ne_self _⟩, fun b hb => ?_, q⟩⟩
  have hle : h1.objs.size ≤ b := by
    rcases List.mem_cons.mp hb with z | z
    · rw [z]
      exact Nat.le_succ _
    · rw [List.mem_singleton.mp z]
      exact Nat.le_refl _
  exact J.fpOk hle (J.hok.fresh hle)
end
section
variable {X : Cx} {E : XK} {tg e : Expr} {f : FE} {apos cpos pos p tp : Pos} {kk : Nat} {elts : List Expr}
theorem iW_in {J : Addr → Obj → List (V × V) → It} {g : List (D × D) → List D} (hJ : ∀ {K : PySem.W.Frag} {dr sa a : Addr} {F : Hp} {es : List (D × D)} {ps : List (V × V)} {o : Obj}, LockD F a o ps → RpA K dr F (ps.map (·.1)) (es.map (·.1)) → RpA K dr F (ps.map (·.2)) (es.map (·.2)) → ItD K dr sa (J a o ps) F (g es))
    (h : VE X E e f) {σ : L2.St} {H : Hp} {R : It → Hp → Prop} (q : tGI E X.K (wFA fun env => (f env).bind fun d => .of ((entD d).map g)) σ H R) : iW J (tG RF E X.K (wF f)) σ H R := by
  obtain ⟨dr, sa, F, env, S, q⟩ := q
  have q := q
  unfold wFA at q
  rw [sat_bind] at q
  refine ⟨dr, sa, F, env, S, h.mono env _ _ _ _ (fun d q1 v F1 H1 e1 r1 => ?_) (fun _ _ _ z => z) q⟩
  obtain ⟨ds, ed, q1⟩ := sat_of.mp q1
  cases en : entD d with
  | none =>
    rw [en] at ed
    cases ed
  | some es =>
    rw [en] at ed
    cases ed
    obtain ⟨a, o, ps, ev, l, r2, r3⟩ := lock_of en r1
    exact ⟨a, o, ps, ev, l.sub e1.toBs.sub, q1 _ F1 H1 e1 (hJ l r2 r3)⟩
def fiW (g : List (D × D) → List D) (f : FE) : FA := fun env => (f env).bind fun d => .of ((entD d).map g)
theorem fiW_mono {g : List (D × D) → List D} : ∀ env (Q Q' : List D → Prop) (x x' : XP), (∀ d, Q d → Q' d) → (∀ c n v, x c n v → x' c n v) → wFA (fiW g f) env Q x → wFA (fiW g f) env Q' x' := fun env Q Q' x x' k kx q => sat_mono k kx _ q
abbrev gKeys : List (D × D) → List D := List.map (·.1)
abbrev gVals : List (D × D) → List D := List.map (·.2)
abbrev gItems : List (D × D) → List D := List.map tupP
abbrev gEnum : List (D × D) → List D := fun es => numD 0 (es.map tupP)
theorem vi_keys (h : VE X E e f) : VI X E tg e (fiW gKeys f) := ⟨PI.wk (pi_wK h.pe) fun σ H R q => iW_in at_wK h q, fiW_mono⟩
theorem vi_vals (h : VE X E e f) (hbase : attributeBase e "values" X.env (eval e X.env) = eval e X.env := by rfl) (hline : (apos.endLine == cpos.line) = true := by rfl) : VI X E tg (.Call (.Attribute e "values" apos) [] [] cpos) (fiW gVals f) :=
  ⟨PI.wk (pi_wV h.pe hbase hline) fun σ H R q => iW_in at_wV h q, fiW_mono⟩
theorem vi_items (h : VE X E e f) (hbase : attributeBase e "items" X.env (eval e X.env) = eval e X.env := by rfl) (hline : (apos.endLine == cpos.line) = true := by rfl) : VI X E (.Tuple elts kk tp) (.Call (.Attribute e "items" apos) [] [] cpos) (fiW gItems f) :=
  ⟨PI.wk (pi_wI h.pe hbase hline) fun σ H R q => iW_in at_wI h q, fiW_mono⟩
theorem vi_enumI (hg : Gl X "enumerate") (hm : X.mg "enumerate" = none) (h : VE X E e f) (hbase : attributeBase e "items" X.env (eval e X.env) = eval e X.env := by rfl) (hline : (apos.endLine == cpos.line) = true := by rfl)
    (hst : starEach [.Call (.Attribute e "items" apos) [] [] cpos] X.env = [(false, eval (.Call (.Attribute e "items" apos) [] [] cpos) X.env)] := by rfl) :
    VI X E (.Tuple elts kk tp) (.Call (.Name "enumerate" p) [.Call (.Attribute e "items" apos) [] [] cpos] [] pos) (fiW gEnum f) :=
  ⟨PI.wk (pi_wE hg hm h.pe hbase hline hst) fun σ H R q => iW_in at_wE h q, fiW_mono⟩
end
end U
/-! X6: list(d), tuple(d.items()), dict(d) of few tuple keys. -/
namespace PySem
open Builtin
open AutoSeq1 (wpAny_loadPart')
/-- tuple() of what can be collected -/
theorem tuple_of {prog : Program} {w : World} {A : Around} {E : Value → Shared → Prop} {s : Shared} {v : Addr} {T : String} {Q : Value → Shared → Prop} (hT : s.TypeIs (.ref v) T) (hne : (Value.type T == Value.type "tuple") = false)
    (h : wpAny (model prog w) A.in1.in1 (collect (.ref v)) (fun xs s' => xs.length ≤ sizeLine ∧ Q (.ref s'.heap.objs.size) { s' with heap := s'.heap.push { cls := .type "tuple", data := .seq xs.toArray } }) E s) :
    wpAny (model prog w) A (call (.type "tuple") [.ref v]) Q E s := by
  refine callType_codes (T := "tuple") (Bi := Builtin.«object.__init__») (Q₁ := fun r s₁ => s₁.TypeIs r "tuple" ∧ Q r s₁) PySem.F.called_tuple (PySem.F.typeCall_tuple_1 _) PySem.F.entry_object_init ?_ ?_
  · refine codeAny_of_tree ?_
    show wpAny _ A.in1.in1 (do checkBuiltinCall "tuple.__new__" ⟨[.type "tuple", .ref v], []⟩; again (.builtin "tuple.__new__" ⟨[.type "tuple", .ref v], []⟩)) _ _ s
    refine wpAny_bind (wpAny_of_eq (PySem.F.newCall_tuple_1 _) (wpAny_pure ⟨plainId_quiet (by decide +kernel) _, codeAny_builtin PySem.F.entry_tuple_new ?_⟩))
    rw [Around.under_plainId (by decide +kernel) _]
    have hsub := sub_tuple_self
    have hinit := init_tuple_lookup
    have hmh := madeHere_tuple
    obtain ⟨o, ho, hc⟩ := id hT
    unfold Builtin.«tuple.__new__»
    wp_walk using wpAny_typeOf hT, (wpAny_mono h (fun xs s' q => ?_) fun _ _ y => y)
    exact ⟨⟨_, Heap.get?_push_size _ rfl, rfl⟩, q.2⟩
  · rintro obj s₁ ⟨ty, hq⟩
    exact ⟨ty, PySem.F.args_object_init_2 _ _, object_init_meets PySem.F.called_tuple.init.lookup PySem.F.called_tuple.made (by decide) prog w A.in1 _ s₁ ⟨ty, rfl, hq⟩⟩
end PySem
namespace U
open PySem PySem.Spec PyProof.Rows L2 Tr
variable [Wo]
section
variable {X : Cx} {pins : List (Addr × Obj)} {σ : L2.St} {H G : Hp} {s : Shared} {h' : Heap} {tk : Nat}
/-- many new things are laid at once -/
theorem inv_many (I : Inv X pins σ H s) (hk : ∀ b o, s.heap.get? b = some o → h'.get? b = some o) (old : ∀ b u, H b = some u → G b = some u) (new : ∀ b u, G b = some u → H b = none → s.heap.objs.size ≤ b ∧ ObjOk X.prog X.w G h' b u) : Inv X pins σ G { s with heap := h', toks := tk } := by
  refine I.call' (ch := []) rfl ⟨fun b o q _ _ _ => hk b o q, fun b o q _ _ _ => ⟨o.slots, hk b o q⟩, fun b o q n _ => ?_, fun b o q _ => ⟨o, hk b o q⟩, fun b xs q => old b _ q, fun b o u q => old b _ q, fun b ps q => ⟨#[], by rw [old b _ q]; simp⟩⟩ (fun b u q => ?_) I.bare fun b z => nomatch z
  · cases e : G b with
    | none => rfl
    | some u => exact absurd (Heap.lt_size q) (Nat.not_lt.mpr (new b u e n).1)
  · cases e : H b with
    | none => exact (new b u q e).2
    | some u' =>
      have := old b u' e
      rw [q] at this
      cases this
      exact (I.hok b u e).stay (fun d v _ y => hk d v y) (fun d y => old d _ y) fun d xs y => old d _ y
end
/-- the new things stand -/
def Fm (F H G : Hp) : Hp := fun b => match H b with
  | some _ => F b
  | none => G b
theorem evo_many {dr sa : Addr} {F H G : Hp} (B : Bs dr sa F H) (old : ∀ b u, H b = some u → G b = some u) (nt : ∀ b u, G b = some u → H b = none → NoT u) : Evo dr sa F H (Fm F H G) G := by
  have at_ : ∀ b u, H b = some u → Fm F H G b = F b := fun b u e => by unfold Fm; rw [e]
  have out : ∀ b, H b = none → Fm F H G b = G b := fun b e => by unfold Fm; rw [e]
  obtain ⟨n, hd⟩ := B.draw
  refine ⟨⟨fun b u e => ?_, by rw [at_ dr _ hd]; exact B.nod, fun b u e => ?_, ⟨n, old _ _ hd⟩, ?_, B.tabs.ext old⟩, fun b u e => ?_, fun b u _ _ e => old b u e, fun b ps e => ⟨ps, old b _ e⟩, fun b u e => ?_⟩
  · cases q : H b with
    | none =>
      rw [out b q] at e
      exact e
    | some u' =>
      rw [at_ b _ q] at e
      exact old b u (B.sub b u e)
  · cases q : H b with
    | none =>
      rw [out b q] at e
      exact nt b u e q
    | some u' =>
      rw [at_ b _ q] at e
      exact B.ntb b u e
  · obtain ⟨ns, o, h1, h2⟩ := B.scr
    exact ⟨ns, o, by rw [at_ sa _ (B.sub _ _ h1)]; exact h1, h2⟩
  · rw [at_ b _ (B.sub _ _ e)]
    exact e
  · cases q : H b with
    | none => exact .inr rfl
    | some u' =>
      rw [at_ b _ q] at e
      exact .inl ⟨u, e⟩
theorem paired_mono {α β : Type} {R S : α → β → Prop} : ∀ {xs : List α} {ys : List β}, Paired R xs ys → (∀ x ∈ xs, ∀ y, R x y → S x y) → Paired S xs ys
  | _, _, .nil, _ => .nil
  | _, _, .cons h t, k => .cons (k _ (List.mem_cons_self ..) _ h) (paired_mono t fun x hx => k x (List.mem_cons_of_mem _ hx))
/-- tuple(e.items()): what comes of the dict at d -/
def rTI : V → Hp → VK → Prop := fun x H Q => ∃ (d : Addr) (o : Obj) (kvs : List (Key × V)), x = .ref d ∧ H d = some (.frz o (.dK kvs)) ∧
  ∀ (G : Hp) (T : Addr) (as : List Addr), (∀ b u, H b = some u → G b = some u) → H T = none → (∀ t ∈ as, H t = none) → G T = some (.tup (as.map V.ref)) → Paired (fun (t : Addr) (q : Key × V) => G t = some (.tup [kV q.1, q.2])) as kvs →
    (∀ b u, G b = some u → H b = none → ∃ xs, u = .tup xs) → Q (.ref T) G
section
variable {X : Cx} {e : Expr} {te : TE} {p apos cpos pos : Pos}
theorem pe_tupleItems (hc : X.calm = true) (he : PE X e te) (hg : Gl X "tuple") (hm : X.mg "tuple" = none) (hbase : attributeBase e "items" X.env (eval e X.env) = eval e X.env := by rfl) (hline : (apos.endLine == cpos.line) = true := by rfl)
    (hst : starEach [.Call (.Attribute e "items" apos) [] [] cpos] X.env = (false, eval (.Call (.Attribute e "items" apos) [] [] cpos) X.env) :: starEach [] X.env := by rfl) :
    PE X (.Call (.Name "tuple" p) [.Call (.Attribute e "items" apos) [] [] cpos] [] pos) (fun σ H Q => te σ H fun x H1 => rTI x H1 Q) := by
  refine ⟨fun pins s σ H Q I hq => ?_⟩
  refine wpAny_Call_Name_kw (ld_blt I hg hm boot_tuple ?_)
  refine PyProof.Rows.callWith_type1 ?_ hst rfl
  rw [hst]
  show wpAny _ _ (spliced ((false, eval (.Call (.Attribute e "items" apos) [] [] cpos) X.env) :: backTo pos (starEach [] X.env))) _ _ s
  refine Calls.spliced_cons ?_
  refine wpAny_Call_method (T := "dict") (id := "dict.items") hbase rfl hline F.plainAttrs_dict F.slot_dict_items F.type_dict_items (thn (he.run pins s σ H _ I hq) fun u s1 ⟨x, H1, I1, rx, d, o, kvs, ex, hd, q⟩ => ?_)
  subst ex
  cases (show u = Value.ref d from rx)
  obtain ⟨hs, hgd, hx, es, ep, vs, hdt, hsz, kv, hat⟩ := I1.frzK hd
  have z : kvs.length ≤ sizeLine := (I1.hok d _ hd).2.1
  have lk : kvs.length = vs.length := Paired.length kv
  refine ⟨hat.dictOf.typeIs, hat.dictOf.mapOf.noDict, ?_⟩
  show wpAny _ _ (callWith cpos (.builtin "dict.items") [.ref d] [] []) _ X.xe s1
  refine method_meetsIn F.slot_dict_items F.entry_dict_items rfl (PySem.evalArgs_none ⟨rfl, hat.dictOf.typeIs, F.args_dict_items_1 _, _, meets_dict_items (mixKind X.prog X.w) d hs, ⟨vs, hat.dictOf⟩, ?_⟩)
  refine Calls.spliced_nil ?_
  have iv : Heap.IsItemsView (s1.heap.push { cls := .type "dict_items", data := .fields #[.ref d] }) s1.heap.objs.size d := ⟨_, Heap.get?_push_size _ rfl, rfl, rfl⟩
  have J : Inv X pins σ H1 { s1 with heap := s1.heap.push { cls := .type "dict_items", data := .fields #[.ref d] } } := I1.kept (t' := s1.toks) fun b ob q => Heap.get?_push_of_some _ q
  have at2 := hat.push { cls := .type "dict_items", data := .fields #[.ref d] }
  have zv : (s1.heap.push { cls := .type "dict_items", data := .fields #[.ref d] }).objs.size = s1.heap.objs.size + 1 := Heap.size_push ..
  generalize s1.heap.objs.size = v at iv zv
  generalize s1.heap.push { cls := .type "dict_items", data := .fields #[.ref d] } = h1 at iv J at2 zv
  refine tuple_of (T := "dict_items") iv.typeIs (by decide) (PySem.W.kdx_collect (s := { s1 with heap := h1 }) (knd := mixKind X.prog X.w) (kvs := vs) (ep := ep) (I1.ok.hd hc) iv at2 (by omega) fun h2 tk as hk hl hG => ?_)
  have nd : as.Nodup := List.Pairwise.imp (fun {a b} (h : a < b) => Nat.ne_of_lt h) hG.rise
  have up : ∀ t ∈ as, h1.objs.size ≤ t := fun t ht => Nat.le_of_lt (hG.above t ht)
  have new : ∀ t ∈ as, H1 t = none := fun t ht => J.hok.fresh (up t ht)
  have le12 : h1.objs.size ≤ h2.objs.size := by
    obtain ⟨ob, hb, _⟩ := iv
    rw [zv]
    exact Heap.lt_size (hk v ob hb)
  have lt2 : ∀ t ∈ as, t < h2.objs.size := fun t ht => hG.there ht
  have hT : H1 h2.objs.size = none := J.hok.fresh le12
  have nT : h2.objs.size ∉ as := fun z => Nat.lt_irrefl _ (lt2 _ z)
  have atP := LiI.putT_at as kvs H1 (by omega) nd
  have hk2 : ∀ b ob, h1.get? b = some ob → (h2.push { cls := .type "tuple", data := .seq (as.map Value.ref).toArray }).get? b = some ob := fun b ob y => Heap.get?_push_of_some _ (hk b ob y)
  have off : ∀ b, b ∉ as → b ≠ h2.objs.size → upd (LiI.putT H1 as kvs) h2.objs.size (.tup (as.map V.ref)) b = H1 b := fun b n1 n2 => by rw [upd_ne n2, LiI.putT_off as kvs _ n1]
  have inn : ∀ b, b ∈ as → upd (LiI.putT H1 as kvs) h2.objs.size (.tup (as.map V.ref)) b = LiI.putT H1 as kvs b := fun b n1 => upd_ne (fun z => nT (z ▸ n1))
  have old : ∀ b u, H1 b = some u → upd (LiI.putT H1 as kvs) h2.objs.size (.tup (as.map V.ref)) b = some u := fun b u y => by
    rw [off b (fun z => by rw [new b z] at y; cases y) (fun z => by rw [z, hT] at y; cases y)]
    exact y
  have each : ∀ b u, upd (LiI.putT H1 as kvs) h2.objs.size (.tup (as.map V.ref)) b = some u → H1 b = none → (b = h2.objs.size ∧ u = .tup (as.map V.ref)) ∨ (b ∈ as ∧ ∃ (j : Nat) (pk : Key × V), as[j]? = some b ∧ kvs[j]? = some pk ∧ u = .tup [kV pk.1, pk.2]) := fun b u y n => by
    by_cases hb : b ∈ as
    · obtain ⟨j, pk, e1, e2, e3⟩ := LiI.paired_ix atP hb
      rw [inn b hb, e3] at y
      cases y
      exact .inr ⟨hb, j, pk, e1, e2, rfl⟩
    · by_cases hb2 : b = h2.objs.size
      · rw [hb2, upd_same] at y
        cases y
        exact .inl ⟨hb2, rfl⟩
      · rw [off b hb hb2, n] at y
        cases y
  have len : (as.map Value.ref).length ≤ sizeLine := by
    rw [List.length_map, hl]
    omega
  have J2 : Inv X pins σ (upd (LiI.putT H1 as kvs) h2.objs.size (.tup (as.map V.ref))) { s1 with heap := h2.push { cls := .type "tuple", data := .seq (as.map Value.ref).toArray }, toks := tk } := by
    refine inv_many (s := { s1 with heap := h1 }) (tk := tk) J hk2 old fun b u y n => ?_
    rcases each b u y n with ⟨e1, e2⟩ | ⟨hb, j, pk, e1, e2, e3⟩
    · subst e1
      subst e2
      refine ⟨le12, by rw [List.length_map, hl]; omega, as.map Value.ref, LiI.vals_refs as, ⟨_, Heap.get?_push_size _ rfl, rfl, _, rfl⟩⟩
    · subst e3
      obtain ⟨key, k, x, f1, f2, f3⟩ := hG.pairs j b e1
      obtain ⟨qv, g1, g2, g3⟩ := LiI.paired_get kv e2
      rw [f1] at g1
      cases g1
      have rk : RelV (kV pk.1) key := by
        rw [g2]
        exact relV_key (show keyIs k key = true from f2)
      exact ⟨up b hb, by show 2 ≤ sizeLine; decide, [key, x], .cons rk (.cons g3 .nil), ⟨_, Heap.get?_push_of_some _ f3, rfl, _, rfl⟩⟩
  refine ⟨len, .ref h2.objs.size, upd (LiI.putT H1 as kvs) h2.objs.size (.tup (as.map V.ref)), J2, rfl, q _ _ as old hT new upd_same ?_ fun b u y n => ?_⟩
  · exact paired_mono atP fun t ht qk y => by rw [inn t ht]; exact y
  · rcases each b u y n with ⟨_, e2⟩ | ⟨_, j, pk, _, _, e3⟩
    · exact ⟨_, e2⟩
    · exact ⟨_, e3⟩
end
section
variable {K : PySem.W.Frag} {dr sa : Addr} {F H G : Hp}
theorem rp_refs {F' : Hp} : ∀ {as : List Addr} {kvs : List (Key × V)} {vs : List D}, Paired (fun (t : Addr) (q : Key × V) => F' t = some (.tup [kV q.1, q.2])) as kvs → RpA K dr F' (kvs.map (·.2)) vs → RpA K dr F' (as.map V.ref) ((((kvs.map (·.1)).map kD).zip vs).map tupP)
  | [], _, vs, .nil, r => by
    cases r
    exact .nil
  | t :: as, (k, v) :: kvs, vs, .cons h p, r => by
    cases r with
    | @cons _ _ d ds r1 r2 =>
      have ih := rp_refs p r2
      have hk : Rp K dr F' (kV k) (kD k) := by
        cases k with
        | inl i => exact .int i
        | inr z => exact .str z
      exact .cons (.tup h (.cons hk (.cons r1 .nil))) ih
end
section
variable {X : Cx} {E : XK} {e : Expr} {f : FE} {p apos cpos pos : Pos}
def foTI : OF1 := fun d => match d with
  | .dct ks vs => some (.tup (((ks.map kD).zip vs).map tupP))
  | _ => none
theorem ve_tupleItems (hc : X.calm = true) (hg : Gl X "tuple") (hm : X.mg "tuple" = none) (h : VE X E e f) (hbase : attributeBase e "items" X.env (eval e X.env) = eval e X.env := by rfl) (hline : (apos.endLine == cpos.line) = true := by rfl)
    (hst : starEach [.Call (.Attribute e "items" apos) [] [] cpos] X.env = (false, eval (.Call (.Attribute e "items" apos) [] [] cpos) X.env) :: starEach [] X.env := by rfl) :
    VE X E (.Call (.Name "tuple" p) [.Call (.Attribute e "items" apos) [] [] cpos] [] pos) (fB1 foTI f) := by
  refine ⟨PE.wk (pe_tupleItems hc h.pe hg hm hbase hline hst) fun σ H Q ⟨dr, sa, F, env, S, q⟩ => ?_, wF_mono⟩
  have q := q
  unfold wF fB1 at q
  rw [sat_bind] at q
  refine ⟨dr, sa, F, env, S, h.mono env _ _ _ _ (fun d q1 v F1 H1 e1 r1 => ?_) (fun _ _ _ z => z) q⟩
  obtain ⟨r, er, q1⟩ := sat_of.mp q1
  cases d with
  | dct ks vs =>
    cases er
    cases r1 with
    | @dct a o kvs _ _ h1 h2 h3 =>
      subst h2
      refine ⟨a, o, kvs, rfl, e1.toBs.sub _ _ h1, fun G T as old hT new gT pr nt => ?_⟩
      have ev : Evo dr sa F1 H1 (Fm F1 H1 G) G := evo_many e1.toBs old fun b u y n => by
        obtain ⟨xs, ex⟩ := nt b u y n
        subst ex
        exact fun ps z => nomatch z
      have out : ∀ b, H1 b = none → Fm F1 H1 G b = G b := fun b e => by unfold Fm; rw [e]
      have rr := rp_refs (K := X.K) (dr := dr) (F' := Fm F1 H1 G) (paired_mono pr fun t ht qk y => by rw [out t (new t ht)]; exact y) (RpA.mono ev.fs vs h3)
      exact q1 _ _ _ (e1.trans ev) (.tup (by rw [out T hT]; exact gT) rr)
  | _ => cases er
theorem paired_ix2 {α β : Type} {R : α → β → Prop} : ∀ {xs : List α} {ys : List β}, xs.length = ys.length → (∀ (i : Nat) (x : α) (y : β), xs[i]? = some x → ys[i]? = some y → R x y) → Paired R xs ys
  | [], [], _, _ => .nil
  | [], _ :: _, h, _ => by cases h
  | _ :: _, [], h, _ => by cases h
  | x :: xs, y :: ys, h, k => .cons (k 0 x y rfl rfl) (paired_ix2 (Nat.succ.inj h) fun i a b h1 h2 => k (i + 1) a b h1 h2)
/-! ### list(d) -/
def rKeysL : List V → Hp → VK → Prop := fun xs H Q => ∃ (d : Addr) (o : Obj) (ps : List (V × V)), xs = [.ref d] ∧ LockD H d o ps ∧ ∀ l, H l = none → Q (.ref l) (upd H l (.lst (ps.map (·.1))))
theorem vals_keys {es : Array DictEntry} {ps : List (V × V)} (hsz : es.size = ps.length) (rel : ∀ i (hi : i < es.size) k v, ps[i]? = some (k, v) → RelV k es[i].key ∧ RelV v es[i].val) {acc : Array Value} (it : ItemsOf (fun i v => ∃ hi : i < es.size, v = es[i].key) acc es.size) : Vals (ps.map (·.1)) acc.toList := by
  refine paired_ix2 (by
    have h1 := it.1
    have h2 : acc.toList.length = acc.size := Array.length_toList
    rw [List.length_map, h2]
    omega) fun i k u h1 h2 => ?_
  rw [List.getElem?_map] at h1
  rw [Array.getElem?_toList] at h2
  obtain ⟨hi, e⟩ := it.2 i u h2
  subst e
  cases q : ps[i]? with
  | none =>
    rw [q] at h1
    cases h1
  | some p =>
    rw [q] at h1
    cases h1
    exact (rel i hi p.1 p.2 q).1
theorem call_keysL (hc : X.calm = true) : CallR X (.type "list") rKeysL := by
  rintro pins s σ H xs us Q I r ⟨d, o, ps, ex, hd, q⟩
  subst ex
  rw [Vals.ref1 r]
  obtain ⟨hs, hgd, hx, hz, es, ep, hdt, hm, hsz, rel⟩ := hd.raw I
  refine PySem.W.kdl_call (KdlSrc.rawDict (es := es) (ep := ep) hs) (I.ok.hd hc) hm (by omega) fun h' tk acc c hk hS it => ?_
  have vk := vals_keys hsz rel it
  refine ⟨.ref s.heap.objs.size, _, I.laid (t' := tk) hk (Nat.le_refl _) (o := .lst (ps.map (·.1))) ⟨by rw [List.length_map]; exact hz, acc.toList, c, vk, ?_⟩, rfl, q _ (I.hok.fresh (Nat.le_refl _))⟩
  rw [Array.toArray_toList]
  exact hS
def foKeysL : OF1 := fun d => (entD d).map fun es => .lst (es.map (·.1))
theorem ve_listKeys (hc : X.calm = true) (hg : Gl X "list") (hm : X.mg "list" = none) (h : VE X E e f) (hs : starEach [e] X.env = (false, eval e X.env) :: starEach [] X.env := by rfl) : VE X E (.Call (.Name "list" p) [e] [] pos) (fB1 foKeysL f) := by
  refine ⟨PE.wk (pe_callTy (call_keysL hc) hg hm boot_list (pa_cons h.pe pa_nil hs) (by decide) (by decide) hs rfl) fun σ H Q ⟨dr, sa, F, env, S, q⟩ => ?_, wF_mono⟩
  have q := q
  unfold wF fB1 at q
  rw [sat_bind] at q
  refine ⟨dr, sa, F, env, S, h.mono env _ _ _ _ (fun d q1 v F1 H1 e1 r1 => ?_) (fun _ _ _ z => z) q⟩
  obtain ⟨r, er, q1⟩ := sat_of.mp q1
  unfold foKeysL at er
  cases en : entD d with
  | none =>
    rw [en] at er
    cases er
  | some es =>
    rw [en] at er
    cases er
    obtain ⟨a, o, ps, ev, l, r2, r3⟩ := lock_of en r1
    refine ⟨a, o, ps, by rw [ev], l.sub e1.toBs.sub, fun t ht => ?_⟩
    obtain ⟨ev2, rr⟩ := Evo.lst e1.toBs ht r2
    exact q1 _ _ _ (e1.trans ev2) rr
end
/-! ### dict(d), tuple keys, one at most -/
section
variable {X : Cx} {pins : List (Addr × Obj)} {σ : L2.St} {H : Hp} {s : Shared} {a : Addr} {kvs : GKV}
theorem call_dictH {A : Around} {E : Value → Shared → Prop} {prog : Program} {w : World} {κ : Type} [DecidableEq κ] {knd : HeapKind prog w κ} {o : Addr} {more : List (κ × Addr × Value)} {Q : Value → Shared → Prop} (hu : knd.room A.in1.in1) (hoS : (o == sysModules) = false) (ho : s.heap.DictOfH knd o more) (hsz : more.length ≤ sizeLine)
    (st : ∀ x ∈ more, knd.is (s.heap.push { cls := .type "dict", data := .dict #[] }) x.1 x.2.1) (hap : (∀ x ∈ more, s.TypeIs (.ref x.2.1) "tuple") ∧ (more.map fun x => knd.hash x.1).Nodup)
    (h : ∀ h', h'.DictOfH knd s.heap.objs.size (storedAllH [] more) → Heap.SameBut s.heap.objs.size (s.heap.push { cls := .type "dict", data := .dict #[] }) h' → Q (.ref s.heap.objs.size) { s with heap := h' }) :
    wpAny (model prog w) A (call (.type "dict") [.ref o]) Q E s := by
  refine callType_codes (Q₁ := fun obj s₁ => obj = .ref s.heap.objs.size ∧ s₁ = { s with heap := s.heap.push { cls := .type "dict", data := .dict #[] } }) F.kt_called_dict (F.kt_typeCall_dict_1 _) F.entry_dict_init (kt_code_dict_new _ ⟨rfl, rfl⟩) ?_
  rintro obj s₁ ⟨rfl, rfl⟩
  have hnew : (s.heap.push { cls := .type "dict", data := .dict #[] }).DictOfH knd s.heap.objs.size [] := Heap.DictOfH.new s.heap
  have hlt : o < s.heap.objs.size := by
    obtain ⟨_, _, _, hg, _⟩ := ho
    exact Heap.lt_size hg
  have ho' : (s.heap.push { cls := .type "dict", data := .dict #[] }).DictOfH knd o more := ho.at' (fun _ e => Heap.get?_push_of_some _ e) st
  refine ⟨hnew.typeIs, F.args_dict_init_2 _ _, ?_⟩
  unfold Builtin.«dict.__init__»
  refine wpAny_bind ?_
  unfold Builtin.Dict.selfAndRest
  refine wpAny_bind (wpAny_notOrdered_dict hnew.typeIs (wpAny_pure ?_))
  show wpAny _ _ (Builtin.Dict.updateFrom "dict.__init__" s.heap.objs.size (.ref o) [] .none) _ _ _
  refine updateFrom_dictH (A := A.in1) .none hu (Nat.ne_of_gt hlt) hoS hnew ho' (.inr ⟨fun x hx => ?_, hap.2⟩) (by simpa using hsz) fun h' hd' _ hs' => ⟨rfl, h h' hd' hs'⟩
  obtain ⟨ob, e, c⟩ := hap.1 x hx
  exact ⟨ob, Heap.get?_push_of_some _ e, c⟩
theorem nkH_tup {b : Addr} {k : NestedKey} (h : NkH H (.ref b) k) : ∃ xs, H b = some (.tup xs) := by
  cases h with
  | tup h1 h2 => exact ⟨_, h1⟩
theorem keysG_tup (I : Inv X pins σ H s) : ∀ {kvs : GKV} {xs : List (NestedKey × Addr × Value)}, KeysG H kvs → Paired RelG kvs xs → ∀ x ∈ xs, s.TypeIs (.ref x.2.1) "tuple"
  | _, _, _, .nil, x, hx => nomatch hx
  | _, _, hk, .cons r t, x, hx => by
    rcases List.mem_cons.mp hx with e | hx
    · subst e
      obtain ⟨n, _⟩ := hk _ (List.mem_cons_self ..)
      obtain ⟨ys, hy⟩ := nkH_tup n
      obtain ⟨its, rv, ⟨o, ho, hc, _⟩, hz⟩ := I.tuple (.inl (.inl hy))
      exact ⟨o, by rw [← r.2.1]; exact ho, hc⟩
    · exact keysG_tup I (fun p hp => hk p (List.mem_cons_of_mem _ hp)) t x hx
theorem g_copy {Q : Value → Shared → Prop} (hu : X.A.units + 10 < cLine) (I : Inv X pins σ H s) (e : Rd H a (GD X.w a kvs)) (hk : KeysG H kvs) (h1 : kvs.length ≤ 1) (h : ∀ p s', H p = none → Inv X pins σ (upd H p (GD X.w p kvs)) s' → Q (.ref p) s') :
    wpAny (model X.prog X.w) X.A (call (.type "dict") [.ref a]) Q X.xe s := by
  obtain ⟨hz, hs, xs, rel, dd⟩ := gd_at I.hok e hk
  have lx : kvs.length = xs.length := Paired.length rel
  have is_ := keysG_is I.hok hk rel
  have nd : (xs.map fun x => (nestedKind X.prog X.w).hash x.1).Nodup := by
    cases xs with
    | nil => exact List.nodup_nil
    | cons x r =>
      cases r with
      | nil => exact List.nodup_cons.mpr ⟨List.not_mem_nil, List.nodup_nil⟩
      | cons y z =>
        simp at lx
        omega
  have J0 : Inv X pins σ H { s with heap := s.heap.push { cls := .type "dict", data := .dict #[] } } := I.kept (t' := s.toks) fun _ _ q => Heap.get?_push_of_some _ q
  refine call_dictH (knd := nestedKind X.prog X.w) (by show X.A.units + 1 + 1 + 8 < cLine; omega) hs dd (by omega) (keysG_is J0.hok hk rel) ⟨keysG_tup I hk rel, nd⟩ fun h' dd' sb => ?_
  have hst : storedAllH [] xs = xs := storedAllH_nil_of_nodup xs dd.nodup
  rw [hst] at dd'
  obtain ⟨q, es, ep, hq, h2, h3, h4, _, h5⟩ := dd'
  have em := relG_keys rel
  refine h _ _ (I.hok.fresh (Nat.le_refl _)) (I.laid (a := s.heap.objs.size) (o := GD X.w s.heap.objs.size kvs) (t' := s.toks) (fun b q hq => ?_) (Nat.le_refl _) ⟨⟨hz, beq_eq_false_iff_ne.mpr (Ne.symm (Nat.ne_of_lt I.big)), by rw [em]; exact h5, _, rel, q, es, ep, hq, h2, h3, h4⟩, ⟨q, hq⟩, ?_⟩)
  · exact (sb.2 b (Nat.ne_of_lt (Heap.lt_size hq))).trans (Heap.get?_push_of_some _ hq)
  · rintro h1 h2 ⟨z1, z2, z3, ys, z4, o, es, ep, ho, z5⟩ st
    exact ⟨z1, z2, z3, ys, z4, o, es, ep, st _ ho, z5⟩
def rCopyG : List V → Hp → VK → Prop := fun xs H Q => ∃ a kvs, xs = [.ref a] ∧ Rd H a (GD Wo.w a kvs) ∧ KeysG H kvs ∧ kvs.length ≤ 1 ∧ ∀ p, H p = none → Q (.ref p) (upd H p (GD Wo.w p kvs))
theorem call_gcopy (hw : X.w = Wo.w) (hu : X.A.units + 10 < cLine) : CallR X (.type "dict") rCopyG := by
  rintro pins s σ H xs us Q I r ⟨a, kvs, ex, hd, hk, h1, q⟩
  subst ex
  rw [Vals.ref1 r]
  rw [← hw] at hd
  refine g_copy hu I hd hk h1 fun p s' hp J => ⟨.ref p, _, J, rfl, ?_⟩
  rw [hw]
  exact q p hp
def oDictU : O1 := fun d Q => oDict d Q ∨ ∃ ks vs, d = .dcT ks vs ∧ ks.length ≤ 1 ∧ Q (.dcT ks vs)
def foDictU : OF1 := fun d => match d with
  | .dcT ks vs => if ks.length ≤ 1 then some (.dcT ks vs) else none
  | d => foDict d
end
section
variable {X : Cx} {E : XK} {e : Expr} {f : FE} {p pos : Pos}
theorem vf_dictU (hw : X.w = Wo.w) (hu : X.A.units + 64 < cLine) (hc : X.calm = true) (hg : Gl X "dict") (hm : X.mg "dict" = none) (h : VO X E e f) (hs : starEach [e] X.env = (false, eval e X.env) :: starEach [] X.env := by rfl) : VF X E (.Call (.Name "dict" p) [e] [] pos) (fB1 foDictU f) := by
  refine UF.v (w := wB1 oDictU (wF f)) (uf_t1 (CallR.or (CallR.or call_dcopy (call_dictP hc)) (call_gcopy hw (by omega))) (fun dr sa F H x d Q B r q => ?_) (fun d Q Q' k q => q.elim (fun q => .inl (oDict_mono d _ _ k q)) fun ⟨ks, vs, a, b, c⟩ => .inr ⟨ks, vs, a, b, k _ c⟩) hg hm boot_dict h (by decide) (by decide) hs) fun env Q z q => ?_
  · rcases q with (⟨ks, vs, ed, q⟩ | ⟨ds, prs, ed, ep, q⟩) | ⟨ks, vs, ed, h1, q⟩
    · subst ed
      obtain ⟨p, kvs, rfl, e1, rfl, q1⟩ := ro_dct B.sub r
      refine .inl (.inl ⟨p, kvs, rfl, e1, fun l hl => ?_⟩)
      obtain ⟨ev, fp, nd, o⟩ := own_dct B hl q1
      exact q l _ _ ev hl fp nd rfl o
    · subst ed
      obtain ⟨p, xs, rfl, e1, q1⟩ := ro_lst B.sub r
      obtain ⟨ps, kvs, rfl, a2, a3, a4⟩ := prs_rp B.sub q1 ep
      obtain ⟨b1, b2⟩ := merge_rp (kvs := []) a3 a4 .nil
      refine .inl (.inr ⟨p, ps, kvs, rfl, sqL e1, a2, fun l hl => ?_⟩)
      obtain ⟨ev, fp, nd, o⟩ := own_dct B hl b2
      rw [b1] at o
      exact q l _ _ ev hl fp nd rfl o
    · subst ed
      obtain ⟨p, kvs, rfl, e1, e2, r1, r2⟩ := ro_dcT B.sub r
      have hk := keysG_of B.sub e2 r1
      have hl1 : kvs.length = ks.length := by
        have := congrArg List.length e2
        simpa using this.symm
      refine .inr ⟨p, kvs, rfl, e1, hk, by omega, fun l hl => ?_⟩
      obtain ⟨ev, fp, nd⟩ := own_new (σ := []) (env := []) (u := GD Wo.w l kvs) B hl
      exact q l _ _ ev hl fp nd rfl ⟨kvs, upd_same, e2, r1, r2⟩
  · unfold fB1 at q
    rw [sat_bind] at q
    refine sat_mono (fun d q => ?_) (fun _ _ _ q => q) _ q
    obtain ⟨r, er, q⟩ := sat_of.mp q
    unfold foDictU at er
    split at er
    · split at er
      · cases er
        exact .inr ⟨_, _, rfl, by assumption, q⟩
      · cases er
    · exact .inl (os_dict d r _ er q)
end
end U
/-! X7: == of tuples that hold dicts, of dicts of any keys: what the interpreter does. -/
namespace PySem
open AutoSeq1 (wpAny_loadPart')
open SeqAt
section
variable {prog : Program} {w : World} {A : Around} {E : Value → Shared → Prop} {s : Shared}
/-- pairs compared one by one, up to the first that differs -/
inductive ZEq (prog : Program) (w : World) (A : Around) (s : Shared) : List (Value × Value) → Bool → Prop
  | nil : ZEq prog w A s [] true
  | cons {y x : Value} {r : List (Value × Value)} {e b : Bool} : EqP prog w A s y x e → ZEq prog w A s r b → ZEq prog w A s ((y, x) :: r) (e && b)
theorem tuple_eqZ (l b : Addr) (items items2 : Array Value) (n n2 : Nat) (dd dd2 : Option Addr) (sl sl2 : Array (Option Value)) (e : Bool) :
    MeetsIn prog w (Builtin.«tuple.__eq__» ⟨[.ref l, .ref b], []⟩)
      (fun A R s => s.heap.get? l = some { cls := .type "tuple", dict := dd, data := .seq items n, slots := sl } ∧ s.heap.get? b = some { cls := .type "tuple", dict := dd2, data := .seq items2 n2, slots := sl2 } ∧
        ZEq prog w A.in1 s (items.toList.zip items2.toList) e ∧ R (.ok (.ret (.bool (e && items.size == items2.size)))) s) := by
  refine .of_wp fun A R s h => ?_
  obtain ⟨hp, g, d, tk, os⟩ := s
  obtain ⟨hl, hb, he, h⟩ := h
  have f2 := AutoSeq1.sub_tuple_tuple
  wp_walk using wpAny_loadPart' hl, wpAny_loadPart' hb, wpAny_forIn_list _ (fun rest b s' => b.1 = none ∧ s' = ⟨hp, g, d, tk, os⟩ ∧ ∃ e', ZEq prog w A.in1 ⟨hp, g, d, tk, os⟩ rest e' ∧
    R (.ok (.ret (.bool (e' && items.size == items2.size)))) ⟨hp, g, d, tk, os⟩) _
  case turn =>
    rintro ⟨y, x⟩ rest b s' ⟨hb', rfl, e', hz, hR⟩
    cases hz with
    | @cons _ _ _ e1 b1 h1 h2 =>
      refine wpAny_bind (h1 _ _ ?_)
      cases e1 with
      | true =>
        wp_walk
        exact ⟨rfl, rfl, b1, h2, by simpa using hR⟩
      | false =>
        wp_walk
        exact ⟨_, rfl, by simpa using hR⟩
  case fin =>
    rintro ⟨b1, b2⟩ s' ⟨hb', rfl, e', hz, hR⟩
    simp only at hb'
    subst hb'
    cases hz
    wp_walk
    exact ⟨_, rfl, by simpa [Builtin.Tuple.tupleCompareSizes] using hR⟩
  case h =>
    exact ⟨rfl, rfl, e, he, h⟩
theorem rcZ_tuples {l b : Addr} {items items2 : Array Value} {e : Bool} (hl : s.heap.IsTuple l items) (hb : s.heap.IsTuple b items2) (hu : A.units < cLine) (he : ZEq prog w A.in1 s (items.toList.zip items2.toList) e) (E Q : Value → Shared → Prop)
    (h : Q (.bool (e && items.size == items2.size)) s) : wpAny (model prog w) A (richCompare .Eq (.ref l) (.ref b)) Q E s := by
  obtain ⟨⟨cls, dd, data, sl⟩, ho, hc, n, hd⟩ := id hl
  obtain ⟨⟨cls2, dd2, data2, sl2⟩, ho2, hc2, n2, hd2⟩ := id hb
  dsimp only at hc hd hc2 hd2
  subst hc hd hc2 hd2
  have ta : s.TypeIs (.ref l) "tuple" := ⟨_, ho, rfl⟩
  have tb : s.TypeIs (.ref b) "tuple" := ⟨_, ho2, rfl⟩
  have nn : Value.bool (e && items.size == items2.size) ≠ Value.notImplemented := fun x => nomatch x
  exact wpAny_richCompare_same_room (op := .Eq) ta tb F.slot_tuple_eq (call_meetsIn F.slot_tuple_eq ta F.entry_tuple_eq (F.args_tuple_eq_2 _ _) (tuple_eqZ l b items items2 n n2 dd dd2 sl sl2 e) ⟨ho, ho2, he, nn, h⟩) hu
/-- the entries of es from the i-th on, each looked for in the dict at b -/
inductive RHits (prog : Program) (w : World) (A : Around) (s : Shared) (b : Addr) (es fs : Array DictEntry) : Nat → Bool → Prop
  | done {i : Nat} : es.size ≤ i → RHits prog w A s b es fs i true
  | miss {i : Nat} (hi : i < es.size) : (∀ (E : Value → Shared → Prop) (Q : Option Nat → Shared → Prop), Q none s → wpAny (model prog w) A (dictFind b es[i].key es[i].hash) Q E s) → RHits prog w A s b es fs i false
  | hit {i j : Nat} {e r : Bool} (hi : i < es.size) (hj : j < fs.size) : (∀ (E : Value → Shared → Prop) (Q : Option Nat → Shared → Prop), Q (some j) s → wpAny (model prog w) A (dictFind b es[i].key es[i].hash) Q E s) →
      EqP prog w A s es[i].val fs[j].val e → RHits prog w A s b es fs (i + 1) r → RHits prog w A s b es fs i (e && r)
theorem samePairsR {nm : String} {a b : Addr} {es fs : Array DictEntry} {ep fp : Nat} {r : Bool} {Q : Bool → Shared → Prop} (ha : (a == sysModules) = false) (hb : (b == sysModules) = false) (da : s.heap.DictRaw a es ep) (db : s.heap.DictRaw b fs fp)
    (hits : es.size = fs.size → RHits prog w A s b es fs 0 r) (h : Q (es.size == fs.size && r) s) : wpAny (model prog w) A (Builtin.Dict.samePairs nm a b) Q E s := by
  obtain ⟨oa, hoa, _, hda⟩ := da
  obtain ⟨ob, hob, _, hdb⟩ := db
  have no : ∀ {c : Addr}, (c == sysModules) = false → ¬ (c == sysModules) = true := fun h z => Bool.noConfusion (h.symm.trans z)
  unfold Builtin.Dict.samePairs Builtin.Dict.showsAll
  rw [if_neg (no ha), if_neg (no hb)]
  refine wpAny_bind (wpAny_pure (wpAny_bind (wpAny_pure (wpAny_bind (wpAny_dictEntries hoa hda ?_)))))
  dsimp only
  refine wpAny_bind (wpAny_dictEntries hob hdb ?_)
  by_cases hsz : es.size = fs.size
  · rw [if_neg (by rw [hsz]; simp)]
    have hh := hits hsz
    have h' : Q r s := by simpa [hsz] using h
    refine wpAny_bind (wpAny_dictEpoch hoa hda (wpAny_bind ?_))
    rw [Std.Legacy.Range.forIn_eq_forIn_range']
    simp only [Std.Legacy.Range.size, Nat.sub_zero, Nat.add_sub_cancel, Nat.div_one]
    refine wpAny_forIn_list _ (fun rest q s' => s' = s ∧ q = (none, ()) ∧ ∃ i r', rest = List.range' i (es.size - i) ∧ i ≤ es.size ∧ RHits prog w A s b es fs i r' ∧ Q r' s) _ ?_ ?_ _ _ ⟨rfl, rfl, 0, r, by simp, Nat.zero_le _, hh, h'⟩
    · rintro x rest q s' ⟨rfl, rfl, i, r', hr, hi, hp, hq⟩
      have hlt : i < es.size := by
        rcases Nat.lt_or_ge i es.size with z | z
        · exact z
        · rw [Nat.sub_eq_zero_of_le z] at hr
          cases hr
      have ex : x = i ∧ rest = List.range' (i + 1) (es.size - (i + 1)) := by
        rw [show es.size - i = (es.size - (i + 1)) + 1 by omega, List.range'_succ] at hr
        injection hr with h1 h2
        exact ⟨h1, h2⟩
      obtain ⟨e1, e2⟩ := ex
      subst e1
      subst e2
      refine wpAny_bind (wpAny_dictEntries hoa hda ?_)
      rw [Array.getElem?_eq_getElem hlt]
      refine wpAny_bind (wpAny_holding ?_)
      generalize hb0 : r' = b0 at hp
      cases hp with
      | done h0 => omega
      | miss h0 h1 =>
        subst hb0
        refine wpAny_bind (h1 _ _ (wpAny_pure ?_))
        show wpAny _ _ (if (!false) = true then _ else _) _ _ _
        rw [if_pos (show (!false) = true from rfl)]
        exact wpAny_pure (wpAny_pure hq)
      | @hit _ j e r1 h0 hj h1 h2 h3 =>
        subst hb0
        refine wpAny_bind (h1 _ _ (wpAny_bind (wpAny_dictEntries hob hdb ?_)))
        rw [Array.getElem?_eq_getElem hj]
        refine wpAny_holding (h2 _ _ ?_)
        cases e with
        | false =>
          show wpAny _ _ (if (!false) = true then _ else _) _ _ _
          rw [if_pos (show (!false) = true from rfl)]
          exact wpAny_pure (wpAny_pure hq)
        | true =>
          show wpAny _ _ (if (!true) = true then _ else _) _ _ _
          rw [if_neg (show ¬ (!true) = true from Bool.false_ne_true)]
          refine wpAny_bind (wpAny_dictEpoch hoa hda ?_)
          rw [if_neg (by simp)]
          exact wpAny_pure ⟨rfl, rfl, x + 1, r1, rfl, hlt, h3, by simpa using hq⟩
    · rintro q s' ⟨rfl, rfl, i, r', hr, hi, hp, hq⟩
      have hin : i = es.size := by
        rcases Nat.lt_or_ge i es.size with z | z
        · rw [show es.size - i = (es.size - (i + 1)) + 1 by omega, List.range'_succ] at hr
          cases hr
        · exact Nat.le_antisymm hi z
      refine wpAny_pure ?_
      generalize hb0 : r' = b0 at hp
      cases hp with
      | done h0 =>
        subst hb0
        exact hq
      | miss h0 h1 => omega
      | hit h0 hj h1 h2 h3 => omega
  · rw [if_pos (by simpa using hsz)]
    have hbf : (es.size == fs.size) = false := by simpa using hsz
    rw [hbf, Bool.false_and] at h
    exact wpAny_bind (wpAny_rule (wpAny_pure h))
theorem rcR_dicts {a b : Addr} {es fs : Array DictEntry} {ep fp : Nat} {r : Bool} (ha : (a == sysModules) = false) (hb : (b == sysModules) = false) (da : s.heap.DictRaw a es ep) (db : s.heap.DictRaw b fs fp) (hu : A.units < cLine)
    (hits : es.size = fs.size → RHits prog w A.in1 s b es fs 0 r) (E Q : Value → Shared → Prop) (h : Q (.bool (es.size == fs.size && r)) s) : wpAny (model prog w) A (richCompare .Eq (.ref a) (.ref b)) Q E s := by
  refine wpAny_richCompare_same_room (op := .Eq) da.typeIs db.typeIs PySem.F.slot_dict_eq (wpAny_call_entry PySem.F.slot_dict_eq da.typeIs PySem.F.entry_dict_eq ?_ (PySem.F.args_dict_eq_2 _ _)) hu
  show wpAny _ _ (Builtin.Dict.dictSlotArgs "__eq__" ⟨[.ref a, .ref b], []⟩ >>= _) _ _ s
  refine wpAny_bind ?_
  unfold Builtin.Dict.dictSlotArgs
  refine wpAny_bind (wpAny_notOrdered_dict da.typeIs (wpAny_pure ?_))
  refine wpAny_bind (wpAny_isInstance (T := "dict") db.typeIs PySem.F.sub_dict_dict ?_)
  rw [if_neg (show ¬ (!true) = true from Bool.false_ne_true)]
  refine wpAny_bind (wpAny_pure (wpAny_bind (wpAny_pure (wpAny_bind (samePairsR ha hb da db hits (wpAny_pure ⟨_, rfl, ?_, ?_⟩))))))
  · exact fun x => nomatch x
  · simpa using h
end
end PySem
/-! X8: == of tuples that hold dicts, of dicts of any keys, as data. -/
namespace U
open PySem PySem.Spec PyProof.Rows L2 Tr
variable [Wo]

/-- where each of the keys stands among the others -/
def idxs {κ : Type} [DecidableEq κ] (ks ls : List κ) : List (Option Nat) := ks.map fun k => ls.findIdx? fun c => decide (c = k)
mutual
def eqX : D → D → Option Bool
  | .tup xs, e => if cmp (.tup xs) = true ∧ cmp e = true then some (eqD (.tup xs) e) else match e with
    | .tup ys => eqXA xs ys
    | _ => none
  | .dct ks vs, e => match e with
    | .dct ls ws => if ks.length = ls.length then eqXH vs (idxs ks ls) ws else some false
    | _ => none
  | .dcT ks vs, e => match e with
    | .dcT ls ws => if ks.length = ls.length then eqXH vs (idxs (ks.map nkT) (ls.map nkT)) ws else some false
    | _ => none
  | d, e => if cmp d = true ∧ cmp e = true then some (eqD d e) else none
def eqXA : List D → List D → Option Bool
  | [], [] => some true
  | x :: xs, y :: ys => (eqX x y).bind fun b => (eqXA xs ys).map fun c => b && c
  | [], _ :: _ => some false
  | _ :: _, [] => some false
def eqXH : List D → List (Option Nat) → List D → Option Bool
  | [], _, _ => some true
  | _ :: _, none :: _, _ => some false
  | v :: vs, some j :: js, ws => match ws[j]? with
    | some w => (eqX v w).bind fun b => (eqXH vs js ws).map fun c => b && c
    | none => none
  | _ :: _, [], _ => none
end
/-- the plain kinds, dicts among them; each equal to itself -/
def selfE (d : D) : Bool := decide (eqX d d = some true)
mutual
def okq : D → Bool
  | .non => true
  | .bl _ => true
  | .int _ => true
  | .str _ => true
  | .tup xs => okqA xs && selfE (.tup xs)
  | .lst xs => okqA xs
  | .dct ks vs => okqA vs && selfE (.dct ks vs)
  | .dcT ks vs => okqA ks && (okqA vs && selfE (.dcT ks vs))
  | _ => false
def okqA : List D → Bool
  | [] => true
  | d :: ds => okq d && okqA ds
end
mutual
def depX : D → Nat
  | .tup xs => depXA xs + 1
  | .dct _ vs => depXA vs + 1
  | .dcT _ vs => depXA vs + 1
  | _ => 0
def depXA : List D → Nat
  | [] => 0
  | d :: ds => max (depX d) (depXA ds)
end
section
variable {X : Cx} {pins : List (Addr × Obj)} {σ : L2.St} {F H : Hp} {s : Shared} {dr : Addr}
def vOf : Value → Option V
  | .none => some .non
  | .bool b => some (.bl b)
  | .int i _ => some (.int i)
  | .str x _ => some (.str x)
  | .bytes b _ => some (.byt b)
  | .float x _ => some (.flt x)
  | .ref a => some (.ref a)
  | .type n => some (.ty n)
  | _ => none
theorem vOf_rel {x : V} {u : Value} (h : RelV x u) : vOf u = some x := by
  cases x with
  | non => cases (show u = Value.none from h); rfl
  | bl b => cases (show u = Value.bool b from h); rfl
  | int i => obtain ⟨t, e⟩ := (show ∃ t, u = Value.int i t from h); subst e; rfl
  | str z => obtain ⟨t, e⟩ := (show ∃ t, u = Value.str z t from h); subst e; rfl
  | byt b => obtain ⟨t, e⟩ := (show ∃ t, u = Value.bytes b t from h); subst e; rfl
  | flt b => obtain ⟨t, e⟩ := (show ∃ t, u = Value.float b t from h); subst e; rfl
  | ref a => cases (show u = Value.ref a from h); rfl
  | ty n => cases (show u = Value.type n from h); rfl
theorem relV_inj {x y : V} {u : Value} (h : RelV x u) (g : RelV y u) : x = y := Option.some.inj ((vOf_rel h).symm.trans (vOf_rel g))
/-- one object, one lot of entries -/
def LkF (F : Hp) : Prop := ∀ a o o' ps ps', LockD F a o ps → LockD F a o' ps' → ps = ps'
theorem lkF_of (I : Inv X pins σ H s) (sub : U.Sub F H) : LkF F := fun a o o' ps ps' h g => by
  obtain ⟨_, hgd, _, _, es, ep, hdt, _, hsz, rel⟩ := (h.sub sub).raw I
  obtain ⟨_, hgd', _, _, es', ep', hdt', _, hsz', rel'⟩ := (g.sub sub).raw I
  rw [hgd] at hgd'
  cases hgd'
  rw [hdt] at hdt'
  cases hdt'
  refine List.ext_getElem? fun i => ?_
  by_cases hi : i < es.size
  · have h1 : i < ps.length := by omega
    have h2 : i < ps'.length := by omega
    rw [List.getElem?_eq_getElem h1, List.getElem?_eq_getElem h2]
    obtain ⟨a1, a2⟩ := rel i hi ps[i].1 ps[i].2 (List.getElem?_eq_getElem h1)
    obtain ⟨b1, b2⟩ := rel' i hi ps'[i].1 ps'[i].2 (List.getElem?_eq_getElem h2)
    rw [show ps[i] = ps'[i] from Prod.ext (relV_inj a1 b1) (relV_inj a2 b2)]
  · rw [List.getElem?_eq_none (by omega), List.getElem?_eq_none (by omega)]
variable {K : PySem.W.Frag}
mutual
theorem rp_fun (lf : LkF F) : ∀ (d e : D) {v : V}, okq d = true → okq e = true → Rp K dr F v d → Rp K dr F v e → d = e
  | .non, e, _, _, oe, h, g => by cases h; cases g; rfl
  | .bl b, e, _, _, oe, h, g => by cases h; cases g; rfl
  | .int i, e, _, _, oe, h, g => by cases h; cases g; rfl
  | .str z, e, _, _, oe, h, g => by cases h; cases g; rfl
  | .tup ds, e, _, od, oe, h, g => by
    cases h with
    | tup h1 h2 =>
      cases e with
      | tup es =>
        cases g with
        | tup g1 g2 =>
          rw [h1] at g1
          cases g1
          rw [rp_funA lf ds es (ba od).1 (ba oe).1 h2 g2]
      | lst es =>
        cases g with
        | lst g1 g2 => rw [h1] at g1; cases g1
      | dct ks vs =>
        cases g with
        | dct g1 g2 g3 => rw [h1] at g1; cases g1
      | dcT ks vs =>
        cases g with
        | dcT g1 g2 g3 g4 => rw [h1] at g1; cases g1
      | _ => first | (cases g; done) | exact absurd oe Bool.false_ne_true
  | .lst ds, e, _, od, oe, h, g => by
    cases h with
    | lst h1 h2 =>
      cases e with
      | tup es =>
        cases g with
        | tup g1 g2 => rw [h1] at g1; cases g1
      | lst es =>
        cases g with
        | lst g1 g2 =>
          rw [h1] at g1
          cases g1
          rw [rp_funA lf ds es od oe h2 g2]
      | dct ks vs =>
        cases g with
        | dct g1 g2 g3 => rw [h1] at g1; cases g1
      | dcT ks vs =>
        cases g with
        | dcT g1 g2 g3 g4 => rw [h1] at g1; cases g1
      | _ => first | (cases g; done) | exact absurd oe Bool.false_ne_true
  | .dct ks vs, e, _, od, oe, h, g => by
    cases h with
    | dct h1 h2 h3 =>
      cases e with
      | tup es =>
        cases g with
        | tup g1 g2 => rw [h1] at g1; cases g1
      | lst es =>
        cases g with
        | lst g1 g2 => rw [h1] at g1; cases g1
      | dct ls ws =>
        cases g with
        | dct g1 g2 g3 =>
          rw [h1] at g1
          cases g1
          rw [← h2, ← g2, rp_funA lf vs ws (ba od).1 (ba oe).1 h3 g3]
      | dcT ls ws =>
        cases g with
        | dcT g1 g2 g3 g4 => rw [h1] at g1; unfold GD at g1; cases g1
      | _ => first | (cases g; done) | exact absurd oe Bool.false_ne_true
  | .dcT ks vs, e, _, od, oe, h, g => by
    cases h with
    | @dcT a o kvs _ _ h1 h2 h3 h4 =>
      cases e with
      | tup es =>
        cases g with
        | tup g1 g2 => rw [h1] at g1; cases g1
      | lst es =>
        cases g with
        | lst g1 g2 => rw [h1] at g1; cases g1
      | dct ls ws =>
        cases g with
        | dct g1 g2 g3 => rw [h1] at g1; unfold GD at g1; cases g1
      | dcT ls ws =>
        cases g with
        | @dcT _ o' kvs' _ _ g1 g2 g3 g4 =>
          have e0 := lf a o o' _ _ (.inr ⟨kvs, h1, rfl⟩) (.inr ⟨kvs', g1, rfl⟩)
          have e1 : kvs.map (V.ref ·.2.1) = kvs'.map (V.ref ·.2.1) := by
            have := congrArg (List.map Prod.fst) e0
            rwa [List.map_map, List.map_map] at this
          have e2 : kvs.map (·.2.2) = kvs'.map (·.2.2) := by
            have := congrArg (List.map Prod.snd) e0
            rwa [List.map_map, List.map_map] at this
          rw [e1] at h3
          rw [e2] at h4
          rw [rp_funA lf ks ls (ba od).1 (ba oe).1 h3 g3, rp_funA lf vs ws (ba (ba od).2).1 (ba (ba oe).2).1 h4 g4]
      | _ => first | (cases g; done) | exact absurd oe Bool.false_ne_true
  | .ins _ _ _, _, _, od, _, _, _ => absurd od Bool.false_ne_true
  | .drw, _, _, od, _, _, _ => absurd od Bool.false_ne_true
  | .ty _, _, _, od, _, _, _ => absurd od Bool.false_ne_true
  | .cls _, _, _, od, _, _, _ => absurd od Bool.false_ne_true
  | .scr _, _, _, od, _, _, _ => absurd od Bool.false_ne_true
  | .lam _, _, _, od, _, _, _ => absurd od Bool.false_ne_true
theorem rp_funA (lf : LkF F) : ∀ (ds es : List D) {vs : List V}, okqA ds = true → okqA es = true → RpA K dr F vs ds → RpA K dr F vs es → ds = es
  | [], es, _, _, _, h, g => by cases h; cases g; rfl
  | d :: ds, es, _, od, oe, h, g => by
    cases h with
    | cons h1 h2 =>
      cases g with
      | cons g1 g2 => rw [rp_fun lf d _ (ba od).1 (ba oe).1 h1 g1, rp_funA lf ds _ (ba od).2 (ba oe).2 h2 g2]
end
/-! ### where a key stands -/
theorem findIdx_pt {α β : Type} {p : α → Bool} {q : β → Bool} : ∀ {xs : List α} {ys : List β}, xs.length = ys.length → (∀ (i : Nat) x y, xs[i]? = some x → ys[i]? = some y → p x = q y) → xs.findIdx? p = ys.findIdx? q
  | [], [], _, _ => rfl
  | [], _ :: _, h, _ => by cases h
  | _ :: _, [], h, _ => by cases h
  | x :: xs, y :: ys, h, k => by
    rw [List.findIdx?_cons, List.findIdx?_cons, k 0 x y rfl rfl, findIdx_pt (Nat.succ.inj h) fun i a b h1 h2 => k (i + 1) a b h1 h2]
theorem arr_findIdx {α : Type} (fs : Array α) (p : α → Bool) : fs.findIdx? p = fs.toList.findIdx? p := by
  obtain ⟨l⟩ := fs
  simp
/-- two locked dicts: their entries, how a key of the one is found in the other -/
structure Two (X : Cx) (s : Shared) {κ : Type} [DecidableEq κ] (a b : Addr) (ca cb : List κ) (va vb : List V) (es fs : Array DictEntry) : Prop where
  na : (a == sysModules) = false
  nb : (b == sysModules) = false
  ra : ∃ ep, s.heap.DictRaw a es ep
  rb : ∃ ep, s.heap.DictRaw b fs ep
  la : es.size = ca.length
  lb : fs.size = cb.length
  lva : es.size = va.length
  lvb : fs.size = vb.length
  ea : ∀ i (hi : i < es.size) v, va[i]? = some v → RelV v es[i].val
  eb : ∀ i (hi : i < fs.size) v, vb[i]? = some v → RelV v fs[i].val
  find : ∀ i (hi : i < es.size) k, ca[i]? = some k → ∀ (A : Around) (E : Value → Shared → Prop) (Q : Option Nat → Shared → Prop), A.units + 8 < cLine → Q (cb.findIdx? fun c => decide (c = k)) s → wpAny (model X.prog X.w) A (dictFind b es[i].key es[i].hash) Q E s
theorem two_dK {a b : Addr} {oa ob : Obj} {ka kb : List (Key × V)} (I : Inv X pins σ H s) (ha : H a = some (.frz oa (.dK ka))) (hb : H b = some (.frz ob (.dK kb))) :
    ∃ es fs, Two X s a b (ka.map (·.1)) (kb.map (·.1)) (ka.map (·.2)) (kb.map (·.2)) es fs := by
  obtain ⟨na, hga, hxa, _, epa, vsa, hda, hza, kva, o1, es, h1, h2, h3, h4, h5, h6⟩ := I.frzK ha
  obtain ⟨nb, hgb, hxb, _, epb, vsb, hdb, hzb, kvb, o2, fs, g1, g2, g3, g4, g5, g6⟩ := I.frzK hb
  have l1 : ka.length = vsa.length := Paired.length kva
  have l2 : kb.length = vsb.length := Paired.length kvb
  have l3 : vsa.length = es.size := by rw [← h5.length]; exact Array.length_toList
  have l4 : vsb.length = fs.size := by rw [← g5.length]; exact Array.length_toList
  have enta : ∀ i (hi : i < es.size) k v, ka[i]? = some (k, v) → keyIs k es[i].key = true ∧ RelV v es[i].val := fun i hi k v e => by
    obtain ⟨u, hu, ru⟩ := kv_get kva e
    obtain ⟨y1, y2⟩ := h5.get? (i := i) (e := es[i]) (k := k) (v := u) (by rw [Array.getElem?_toList]; exact Array.getElem?_eq_getElem hi) hu
    exact ⟨y1, by rw [y2]; exact ru⟩
  have entb : ∀ i (hi : i < fs.size) k v, kb[i]? = some (k, v) → keyIs k fs[i].key = true ∧ RelV v fs[i].val := fun i hi k v e => by
    obtain ⟨u, hu, ru⟩ := kv_get kvb e
    obtain ⟨y1, y2⟩ := g5.get? (i := i) (e := fs[i]) (k := k) (v := u) (by rw [Array.getElem?_toList]; exact Array.getElem?_eq_getElem hi) hu
    exact ⟨y1, by rw [y2]; exact ru⟩
  refine ⟨es, fs, na, nb, ⟨epa, o1, h1, h2, h3⟩, ⟨epb, o2, g1, g2, g3⟩, by rw [List.length_map]; omega, by rw [List.length_map]; omega, by rw [List.length_map]; omega, by rw [List.length_map]; omega, fun i hi v e => ?_, fun i hi v e => ?_, fun i hi k e A E Q hu q => ?_⟩
  · rw [List.getElem?_map] at e
    cases y : ka[i]? with
    | none => rw [y] at e; cases e
    | some p =>
      rw [y] at e
      cases e
      exact (enta i hi p.1 p.2 y).2
  · rw [List.getElem?_map] at e
    cases y : kb[i]? with
    | none => rw [y] at e; cases e
    | some p =>
      rw [y] at e
      cases e
      exact (entb i hi p.1 p.2 y).2
  · rw [List.getElem?_map] at e
    cases y : ka[i]? with
    | none => rw [y] at e; cases e
    | some p =>
      rw [y] at e
      cases e
      have ki := (enta i hi p.1 p.2 y).1
      obtain ⟨k', hk', hh⟩ := h4 es[i] (Array.getElem_mem hi)
      have ek : k' = p.1 := (mixKind X.prog X.w).inj _ _ _ hk' ki
      rw [ek] at hh
      rw [hh]
      refine wpAny_dictFind_of (knd := mixKind X.prog X.w) ki g1 g3 g4 ?_
      have eq : (fs.findIdx? fun e => (mixKind X.prog X.w).is p.1 e.key) = (kb.map (·.1)).findIdx? fun c => decide (c = p.1) := by
        rw [arr_findIdx]
        refine findIdx_pt (by rw [Array.length_toList, List.length_map]; omega) fun j x c hx hc => ?_
        rw [Array.getElem?_toList] at hx
        obtain ⟨hj, ex⟩ := Array.getElem?_eq_some_iff.mp hx
        rw [List.getElem?_map] at hc
        cases z : kb[j]? with
        | none => rw [z] at hc; cases hc
        | some r =>
          rw [z] at hc
          cases hc
          have kj := (entb j hj r.1 r.2 z).1
          subst ex
          by_cases c1 : r.1 = p.1
          · rw [decide_eq_true c1, ← c1]
            exact kj
          · rw [decide_eq_false c1]
            cases c2 : (mixKind X.prog X.w).is p.1 fs[j].key with
            | false => rfl
            | true => exact absurd ((mixKind X.prog X.w).inj _ _ _ kj c2) c1
      rw [eq]
      exact q
theorem two_G {a b : Addr} {oa ob : Obj} {ka kb : GKV} (hw : X.w = Wo.w) (I : Inv X pins σ H s) (ha : H a = some (.frz oa (GD Wo.w a ka))) (hb : H b = some (.frz ob (GD Wo.w b kb))) (qa : KeysG H ka) (qb : KeysG H kb) :
    ∃ es fs, Two X s a b (ka.map (some ·.1)) (kb.map (some ·.1)) (ka.map (·.2.2)) (kb.map (·.2.2)) es fs := by
  rw [← hw] at ha hb
  obtain ⟨za, na, xs, ra, o1, es, ep, h1, h2, h3, h4, h5, h6⟩ := gd_at I.hok (.inr ⟨_, ha⟩) qa
  obtain ⟨zb, nb, ys, rb, o2, fs, fp, g1, g2, g3, g4, g5, g6⟩ := gd_at I.hok (.inr ⟨_, hb⟩) qb
  have l1 : ka.length = xs.length := Paired.length ra
  have l2 : kb.length = ys.length := Paired.length rb
  have l3 : es.size = xs.length := size_of_entries h4
  have l4 : fs.size = ys.length := size_of_entries g4
  have enta : ∀ i (hi : i < es.size) p, ka[i]? = some p → ∃ x, xs[i]? = some x ∧ p.1 = x.1 ∧ RelV p.2.2 x.2.2 ∧ es[i] = entryOfKey (nestedKind X.prog X.w) x := fun i hi p e => by
    obtain ⟨x, hx, e1, e2, e3⟩ := paired_get ra e
    have y := entry_at h4 i
    rw [hx, Array.getElem?_eq_getElem hi] at y
    exact ⟨x, hx, e1, e3, Option.some.inj y⟩
  have entb : ∀ i (hi : i < fs.size) p, kb[i]? = some p → ∃ x, ys[i]? = some x ∧ p.1 = x.1 ∧ RelV p.2.2 x.2.2 ∧ fs[i] = entryOfKey (nestedKind X.prog X.w) x := fun i hi p e => by
    obtain ⟨x, hx, e1, e2, e3⟩ := paired_get rb e
    have y := entry_at g4 i
    rw [hx, Array.getElem?_eq_getElem hi] at y
    exact ⟨x, hx, e1, e3, Option.some.inj y⟩
  refine ⟨es, fs, na, nb, ⟨ep, o1, h1, h2, h3⟩, ⟨fp, o2, g1, g2, g3⟩, by rw [List.length_map]; omega, by rw [List.length_map]; omega, by rw [List.length_map]; omega, by rw [List.length_map]; omega, fun i hi v e => ?_, fun i hi v e => ?_, fun i hi k e A E Q hu q => ?_⟩
  · rw [List.getElem?_map] at e
    cases y : ka[i]? with
    | none => rw [y] at e; cases e
    | some p =>
      rw [y] at e
      cases e
      obtain ⟨x, _, _, e3, e4⟩ := enta i hi p y
      rw [e4]
      exact e3
  · rw [List.getElem?_map] at e
    cases y : kb[i]? with
    | none => rw [y] at e; cases e
    | some p =>
      rw [y] at e
      cases e
      obtain ⟨x, _, _, e3, e4⟩ := entb i hi p y
      rw [e4]
      exact e3
  · rw [List.getElem?_map] at e
    cases y : ka[i]? with
    | none => rw [y] at e; cases e
    | some p =>
      rw [y] at e
      cases e
      obtain ⟨x, hx, e1, e3, e4⟩ := enta i hi p y
      rw [e4]
      have codes : ∀ (j : Nat) (c : Option NestedKey), (kb.map (some ·.1))[j]? = some c → ∃ r : NestedKey × Addr × Value, ys[j]? = some r ∧ c = some r.1 := fun j c e => by
        rw [List.getElem?_map] at e
        cases z : kb[j]? with
        | none => rw [z] at e; cases e
        | some r =>
          rw [z] at e
          cases e
          obtain ⟨r', hr, e1, _⟩ := paired_get rb z
          exact ⟨r', hr, congrArg some e1⟩
      have eqi : ((kb.map (some ·.1)).findIdx? fun c => decide (c = some p.1)) = ys.findIdx? fun (r : NestedKey × Addr × Value) => decide (r.1 = x.1) := by
        refine findIdx_pt (by rw [List.length_map]; omega) fun j c r hc hr => ?_
        obtain ⟨r', hr', ec⟩ := codes j c hc
        rw [hr] at hr'
        cases hr'
        rw [ec, e1]
        by_cases c1 : r.1 = x.1
        · rw [decide_eq_true c1, decide_eq_true (by rw [c1])]
        · rw [decide_eq_false c1, decide_eq_false (fun z => c1 (Option.some.inj z))]
      refine wpAny_dictFind_heap (knd := nestedKind X.prog X.w) hu (h5 x (List.mem_of_getElem? hx)) g1 g3 g4 g5 g6 (fun hno => ?_) fun j p2 hj => ?_
      · have : ((kb.map (some ·.1)).findIdx? fun c => decide (c = some p.1)) = none := by
          rw [eqi, List.findIdx?_eq_none_iff]
          intro r hr
          obtain ⟨j, hj⟩ := List.mem_iff_getElem?.mp hr
          refine decide_eq_false fun c1 => hno j r.2 ?_
          rw [hj, ← c1]
        rw [this] at q
        exact q
      · have : ((kb.map (some ·.1)).findIdx? fun c => decide (c = some p.1)) = some j := by
          rw [eqi]
          obtain ⟨hjl, ej⟩ := List.getElem?_eq_some_iff.mp hj
          refine List.findIdx?_eq_some_iff_getElem.mpr ⟨hjl, by rw [ej]; exact decide_eq_true rfl, fun i2 hi2 => ?_⟩
          intro z
          have z := of_decide_eq_true z
          have n1 : (ys.map (·.1))[i2]? = some x.1 := by rw [List.getElem?_map, List.getElem?_eq_getElem (by omega), Option.map_some, z]
          have n2 : (ys.map (·.1))[j]? = some x.1 := by rw [List.getElem?_map, hj]; rfl
          have := (List.getElem?_inj (by rw [List.length_map]; omega) g6).mp (n1.trans n2.symm)
          omega
        rw [this] at q
        exact q
end
end U
/-! X9: == of data with dicts: the rule. -/
namespace U
open PySem PySem.Spec PyProof.Rows L2 Tr
variable [Wo]
section
variable {X : Cx} {pins : List (Addr × Obj)} {σ : L2.St} {F H : Hp} {s : Shared} {dr : Addr}
theorem eq_cmp {d e : D} {x y : V} {u v : Value} {A : Around} (I : Inv X pins σ H s) (sub : U.Sub F H) (hd : cmp d = true) (he : cmp e = true) (hu : A.units + 64 < cLine) (r : Rp X.K dr F x d) (g : Rp X.K dr F y e) (ru : RelV x u) (rv : RelV y v) : SeqAt.EqP X.prog X.w A s u v (eqD d e) := by
  obtain ⟨as, r1⟩ := Dp.reads I _ _ _ (dp_of sub d (ba hd).1 r) ru
  obtain ⟨bs, r2⟩ := Dp.reads I _ _ _ (dp_of sub e (ba he).1 g) rv
  exact (SeqAt.eqAt_reads (pd d) (pd e) A s u v as bs r1 r2 (SeqAt.canLay_of_shaped (ba hd).2) (SeqAt.canLay_of_shaped (ba he).2) (SeqAt.room_of_shaped (ba hd).2 hu)).eqP
/-- what is said of d: how == goes against e -/
def EqOk (X : Cx) (s : Shared) (F : Hp) (dr : Addr) (d : D) : Prop := ∀ (e : D) (b : Bool) (n : Nat) (A : Around) (x y : V) (u v : Value), eqX d e = some b → okq d = true → okq e = true → depX d ≤ n → A.units + n + 70 < cLine → Rp X.K dr F x d → Rp X.K dr F y e → RelV x u → RelV y v →
  SeqAt.EqP X.prog X.w A s u v b ∧ ((cmp d = true ∧ cmp e = true) ∨ ∀ (E Q : Value → Shared → Prop), Q (.bool b) s → wpAny (model X.prog X.w) A (richCompare .Eq u v) Q E s)
theorem eqOk_cmp (I : Inv X pins σ H s) (sub : U.Sub F H) {d : D} (h : ∀ e, eqX d e = if cmp d = true ∧ cmp e = true then some (eqD d e) else none) : EqOk X s F dr d := by
  intro e b n A x y u v q od oe hn hu r g ru rv
  rw [h e] at q
  by_cases c : cmp d = true ∧ cmp e = true
  · rw [if_pos c] at q
    cases q
    exact ⟨eq_cmp I sub c.1 c.2 (by omega) r g ru rv, .inl c⟩
  · rw [if_neg c] at q
    cases q
/-- two references: the same object, or compared -/
theorem eqOk_refs (I : Inv X pins σ H s) (sub : U.Sub F H) {d e : D} {b : Bool} {p q : Addr} {A : Around} (h : eqX d e = some b) (od : okq d = true) (oe : okq e = true) (hs : selfE d = true) (r : Rp X.K dr F (.ref p) d) (g : Rp X.K dr F (.ref q) e)
    (k : ∀ (E Q : Value → Shared → Prop), Q (.bool b) s → wpAny (model X.prog X.w) A (richCompare .Eq (.ref p) (.ref q)) Q E s) : SeqAt.EqP X.prog X.w A s (.ref p) (.ref q) b := by
  by_cases e0 : p = q
  · subst e0
    have ed := rp_fun (lkF_of I sub) d e od oe r g
    subst ed
    have hs : eqX d d = some true := of_decide_eq_true hs
    rw [hs] at h
    cases h
    exact (SeqAt.EqAt.same _).eqP
  · exact SeqAt.eqP_refs e0 k
/-- the hits -/
theorem hits_of {κ : Type} [DecidableEq κ] {a b : Addr} {ca cb : List κ} {va vb : List V} {es fs : Array DictEntry} {A : Around} {n : Nat} {ws : List D} (T : Two X s a b ca cb va vb es fs) (rw' : RpA X.K dr F vb ws) (okw : okqA ws = true) (hu : A.units + n + 70 < cLine) :
    ∀ (vs : List D) (js : List (Option Nat)) (i : Nat) (r : Bool), (∀ d ∈ vs, EqOk X s F dr d) → okqA vs = true → depXA vs ≤ n → RpA X.K dr F (va.drop i) vs → js = (idxs ca cb).drop i → eqXH vs js ws = some r → RHits X.prog X.w A s b es fs i r
  | [], js, i, r, _, _, _, h, _, q => by
    have hl := h.length
    rw [List.length_drop] at hl
    have e : eqXH [] js ws = some true := by unfold eqXH; rfl
    rw [e] at q
    cases q
    exact .done (by have := T.lva; simp at hl; omega)
  | d :: vs, js, i, r, ih, ok, dp, h, ej, q => by
    have hl := h.length
    rw [List.length_drop] at hl
    have hi : i < va.length := by simp at hl; omega
    have hie : i < es.size := by have := T.lva; omega
    have hic : i < ca.length := by have := T.la; omega
    rw [List.drop_eq_getElem_cons hi] at h
    have hic' : i < (idxs ca cb).length := by unfold idxs; rw [List.length_map]; exact hic
    rw [List.drop_eq_getElem_cons hic'] at ej
    have head : (idxs ca cb)[i] = cb.findIdx? fun c => decide (c = ca[i]) := by simp only [idxs, List.getElem_map]
    rw [head] at ej
    subst ej
    have fnd := T.find i hie ca[i] (List.getElem?_eq_getElem hic)
    cases h with
    | cons h1 h2 =>
      cases ef : cb.findIdx? fun c => decide (c = ca[i]) with
      | none =>
        rw [ef] at q
        have e : eqXH (d :: vs) (none :: (idxs ca cb).drop (i + 1)) ws = some false := by unfold eqXH; rfl
        rw [e] at q
        cases q
        exact .miss hie fun E Q z => fnd A E Q (by omega) (by rw [ef]; exact z)
      | some j =>
        rw [ef] at q
        unfold eqXH at q
        cases ew : ws[j]? with
        | none =>
          rw [ew] at q
          cases q
        | some w =>
          rw [ew] at q
          dsimp only at q
          cases ex : eqX d w with
          | none =>
            rw [ex] at q
            cases q
          | some b1 =>
            rw [ex] at q
            cases et : eqXH vs ((idxs ca cb).drop (i + 1)) ws with
            | none =>
              rw [et] at q
              cases q
            | some b2 =>
              rw [et] at q
              cases q
              obtain ⟨y, hy, ry⟩ := rw'.at_ ew
              have hj : j < fs.size := by
                have := (List.getElem?_eq_some_iff.mp hy).1
                have := T.lvb
                omega
              have okw1 : okq w = true := okqA_mem okw (List.mem_of_getElem? ew)
              have c := (ih d (List.mem_cons_self ..) w b1 n A va[i] y es[i].val fs[j].val ex (ba ok).1 okw1 (by unfold depXA at dp; omega) hu h1 ry (T.ea i hie va[i] (List.getElem?_eq_getElem hi)) (T.eb j hj y hy)).1
              exact .hit hie hj (fun E Q z => fnd A E Q (by omega) (by rw [ef]; exact z)) c (hits_of T rw' okw hu vs _ (i + 1) b2 (fun d hd => ih d (List.mem_cons_of_mem _ hd)) (ba ok).2 (by unfold depXA at dp; omega) h2 rfl et)
where
  okqA_mem : ∀ {ds : List D} {d : D}, okqA ds = true → d ∈ ds → okq d = true
    | [], d, _, h => nomatch h
    | x :: xs, d, o, h => by
      rcases List.mem_cons.mp h with e | h
      · rw [e]
        exact (ba o).1
      · exact okqA_mem (ba o).2 h
mutual
theorem eqX_run (hw : X.w = Wo.w) (I : Inv X pins σ H s) (sub : U.Sub F H) : ∀ d : D, EqOk X s F dr d
  | .non => eqOk_cmp I sub fun e => by simp only [eqX]
  | .bl b => eqOk_cmp I sub fun e => by simp only [eqX]
  | .int i => eqOk_cmp I sub fun e => by simp only [eqX]
  | .str z => eqOk_cmp I sub fun e => by simp only [eqX]
  | .lst xs => eqOk_cmp I sub fun e => by simp only [eqX]
  | .ins _ _ _ => eqOk_cmp I sub fun e => by simp only [eqX]
  | .drw => eqOk_cmp I sub fun e => by simp only [eqX]
  | .ty _ => eqOk_cmp I sub fun e => by simp only [eqX]
  | .cls _ => eqOk_cmp I sub fun e => by simp only [eqX]
  | .scr _ => eqOk_cmp I sub fun e => by simp only [eqX]
  | .lam _ => eqOk_cmp I sub fun e => by simp only [eqX]
  | .tup xs => fun e b n A x y u v q od oe hn hu r g ru rv => by
    by_cases c : cmp (.tup xs) = true ∧ cmp e = true
    · have z : eqX (.tup xs) e = some (eqD (.tup xs) e) := by
        unfold eqX
        rw [if_pos c]
      rw [z] at q
      cases q
      exact ⟨eq_cmp I sub c.1 c.2 (by omega) r g ru rv, .inl c⟩
    · cases e with
      | tup ys =>
        have z : eqX (.tup xs) (.tup ys) = eqXA xs ys := by
          rw [eqX, if_neg c]
        have q' := q
        rw [z] at q'
        have r0 := r
        have g0 := g
        cases r with
        | @tup p ps _ r1 r2 =>
          cases g with
          | @tup p' qs _ g1 g2 =>
            cases (show u = Value.ref p from ru)
            cases (show v = Value.ref p' from rv)
            obtain ⟨its, w1, t1, _⟩ := I.tuple (.inl (.inl (sub _ _ r1)))
            obtain ⟨its2, w2, t2, _⟩ := I.tuple (.inl (.inl (sub _ _ g1)))
            have dn : depXA xs ≤ n - 1 := by unfold depX at hn; omega
            have n1 : 1 ≤ n := by unfold depX at hn; omega
            obtain ⟨e1, ze, eb⟩ := eqXA_run hw I sub xs ys b (n - 1) A.in1 ps qs its its2 q' (ba od).1 (ba oe).1 dn (by show A.units + 1 + (n - 1) + 70 < cLine; omega) r2 g2 w1 w2
            have rc : ∀ (E Q : Value → Shared → Prop), Q (.bool b) s → wpAny (model X.prog X.w) A (richCompare .Eq (.ref p) (.ref p')) Q E s := fun E Q z => by
              refine rcZ_tuples t1 t2 (by omega) ze E Q ?_
              rw [List.size_toArray, List.size_toArray, ← eb]
              exact z
            exact ⟨eqOk_refs I sub q od oe (ba od).2 r0 g0 rc, .inr rc⟩
      | _ => simp [eqX, c] at q
  | .dct ks vs => fun e b n A x y u v q od oe hn hu r g ru rv => by
    cases e with
    | dct ls ws =>
      have q' := q
      rw [eqX] at q'
      have r0 := r
      have g0 := g
      cases r with
      | @dct p o kvs _ _ r1 r2 r3 =>
        cases g with
        | @dct p' o' kvs' _ _ g1 g2 g3 =>
          cases (show u = Value.ref p from ru)
          cases (show v = Value.ref p' from rv)
          obtain ⟨es, fs, T⟩ := two_dK I (sub _ _ r1) (sub _ _ g1)
          obtain ⟨ep, da⟩ := T.ra
          obtain ⟨fp, db⟩ := T.rb
          have dn : depXA vs ≤ n - 1 := by unfold depX at hn; omega
          have n1 : 1 ≤ n := by unfold depX at hn; omega
          have la : es.size = ks.length := by rw [T.la, r2]
          have lb : fs.size = ls.length := by rw [T.lb, g2]
          have rc : ∀ (E Q : Value → Shared → Prop), Q (.bool b) s → wpAny (model X.prog X.w) A (richCompare .Eq (.ref p) (.ref p')) Q E s := fun E Q z => by
            by_cases hl : ks.length = ls.length
            · rw [if_pos hl] at q'
              refine rcR_dicts (r := b) T.na T.nb da db (by omega) (fun _ => hits_of (n := n - 1) T g3 (ba oe).1 (by show A.units + 1 + (n - 1) + 70 < cLine; omega) vs _ 0 b (fun d hd => eqX_all hw I sub vs d hd) (ba od).1 dn (by rw [List.drop_zero]; exact r3) (by rw [List.drop_zero, r2, g2]) q') E Q ?_
              rw [show (es.size == fs.size && b) = b from by rw [la, lb, hl]; simp]
              exact z
            · rw [if_neg hl] at q'
              cases q'
              refine rcR_dicts (r := true) T.na T.nb da db (by omega) (fun y => absurd (by omega) hl) E Q ?_
              rw [show (es.size == fs.size && true) = false from by rw [la, lb]; simpa using hl]
              exact z
          exact ⟨eqOk_refs I sub q od oe (ba od).2 r0 g0 rc, .inr rc⟩
    | _ => simp [eqX] at q
  | .dcT ks vs => fun e b n A x y u v q od oe hn hu r g ru rv => by
    cases e with
    | dcT ls ws =>
      have q' := q
      rw [eqX] at q'
      have r0 := r
      have g0 := g
      cases r with
      | @dcT p o kvs _ _ r1 r2 r3 r4 =>
        cases g with
        | @dcT p' o' kvs' _ _ g1 g2 g3 g4 =>
          cases (show u = Value.ref p from ru)
          cases (show v = Value.ref p' from rv)
          obtain ⟨es, fs, T⟩ := two_G hw I (sub _ _ r1) (sub _ _ g1) (keysG_of sub r2 r3) (keysG_of sub g2 g3)
          obtain ⟨ep, da⟩ := T.ra
          obtain ⟨fp, db⟩ := T.rb
          have dn : depXA vs ≤ n - 1 := by unfold depX at hn; omega
          have n1 : 1 ≤ n := by unfold depX at hn; omega
          have la : es.size = ks.length := by rw [T.la, ← r2, List.length_map]
          have lb : fs.size = ls.length := by rw [T.lb, ← g2, List.length_map]
          have rc : ∀ (E Q : Value → Shared → Prop), Q (.bool b) s → wpAny (model X.prog X.w) A (richCompare .Eq (.ref p) (.ref p')) Q E s := fun E Q z => by
            by_cases hl : ks.length = ls.length
            · rw [if_pos hl] at q'
              refine rcR_dicts (r := b) T.na T.nb da db (by omega) (fun _ => hits_of (n := n - 1) T g4 (ba (ba oe).2).1 (by show A.units + 1 + (n - 1) + 70 < cLine; omega) vs _ 0 b (fun d hd => eqX_all hw I sub vs d hd) (ba (ba od).2).1 dn (by rw [List.drop_zero]; exact r4) (by rw [List.drop_zero, r2, g2]) q') E Q ?_
              rw [show (es.size == fs.size && b) = b from by rw [la, lb, hl]; simp]
              exact z
            · rw [if_neg hl] at q'
              cases q'
              refine rcR_dicts (r := true) T.na T.nb da db (by omega) (fun y => absurd (by omega) hl) E Q ?_
              rw [show (es.size == fs.size && true) = false from by rw [la, lb]; simpa using hl]
              exact z
          exact ⟨eqOk_refs I sub q od oe (ba (ba od).2).2 r0 g0 rc, .inr rc⟩
    | _ => simp [eqX] at q
theorem eqX_all (hw : X.w = Wo.w) (I : Inv X pins σ H s) (sub : U.Sub F H) : ∀ (ds : List D), ∀ d ∈ ds, EqOk X s F dr d
  | [], d, h => nomatch h
  | x :: xs, d, h => by
    have a := eqX_run hw I sub x
    have t := eqX_all hw I sub xs
    rcases List.mem_cons.mp h with e | h
    · rw [e]
      exact a
    · exact t d h
theorem eqXA_run (hw : X.w = Wo.w) (I : Inv X pins σ H s) (sub : U.Sub F H) : ∀ (xs ys : List D) (b : Bool) (n : Nat) (A : Around) (ps qs : List V) (us ws : List Value), eqXA xs ys = some b → okqA xs = true → okqA ys = true → depXA xs ≤ n → A.units + n + 70 < cLine → RpA X.K dr F ps xs → RpA X.K dr F qs ys → Vals ps us → Vals qs ws →
    ∃ e, ZEq X.prog X.w A s (us.zip ws) e ∧ b = (e && us.length == ws.length)
  | [], [], b, n, A, ps, qs, us, ws, q, _, _, _, _, r, g, ru, rw' => by
    cases r
    cases g
    cases ru
    cases rw'
    unfold eqXA at q
    cases q
    exact ⟨true, .nil, rfl⟩
  | [], y :: ys, b, n, A, ps, qs, us, ws, q, _, _, _, _, r, g, ru, rw' => by
    cases r
    cases ru
    have hl := g.length.symm.trans rw'.length
    unfold eqXA at q
    cases q
    refine ⟨true, .nil, ?_⟩
    rw [← hl]
    rfl
  | x :: xs, [], b, n, A, ps, qs, us, ws, q, _, _, _, _, r, g, ru, rw' => by
    cases g
    cases rw'
    have hl := r.length.symm.trans ru.length
    unfold eqXA at q
    cases q
    refine ⟨true, by rw [List.zip_nil_right]; exact .nil, ?_⟩
    rw [← hl]
    rfl
  | x :: xs, y :: ys, b, n, A, ps, qs, us, ws, q, ox, oy, dn, hu, r, g, ru, rw' => by
    cases r with
    | cons r1 r2 =>
      cases g with
      | cons g1 g2 =>
        cases ru with
        | cons u1 u2 =>
          cases rw' with
          | cons w1 w2 =>
            unfold eqXA at q
            cases ex : eqX x y with
            | none =>
              rw [ex] at q
              cases q
            | some b1 =>
              rw [ex] at q
              cases et : eqXA xs ys with
              | none =>
                rw [et] at q
                cases q
              | some b2 =>
                rw [et] at q
                cases q
                have dx : depX x ≤ n := by unfold depXA at dn; omega
                have dt : depXA xs ≤ n := by unfold depXA at dn; omega
                have c := (eqX_run hw I sub x y b1 n A _ _ _ _ ex (ba ox).1 (ba oy).1 dx hu r1 g1 u1 w1).1
                obtain ⟨e2, ze, eb⟩ := eqXA_run hw I sub xs ys b2 n A _ _ _ _ et (ba ox).2 (ba oy).2 dt hu r2 g2 u2 w2
                refine ⟨b1 && e2, .cons c ze, ?_⟩
                rw [eb, List.length_cons, List.length_cons, Bool.and_assoc]
                congr 2
                simp
end
end
section
variable {X : Cx} {E : XK}
def rEqX (X : Cx) : R2 := fun x y H Q => ∃ (d e : D) (F : Hp) (dr : Addr) (b : Bool), eqX d e = some b ∧ okq d = true ∧ okq e = true ∧ depX d ≤ 40 ∧ ¬ (cmp d = true ∧ cmp e = true) ∧ U.Sub F H ∧ Rp X.K dr F x d ∧ Rp X.K dr F y e ∧ Q (.bl b) H
theorem op_eqX (hw : X.w = Wo.w) (hu : X.A.units + 128 < cLine) : OpR X (compareOp .Eq) (rEqX X) := by
  intro pins s σ H x y v u Q I rx ry ⟨d, e, F, dr, b, h, od, oe, dp, nc, sub, r, g, q⟩
  show wpAny (model X.prog X.w) X.A (richCompare .Eq v u) _ _ s
  rcases (eqX_run hw I sub d (dr := dr) e b 40 X.A x y v u h od oe dp (by omega) r g rx ry).2 with c | k
  · exact absurd c nc
  · exact k _ _ ⟨.bl b, H, I, rfl, q⟩
end
end U
/-! X10: == of anything; in a tuple of the text. -/
namespace U
open PySem PySem.Spec PyProof.Rows L2 Tr
variable [Wo]
section
variable {X : Cx} {E : XK} {j : Nat} {T : Tab} {cs : List Str}
def foEqX : OF := fun d e => if cmp d = true ∧ cmp e = true then some (.bl (eqD d e)) else if okq d = true ∧ okq e = true ∧ depX d ≤ 40 then (eqX d e).map .bl else none
/-- == with a table of own ones, dicts too -/
def oxEqX (cs : List Str) (T : Tab) : OX := fun a b => match a with
  | .ins c ns vs => oxEq cs T false (.ins c ns vs) b
  | _ => .of (foEqX a b)
theorem oxEqX_ok (f : IsF X.K cs) : OpX X E (fun x y H Q => (rOwnT X E T false x y H Q ∨ rEqD X.K x y H Q) ∨ rEqX X x y H Q) (oxEqX cs T) := by
  intro dr sa F H x y d1 d2 Q B r1 r2 q
  unfold oxEqX at q
  split at q
  · exact .inl (oxEq_own (neg := false) f dr sa F H x y _ d2 Q B r1 r2 q)
  · obtain ⟨r, er, q⟩ := sat_of.mp q
    unfold foEqX at er
    by_cases c : cmp d1 = true ∧ cmp d2 = true
    · rw [if_pos c] at er
      cases er
      exact .inl (.inr (opd_eq dr sa F H x y d1 d2 Q B (.inl r1) (.inl r2) ⟨c.1, c.2, q⟩))
    · rw [if_neg c] at er
      by_cases k : okq d1 = true ∧ okq d2 = true ∧ depX d1 ≤ 40
      · rw [if_pos k] at er
        cases ex : eqX d1 d2 with
        | none =>
          rw [ex] at er
          cases er
        | some b =>
          rw [ex] at er
          cases er
          exact .inr ⟨d1, d2, F, dr, b, ex, k.1, k.2.1, k.2.2, c, B.sub, r1, r2, q _ F H (Evo.refl B) (.bl b)⟩
      · rw [if_neg k] at er
        cases er
theorem Ctx.hu128 {k : Nat} (c : Ctx k X E) : X.A.units + 128 < cLine := by
  have := c.room.un
  omega
theorem cx_eqX (c : Ctx j X E) (f : IsF X.K cs) (hT : TabOk (wd X) j "__eq__" 2 T) (hn : ∀ c g, T.lookup c = some g → neB X.K (He.ga X.K c) = true) : CmpX X E .Eq (oxEqX cs T) :=
  ⟨_, OpR.or (OpR.or (op_ownT c hT hn (.inl ⟨rfl, rfl⟩)) (op_eqD c.hu)) (op_eqX c.w c.hu128), oxEqX_ok f⟩
end
/-! ### a tuple of texts, made by the text's first lines -/
def strsB : List Str → List Value → Bool
  | [], [] => true
  | z :: zs, .str y _ :: us => decide (y = z) && strsB zs us
  | _, _ => false
theorem strsB_ok : ∀ {zs : List Str} {us : List Value}, strsB zs us = true → Vals (zs.map V.str) us
  | [], [], _ => .nil
  | z :: zs, .str y t :: us, h => by
    obtain ⟨h1, h2⟩ := ba h
    have e := of_decide_eq_true h1
    subst e
    exact .cons ⟨t, rfl⟩ (strsB_ok h2)
  | [], u :: us, h => by cases u <;> exact absurd h Bool.false_ne_true
  | z :: zs, [], h => absurd h Bool.false_ne_true
  | z :: zs, .none :: us, h => absurd h Bool.false_ne_true
  | z :: zs, .bool _ :: us, h => absurd h Bool.false_ne_true
  | z :: zs, .int _ _ :: us, h => absurd h Bool.false_ne_true
  | z :: zs, .ref _ :: us, h => absurd h Bool.false_ne_true
  | z :: zs, .type _ :: us, h => absurd h Bool.false_ne_true
  | z :: zs, .bytes _ _ :: us, h => absurd h Bool.false_ne_true
  | z :: zs, .float _ _ :: us, h => absurd h Bool.false_ne_true
  | z :: zs, .builtin _ :: us, h => absurd h Bool.false_ne_true
  | z :: zs, .notImplemented :: us, h => absurd h Bool.false_ne_true
def tupB (K : PySem.W.Frag) (x : Str) (zs : List Str) : Bool := match K.lookup (He.ga K x) with
  | some ⟨.type t, _, .seq its _, _⟩ => decide (t = "tuple") && (decide (its.size ≤ 1000) && strsB zs its.toList)
  | _ => false
theorem tupB_ok {K : PySem.W.Frag} {x : Str} {zs : List Str} {H : Hp} (h : tupB K x zs = true) : SqT K H (He.ga K x) (zs.map V.str) := by
  unfold tupB at h
  split at h
  · rename_i t od its n sl e
    obtain ⟨h1, h2⟩ := ba h
    obtain ⟨h2, h3⟩ := ba h2
    have et := of_decide_eq_true h1
    subst et
    refine .inr ⟨_, its, n, e, rfl, rfl, Nat.le_trans (of_decide_eq_true h2) (by decide), strsB_ok h3⟩
  · exact absurd h Bool.false_ne_true
section
variable {X : Cx} {E : XK} {e : Expr} {f : FE} {x : Str} {zs : List Str} {pos p : Pos}
def fInG (g : Bool → Bool) (zs : List Str) (f : FE) : FE := fun env => (f env).bind fun d => if flatD d = true then .ret (.bl (g ((zs.map D.str).any fun z => eqD z d))) else .bad
theorem rp_zs {K : PySem.W.Frag} {dr : Addr} {F : Hp} : ∀ zs : List Str, RpA K dr F (zs.map V.str) (zs.map D.str)
  | [] => .nil
  | z :: zs => .cons (.str z) (rp_zs zs)
theorem flat_strs : ∀ zs : List Str, (zs.map D.str).all flatD = true
  | [] => rfl
  | z :: zs => by
    rw [List.map_cons, List.all_cons, flat_strs zs]
    rfl
theorem fInG_in {g : Bool → Bool} {neg : Bool} (hneg : ∀ b : Bool, (if neg = true then !b else b) = g b) (ht : tupB X.K x zs = true) (h : VE X E e f) {σ : L2.St} {H : Hp} {Q : VK} (q : tG RF E X.K (wF (fInG g zs f)) σ H Q) : tOp (rIn X.K neg) (tG RF E X.K (wF f)) (tC (.ref (He.ga X.K x))) σ H Q := by
  obtain ⟨dr, sa, F, env, S, q⟩ := q
  have q := q
  unfold wF fInG at q
  rw [sat_bind] at q
  refine ⟨dr, sa, F, env, S, h.mono env _ _ _ _ (fun d q1 v F1 H1 e1 r1 => ?_) (fun _ _ _ z => z) q⟩
  by_cases c : flatD d = true
  · rw [if_pos c] at q1
    refine ⟨_, _, rfl, .inr (tupB_ok ht), flat_V c r1, flat_all (flat_strs zs) (rp_zs (K := X.K) (dr := dr) (F := F1) zs), ?_⟩
    rw [hneg, flat_any c r1 (flat_strs zs) (rp_zs (K := X.K) (dr := dr) (F := F1) zs)]
    exact q1 _ F1 H1 e1 (.bl _)
  · rw [if_neg c] at q1
    exact q1.elim
theorem ve_inG (hg : Gl X x) (hm : X.mg x = some (.ref (He.ga X.K x))) (ht : tupB X.K x zs = true) (h : VE X E e f) (hm2 : behindInMarks .In (.Name x p) = false) (hd : (x == ("__debug__" : Str)) = false := by decide) : VE X E (.Compare e [.In] [.Name x p] pos) (fInG id zs f) :=
  ⟨PE.wk (pe_cmpR op_in_seq h.pe (pe_glob (v := .ref (He.ga X.K x)) hg hm rfl hd) hm2) fun σ H Q q => fInG_in (neg := false) (fun b => rfl) ht h q, wF_mono⟩
theorem ve_notInG (hg : Gl X x) (hm : X.mg x = some (.ref (He.ga X.K x))) (ht : tupB X.K x zs = true) (h : VE X E e f) (hm2 : behindInMarks .NotIn (.Name x p) = false) (hd : (x == ("__debug__" : Str)) = false := by decide) : VE X E (.Compare e [.NotIn] [.Name x p] pos) (fInG not zs f) :=
  ⟨PE.wk (pe_cmpR op_notIn_seq h.pe (pe_glob (v := .ref (He.ga X.K x)) hg hm rfl hd) hm2) fun σ H Q q => fInG_in (neg := true) (fun b => rfl) ht h q, wF_mono⟩
end
end U
/-! X11: dict comprehensions with tuples as keys; name = {..}. -/
namespace U
open PySem PySem.Spec PyProof.Rows L2 Tr
variable [Wo]
theorem g_dictSet {X : Cx} {pins : List (Addr × Obj)} {σ : L2.St} {H : Hp} {s : Shared} {a b : Addr} {kvs : GKV} {k : NestedKey} {v : V} {r : Value} {E : Value → Shared → Prop} {Q : Unit → Shared → Prop} (hu : X.A.units + 8 < cLine) (I : Inv X pins σ H s) (e : H a = some (GD X.w a kvs)) (hk : KeysG H kvs) (n : NkH H (.ref b) k) (hd : k.depth ≤ 8) (hl : kvs.length < sizeLine) (rv : RelV v r)
    (h : ∀ s', Inv X pins σ (upd H a (GD X.w a (putG kvs k b v))) s' → Q () s') : wpAny (model X.prog X.w) X.A (dictSet a (.ref b) r) Q E s := by
  obtain ⟨hz, hs, xs, rel, dd⟩ := gd_at I.hok (.inl e) hk
  have hx : xs.length ≤ sizeLine := by rw [← Paired.length rel]; exact hz
  refine wpAny_dictSet_heap (hsz := hx) (knd := nestedKind X.prog X.w) hu ⟨n.is I.hok _ rfl, hd⟩ dd fun h' dd' hb => h _ ?_
  obtain ⟨q, es, ep, hq, h2, h3, h4, _, h5⟩ := dd'
  have rel' := relG_put (k := k) (b := b) rv rel
  have em := relG_keys rel'
  refine d_write I (by rw [e]; exact True.intro) hb ⟨q, hq⟩ ⟨⟨?_, hs, by rw [em]; exact h5, _, rel', q, es, ep, hq, h2, h3, h4⟩, ⟨q, hq⟩, ?_⟩
  · have := putG_len kvs k b v
    omega
  · rintro h1 h2 ⟨z1, z2, z3, ys, z4, o, es, ep, ho, z5⟩ st
    exact ⟨z1, z2, z3, ys, z4, o, es, ep, st _ ho, z5⟩
section
variable {X : Cx}
/-- {k: v for target in iter if ..}, keys tuples: D the new dict -/
def tDcG (X : Cx) (wi : TI) (g : TG) (tt : TT) (tk tv : TE) (vs : List Nat) : TE := fun σ H Q => wi σ H fun J G1 => ∀ D, G1 D = none → ∃ W : Nat → Nat → Hp → Prop, (∃ m, W 0 m (upd G1 D (GD X.w D []))) ∧ ∀ i m H, W i m H →
  (J.stop i H ∧ Q (.ref D) H) ∨ (J.go i H ∧ ∃ Nx : Hp → Prop, (∀ H', Nx H' → ∃ m', m' < m ∧ W (i + 1) m' H') ∧ ∀ x H', J.yld i H x H' → g x (wipe σ vs) H' fun σ2 G2 => wipe σ2 vs = wipe σ vs ∧ tt σ2 G2 fun b G3 =>
    if b = true then tk σ2 G3 fun y G4 => tv σ2 G4 fun z G5 => ∃ kvs b k, y = .ref b ∧ G5 D = some (GD X.w D kvs) ∧ KeysG G5 kvs ∧ NkH G5 (.ref b) k ∧ k.depth ≤ 8 ∧ kvs.length < sizeLine ∧ Nx (upd G5 D (GD X.w D (putG kvs k b z))) else Nx G3)
theorem dcG_core {pins : List (Addr × Obj)} {s : Shared} {σ : L2.St} {H : Hp} {Q : VK} {kx vx tg iter : Expr} {ifs : List Expr} {scope : Scope} {own : List (Str × Nat)} {pos posC : Pos} {wi : TI} {g : TG} {tt : TT} {tk tv : TE} {use : Option (Value → Sem Unit)} {Qf : Value → Shared → Prop}
    (hc : X.calm = true) (hN : X.N.Nodup) (I : Inv X pins σ H s) (hi : PI X tg iter wi) (ok : BlkOk X.N X.env.scope scope own)
    (hg : ∀ (s : Shared) (H : Hp) (C : Addr) (cl : List (Str × Addr)) (fp : List Addr), PG (X.blk s H scope (compEnvC scope cl C X.env) fp) tg g) (ht : ∀ (s : Shared) (H : Hp) (C : Addr) (cl : List (Str × Addr)) (fp : List Addr), PTs (X.blk s H scope (compEnvC scope cl C X.env) fp) ifs tt)
    (hk : ∀ (s : Shared) (H : Hp) (C : Addr) (cl : List (Str × Addr)) (fp : List Addr), PE (X.blk s H scope (compEnvC scope cl C X.env) fp) kx tk)
    (he : ∀ (s : Shared) (H : Hp) (C : Addr) (cl : List (Str × Addr)) (fp : List Addr), PE (X.blk s H scope (compEnvC scope cl C X.env) fp) vx tv) (hs : ∀ x, foldedSetIterable iter X.env x = pure x)
    (hu0 : X.A.units + 8 < cLine) (h : tDcG X wi g tt tk tv (own.map (·.2)) σ H Q)
    (hRR : ∀ D C s' m H', Inv X pins σ H' s' → Q (.ref D) H' → s'.heap.Ns C m → FpOk X pins H' C → compPost (model X.prog X.w) X.A X.xe use Qf (.ref D) C (.ok .next) s') :
    wpAny (model X.prog X.w) X.A (comprehension (.DictComp kx vx [⟨tg, iter, ifs, 0⟩] scope pos) scope X.env posC newDict false (eval iter X.env) use) Qf X.xe s := by
  have frees : ∀ y ∈ scope.names, y.2 = .free → ∃ c, X.env.cells.lookup y.1 = some c := fun y hy e => by
    rcases ok.free y hy e with k | k
    · exact I.ok.has _ (.inl k)
    · exact I.ok.has _ (.inr k)
  refine wpAny_comprehension_free (use := use) rfl hs (closure_ok frees) ok.kind (fun y hy e => by rw [ok.uniq y hy, e])
    (thn (hi.run pins s σ H _ I h) fun xv t1 hx => thn hx fun itv t2 h2 => ?_)
  obtain ⟨it, fp, tn, J, G2, e, J2, T, tr2, f2, q⟩ := h2
  subst e
  refine wpAny_newObj_type (newEnv_comp ?_)
  generalize hD : t2.heap.objs.size = D
  have hDn : G2 D = none := J2.hok.fresh (Nat.le_of_eq hD)
  obtain ⟨W, ⟨m0, w0⟩, turn⟩ := q D hDn
  -- the new list
  generalize hs3 : ({ t2 with heap := t2.heap.push { cls := .type "dict", data := .dict #[] } } : Shared) = t3
  have J3 : Inv X pins σ (upd G2 D (GD X.w D [])) t3 := by
    rw [← hs3]
    refine J2.laid (t' := t2.toks) (fun b o e => Heap.get?_push_of_some _ e) (Nat.le_of_eq hD) ?_
    rw [← hD]
    exact gd_empty t2.heap J2.big
  have h3 : t3.heap = t2.heap.push { cls := .type "dict", data := .dict #[] } := by rw [← hs3]
  have sz : ∀ b ∈ fp, b < t2.heap.objs.size := fun b hb => by
    obtain ⟨o, e, _⟩ := T.obj _ _ tr2 b hb
    exact Heap.lt_size e
  have f3 : ∀ b ∈ fp, FpOk X pins (upd G2 D (GD X.w D [])) b ∧ b < t3.heap.objs.size := fun b hb => by
    have hlt := sz b hb
    refine ⟨⟨?_, (f2 b hb).2⟩, by rw [h3, Heap.size_push]; exact Nat.lt_succ_of_lt hlt⟩
    rw [upd_ne (by rw [← hD]; exact Nat.ne_of_lt hlt)]
    exact (f2 b hb).1
  have tr3 : tn 0 t3.heap := T.keep _ _ _ tr2 fun b _ o e => by rw [h3]; exact Heap.get?_push_of_some _ e
  have J4 := block_start J3 ok hN f3
  have pg := hg t3 (upd G2 D (GD X.w D [])) t3.heap.objs.size (cellsFrom (t3.heap.objs.size + 1) scope.names (cloFrom X.env.cells scope.names [])) fp
  have pt := ht t3 (upd G2 D (GD X.w D [])) t3.heap.objs.size (cellsFrom (t3.heap.objs.size + 1) scope.names (cloFrom X.env.cells scope.names [])) fp
  have pk := hk t3 (upd G2 D (GD X.w D [])) t3.heap.objs.size (cellsFrom (t3.heap.objs.size + 1) scope.names (cloFrom X.env.cells scope.names [])) fp
  have pe := he t3 (upd G2 D (GD X.w D [])) t3.heap.objs.size (cellsFrom (t3.heap.objs.size + 1) scope.names (cloFrom X.env.cells scope.names [])) fp
  show codeAny _ _ (.compStart (.DictComp kx vx [⟨tg, iter, ifs, 0⟩] scope pos) 0 (.ref it) (.ref D) (compEnvC scope (cellsFrom (t3.heap.objs.size + 1) scope.names (cloFrom X.env.cells scope.names [])) t3.heap.objs.size X.env)) (compPost (model X.prog X.w) X.A X.xe use Qf (.ref D) t3.heap.objs.size) { t3 with heap := pushCells (t3.heap.push { cls := .type "dict", data := .dict #[] }) scope.names }
  have noF : ∀ b ∈ fp, (upd G2 D (GD X.w D [])) b = none := fun b hb => (f3 b hb).1.1
  generalize eqE : compEnvC scope (cellsFrom (t3.heap.objs.size + 1) scope.names (cloFrom X.env.cells scope.names [])) t3.heap.objs.size X.env = be at J4 pg pt pk pe ⊢
  have locC : be.locals = t3.heap.objs.size := by subst eqE; rfl
  generalize hH3 : upd G2 D (GD X.w D []) = G3 at J3 J4 pg pt pk pe w0 noF f3
  generalize hs4 : ({ t3 with heap := pushCells (t3.heap.push { cls := .type "dict", data := .dict #[] }) scope.names } : Shared) = t4 at J4 ⊢
  have tr4 : tn 0 t4.heap := T.keep _ _ _ tr3 fun b _ o e => by rw [← hs4]; exact pushCells_keeps _ _ _ _ (Heap.get?_push_of_some _ e)
  have okF : ∀ {σ' : L2.St} {H' : Hp} {s' : Shared}, Inv (X.blk t3 G3 scope be fp) [] σ' H' s' → (∀ b ∈ fp, H' b = none) → ∀ b ∈ fp, FpOk (X.blk t3 G3 scope be fp) [] H' b := fun {σ' H' s'} I' ns6 b hb =>
    ⟨ns6 b hb, (I'.ok.exf b hb).1, I'.ok.exfs b hb, .inl hb, fun x c e => (I'.ok.exf b hb).2 x c e, fun p hp => absurd (show p ∈ ([] : List (Addr × Obj)) ++ [] from hp) (by simp)⟩
  have walk : codeAny (model X.prog X.w) X.A (.compLoop (.DictComp kx vx [⟨tg, iter, ifs, 0⟩] scope pos) 0 (.ref it) (.ref D) be) (compPost (model X.prog X.w) X.A X.xe use Qf (.ref D) t3.heap.objs.size) t4 := by
    refine compLoop_anyD (fun n s' => ∃ i H', Inv (X.blk t3 G3 scope be fp) [] (wipe σ (own.map (·.2))) H' s' ∧ tn i s'.heap ∧ (∀ b ∈ fp, H' b = none) ∧ W i n H') ?_ m0 ⟨0, G3, J4, tr4, noF, w0⟩
    rintro n t5 ⟨i, G5, J5, tr5, n5, w5⟩
    rcases turn i n G5 w5 with ⟨stop, qq⟩ | ⟨go, Nx, hNx, step⟩
    · have td := T.done (X.blk t3 G3 scope be fp) rfl rfl rfl hc i [] t5 _ G5 (fun _ _ => False) J5 (okF J5 n5) tr5 stop
      refine thnF td fun r t6 ⟨hr, J6⟩ => ?_
      subst hr
      -- back in the def's context
      have J7 : Inv X pins σ G5 t6 := J3.call' (ch := fp) J6.os J6.base J6.hok J6.bare fun b hb => ⟨(f3 b hb).1.2.2.2.1, (f3 b hb).1.2.1, (f3 b hb).1.2.2.2.2.1, (f3 b hb).1.2.2.2.2.2⟩
      have noC : G5 t3.heap.objs.size = none := by
        have z : G5 be.locals = none := J6.free
        rw [locC] at z
        exact z
      obtain ⟨m, ns6, _⟩ := J6.loc
      have ns6 : t6.heap.Ns be.locals m := ns6
      rw [locC] at ns6
      exact hRR D t3.heap.objs.size t6 m G5 J7 qq ns6 (J3.fpOk (Nat.le_refl _) noC)
    · have ti := T.item (X.blk t3 G3 scope be fp) rfl rfl rfl hc i [] t5 _ G5 (fun _ _ => False) J5 (okF J5 n5) tr5 go
      refine thnF ti fun r t6 ⟨u, hr, h6⟩ => ?_
      subst hr
      refine thnF h6 fun _ t7 ⟨x, G7, J7, r7, y7, tr7, n7⟩ => ?_
      have J7' := J7.pinned (okF J7 n7) (T.obj _ _ tr7)
      refine thnF (pg.run _ t7 _ G7 x u _ J7' r7 (step x G7 y7)) fun _ t8 ⟨ρ8, G8, J8, hw8, q8⟩ => ?_
      refine thnF (pt.run _ t8 ρ8 G8 _ J8 q8) fun b t9 ⟨G9, J9, q9⟩ => ?_
      -- the turn's end
      have fin : ∀ {s' : Shared} {H' : Hp}, Inv (X.blk t3 G3 scope be fp) ([] ++ pinsAt fp t7.heap) ρ8 H' s' → Nx H' → ∃ m, m < n ∧ ∃ i H', Inv (X.blk t3 G3 scope be fp) [] (wipe σ (own.map (·.2))) H' s' ∧ tn i s'.heap ∧ (∀ b ∈ fp, H' b = none) ∧ W i m H' := fun {s' H'} I' nx => by
        obtain ⟨m', hm, w'⟩ := hNx H' nx
        have pinK : ∀ b ∈ fp, ∀ o, t7.heap.get? b = some o → s'.heap.get? b = some o ∧ H' b = none := fun b hb o e =>
          let z := I'.pin (b, o) (List.mem_append_right _ (List.mem_append_right _ (mem_pinsAt hb e)))
          ⟨z.1, z.2.1⟩
        have len8 : (wipe σ (own.map (·.2))).length = ρ8.length := by rw [← hw8, wipe_length]
        refine ⟨m', hm, i + 1, H', (I'.unpinned (pins := [])).weak len8 (fun j v e => ?_), T.keep _ _ _ tr7 fun b hb o e => (pinK b hb o e).1, fun b hb => ?_, w'⟩
        · rw [← hw8] at e
          exact (wipe_some e).1
        · obtain ⟨o, e, _⟩ := T.obj _ _ tr7 b hb
          exact (pinK b hb o e).2
      cases b with
      | false =>
        simp only [Bool.false_eq_true, if_false] at q9 ⊢
        exact fin J9 q9
      | true =>
        simp only [if_true] at q9 ⊢
        refine thnF (pk.run _ t9 ρ8 G9 _ J9 q9) fun z t10 ⟨yk, G10, J10, r10, q10⟩ => ?_
        refine thnF (pe.run _ t10 ρ8 G10 _ J10 q10) fun z2 t11 ⟨yv, G11, J11, r11, kvs, bk, k, ek, hD11, kg11, nk11, dk11, hz11, nx⟩ => ?_
        subst ek
        cases (show _ = Value.ref bk from r10)
        exact g_dictSet (X := X.blk t3 G3 scope be fp) hu0 J11 hD11 kg11 nk11 dk11 hz11 r11 fun t12 J12 => fin J12 nx
  exact codeAny_compStart_dict walk (T.self X.A 0 _ _ _ tr4 walk)
/-- as a value -/
theorem pe_dcG {kx vx tg iter : Expr} {ifs : List Expr} {scope : Scope} {own : List (Str × Nat)} {pos : Pos} {wi : TI} {g : TG} {tt : TT} {tk tv : TE} (hu0 : X.A.units + 8 < cLine) (hc : X.calm = true) (hN : X.N.Nodup) (hi : PI X tg iter wi) (ok : BlkOk X.N X.env.scope scope own)
    (hg : ∀ (s : Shared) (H : Hp) (C : Addr) (cl : List (Str × Addr)) (fp : List Addr), PG (blkX X scope s H C cl fp) tg g)
    (ht : ∀ (s : Shared) (H : Hp) (C : Addr) (cl : List (Str × Addr)) (fp : List Addr), PTs (blkX X scope s H C cl fp) ifs tt)
    (hk : ∀ (s : Shared) (H : Hp) (C : Addr) (cl : List (Str × Addr)) (fp : List Addr), PE (blkX X scope s H C cl fp) kx tk)
    (he : ∀ (s : Shared) (H : Hp) (C : Addr) (cl : List (Str × Addr)) (fp : List Addr), PE (blkX X scope s H C cl fp) vx tv) (hs : ∀ x, foldedSetIterable iter X.env x = pure x := by intro _; rfl) :
    PE X (.DictComp kx vx [⟨tg, iter, ifs, 0⟩] scope pos) (tDcG X wi g tt tk tv (own.map (·.2))) := by
  refine ⟨fun pins s σ H Q I h => ?_⟩
  rw [arm_eval_DictComp]
  refine dcG_core hc hN I hi ok hg ht hk he hs hu0 h fun D C s' m H' J q hn f => ⟨m, hn, fun h2 sb => ?_⟩
  obtain ⟨f0, f1, f2, f3, f4, f5⟩ := f
  exact ⟨.ref D, H', J.turned (t' := s'.toks) (fun b o hb e => (sb.2 b hb).trans e) f0 f1 f3 f4 f5, rfl, q⟩
theorem ps_setDc {i : Nat} {y : Str} {py spos pos : Pos} {kx vx tg iter : Expr} {ifs : List Expr} {scope : Scope} {own : List (Str × Nat)} {wi : TI} {g : TG} {tt : TT} {tk tv : TE} (hc : X.calm = true) (hN : X.N.Nodup) (hy : X.N[i]? = some y) (hyl : X.env.scope.names.lookup y = some .local)
    (hsw : swapsWith (.DictComp kx vx [⟨tg, iter, ifs, 0⟩] scope pos) (some (.Name y py)) spos.line X.env = pure true) (hi : PI X tg iter wi) (ok : BlkOk X.N X.env.scope scope own)
    (hg : ∀ (s : Shared) (H : Hp) (C : Addr) (cl : List (Str × Addr)) (fp : List Addr), PG (blkX X scope s H C cl fp) tg g)
    (ht : ∀ (s : Shared) (H : Hp) (C : Addr) (cl : List (Str × Addr)) (fp : List Addr), PTs (blkX X scope s H C cl fp) ifs tt)
    (hk : ∀ (s : Shared) (H : Hp) (C : Addr) (cl : List (Str × Addr)) (fp : List Addr), PE (blkX X scope s H C cl fp) kx tk)
    (he : ∀ (s : Shared) (H : Hp) (C : Addr) (cl : List (Str × Addr)) (fp : List Addr), PE (blkX X scope s H C cl fp) vx tv) (hs : ∀ x, foldedSetIterable iter X.env x = pure x := by intro _; rfl) :
    PS X (.Assign [.Name y py] (.DictComp kx vx [⟨tg, iter, ifs, 0⟩] scope pos) spos) (tAsg (tDc wi g tt tk tv (own.map (·.2))) (gName i)) := by
  refine ⟨fun pins s σ H D I h => ?_⟩
  rw [exec_Assign_Name_used _ _ _ _ hsw]
  refine wpAny_bind (wpAny_standAt (wpAny_bind ?_))
  show wpAny _ X.A (do let _ ← comprehension (.DictComp kx vx [⟨tg, iter, ifs, 0⟩] scope pos) scope X.env (firstIterPos [⟨tg, iter, ifs, 0⟩] pos) newDict false (eval iter X.env) (some (assign (.Name y py) X.env))) _ _ s
  have q0 : tDc wi g tt tk tv (own.map (·.2)) σ H (fun x H1 => gName i x σ H1 D.nx) := h
  refine wpAny_bind (thn (dc_core (Qf := fun _ s' => SP X pins D .next s') hc hN I hi ok hg ht hk he hs q0 fun L C s' m H' J q hn f => ?_) fun _ s' hq => wpAny_pure (wpAny_pure hq))
  show wpAny _ _ (assign (.Name y py) X.env (.ref L)) _ _ _
  obtain ⟨f0, f1, f2, f3, f4, f5⟩ := f
  refine wpAny_assign_Name (store_ok2 (v := V.ref L) J hN hy (.inl hyl) rfl (fun t2 J2 ⟨a, sb, ha⟩ => ⟨m, hn.sameBut sb ?_, fun h3 sb3 => ⟨_, H', J2.turned (t' := t2.toks) (fun b o hb e => (sb3.2 b hb).trans e) f0 f1 f3 f4 f5, q⟩⟩) (.inr hyl))
  rcases ha with z | z
  · rw [z]
    exact f1
  · exact fun e => f4 y a z e.symm
theorem ps_setDcG {i : Nat} {y : Str} {py spos pos : Pos} {kx vx tg iter : Expr} {ifs : List Expr} {scope : Scope} {own : List (Str × Nat)} {wi : TI} {g : TG} {tt : TT} {tk tv : TE} (hu0 : X.A.units + 8 < cLine) (hc : X.calm = true) (hN : X.N.Nodup) (hy : X.N[i]? = some y) (hyl : X.env.scope.names.lookup y = some .local)
    (hsw : swapsWith (.DictComp kx vx [⟨tg, iter, ifs, 0⟩] scope pos) (some (.Name y py)) spos.line X.env = pure true) (hi : PI X tg iter wi) (ok : BlkOk X.N X.env.scope scope own)
    (hg : ∀ (s : Shared) (H : Hp) (C : Addr) (cl : List (Str × Addr)) (fp : List Addr), PG (blkX X scope s H C cl fp) tg g)
    (ht : ∀ (s : Shared) (H : Hp) (C : Addr) (cl : List (Str × Addr)) (fp : List Addr), PTs (blkX X scope s H C cl fp) ifs tt)
    (hk : ∀ (s : Shared) (H : Hp) (C : Addr) (cl : List (Str × Addr)) (fp : List Addr), PE (blkX X scope s H C cl fp) kx tk)
    (he : ∀ (s : Shared) (H : Hp) (C : Addr) (cl : List (Str × Addr)) (fp : List Addr), PE (blkX X scope s H C cl fp) vx tv) (hs : ∀ x, foldedSetIterable iter X.env x = pure x := by intro _; rfl) :
    PS X (.Assign [.Name y py] (.DictComp kx vx [⟨tg, iter, ifs, 0⟩] scope pos) spos) (tAsg (tDcG X wi g tt tk tv (own.map (·.2))) (gName i)) := by
  refine ⟨fun pins s σ H D I h => ?_⟩
  rw [exec_Assign_Name_used _ _ _ _ hsw]
  refine wpAny_bind (wpAny_standAt (wpAny_bind ?_))
  show wpAny _ X.A (do let _ ← comprehension (.DictComp kx vx [⟨tg, iter, ifs, 0⟩] scope pos) scope X.env (firstIterPos [⟨tg, iter, ifs, 0⟩] pos) newDict false (eval iter X.env) (some (assign (.Name y py) X.env))) _ _ s
  have q0 : tDcG X wi g tt tk tv (own.map (·.2)) σ H (fun x H1 => gName i x σ H1 D.nx) := h
  refine wpAny_bind (thn (dcG_core (Qf := fun _ s' => SP X pins D .next s') hc hN I hi ok hg ht hk he hs hu0 q0 fun L C s' m H' J q hn f => ?_) fun _ s' hq => wpAny_pure (wpAny_pure hq))
  show wpAny _ _ (assign (.Name y py) X.env (.ref L)) _ _ _
  obtain ⟨f0, f1, f2, f3, f4, f5⟩ := f
  refine wpAny_assign_Name (store_ok2 (v := V.ref L) J hN hy (.inl hyl) rfl (fun t2 J2 ⟨a, sb, ha⟩ => ⟨m, hn.sameBut sb ?_, fun h3 sb3 => ⟨_, H', J2.turned (t' := t2.toks) (fun b o hb e => (sb3.2 b hb).trans e) f0 f1 f3 f4 f5, q⟩⟩) (.inr hyl))
  rcases ha with z | z
  · rw [z]
    exact f1
  · exact fun e => f4 y a z e.symm
theorem swD_true {kx vx : Expr} {gs : List Comprehension} {scope : Scope} {pos py : Pos} {y : Str} {l : Nat} {env : Env} (hk : env.scope.kind = .function) (hy : env.scope.names.lookup y = some .local) (hl : (py.line == pos.line) = true)
    (ha : (scope.names.any fun (n, k) => n == y && (k == .local || k == .cell)) = false) : swapsWith (.DictComp kx vx gs scope pos) (some (.Name y py)) l env = pure true := by
  have e1 : env.kindOf y = some .local := hy
  have e2 : env.blockKind = .function := by
    unfold Env.blockKind
    rw [hk]
    rfl
  unfold swapsWith
  simp only [e1, e2, ha, Expr.pos, hl]
  rfl
end
/-! ### over data -/
def wDcLT (is : List Nat) (g : WG) (t : WT) (wy w : WE) (env : En) (Q : D → Prop) : List D → List D → List D → Prop
  | [], ks, vs => Q (.dcT ks vs)
  | d :: ds, ks, vs => g d (wipeX env is) fun e => t e (fun k => if k = true then wy e (fun y => w e (fun v => ∃ z, nkT y = some z ∧ ks.length < most ∧ wDcLT is g t wy w env Q ds (putKT ks y z) (putVT ks vs z v)) xF) xF else wDcLT is g t wy w env Q ds ks vs) xF
def wDcT (wi : WI) (is : List Nat) (g : WG) (t : WT) (wy w : WE) : WE := fun env Q x => wi env (fun ds => wDcLT is g t wy w env Q ds [] []) x
section
variable {X : Cx} {E : XK} {elt kx vx tg iter : Expr} {ifs : List Expr} {scope : Scope} {own : List (Str × Nat)} {pos spos py : Pos} {wi : WI} {g : WG} {t : WT} {w wy : WE} {is : List Nat}
theorem wDcLT_mono (hg : ∀ d env (Q Q' : En → Prop), (∀ e, Q e → Q' e) → g d env Q → g d env Q') (ht : ∀ env (Q Q' : Bool → Prop) (x x' : XP), (∀ d, Q d → Q' d) → (∀ c n v, x c n v → x' c n v) → t env Q x → t env Q' x')
    (hy : ∀ env (Q Q' : D → Prop) (x x' : XP), (∀ d, Q d → Q' d) → (∀ c n v, x c n v → x' c n v) → wy env Q x → wy env Q' x') (hw : ∀ env (Q Q' : D → Prop) (x x' : XP), (∀ d, Q d → Q' d) → (∀ c n v, x c n v → x' c n v) → w env Q x → w env Q' x') {env : En} {Q Q' : D → Prop} (k : ∀ d, Q d → Q' d) : ∀ ds ks vs, wDcLT is g t wy w env Q ds ks vs → wDcLT is g t wy w env Q' ds ks vs
  | [], ks, vs, h => k _ h
  | d :: ds, ks, vs, h => hg _ _ _ _ (fun e q => ht _ _ _ _ _ (fun b q2 => by
    cases b
    · exact wDcLT_mono hg ht hy hw k ds ks vs q2
    · exact hy _ _ _ _ _ (fun y q3 => hw _ _ _ _ _ (fun v ⟨z, a1, a2, q4⟩ => ⟨z, a1, a2, wDcLT_mono hg ht hy hw k ds _ _ q4⟩) (fun _ _ _ z => z) q3) (fun _ _ _ z => z) q2) (fun _ _ _ z => z) q) h
theorem dcT_in {dr sa : Addr} {F H F1 H1 : Hp} {σ : L2.St} {env : En} {vs : List Nat} {J : It} {ds : List D} {Q : VK} {P : D → Prop} (hw0 : X.w = Wo.w) (S : Sr X.K dr sa F σ H env) (e1 : Evo dr sa F H F1 H1) (it : ItD X.K dr sa J F1 ds) (tm : ∀ d env (Q Q' : En → Prop), (∀ e, Q e → Q' e) → g d env Q → g d env Q')
    (um : ∀ env (Q Q' : Bool → Prop) (x x' : XP), (∀ d, Q d → Q' d) → (∀ c n v, x c n v → x' c n v) → t env Q x → t env Q' x') (ym : ∀ env (Q Q' : D → Prop) (x x' : XP), (∀ d, Q d → Q' d) → (∀ c n v, x c n v → x' c n v) → wy env Q x → wy env Q' x') (wm : ∀ env (Q Q' : D → Prop) (x x' : XP), (∀ d, Q d → Q' d) → (∀ c n v, x c n v → x' c n v) → w env Q x → w env Q' x')
    (go : ∀ d p F' H', P d → Evo dr sa F H F' H' → H p = none → F' p = none → p ≠ dr → isIns d = false → Own X.K dr F' H' p d → Q (.ref p) H') (q : wDcLT vs g t wy w env P ds [] []) :
    ∀ L, H1 L = none → ∃ W : Nat → Nat → Hp → Prop, (∃ m, W 0 m (upd H1 L (GD X.w L []))) ∧ ∀ i m H, W i m H →
  (J.stop i H ∧ Q (.ref L) H) ∨ (J.go i H ∧ ∃ Nx : Hp → Prop, (∀ H', Nx H' → ∃ m', m' < m ∧ W (i + 1) m' H') ∧ ∀ x H', J.yld i H x H' → tBlk X.K vs g x (wipe σ vs) H' fun σ2 H2 => wipe σ2 vs = wipe σ vs ∧ tGT EF X.K t σ2 H2 fun b H3 =>
    if b = true then tG RF EF X.K wy σ2 H3 fun y H4 => tG RF EF X.K w σ2 H4 fun z H5 => ∃ kvs b k, y = .ref b ∧ H5 L = some (GD X.w L kvs) ∧ KeysG H5 kvs ∧ NkH H5 (.ref b) k ∧ k.depth ≤ 8 ∧ kvs.length < sizeLine ∧ Nx (upd H5 L (GD X.w L (putG kvs k b z))) else Nx H3) := by
  intro L hL
  rw [hw0]
  obtain ⟨e0, f0, nd⟩ := own_new (σ := σ) (env := env) (u := GD Wo.w L []) e1.toBs hL
  refine ⟨fun i m H' => m = ds.length - i ∧ i ≤ ds.length ∧ ∃ F' acc ksD accD, Evo dr sa F1 H1 F' H' ∧ F' L = none ∧ H' L = some (GD Wo.w L acc) ∧ ksD.map nkT = acc.map (some ·.1) ∧ RpA X.K dr F' (acc.map (V.ref ·.2.1)) ksD ∧ RpA X.K dr F' (acc.map (·.2.2)) accD ∧ wDcLT vs g t wy w env P (ds.drop i) ksD accD, ⟨_, rfl, Nat.zero_le _, F1, [], [], [], e0, f0, upd_same, rfl, .nil, .nil, q⟩, ?_⟩
  rintro i m H' ⟨rfl, hil, F', acc, ksD, accD, evo, fL, hacc, ke, kr, racc, z⟩
  obtain ⟨itg, its⟩ := it F' H' evo.toBs evo.fs
  by_cases hlt : i < ds.length
  · have eq := List.drop_eq_getElem_cons hlt
    rw [eq] at z
    obtain ⟨g1, g2⟩ := itg i ds[i] (List.getElem?_eq_getElem hlt)
    refine .inr ⟨g1, _, fun G n => ⟨ds.length - (i + 1), by omega, n⟩, fun x H2 y => ?_⟩
    obtain ⟨F2, e2, r2⟩ := g2 x H2 y
    have S2 : Sr X.K dr sa F2 (wipe σ vs) H2 (wipeX env vs) := ((S.evo e1).evo (evo.trans e2)).wipe vs
    refine ⟨dr, sa, σ, dr, F2, wipeX env vs, ds[i], ⟨rfl, S2, wipe_wipe⟩, r2, tm _ _ _ _ (fun e3 z3 τ g3 => ?_) z⟩
    refine ⟨g3.2.2, dr, sa, F2, e3, g3.2.1, um _ _ _ _ _ (fun b z4 F4 H4 e4 => ?_) xF_xw z3⟩
    have e24 := e2.trans e4
    have h4 : H4 L = some (GD Wo.w L acc) := e24.keep L _ nd gd_noT hacc
    cases b with
    | false => exact ⟨rfl, hlt, F4, acc, ksD, accD, evo.trans e24, e24.out fL hacc, h4, ke, RpA.mono e24.fs ksD kr, RpA.mono e24.fs accD racc, z4⟩
    | true =>
      refine ⟨dr, sa, F4, e3, g3.2.1.evo e4, ym _ _ _ _ _ (fun y z5 yv F5 H5 e5 r5 => ?_) xF_xw z4⟩
      refine ⟨dr, sa, F5, e3, (g3.2.1.evo e4).evo e5, wm _ _ _ _ _ (fun v z6 vv F6 H6 e6 r6 => ?_) xF_xw z5⟩
      obtain ⟨key, ek, hl, z7⟩ := z6
      have e26 := (e24.trans e5).trans e6
      have h6 : H6 L = some (GD Wo.w L acc) := e26.keep L _ nd gd_noT hacc
      have f6 := e26.out fL hacc
      have r5' := Rp.mono e6.fs _ r5
      obtain ⟨kb, eb, nk, dk⟩ := nkT_of e26.toBs.sub r5' ek
      subst eb
      have kr6 := RpA.mono e26.fs ksD kr
      obtain ⟨b1, b2, b3⟩ := put_rpT ek r5' r6 ke kr6 (RpA.mono e26.fs accD racc)
      have hl2 : acc.length = ksD.length := by
        have := congrArg List.length ke
        simpa using this.symm
      refine ⟨acc, kb, key, rfl, h6, keysG_of e26.toBs.sub ke kr6, nk, dk, ?_, rfl, hlt, F6, _, _, _, (evo.trans e26).chg hL f6 nd h6 gd_noT (fun q => gd_noC), f6, upd_same, b1, b2, b3, z7⟩
      rw [hl2]
      exact Nat.lt_of_lt_of_le hl (most_le (Nat.le_refl _))
  · have ei : i = ds.length := by omega
    subst ei
    rw [List.drop_length] at z
    exact .inl ⟨its, go _ L F' H' z (e1.trans evo) (e1.none0 nd hL) fL nd rfl ⟨acc, hacc, ke, kr, racc⟩⟩
/-- {k: v for ..}, tuples as keys -/
theorem uf_dcG (hw0 : X.w = Wo.w) (hu0 : X.A.units + 64 < cLine) (hc : X.calm = true) (hN : X.N.Nodup) (hi : UI X E tg iter wi) (ok : BlkOk X.N X.env.scope scope own) (hv : ∀ i, i ∈ is → i ∈ own.map (·.2))
    (hg : ∀ s H C cl fp, UTg (blkX X scope s H C cl fp) tg is g) (ht : ∀ s H C cl fp, UPs (blkX X scope s H C cl fp) ifs t) (hk : ∀ s H C cl fp, UE (blkX X scope s H C cl fp) EF kx wy) (he : ∀ s H C cl fp, UE (blkX X scope s H C cl fp) EF vx w) (hs : ∀ x, foldedSetIterable iter X.env x = pure x := by intro _; rfl) :
    UF X E (.DictComp kx vx [⟨tg, iter, ifs, 0⟩] scope pos) (wDcT wi (own.map (·.2)) g t wy w) := by
  refine ⟨PE.wk (pe_dcG (own := own) (g := tBlk X.K (own.map (·.2)) g) (tt := tGT EF X.K t) (tk := tG RF EF X.K wy) (tv := tG RF EF X.K w) (by omega) hc hN hi.pi ok (fun s H C cl fp => pg_blk (hg s H C cl fp) hv) (fun s H C cl fp => (ht s H C cl fp).pt) (fun s H C cl fp => (hk s H C cl fp).pe) (fun s H C cl fp => (he s H C cl fp).pe) hs) fun σ H Q ⟨dr, sa, F, env, S, q⟩ => ?_, fun env Q Q' x x' k kx q => ?_⟩
  · refine ⟨dr, sa, F, env, S, hi.mono env _ _ _ _ (fun ds q1 J F1 H1 e1 it => ?_) (fun _ _ _ z => z) q⟩
    exact dcT_in hw0 S e1 it (hg X.s_0 X.H_0 0 [] []).mono (ht X.s_0 X.H_0 0 [] []).mono (hk X.s_0 X.H_0 0 [] []).mono (he X.s_0 X.H_0 0 [] []).mono (fun d p F' H' z ev a1 a2 a3 an a4 => z p F' H' ev a1 a2 a3 an a4) q1
  · exact hi.mono env _ _ _ _ (fun ds q1 => wDcLT_mono (hg X.s_0 X.H_0 0 [] []).mono (ht X.s_0 X.H_0 0 [] []).mono (hk X.s_0 X.H_0 0 [] []).mono (he X.s_0 X.H_0 0 [] []).mono k ds [] [] q1) kx q
/-- name = {k: v for ..} -/
theorem us_setDc {i : Nat} {y : Str} (hc : X.calm = true) (hN : X.N.Nodup) (hy : X.N[i]? = some y) (hyl : X.env.scope.names.lookup y = some .local) (hsw : swapsWith (.DictComp kx vx [⟨tg, iter, ifs, 0⟩] scope pos) (some (.Name y py)) spos.line X.env = pure true)
    (hi : UI X E tg iter wi) (ok : BlkOk X.N X.env.scope scope own) (hv : ∀ i, i ∈ is → i ∈ own.map (·.2))
    (hg : ∀ s H C cl fp, UTg (blkX X scope s H C cl fp) tg is g) (ht : ∀ s H C cl fp, UPs (blkX X scope s H C cl fp) ifs t) (hk : ∀ s H C cl fp, UE (blkX X scope s H C cl fp) EF kx wy) (he : ∀ s H C cl fp, UE (blkX X scope s H C cl fp) EF vx w) (hs : ∀ x, foldedSetIterable iter X.env x = pure x := by intro _; rfl) :
    US X E (.Assign [.Name y py] (.DictComp kx vx [⟨tg, iter, ifs, 0⟩] scope pos) spos) (wSetO i (wDc wi (own.map (·.2)) g t wy w)) := by
  refine ⟨PS.wk (ps_setDc (i := i) (own := own) (g := tBlk X.K (own.map (·.2)) g) (tt := tGT EF X.K t) (tk := tG RF EF X.K wy) (tv := tG RF EF X.K w) hc hN hy hyl hsw hi.pi ok (fun s H C cl fp => pg_blk (hg s H C cl fp) hv) (fun s H C cl fp => (ht s H C cl fp).pt) (fun s H C cl fp => (hk s H C cl fp).pe) (fun s H C cl fp => (he s H C cl fp).pe) hs) fun Dn σ H ⟨me, dr, sa, F0, H0, F, env, S, q⟩ => ?_, fun D D' env l q => ?_⟩
  · refine ⟨dr, sa, F, env, S.toSr, hi.mono env _ _ _ _ (fun ds q1 J F1 H1 e1 it => ?_) (fun _ _ _ z => z.evo S.evo) q⟩
    exact dc_in (Q := fun x H1 => gName i x σ H1 Dn.nx) S.toSr e1 it (hg X.s_0 X.H_0 0 [] []).mono (ht X.s_0 X.H_0 0 [] []).mono (hk X.s_0 X.H_0 0 [] []).mono (he X.s_0 X.H_0 0 [] []).mono (fun d p F' H' z ev a1 a2 a3 an a4 => z F' _ H' (S.setO ev i a1 a2 a3 an a4) ev.fs) q1
  · exact hi.mono env _ _ _ _ (fun ds q1 => wDcL_mono (hg X.s_0 X.H_0 0 [] []).mono (ht X.s_0 X.H_0 0 [] []).mono (hk X.s_0 X.H_0 0 [] []).mono (he X.s_0 X.H_0 0 [] []).mono (fun d z => l.nx _ z) ds [] [] q1) l.xe q
theorem us_setDcG {i : Nat} {y : Str} (hw0 : X.w = Wo.w) (hu0 : X.A.units + 64 < cLine) (hc : X.calm = true) (hN : X.N.Nodup) (hy : X.N[i]? = some y) (hyl : X.env.scope.names.lookup y = some .local) (hsw : swapsWith (.DictComp kx vx [⟨tg, iter, ifs, 0⟩] scope pos) (some (.Name y py)) spos.line X.env = pure true)
    (hi : UI X E tg iter wi) (ok : BlkOk X.N X.env.scope scope own) (hv : ∀ i, i ∈ is → i ∈ own.map (·.2))
    (hg : ∀ s H C cl fp, UTg (blkX X scope s H C cl fp) tg is g) (ht : ∀ s H C cl fp, UPs (blkX X scope s H C cl fp) ifs t) (hk : ∀ s H C cl fp, UE (blkX X scope s H C cl fp) EF kx wy) (he : ∀ s H C cl fp, UE (blkX X scope s H C cl fp) EF vx w) (hs : ∀ x, foldedSetIterable iter X.env x = pure x := by intro _; rfl) :
    US X E (.Assign [.Name y py] (.DictComp kx vx [⟨tg, iter, ifs, 0⟩] scope pos) spos) (wSetO i (wDcT wi (own.map (·.2)) g t wy w)) := by
  refine ⟨PS.wk (ps_setDcG (i := i) (own := own) (g := tBlk X.K (own.map (·.2)) g) (tt := tGT EF X.K t) (tk := tG RF EF X.K wy) (tv := tG RF EF X.K w) (by omega) hc hN hy hyl hsw hi.pi ok (fun s H C cl fp => pg_blk (hg s H C cl fp) hv) (fun s H C cl fp => (ht s H C cl fp).pt) (fun s H C cl fp => (hk s H C cl fp).pe) (fun s H C cl fp => (he s H C cl fp).pe) hs) fun Dn σ H ⟨me, dr, sa, F0, H0, F, env, S, q⟩ => ?_, fun D D' env l q => ?_⟩
  · refine ⟨dr, sa, F, env, S.toSr, hi.mono env _ _ _ _ (fun ds q1 J F1 H1 e1 it => ?_) (fun _ _ _ z => z.evo S.evo) q⟩
    exact dcT_in (Q := fun x H1 => gName i x σ H1 Dn.nx) hw0 S.toSr e1 it (hg X.s_0 X.H_0 0 [] []).mono (ht X.s_0 X.H_0 0 [] []).mono (hk X.s_0 X.H_0 0 [] []).mono (he X.s_0 X.H_0 0 [] []).mono (fun d p F' H' z ev a1 a2 a3 an a4 => z F' _ H' (S.setO ev i a1 a2 a3 an a4) ev.fs) q1
  · exact hi.mono env _ _ _ _ (fun ds q1 => wDcLT_mono (hg X.s_0 X.H_0 0 [] []).mono (ht X.s_0 X.H_0 0 [] []).mono (hk X.s_0 X.H_0 0 [] []).mono (he X.s_0 X.H_0 0 [] []).mono (fun d z => l.nx _ z) ds [] [] q1) l.xe q
end
/-! ### as functions -/
def dcTF (is : List Nat) (g : FG) (t : FT) (fk f : FE) (env : En) : List D → List D → List D → Tr D
  | [], ks, vs => .ret (.dcT ks vs)
  | d :: ds, ks, vs => (Tr.of (g d (wipeX env is))).bind fun e => (t e).bind fun k => if k = true then (fk e).bind fun y => (f e).bind fun v => (Tr.of (nkT y)).bind fun z => dcTF is g t fk f env ds (putKT ks y z) (putVT ks vs z v) else dcTF is g t fk f env ds ks vs
def fDcT (fi : FA) (is : List Nat) (g : FG) (t : FT) (fk f : FE) : FE := fun env => (fi env).bind fun ds => if ds.length ≤ most then (dcTF is g t fk f env ds [] []).ne else .bad
section
variable {g : FG} {f : FE}
theorem putKT_le (ks : List D) (d : D) (k : NestedKey) : (putKT ks d k).length ≤ ks.length + 1 := by
  unfold putKT
  split
  · omega
  · rw [List.length_append, List.length_singleton]
    omega
theorem dcTF_w {is : List Nat} {t : FT} {fk : FE} {env : En} {Q : D → Prop} : ∀ (ds : List D) (ks vs : List D), ks.length + ds.length ≤ most → (dcTF is g t fk f env ds ks vs).sat Q xF → wDcLT is (wG g) (wFT t) (wF fk) (wF f) env Q ds ks vs
  | [], ks, vs, _, q => q
  | d :: ds, ks, vs, hl, q => by
    rw [List.length_cons] at hl
    unfold dcTF at q
    rw [sat_bind] at q
    obtain ⟨e, he, q⟩ := sat_of.mp q
    refine ⟨e, he, ?_⟩
    rw [sat_bind] at q
    refine sat_mono (fun k q => ?_) (fun _ _ _ q => q) _ q
    cases k with
    | false => exact dcTF_w ds ks vs (by omega) q
    | true =>
      have q : ((fk e).bind fun y => (f e).bind fun v => (Tr.of (nkT y)).bind fun z => dcTF is g t fk f env ds (putKT ks y z) (putVT ks vs z v)).sat Q xF := q
      rw [sat_bind] at q
      refine sat_mono (fun y q => ?_) (fun _ _ _ q => q) _ q
      rw [sat_bind] at q
      refine sat_mono (fun v q => ?_) (fun _ _ _ q => q) _ q
      rw [sat_bind] at q
      obtain ⟨z, hz, q⟩ := sat_of.mp q
      have := putKT_le ks y z
      exact ⟨z, hz, by omega, dcTF_w ds _ _ (by omega) q⟩
theorem fDcT_w {is : List Nat} {fi : FA} {t : FT} {fk : FE} {env : En} {Q : D → Prop} {z : XP} (q : (fDcT fi is g t fk f env).sat Q z) : wDcT (wFA fi) is (wG g) (wFT t) (wF fk) (wF f) env Q z := by
  unfold fDcT at q
  rw [sat_bind] at q
  refine sat_mono (fun ds q => ?_) (fun _ _ _ q => q) _ q
  split at q
  · next h => exact dcTF_w ds [] [] (by simpa using h) (sat_ne _ q)
  · exact q.elim
theorem fDc_w {is : List Nat} {fi : FA} {t : FT} {fk : FE} {env : En} {Q : D → Prop} {z : XP} (q : (fDc fi is g t fk f env).sat Q z) : wDc (wFA fi) is (wG g) (wFT t) (wF fk) (wF f) env Q z := by
  unfold fDc at q
  rw [sat_bind] at q
  refine sat_mono (fun ds q => ?_) (fun _ _ _ q => q) _ q
  split at q
  · next h => exact dcF_w ds [] [] (by simpa using h) (sat_ne _ q)
  · exact q.elim
end
section
variable {X : Cx} {E : XK} {kx vx tg iter : Expr} {ifs : List Expr} {scope : Scope} {own : List (Str × Nat)} {pos spos py : Pos} {fi : FA} {g : FG} {t : FT} {f fk : FE} {is : List Nat}
theorem vf_dcT (hw0 : X.w = Wo.w) (hu0 : X.A.units + 64 < cLine) (hc : X.calm = true) (hN : X.N.Nodup) (hi : VI X E tg iter fi) (ok : BlkOk X.N X.env.scope scope own) (hv : ∀ i, i ∈ is → i ∈ own.map (·.2))
    (hg : ∀ s H C cl fp, VTg (blkX X scope s H C cl fp) tg is g) (ht : ∀ s H C cl fp, VPs (blkX X scope s H C cl fp) ifs t) (hk : ∀ s H C cl fp, VE (blkX X scope s H C cl fp) EF kx fk) (he : ∀ s H C cl fp, VE (blkX X scope s H C cl fp) EF vx f) (hs : ∀ x, foldedSetIterable iter X.env x = pure x := by intro _; rfl) :
    VF X E (.DictComp kx vx [⟨tg, iter, ifs, 0⟩] scope pos) (fDcT fi (own.map (·.2)) g t fk f) := UF.v (uf_dcG hw0 hu0 hc hN hi ok hv hg ht hk he hs) fun env Q z q => fDcT_w q
theorem vs_setDc {i : Nat} {y : Str} (hc : X.calm = true) (hN : X.N.Nodup) (hy : X.N[i]? = some y) (hyl : X.env.scope.names.lookup y = some .local) (hsw : swapsWith (.DictComp kx vx [⟨tg, iter, ifs, 0⟩] scope pos) (some (.Name y py)) spos.line X.env = pure true)
    (hi : VI X E tg iter fi) (ok : BlkOk X.N X.env.scope scope own) (hv : ∀ i, i ∈ is → i ∈ own.map (·.2))
    (hg : ∀ s H C cl fp, VTg (blkX X scope s H C cl fp) tg is g) (ht : ∀ s H C cl fp, VPs (blkX X scope s H C cl fp) ifs t) (hk : ∀ s H C cl fp, VE (blkX X scope s H C cl fp) EF kx fk) (he : ∀ s H C cl fp, VE (blkX X scope s H C cl fp) EF vx f) (hs : ∀ x, foldedSetIterable iter X.env x = pure x := by intro _; rfl) :
    VS X E (.Assign [.Name y py] (.DictComp kx vx [⟨tg, iter, ifs, 0⟩] scope pos) spos) (fsSetO i (fDc fi (own.map (·.2)) g t fk f)) := US.v (us_setDc hc hN hy hyl hsw hi ok hv hg ht hk he hs) fun W env q => by
  unfold fsSetO at q
  rw [sat_bind] at q
  exact fDc_w q
theorem vs_setDcT {i : Nat} {y : Str} (hw0 : X.w = Wo.w) (hu0 : X.A.units + 64 < cLine) (hc : X.calm = true) (hN : X.N.Nodup) (hy : X.N[i]? = some y) (hyl : X.env.scope.names.lookup y = some .local) (hsw : swapsWith (.DictComp kx vx [⟨tg, iter, ifs, 0⟩] scope pos) (some (.Name y py)) spos.line X.env = pure true)
    (hi : VI X E tg iter fi) (ok : BlkOk X.N X.env.scope scope own) (hv : ∀ i, i ∈ is → i ∈ own.map (·.2))
    (hg : ∀ s H C cl fp, VTg (blkX X scope s H C cl fp) tg is g) (ht : ∀ s H C cl fp, VPs (blkX X scope s H C cl fp) ifs t) (hk : ∀ s H C cl fp, VE (blkX X scope s H C cl fp) EF kx fk) (he : ∀ s H C cl fp, VE (blkX X scope s H C cl fp) EF vx f) (hs : ∀ x, foldedSetIterable iter X.env x = pure x := by intro _; rfl) :
    VS X E (.Assign [.Name y py] (.DictComp kx vx [⟨tg, iter, ifs, 0⟩] scope pos) spos) (fsSetO i (fDcT fi (own.map (·.2)) g t fk f)) := US.v (us_setDcG hw0 hu0 hc hN hy hyl hsw hi ok hv hg ht hk he hs) fun W env q => by
  unfold fsSetO at q
  rw [sat_bind] at q
  exact fDcT_w q
/-- what no run comes to -/
def fsDead : FS := fun _ => .bad
theorem vs_dead {st : Stmt} : VS X E st fsDead := ⟨⟨fun pins s σ H D I ⟨me, dr, sa, F0, H0, F, env, S, q⟩ => (show False from q).elim⟩, fun D D' env l q => (show False from q).elim⟩
end
end U
/-! X12: tests in a tuple of the text; tables of own methods. -/
namespace U
open PySem PySem.Spec PyProof.Rows L2 Tr
variable [Wo]
section
variable {X : Cx} {E : XK} {e : Expr} {f : FE} {x : Str} {zs : List Str} {pos p : Pos}
theorem fInG_test {g : Bool → Bool} {neg : Bool} (hneg : ∀ b : Bool, (if neg = true then !b else b) = g b) (ht : tupB X.K x zs = true) (h : VE X E e f) {σ : L2.St} {H : Hp} {Q : Bool → Hp → Prop} (q : tGT E X.K (wFT (fT (fInG g zs f))) σ H Q) : tTest (tOp (rIn X.K neg) (tG RF E X.K (wF f)) (tC (.ref (He.ga X.K x)))) σ H Q := by
  refine fInG_in (neg := neg) (g := g) hneg ht h ?_
  obtain ⟨dr, sa, F, env, S, q⟩ := q
  refine ⟨dr, sa, F, env, S, ?_⟩
  unfold wFT fT at q
  rw [sat_bind] at q
  refine sat_mono (fun d q1 v F1 H1 e1 r1 => ?_) (fun _ _ _ z => z) _ q
  obtain ⟨k, ek, r⟩ := isBl_w q1
  subst ek
  exact ⟨k, rp_bl r1, r F1 H1 e1⟩
theorem vt_inG (hg : Gl X x) (hm : X.mg x = some (.ref (He.ga X.K x))) (ht : tupB X.K x zs = true) (h : VE X E e f) (hm2 : behindInMarks .In (.Name x p) = false) (hd : (x == ("__debug__" : Str)) = false := by decide) : VT X E (.Compare e [.In] [.Name x p] pos) (fT (fInG id zs f)) :=
  ⟨PT.wk (pt_cmpR op_in_seq h.pe (pe_glob (v := .ref (He.ga X.K x)) hg hm rfl hd) hm2) fun σ H Q q => fInG_test (neg := false) (fun b => rfl) ht h q, fun env Q Q' x x' k kx q => sat_mono k kx _ q⟩
theorem vt_notInG (hg : Gl X x) (hm : X.mg x = some (.ref (He.ga X.K x))) (ht : tupB X.K x zs = true) (h : VE X E e f) (hm2 : behindInMarks .NotIn (.Name x p) = false) (hd : (x == ("__debug__" : Str)) = false := by decide) : VT X E (.Compare e [.NotIn] [.Name x p] pos) (fT (fInG not zs f)) :=
  ⟨PT.wk (pt_cmpR op_notIn_seq h.pe (pe_glob (v := .ref (He.ga X.K x)) hg hm rfl hd) hm2) fun σ H Q q => fInG_test (neg := true) (fun b => rfl) ht h q, fun env Q Q' x x' k kx q => sat_mono k kx _ q⟩
end
section
variable {V : Wd} {j k n : Nat} {m c : Str} {g : FR} {T : Tab}
theorem tabOk_nil : TabOk V j m n [] := fun c g h => nomatch h
theorem tabOk_cons (h : Mt V k c m n (fwOf g)) (hk : k + 1 ≤ j) (t : TabOk V j m n T) : TabOk V j m n ((c, g) :: T) := fun c' g' e => by
  rw [List.lookup_cons] at e
  by_cases q : c' = c
  · subst q
    rw [beq_self_eq_true] at e
    cases e
    exact ⟨k, hk, h⟩
  · have q' : (c' == c) = false := by
      cases z : c' == c with
      | false => rfl
      | true => exact absurd (eq_of_beq z) q
    rw [q'] at e
    exact t c' g' e
theorem lookup_mem {c : Str} {g : FR} : ∀ {T : Tab}, T.lookup c = some g → c ∈ T.map (·.1)
  | [], h => nomatch h
  | (d, h') :: T, h => by
    rw [List.lookup_cons] at h
    cases z : c == d with
    | true =>
      rw [eq_of_beq z]
      exact List.mem_cons_self ..
    | false =>
      rw [z] at h
      exact List.mem_cons_of_mem _ (lookup_mem h)
theorem neT {P : Str → Prop} {cs : List Str} {T : Tab} (h : ∀ c ∈ cs, P c) (hc : (T.map (·.1)).all (fun c => cs.contains c) = true) : ∀ c g, T.lookup c = some g → P c := fun c g e => h c (by
  have := List.all_eq_true.mp hc c (lookup_mem e)
  simpa using this)
end
/-- the law's start: the script, the draws -/
def startL (n : Nat) (ns : List Int) : En := ((List.replicate n Vl.un).set 0 (.fz (.scr ns))).set 1 (.fz .drw)
end U
/-! X13: the numbers that a script gives. -/
namespace U
open PySem PySem.Spec PyProof.Rows L2 Tr
/-- a script of at most 63 numbers, a place: some number -/
def fwNum : FW := fun ds Q _ => ∃ ns n, ds = [.scr ns, .int n] ∧ ns.length ≤ 63 ∧ ∀ i : Int, Q (.int i)
theorem fwNum_mono : FMono fwNum := fun ds Q Q' x x' k _ ⟨ns, n, e, h, q⟩ => ⟨ns, n, e, h, fun i => k _ (q i)⟩
def frTake : FR := fun ds => match ds with
  | [.drw, .int n] => if 0 < n then .any n.toNat fun i => .ret (.int i) else .bad
  | _ => .bad
def wNumL : WS := wSet 4 (wOp oDiv (wVar 4) (wC (.int 1009)))
def wNum3 : WS := (wSeq (wSet 6 (wOp oMod (wOp oAdd (wOp oMul (wB1 oInt1 (wOp oAdd (wVar 2) (wOp oMul (wC (.int 977)) (wVar 1)))) (wC (.int 48271))) (wOp oMul (wC (.int 31)) (wB1 oLen (wVar 0)))) (wC (.int 2147483647))))
  (wSeq (wSet 6 (wOp oMod (wOp oAdd (wOp oMul (wVar 6) (wVar 6)) (wOp oMul (wC (.int 40503)) (wVar 1))) (wC (.int 2147483629))))
  (wRet (wB1 oInt1 (wOp oMod (wOp oAdd (wOp oMul (wVar 6) (wC (.int 69621))) (wOp oDiv (wVar 6) (wC (.int 977)))) (wC (.int 2147483587)))))))
def wNum2 : WS := (wSeq (wFor (wiR1 (wOp oMod (wB1 oInt1 (wVar 3)) (wC (.int 60)))) (gN 5) wNumL)
  (wSeq (wIfS (wT (wOp oGt (wVar 4) (wC (.int 0)))) (wRet (wOp oMod (wB1 oInt1 (wVar 4)) (wC (.int 1009)))) wNext) wNum3))
def wNum1 : WS := (wSeq (wSet 4 (wIf (wT (wOp oLt (wVar 3) (wC (.int 60)))) (wOp oSub (wVar 2) (wOp oPow (wC (.int 10)) (wC (.int 18)))) (wC (.int 0)))) wNum2)
def wNum : WS := (wSeq (wUnp (gTp 2 (gsCons (gN 2) (gsCons (gN 3) gsNil))) (wIf (wT (wOp oNe (wVar 0) (wLst waNil))) (wTup (waCons (wOp oIx (wVar 0) (wOp oMod (wVar 1) (wB1 oLen (wVar 0)))) (waCons (wOp oDiv (wVar 1) (wB1 oLen (wVar 0))) waNil))) (wTup (waCons (wC (.int 12345)) (waCons (wC (.int 0)) waNil))))) wNum1)
def wTake : WS := (wSeq (wDrawS 0)
  (wRet (wOp oMod (wB1 oInt1 (wCall 2 fwNum (waCons (wDraw0 0) (waCons (wB1 oInt1 (wDraw1 0)) waNil)))) (wVar 1))))
section
variable {ns : List Int} {n c t : Int}
abbrev envN (ns : List Int) (n c t r : Int) (v5 v6 : Vl) : En := [.fz (.scr ns), .fz (.int n), .fz (.int c), .fz (.int t), .fz (.int r), v5, v6]
theorem v_at {i : Nat} {d : D} {env : En} {Q : D → Prop} {z : XP} (h : env[i]? = some (.fz d)) (q : Q d) : wVar i env Q z := ⟨d, h, q⟩
/-- an int, of which p tells -/
def IntE (w : WE) (env : En) (p : Int → Prop) : Prop := ∀ (Q : D → Prop) (z : XP), (∀ i, p i → Q (.int i)) → w env Q z
theorem ie_var {i : Nat} {env : En} {k : Int} (h : env[i]? = some (.fz (.int k))) : IntE (wVar i) env (fun j => j = k) := fun Q z q => ⟨_, h, q k rfl⟩
theorem ie_c {env : En} {k : Int} : IntE (wC (.int k)) env (fun j => j = k) := fun Q z q => q k rfl
theorem ie_int {w : WE} {env : En} {p : Int → Prop} (h : IntE w env p) : IntE (wB1 oInt1 w) env p := fun Q z q => h _ _ fun i hi => ⟨i, rfl, q i hi⟩
theorem ie_op {C : Int → Int → Prop} {g : Int → Int → Int} {w1 w2 : WE} {env : En} {p1 p2 : Int → Prop} (h1 : IntE w1 env p1) (h2 : IntE w2 env p2) (hc : ∀ i j, p1 i → p2 j → C i j) : IntE (wOp (oInt C fun i j => .int (g i j)) w1 w2) env (fun k => ∃ i j, p1 i ∧ p2 j ∧ k = g i j) :=
  fun Q z q => h1 _ _ fun i hi => h2 _ _ fun j hj => ⟨i, j, rfl, rfl, hc i j hi hj, q _ ⟨i, j, hi, hj, rfl⟩⟩
theorem ie_add {w1 w2 : WE} {env : En} {p1 p2 : Int → Prop} (h1 : IntE w1 env p1) (h2 : IntE w2 env p2) : IntE (wOp oAdd w1 w2) env (fun k => ∃ i j, p1 i ∧ p2 j ∧ k = i + j) :=
  fun Q z q => h1 _ _ fun i hi => h2 _ _ fun j hj => q _ ⟨i, j, hi, hj, rfl⟩
theorem ie_wk {w : WE} {env : En} {p p' : Int → Prop} (h : IntE w env p) (k : ∀ i, p i → p' i) : IntE w env p' := fun Q z q => h Q z fun i hi => q i (k i hi)
theorem ie_len {env : En} {i : Nat} (h : env[i]? = some (.fz (.scr ns))) : IntE (wB1 oLen (wVar i)) env (fun j => j = ns.length) := fun Q z q => ⟨_, h, q _ rfl⟩
theorem mod_lt {i : Int} {m : Int} (h : 0 < m) : 0 ≤ i % m ∧ i % m < m := ⟨Int.emod_nonneg _ (by omega), Int.emod_lt_of_pos _ h⟩
theorem if_either {w : WE} {env : En} {s s2 : WS} {D : WEn} (hw : ∀ (Q : U.D → Prop) (z : XP), (∀ b, Q (.bl b)) → w env Q z) (h1 : s D env) (h2 : s2 D env) : wIfS (wT w) s s2 D env := hw _ _ fun b => ⟨b, rfl, by
  cases b
  · exact h2
  · exact h1⟩
theorem be_cmp {g : Int → Int → Bool} {w1 w2 : WE} {env : En} {p1 p2 : Int → Prop} (h1 : IntE w1 env p1) (h2 : IntE w2 env p2) (Q : U.D → Prop) (z : XP) (q : ∀ b, Q (.bl b)) : wOp (oInt (fun _ _ => True) fun i j => .bl (g i j)) w1 w2 env Q z :=
  h1 _ _ fun i _ => h2 _ _ fun j _ => ⟨i, j, rfl, rfl, trivial, q _⟩
theorem num3 {Q : D → Prop} {z : XP} (q : ∀ i : Int, Q (.int i)) (r : Int) (v5 v6 : Vl) : wNum3 (endU Q z) (envN ns n c t r v5 v6) := by
  unfold wNum3
  refine ie_wk (p' := fun i => 0 ≤ i ∧ i < 2147483647) (ie_op (ie_add (ie_op (ie_int (ie_add (ie_var rfl) (ie_op ie_c (ie_var rfl) fun i j e1 e2 => .inl (by subst e1; exact ⟨by decide, by decide⟩)))) ie_c fun i j e1 e2 => .inr (by subst e2; exact ⟨by decide, by decide⟩)) (ie_op ie_c (ie_len rfl) fun i j e1 e2 => .inl (by subst e1; exact ⟨by decide, by decide⟩))) ie_c fun i j e1 e2 => (by subst e2; decide)) (fun i ⟨a, b, _, hb, e⟩ => by
    subst hb e
    exact mod_lt (by decide)) _ _ fun b hb => ?_
  have hb : 0 ≤ b ∧ b < 2147483647 := hb
  refine ie_wk (p' := fun i => 0 ≤ i ∧ i < 2147483629) (ie_op (ie_add (ie_op (ie_var rfl) (ie_var rfl) fun i j e1 e2 => .inl (by subst e1; exact ⟨by omega, by omega⟩)) (ie_op ie_c (ie_var rfl) fun i j e1 e2 => .inl (by subst e1; exact ⟨by decide, by decide⟩))) ie_c fun i j e1 e2 => (by subst e2; decide)) (fun i ⟨a, b, _, hb, e⟩ => by
    subst hb e
    exact mod_lt (by decide)) _ _ fun b hb => ?_
  have hb : 0 ≤ b ∧ b < 2147483629 := hb
  exact ie_int (ie_op (ie_add (ie_op (ie_var rfl) ie_c fun i j e1 e2 => .inr (by subst e2; exact ⟨by decide, by decide⟩)) (ie_op (ie_var rfl) ie_c fun i j e1 e2 => (by subst e2; exact ⟨by decide, by decide⟩))) ie_c fun i j e1 e2 => (by subst e2; decide)) _ _ fun i _ => q i
theorem num_loop {D : WEn} (h : ∀ r v5 v6, D.nx (envN ns n c t r v5 v6)) : ∀ (ds : List U.D) (r : Int) (v5 v6 : Vl), wForL (gN 5) wNumL D ds (envN ns n c t r v5 v6)
  | [], r, v5, v6 => h r v5 v6
  | d :: ds, r, v5, v6 => by
    show wNumL _ _
    unfold wNumL
    exact ie_op (ie_var rfl) ie_c (fun i j e1 e2 => by subst e2; exact ⟨by decide, by decide⟩) _ _ fun i _ => num_loop h ds i (.fz d) v6
theorem num2 {Q : D → Prop} {z : XP} (q : ∀ i : Int, Q (.int i)) (r : Int) (v5 v6 : Vl) : wNum2 (endU Q z) (envN ns n c t r v5 v6) := by
  unfold wNum2
  refine ie_op (ie_int (ie_var rfl)) ie_c (fun i j e1 e2 => by subst e2; decide) _ _ fun i ⟨a, b, _, hb, e⟩ => ⟨i, rfl, ?_, ?_⟩
  · subst hb
    have := mod_lt (i := a) (m := 60) (by decide)
    subst e
    exact ⟨by omega, by omega⟩
  · refine num_loop (fun r v5 v6 => ?_) _ _ _ _
    exact if_either (be_cmp (ie_var rfl) ie_c) (ie_op (ie_int (ie_var rfl)) ie_c (fun i j e1 e2 => by subst e2; decide) _ _ fun i _ => q i) (num3 q r v5 v6)
theorem num1 {Q : D → Prop} {z : XP} (q : ∀ i : Int, Q (.int i)) (v4 v5 v6 : Vl) : wNum1 (endU Q z) [.fz (.scr ns), .fz (.int n), .fz (.int c), .fz (.int t), v4, v5, v6] := by
  unfold wNum1
  refine be_cmp (ie_var rfl) ie_c _ _ fun b => ⟨b, rfl, ?_⟩
  cases b
  · exact num2 q 0 v5 v6
  · exact ie_op (ie_var rfl) (ie_op ie_c ie_c (fun i j e1 e2 => by subst e1 e2; exact ⟨by decide, by decide, by decide⟩)) (fun _ _ _ _ => trivial) _ _ fun i _ => num2 q i v5 v6
theorem ints_lay : ∀ ns : List Int, PyData.canLayAll0 (ns.map PyData.int) = true
  | [] => by simp [PyData.canLayAll0]
  | n :: ns => by simp [PyData.canLayAll0, PyData.canLay0, ints_lay ns]
theorem ints_depth : ∀ ns : List Int, PyData.depthAll (ns.map PyData.int) = 0
  | [] => by simp [PyData.depthAll]
  | n :: ns => by simp [PyData.depthAll, PyData.depth, ints_depth ns]
theorem cmp_scr (ns : List Int) : cmp (.scr ns) = true := by
  show (PyData.canLay0 (.list (ns.map PyData.int)) && decide (PyData.depth (.list (ns.map PyData.int)) ≤ 64)) = true
  simp [PyData.canLay0, PyData.depth, ints_lay, ints_depth]
theorem scr_nil (ns : List Int) : eqD (.scr ns) (.lst []) = ns.isEmpty := by
  cases ns <;> rfl
theorem num_ok {ds : List D} {Q : D → Prop} {z : XP} (h : fwNum ds Q z) : wNum (endU Q z) (start 7 ds) := by
  obtain ⟨ns, n, rfl, hl, q⟩ := h
  refine ⟨.scr ns, rfl, by decide, cmp_scr ns, rfl, _, rfl, ?_⟩
  rw [scr_nil]
  cases ns with
  | nil => exact ⟨by decide, _, rfl, rfl, _, _, rfl, _, _, rfl, rfl, num1 q _ _ _⟩
  | cons m ms =>
    have hp : 0 < ((m :: ms).length : Int) := by
      rw [List.length_cons]
      omega
    have hm := mod_lt (i := n) hp
    obtain ⟨c, hc⟩ : ∃ c, atI (m :: ms) (n % ((m :: ms).length : Int)) = some c := by
      unfold atI ixN
      rw [if_pos hm.1, if_pos hm.2]
      exact ⟨_, List.getElem?_eq_getElem (by omega)⟩
    have hl2 : ((m :: ms).length : Int) < 2 ^ 30 := by
      have := hl
      omega
    refine ⟨.scr (m :: ms), rfl, .int n, rfl, .scr (m :: ms), rfl, ?_⟩
    refine ⟨n, _, rfl, rfl, hp, ?_⟩
    refine ⟨_, c, rfl, hc, .int n, rfl, .scr (m :: ms), rfl, ?_⟩
    exact ⟨n, _, rfl, rfl, ⟨hp, hl2⟩, (by show 2 ≤ most; decide), _, rfl, rfl, _, _, rfl, _, _, rfl, rfl, num1 q _ _ _⟩
theorem take_ok {ds : List D} {Q : D → Prop} {z : XP} (h : fwOf frTake ds Q z) : wTake (endU Q z) (start 2 ds) := by
  unfold fwOf frTake at h
  split at h
  · next n =>
    split at h
    · next hn =>
      refine ⟨rfl, rfl, fun ns hns => ⟨rfl, fun k => ⟨k, rfl, rfl, ns, k, rfl, hns, fun i => ⟨i, rfl, ?_⟩⟩⟩⟩
      refine ⟨.int n, rfl, i, n, rfl, rfl, hn, ?_⟩
      have e := mod_lt (i := i) hn
      have h2 := h (i % n).toNat (by omega)
      have h3 : Q (.int ((i % n).toNat : Int)) := h2
      rw [Int.toNat_of_nonneg e.1] at h3
      exact h3
    · exact h.elim
  · exact h.elim
end
end U
/-! X14: the head's facts, with a test of one's own and no lists; the law's def. -/
namespace U
open PySem PySem.Spec PyProof.Rows L2 Tr
/-! ### what is known of the module, lists aside -/
def isLO (o : Obj) : Bool := match o.cls with
  | .type c => decide (c = "list")
  | _ => false
def frN (g : Addr → Option Obj) (as : List Addr) : PySem.W.Frag := (He.frG g as).filter fun p => !isLO p.2
theorem lookup_mem' {K : PySem.W.Frag} {a : Addr} {o : Obj} : K.lookup a = some o → (a, o) ∈ K := by
  induction K with
  | nil => exact fun e => nomatch e
  | cons p r ih =>
    obtain ⟨b, u⟩ := p
    intro e
    rw [List.lookup_cons] at e
    by_cases q : a = b
    · subst q
      rw [beq_self_eq_true] at e
      cases e
      exact List.mem_cons_self ..
    · rw [show (a == b) = false from beq_eq_false_iff_ne.mpr q] at e
      exact List.mem_cons_of_mem _ (ih e)
theorem frN_mem {g : Addr → Option Obj} {as : List Addr} {a : Addr} {o : Obj} (h : (frN g as).lookup a = some o) : g a = some o ∧ isLO o = false := by
  obtain ⟨h1, h2⟩ := List.mem_filter.mp (lookup_mem' h)
  obtain ⟨b, _, e⟩ := List.mem_filterMap.mp h1
  obtain ⟨u, hu, e⟩ := Option.map_eq_some_iff.mp e
  cases e
  exact ⟨hu, by simpa using h2⟩
/-- what an object of the module leads to -/
def nxA (g : Addr → Option Obj) (a : Addr) : List Addr := match g a with
  | some ⟨_, _, .dict es _, _⟩ => es.toList.flatMap fun e => He.refV e.val
  | some ⟨_, _, .cls cd, _⟩ => [cd.ns]
  | some ⟨_, _, .func fd, _⟩ => He.refV fd.code
  | _ => []
/-- the module's names' objects, the classes' names, their functions, code -/
def asM (g : Addr → Option Obj) : List Addr :=
  let l1 := nxA g mainGlobals
  let l2 := l1.flatMap (nxA g)
  let l3 := l2.flatMap (nxA g)
  mainGlobals :: (l1 ++ (l2 ++ (l3 ++ l3.flatMap (nxA g))))
abbrev AlE : Type := He.AlD × Bool
def obsE (fa : List He.Fa) (fn : List He.DefD) (ex : PySem.W.Frag → Bool) (g : Addr → Option Obj) : AlE := (He.obsD fa fn (frN g (asM g)), ex (frN g (asM g)))
structure SaysE (fa : List He.Fa) (fn : List He.DefD) (ex : PySem.W.Frag → Bool) (K : PySem.W.Frag) : Prop where
  d : He.SaysD fa fn K
  x : ex K = true
  l : ∀ a o, K.lookup a = some o → isLO o = false
def hookE (fa : List He.Fa) (fn : List He.DefD) (ex : PySem.W.Frag → Bool) : PySem.W.Hook where
  α := AlE
  obs := fun s => obsE fa fn ex s.heap.get?
  val := fun _ => (He.valD fn, true)
  says := fun _ h => ∃ K : PySem.W.Frag, K.In h ∧ SaysE fa fn ex K
  of := fun _ s e => ⟨frN s.heap.get? (asM s.heap.get?), fun _ _ q => (frN_mem q).1, congrArg (fun z : AlE => z.1) e, congrArg (fun z : AlE => z.2) e, fun _ _ q => (frN_mem q).2⟩
  keeps := fun _ _ _ c k => c.elim fun K c => ⟨K, PySem.W.Frag.In.keeps c.1 k, c.2⟩
theorem obsE_eq {fa : List He.Fa} {fn : List He.DefD} {ex : PySem.W.Frag → Bool} {g : Addr → Option Obj} {s : Shared} (h : ∀ a, g a = s.heap.get? a) : obsE fa fn ex g = (hookE fa fn ex).obs s := by
  obtain rfl : g = s.heap.get? := funext h
  rfl
/-- a script is no object of the module -/
theorem rd_of {K : PySem.W.Frag} (hl : ∀ a o, K.lookup a = some o → isLO o = false) {H : Hp} {a : Addr} {xs : List V} (h : SqL K H a xs) : Rd H a (.lst xs) := by
  rcases h with h | ⟨o, its, n, e, ec, _⟩
  · exact h
  · have z := hl a o e
    unfold isLO at z
    rw [ec] at z
    exact absurd z (by decide)
variable [Wo]
/-! ### the law's def -/
def spLaw : Sp := fun vs H Q _ => ∃ (a : Addr) (ns : List Int), vs = [.ref a] ∧ Rd H a (.lst (ns.map V.int)) ∧ ns.length ≤ 63 ∧ ∀ H', Q (.bl true) H'
def tDraw : TS := tAsg (tLst (L2.tCons (tVar 0) (L2.tCons (tC (.int 0)) L2.tNil))) (gName 1)
section
variable {V : Wd} {k : Nat} {f : Addr} {fd : FuncData} {x qual : Str} {params : Arguments} {st : Stmt} {body : List Stmt} {scope : Scope} {N ps : List Str} {s : FS}
theorem law_start {K : PySem.W.Frag} {H : Hp} {a p : Addr} {ns : List Int} (ht : Wo.tabs = []) (hr : Rd H a (.lst (ns.map L2.V.int))) (hl : ns.length ≤ 63) (hp : H p = none) {n : Nat} (hn : 2 ≤ n) :
    ∃ F, Ss K none p a F (upd H p (.lst [.ref a, .int 0])) F ((List.replicate n none |>.set 0 (some (.ref a))).set 1 (some (.ref p))) (upd H p (.lst [.ref a, .int 0])) (startL n ns) := by
  obtain ⟨o, ho, hs⟩ : ∃ o, H a = some o ∧ ScrO ns o := by
    rcases hr with h | ⟨ob, h⟩
    · exact ⟨_, h, .inl rfl, hl⟩
    · exact ⟨_, h, .inr ⟨ob, rfl⟩, hl⟩
  have ne : a ≠ p := fun e => by
    rw [e, hp] at ho
    cases ho
  have B : Bs p a (fun b => if b = a then some o else none) (upd H p (.lst [.ref a, .int 0])) := by
    refine ⟨fun b u h => ?_, ?_, fun b u h => ?_, ⟨0, upd_same⟩, ⟨ns, o, if_pos rfl, hs⟩, ?_⟩
    · by_cases q : b = a
      · subst q
        rw [if_pos rfl] at h
        cases h
        rw [upd_ne ne]
        exact ho
      · rw [if_neg q] at h
        cases h
    · exact if_neg (Ne.symm ne)
    · by_cases q : b = a
      · rw [if_pos q] at h
        cases h
        rcases hs.1 with e | ⟨ob, e⟩ <;> subst e <;> exact fun _ z => nomatch z
      · rw [if_neg q] at h
        cases h
    · rw [ht]
      exact fun _ z => nomatch z
  refine ⟨_, fun _ => [], ⟨⟨B, fun i y h => ?_, fun _ _ => rfl, (fun _ _ _ h => nomatch h), ?_⟩, Evo.refl B, (fun _ _ h => nomatch h), fun _ _ e => nomatch e⟩⟩
  · unfold startL at h
    rcases set_get h with ⟨rfl, rfl, _⟩ | ⟨n1, h⟩
    · rw [List.getElem?_set_self (by rw [List.length_set, List.length_replicate]; omega)]
      exact ⟨rfl, _, rfl, .drw⟩
    · rw [List.getElem?_set_ne (Ne.symm n1)]
      rcases set_get h with ⟨rfl, rfl, _⟩ | ⟨n0, h⟩
      · rw [List.getElem?_set_self (by rw [List.length_replicate]; omega)]
        exact ⟨rfl, _, rfl, .scr (if_pos rfl) hs⟩
      · have m := List.mem_of_getElem? h
        rw [List.mem_replicate] at m
        rw [m.2]
        rfl
  · simp [startL]
theorem law_fn (hV : V.w = Wo.w) (ht : Wo.tabs = []) (F : FunD V.K x qual params (st :: body) scope [] [] f fd) (S : FnScope N ["script"] scope) (hb : ∀ cdv A outer s0 H E, Ctx k (bodyX V N qual scope f cdv A outer s0 H E) E → VB (bodyX V N qual scope f cdv A outer s0 H E) E body s)
    (h1 : ∀ cdv A outer s0 H E, Ctx k (bodyX V N qual scope f cdv A outer s0 H E) E → PS (bodyX V N qual scope f cdv A outer s0 H E) st tDraw) (hN : 2 ≤ N.length)
    (hs : ∀ ns, (s (startL N.length ns)).sat (fun o => o = .rt (.bl true)) fun _ _ _ => False) : FnOk V.P V.w V.K V.mg V.base (L2.CX V.P V.w) (k + 1) f fd ["script"] spLaw := by
  refine F.ok S (fun vs H Q E ⟨a, ns, e, _⟩ => by rw [e]; rfl) fun cdv A outer s0 H vs Q E hr ⟨a, ns, e, rd, hl, q⟩ => ?_
  subst e
  have c := body_ctx (cdv := cdv) (A := A) (outer := outer) (s := s0) (H := H) (E := E) hV S hr
  refine ⟨_, pss_cons (h1 cdv A outer s0 H E c) (hb cdv A outer s0 H E c).ps, ?_⟩
  refine ⟨.ref a, rfl, (by show 2 ≤ sizeLine; decide), fun p hp => ?_⟩
  obtain ⟨F0, S0⟩ := law_start (K := V.K) ht rd hl hp hN
  have es : (L2.start N [L2.V.ref a]).set 1 (some (.ref p)) = ((List.replicate N.length none |>.set 0 (some (L2.V.ref a))).set 1 (some (.ref p))) := by
    obtain ⟨m, hm⟩ : ∃ m, N.length = m + 1 := ⟨N.length - 1, by omega⟩
    unfold L2.start
    rw [hm]
    rfl
  show tGS E V.K (wS s) _ ((L2.start N [L2.V.ref a]).set 1 (some (.ref p))) _
  rw [es]
  refine ⟨none, p, a, F0, _, F0, startL N.length ns, S0, ?_⟩
  refine sat_mono (fun o e => ?_) (fun _ _ _ z => z.elim) _ (hs ns)
  subst e
  intro v F' H' _ r
  cases r
  exact q H'
end
end U
namespace K18
open PySem PySem.Spec PyProof.Rows L2
/-! ### the text -/
def top (i : Nat) : Stmt := PySem.Challenge.pw_nestcharts_k18_equal_outcomes.main.body.getD i (.Pass ⟨0, 0, 0, 0⟩)
abbrev s__wall : Stmt := top 0
abbrev s_BadChart___init__ : Stmt := inClass (top 3) 0
abbrev s_BadEvents___init__ : Stmt := inClass (top 4) 0
abbrev s_is_integer : Stmt := top 9
abbrev s_is_row : Stmt := top 10
abbrev s_is_number : Stmt := top 11
abbrev s_is_name : Stmt := top 12
abbrev s_Chart___init__ : Stmt := inClass (top 20) 0
abbrev s_Chart___eq__ : Stmt := inClass (top 20) 1
abbrev s_Chart_root : Stmt := inClass (top 20) 2
abbrev s_Chart_kind : Stmt := inClass (top 20) 3
abbrev s_Chart_above : Stmt := inClass (top 20) 4
abbrev s_Chart_children : Stmt := inClass (top 20) 5
abbrev s_Chart_is_within : Stmt := inClass (top 20) 6
abbrev s_Chart_events : Stmt := inClass (top 20) 7
abbrev s_Chart_remembered : Stmt := inClass (top 20) 8
abbrev s_Chart_goes_back : Stmt := inClass (top 20) 9
abbrev s_Chart_timed : Stmt := inClass (top 20) 10
abbrev s_is_state : Stmt := top 21
abbrev s_is_chart_row : Stmt := top 22
abbrev s_is_event : Stmt := top 23
abbrev s_is_target : Stmt := top 24
abbrev s_One___init__ : Stmt := inClass (top 26) 0
abbrev s_One___bool__ : Stmt := inClass (top 26) 1
abbrev s_One___eq__ : Stmt := inClass (top 26) 2
abbrev s_One_shows : Stmt := inClass (top 26) 3
abbrev s_Two___init__ : Stmt := inClass (top 27) 0
abbrev s_Two___bool__ : Stmt := inClass (top 27) 1
abbrev s_Two___eq__ : Stmt := inClass (top 27) 2
abbrev s_Two_shows : Stmt := inClass (top 27) 3
abbrev s_Endless___init__ : Stmt := inClass (top 28) 0
abbrev s_Endless___bool__ : Stmt := inClass (top 28) 1
abbrev s_Endless___eq__ : Stmt := inClass (top 28) 2
abbrev s_Endless_shows : Stmt := inClass (top 28) 3
abbrev s_BadFlat___init__ : Stmt := inClass (top 30) 0
abbrev s_Flat___init__ : Stmt := inClass (top 31) 0
abbrev s_Flat___eq__ : Stmt := inClass (top 31) 1
abbrev s_Flat_answers : Stmt := inClass (top 31) 2
abbrev s_is_step : Stmt := top 32
abbrev s_Alike___init__ : Stmt := inClass (top 33) 0
abbrev s_Alike___bool__ : Stmt := inClass (top 33) 1
abbrev s_Alike___eq__ : Stmt := inClass (top 33) 2
abbrev s_Alike_shows : Stmt := inClass (top 33) 3
abbrev s_Parts___init__ : Stmt := inClass (top 34) 0
abbrev s_Parts___bool__ : Stmt := inClass (top 34) 1
abbrev s_Parts___eq__ : Stmt := inClass (top 34) 2
abbrev s_Parts_shows : Stmt := inClass (top 34) 3
abbrev s_Fooled___init__ : Stmt := inClass (top 36) 0
abbrev s_Fooled___bool__ : Stmt := inClass (top 36) 1
abbrev s_Fooled___eq__ : Stmt := inClass (top 36) 2
abbrev s_Fooled_shows : Stmt := inClass (top 36) 3
abbrev s_Led___init__ : Stmt := inClass (top 38) 0
abbrev s_Led___bool__ : Stmt := inClass (top 38) 1
abbrev s_Led___eq__ : Stmt := inClass (top 38) 2
abbrev s_Led_shows : Stmt := inClass (top 38) 3
abbrev s_Shut___init__ : Stmt := inClass (top 39) 0
abbrev s_Shut___bool__ : Stmt := inClass (top 39) 1
abbrev s_Shut___eq__ : Stmt := inClass (top 39) 2
abbrev s_Shut_shows : Stmt := inClass (top 39) 3
abbrev s_Apart___init__ : Stmt := inClass (top 41) 0
abbrev s_Apart___bool__ : Stmt := inClass (top 41) 1
abbrev s_Apart___eq__ : Stmt := inClass (top 41) 2
abbrev s_Apart_shows : Stmt := inClass (top 41) 3
abbrev s_Clash___init__ : Stmt := inClass (top 42) 0
abbrev s_Clash___bool__ : Stmt := inClass (top 42) 1
abbrev s_Clash___eq__ : Stmt := inClass (top 42) 2
abbrev s_Clash_shows : Stmt := inClass (top 42) 3
abbrev s_Covered___init__ : Stmt := inClass (top 44) 0
abbrev s_Covered___eq__ : Stmt := inClass (top 44) 1
abbrev s_Covered_shows : Stmt := inClass (top 44) 2
abbrev s_Plan___init__ : Stmt := inClass (top 46) 0
abbrev s_Plan___bool__ : Stmt := inClass (top 46) 1
abbrev s_Plan___eq__ : Stmt := inClass (top 46) 2
abbrev s_Plan_shows : Stmt := inClass (top 46) 3
abbrev s_Trap___init__ : Stmt := inClass (top 47) 0
abbrev s_Trap___bool__ : Stmt := inClass (top 47) 1
abbrev s_Trap___eq__ : Stmt := inClass (top 47) 2
abbrev s_Trap_shows : Stmt := inClass (top 47) 3
abbrev s_Guard___init__ : Stmt := inClass (top 49) 0
abbrev s_Guard___bool__ : Stmt := inClass (top 49) 1
abbrev s_Guard___eq__ : Stmt := inClass (top 49) 2
abbrev s_Guard_shows : Stmt := inClass (top 49) 3
abbrev s_Lost___init__ : Stmt := inClass (top 50) 0
abbrev s_Lost___bool__ : Stmt := inClass (top 50) 1
abbrev s_Lost___eq__ : Stmt := inClass (top 50) 2
abbrev s_Lost_shows : Stmt := inClass (top 50) 3
abbrev s_Merged___init__ : Stmt := inClass (top 52) 0
abbrev s_Merged___bool__ : Stmt := inClass (top 52) 1
abbrev s_Merged___eq__ : Stmt := inClass (top 52) 2
abbrev s_Conflict___init__ : Stmt := inClass (top 53) 0
abbrev s_Conflict___bool__ : Stmt := inClass (top 53) 1
abbrev s_Conflict___eq__ : Stmt := inClass (top 53) 2
abbrev s_BadWish___init__ : Stmt := inClass (top 55) 0
abbrev s_Wish___init__ : Stmt := inClass (top 56) 0
abbrev s_Wish___eq__ : Stmt := inClass (top 56) 1
abbrev s_Wish_behind : Stmt := inClass (top 56) 2
abbrev s_Keeps___init__ : Stmt := inClass (top 57) 0
abbrev s_Keeps___bool__ : Stmt := inClass (top 57) 1
abbrev s_Keeps___eq__ : Stmt := inClass (top 57) 2
abbrev s_Keeps_shows : Stmt := inClass (top 57) 3
abbrev s_Fails___init__ : Stmt := inClass (top 58) 0
abbrev s_Fails___bool__ : Stmt := inClass (top 58) 1
abbrev s_Fails___eq__ : Stmt := inClass (top 58) 2
abbrev s_Fails_shows : Stmt := inClass (top 58) 3
abbrev s_Stuck___init__ : Stmt := inClass (top 59) 0
abbrev s_Stuck___bool__ : Stmt := inClass (top 59) 1
abbrev s_Stuck___eq__ : Stmt := inClass (top 59) 2
abbrev s_Stuck_shows : Stmt := inClass (top 59) 3
abbrev s__law_number : Stmt := top 61
abbrev s__law_take : Stmt := top 62
abbrev s__law_pick : Stmt := top 63
abbrev s__law_made : Stmt := top 64
abbrev s_law : Stmt := top 65
open U
def own : List Str := ["Chart", "One", "Two", "Endless", "Flat", "Alike", "Parts", "Fooled", "Led", "Shut", "Apart", "Clash", "Covered", "Plan", "Trap", "Guard", "Lost", "Merged", "Conflict", "Wish", "Keeps", "Fails", "Stuck"]
variable [Wo]
/-- what the written part says -/
structure Gf (V : Wd) : Prop where
  n_all : V.mg "all" = none
  n_any : V.mg "any" = none
  n_bool : V.mg "bool" = none
  n_dict : V.mg "dict" = none
  n_enumerate : V.mg "enumerate" = none
  n_int : V.mg "int" = none
  n_isinstance : V.mg "isinstance" = none
  n_len : V.mg "len" = none
  n_list : V.mg "list" = none
  n_range : V.mg "range" = none
  n_set : V.mg "set" = none
  n_sorted : V.mg "sorted" = none
  n_str : V.mg "str" = none
  n_tuple : V.mg "tuple" = none
  c_SMALL : ∃ t, V.mg "SMALL" = some (.str "abcdefghijklmnopqrstuvwxyz" t)
  c_FIGURES : ∃ t, V.mg "FIGURES" = some (.str "0123456789" t)
  c_MOST_NAME : ∃ t, V.mg "MOST_NAME" = some (.int 8 t)
  c_MOST_STATES : ∃ t, V.mg "MOST_STATES" = some (.int 12 t)
  c_MOST_ROWS : ∃ t, V.mg "MOST_ROWS" = some (.int 16 t)
  c_MOST_AFTER : ∃ t, V.mg "MOST_AFTER" = some (.int 3 t)
  c_TICK : ∃ t, V.mg "TICK" = some (.str "tick" t)
  g_KINDS : V.mg "KINDS" = some (.ref (He.ga V.K "KINDS"))
  t_KINDS : tupB V.K "KINDS" ["leaf", "one", "all"] = true
  g_PRIORITIES : V.mg "PRIORITIES" = some (.ref (He.ga V.K "PRIORITIES"))
  t_PRIORITIES : tupB V.K "PRIORITIES" ["none", "outer", "inner"] = true
  g_ChartError : V.mg "ChartError" = some (.ref (He.ga V.K "ChartError"))
  g_BadChart : V.mg "BadChart" = some (.ref (He.ga V.K "BadChart"))
  g_BadEvents : V.mg "BadEvents" = some (.ref (He.ga V.K "BadEvents"))
  g_Chart : V.mg "Chart" = some (.ref (He.ga V.K "Chart"))
  g_One : V.mg "One" = some (.ref (He.ga V.K "One"))
  g_Two : V.mg "Two" = some (.ref (He.ga V.K "Two"))
  g_Endless : V.mg "Endless" = some (.ref (He.ga V.K "Endless"))
  g_BadFlat : V.mg "BadFlat" = some (.ref (He.ga V.K "BadFlat"))
  g_Flat : V.mg "Flat" = some (.ref (He.ga V.K "Flat"))
  g_Alike : V.mg "Alike" = some (.ref (He.ga V.K "Alike"))
  g_Parts : V.mg "Parts" = some (.ref (He.ga V.K "Parts"))
  g_Fooled : V.mg "Fooled" = some (.ref (He.ga V.K "Fooled"))
  g_Led : V.mg "Led" = some (.ref (He.ga V.K "Led"))
  g_Shut : V.mg "Shut" = some (.ref (He.ga V.K "Shut"))
  g_Apart : V.mg "Apart" = some (.ref (He.ga V.K "Apart"))
  g_Clash : V.mg "Clash" = some (.ref (He.ga V.K "Clash"))
  g_Covered : V.mg "Covered" = some (.ref (He.ga V.K "Covered"))
  g_Plan : V.mg "Plan" = some (.ref (He.ga V.K "Plan"))
  g_Trap : V.mg "Trap" = some (.ref (He.ga V.K "Trap"))
  g_Guard : V.mg "Guard" = some (.ref (He.ga V.K "Guard"))
  g_Lost : V.mg "Lost" = some (.ref (He.ga V.K "Lost"))
  g_Merged : V.mg "Merged" = some (.ref (He.ga V.K "Merged"))
  g_Conflict : V.mg "Conflict" = some (.ref (He.ga V.K "Conflict"))
  g_BadWish : V.mg "BadWish" = some (.ref (He.ga V.K "BadWish"))
  g_Wish : V.mg "Wish" = some (.ref (He.ga V.K "Wish"))
  g_Keeps : V.mg "Keeps" = some (.ref (He.ga V.K "Keeps"))
  g_Fails : V.mg "Fails" = some (.ref (He.ga V.K "Fails"))
  g_Stuck : V.mg "Stuck" = some (.ref (He.ga V.K "Stuck"))
  k_Chart : Cls V.K (He.ga V.K "Chart")
  k_One : Cls V.K (He.ga V.K "One")
  k_Two : Cls V.K (He.ga V.K "Two")
  k_Endless : Cls V.K (He.ga V.K "Endless")
  k_Flat : Cls V.K (He.ga V.K "Flat")
  k_Alike : Cls V.K (He.ga V.K "Alike")
  k_Parts : Cls V.K (He.ga V.K "Parts")
  k_Fooled : Cls V.K (He.ga V.K "Fooled")
  k_Led : Cls V.K (He.ga V.K "Led")
  k_Shut : Cls V.K (He.ga V.K "Shut")
  k_Apart : Cls V.K (He.ga V.K "Apart")
  k_Clash : Cls V.K (He.ga V.K "Clash")
  k_Covered : Cls V.K (He.ga V.K "Covered")
  k_Plan : Cls V.K (He.ga V.K "Plan")
  k_Trap : Cls V.K (He.ga V.K "Trap")
  k_Guard : Cls V.K (He.ga V.K "Guard")
  k_Lost : Cls V.K (He.ga V.K "Lost")
  k_Merged : Cls V.K (He.ga V.K "Merged")
  k_Conflict : Cls V.K (He.ga V.K "Conflict")
  k_Wish : Cls V.K (He.ga V.K "Wish")
  k_Keeps : Cls V.K (He.ga V.K "Keeps")
  k_Fails : Cls V.K (He.ga V.K "Fails")
  k_Stuck : Cls V.K (He.ga V.K "Stuck")
  a_Chart_states : NoAttr V.K (He.ga V.K "Chart") "states"
  a_Chart_order : NoAttr V.K (He.ga V.K "Chart") "order"
  a_Chart_rows : NoAttr V.K (He.ga V.K "Chart") "rows"
  a_Flat_rows : NoAttr V.K (He.ga V.K "Flat") "rows"
  a_Fails_rows : NoAttr V.K (He.ga V.K "Fails") "rows"
  a_Chart_priority : NoAttr V.K (He.ga V.K "Chart") "priority"
  a_One_pairs : NoAttr V.K (He.ga V.K "One") "pairs"
  a_Alike_pairs : NoAttr V.K (He.ga V.K "Alike") "pairs"
  a_Keeps_pairs : NoAttr V.K (He.ga V.K "Keeps") "pairs"
  a_Two_events : NoAttr V.K (He.ga V.K "Two") "events"
  a_Endless_events : NoAttr V.K (He.ga V.K "Endless") "events"
  a_Flat_events : NoAttr V.K (He.ga V.K "Flat") "events"
  a_Parts_events : NoAttr V.K (He.ga V.K "Parts") "events"
  a_Led_events : NoAttr V.K (He.ga V.K "Led") "events"
  a_Covered_events : NoAttr V.K (He.ga V.K "Covered") "events"
  a_Lost_events : NoAttr V.K (He.ga V.K "Lost") "events"
  a_Fails_events : NoAttr V.K (He.ga V.K "Fails") "events"
  a_Stuck_events : NoAttr V.K (He.ga V.K "Stuck") "events"
  a_Two_one : NoAttr V.K (He.ga V.K "Two") "one"
  a_Clash_one : NoAttr V.K (He.ga V.K "Clash") "one"
  a_Two_other : NoAttr V.K (He.ga V.K "Two") "other"
  a_Clash_other : NoAttr V.K (He.ga V.K "Clash") "other"
  a_Endless_ring : NoAttr V.K (He.ga V.K "Endless") "ring"
  a_Fooled_machine : NoAttr V.K (He.ga V.K "Fooled") "machine"
  a_Shut_standings : NoAttr V.K (He.ga V.K "Shut") "standings"
  a_Apart_standings : NoAttr V.K (He.ga V.K "Apart") "standings"
  a_Trap_standings : NoAttr V.K (He.ga V.K "Trap") "standings"
  a_Clash_standing : NoAttr V.K (He.ga V.K "Clash") "standing"
  a_Plan_book : NoAttr V.K (He.ga V.K "Plan") "book"
  a_Guard_book : NoAttr V.K (He.ga V.K "Guard") "book"
  a_Merged_chart : NoAttr V.K (He.ga V.K "Merged") "chart"
  a_Conflict_parts : NoAttr V.K (He.ga V.K "Conflict") "parts"
  a_Wish_event : NoAttr V.K (He.ga V.K "Wish") "event"
  a_Wish_word : NoAttr V.K (He.ga V.K "Wish") "word"
  a_Wish_ticks : NoAttr V.K (He.ga V.K "Wish") "ticks"
  isf : IsF V.K own
  ne : ∀ c ∈ own, neB V.K (He.ga V.K c) = true
theorem Gf.a_order {V : Wd} (G : Gf V) : ∀ c ∈ (["Chart"] : List Str), Cls V.K (He.ga V.K c) ∧ NoAttr V.K (He.ga V.K c) "order" := by
  intro c hc
  simp only [List.mem_cons, List.not_mem_nil, or_false] at hc
  rcases hc with rfl
  · exact ⟨G.k_Chart, G.a_Chart_order⟩
theorem Gf.a_rows_Chart {V : Wd} (G : Gf V) : ∀ c ∈ (["Chart"] : List Str), Cls V.K (He.ga V.K c) ∧ NoAttr V.K (He.ga V.K c) "rows" := by
  intro c hc
  simp only [List.mem_cons, List.not_mem_nil, or_false] at hc
  rcases hc with rfl
  · exact ⟨G.k_Chart, G.a_Chart_rows⟩
theorem Gf.a_priority {V : Wd} (G : Gf V) : ∀ c ∈ (["Chart"] : List Str), Cls V.K (He.ga V.K c) ∧ NoAttr V.K (He.ga V.K c) "priority" := by
  intro c hc
  simp only [List.mem_cons, List.not_mem_nil, or_false] at hc
  rcases hc with rfl
  · exact ⟨G.k_Chart, G.a_Chart_priority⟩
theorem Gf.a_pairs_One {V : Wd} (G : Gf V) : ∀ c ∈ (["One"] : List Str), Cls V.K (He.ga V.K c) ∧ NoAttr V.K (He.ga V.K c) "pairs" := by
  intro c hc
  simp only [List.mem_cons, List.not_mem_nil, or_false] at hc
  rcases hc with rfl
  · exact ⟨G.k_One, G.a_One_pairs⟩
theorem Gf.a_events_Two {V : Wd} (G : Gf V) : ∀ c ∈ (["Two"] : List Str), Cls V.K (He.ga V.K c) ∧ NoAttr V.K (He.ga V.K c) "events" := by
  intro c hc
  simp only [List.mem_cons, List.not_mem_nil, or_false] at hc
  rcases hc with rfl
  · exact ⟨G.k_Two, G.a_Two_events⟩
theorem Gf.a_one_Two {V : Wd} (G : Gf V) : ∀ c ∈ (["Two"] : List Str), Cls V.K (He.ga V.K c) ∧ NoAttr V.K (He.ga V.K c) "one" := by
  intro c hc
  simp only [List.mem_cons, List.not_mem_nil, or_false] at hc
  rcases hc with rfl
  · exact ⟨G.k_Two, G.a_Two_one⟩
theorem Gf.a_other_Two {V : Wd} (G : Gf V) : ∀ c ∈ (["Two"] : List Str), Cls V.K (He.ga V.K c) ∧ NoAttr V.K (He.ga V.K c) "other" := by
  intro c hc
  simp only [List.mem_cons, List.not_mem_nil, or_false] at hc
  rcases hc with rfl
  · exact ⟨G.k_Two, G.a_Two_other⟩
theorem Gf.a_events_Endless {V : Wd} (G : Gf V) : ∀ c ∈ (["Endless"] : List Str), Cls V.K (He.ga V.K c) ∧ NoAttr V.K (He.ga V.K c) "events" := by
  intro c hc
  simp only [List.mem_cons, List.not_mem_nil, or_false] at hc
  rcases hc with rfl
  · exact ⟨G.k_Endless, G.a_Endless_events⟩
theorem Gf.a_ring {V : Wd} (G : Gf V) : ∀ c ∈ (["Endless"] : List Str), Cls V.K (He.ga V.K c) ∧ NoAttr V.K (He.ga V.K c) "ring" := by
  intro c hc
  simp only [List.mem_cons, List.not_mem_nil, or_false] at hc
  rcases hc with rfl
  · exact ⟨G.k_Endless, G.a_Endless_ring⟩
theorem Gf.a_events_Flat {V : Wd} (G : Gf V) : ∀ c ∈ (["Flat"] : List Str), Cls V.K (He.ga V.K c) ∧ NoAttr V.K (He.ga V.K c) "events" := by
  intro c hc
  simp only [List.mem_cons, List.not_mem_nil, or_false] at hc
  rcases hc with rfl
  · exact ⟨G.k_Flat, G.a_Flat_events⟩
theorem Gf.a_rows_Flat {V : Wd} (G : Gf V) : ∀ c ∈ (["Flat"] : List Str), Cls V.K (He.ga V.K c) ∧ NoAttr V.K (He.ga V.K c) "rows" := by
  intro c hc
  simp only [List.mem_cons, List.not_mem_nil, or_false] at hc
  rcases hc with rfl
  · exact ⟨G.k_Flat, G.a_Flat_rows⟩
theorem Gf.a_pairs_Alike {V : Wd} (G : Gf V) : ∀ c ∈ (["Alike"] : List Str), Cls V.K (He.ga V.K c) ∧ NoAttr V.K (He.ga V.K c) "pairs" := by
  intro c hc
  simp only [List.mem_cons, List.not_mem_nil, or_false] at hc
  rcases hc with rfl
  · exact ⟨G.k_Alike, G.a_Alike_pairs⟩
theorem Gf.a_events_Parts {V : Wd} (G : Gf V) : ∀ c ∈ (["Parts"] : List Str), Cls V.K (He.ga V.K c) ∧ NoAttr V.K (He.ga V.K c) "events" := by
  intro c hc
  simp only [List.mem_cons, List.not_mem_nil, or_false] at hc
  rcases hc with rfl
  · exact ⟨G.k_Parts, G.a_Parts_events⟩
theorem Gf.a_machine {V : Wd} (G : Gf V) : ∀ c ∈ (["Fooled"] : List Str), Cls V.K (He.ga V.K c) ∧ NoAttr V.K (He.ga V.K c) "machine" := by
  intro c hc
  simp only [List.mem_cons, List.not_mem_nil, or_false] at hc
  rcases hc with rfl
  · exact ⟨G.k_Fooled, G.a_Fooled_machine⟩
theorem Gf.a_events_Led {V : Wd} (G : Gf V) : ∀ c ∈ (["Led"] : List Str), Cls V.K (He.ga V.K c) ∧ NoAttr V.K (He.ga V.K c) "events" := by
  intro c hc
  simp only [List.mem_cons, List.not_mem_nil, or_false] at hc
  rcases hc with rfl
  · exact ⟨G.k_Led, G.a_Led_events⟩
theorem Gf.a_standings_Shut {V : Wd} (G : Gf V) : ∀ c ∈ (["Shut"] : List Str), Cls V.K (He.ga V.K c) ∧ NoAttr V.K (He.ga V.K c) "standings" := by
  intro c hc
  simp only [List.mem_cons, List.not_mem_nil, or_false] at hc
  rcases hc with rfl
  · exact ⟨G.k_Shut, G.a_Shut_standings⟩
theorem Gf.a_standings_Apart {V : Wd} (G : Gf V) : ∀ c ∈ (["Apart"] : List Str), Cls V.K (He.ga V.K c) ∧ NoAttr V.K (He.ga V.K c) "standings" := by
  intro c hc
  simp only [List.mem_cons, List.not_mem_nil, or_false] at hc
  rcases hc with rfl
  · exact ⟨G.k_Apart, G.a_Apart_standings⟩
theorem Gf.a_standing {V : Wd} (G : Gf V) : ∀ c ∈ (["Clash"] : List Str), Cls V.K (He.ga V.K c) ∧ NoAttr V.K (He.ga V.K c) "standing" := by
  intro c hc
  simp only [List.mem_cons, List.not_mem_nil, or_false] at hc
  rcases hc with rfl
  · exact ⟨G.k_Clash, G.a_Clash_standing⟩
theorem Gf.a_one_Clash {V : Wd} (G : Gf V) : ∀ c ∈ (["Clash"] : List Str), Cls V.K (He.ga V.K c) ∧ NoAttr V.K (He.ga V.K c) "one" := by
  intro c hc
  simp only [List.mem_cons, List.not_mem_nil, or_false] at hc
  rcases hc with rfl
  · exact ⟨G.k_Clash, G.a_Clash_one⟩
theorem Gf.a_other_Clash {V : Wd} (G : Gf V) : ∀ c ∈ (["Clash"] : List Str), Cls V.K (He.ga V.K c) ∧ NoAttr V.K (He.ga V.K c) "other" := by
  intro c hc
  simp only [List.mem_cons, List.not_mem_nil, or_false] at hc
  rcases hc with rfl
  · exact ⟨G.k_Clash, G.a_Clash_other⟩
theorem Gf.a_events_Covered {V : Wd} (G : Gf V) : ∀ c ∈ (["Covered"] : List Str), Cls V.K (He.ga V.K c) ∧ NoAttr V.K (He.ga V.K c) "events" := by
  intro c hc
  simp only [List.mem_cons, List.not_mem_nil, or_false] at hc
  rcases hc with rfl
  · exact ⟨G.k_Covered, G.a_Covered_events⟩
theorem Gf.a_book_Plan {V : Wd} (G : Gf V) : ∀ c ∈ (["Plan"] : List Str), Cls V.K (He.ga V.K c) ∧ NoAttr V.K (He.ga V.K c) "book" := by
  intro c hc
  simp only [List.mem_cons, List.not_mem_nil, or_false] at hc
  rcases hc with rfl
  · exact ⟨G.k_Plan, G.a_Plan_book⟩
theorem Gf.a_standings_Trap {V : Wd} (G : Gf V) : ∀ c ∈ (["Trap"] : List Str), Cls V.K (He.ga V.K c) ∧ NoAttr V.K (He.ga V.K c) "standings" := by
  intro c hc
  simp only [List.mem_cons, List.not_mem_nil, or_false] at hc
  rcases hc with rfl
  · exact ⟨G.k_Trap, G.a_Trap_standings⟩
theorem Gf.a_book_Guard {V : Wd} (G : Gf V) : ∀ c ∈ (["Guard"] : List Str), Cls V.K (He.ga V.K c) ∧ NoAttr V.K (He.ga V.K c) "book" := by
  intro c hc
  simp only [List.mem_cons, List.not_mem_nil, or_false] at hc
  rcases hc with rfl
  · exact ⟨G.k_Guard, G.a_Guard_book⟩
theorem Gf.a_events_Lost {V : Wd} (G : Gf V) : ∀ c ∈ (["Lost"] : List Str), Cls V.K (He.ga V.K c) ∧ NoAttr V.K (He.ga V.K c) "events" := by
  intro c hc
  simp only [List.mem_cons, List.not_mem_nil, or_false] at hc
  rcases hc with rfl
  · exact ⟨G.k_Lost, G.a_Lost_events⟩
theorem Gf.a_chart {V : Wd} (G : Gf V) : ∀ c ∈ (["Merged"] : List Str), Cls V.K (He.ga V.K c) ∧ NoAttr V.K (He.ga V.K c) "chart" := by
  intro c hc
  simp only [List.mem_cons, List.not_mem_nil, or_false] at hc
  rcases hc with rfl
  · exact ⟨G.k_Merged, G.a_Merged_chart⟩
theorem Gf.a_parts {V : Wd} (G : Gf V) : ∀ c ∈ (["Conflict"] : List Str), Cls V.K (He.ga V.K c) ∧ NoAttr V.K (He.ga V.K c) "parts" := by
  intro c hc
  simp only [List.mem_cons, List.not_mem_nil, or_false] at hc
  rcases hc with rfl
  · exact ⟨G.k_Conflict, G.a_Conflict_parts⟩
theorem Gf.a_event {V : Wd} (G : Gf V) : ∀ c ∈ (["Wish"] : List Str), Cls V.K (He.ga V.K c) ∧ NoAttr V.K (He.ga V.K c) "event" := by
  intro c hc
  simp only [List.mem_cons, List.not_mem_nil, or_false] at hc
  rcases hc with rfl
  · exact ⟨G.k_Wish, G.a_Wish_event⟩
theorem Gf.a_word {V : Wd} (G : Gf V) : ∀ c ∈ (["Wish"] : List Str), Cls V.K (He.ga V.K c) ∧ NoAttr V.K (He.ga V.K c) "word" := by
  intro c hc
  simp only [List.mem_cons, List.not_mem_nil, or_false] at hc
  rcases hc with rfl
  · exact ⟨G.k_Wish, G.a_Wish_word⟩
theorem Gf.a_ticks {V : Wd} (G : Gf V) : ∀ c ∈ (["Wish"] : List Str), Cls V.K (He.ga V.K c) ∧ NoAttr V.K (He.ga V.K c) "ticks" := by
  intro c hc
  simp only [List.mem_cons, List.not_mem_nil, or_false] at hc
  rcases hc with rfl
  · exact ⟨G.k_Wish, G.a_Wish_ticks⟩
theorem Gf.a_pairs_Keeps {V : Wd} (G : Gf V) : ∀ c ∈ (["Keeps"] : List Str), Cls V.K (He.ga V.K c) ∧ NoAttr V.K (He.ga V.K c) "pairs" := by
  intro c hc
  simp only [List.mem_cons, List.not_mem_nil, or_false] at hc
  rcases hc with rfl
  · exact ⟨G.k_Keeps, G.a_Keeps_pairs⟩
theorem Gf.a_events_Fails {V : Wd} (G : Gf V) : ∀ c ∈ (["Fails"] : List Str), Cls V.K (He.ga V.K c) ∧ NoAttr V.K (He.ga V.K c) "events" := by
  intro c hc
  simp only [List.mem_cons, List.not_mem_nil, or_false] at hc
  rcases hc with rfl
  · exact ⟨G.k_Fails, G.a_Fails_events⟩
theorem Gf.a_rows_Fails {V : Wd} (G : Gf V) : ∀ c ∈ (["Fails"] : List Str), Cls V.K (He.ga V.K c) ∧ NoAttr V.K (He.ga V.K c) "rows" := by
  intro c hc
  simp only [List.mem_cons, List.not_mem_nil, or_false] at hc
  rcases hc with rfl
  · exact ⟨G.k_Fails, G.a_Fails_rows⟩
theorem Gf.a_events_Stuck {V : Wd} (G : Gf V) : ∀ c ∈ (["Stuck"] : List Str), Cls V.K (He.ga V.K c) ∧ NoAttr V.K (He.ga V.K c) "events" := by
  intro c hc
  simp only [List.mem_cons, List.not_mem_nil, or_false] at hc
  rcases hc with rfl
  · exact ⟨G.k_Stuck, G.a_Stuck_events⟩
/-- what the draws give: a number below the bound -/
abbrev fr__law_take : FR := frTake
def fs__law_pick : FS := (fsRet (fOp foIx (fVar 1) (fCall 2 fr__law_take (faCons (fVar 0) (faCons (fB1 foLen (fVar 1)) faNil)))))
def fr__law_pick : FR := fnF 2 2 fs__law_pick
def fs_is_name : FS := (fsSeq (fsIf (fOr (fNot (fT (fOp (foIsi own) (fVar 0) (fC (.ty "str"))))) (fOr (fNot (fT (fChain foLe foLe (fC (.int 1)) (fB1 foLen (fVar 0)) (fC (.int 8))))) (fT (fOp foNotIn (fOp foIx (fVar 0) (fC (.int 0))) (fC (.str "abcdefghijklmnopqrstuvwxyz")))))) (fsRet (fC (.bl false))) fsNext)
  (fsRet (fB1 foAll (fLc (fiS (fVar 0)) [1] (fgN 1) ftYes (fOrV (fOp foIn (fVar 1) (fC (.str "abcdefghijklmnopqrstuvwxyz"))) (fOp foIn (fVar 1) (fC (.str "0123456789"))))))))
def fr_is_name : FR := fnF 1 2 fs_is_name
def fs_is_state : FS := (fsSeq (fsIf (fOr (fNot (fT (fCall 1 fr_is_name (faCons (fVar 2) faNil)))) (fOr (fT (fOp foIn (fVar 2) (fTup (faCons (fC (.str "back")) (faCons (fC (.str "deep")) faNil))))) (fOr (fNot (fT (fOp (foIsi own) (fVar 3) (fC (.ty "tuple"))))) (fT (fOp foNe (fB1 foLen (fVar 3)) (fC (.int 2))))))) (fsRet (fC (.bl false))) fsNext)
  (fsSeq (fsIf (fOr (fNot (fT (fOp (foIsi own) (fOp foIx (fVar 3) (fC (.int 0))) (fC (.ty "str"))))) (fT (fInG not ["leaf", "one", "all"] (fOp foIx (fVar 3) (fC (.int 0)))))) (fsRet (fC (.bl false))) fsNext)
  (fsSeq (fsIf (fT (fOp foEq (fVar 0) (fLst faNil))) (fsRet (fAndV (fOp (foIs id) (fOp foIx (fVar 3) (fC (.int 1))) (fC .non)) (fOp foEq (fOp foIx (fVar 3) (fC (.int 0))) (fC (.str "one"))))) fsNext)
  (fsRet (fAndV (fOp (foIsi own) (fOp foIx (fVar 3) (fC (.int 1))) (fC (.ty "str"))) (fAndV (fOp foIn (fOp foIx (fVar 3) (fC (.int 1))) (fVar 0)) (fOp foNe (fOp foIx (fOp foIx (fVar 1) (fOp foIx (fVar 3) (fC (.int 1)))) (fC (.int 0))) (fC (.str "leaf")))))))))
def fr_is_state : FR := fnF 4 4 fs_is_state
def fs_is_row : FS := (fsRet (fOp (foIsi own) (fVar 0) (fTup (faCons (fC (.ty "list")) (faCons (fC (.ty "tuple")) faNil)))))
def fr_is_row : FR := fnF 1 1 fs_is_row
def fs_is_target : FS := (fsSeq (fsIf (fT (fOp (foIsi own) (fVar 1) (fC (.ty "str")))) (fsRet (fAndV (fOp foIn (fVar 1) (fVar 0)) (fOp (foIs not) (fOp foIx (fOp foIx (fVar 0) (fVar 1)) (fC (.int 1))) (fC .non)))) fsNext)
  (fsSeq (fsIf (fOr (fNot (fT (fOp (foIsi own) (fVar 1) (fC (.ty "tuple"))))) (fOr (fT (fOp foNe (fB1 foLen (fVar 1)) (fC (.int 2)))) (fNot (fT (fB1 foAll (fLc (fiSeq (fVar 1)) [2] (fgN 2) ftYes (fOp (foIsi own) (fVar 2) (fC (.ty "str"))))))))) (fsRet (fC (.bl false))) fsNext)
  (fsSeq (fsIf (fOr (fT (fOp foNotIn (fOp foIx (fVar 1) (fC (.int 0))) (fTup (faCons (fC (.str "back")) (faCons (fC (.str "deep")) faNil))))) (fT (fOp foNotIn (fOp foIx (fVar 1) (fC (.int 1))) (fVar 0)))) (fsRet (fC (.bl false))) fsNext)
  (fsRet (fAndV (fOp foEq (fOp foIx (fOp foIx (fVar 0) (fOp foIx (fVar 1) (fC (.int 1)))) (fC (.int 0))) (fC (.str "one"))) (fOp (foIs not) (fOp foIx (fOp foIx (fVar 0) (fOp foIx (fVar 1) (fC (.int 1)))) (fC (.int 1))) (fC .non)))))))
def fr_is_target : FR := fnF 2 3 fs_is_target
def fs_is_integer : FS := (fsRet (fAndV (fOp (foIsi own) (fVar 0) (fC (.ty "int"))) (fNotV (fOp (foIsi own) (fVar 0) (fC (.ty "bool"))))))
def fr_is_integer : FR := fnF 1 1 fs_is_integer
def fs_is_number : FS := (fsRet (fAndV (fCall 1 fr_is_integer (faCons (fVar 0) faNil)) (fChain foLe foLe (fVar 1) (fVar 0) (fVar 2))))
def fr_is_number : FR := fnF 3 3 fs_is_number
def fs_is_event : FS := (fsSeq (fsIf (fT (fOp (foIsi own) (fVar 0) (fC (.ty "str")))) (fsRet (fAndV (fCall 1 fr_is_name (faCons (fVar 0) faNil)) (fOp foNotIn (fVar 0) (fTup (faCons (fC (.str "tick")) (faCons (fC (.str "after")) faNil)))))) fsNext)
  (fsSeq (fsIf (fOr (fNot (fT (fOp (foIsi own) (fVar 0) (fC (.ty "tuple"))))) (fOr (fT (fOp foNe (fB1 foLen (fVar 0)) (fC (.int 2)))) (fNot (fT (fOp (foIsi own) (fOp foIx (fVar 0) (fC (.int 0))) (fC (.ty "str"))))))) (fsRet (fC (.bl false))) fsNext)
  (fsRet (fAndV (fOp foEq (fOp foIx (fVar 0) (fC (.int 0))) (fC (.str "after"))) (fCall 3 fr_is_number (faCons (fOp foIx (fVar 0) (fC (.int 1))) (faCons (fC (.int 1)) (faCons (fC (.int 3)) faNil))))))))
def fr_is_event : FR := fnF 1 1 fs_is_event
def fs_is_chart_row : FS := (fsSeq (fsIf (fOr (fNot (fT (fOp (foIsi own) (fVar 1) (fC (.ty "tuple"))))) (fT (fOp foNe (fB1 foLen (fVar 1)) (fC (.int 4))))) (fsRet (fC (.bl false))) fsNext)
  (fsSeq (fsIf (fOr (fNot (fT (fOp (foIsi own) (fOp foIx (fVar 1) (fC (.int 0))) (fC (.ty "str"))))) (fOr (fT (fOp foNotIn (fOp foIx (fVar 1) (fC (.int 0))) (fVar 0))) (fT (fOp (foIs id) (fOp foIx (fOp foIx (fVar 0) (fOp foIx (fVar 1) (fC (.int 0)))) (fC (.int 1))) (fC .non))))) (fsRet (fC (.bl false))) fsNext)
  (fsSeq (fsIf (fOr (fNot (fT (fCall 1 fr_is_event (faCons (fOp foIx (fVar 1) (fC (.int 1))) faNil)))) (fNot (fT (fCall 2 fr_is_target (faCons (fVar 0) (faCons (fOp foIx (fVar 1) (fC (.int 2))) faNil)))))) (fsRet (fC (.bl false))) fsNext)
  (fsRet (fAndV (fCall 1 fr_is_row (faCons (fOp foIx (fVar 1) (fC (.int 3))) faNil)) (fAndV (fOp foLe (fB1 foLen (fOp foIx (fVar 1) (fC (.int 3)))) (fC (.int 2))) (fB1 foAll (fLc (fiSeq (fOp foIx (fVar 1) (fC (.int 3)))) [2] (fgN 2) ftYes (fAndV (fCall 1 fr_is_name (faCons (fVar 2) faNil)) (fOp foNe (fVar 2) (fC (.str "tick"))))))))))))
def fr_is_chart_row : FR := fnF 2 3 fs_is_chart_row
def fs_Chart___init__ : FS := (fsSeq (fsIf (fOr (fNot (fT (fOp (foIsi own) (fVar 1) (fC (.ty "dict"))))) (fNot (fT (fChain foLe foLe (fC (.int 1)) (fB1 foLen (fVar 1)) (fC (.int 12)))))) fsDead fsNext)
  (fsSeq (fsFor (fiW gEnum (fVar 1)) (fgT 2 (fgCons (fgN 4) (fgCons (fgT 2 (fgCons (fgN 5) (fgCons (fgN 6) fgNil))) fgNil))) (fsIf (fNot (fT (fCall 4 fr_is_state (faCons (fCut (fB1 foKeysL (fVar 1)) foNone (foSome (fVar 4))) (faCons (fVar 1) (faCons (fVar 5) (faCons (fVar 6) faNil))))))) fsDead fsNext))
  (fsSeq (fsSetO 7 (fDc (fiW gItems (fVar 1)) [5, 6] (fgT 2 (fgCons (fgN 5) (fgCons (fgN 6) fgNil))) ftYes (fVar 5) (fTup (faCons (fOp foIx (fVar 6) (fC (.int 0))) (faCons (fOp foIx (fVar 6) (fC (.int 1))) faNil)))))
  (fsSeq (fsFrz 7 (fsFor (fiW gItems (fVar 7)) (fgT 2 (fgCons (fgN 5) (fgCons (fgT 2 (fgCons (fgN 8) (fgCons (fgN 9) fgNil))) fgNil))) (fsIf (fAnd (fT (fOp foNe (fVar 8) (fC (.str "leaf")))) (fNot (fT (fB1 foAny (fLc (fiW gVals (fVar 7)) [10] (fgN 10) ftYes (fOp foEq (fOp foIx (fVar 10) (fC (.int 1))) (fVar 5))))))) fsDead fsNext)))
  (fsSeq (fsIf (fOr (fNot (fT (fCall 1 fr_is_row (faCons (fVar 2) faNil)))) (fT (fOp foGt (fB1 foLen (fVar 2)) (fC (.int 16))))) fsDead fsNext)
  (fsSeq (fsFor (fiEE (fVar 2)) (fgT 2 (fgCons (fgN 11) (fgCons (fgN 12) fgNil))) (fsIf (fNot (fT (fCall 2 fr_is_chart_row (faCons (fVar 7) (faCons (fVar 12) faNil))))) fsDead fsNext))
  (fsSeq (fsIf (fOr (fNot (fT (fOp (foIsi own) (fVar 3) (fC (.ty "str"))))) (fT (fInG not ["none", "outer", "inner"] (fVar 3)))) fsDead fsNext)
  (fsSeq (fsFld 0 "Chart" "states" (fVar 7))
  (fsSeq (fsFld 0 "Chart" "order" (fB1 foTI (fVar 7)))
  (fsSeq (fsFld 0 "Chart" "rows" (fB1 foTup (fLc (fiSeq (fVar 2)) [13, 14, 15, 16] (fgT 4 (fgCons (fgN 13) (fgCons (fgN 14) (fgCons (fgN 15) (fgCons (fgN 16) fgNil))))) ftYes (fTup (faCons (fVar 13) (faCons (fVar 14) (faCons (fVar 15) (faCons (fB1 foTup (fVar 16)) faNil))))))))
  (fsFld 0 "Chart" "priority" (fVar 3))))))))))))
def fr_Chart___init__ : FR := inF 3 17 "Chart" fs_Chart___init__
def fs_One___init__ : FS := (fsFld 0 "One" "pairs" (fB1 foTup (fVar 1)))
def fr_One___init__ : FR := inF 1 2 "One" fs_One___init__
def fs_Two___init__ : FS := (fsSeq (fsFld 0 "Two" "events" (fB1 foTup (fVar 1)))
  (fsSeq (fsFld 0 "Two" "one" (fB1 foTup (fVar 2)))
  (fsFld 0 "Two" "other" (fB1 foTup (fVar 3)))))
def fr_Two___init__ : FR := inF 3 4 "Two" fs_Two___init__
def fs_Endless___init__ : FS := (fsSeq (fsFld 0 "Endless" "events" (fB1 foTup (fVar 1)))
  (fsFld 0 "Endless" "ring" (fB1 foTup (fVar 2))))
def fr_Endless___init__ : FR := inF 2 3 "Endless" fs_Endless___init__
def fs_Alike___init__ : FS := (fsFld 0 "Alike" "pairs" (fVar 1))
def fr_Alike___init__ : FR := inF 1 2 "Alike" fs_Alike___init__
def fs_Parts___init__ : FS := (fsFld 0 "Parts" "events" (fB1 foTup (fVar 1)))
def fr_Parts___init__ : FR := inF 1 2 "Parts" fs_Parts___init__
def fs_is_step : FS := (fsSeq (fsIf (fOr (fNot (fT (fOp (foIsi own) (fVar 0) (fC (.ty "tuple"))))) (fOr (fT (fOp foNe (fB1 foLen (fVar 0)) (fC (.int 2)))) (fNot (fT (fCall 1 fr_is_row (faCons (fOp foIx (fVar 0) (fC (.int 0))) faNil)))))) (fsRet (fC (.bl false))) fsNext)
  (fsRet (fAndV (fB1 foAll (fLc (fiSeq (fOp foIx (fVar 0) (fC (.int 0)))) [2] (fgN 2) ftYes (fOp (foIsi own) (fVar 2) (fC (.ty "str"))))) (fCall 3 fr_is_number (faCons (fOp foIx (fVar 0) (fC (.int 1))) (faCons (fC (.int 0)) (faCons (fOp foSub (fVar 1) (fC (.int 1))) faNil)))))))
def fr_is_step : FR := fnF 2 3 fs_is_step
def fs_Flat___init__ : FS := (fsSeq (fsIf (fOr (fNot (fT (fCall 1 fr_is_row (faCons (fVar 1) faNil)))) (fOr (fNot (fT (fB1 foAll (fLc (fiSeq (fVar 1)) [3] (fgN 3) ftYes (fCall 1 fr_is_name (faCons (fVar 3) faNil)))))) (fT (fOp foLt (fB1 foLenSet (fVar 1)) (fB1 foLen (fVar 1)))))) fsDead fsNext)
  (fsSeq (fsIf (fOr (fNot (fT (fCall 1 fr_is_row (faCons (fVar 2) faNil)))) (fT (fOp foEq (fB1 foLen (fVar 2)) (fC (.int 0))))) fsDead fsNext)
  (fsSeq (fsFor (fiEE (fVar 2)) (fgT 2 (fgCons (fgN 4) (fgCons (fgN 5) fgNil))) (fsSeq (fsIf (fOr (fNot (fT (fOp (foIsi own) (fVar 5) (fC (.ty "dict"))))) (fT (fOp foNe (fB1 foLen (fVar 5)) (fB1 foLen (fVar 1))))) fsDead fsNext)
  (fsIf (fNot (fT (fB1 foAll (fLc (fiSeq (fVar 1)) [3] (fgN 3) ftYes (fAndV (fOp foIn (fVar 3) (fVar 5)) (fCall 2 fr_is_step (faCons (fOp foIx (fVar 5) (fVar 3)) (faCons (fB1 foLen (fVar 2)) faNil)))))))) fsDead fsNext)))
  (fsSeq (fsFld 0 "Flat" "events" (fB1 foTup (fVar 1)))
  (fsFld 0 "Flat" "rows" (fB1 foTup (fLc (fiSeq (fVar 2)) [5] (fgN 5) ftYes (fDc (fiSeq (fVar 1)) [3] (fgN 3) ftYes (fVar 3) (fTup (faCons (fB1 foTup (fOp foIx (fOp foIx (fVar 5) (fVar 3)) (fC (.int 0)))) (faCons (fOp foIx (fOp foIx (fVar 5) (fVar 3)) (fC (.int 1))) faNil)))))))))))
def fr_Flat___init__ : FR := inF 2 6 "Flat" fs_Flat___init__
def fs_Led___init__ : FS := (fsFld 0 "Led" "events" (fB1 foTup (fVar 1)))
def fr_Led___init__ : FR := inF 1 2 "Led" fs_Led___init__
def fs_Shut___init__ : FS := (fsFld 0 "Shut" "standings" (fB1 foTup (fVar 1)))
def fr_Shut___init__ : FR := inF 1 2 "Shut" fs_Shut___init__
def fs_Apart___init__ : FS := (fsFld 0 "Apart" "standings" (fVar 1))
def fr_Apart___init__ : FR := inF 1 2 "Apart" fs_Apart___init__
def fs_Clash___init__ : FS := (fsSeq (fsFld 0 "Clash" "standing" (fVar 1))
  (fsSeq (fsFld 0 "Clash" "one" (fVar 2))
  (fsFld 0 "Clash" "other" (fVar 3))))
def fr_Clash___init__ : FR := inF 3 4 "Clash" fs_Clash___init__
def fs_Fooled___init__ : FS := (fsFld 0 "Fooled" "machine" (fVar 1))
def fr_Fooled___init__ : FR := inF 1 2 "Fooled" fs_Fooled___init__
def fs_Covered___init__ : FS := (fsFld 0 "Covered" "events" (fB1 foTup (fVar 1)))
def fr_Covered___init__ : FR := inF 1 2 "Covered" fs_Covered___init__
def fs_Plan___init__ : FS := (fsFld 0 "Plan" "book" (fB1 foDictU (fVar 1)))
def fr_Plan___init__ : FR := inF 1 2 "Plan" fs_Plan___init__
def fs_Trap___init__ : FS := (fsFld 0 "Trap" "standings" (fB1 foTup (fVar 1)))
def fr_Trap___init__ : FR := inF 1 2 "Trap" fs_Trap___init__
def fs_Guard___init__ : FS := (fsFld 0 "Guard" "book" (fDcT (fiW gItems (fB1 foDictU (fVar 1))) [2, 3] (fgT 2 (fgCons (fgN 2) (fgCons (fgN 3) fgNil))) ftYes (fVar 2) (fB1 foTup (fVar 3))))
def fr_Guard___init__ : FR := inF 1 4 "Guard" fs_Guard___init__
def fs_Lost___init__ : FS := (fsFld 0 "Lost" "events" (fB1 foTup (fVar 1)))
def fr_Lost___init__ : FR := inF 1 2 "Lost" fs_Lost___init__
def fs_Merged___init__ : FS := (fsFld 0 "Merged" "chart" (fVar 1))
def fr_Merged___init__ : FR := inF 1 2 "Merged" fs_Merged___init__
def fs_Conflict___init__ : FS := (fsFld 0 "Conflict" "parts" (fB1 foTup (fVar 1)))
def fr_Conflict___init__ : FR := inF 1 2 "Conflict" fs_Conflict___init__
def fs_Wish___init__ : FS := (fsSeq (fsIf (fNot (fT (fCall 1 fr_is_name (faCons (fVar 1) faNil)))) fsDead fsNext)
  (fsSeq (fsIf (fNot (fT (fCall 1 fr_is_name (faCons (fVar 2) faNil)))) fsDead fsNext)
  (fsSeq (fsIf (fNot (fT (fCall 3 fr_is_number (faCons (fVar 3) (faCons (fC (.int 0)) (faCons (fC (.int 6)) faNil)))))) fsDead fsNext)
  (fsSeq (fsFld 0 "Wish" "event" (fVar 1))
  (fsSeq (fsFld 0 "Wish" "word" (fVar 2))
  (fsFld 0 "Wish" "ticks" (fVar 3)))))))
def fr_Wish___init__ : FR := inF 3 4 "Wish" fs_Wish___init__
def fs_Keeps___init__ : FS := (fsFld 0 "Keeps" "pairs" (fB1 foTup (fVar 1)))
def fr_Keeps___init__ : FR := inF 1 2 "Keeps" fs_Keeps___init__
def fs_Fails___init__ : FS := (fsSeq (fsFld 0 "Fails" "events" (fB1 foTup (fVar 1)))
  (fsFld 0 "Fails" "rows" (fB1 foTup (fVar 2))))
def fr_Fails___init__ : FR := inF 2 3 "Fails" fs_Fails___init__
def fs_Stuck___init__ : FS := (fsFld 0 "Stuck" "events" (fB1 foTup (fVar 1)))
def fr_Stuck___init__ : FR := inF 1 2 "Stuck" fs_Stuck___init__
def fs__law_made : FS := (fsSeq (fsPar [1, 2] (fmF (fTup (faCons (fC (.str "x")) (faCons (fCall 2 fr__law_pick (faCons (fVar 0) (faCons (fLst (faCons (fC (.str "y")) (faCons (fC (.str "z")) faNil))) faNil))) faNil))) (fmF (fCall 2 fr__law_take (faCons (fVar 0) (faCons (fC (.int 3)) faNil))) fmNil)))
  (fsSeq (fsPar [3, 4] (fmF (fCall 2 fr__law_pick (faCons (fVar 0) (faCons (fLst (faCons (fC (.str "hi")) (faCons (fC (.str "lo")) faNil))) faNil))) (fmF (fCall 2 fr__law_pick (faCons (fVar 0) (faCons (fLst (faCons (fC (.str "none")) (faCons (fC (.str "outer")) faNil))) faNil))) fmNil)))
  (fsSeq (fsSet 5 (fDisp (fqCons (fC (.str "r")) (fTup (faCons (fC (.str "one")) (faCons (fC .non) faNil))) (fqCons (fC (.str "a")) (fTup (faCons (fC (.str "leaf")) (faCons (fC (.str "r")) faNil))) (fqCons (fC (.str "b")) (fTup (faCons (fC (.str "leaf")) (faCons (fC (.str "r")) faNil))) fqNil)))))
  (fsSeq (fsSet 6 (fCall 3 fr_Chart___init__ (faCons (fVar 5) (faCons (fLst (faCons (fTup (faCons (fC (.str "a")) (faCons (fC (.str "x")) (faCons (fC (.str "b")) (faCons (fLst (faCons (fVar 3) faNil)) faNil))))) faNil)) (faCons (fVar 4) faNil)))))
  (fsSeq (fsSet 7 (fLst (faCons (fTup (faCons (fVar 6) (faCons (fTup (faCons (fC (.str "Chart")) (faCons (fVar 3) (faCons (fVar 4) faNil)))) faNil))) (faCons (fTup (faCons (fCall 1 fr_One___init__ (faCons (fLst (faCons (fVar 1) faNil)) faNil)) (faCons (fTup (faCons (fC (.str "One")) (faCons (fVar 1) faNil))) faNil))) (faCons (fTup (faCons (fCall 3 fr_Two___init__ (faCons (fLst (faCons (fVar 3) faNil)) (faCons (fLst (faCons (fVar 1) faNil)) (faCons (fLst (faCons (fVar 1) faNil)) faNil)))) (faCons (fTup (faCons (fC (.str "Two")) (faCons (fVar 3) (faCons (fVar 1) faNil)))) faNil))) (faCons (fTup (faCons (fCall 2 fr_Endless___init__ (faCons (fLst (faCons (fVar 3) faNil)) (faCons (fLst (faCons (fVar 1) faNil)) faNil))) (faCons (fTup (faCons (fC (.str "Endless")) (faCons (fVar 3) (faCons (fVar 1) faNil)))) faNil))) (faCons (fTup (faCons (fCall 1 fr_Alike___init__ (faCons (fVar 2) faNil)) (faCons (fTup (faCons (fC (.str "Alike")) (faCons (fVar 2) faNil))) faNil))) (faCons (fTup (faCons (fCall 1 fr_Parts___init__ (faCons (fLst (faCons (fVar 3) faNil)) faNil)) (faCons (fTup (faCons (fC (.str "Parts")) (faCons (fVar 3) faNil))) faNil))) faNil))))))))
  (fsSeq (fsSet 7 (fOp foAdd (fVar 7) (fLst (faCons (fTup (faCons (fCall 2 fr_Flat___init__ (faCons (fLst (faCons (fVar 3) faNil)) (faCons (fLst (faCons (fDisp (fqCons (fVar 3) (fTup (faCons (fLst (faCons (fVar 4) faNil)) (faCons (fC (.int 0)) faNil))) fqNil)) faNil)) faNil))) (faCons (fTup (faCons (fC (.str "Flat")) (faCons (fVar 3) (faCons (fVar 4) faNil)))) faNil))) (faCons (fTup (faCons (fCall 1 fr_Led___init__ (faCons (fLst (faCons (fVar 3) faNil)) faNil)) (faCons (fTup (faCons (fC (.str "Led")) (faCons (fVar 3) faNil))) faNil))) (faCons (fTup (faCons (fCall 1 fr_Shut___init__ (faCons (fLst (faCons (fVar 1) faNil)) faNil)) (faCons (fTup (faCons (fC (.str "Shut")) (faCons (fVar 1) faNil))) faNil))) (faCons (fTup (faCons (fCall 1 fr_Apart___init__ (faCons (fVar 2) faNil)) (faCons (fTup (faCons (fC (.str "Apart")) (faCons (fVar 2) faNil))) faNil))) (faCons (fTup (faCons (fCall 3 fr_Clash___init__ (faCons (fVar 1) (faCons (fVar 2) (faCons (fC (.int 9)) faNil)))) (faCons (fTup (faCons (fC (.str "Clash")) (faCons (fVar 1) (faCons (fVar 2) faNil)))) faNil))) (faCons (fTup (faCons (fCall 1 fr_Fooled___init__ (faCons (fVar 6) faNil)) (faCons (fTup (faCons (fC (.str "Fooled")) (faCons (fVar 3) (faCons (fVar 4) faNil)))) faNil))) faNil)))))))))
  (fsSeq (fsSet 7 (fOp foAdd (fVar 7) (fLst (faCons (fTup (faCons (fCall 1 fr_Covered___init__ (faCons (fLst (faCons (fVar 3) faNil)) faNil)) (faCons (fTup (faCons (fC (.str "Covered")) (faCons (fVar 3) faNil))) faNil))) (faCons (fTup (faCons (fCall 1 fr_Plan___init__ (faCons (fDispT (fVar 1) (fVar 2)) faNil)) (faCons (fTup (faCons (fC (.str "Plan")) (faCons (fVar 1) (faCons (fVar 2) faNil)))) faNil))) (faCons (fTup (faCons (fCall 1 fr_Trap___init__ (faCons (fLst (faCons (fVar 1) faNil)) faNil)) (faCons (fTup (faCons (fC (.str "Trap")) (faCons (fVar 1) faNil))) faNil))) (faCons (fTup (faCons (fCall 1 fr_Guard___init__ (faCons (fDispT (fVar 1) (fLst (faCons (fVar 3) faNil))) faNil)) (faCons (fTup (faCons (fC (.str "Guard")) (faCons (fVar 1) (faCons (fVar 3) faNil)))) faNil))) (faCons (fTup (faCons (fCall 1 fr_Lost___init__ (faCons (fLst (faCons (fVar 3) faNil)) faNil)) (faCons (fTup (faCons (fC (.str "Lost")) (faCons (fVar 3) faNil))) faNil))) (faCons (fTup (faCons (fCall 1 fr_Merged___init__ (faCons (fVar 6) faNil)) (faCons (fTup (faCons (fC (.str "Merged")) (faCons (fVar 3) (faCons (fVar 4) faNil)))) faNil))) faNil)))))))))
  (fsRet (fOp foAdd (fVar 7) (fLst (faCons (fTup (faCons (fCall 1 fr_Conflict___init__ (faCons (fLst (faCons (fVar 1) faNil)) faNil)) (faCons (fTup (faCons (fC (.str "Conflict")) (faCons (fVar 1) faNil))) faNil))) (faCons (fTup (faCons (fCall 3 fr_Wish___init__ (faCons (fVar 3) (faCons (fC (.str "y")) (faCons (fVar 2) faNil)))) (faCons (fTup (faCons (fC (.str "Wish")) (faCons (fVar 3) (faCons (fVar 2) faNil)))) faNil))) (faCons (fTup (faCons (fCall 1 fr_Keeps___init__ (faCons (fLst (faCons (fVar 1) faNil)) faNil)) (faCons (fTup (faCons (fC (.str "Keeps")) (faCons (fVar 1) faNil))) faNil))) (faCons (fTup (faCons (fCall 2 fr_Fails___init__ (faCons (fLst (faCons (fVar 3) faNil)) (faCons (fLst (faCons (fVar 1) faNil)) faNil))) (faCons (fTup (faCons (fC (.str "Fails")) (faCons (fVar 3) (faCons (fVar 1) faNil)))) faNil))) (faCons (fTup (faCons (fCall 1 fr_Stuck___init__ (faCons (fLst (faCons (fVar 3) faNil)) faNil)) (faCons (fTup (faCons (fC (.str "Stuck")) (faCons (fVar 3) faNil))) faNil))) faNil)))))))))))))))
def fr__law_made : FR := fnF 1 8 fs__law_made
def fs_Chart___eq__ : FS := (fsSeq (fsIf (fNot (fT (fOp (foIsi own) (fVar 1) (fC (.cls "Chart"))))) (fsRet (fC (.bl false))) fsNext)
  (fsRet (fOp foEq (fTup (faCons (fFld ["Chart"] "order" (fVar 0)) (faCons (fFld ["Chart"] "rows" (fVar 0)) (faCons (fFld ["Chart"] "priority" (fVar 0)) faNil)))) (fTup (faCons (fFld ["Chart"] "order" (fVar 1)) (faCons (fFld ["Chart"] "rows" (fVar 1)) (faCons (fFld ["Chart"] "priority" (fVar 1)) faNil)))))))
def fr_Chart___eq__ : FR := fnF 2 2 fs_Chart___eq__
def fs_One___eq__ : FS := (fsRet (fAndV (fOp (foIsi own) (fVar 1) (fC (.cls "One"))) (fOp foEq (fFld ["One"] "pairs" (fVar 0)) (fFld ["One"] "pairs" (fVar 1)))))
def fr_One___eq__ : FR := fnF 2 2 fs_One___eq__
def fs_Two___eq__ : FS := (fsSeq (fsIf (fNot (fT (fOp (foIsi own) (fVar 1) (fC (.cls "Two"))))) (fsRet (fC (.bl false))) fsNext)
  (fsRet (fOp foEq (fTup (faCons (fFld ["Two"] "events" (fVar 0)) (faCons (fFld ["Two"] "one" (fVar 0)) (faCons (fFld ["Two"] "other" (fVar 0)) faNil)))) (fTup (faCons (fFld ["Two"] "events" (fVar 1)) (faCons (fFld ["Two"] "one" (fVar 1)) (faCons (fFld ["Two"] "other" (fVar 1)) faNil)))))))
def fr_Two___eq__ : FR := fnF 2 2 fs_Two___eq__
def fs_Endless___eq__ : FS := (fsRet (fAndV (fOp (foIsi own) (fVar 1) (fC (.cls "Endless"))) (fOp foEq (fTup (faCons (fFld ["Endless"] "events" (fVar 0)) (faCons (fFld ["Endless"] "ring" (fVar 0)) faNil))) (fTup (faCons (fFld ["Endless"] "events" (fVar 1)) (faCons (fFld ["Endless"] "ring" (fVar 1)) faNil))))))
def fr_Endless___eq__ : FR := fnF 2 2 fs_Endless___eq__
def fs_Flat___eq__ : FS := (fsRet (fAndV (fOp (foIsi own) (fVar 1) (fC (.cls "Flat"))) (fOx (oxEqX own []) (fTup (faCons (fFld ["Flat"] "events" (fVar 0)) (faCons (fFld ["Flat"] "rows" (fVar 0)) faNil))) (fTup (faCons (fFld ["Flat"] "events" (fVar 1)) (faCons (fFld ["Flat"] "rows" (fVar 1)) faNil))))))
def fr_Flat___eq__ : FR := fnF 2 2 fs_Flat___eq__
def fs_Alike___eq__ : FS := (fsRet (fAndV (fOp (foIsi own) (fVar 1) (fC (.cls "Alike"))) (fOp foEq (fFld ["Alike"] "pairs" (fVar 0)) (fFld ["Alike"] "pairs" (fVar 1)))))
def fr_Alike___eq__ : FR := fnF 2 2 fs_Alike___eq__
def fs_Parts___eq__ : FS := (fsRet (fAndV (fOp (foIsi own) (fVar 1) (fC (.cls "Parts"))) (fOp foEq (fFld ["Parts"] "events" (fVar 0)) (fFld ["Parts"] "events" (fVar 1)))))
def fr_Parts___eq__ : FR := fnF 2 2 fs_Parts___eq__
def tb_Fooled___eq___eq : Tab := [("Chart", fr_Chart___eq__)]
def fs_Fooled___eq__ : FS := (fsRet (fAndV (fOp (foIsi own) (fVar 1) (fC (.cls "Fooled"))) (fOx (oxEqX own tb_Fooled___eq___eq) (fFld ["Fooled"] "machine" (fVar 0)) (fFld ["Fooled"] "machine" (fVar 1)))))
def fr_Fooled___eq__ : FR := fnF 2 2 fs_Fooled___eq__
def fs_Led___eq__ : FS := (fsRet (fAndV (fOp (foIsi own) (fVar 1) (fC (.cls "Led"))) (fOp foEq (fFld ["Led"] "events" (fVar 0)) (fFld ["Led"] "events" (fVar 1)))))
def fr_Led___eq__ : FR := fnF 2 2 fs_Led___eq__
def fs_Shut___eq__ : FS := (fsRet (fAndV (fOp (foIsi own) (fVar 1) (fC (.cls "Shut"))) (fOp foEq (fFld ["Shut"] "standings" (fVar 0)) (fFld ["Shut"] "standings" (fVar 1)))))
def fr_Shut___eq__ : FR := fnF 2 2 fs_Shut___eq__
def fs_Apart___eq__ : FS := (fsRet (fAndV (fOp (foIsi own) (fVar 1) (fC (.cls "Apart"))) (fOp foEq (fFld ["Apart"] "standings" (fVar 0)) (fFld ["Apart"] "standings" (fVar 1)))))
def fr_Apart___eq__ : FR := fnF 2 2 fs_Apart___eq__
def fs_Clash___eq__ : FS := (fsSeq (fsIf (fNot (fT (fOp (foIsi own) (fVar 1) (fC (.cls "Clash"))))) (fsRet (fC (.bl false))) fsNext)
  (fsRet (fOp foEq (fTup (faCons (fFld ["Clash"] "standing" (fVar 0)) (faCons (fFld ["Clash"] "one" (fVar 0)) (faCons (fFld ["Clash"] "other" (fVar 0)) faNil)))) (fTup (faCons (fFld ["Clash"] "standing" (fVar 1)) (faCons (fFld ["Clash"] "one" (fVar 1)) (faCons (fFld ["Clash"] "other" (fVar 1)) faNil)))))))
def fr_Clash___eq__ : FR := fnF 2 2 fs_Clash___eq__
def fs_Covered___eq__ : FS := (fsRet (fAndV (fOp (foIsi own) (fVar 1) (fC (.cls "Covered"))) (fOp foEq (fFld ["Covered"] "events" (fVar 0)) (fFld ["Covered"] "events" (fVar 1)))))
def fr_Covered___eq__ : FR := fnF 2 2 fs_Covered___eq__
def fs_Plan___eq__ : FS := (fsRet (fAndV (fOp (foIsi own) (fVar 1) (fC (.cls "Plan"))) (fOx (oxEqX own []) (fFld ["Plan"] "book" (fVar 0)) (fFld ["Plan"] "book" (fVar 1)))))
def fr_Plan___eq__ : FR := fnF 2 2 fs_Plan___eq__
def fs_Trap___eq__ : FS := (fsRet (fAndV (fOp (foIsi own) (fVar 1) (fC (.cls "Trap"))) (fOp foEq (fFld ["Trap"] "standings" (fVar 0)) (fFld ["Trap"] "standings" (fVar 1)))))
def fr_Trap___eq__ : FR := fnF 2 2 fs_Trap___eq__
def fs_Guard___eq__ : FS := (fsRet (fAndV (fOp (foIsi own) (fVar 1) (fC (.cls "Guard"))) (fOx (oxEqX own []) (fFld ["Guard"] "book" (fVar 0)) (fFld ["Guard"] "book" (fVar 1)))))
def fr_Guard___eq__ : FR := fnF 2 2 fs_Guard___eq__
def fs_Lost___eq__ : FS := (fsRet (fAndV (fOp (foIsi own) (fVar 1) (fC (.cls "Lost"))) (fOp foEq (fFld ["Lost"] "events" (fVar 0)) (fFld ["Lost"] "events" (fVar 1)))))
def fr_Lost___eq__ : FR := fnF 2 2 fs_Lost___eq__
def tb_Merged___eq___eq : Tab := [("Chart", fr_Chart___eq__)]
def fs_Merged___eq__ : FS := (fsRet (fAndV (fOp (foIsi own) (fVar 1) (fC (.cls "Merged"))) (fOx (oxEqX own tb_Merged___eq___eq) (fFld ["Merged"] "chart" (fVar 0)) (fFld ["Merged"] "chart" (fVar 1)))))
def fr_Merged___eq__ : FR := fnF 2 2 fs_Merged___eq__
def fs_Conflict___eq__ : FS := (fsRet (fAndV (fOp (foIsi own) (fVar 1) (fC (.cls "Conflict"))) (fOp foEq (fFld ["Conflict"] "parts" (fVar 0)) (fFld ["Conflict"] "parts" (fVar 1)))))
def fr_Conflict___eq__ : FR := fnF 2 2 fs_Conflict___eq__
def fs_Wish___eq__ : FS := (fsSeq (fsIf (fNot (fT (fOp (foIsi own) (fVar 1) (fC (.cls "Wish"))))) (fsRet (fC (.bl false))) fsNext)
  (fsRet (fOp foEq (fTup (faCons (fFld ["Wish"] "event" (fVar 0)) (faCons (fFld ["Wish"] "word" (fVar 0)) (faCons (fFld ["Wish"] "ticks" (fVar 0)) faNil)))) (fTup (faCons (fFld ["Wish"] "event" (fVar 1)) (faCons (fFld ["Wish"] "word" (fVar 1)) (faCons (fFld ["Wish"] "ticks" (fVar 1)) faNil)))))))
def fr_Wish___eq__ : FR := fnF 2 2 fs_Wish___eq__
def fs_Keeps___eq__ : FS := (fsRet (fAndV (fOp (foIsi own) (fVar 1) (fC (.cls "Keeps"))) (fOp foEq (fFld ["Keeps"] "pairs" (fVar 0)) (fFld ["Keeps"] "pairs" (fVar 1)))))
def fr_Keeps___eq__ : FR := fnF 2 2 fs_Keeps___eq__
def fs_Fails___eq__ : FS := (fsRet (fAndV (fOp (foIsi own) (fVar 1) (fC (.cls "Fails"))) (fOp foEq (fTup (faCons (fFld ["Fails"] "events" (fVar 0)) (faCons (fFld ["Fails"] "rows" (fVar 0)) faNil))) (fTup (faCons (fFld ["Fails"] "events" (fVar 1)) (faCons (fFld ["Fails"] "rows" (fVar 1)) faNil))))))
def fr_Fails___eq__ : FR := fnF 2 2 fs_Fails___eq__
def fs_Stuck___eq__ : FS := (fsRet (fAndV (fOp (foIsi own) (fVar 1) (fC (.cls "Stuck"))) (fOp foEq (fFld ["Stuck"] "events" (fVar 0)) (fFld ["Stuck"] "events" (fVar 1)))))
def fr_Stuck___eq__ : FR := fnF 2 2 fs_Stuck___eq__
def fs_One___bool__ : FS := (fsRet (fC (.bl true)))
def fr_One___bool__ : FR := fnF 1 1 fs_One___bool__
def fs_Two___bool__ : FS := (fsRet (fC (.bl false)))
def fr_Two___bool__ : FR := fnF 1 1 fs_Two___bool__
def fs_Endless___bool__ : FS := (fsRet (fC (.bl false)))
def fr_Endless___bool__ : FR := fnF 1 1 fs_Endless___bool__
def fs_Alike___bool__ : FS := (fsRet (fC (.bl true)))
def fr_Alike___bool__ : FR := fnF 1 1 fs_Alike___bool__
def fs_Parts___bool__ : FS := (fsRet (fC (.bl false)))
def fr_Parts___bool__ : FR := fnF 1 1 fs_Parts___bool__
def fs_Fooled___bool__ : FS := (fsRet (fC (.bl false)))
def fr_Fooled___bool__ : FR := fnF 1 1 fs_Fooled___bool__
def fs_Led___bool__ : FS := (fsRet (fC (.bl true)))
def fr_Led___bool__ : FR := fnF 1 1 fs_Led___bool__
def fs_Shut___bool__ : FS := (fsRet (fC (.bl false)))
def fr_Shut___bool__ : FR := fnF 1 1 fs_Shut___bool__
def fs_Apart___bool__ : FS := (fsRet (fC (.bl true)))
def fr_Apart___bool__ : FR := fnF 1 1 fs_Apart___bool__
def fs_Clash___bool__ : FS := (fsRet (fC (.bl false)))
def fr_Clash___bool__ : FR := fnF 1 1 fs_Clash___bool__
def fs_Plan___bool__ : FS := (fsRet (fC (.bl true)))
def fr_Plan___bool__ : FR := fnF 1 1 fs_Plan___bool__
def fs_Trap___bool__ : FS := (fsRet (fC (.bl false)))
def fr_Trap___bool__ : FR := fnF 1 1 fs_Trap___bool__
def fs_Guard___bool__ : FS := (fsRet (fC (.bl true)))
def fr_Guard___bool__ : FR := fnF 1 1 fs_Guard___bool__
def fs_Lost___bool__ : FS := (fsRet (fC (.bl false)))
def fr_Lost___bool__ : FR := fnF 1 1 fs_Lost___bool__
def fs_Merged___bool__ : FS := (fsRet (fC (.bl true)))
def fr_Merged___bool__ : FR := fnF 1 1 fs_Merged___bool__
def fs_Conflict___bool__ : FS := (fsRet (fC (.bl false)))
def fr_Conflict___bool__ : FR := fnF 1 1 fs_Conflict___bool__
def fs_Keeps___bool__ : FS := (fsRet (fC (.bl true)))
def fr_Keeps___bool__ : FR := fnF 1 1 fs_Keeps___bool__
def fs_Fails___bool__ : FS := (fsRet (fC (.bl false)))
def fr_Fails___bool__ : FR := fnF 1 1 fs_Fails___bool__
def fs_Stuck___bool__ : FS := (fsRet (fC (.bl false)))
def fr_Stuck___bool__ : FR := fnF 1 1 fs_Stuck___bool__
def tb_law_eq : Tab := [("Chart", fr_Chart___eq__), ("One", fr_One___eq__), ("Two", fr_Two___eq__), ("Endless", fr_Endless___eq__), ("Flat", fr_Flat___eq__), ("Alike", fr_Alike___eq__), ("Parts", fr_Parts___eq__), ("Fooled", fr_Fooled___eq__), ("Led", fr_Led___eq__), ("Shut", fr_Shut___eq__), ("Apart", fr_Apart___eq__), ("Clash", fr_Clash___eq__), ("Covered", fr_Covered___eq__), ("Plan", fr_Plan___eq__), ("Trap", fr_Trap___eq__), ("Guard", fr_Guard___eq__), ("Lost", fr_Lost___eq__), ("Merged", fr_Merged___eq__), ("Conflict", fr_Conflict___eq__), ("Wish", fr_Wish___eq__), ("Keeps", fr_Keeps___eq__), ("Fails", fr_Fails___eq__), ("Stuck", fr_Stuck___eq__)]
def tb_law_bool : Tab := [("One", fr_One___bool__), ("Two", fr_Two___bool__), ("Endless", fr_Endless___bool__), ("Alike", fr_Alike___bool__), ("Parts", fr_Parts___bool__), ("Fooled", fr_Fooled___bool__), ("Led", fr_Led___bool__), ("Shut", fr_Shut___bool__), ("Apart", fr_Apart___bool__), ("Clash", fr_Clash___bool__), ("Plan", fr_Plan___bool__), ("Trap", fr_Trap___bool__), ("Guard", fr_Guard___bool__), ("Lost", fr_Lost___bool__), ("Merged", fr_Merged___bool__), ("Conflict", fr_Conflict___bool__), ("Keeps", fr_Keeps___bool__), ("Fails", fr_Fails___bool__), ("Stuck", fr_Stuck___bool__)]
/-- found = _law_made(draw) + _law_made(draw) -/
def fs_law_1 : FS := (fsSet 2 (fOp foAdd (fCall 1 fr__law_made (faCons (fVar 1) faNil)) (fCall 1 fr__law_made (faCons (fVar 1) faNil))))
/-- return False -/
def fs_law_2 : FS := (fsRet (fC (.bl false)))
/-- if (one == other) != (told == late) or (one != other) != (told != late): -/
def fs_law_3 : FS := (fsIf (fOr (fT (fOx (oxEq own tb_law_eq true) (fOx (oxEqX own tb_law_eq) (fVar 3) (fVar 5)) (fOx (oxEqX own tb_law_eq) (fVar 4) (fVar 6)))) (fT (fOx (oxEq own tb_law_eq true) (fOx (oxEq own tb_law_eq true) (fVar 3) (fVar 5)) (fOx (oxEq own tb_law_eq true) (fVar 4) (fVar 6))))) fs_law_2 fsNext)
/-- for other, late in found: -/
def fs_law_4 : FS := (fsFor (fiSeq (fVar 2)) (fgT 2 (fgCons (fgN 5) (fgCons (fgN 6) fgNil))) fs_law_3)
/-- return False -/
def fs_law_5 : FS := (fsRet (fC (.bl false)))
/-- if one == thing: -/
def fs_law_6 : FS := (fsIf (fT (fOx (oxEqX own tb_law_eq) (fVar 3) (fVar 7))) fs_law_5 fsNext)
/-- for thing in (None, 0, 'a', (), {}, told): -/
def fs_law_7 : FS := (fsFor (fiSeq (fTup (faCons (fC .non) (faCons (fC (.int 0)) (faCons (fC (.str "a")) (faCons (fTup faNil) (faCons (fC (.dct [] [])) (faCons (fVar 4) faNil)))))))) (fgN 7) fs_law_6)
/-- for one, told in found: -/
def fs_law_8 : FS := (fsFor (fiSeq (fVar 2)) (fgT 2 (fgCons (fgN 3) (fgCons (fgN 4) fgNil))) (fsSeq fs_law_4
  fs_law_7))
/-- named = dict([(told[0], one) for one, told in found]) -/
def fs_law_9 : FS := (fsSet 8 (fB1 foDictU (fLc (fiSeq (fVar 2)) [3, 4] (fgT 2 (fgCons (fgN 3) (fgCons (fgN 4) fgNil))) ftYes (fTup (faCons (fOp foIx (fVar 4) (fC (.int 0))) (faCons (fVar 3) faNil))))))
/-- return False -/
def fs_law_10 : FS := (fsRet (fC (.bl false)))
/-- if not all([bool(named[name]) for name in ('One', 'Alike', 'Led', 'Apart', 'Plan', 'Guard', 'Merged', 'Keeps')]): -/
def fs_law_11 : FS := (fsIf (fNot (fT (fB1 foAll (fLc (fiSeq (fTup (faCons (fC (.str "One")) (faCons (fC (.str "Alike")) (faCons (fC (.str "Led")) (faCons (fC (.str "Apart")) (faCons (fC (.str "Plan")) (faCons (fC (.str "Guard")) (faCons (fC (.str "Merged")) (faCons (fC (.str "Keeps")) faNil)))))))))) [9] (fgN 9) ftYes (fBool tb_law_bool (fOp foIx (fVar 8) (fVar 9))))))) fs_law_10 fsNext)
/-- return False -/
def fs_law_12 : FS := (fsRet (fC (.bl false)))
/-- if any([bool(named[name]) for name in ('Two', 'Endless', 'Parts', 'Shut', 'Clash', 'Fooled', 'Trap', 'Lost', 'Conflict', 'Fails', 'Stuck')]): -/
def fs_law_13 : FS := (fsIf (fT (fB1 foAny (fLc (fiSeq (fTup (faCons (fC (.str "Two")) (faCons (fC (.str "Endless")) (faCons (fC (.str "Parts")) (faCons (fC (.str "Shut")) (faCons (fC (.str "Clash")) (faCons (fC (.str "Fooled")) (faCons (fC (.str "Trap")) (faCons (fC (.str "Lost")) (faCons (fC (.str "Conflict")) (faCons (fC (.str "Fails")) (faCons (fC (.str "Stuck")) faNil))))))))))))) [9] (fgN 9) ftYes (fBool tb_law_bool (fOp foIx (fVar 8) (fVar 9)))))) fs_law_12 fsNext)
/-- states = [('r', ('one', None)), ('a', ('leaf', 'r')), ('b', ('leaf', 'r'))] -/
def fs_law_14 : FS := (fsSet 10 (fLst (faCons (fTup (faCons (fC (.str "r")) (faCons (fTup (faCons (fC (.str "one")) (faCons (fC .non) faNil))) faNil))) (faCons (fTup (faCons (fC (.str "a")) (faCons (fTup (faCons (fC (.str "leaf")) (faCons (fC (.str "r")) faNil))) faNil))) (faCons (fTup (faCons (fC (.str "b")) (faCons (fTup (faCons (fC (.str "leaf")) (faCons (fC (.str "r")) faNil))) faNil))) faNil)))))
/-- turned = Chart(dict([states[0], states[2], states[1]]), [], 'none') -/
def fs_law_15 : FS := (fsSet 11 (fCall 3 fr_Chart___init__ (faCons (fB1 foDictU (fLst (faCons (fOp foIx (fVar 10) (fC (.int 0))) (faCons (fOp foIx (fVar 10) (fC (.int 2))) (faCons (fOp foIx (fVar 10) (fC (.int 1))) faNil))))) (faCons (fLst faNil) (faCons (fC (.str "none")) faNil)))))
/-- return Chart(dict(states), [], 'none') != turned and Flat(['x'], [{'x': (['hi'], 0)}]).rows == ({'x': (('hi',), 0)},) and (Chart(dict(states), [('a', 'x', 'b', ['hi'])], 'none').rows == (('a', 'x', 'b', ('hi',)),)) -/
def fs_law_16 : FS := (fsRet (fAndV (fOx (oxEq own tb_law_eq true) (fCall 3 fr_Chart___init__ (faCons (fB1 foDictU (fVar 10)) (faCons (fLst faNil) (faCons (fC (.str "none")) faNil)))) (fVar 11)) (fAndV (fOx (oxEqX own tb_law_eq) (fFld ["Flat"] "rows" (fCall 2 fr_Flat___init__ (faCons (fLst (faCons (fC (.str "x")) faNil)) (faCons (fLst (faCons (fDisp (fqCons (fC (.str "x")) (fTup (faCons (fLst (faCons (fC (.str "hi")) faNil)) (faCons (fC (.int 0)) faNil))) fqNil)) faNil)) faNil)))) (fTup (faCons (fDisp (fqCons (fC (.str "x")) (fTup (faCons (fTup (faCons (fC (.str "hi")) faNil)) (faCons (fC (.int 0)) faNil))) fqNil)) faNil))) (fOx (oxEqX own tb_law_eq) (fFld ["Chart"] "rows" (fCall 3 fr_Chart___init__ (faCons (fB1 foDictU (fVar 10)) (faCons (fLst (faCons (fTup (faCons (fC (.str "a")) (faCons (fC (.str "x")) (faCons (fC (.str "b")) (faCons (fLst (faCons (fC (.str "hi")) faNil)) faNil))))) faNil)) (faCons (fC (.str "none")) faNil))))) (fTup (faCons (fTup (faCons (fC (.str "a")) (faCons (fC (.str "x")) (faCons (fC (.str "b")) (faCons (fTup (faCons (fC (.str "hi")) faNil)) faNil))))) faNil))))))
def fs_law : FS := (fsSeq fs_law_1
  (fsSeq fs_law_8
  (fsSeq fs_law_9
  (fsSeq fs_law_11
  (fsSeq fs_law_13
  (fsSeq fs_law_14
  (fsSeq fs_law_15
  fs_law_16)))))))
def fr_law (ns : List Int) : Tr Out := fs_law (startL 12 ns)
end K18
namespace K18
open PySem PySem.Spec PyProof.Rows L2
open U
variable [Wo]
theorem sc__law_pick : FnScope ["draw", "items"] ["draw", "items"] (defScope s__law_pick) := ⟨rfl, rfl, rfl, by decide +kernel, rfl, by decide +kernel, by decide +kernel⟩
theorem b__law_pick {V : Wd} (G : Gf V) (f__law_take : Fn V 2 "_law_take" 2 (fwOf fr__law_take)) {f : Addr} (cdv : Value) (A : Around) (outer : List Env) (s : Shared) (H : Hp) (E : XK) (c : Ctx 2 (bodyX V ["draw", "items"] "_law_pick" (defScope s__law_pick) f cdv A outer s H E) E) : VB (bodyX V ["draw", "items"] "_law_pick" (defScope s__law_pick) f cdv A outer s H E) E (defBody s__law_pick) fs__law_pick :=
  (vb_one (vs_ret (ve_ix c.w c.hu (VE.o (ve_var 1 (pv 1))) (VE.o (ve_call c f__law_take (by decide) rfl (va_cons (ve_var 0 (pv 0)) (va_cons (ve_len rfl G.n_len (VE.o (ve_var 1 (pv 1)))) va_nil)))) (fun _ _ => rfl))))
theorem sc_is_name : FnScope ["thing", "sign"] ["thing"] (defScope s_is_name) := ⟨rfl, rfl, rfl, by decide +kernel, rfl, by decide +kernel, by decide +kernel⟩
theorem b_is_name {V : Wd} (G : Gf V)  {f : Addr} (cdv : Value) (A : Around) (outer : List Env) (s : Shared) (H : Hp) (E : XK) (c : Ctx 0 (bodyX V ["thing", "sign"] "is_name" (defScope s_is_name) f cdv A outer s H E) E) : VB (bodyX V ["thing", "sign"] "is_name" (defScope s_is_name) f cdv A outer s H E) E (defBody s_is_name) fs_is_name :=
  (vb_cons (vs_if (UW.t' (vw_or (vt_not (vt_val (ve_isi G.isf rfl G.n_isinstance (VE.o (ve_var 0 (pv 0))) (ve_c (ue_ty rfl G.n_str boot_str))))) (vw_or (vt_not (vt_chain cv_le cv_le (VE.o ve_int) (VE.o (ve_len rfl G.n_len (VE.o (ve_var 0 (pv 0))))) (VE.o (ve_c (ue_gint rfl G.c_MOST_NAME))))) (vw_or1 (vt_cmp (cv_notIn c.w c.hu65) (VE.o (ve_ix c.w c.hu (VE.o (ve_var 0 (pv 0))) (VE.o ve_int) (fun _ _ => rfl))) (VE.o (ve_c (ue_gstr rfl G.c_SMALL))) rfl))))) (vb_one (vs_ret ve_bl)) vb_nil)
  (vb_one (vs_ret (ve_all c.calm rfl G.n_all (VE.o (VF.ue (vf_lc (own := [("sign", 1)]) c.calm c.nd (vi_str (ve_var 0 (pv 0))) (blkOk_by (by first | decide +kernel | rfl)) (by decide) (fun s1 H1 C1 l1 f1 => (vg_name (c.blk s1 H1 C1 l1 f1).nd rfl (by first | exact Or.inl rfl | exact Or.inr rfl))) (fun s1 H1 C1 l1 f1 => vps_nil) (fun s1 H1 C1 l1 f1 => (ve_or (ve_cmp (cv_in (c.blk s1 H1 C1 l1 f1).w (c.blk s1 H1 C1 l1 f1).hu65) (VE.o (ve_var 1 (pv 1))) (VE.o (ve_c (ue_gstr rfl G.c_SMALL))) rfl) (ve_one (ve_cmp (cv_in (c.blk s1 H1 C1 l1 f1).w (c.blk s1 H1 C1 l1 f1).hu65) (VE.o (ve_var 1 (pv 1))) (VE.o (ve_c (ue_gstr rfl G.c_FIGURES))) rfl)))))))))))
theorem sc_is_state : FnScope ["ahead", "states", "name", "told"] ["ahead", "states", "name", "told"] (defScope s_is_state) := ⟨rfl, rfl, rfl, by decide +kernel, rfl, by decide +kernel, by decide +kernel⟩
theorem b_is_state {V : Wd} (G : Gf V) (f_is_name : Fn V 1 "is_name" 1 (fwOf fr_is_name)) {f : Addr} (cdv : Value) (A : Around) (outer : List Env) (s : Shared) (H : Hp) (E : XK) (c : Ctx 1 (bodyX V ["ahead", "states", "name", "told"] "is_state" (defScope s_is_state) f cdv A outer s H E) E) : VB (bodyX V ["ahead", "states", "name", "told"] "is_state" (defScope s_is_state) f cdv A outer s H E) E (defBody s_is_state) fs_is_state :=
  (vb_cons (vs_if (UW.t' (vw_or (vt_not (vt_val (ve_call c f_is_name (by decide) rfl (va_cons (ve_var 2 (pv 2)) va_nil)))) (vw_or (vt_cmp (cv_in c.w c.hu65) (VE.o (ve_var 2 (pv 2))) (VE.o (ve_tup (va_cons ve_str (va_cons ve_str va_nil)))) rfl) (vw_or (vt_not (vt_val (ve_isi G.isf rfl G.n_isinstance (VE.o (ve_var 3 (pv 3))) (ve_c (ue_ty rfl G.n_tuple boot_tuple))))) (vw_or1 (vt_cmp (cv_ne c.hu) (VE.o (ve_len rfl G.n_len (VE.o (ve_var 3 (pv 3))))) (VE.o ve_int) rfl)))))) (vb_one (vs_ret ve_bl)) vb_nil)
  (vb_cons (vs_if (UW.t' (vw_or (vt_not (vt_val (ve_isi G.isf rfl G.n_isinstance (VE.o (ve_ix c.w c.hu (VE.o (ve_var 3 (pv 3))) (VE.o ve_int) (fun _ _ => rfl))) (ve_c (ue_ty rfl G.n_str boot_str))))) (vw_or1 (vt_notInG rfl G.g_KINDS G.t_KINDS (ve_ix c.w c.hu (VE.o (ve_var 3 (pv 3))) (VE.o ve_int) (fun _ _ => rfl)) rfl)))) (vb_one (vs_ret ve_bl)) vb_nil)
  (vb_cons (vs_if (vt_cmp (cv_eq c.hu) (VE.o (ve_var 0 (pv 0))) (VE.o (VF.ue (vf_lst va_nil))) rfl) (vb_one (vs_ret (ve_and (ve_cmp cv_is (VE.o (ve_ix c.w c.hu (VE.o (ve_var 3 (pv 3))) (VE.o ve_int) (fun _ _ => rfl))) (VE.o ve_non) rfl) (ve_one (ve_cmp (cv_eq c.hu) (VE.o (ve_ix c.w c.hu (VE.o (ve_var 3 (pv 3))) (VE.o ve_int) (fun _ _ => rfl))) (VE.o ve_str) rfl))))) vb_nil)
  (vb_one (vs_ret (ve_and (ve_isi G.isf rfl G.n_isinstance (VE.o (ve_ix c.w c.hu (VE.o (ve_var 3 (pv 3))) (VE.o ve_int) (fun _ _ => rfl))) (ve_c (ue_ty rfl G.n_str boot_str))) (ve_and (ve_cmp (cv_in c.w c.hu65) (VE.o (ve_ix c.w c.hu (VE.o (ve_var 3 (pv 3))) (VE.o ve_int) (fun _ _ => rfl))) (VE.o (ve_var 0 (pv 0))) rfl) (ve_one (ve_cmp (cv_ne c.hu) (VE.o (ve_ix c.w c.hu (VE.o (ve_ix c.w c.hu (VE.o (ve_var 1 (pv 1))) (VE.o (ve_ix c.w c.hu (VE.o (ve_var 3 (pv 3))) (VE.o ve_int) (fun _ _ => rfl))) (fun _ _ => rfl))) (VE.o ve_int) (fun _ _ => rfl))) (VE.o ve_str) rfl)))))))))
theorem sc_is_row : FnScope ["thing"] ["thing"] (defScope s_is_row) := ⟨rfl, rfl, rfl, by decide +kernel, rfl, by decide +kernel, by decide +kernel⟩
theorem b_is_row {V : Wd} (G : Gf V)  {f : Addr} (cdv : Value) (A : Around) (outer : List Env) (s : Shared) (H : Hp) (E : XK) (c : Ctx 0 (bodyX V ["thing"] "is_row" (defScope s_is_row) f cdv A outer s H E) E) : VB (bodyX V ["thing"] "is_row" (defScope s_is_row) f cdv A outer s H E) E (defBody s_is_row) fs_is_row :=
  (vb_one (vs_ret (ve_isi G.isf rfl G.n_isinstance (VE.o (ve_var 0 (pv 0))) (ve_tup (va_cons (ve_c (ue_ty rfl G.n_list boot_list)) (va_cons (ve_c (ue_ty rfl G.n_tuple boot_tuple)) va_nil))))))
theorem sc_is_target : FnScope ["states", "thing", "one"] ["states", "thing"] (defScope s_is_target) := ⟨rfl, rfl, rfl, by decide +kernel, rfl, by decide +kernel, by decide +kernel⟩
theorem b_is_target {V : Wd} (G : Gf V)  {f : Addr} (cdv : Value) (A : Around) (outer : List Env) (s : Shared) (H : Hp) (E : XK) (c : Ctx 0 (bodyX V ["states", "thing", "one"] "is_target" (defScope s_is_target) f cdv A outer s H E) E) : VB (bodyX V ["states", "thing", "one"] "is_target" (defScope s_is_target) f cdv A outer s H E) E (defBody s_is_target) fs_is_target :=
  (vb_cons (vs_if (vt_val (ve_isi G.isf rfl G.n_isinstance (VE.o (ve_var 1 (pv 1))) (ve_c (ue_ty rfl G.n_str boot_str)))) (vb_one (vs_ret (ve_and (ve_cmp (cv_in c.w c.hu65) (VE.o (ve_var 1 (pv 1))) (VE.o (ve_var 0 (pv 0))) rfl) (ve_one (ve_cmp cv_isNot (VE.o (ve_ix c.w c.hu (VE.o (ve_ix c.w c.hu (VE.o (ve_var 0 (pv 0))) (VE.o (ve_var 1 (pv 1))) (fun _ _ => rfl))) (VE.o ve_int) (fun _ _ => rfl))) (VE.o ve_non) rfl))))) vb_nil)
  (vb_cons (vs_if (UW.t' (vw_or (vt_not (vt_val (ve_isi G.isf rfl G.n_isinstance (VE.o (ve_var 1 (pv 1))) (ve_c (ue_ty rfl G.n_tuple boot_tuple))))) (vw_or (vt_cmp (cv_ne c.hu) (VE.o (ve_len rfl G.n_len (VE.o (ve_var 1 (pv 1))))) (VE.o ve_int) rfl) (vw_or1 (vt_not (vt_val (ve_all c.calm rfl G.n_all (VE.o (VF.ue (vf_lc (own := [("one", 2)]) c.calm c.nd (vi_seq (ve_var 1 (pv 1))) (blkOk_by (by first | decide +kernel | rfl)) (by decide) (fun s1 H1 C1 l1 f1 => (vg_name (c.blk s1 H1 C1 l1 f1).nd rfl (by first | exact Or.inl rfl | exact Or.inr rfl))) (fun s1 H1 C1 l1 f1 => vps_nil) (fun s1 H1 C1 l1 f1 => (ve_isi G.isf rfl G.n_isinstance (VE.o (ve_var 2 (pv 2))) (ve_c (ue_ty rfl G.n_str boot_str)))))))))))))) (vb_one (vs_ret ve_bl)) vb_nil)
  (vb_cons (vs_if (UW.t' (vw_or (vt_cmp (cv_notIn c.w c.hu65) (VE.o (ve_ix c.w c.hu (VE.o (ve_var 1 (pv 1))) (VE.o ve_int) (fun _ _ => rfl))) (VE.o (ve_tup (va_cons ve_str (va_cons ve_str va_nil)))) rfl) (vw_or1 (vt_cmp (cv_notIn c.w c.hu65) (VE.o (ve_ix c.w c.hu (VE.o (ve_var 1 (pv 1))) (VE.o ve_int) (fun _ _ => rfl))) (VE.o (ve_var 0 (pv 0))) rfl)))) (vb_one (vs_ret ve_bl)) vb_nil)
  (vb_one (vs_ret (ve_and (ve_cmp (cv_eq c.hu) (VE.o (ve_ix c.w c.hu (VE.o (ve_ix c.w c.hu (VE.o (ve_var 0 (pv 0))) (VE.o (ve_ix c.w c.hu (VE.o (ve_var 1 (pv 1))) (VE.o ve_int) (fun _ _ => rfl))) (fun _ _ => rfl))) (VE.o ve_int) (fun _ _ => rfl))) (VE.o ve_str) rfl) (ve_one (ve_cmp cv_isNot (VE.o (ve_ix c.w c.hu (VE.o (ve_ix c.w c.hu (VE.o (ve_var 0 (pv 0))) (VE.o (ve_ix c.w c.hu (VE.o (ve_var 1 (pv 1))) (VE.o ve_int) (fun _ _ => rfl))) (fun _ _ => rfl))) (VE.o ve_int) (fun _ _ => rfl))) (VE.o ve_non) rfl))))))))
theorem sc_is_integer : FnScope ["thing"] ["thing"] (defScope s_is_integer) := ⟨rfl, rfl, rfl, by decide +kernel, rfl, by decide +kernel, by decide +kernel⟩
theorem b_is_integer {V : Wd} (G : Gf V)  {f : Addr} (cdv : Value) (A : Around) (outer : List Env) (s : Shared) (H : Hp) (E : XK) (c : Ctx 0 (bodyX V ["thing"] "is_integer" (defScope s_is_integer) f cdv A outer s H E) E) : VB (bodyX V ["thing"] "is_integer" (defScope s_is_integer) f cdv A outer s H E) E (defBody s_is_integer) fs_is_integer :=
  (vb_one (vs_ret (ve_and (ve_isi G.isf rfl G.n_isinstance (VE.o (ve_var 0 (pv 0))) (ve_c (ue_ty rfl G.n_int boot_int))) (ve_one (ve_not (ve_isi G.isf rfl G.n_isinstance (VE.o (ve_var 0 (pv 0))) (ve_c (ue_ty rfl G.n_bool boot_bool))))))))
theorem sc_is_number : FnScope ["thing", "least", "most"] ["thing", "least", "most"] (defScope s_is_number) := ⟨rfl, rfl, rfl, by decide +kernel, rfl, by decide +kernel, by decide +kernel⟩
theorem b_is_number {V : Wd} (G : Gf V) (f_is_integer : Fn V 1 "is_integer" 1 (fwOf fr_is_integer)) {f : Addr} (cdv : Value) (A : Around) (outer : List Env) (s : Shared) (H : Hp) (E : XK) (c : Ctx 1 (bodyX V ["thing", "least", "most"] "is_number" (defScope s_is_number) f cdv A outer s H E) E) : VB (bodyX V ["thing", "least", "most"] "is_number" (defScope s_is_number) f cdv A outer s H E) E (defBody s_is_number) fs_is_number :=
  (vb_one (vs_ret (ve_and (ve_call c f_is_integer (by decide) rfl (va_cons (ve_var 0 (pv 0)) va_nil)) (ve_one (ve_chain cv_le cv_le (VE.o (ve_var 1 (pv 1))) (VE.o (ve_var 0 (pv 0))) (VE.o (ve_var 2 (pv 2))))))))
theorem sc_is_event : FnScope ["thing"] ["thing"] (defScope s_is_event) := ⟨rfl, rfl, rfl, by decide +kernel, rfl, by decide +kernel, by decide +kernel⟩
theorem b_is_event {V : Wd} (G : Gf V) (f_is_name : Fn V 1 "is_name" 1 (fwOf fr_is_name)) (f_is_number : Fn V 2 "is_number" 3 (fwOf fr_is_number)) {f : Addr} (cdv : Value) (A : Around) (outer : List Env) (s : Shared) (H : Hp) (E : XK) (c : Ctx 2 (bodyX V ["thing"] "is_event" (defScope s_is_event) f cdv A outer s H E) E) : VB (bodyX V ["thing"] "is_event" (defScope s_is_event) f cdv A outer s H E) E (defBody s_is_event) fs_is_event :=
  (vb_cons (vs_if (vt_val (ve_isi G.isf rfl G.n_isinstance (VE.o (ve_var 0 (pv 0))) (ve_c (ue_ty rfl G.n_str boot_str)))) (vb_one (vs_ret (ve_and (ve_call c f_is_name (by decide) rfl (va_cons (ve_var 0 (pv 0)) va_nil)) (ve_one (ve_cmp (cv_notIn c.w c.hu65) (VE.o (ve_var 0 (pv 0))) (VE.o (ve_tup (va_cons (ve_c (ue_gstr rfl G.c_TICK)) (va_cons ve_str va_nil)))) rfl))))) vb_nil)
  (vb_cons (vs_if (UW.t' (vw_or (vt_not (vt_val (ve_isi G.isf rfl G.n_isinstance (VE.o (ve_var 0 (pv 0))) (ve_c (ue_ty rfl G.n_tuple boot_tuple))))) (vw_or (vt_cmp (cv_ne c.hu) (VE.o (ve_len rfl G.n_len (VE.o (ve_var 0 (pv 0))))) (VE.o ve_int) rfl) (vw_or1 (vt_not (vt_val (ve_isi G.isf rfl G.n_isinstance (VE.o (ve_ix c.w c.hu (VE.o (ve_var 0 (pv 0))) (VE.o ve_int) (fun _ _ => rfl))) (ve_c (ue_ty rfl G.n_str boot_str))))))))) (vb_one (vs_ret ve_bl)) vb_nil)
  (vb_one (vs_ret (ve_and (ve_cmp (cv_eq c.hu) (VE.o (ve_ix c.w c.hu (VE.o (ve_var 0 (pv 0))) (VE.o ve_int) (fun _ _ => rfl))) (VE.o ve_str) rfl) (ve_one (ve_call c f_is_number (by decide) rfl (va_cons (ve_ix c.w c.hu (VE.o (ve_var 0 (pv 0))) (VE.o ve_int) (fun _ _ => rfl)) (va_cons ve_int (va_cons (ve_c (ue_gint rfl G.c_MOST_AFTER)) va_nil))))))))))
theorem sc_is_chart_row : FnScope ["states", "row", "one"] ["states", "row"] (defScope s_is_chart_row) := ⟨rfl, rfl, rfl, by decide +kernel, rfl, by decide +kernel, by decide +kernel⟩
theorem b_is_chart_row {V : Wd} (G : Gf V) (f_is_target : Fn V 1 "is_target" 2 (fwOf fr_is_target)) (f_is_event : Fn V 3 "is_event" 1 (fwOf fr_is_event)) (f_is_name : Fn V 1 "is_name" 1 (fwOf fr_is_name)) (f_is_row : Fn V 1 "is_row" 1 (fwOf fr_is_row)) {f : Addr} (cdv : Value) (A : Around) (outer : List Env) (s : Shared) (H : Hp) (E : XK) (c : Ctx 3 (bodyX V ["states", "row", "one"] "is_chart_row" (defScope s_is_chart_row) f cdv A outer s H E) E) : VB (bodyX V ["states", "row", "one"] "is_chart_row" (defScope s_is_chart_row) f cdv A outer s H E) E (defBody s_is_chart_row) fs_is_chart_row :=
  (vb_cons (vs_if (UW.t' (vw_or (vt_not (vt_val (ve_isi G.isf rfl G.n_isinstance (VE.o (ve_var 1 (pv 1))) (ve_c (ue_ty rfl G.n_tuple boot_tuple))))) (vw_or1 (vt_cmp (cv_ne c.hu) (VE.o (ve_len rfl G.n_len (VE.o (ve_var 1 (pv 1))))) (VE.o ve_int) rfl)))) (vb_one (vs_ret ve_bl)) vb_nil)
  (vb_cons (vs_if (UW.t' (vw_or (vt_not (vt_val (ve_isi G.isf rfl G.n_isinstance (VE.o (ve_ix c.w c.hu (VE.o (ve_var 1 (pv 1))) (VE.o ve_int) (fun _ _ => rfl))) (ve_c (ue_ty rfl G.n_str boot_str))))) (vw_or (vt_cmp (cv_notIn c.w c.hu65) (VE.o (ve_ix c.w c.hu (VE.o (ve_var 1 (pv 1))) (VE.o ve_int) (fun _ _ => rfl))) (VE.o (ve_var 0 (pv 0))) rfl) (vw_or1 (vt_cmp cv_is (VE.o (ve_ix c.w c.hu (VE.o (ve_ix c.w c.hu (VE.o (ve_var 0 (pv 0))) (VE.o (ve_ix c.w c.hu (VE.o (ve_var 1 (pv 1))) (VE.o ve_int) (fun _ _ => rfl))) (fun _ _ => rfl))) (VE.o ve_int) (fun _ _ => rfl))) (VE.o ve_non) rfl))))) (vb_one (vs_ret ve_bl)) vb_nil)
  (vb_cons (vs_if (UW.t' (vw_or (vt_not (vt_val (ve_call c f_is_event (by decide) rfl (va_cons (ve_ix c.w c.hu (VE.o (ve_var 1 (pv 1))) (VE.o ve_int) (fun _ _ => rfl)) va_nil)))) (vw_or1 (vt_not (vt_val (ve_call c f_is_target (by decide) rfl (va_cons (ve_var 0 (pv 0)) (va_cons (ve_ix c.w c.hu (VE.o (ve_var 1 (pv 1))) (VE.o ve_int) (fun _ _ => rfl)) va_nil)))))))) (vb_one (vs_ret ve_bl)) vb_nil)
  (vb_one (vs_ret (ve_and (ve_call c f_is_row (by decide) rfl (va_cons (ve_ix c.w c.hu (VE.o (ve_var 1 (pv 1))) (VE.o ve_int) (fun _ _ => rfl)) va_nil)) (ve_and (ve_cmp cv_le (VE.o (ve_len rfl G.n_len (VE.o (ve_ix c.w c.hu (VE.o (ve_var 1 (pv 1))) (VE.o ve_int) (fun _ _ => rfl))))) (VE.o ve_int) rfl) (ve_one (ve_all c.calm rfl G.n_all (VE.o (VF.ue (vf_lc (own := [("one", 2)]) c.calm c.nd (vi_seq (ve_ix c.w c.hu (VE.o (ve_var 1 (pv 1))) (VE.o ve_int) (fun _ _ => rfl))) (blkOk_by (by first | decide +kernel | rfl)) (by decide) (fun s1 H1 C1 l1 f1 => (vg_name (c.blk s1 H1 C1 l1 f1).nd rfl (by first | exact Or.inl rfl | exact Or.inr rfl))) (fun s1 H1 C1 l1 f1 => vps_nil) (fun s1 H1 C1 l1 f1 => (ve_and (ve_call (c.blk s1 H1 C1 l1 f1) f_is_name (by decide) rfl (va_cons (ve_var 2 (pv 2)) va_nil)) (ve_one (ve_cmp (cv_ne (c.blk s1 H1 C1 l1 f1).hu) (VE.o (ve_var 2 (pv 2))) (VE.o (ve_c (ue_gstr rfl G.c_TICK))) rfl))))))))))))))))
theorem sc_Chart___init__ : FnScope ["self", "states", "rows", "priority", "at", "name", "told", "kept", "kind", "above", "other", "number", "row", "source", "event", "target", "said"] ["self", "states", "rows", "priority"] (defScope s_Chart___init__) := ⟨rfl, rfl, rfl, by decide +kernel, rfl, by decide +kernel, by decide +kernel⟩
theorem b_Chart___init__ {V : Wd} (G : Gf V) (f_is_state : Fn V 2 "is_state" 4 (fwOf fr_is_state)) (f_is_row : Fn V 1 "is_row" 1 (fwOf fr_is_row)) (f_is_chart_row : Fn V 4 "is_chart_row" 2 (fwOf fr_is_chart_row)) {f : Addr} (cdv : Value) (A : Around) (outer : List Env) (s : Shared) (H : Hp) (E : XK) (c : Ctx 4 (bodyX V ["self", "states", "rows", "priority", "at", "name", "told", "kept", "kind", "above", "other", "number", "row", "source", "event", "target", "said"] "Chart.__init__" (defScope s_Chart___init__) f cdv A outer s H E) E) : VB (bodyX V ["self", "states", "rows", "priority", "at", "name", "told", "kept", "kind", "above", "other", "number", "row", "source", "event", "target", "said"] "Chart.__init__" (defScope s_Chart___init__) f cdv A outer s H E) E (defBody s_Chart___init__) fs_Chart___init__ :=
  (vb_cons (vs_if (UW.t' (vw_or (vt_not (vt_val (ve_isi G.isf rfl G.n_isinstance (VE.o (ve_var 1 (pv 1))) (ve_c (ue_ty rfl G.n_dict boot_dict))))) (vw_or1 (vt_not (vt_chain cv_le cv_le (VE.o ve_int) (VE.o (ve_len rfl G.n_len (VE.o (ve_var 1 (pv 1))))) (VE.o (ve_c (ue_gint rfl G.c_MOST_STATES)))))))) (vb_one vs_dead) vb_nil)
  (vb_cons (vs_for c.po c.calm (vi_enumI rfl G.n_enumerate (ve_var 1 (pv 1))) (vg_tup c.calm (vgs_cons (vg_name c.nd rfl (by first | exact Or.inl rfl | exact Or.inr rfl)) (vgs_cons (vg_tup c.calm (vgs_cons (vg_name c.nd rfl (by first | exact Or.inl rfl | exact Or.inr rfl)) (vgs_cons (vg_name c.nd rfl (by first | exact Or.inl rfl | exact Or.inr rfl)) vgs_nil))) vgs_nil))) (vb_one (vs_if (vt_not (vt_val (ve_call c f_is_state (by decide) rfl (va_cons (ve_cut (VE.o (ve_listKeys c.calm rfl G.n_list (ve_var 1 (pv 1)))) vp_none (vp_some (ve_var 4 (pv 4)))) (va_cons (ve_var 1 (pv 1)) (va_cons (ve_var 5 (pv 5)) (va_cons (ve_var 6 (pv 6)) va_nil))))))) (vb_one vs_dead) vb_nil)))
  (vb_cons (vs_setDc (i := 7) (own := [("name", 5), ("told", 6)]) c.calm c.nd rfl rfl (swD_true rfl rfl rfl (by first | decide +kernel | rfl)) (vi_items (ve_var 1 (pv 1))) (blkOk_by (by first | decide +kernel | rfl)) (by decide) (fun s1 H1 C1 l1 f1 => (vg_tup (c.blk s1 H1 C1 l1 f1).calm (vgs_cons (vg_name (c.blk s1 H1 C1 l1 f1).nd rfl (by first | exact Or.inl rfl | exact Or.inr rfl)) (vgs_cons (vg_name (c.blk s1 H1 C1 l1 f1).nd rfl (by first | exact Or.inl rfl | exact Or.inr rfl)) vgs_nil)))) (fun s1 H1 C1 l1 f1 => vps_nil) (fun s1 H1 C1 l1 f1 => (ve_var 5 (pv 5))) (fun s1 H1 C1 l1 f1 => (ve_tup (va_cons (ve_ix (c.blk s1 H1 C1 l1 f1).w (c.blk s1 H1 C1 l1 f1).hu (VE.o (ve_var 6 (pv 6))) (VE.o ve_int) (fun _ _ => rfl)) (va_cons (ve_ix (c.blk s1 H1 C1 l1 f1).w (c.blk s1 H1 C1 l1 f1).hu (VE.o (ve_var 6 (pv 6))) (VE.o ve_int) (fun _ _ => rfl)) va_nil)))))
  (vb_cons (vs_frz 7 (vs_for c.po c.calm (vi_items (ve_var 7 (pv 7))) (vg_tup c.calm (vgs_cons (vg_name c.nd rfl (by first | exact Or.inl rfl | exact Or.inr rfl)) (vgs_cons (vg_tup c.calm (vgs_cons (vg_name c.nd rfl (by first | exact Or.inl rfl | exact Or.inr rfl)) (vgs_cons (vg_name c.nd rfl (by first | exact Or.inl rfl | exact Or.inr rfl)) vgs_nil))) vgs_nil))) (vb_one (vs_if (UW.t' (vw_and (vt_cmp (cv_ne c.hu) (VE.o (ve_var 8 (pv 8))) (VE.o ve_str) rfl) (vw_and1 (vt_not (vt_val (ve_any c.calm rfl G.n_any (VE.o (VF.ue (vf_lc (own := [("other", 10)]) c.calm c.nd (vi_vals (ve_var 7 (pv 7))) (blkOk_by (by first | decide +kernel | rfl)) (by decide) (fun s1 H1 C1 l1 f1 => (vg_name (c.blk s1 H1 C1 l1 f1).nd rfl (by first | exact Or.inl rfl | exact Or.inr rfl))) (fun s1 H1 C1 l1 f1 => vps_nil) (fun s1 H1 C1 l1 f1 => (ve_cmp (cv_eq (c.blk s1 H1 C1 l1 f1).hu) (VE.o (ve_ix (c.blk s1 H1 C1 l1 f1).w (c.blk s1 H1 C1 l1 f1).hu (VE.o (ve_var 10 (pv 10))) (VE.o ve_int) (fun _ _ => rfl))) (VE.o (ve_var 5 (pv 5))) rfl))))))))))) (vb_one vs_dead) vb_nil))))
  (vb_cons (vs_if (UW.t' (vw_or (vt_not (vt_val (ve_call c f_is_row (by decide) rfl (va_cons (ve_var 2 (pv 2)) va_nil)))) (vw_or1 (vt_cmp cv_gt (VE.o (ve_len rfl G.n_len (VE.o (ve_var 2 (pv 2))))) (VE.o (ve_c (ue_gint rfl G.c_MOST_ROWS))) rfl)))) (vb_one vs_dead) vb_nil)
  (vb_cons (vs_for c.po c.calm (vi_enum rfl G.n_enumerate (ve_var 2 (pv 2))) (vg_tup c.calm (vgs_cons (vg_name c.nd rfl (by first | exact Or.inl rfl | exact Or.inr rfl)) (vgs_cons (vg_name c.nd rfl (by first | exact Or.inl rfl | exact Or.inr rfl)) vgs_nil))) (vb_one (vs_if (vt_not (vt_val (ve_call c f_is_chart_row (by decide) rfl (va_cons (ve_var 7 (pv 7)) (va_cons (ve_var 12 (pv 12)) va_nil))))) (vb_one vs_dead) vb_nil)))
  (vb_cons (vs_if (UW.t' (vw_or (vt_not (vt_val (ve_isi G.isf rfl G.n_isinstance (VE.o (ve_var 3 (pv 3))) (ve_c (ue_ty rfl G.n_str boot_str))))) (vw_or1 (vt_notInG rfl G.g_PRIORITIES G.t_PRIORITIES (ve_var 3 (pv 3)) rfl)))) (vb_one vs_dead) vb_nil)
  (vb_cons (vs_fld "Chart" G.k_Chart G.a_Chart_states (pv 0) (ve_var 7 (pv 7)))
  (vb_cons (vs_fld "Chart" G.k_Chart G.a_Chart_order (pv 0) (ve_tupleItems c.calm rfl G.n_tuple (ve_var 7 (pv 7))))
  (vb_cons (vs_fld "Chart" G.k_Chart G.a_Chart_rows (pv 0) (ve_tupleOf rfl G.n_tuple (VE.o (VF.ue (vf_lc (own := [("source", 13), ("event", 14), ("target", 15), ("said", 16)]) c.calm c.nd (vi_seq (ve_var 2 (pv 2))) (blkOk_by (by first | decide +kernel | rfl)) (by decide) (fun s1 H1 C1 l1 f1 => (vg_tup (c.blk s1 H1 C1 l1 f1).calm (vgs_cons (vg_name (c.blk s1 H1 C1 l1 f1).nd rfl (by first | exact Or.inl rfl | exact Or.inr rfl)) (vgs_cons (vg_name (c.blk s1 H1 C1 l1 f1).nd rfl (by first | exact Or.inl rfl | exact Or.inr rfl)) (vgs_cons (vg_name (c.blk s1 H1 C1 l1 f1).nd rfl (by first | exact Or.inl rfl | exact Or.inr rfl)) (vgs_cons (vg_name (c.blk s1 H1 C1 l1 f1).nd rfl (by first | exact Or.inl rfl | exact Or.inr rfl)) vgs_nil)))))) (fun s1 H1 C1 l1 f1 => vps_nil) (fun s1 H1 C1 l1 f1 => (ve_tup (va_cons (ve_var 13 (pv 13)) (va_cons (ve_var 14 (pv 14)) (va_cons (ve_var 15 (pv 15)) (va_cons (ve_tupleOf rfl G.n_tuple (VE.o (ve_var 16 (pv 16)))) va_nil)))))))))))
  (vb_one (vs_fld "Chart" G.k_Chart G.a_Chart_priority (pv 0) (ve_var 3 (pv 3))))))))))))))
theorem sc_One___init__ : FnScope ["self", "pairs"] ["self", "pairs"] (defScope s_One___init__) := ⟨rfl, rfl, rfl, by decide +kernel, rfl, by decide +kernel, by decide +kernel⟩
theorem b_One___init__ {V : Wd} (G : Gf V)  {f : Addr} (cdv : Value) (A : Around) (outer : List Env) (s : Shared) (H : Hp) (E : XK) (c : Ctx 0 (bodyX V ["self", "pairs"] "One.__init__" (defScope s_One___init__) f cdv A outer s H E) E) : VB (bodyX V ["self", "pairs"] "One.__init__" (defScope s_One___init__) f cdv A outer s H E) E (defBody s_One___init__) fs_One___init__ :=
  (vb_one (vs_fld "One" G.k_One G.a_One_pairs (pv 0) (ve_tupleOf rfl G.n_tuple (VE.o (ve_var 1 (pv 1))))))
theorem sc_Two___init__ : FnScope ["self", "events", "one", "other"] ["self", "events", "one", "other"] (defScope s_Two___init__) := ⟨rfl, rfl, rfl, by decide +kernel, rfl, by decide +kernel, by decide +kernel⟩
theorem b_Two___init__ {V : Wd} (G : Gf V)  {f : Addr} (cdv : Value) (A : Around) (outer : List Env) (s : Shared) (H : Hp) (E : XK) (c : Ctx 0 (bodyX V ["self", "events", "one", "other"] "Two.__init__" (defScope s_Two___init__) f cdv A outer s H E) E) : VB (bodyX V ["self", "events", "one", "other"] "Two.__init__" (defScope s_Two___init__) f cdv A outer s H E) E (defBody s_Two___init__) fs_Two___init__ :=
  (vb_cons (vs_fld "Two" G.k_Two G.a_Two_events (pv 0) (ve_tupleOf rfl G.n_tuple (VE.o (ve_var 1 (pv 1)))))
  (vb_cons (vs_fld "Two" G.k_Two G.a_Two_one (pv 0) (ve_tupleOf rfl G.n_tuple (VE.o (ve_var 2 (pv 2)))))
  (vb_one (vs_fld "Two" G.k_Two G.a_Two_other (pv 0) (ve_tupleOf rfl G.n_tuple (VE.o (ve_var 3 (pv 3))))))))
theorem sc_Endless___init__ : FnScope ["self", "events", "ring"] ["self", "events", "ring"] (defScope s_Endless___init__) := ⟨rfl, rfl, rfl, by decide +kernel, rfl, by decide +kernel, by decide +kernel⟩
theorem b_Endless___init__ {V : Wd} (G : Gf V)  {f : Addr} (cdv : Value) (A : Around) (outer : List Env) (s : Shared) (H : Hp) (E : XK) (c : Ctx 0 (bodyX V ["self", "events", "ring"] "Endless.__init__" (defScope s_Endless___init__) f cdv A outer s H E) E) : VB (bodyX V ["self", "events", "ring"] "Endless.__init__" (defScope s_Endless___init__) f cdv A outer s H E) E (defBody s_Endless___init__) fs_Endless___init__ :=
  (vb_cons (vs_fld "Endless" G.k_Endless G.a_Endless_events (pv 0) (ve_tupleOf rfl G.n_tuple (VE.o (ve_var 1 (pv 1)))))
  (vb_one (vs_fld "Endless" G.k_Endless G.a_Endless_ring (pv 0) (ve_tupleOf rfl G.n_tuple (VE.o (ve_var 2 (pv 2)))))))
theorem sc_Alike___init__ : FnScope ["self", "pairs"] ["self", "pairs"] (defScope s_Alike___init__) := ⟨rfl, rfl, rfl, by decide +kernel, rfl, by decide +kernel, by decide +kernel⟩
theorem b_Alike___init__ {V : Wd} (G : Gf V)  {f : Addr} (cdv : Value) (A : Around) (outer : List Env) (s : Shared) (H : Hp) (E : XK) (c : Ctx 0 (bodyX V ["self", "pairs"] "Alike.__init__" (defScope s_Alike___init__) f cdv A outer s H E) E) : VB (bodyX V ["self", "pairs"] "Alike.__init__" (defScope s_Alike___init__) f cdv A outer s H E) E (defBody s_Alike___init__) fs_Alike___init__ :=
  (vb_one (vs_fld "Alike" G.k_Alike G.a_Alike_pairs (pv 0) (ve_var 1 (pv 1))))
theorem sc_Parts___init__ : FnScope ["self", "events"] ["self", "events"] (defScope s_Parts___init__) := ⟨rfl, rfl, rfl, by decide +kernel, rfl, by decide +kernel, by decide +kernel⟩
theorem b_Parts___init__ {V : Wd} (G : Gf V)  {f : Addr} (cdv : Value) (A : Around) (outer : List Env) (s : Shared) (H : Hp) (E : XK) (c : Ctx 0 (bodyX V ["self", "events"] "Parts.__init__" (defScope s_Parts___init__) f cdv A outer s H E) E) : VB (bodyX V ["self", "events"] "Parts.__init__" (defScope s_Parts___init__) f cdv A outer s H E) E (defBody s_Parts___init__) fs_Parts___init__ :=
  (vb_one (vs_fld "Parts" G.k_Parts G.a_Parts_events (pv 0) (ve_tupleOf rfl G.n_tuple (VE.o (ve_var 1 (pv 1))))))
theorem sc_is_step : FnScope ["thing", "many", "word"] ["thing", "many"] (defScope s_is_step) := ⟨rfl, rfl, rfl, by decide +kernel, rfl, by decide +kernel, by decide +kernel⟩
theorem b_is_step {V : Wd} (G : Gf V) (f_is_row : Fn V 1 "is_row" 1 (fwOf fr_is_row)) (f_is_number : Fn V 2 "is_number" 3 (fwOf fr_is_number)) {f : Addr} (cdv : Value) (A : Around) (outer : List Env) (s : Shared) (H : Hp) (E : XK) (c : Ctx 2 (bodyX V ["thing", "many", "word"] "is_step" (defScope s_is_step) f cdv A outer s H E) E) : VB (bodyX V ["thing", "many", "word"] "is_step" (defScope s_is_step) f cdv A outer s H E) E (defBody s_is_step) fs_is_step :=
  (vb_cons (vs_if (UW.t' (vw_or (vt_not (vt_val (ve_isi G.isf rfl G.n_isinstance (VE.o (ve_var 0 (pv 0))) (ve_c (ue_ty rfl G.n_tuple boot_tuple))))) (vw_or (vt_cmp (cv_ne c.hu) (VE.o (ve_len rfl G.n_len (VE.o (ve_var 0 (pv 0))))) (VE.o ve_int) rfl) (vw_or1 (vt_not (vt_val (ve_call c f_is_row (by decide) rfl (va_cons (ve_ix c.w c.hu (VE.o (ve_var 0 (pv 0))) (VE.o ve_int) (fun _ _ => rfl)) va_nil)))))))) (vb_one (vs_ret ve_bl)) vb_nil)
  (vb_one (vs_ret (ve_and (ve_all c.calm rfl G.n_all (VE.o (VF.ue (vf_lc (own := [("word", 2)]) c.calm c.nd (vi_seq (ve_ix c.w c.hu (VE.o (ve_var 0 (pv 0))) (VE.o ve_int) (fun _ _ => rfl))) (blkOk_by (by first | decide +kernel | rfl)) (by decide) (fun s1 H1 C1 l1 f1 => (vg_name (c.blk s1 H1 C1 l1 f1).nd rfl (by first | exact Or.inl rfl | exact Or.inr rfl))) (fun s1 H1 C1 l1 f1 => vps_nil) (fun s1 H1 C1 l1 f1 => (ve_isi G.isf rfl G.n_isinstance (VE.o (ve_var 2 (pv 2))) (ve_c (ue_ty rfl G.n_str boot_str)))))))) (ve_one (ve_call c f_is_number (by decide) rfl (va_cons (ve_ix c.w c.hu (VE.o (ve_var 0 (pv 0))) (VE.o ve_int) (fun _ _ => rfl)) (va_cons ve_int (va_cons (ve_sub (VE.o (ve_var 1 (pv 1))) (VE.o ve_int)) va_nil)))))))))
theorem sc_Flat___init__ : FnScope ["self", "events", "rows", "event", "number", "row"] ["self", "events", "rows"] (defScope s_Flat___init__) := ⟨rfl, rfl, rfl, by decide +kernel, rfl, by decide +kernel, by decide +kernel⟩
theorem b_Flat___init__ {V : Wd} (G : Gf V) (f_is_name : Fn V 1 "is_name" 1 (fwOf fr_is_name)) (f_is_row : Fn V 1 "is_row" 1 (fwOf fr_is_row)) (f_is_step : Fn V 3 "is_step" 2 (fwOf fr_is_step)) {f : Addr} (cdv : Value) (A : Around) (outer : List Env) (s : Shared) (H : Hp) (E : XK) (c : Ctx 3 (bodyX V ["self", "events", "rows", "event", "number", "row"] "Flat.__init__" (defScope s_Flat___init__) f cdv A outer s H E) E) : VB (bodyX V ["self", "events", "rows", "event", "number", "row"] "Flat.__init__" (defScope s_Flat___init__) f cdv A outer s H E) E (defBody s_Flat___init__) fs_Flat___init__ :=
  (vb_cons (vs_if (UW.t' (vw_or (vt_not (vt_val (ve_call c f_is_row (by decide) rfl (va_cons (ve_var 1 (pv 1)) va_nil)))) (vw_or (vt_not (vt_val (ve_all c.calm rfl G.n_all (VE.o (VF.ue (vf_lc (own := [("event", 3)]) c.calm c.nd (vi_seq (ve_var 1 (pv 1))) (blkOk_by (by first | decide +kernel | rfl)) (by decide) (fun s1 H1 C1 l1 f1 => (vg_name (c.blk s1 H1 C1 l1 f1).nd rfl (by first | exact Or.inl rfl | exact Or.inr rfl))) (fun s1 H1 C1 l1 f1 => vps_nil) (fun s1 H1 C1 l1 f1 => (ve_call (c.blk s1 H1 C1 l1 f1) f_is_name (by decide) rfl (va_cons (ve_var 3 (pv 3)) va_nil))))))))) (vw_or1 (vt_cmp cv_lt (VE.o (ve_lenSet c.calm rfl G.n_len rfl G.n_set (ve_var 1 (pv 1)))) (VE.o (ve_len rfl G.n_len (VE.o (ve_var 1 (pv 1))))) rfl))))) (vb_one vs_dead) vb_nil)
  (vb_cons (vs_if (UW.t' (vw_or (vt_not (vt_val (ve_call c f_is_row (by decide) rfl (va_cons (ve_var 2 (pv 2)) va_nil)))) (vw_or1 (vt_cmp (cv_eq c.hu) (VE.o (ve_len rfl G.n_len (VE.o (ve_var 2 (pv 2))))) (VE.o ve_int) rfl)))) (vb_one vs_dead) vb_nil)
  (vb_cons (vs_for c.po c.calm (vi_enum rfl G.n_enumerate (ve_var 2 (pv 2))) (vg_tup c.calm (vgs_cons (vg_name c.nd rfl (by first | exact Or.inl rfl | exact Or.inr rfl)) (vgs_cons (vg_name c.nd rfl (by first | exact Or.inl rfl | exact Or.inr rfl)) vgs_nil))) (vb_cons (vs_if (UW.t' (vw_or (vt_not (vt_val (ve_isi G.isf rfl G.n_isinstance (VE.o (ve_var 5 (pv 5))) (ve_c (ue_ty rfl G.n_dict boot_dict))))) (vw_or1 (vt_cmp (cv_ne c.hu) (VE.o (ve_len rfl G.n_len (VE.o (ve_var 5 (pv 5))))) (VE.o (ve_len rfl G.n_len (VE.o (ve_var 1 (pv 1))))) rfl)))) (vb_one vs_dead) vb_nil)
  (vb_one (vs_if (vt_not (vt_val (ve_all c.calm rfl G.n_all (VE.o (VF.ue (vf_lc (own := [("event", 3)]) c.calm c.nd (vi_seq (ve_var 1 (pv 1))) (blkOk_by (by first | decide +kernel | rfl)) (by decide) (fun s1 H1 C1 l1 f1 => (vg_name (c.blk s1 H1 C1 l1 f1).nd rfl (by first | exact Or.inl rfl | exact Or.inr rfl))) (fun s1 H1 C1 l1 f1 => vps_nil) (fun s1 H1 C1 l1 f1 => (ve_and (ve_cmp (cv_in (c.blk s1 H1 C1 l1 f1).w (c.blk s1 H1 C1 l1 f1).hu65) (VE.o (ve_var 3 (pv 3))) (VE.o (ve_var 5 (pv 5))) rfl) (ve_one (ve_call (c.blk s1 H1 C1 l1 f1) f_is_step (by decide) rfl (va_cons (ve_ix (c.blk s1 H1 C1 l1 f1).w (c.blk s1 H1 C1 l1 f1).hu (VE.o (ve_var 5 (pv 5))) (VE.o (ve_var 3 (pv 3))) (fun _ _ => rfl)) (va_cons (ve_len rfl G.n_len (VE.o (ve_var 2 (pv 2)))) va_nil)))))))))))) (vb_one vs_dead) vb_nil))))
  (vb_cons (vs_fld "Flat" G.k_Flat G.a_Flat_events (pv 0) (ve_tupleOf rfl G.n_tuple (VE.o (ve_var 1 (pv 1)))))
  (vb_one (vs_fld "Flat" G.k_Flat G.a_Flat_rows (pv 0) (ve_tupleOf rfl G.n_tuple (VE.o (VF.ue (vf_lc (own := [("row", 5)]) c.calm c.nd (vi_seq (ve_var 2 (pv 2))) (blkOk_by (by first | decide +kernel | rfl)) (by decide) (fun s1 H1 C1 l1 f1 => (vg_name (c.blk s1 H1 C1 l1 f1).nd rfl (by first | exact Or.inl rfl | exact Or.inr rfl))) (fun s1 H1 C1 l1 f1 => vps_nil) (fun s1 H1 C1 l1 f1 => (VF.ue (vf_dc (own := [("event", 3)]) (c.blk s1 H1 C1 l1 f1).calm (c.blk s1 H1 C1 l1 f1).nd (vi_seq (ve_var 1 (pv 1))) (blkOk_by (by first | decide +kernel | rfl)) (by decide) (fun s2 H2 C2 l2 f2 => (vg_name ((c.blk s1 H1 C1 l1 f1).blk s2 H2 C2 l2 f2).nd rfl (by first | exact Or.inl rfl | exact Or.inr rfl))) (fun s2 H2 C2 l2 f2 => vps_nil) (fun s2 H2 C2 l2 f2 => (ve_var 3 (pv 3))) (fun s2 H2 C2 l2 f2 => (ve_tup (va_cons (ve_tupleOf rfl G.n_tuple (VE.o (ve_ix ((c.blk s1 H1 C1 l1 f1).blk s2 H2 C2 l2 f2).w ((c.blk s1 H1 C1 l1 f1).blk s2 H2 C2 l2 f2).hu (VE.o (ve_ix ((c.blk s1 H1 C1 l1 f1).blk s2 H2 C2 l2 f2).w ((c.blk s1 H1 C1 l1 f1).blk s2 H2 C2 l2 f2).hu (VE.o (ve_var 5 (pv 5))) (VE.o (ve_var 3 (pv 3))) (fun _ _ => rfl))) (VE.o ve_int) (fun _ _ => rfl)))) (va_cons (ve_ix ((c.blk s1 H1 C1 l1 f1).blk s2 H2 C2 l2 f2).w ((c.blk s1 H1 C1 l1 f1).blk s2 H2 C2 l2 f2).hu (VE.o (ve_ix ((c.blk s1 H1 C1 l1 f1).blk s2 H2 C2 l2 f2).w ((c.blk s1 H1 C1 l1 f1).blk s2 H2 C2 l2 f2).hu (VE.o (ve_var 5 (pv 5))) (VE.o (ve_var 3 (pv 3))) (fun _ _ => rfl))) (VE.o ve_int) (fun _ _ => rfl)) va_nil)))))))))))))))))
theorem sc_Led___init__ : FnScope ["self", "events"] ["self", "events"] (defScope s_Led___init__) := ⟨rfl, rfl, rfl, by decide +kernel, rfl, by decide +kernel, by decide +kernel⟩
theorem b_Led___init__ {V : Wd} (G : Gf V)  {f : Addr} (cdv : Value) (A : Around) (outer : List Env) (s : Shared) (H : Hp) (E : XK) (c : Ctx 0 (bodyX V ["self", "events"] "Led.__init__" (defScope s_Led___init__) f cdv A outer s H E) E) : VB (bodyX V ["self", "events"] "Led.__init__" (defScope s_Led___init__) f cdv A outer s H E) E (defBody s_Led___init__) fs_Led___init__ :=
  (vb_one (vs_fld "Led" G.k_Led G.a_Led_events (pv 0) (ve_tupleOf rfl G.n_tuple (VE.o (ve_var 1 (pv 1))))))
theorem sc_Shut___init__ : FnScope ["self", "standings"] ["self", "standings"] (defScope s_Shut___init__) := ⟨rfl, rfl, rfl, by decide +kernel, rfl, by decide +kernel, by decide +kernel⟩
theorem b_Shut___init__ {V : Wd} (G : Gf V)  {f : Addr} (cdv : Value) (A : Around) (outer : List Env) (s : Shared) (H : Hp) (E : XK) (c : Ctx 0 (bodyX V ["self", "standings"] "Shut.__init__" (defScope s_Shut___init__) f cdv A outer s H E) E) : VB (bodyX V ["self", "standings"] "Shut.__init__" (defScope s_Shut___init__) f cdv A outer s H E) E (defBody s_Shut___init__) fs_Shut___init__ :=
  (vb_one (vs_fld "Shut" G.k_Shut G.a_Shut_standings (pv 0) (ve_tupleOf rfl G.n_tuple (VE.o (ve_var 1 (pv 1))))))
theorem sc_Apart___init__ : FnScope ["self", "standings"] ["self", "standings"] (defScope s_Apart___init__) := ⟨rfl, rfl, rfl, by decide +kernel, rfl, by decide +kernel, by decide +kernel⟩
theorem b_Apart___init__ {V : Wd} (G : Gf V)  {f : Addr} (cdv : Value) (A : Around) (outer : List Env) (s : Shared) (H : Hp) (E : XK) (c : Ctx 0 (bodyX V ["self", "standings"] "Apart.__init__" (defScope s_Apart___init__) f cdv A outer s H E) E) : VB (bodyX V ["self", "standings"] "Apart.__init__" (defScope s_Apart___init__) f cdv A outer s H E) E (defBody s_Apart___init__) fs_Apart___init__ :=
  (vb_one (vs_fld "Apart" G.k_Apart G.a_Apart_standings (pv 0) (ve_var 1 (pv 1))))
theorem sc_Clash___init__ : FnScope ["self", "standing", "one", "other"] ["self", "standing", "one", "other"] (defScope s_Clash___init__) := ⟨rfl, rfl, rfl, by decide +kernel, rfl, by decide +kernel, by decide +kernel⟩
theorem b_Clash___init__ {V : Wd} (G : Gf V)  {f : Addr} (cdv : Value) (A : Around) (outer : List Env) (s : Shared) (H : Hp) (E : XK) (c : Ctx 0 (bodyX V ["self", "standing", "one", "other"] "Clash.__init__" (defScope s_Clash___init__) f cdv A outer s H E) E) : VB (bodyX V ["self", "standing", "one", "other"] "Clash.__init__" (defScope s_Clash___init__) f cdv A outer s H E) E (defBody s_Clash___init__) fs_Clash___init__ :=
  (vb_cons (vs_fld "Clash" G.k_Clash G.a_Clash_standing (pv 0) (ve_var 1 (pv 1)))
  (vb_cons (vs_fld "Clash" G.k_Clash G.a_Clash_one (pv 0) (ve_var 2 (pv 2)))
  (vb_one (vs_fld "Clash" G.k_Clash G.a_Clash_other (pv 0) (ve_var 3 (pv 3))))))
theorem sc_Fooled___init__ : FnScope ["self", "machine"] ["self", "machine"] (defScope s_Fooled___init__) := ⟨rfl, rfl, rfl, by decide +kernel, rfl, by decide +kernel, by decide +kernel⟩
theorem b_Fooled___init__ {V : Wd} (G : Gf V)  {f : Addr} (cdv : Value) (A : Around) (outer : List Env) (s : Shared) (H : Hp) (E : XK) (c : Ctx 0 (bodyX V ["self", "machine"] "Fooled.__init__" (defScope s_Fooled___init__) f cdv A outer s H E) E) : VB (bodyX V ["self", "machine"] "Fooled.__init__" (defScope s_Fooled___init__) f cdv A outer s H E) E (defBody s_Fooled___init__) fs_Fooled___init__ :=
  (vb_one (vs_fld "Fooled" G.k_Fooled G.a_Fooled_machine (pv 0) (ve_var 1 (pv 1))))
theorem sc_Covered___init__ : FnScope ["self", "events"] ["self", "events"] (defScope s_Covered___init__) := ⟨rfl, rfl, rfl, by decide +kernel, rfl, by decide +kernel, by decide +kernel⟩
theorem b_Covered___init__ {V : Wd} (G : Gf V)  {f : Addr} (cdv : Value) (A : Around) (outer : List Env) (s : Shared) (H : Hp) (E : XK) (c : Ctx 0 (bodyX V ["self", "events"] "Covered.__init__" (defScope s_Covered___init__) f cdv A outer s H E) E) : VB (bodyX V ["self", "events"] "Covered.__init__" (defScope s_Covered___init__) f cdv A outer s H E) E (defBody s_Covered___init__) fs_Covered___init__ :=
  (vb_one (vs_fld "Covered" G.k_Covered G.a_Covered_events (pv 0) (ve_tupleOf rfl G.n_tuple (VE.o (ve_var 1 (pv 1))))))
theorem sc_Plan___init__ : FnScope ["self", "book"] ["self", "book"] (defScope s_Plan___init__) := ⟨rfl, rfl, rfl, by decide +kernel, rfl, by decide +kernel, by decide +kernel⟩
theorem b_Plan___init__ {V : Wd} (G : Gf V)  {f : Addr} (cdv : Value) (A : Around) (outer : List Env) (s : Shared) (H : Hp) (E : XK) (c : Ctx 0 (bodyX V ["self", "book"] "Plan.__init__" (defScope s_Plan___init__) f cdv A outer s H E) E) : VB (bodyX V ["self", "book"] "Plan.__init__" (defScope s_Plan___init__) f cdv A outer s H E) E (defBody s_Plan___init__) fs_Plan___init__ :=
  (vb_one (vs_fld "Plan" G.k_Plan G.a_Plan_book (pv 0) (VF.ue (vf_dictU c.w c.hu c.calm rfl G.n_dict (VE.o (ve_var 1 (pv 1)))))))
theorem sc_Trap___init__ : FnScope ["self", "standings"] ["self", "standings"] (defScope s_Trap___init__) := ⟨rfl, rfl, rfl, by decide +kernel, rfl, by decide +kernel, by decide +kernel⟩
theorem b_Trap___init__ {V : Wd} (G : Gf V)  {f : Addr} (cdv : Value) (A : Around) (outer : List Env) (s : Shared) (H : Hp) (E : XK) (c : Ctx 0 (bodyX V ["self", "standings"] "Trap.__init__" (defScope s_Trap___init__) f cdv A outer s H E) E) : VB (bodyX V ["self", "standings"] "Trap.__init__" (defScope s_Trap___init__) f cdv A outer s H E) E (defBody s_Trap___init__) fs_Trap___init__ :=
  (vb_one (vs_fld "Trap" G.k_Trap G.a_Trap_standings (pv 0) (ve_tupleOf rfl G.n_tuple (VE.o (ve_var 1 (pv 1))))))
theorem sc_Guard___init__ : FnScope ["self", "book", "standing", "events"] ["self", "book"] (defScope s_Guard___init__) := ⟨rfl, rfl, rfl, by decide +kernel, rfl, by decide +kernel, by decide +kernel⟩
theorem b_Guard___init__ {V : Wd} (G : Gf V)  {f : Addr} (cdv : Value) (A : Around) (outer : List Env) (s : Shared) (H : Hp) (E : XK) (c : Ctx 0 (bodyX V ["self", "book", "standing", "events"] "Guard.__init__" (defScope s_Guard___init__) f cdv A outer s H E) E) : VB (bodyX V ["self", "book", "standing", "events"] "Guard.__init__" (defScope s_Guard___init__) f cdv A outer s H E) E (defBody s_Guard___init__) fs_Guard___init__ :=
  (vb_one (vs_fld "Guard" G.k_Guard G.a_Guard_book (pv 0) (VF.ue (vf_dcT (own := [("standing", 2), ("events", 3)]) c.w c.hu c.calm c.nd (vi_items (VF.ue (vf_dictU c.w c.hu c.calm rfl G.n_dict (VE.o (ve_var 1 (pv 1)))))) (blkOk_by (by first | decide +kernel | rfl)) (by decide) (fun s1 H1 C1 l1 f1 => (vg_tup (c.blk s1 H1 C1 l1 f1).calm (vgs_cons (vg_name (c.blk s1 H1 C1 l1 f1).nd rfl (by first | exact Or.inl rfl | exact Or.inr rfl)) (vgs_cons (vg_name (c.blk s1 H1 C1 l1 f1).nd rfl (by first | exact Or.inl rfl | exact Or.inr rfl)) vgs_nil)))) (fun s1 H1 C1 l1 f1 => vps_nil) (fun s1 H1 C1 l1 f1 => (ve_var 2 (pv 2))) (fun s1 H1 C1 l1 f1 => (ve_tupleOf rfl G.n_tuple (VE.o (ve_var 3 (pv 3)))))))))
theorem sc_Lost___init__ : FnScope ["self", "events"] ["self", "events"] (defScope s_Lost___init__) := ⟨rfl, rfl, rfl, by decide +kernel, rfl, by decide +kernel, by decide +kernel⟩
theorem b_Lost___init__ {V : Wd} (G : Gf V)  {f : Addr} (cdv : Value) (A : Around) (outer : List Env) (s : Shared) (H : Hp) (E : XK) (c : Ctx 0 (bodyX V ["self", "events"] "Lost.__init__" (defScope s_Lost___init__) f cdv A outer s H E) E) : VB (bodyX V ["self", "events"] "Lost.__init__" (defScope s_Lost___init__) f cdv A outer s H E) E (defBody s_Lost___init__) fs_Lost___init__ :=
  (vb_one (vs_fld "Lost" G.k_Lost G.a_Lost_events (pv 0) (ve_tupleOf rfl G.n_tuple (VE.o (ve_var 1 (pv 1))))))
theorem sc_Merged___init__ : FnScope ["self", "chart"] ["self", "chart"] (defScope s_Merged___init__) := ⟨rfl, rfl, rfl, by decide +kernel, rfl, by decide +kernel, by decide +kernel⟩
theorem b_Merged___init__ {V : Wd} (G : Gf V)  {f : Addr} (cdv : Value) (A : Around) (outer : List Env) (s : Shared) (H : Hp) (E : XK) (c : Ctx 0 (bodyX V ["self", "chart"] "Merged.__init__" (defScope s_Merged___init__) f cdv A outer s H E) E) : VB (bodyX V ["self", "chart"] "Merged.__init__" (defScope s_Merged___init__) f cdv A outer s H E) E (defBody s_Merged___init__) fs_Merged___init__ :=
  (vb_one (vs_fld "Merged" G.k_Merged G.a_Merged_chart (pv 0) (ve_var 1 (pv 1))))
theorem sc_Conflict___init__ : FnScope ["self", "parts"] ["self", "parts"] (defScope s_Conflict___init__) := ⟨rfl, rfl, rfl, by decide +kernel, rfl, by decide +kernel, by decide +kernel⟩
theorem b_Conflict___init__ {V : Wd} (G : Gf V)  {f : Addr} (cdv : Value) (A : Around) (outer : List Env) (s : Shared) (H : Hp) (E : XK) (c : Ctx 0 (bodyX V ["self", "parts"] "Conflict.__init__" (defScope s_Conflict___init__) f cdv A outer s H E) E) : VB (bodyX V ["self", "parts"] "Conflict.__init__" (defScope s_Conflict___init__) f cdv A outer s H E) E (defBody s_Conflict___init__) fs_Conflict___init__ :=
  (vb_one (vs_fld "Conflict" G.k_Conflict G.a_Conflict_parts (pv 0) (ve_tupleOf rfl G.n_tuple (VE.o (ve_var 1 (pv 1))))))
theorem sc_Wish___init__ : FnScope ["self", "event", "word", "ticks"] ["self", "event", "word", "ticks"] (defScope s_Wish___init__) := ⟨rfl, rfl, rfl, by decide +kernel, rfl, by decide +kernel, by decide +kernel⟩
theorem b_Wish___init__ {V : Wd} (G : Gf V) (f_is_name : Fn V 1 "is_name" 1 (fwOf fr_is_name)) (f_is_number : Fn V 2 "is_number" 3 (fwOf fr_is_number)) {f : Addr} (cdv : Value) (A : Around) (outer : List Env) (s : Shared) (H : Hp) (E : XK) (c : Ctx 2 (bodyX V ["self", "event", "word", "ticks"] "Wish.__init__" (defScope s_Wish___init__) f cdv A outer s H E) E) : VB (bodyX V ["self", "event", "word", "ticks"] "Wish.__init__" (defScope s_Wish___init__) f cdv A outer s H E) E (defBody s_Wish___init__) fs_Wish___init__ :=
  (vb_cons (vs_if (vt_not (vt_val (ve_call c f_is_name (by decide) rfl (va_cons (ve_var 1 (pv 1)) va_nil)))) (vb_one vs_dead) vb_nil)
  (vb_cons (vs_if (vt_not (vt_val (ve_call c f_is_name (by decide) rfl (va_cons (ve_var 2 (pv 2)) va_nil)))) (vb_one vs_dead) vb_nil)
  (vb_cons (vs_if (vt_not (vt_val (ve_call c f_is_number (by decide) rfl (va_cons (ve_var 3 (pv 3)) (va_cons ve_int (va_cons ve_int va_nil)))))) (vb_one vs_dead) vb_nil)
  (vb_cons (vs_fld "Wish" G.k_Wish G.a_Wish_event (pv 0) (ve_var 1 (pv 1)))
  (vb_cons (vs_fld "Wish" G.k_Wish G.a_Wish_word (pv 0) (ve_var 2 (pv 2)))
  (vb_one (vs_fld "Wish" G.k_Wish G.a_Wish_ticks (pv 0) (ve_var 3 (pv 3)))))))))
theorem sc_Keeps___init__ : FnScope ["self", "pairs"] ["self", "pairs"] (defScope s_Keeps___init__) := ⟨rfl, rfl, rfl, by decide +kernel, rfl, by decide +kernel, by decide +kernel⟩
theorem b_Keeps___init__ {V : Wd} (G : Gf V)  {f : Addr} (cdv : Value) (A : Around) (outer : List Env) (s : Shared) (H : Hp) (E : XK) (c : Ctx 0 (bodyX V ["self", "pairs"] "Keeps.__init__" (defScope s_Keeps___init__) f cdv A outer s H E) E) : VB (bodyX V ["self", "pairs"] "Keeps.__init__" (defScope s_Keeps___init__) f cdv A outer s H E) E (defBody s_Keeps___init__) fs_Keeps___init__ :=
  (vb_one (vs_fld "Keeps" G.k_Keeps G.a_Keeps_pairs (pv 0) (ve_tupleOf rfl G.n_tuple (VE.o (ve_var 1 (pv 1))))))
theorem sc_Fails___init__ : FnScope ["self", "events", "rows"] ["self", "events", "rows"] (defScope s_Fails___init__) := ⟨rfl, rfl, rfl, by decide +kernel, rfl, by decide +kernel, by decide +kernel⟩
theorem b_Fails___init__ {V : Wd} (G : Gf V)  {f : Addr} (cdv : Value) (A : Around) (outer : List Env) (s : Shared) (H : Hp) (E : XK) (c : Ctx 0 (bodyX V ["self", "events", "rows"] "Fails.__init__" (defScope s_Fails___init__) f cdv A outer s H E) E) : VB (bodyX V ["self", "events", "rows"] "Fails.__init__" (defScope s_Fails___init__) f cdv A outer s H E) E (defBody s_Fails___init__) fs_Fails___init__ :=
  (vb_cons (vs_fld "Fails" G.k_Fails G.a_Fails_events (pv 0) (ve_tupleOf rfl G.n_tuple (VE.o (ve_var 1 (pv 1)))))
  (vb_one (vs_fld "Fails" G.k_Fails G.a_Fails_rows (pv 0) (ve_tupleOf rfl G.n_tuple (VE.o (ve_var 2 (pv 2)))))))
theorem sc_Stuck___init__ : FnScope ["self", "events"] ["self", "events"] (defScope s_Stuck___init__) := ⟨rfl, rfl, rfl, by decide +kernel, rfl, by decide +kernel, by decide +kernel⟩
theorem b_Stuck___init__ {V : Wd} (G : Gf V)  {f : Addr} (cdv : Value) (A : Around) (outer : List Env) (s : Shared) (H : Hp) (E : XK) (c : Ctx 0 (bodyX V ["self", "events"] "Stuck.__init__" (defScope s_Stuck___init__) f cdv A outer s H E) E) : VB (bodyX V ["self", "events"] "Stuck.__init__" (defScope s_Stuck___init__) f cdv A outer s H E) E (defBody s_Stuck___init__) fs_Stuck___init__ :=
  (vb_one (vs_fld "Stuck" G.k_Stuck G.a_Stuck_events (pv 0) (ve_tupleOf rfl G.n_tuple (VE.o (ve_var 1 (pv 1))))))
theorem sc__law_made : FnScope ["draw", "row", "number", "word", "other", "states", "chart", "found"] ["draw"] (defScope s__law_made) := ⟨rfl, rfl, rfl, by decide +kernel, rfl, by decide +kernel, by decide +kernel⟩
theorem b__law_made {V : Wd} (G : Gf V) (f__law_take : Fn V 2 "_law_take" 2 (fwOf fr__law_take)) (f__law_pick : Fn V 3 "_law_pick" 2 (fwOf fr__law_pick)) (i_Chart : Mkr V 5 "Chart" 3 (fwOf fr_Chart___init__)) (i_One : Mkr V 1 "One" 1 (fwOf fr_One___init__)) (i_Two : Mkr V 1 "Two" 3 (fwOf fr_Two___init__)) (i_Endless : Mkr V 1 "Endless" 2 (fwOf fr_Endless___init__)) (i_Alike : Mkr V 1 "Alike" 1 (fwOf fr_Alike___init__)) (i_Parts : Mkr V 1 "Parts" 1 (fwOf fr_Parts___init__)) (i_Flat : Mkr V 4 "Flat" 2 (fwOf fr_Flat___init__)) (i_Led : Mkr V 1 "Led" 1 (fwOf fr_Led___init__)) (i_Shut : Mkr V 1 "Shut" 1 (fwOf fr_Shut___init__)) (i_Apart : Mkr V 1 "Apart" 1 (fwOf fr_Apart___init__)) (i_Clash : Mkr V 1 "Clash" 3 (fwOf fr_Clash___init__)) (i_Fooled : Mkr V 1 "Fooled" 1 (fwOf fr_Fooled___init__)) (i_Covered : Mkr V 1 "Covered" 1 (fwOf fr_Covered___init__)) (i_Plan : Mkr V 1 "Plan" 1 (fwOf fr_Plan___init__)) (i_Trap : Mkr V 1 "Trap" 1 (fwOf fr_Trap___init__)) (i_Guard : Mkr V 1 "Guard" 1 (fwOf fr_Guard___init__)) (i_Lost : Mkr V 1 "Lost" 1 (fwOf fr_Lost___init__)) (i_Merged : Mkr V 1 "Merged" 1 (fwOf fr_Merged___init__)) (i_Conflict : Mkr V 1 "Conflict" 1 (fwOf fr_Conflict___init__)) (i_Wish : Mkr V 3 "Wish" 3 (fwOf fr_Wish___init__)) (i_Keeps : Mkr V 1 "Keeps" 1 (fwOf fr_Keeps___init__)) (i_Fails : Mkr V 1 "Fails" 2 (fwOf fr_Fails___init__)) (i_Stuck : Mkr V 1 "Stuck" 1 (fwOf fr_Stuck___init__)) {f : Addr} (cdv : Value) (A : Around) (outer : List Env) (s : Shared) (H : Hp) (E : XK) (c : Ctx 6 (bodyX V ["draw", "row", "number", "word", "other", "states", "chart", "found"] "_law_made" (defScope s__law_made) f cdv A outer s H E) E) : VB (bodyX V ["draw", "row", "number", "word", "other", "states", "chart", "found"] "_law_made" (defScope s__law_made) f cdv A outer s H E) E (defBody s__law_made) fs__law_made :=
  (vb_cons (vs_par (i := 1) (j := 2) c.calm c.nd rfl rfl (by decide) rfl rfl (vm_f (ve_tup (va_cons ve_str (va_cons (ve_call c f__law_pick (by decide) rfl (va_cons (ve_var 0 (pv 0)) (va_cons (VF.ue (vf_lst (va_cons ve_str (va_cons ve_str va_nil)))) va_nil))) va_nil))) (vm_f (ve_call c f__law_take (by decide) rfl (va_cons (ve_var 0 (pv 0)) (va_cons ve_int va_nil))) vm_nil)) rfl)
  (vb_cons (vs_par (i := 3) (j := 4) c.calm c.nd rfl rfl (by decide) rfl rfl (vm_f (ve_call c f__law_pick (by decide) rfl (va_cons (ve_var 0 (pv 0)) (va_cons (VF.ue (vf_lst (va_cons ve_str (va_cons ve_str va_nil)))) va_nil))) (vm_f (ve_call c f__law_pick (by decide) rfl (va_cons (ve_var 0 (pv 0)) (va_cons (VF.ue (vf_lst (va_cons ve_str (va_cons ve_str va_nil)))) va_nil))) vm_nil)) rfl)
  (vb_cons (vs_set (i := 5) c.nd rfl (by first | exact Or.inl rfl | exact Or.inr rfl) (VF.ue (vf_disp (vq_cons ve_str (ve_tup (va_cons ve_str (va_cons ve_non va_nil))) (vq_cons ve_str (ve_tup (va_cons ve_str (va_cons ve_str va_nil))) (vq_cons ve_str (ve_tup (va_cons ve_str (va_cons ve_str va_nil))) vq_nil))))))
  (vb_cons (vs_set (i := 6) c.nd rfl (by first | exact Or.inl rfl | exact Or.inr rfl) (ve_make c i_Chart (by decide) rfl (va_cons (ve_var 5 (pv 5)) (va_cons (VF.ue (vf_lst (va_cons (ve_tup (va_cons ve_str (va_cons ve_str (va_cons ve_str (va_cons (VF.ue (vf_lst (va_cons (ve_var 3 (pv 3)) va_nil))) va_nil))))) va_nil))) (va_cons (ve_var 4 (pv 4)) va_nil)))))
  (vb_cons (vs_set (i := 7) c.nd rfl (by first | exact Or.inl rfl | exact Or.inr rfl) (VF.ue (vf_lst (va_cons (ve_tup (va_cons (ve_var 6 (pv 6)) (va_cons (ve_tup (va_cons ve_str (va_cons (ve_var 3 (pv 3)) (va_cons (ve_var 4 (pv 4)) va_nil)))) va_nil))) (va_cons (ve_tup (va_cons (ve_make c i_One (by decide) rfl (va_cons (VF.ue (vf_lst (va_cons (ve_var 1 (pv 1)) va_nil))) va_nil)) (va_cons (ve_tup (va_cons ve_str (va_cons (ve_var 1 (pv 1)) va_nil))) va_nil))) (va_cons (ve_tup (va_cons (ve_make c i_Two (by decide) rfl (va_cons (VF.ue (vf_lst (va_cons (ve_var 3 (pv 3)) va_nil))) (va_cons (VF.ue (vf_lst (va_cons (ve_var 1 (pv 1)) va_nil))) (va_cons (VF.ue (vf_lst (va_cons (ve_var 1 (pv 1)) va_nil))) va_nil)))) (va_cons (ve_tup (va_cons ve_str (va_cons (ve_var 3 (pv 3)) (va_cons (ve_var 1 (pv 1)) va_nil)))) va_nil))) (va_cons (ve_tup (va_cons (ve_make c i_Endless (by decide) rfl (va_cons (VF.ue (vf_lst (va_cons (ve_var 3 (pv 3)) va_nil))) (va_cons (VF.ue (vf_lst (va_cons (ve_var 1 (pv 1)) va_nil))) va_nil))) (va_cons (ve_tup (va_cons ve_str (va_cons (ve_var 3 (pv 3)) (va_cons (ve_var 1 (pv 1)) va_nil)))) va_nil))) (va_cons (ve_tup (va_cons (ve_make c i_Alike (by decide) rfl (va_cons (ve_var 2 (pv 2)) va_nil)) (va_cons (ve_tup (va_cons ve_str (va_cons (ve_var 2 (pv 2)) va_nil))) va_nil))) (va_cons (ve_tup (va_cons (ve_make c i_Parts (by decide) rfl (va_cons (VF.ue (vf_lst (va_cons (ve_var 3 (pv 3)) va_nil))) va_nil)) (va_cons (ve_tup (va_cons ve_str (va_cons (ve_var 3 (pv 3)) va_nil))) va_nil))) va_nil)))))))))
  (vb_cons (vs_set (i := 7) c.nd rfl (by first | exact Or.inl rfl | exact Or.inr rfl) (ve_add (VE.o (ve_var 7 (pv 7))) (VE.o (VF.ue (vf_lst (va_cons (ve_tup (va_cons (ve_make c i_Flat (by decide) rfl (va_cons (VF.ue (vf_lst (va_cons (ve_var 3 (pv 3)) va_nil))) (va_cons (VF.ue (vf_lst (va_cons (VF.ue (vf_disp (vq_cons (ve_var 3 (pv 3)) (ve_tup (va_cons (VF.ue (vf_lst (va_cons (ve_var 4 (pv 4)) va_nil))) (va_cons ve_int va_nil))) vq_nil))) va_nil))) va_nil))) (va_cons (ve_tup (va_cons ve_str (va_cons (ve_var 3 (pv 3)) (va_cons (ve_var 4 (pv 4)) va_nil)))) va_nil))) (va_cons (ve_tup (va_cons (ve_make c i_Led (by decide) rfl (va_cons (VF.ue (vf_lst (va_cons (ve_var 3 (pv 3)) va_nil))) va_nil)) (va_cons (ve_tup (va_cons ve_str (va_cons (ve_var 3 (pv 3)) va_nil))) va_nil))) (va_cons (ve_tup (va_cons (ve_make c i_Shut (by decide) rfl (va_cons (VF.ue (vf_lst (va_cons (ve_var 1 (pv 1)) va_nil))) va_nil)) (va_cons (ve_tup (va_cons ve_str (va_cons (ve_var 1 (pv 1)) va_nil))) va_nil))) (va_cons (ve_tup (va_cons (ve_make c i_Apart (by decide) rfl (va_cons (ve_var 2 (pv 2)) va_nil)) (va_cons (ve_tup (va_cons ve_str (va_cons (ve_var 2 (pv 2)) va_nil))) va_nil))) (va_cons (ve_tup (va_cons (ve_make c i_Clash (by decide) rfl (va_cons (ve_var 1 (pv 1)) (va_cons (ve_var 2 (pv 2)) (va_cons ve_int va_nil)))) (va_cons (ve_tup (va_cons ve_str (va_cons (ve_var 1 (pv 1)) (va_cons (ve_var 2 (pv 2)) va_nil)))) va_nil))) (va_cons (ve_tup (va_cons (ve_make c i_Fooled (by decide) rfl (va_cons (ve_var 6 (pv 6)) va_nil)) (va_cons (ve_tup (va_cons ve_str (va_cons (ve_var 3 (pv 3)) (va_cons (ve_var 4 (pv 4)) va_nil)))) va_nil))) va_nil)))))))))))
  (vb_cons (vs_set (i := 7) c.nd rfl (by first | exact Or.inl rfl | exact Or.inr rfl) (ve_add (VE.o (ve_var 7 (pv 7))) (VE.o (VF.ue (vf_lst (va_cons (ve_tup (va_cons (ve_make c i_Covered (by decide) rfl (va_cons (VF.ue (vf_lst (va_cons (ve_var 3 (pv 3)) va_nil))) va_nil)) (va_cons (ve_tup (va_cons ve_str (va_cons (ve_var 3 (pv 3)) va_nil))) va_nil))) (va_cons (ve_tup (va_cons (ve_make c i_Plan (by decide) rfl (va_cons (VF.ue (vf_dispT c.w c.hu (ve_var 1 (pv 1)) (ve_var 2 (pv 2)))) va_nil)) (va_cons (ve_tup (va_cons ve_str (va_cons (ve_var 1 (pv 1)) (va_cons (ve_var 2 (pv 2)) va_nil)))) va_nil))) (va_cons (ve_tup (va_cons (ve_make c i_Trap (by decide) rfl (va_cons (VF.ue (vf_lst (va_cons (ve_var 1 (pv 1)) va_nil))) va_nil)) (va_cons (ve_tup (va_cons ve_str (va_cons (ve_var 1 (pv 1)) va_nil))) va_nil))) (va_cons (ve_tup (va_cons (ve_make c i_Guard (by decide) rfl (va_cons (VF.ue (vf_dispT c.w c.hu (ve_var 1 (pv 1)) (VF.ue (vf_lst (va_cons (ve_var 3 (pv 3)) va_nil))))) va_nil)) (va_cons (ve_tup (va_cons ve_str (va_cons (ve_var 1 (pv 1)) (va_cons (ve_var 3 (pv 3)) va_nil)))) va_nil))) (va_cons (ve_tup (va_cons (ve_make c i_Lost (by decide) rfl (va_cons (VF.ue (vf_lst (va_cons (ve_var 3 (pv 3)) va_nil))) va_nil)) (va_cons (ve_tup (va_cons ve_str (va_cons (ve_var 3 (pv 3)) va_nil))) va_nil))) (va_cons (ve_tup (va_cons (ve_make c i_Merged (by decide) rfl (va_cons (ve_var 6 (pv 6)) va_nil)) (va_cons (ve_tup (va_cons ve_str (va_cons (ve_var 3 (pv 3)) (va_cons (ve_var 4 (pv 4)) va_nil)))) va_nil))) va_nil)))))))))))
  (vb_one (vs_ret (ve_add (VE.o (ve_var 7 (pv 7))) (VE.o (VF.ue (vf_lst (va_cons (ve_tup (va_cons (ve_make c i_Conflict (by decide) rfl (va_cons (VF.ue (vf_lst (va_cons (ve_var 1 (pv 1)) va_nil))) va_nil)) (va_cons (ve_tup (va_cons ve_str (va_cons (ve_var 1 (pv 1)) va_nil))) va_nil))) (va_cons (ve_tup (va_cons (ve_make c i_Wish (by decide) rfl (va_cons (ve_var 3 (pv 3)) (va_cons ve_str (va_cons (ve_var 2 (pv 2)) va_nil)))) (va_cons (ve_tup (va_cons ve_str (va_cons (ve_var 3 (pv 3)) (va_cons (ve_var 2 (pv 2)) va_nil)))) va_nil))) (va_cons (ve_tup (va_cons (ve_make c i_Keeps (by decide) rfl (va_cons (VF.ue (vf_lst (va_cons (ve_var 1 (pv 1)) va_nil))) va_nil)) (va_cons (ve_tup (va_cons ve_str (va_cons (ve_var 1 (pv 1)) va_nil))) va_nil))) (va_cons (ve_tup (va_cons (ve_make c i_Fails (by decide) rfl (va_cons (VF.ue (vf_lst (va_cons (ve_var 3 (pv 3)) va_nil))) (va_cons (VF.ue (vf_lst (va_cons (ve_var 1 (pv 1)) va_nil))) va_nil))) (va_cons (ve_tup (va_cons ve_str (va_cons (ve_var 3 (pv 3)) (va_cons (ve_var 1 (pv 1)) va_nil)))) va_nil))) (va_cons (ve_tup (va_cons (ve_make c i_Stuck (by decide) rfl (va_cons (VF.ue (vf_lst (va_cons (ve_var 3 (pv 3)) va_nil))) va_nil)) (va_cons (ve_tup (va_cons ve_str (va_cons (ve_var 3 (pv 3)) va_nil))) va_nil))) va_nil))))))))))))))))))
theorem sc_Chart___eq__ : FnScope ["self", "other"] ["self", "other"] (defScope s_Chart___eq__) := ⟨rfl, rfl, rfl, by decide +kernel, rfl, by decide +kernel, by decide +kernel⟩
theorem b_Chart___eq__ {V : Wd} (G : Gf V)  {f : Addr} (cdv : Value) (A : Around) (outer : List Env) (s : Shared) (H : Hp) (E : XK) (c : Ctx 0 (bodyX V ["self", "other"] "Chart.__eq__" (defScope s_Chart___eq__) f cdv A outer s H E) E) : VB (bodyX V ["self", "other"] "Chart.__eq__" (defScope s_Chart___eq__) f cdv A outer s H E) E (defBody s_Chart___eq__) fs_Chart___eq__ :=
  (vb_cons (vs_if (vt_not (vt_val (ve_isi G.isf rfl G.n_isinstance (VE.o (ve_var 1 (pv 1))) (ve_c (ue_gcls rfl G.g_Chart))))) (vb_one (vs_ret ve_bl)) vb_nil)
  (vb_one (vs_ret (ve_cmp (cv_eq c.hu) (VE.o (ve_tup (va_cons (ve_fld ["Chart"] (Gf.a_order G) (VE.o (ve_var 0 (pv 0)))) (va_cons (ve_fld ["Chart"] (Gf.a_rows_Chart G) (VE.o (ve_var 0 (pv 0)))) (va_cons (ve_fld ["Chart"] (Gf.a_priority G) (VE.o (ve_var 0 (pv 0)))) va_nil))))) (VE.o (ve_tup (va_cons (ve_fld ["Chart"] (Gf.a_order G) (VE.o (ve_var 1 (pv 1)))) (va_cons (ve_fld ["Chart"] (Gf.a_rows_Chart G) (VE.o (ve_var 1 (pv 1)))) (va_cons (ve_fld ["Chart"] (Gf.a_priority G) (VE.o (ve_var 1 (pv 1)))) va_nil))))) rfl))))
theorem sc_One___eq__ : FnScope ["self", "other"] ["self", "other"] (defScope s_One___eq__) := ⟨rfl, rfl, rfl, by decide +kernel, rfl, by decide +kernel, by decide +kernel⟩
theorem b_One___eq__ {V : Wd} (G : Gf V)  {f : Addr} (cdv : Value) (A : Around) (outer : List Env) (s : Shared) (H : Hp) (E : XK) (c : Ctx 0 (bodyX V ["self", "other"] "One.__eq__" (defScope s_One___eq__) f cdv A outer s H E) E) : VB (bodyX V ["self", "other"] "One.__eq__" (defScope s_One___eq__) f cdv A outer s H E) E (defBody s_One___eq__) fs_One___eq__ :=
  (vb_one (vs_ret (ve_and (ve_isi G.isf rfl G.n_isinstance (VE.o (ve_var 1 (pv 1))) (ve_c (ue_gcls rfl G.g_One))) (ve_one (ve_cmp (cv_eq c.hu) (VE.o (ve_fld ["One"] (Gf.a_pairs_One G) (VE.o (ve_var 0 (pv 0))))) (VE.o (ve_fld ["One"] (Gf.a_pairs_One G) (VE.o (ve_var 1 (pv 1))))) rfl)))))
theorem sc_Two___eq__ : FnScope ["self", "other"] ["self", "other"] (defScope s_Two___eq__) := ⟨rfl, rfl, rfl, by decide +kernel, rfl, by decide +kernel, by decide +kernel⟩
theorem b_Two___eq__ {V : Wd} (G : Gf V)  {f : Addr} (cdv : Value) (A : Around) (outer : List Env) (s : Shared) (H : Hp) (E : XK) (c : Ctx 0 (bodyX V ["self", "other"] "Two.__eq__" (defScope s_Two___eq__) f cdv A outer s H E) E) : VB (bodyX V ["self", "other"] "Two.__eq__" (defScope s_Two___eq__) f cdv A outer s H E) E (defBody s_Two___eq__) fs_Two___eq__ :=
  (vb_cons (vs_if (vt_not (vt_val (ve_isi G.isf rfl G.n_isinstance (VE.o (ve_var 1 (pv 1))) (ve_c (ue_gcls rfl G.g_Two))))) (vb_one (vs_ret ve_bl)) vb_nil)
  (vb_one (vs_ret (ve_cmp (cv_eq c.hu) (VE.o (ve_tup (va_cons (ve_fld ["Two"] (Gf.a_events_Two G) (VE.o (ve_var 0 (pv 0)))) (va_cons (ve_fld ["Two"] (Gf.a_one_Two G) (VE.o (ve_var 0 (pv 0)))) (va_cons (ve_fld ["Two"] (Gf.a_other_Two G) (VE.o (ve_var 0 (pv 0)))) va_nil))))) (VE.o (ve_tup (va_cons (ve_fld ["Two"] (Gf.a_events_Two G) (VE.o (ve_var 1 (pv 1)))) (va_cons (ve_fld ["Two"] (Gf.a_one_Two G) (VE.o (ve_var 1 (pv 1)))) (va_cons (ve_fld ["Two"] (Gf.a_other_Two G) (VE.o (ve_var 1 (pv 1)))) va_nil))))) rfl))))
theorem sc_Endless___eq__ : FnScope ["self", "other"] ["self", "other"] (defScope s_Endless___eq__) := ⟨rfl, rfl, rfl, by decide +kernel, rfl, by decide +kernel, by decide +kernel⟩
theorem b_Endless___eq__ {V : Wd} (G : Gf V)  {f : Addr} (cdv : Value) (A : Around) (outer : List Env) (s : Shared) (H : Hp) (E : XK) (c : Ctx 0 (bodyX V ["self", "other"] "Endless.__eq__" (defScope s_Endless___eq__) f cdv A outer s H E) E) : VB (bodyX V ["self", "other"] "Endless.__eq__" (defScope s_Endless___eq__) f cdv A outer s H E) E (defBody s_Endless___eq__) fs_Endless___eq__ :=
  (vb_one (vs_ret (ve_and (ve_isi G.isf rfl G.n_isinstance (VE.o (ve_var 1 (pv 1))) (ve_c (ue_gcls rfl G.g_Endless))) (ve_one (ve_cmp (cv_eq c.hu) (VE.o (ve_tup (va_cons (ve_fld ["Endless"] (Gf.a_events_Endless G) (VE.o (ve_var 0 (pv 0)))) (va_cons (ve_fld ["Endless"] (Gf.a_ring G) (VE.o (ve_var 0 (pv 0)))) va_nil)))) (VE.o (ve_tup (va_cons (ve_fld ["Endless"] (Gf.a_events_Endless G) (VE.o (ve_var 1 (pv 1)))) (va_cons (ve_fld ["Endless"] (Gf.a_ring G) (VE.o (ve_var 1 (pv 1)))) va_nil)))) rfl)))))
theorem sc_Flat___eq__ : FnScope ["self", "other"] ["self", "other"] (defScope s_Flat___eq__) := ⟨rfl, rfl, rfl, by decide +kernel, rfl, by decide +kernel, by decide +kernel⟩
theorem b_Flat___eq__ {V : Wd} (G : Gf V)  {f : Addr} (cdv : Value) (A : Around) (outer : List Env) (s : Shared) (H : Hp) (E : XK) (c : Ctx 0 (bodyX V ["self", "other"] "Flat.__eq__" (defScope s_Flat___eq__) f cdv A outer s H E) E) : VB (bodyX V ["self", "other"] "Flat.__eq__" (defScope s_Flat___eq__) f cdv A outer s H E) E (defBody s_Flat___eq__) fs_Flat___eq__ :=
  (vb_one (vs_ret (ve_and (ve_isi G.isf rfl G.n_isinstance (VE.o (ve_var 1 (pv 1))) (ve_c (ue_gcls rfl G.g_Flat))) (ve_one (ve_cmpx (cx_eqX c G.isf tabOk_nil (neT G.ne rfl)) (ve_tup (va_cons (ve_fld ["Flat"] (Gf.a_events_Flat G) (VE.o (ve_var 0 (pv 0)))) (va_cons (ve_fld ["Flat"] (Gf.a_rows_Flat G) (VE.o (ve_var 0 (pv 0)))) va_nil))) (ve_tup (va_cons (ve_fld ["Flat"] (Gf.a_events_Flat G) (VE.o (ve_var 1 (pv 1)))) (va_cons (ve_fld ["Flat"] (Gf.a_rows_Flat G) (VE.o (ve_var 1 (pv 1)))) va_nil))) rfl)))))
theorem sc_Alike___eq__ : FnScope ["self", "other"] ["self", "other"] (defScope s_Alike___eq__) := ⟨rfl, rfl, rfl, by decide +kernel, rfl, by decide +kernel, by decide +kernel⟩
theorem b_Alike___eq__ {V : Wd} (G : Gf V)  {f : Addr} (cdv : Value) (A : Around) (outer : List Env) (s : Shared) (H : Hp) (E : XK) (c : Ctx 0 (bodyX V ["self", "other"] "Alike.__eq__" (defScope s_Alike___eq__) f cdv A outer s H E) E) : VB (bodyX V ["self", "other"] "Alike.__eq__" (defScope s_Alike___eq__) f cdv A outer s H E) E (defBody s_Alike___eq__) fs_Alike___eq__ :=
  (vb_one (vs_ret (ve_and (ve_isi G.isf rfl G.n_isinstance (VE.o (ve_var 1 (pv 1))) (ve_c (ue_gcls rfl G.g_Alike))) (ve_one (ve_cmp (cv_eq c.hu) (VE.o (ve_fld ["Alike"] (Gf.a_pairs_Alike G) (VE.o (ve_var 0 (pv 0))))) (VE.o (ve_fld ["Alike"] (Gf.a_pairs_Alike G) (VE.o (ve_var 1 (pv 1))))) rfl)))))
theorem sc_Parts___eq__ : FnScope ["self", "other"] ["self", "other"] (defScope s_Parts___eq__) := ⟨rfl, rfl, rfl, by decide +kernel, rfl, by decide +kernel, by decide +kernel⟩
theorem b_Parts___eq__ {V : Wd} (G : Gf V)  {f : Addr} (cdv : Value) (A : Around) (outer : List Env) (s : Shared) (H : Hp) (E : XK) (c : Ctx 0 (bodyX V ["self", "other"] "Parts.__eq__" (defScope s_Parts___eq__) f cdv A outer s H E) E) : VB (bodyX V ["self", "other"] "Parts.__eq__" (defScope s_Parts___eq__) f cdv A outer s H E) E (defBody s_Parts___eq__) fs_Parts___eq__ :=
  (vb_one (vs_ret (ve_and (ve_isi G.isf rfl G.n_isinstance (VE.o (ve_var 1 (pv 1))) (ve_c (ue_gcls rfl G.g_Parts))) (ve_one (ve_cmp (cv_eq c.hu) (VE.o (ve_fld ["Parts"] (Gf.a_events_Parts G) (VE.o (ve_var 0 (pv 0))))) (VE.o (ve_fld ["Parts"] (Gf.a_events_Parts G) (VE.o (ve_var 1 (pv 1))))) rfl)))))
theorem sc_Fooled___eq__ : FnScope ["self", "other"] ["self", "other"] (defScope s_Fooled___eq__) := ⟨rfl, rfl, rfl, by decide +kernel, rfl, by decide +kernel, by decide +kernel⟩
theorem b_Fooled___eq__ {V : Wd} (G : Gf V) (t_tb_Fooled___eq___eq : TabOk V 2 "__eq__" 2 tb_Fooled___eq___eq) {f : Addr} (cdv : Value) (A : Around) (outer : List Env) (s : Shared) (H : Hp) (E : XK) (c : Ctx 2 (bodyX V ["self", "other"] "Fooled.__eq__" (defScope s_Fooled___eq__) f cdv A outer s H E) E) : VB (bodyX V ["self", "other"] "Fooled.__eq__" (defScope s_Fooled___eq__) f cdv A outer s H E) E (defBody s_Fooled___eq__) fs_Fooled___eq__ :=
  (vb_one (vs_ret (ve_and (ve_isi G.isf rfl G.n_isinstance (VE.o (ve_var 1 (pv 1))) (ve_c (ue_gcls rfl G.g_Fooled))) (ve_one (ve_cmpx (cx_eqX c G.isf t_tb_Fooled___eq___eq (neT G.ne rfl)) (ve_fld ["Fooled"] (Gf.a_machine G) (VE.o (ve_var 0 (pv 0)))) (ve_fld ["Fooled"] (Gf.a_machine G) (VE.o (ve_var 1 (pv 1)))) rfl)))))
theorem sc_Led___eq__ : FnScope ["self", "other"] ["self", "other"] (defScope s_Led___eq__) := ⟨rfl, rfl, rfl, by decide +kernel, rfl, by decide +kernel, by decide +kernel⟩
theorem b_Led___eq__ {V : Wd} (G : Gf V)  {f : Addr} (cdv : Value) (A : Around) (outer : List Env) (s : Shared) (H : Hp) (E : XK) (c : Ctx 0 (bodyX V ["self", "other"] "Led.__eq__" (defScope s_Led___eq__) f cdv A outer s H E) E) : VB (bodyX V ["self", "other"] "Led.__eq__" (defScope s_Led___eq__) f cdv A outer s H E) E (defBody s_Led___eq__) fs_Led___eq__ :=
  (vb_one (vs_ret (ve_and (ve_isi G.isf rfl G.n_isinstance (VE.o (ve_var 1 (pv 1))) (ve_c (ue_gcls rfl G.g_Led))) (ve_one (ve_cmp (cv_eq c.hu) (VE.o (ve_fld ["Led"] (Gf.a_events_Led G) (VE.o (ve_var 0 (pv 0))))) (VE.o (ve_fld ["Led"] (Gf.a_events_Led G) (VE.o (ve_var 1 (pv 1))))) rfl)))))
theorem sc_Shut___eq__ : FnScope ["self", "other"] ["self", "other"] (defScope s_Shut___eq__) := ⟨rfl, rfl, rfl, by decide +kernel, rfl, by decide +kernel, by decide +kernel⟩
theorem b_Shut___eq__ {V : Wd} (G : Gf V)  {f : Addr} (cdv : Value) (A : Around) (outer : List Env) (s : Shared) (H : Hp) (E : XK) (c : Ctx 0 (bodyX V ["self", "other"] "Shut.__eq__" (defScope s_Shut___eq__) f cdv A outer s H E) E) : VB (bodyX V ["self", "other"] "Shut.__eq__" (defScope s_Shut___eq__) f cdv A outer s H E) E (defBody s_Shut___eq__) fs_Shut___eq__ :=
  (vb_one (vs_ret (ve_and (ve_isi G.isf rfl G.n_isinstance (VE.o (ve_var 1 (pv 1))) (ve_c (ue_gcls rfl G.g_Shut))) (ve_one (ve_cmp (cv_eq c.hu) (VE.o (ve_fld ["Shut"] (Gf.a_standings_Shut G) (VE.o (ve_var 0 (pv 0))))) (VE.o (ve_fld ["Shut"] (Gf.a_standings_Shut G) (VE.o (ve_var 1 (pv 1))))) rfl)))))
theorem sc_Apart___eq__ : FnScope ["self", "other"] ["self", "other"] (defScope s_Apart___eq__) := ⟨rfl, rfl, rfl, by decide +kernel, rfl, by decide +kernel, by decide +kernel⟩
theorem b_Apart___eq__ {V : Wd} (G : Gf V)  {f : Addr} (cdv : Value) (A : Around) (outer : List Env) (s : Shared) (H : Hp) (E : XK) (c : Ctx 0 (bodyX V ["self", "other"] "Apart.__eq__" (defScope s_Apart___eq__) f cdv A outer s H E) E) : VB (bodyX V ["self", "other"] "Apart.__eq__" (defScope s_Apart___eq__) f cdv A outer s H E) E (defBody s_Apart___eq__) fs_Apart___eq__ :=
  (vb_one (vs_ret (ve_and (ve_isi G.isf rfl G.n_isinstance (VE.o (ve_var 1 (pv 1))) (ve_c (ue_gcls rfl G.g_Apart))) (ve_one (ve_cmp (cv_eq c.hu) (VE.o (ve_fld ["Apart"] (Gf.a_standings_Apart G) (VE.o (ve_var 0 (pv 0))))) (VE.o (ve_fld ["Apart"] (Gf.a_standings_Apart G) (VE.o (ve_var 1 (pv 1))))) rfl)))))
theorem sc_Clash___eq__ : FnScope ["self", "other"] ["self", "other"] (defScope s_Clash___eq__) := ⟨rfl, rfl, rfl, by decide +kernel, rfl, by decide +kernel, by decide +kernel⟩
theorem b_Clash___eq__ {V : Wd} (G : Gf V)  {f : Addr} (cdv : Value) (A : Around) (outer : List Env) (s : Shared) (H : Hp) (E : XK) (c : Ctx 0 (bodyX V ["self", "other"] "Clash.__eq__" (defScope s_Clash___eq__) f cdv A outer s H E) E) : VB (bodyX V ["self", "other"] "Clash.__eq__" (defScope s_Clash___eq__) f cdv A outer s H E) E (defBody s_Clash___eq__) fs_Clash___eq__ :=
  (vb_cons (vs_if (vt_not (vt_val (ve_isi G.isf rfl G.n_isinstance (VE.o (ve_var 1 (pv 1))) (ve_c (ue_gcls rfl G.g_Clash))))) (vb_one (vs_ret ve_bl)) vb_nil)
  (vb_one (vs_ret (ve_cmp (cv_eq c.hu) (VE.o (ve_tup (va_cons (ve_fld ["Clash"] (Gf.a_standing G) (VE.o (ve_var 0 (pv 0)))) (va_cons (ve_fld ["Clash"] (Gf.a_one_Clash G) (VE.o (ve_var 0 (pv 0)))) (va_cons (ve_fld ["Clash"] (Gf.a_other_Clash G) (VE.o (ve_var 0 (pv 0)))) va_nil))))) (VE.o (ve_tup (va_cons (ve_fld ["Clash"] (Gf.a_standing G) (VE.o (ve_var 1 (pv 1)))) (va_cons (ve_fld ["Clash"] (Gf.a_one_Clash G) (VE.o (ve_var 1 (pv 1)))) (va_cons (ve_fld ["Clash"] (Gf.a_other_Clash G) (VE.o (ve_var 1 (pv 1)))) va_nil))))) rfl))))
theorem sc_Covered___eq__ : FnScope ["self", "other"] ["self", "other"] (defScope s_Covered___eq__) := ⟨rfl, rfl, rfl, by decide +kernel, rfl, by decide +kernel, by decide +kernel⟩
theorem b_Covered___eq__ {V : Wd} (G : Gf V)  {f : Addr} (cdv : Value) (A : Around) (outer : List Env) (s : Shared) (H : Hp) (E : XK) (c : Ctx 0 (bodyX V ["self", "other"] "Covered.__eq__" (defScope s_Covered___eq__) f cdv A outer s H E) E) : VB (bodyX V ["self", "other"] "Covered.__eq__" (defScope s_Covered___eq__) f cdv A outer s H E) E (defBody s_Covered___eq__) fs_Covered___eq__ :=
  (vb_one (vs_ret (ve_and (ve_isi G.isf rfl G.n_isinstance (VE.o (ve_var 1 (pv 1))) (ve_c (ue_gcls rfl G.g_Covered))) (ve_one (ve_cmp (cv_eq c.hu) (VE.o (ve_fld ["Covered"] (Gf.a_events_Covered G) (VE.o (ve_var 0 (pv 0))))) (VE.o (ve_fld ["Covered"] (Gf.a_events_Covered G) (VE.o (ve_var 1 (pv 1))))) rfl)))))
theorem sc_Plan___eq__ : FnScope ["self", "other"] ["self", "other"] (defScope s_Plan___eq__) := ⟨rfl, rfl, rfl, by decide +kernel, rfl, by decide +kernel, by decide +kernel⟩
theorem b_Plan___eq__ {V : Wd} (G : Gf V)  {f : Addr} (cdv : Value) (A : Around) (outer : List Env) (s : Shared) (H : Hp) (E : XK) (c : Ctx 0 (bodyX V ["self", "other"] "Plan.__eq__" (defScope s_Plan___eq__) f cdv A outer s H E) E) : VB (bodyX V ["self", "other"] "Plan.__eq__" (defScope s_Plan___eq__) f cdv A outer s H E) E (defBody s_Plan___eq__) fs_Plan___eq__ :=
  (vb_one (vs_ret (ve_and (ve_isi G.isf rfl G.n_isinstance (VE.o (ve_var 1 (pv 1))) (ve_c (ue_gcls rfl G.g_Plan))) (ve_one (ve_cmpx (cx_eqX c G.isf tabOk_nil (neT G.ne rfl)) (ve_fld ["Plan"] (Gf.a_book_Plan G) (VE.o (ve_var 0 (pv 0)))) (ve_fld ["Plan"] (Gf.a_book_Plan G) (VE.o (ve_var 1 (pv 1)))) rfl)))))
theorem sc_Trap___eq__ : FnScope ["self", "other"] ["self", "other"] (defScope s_Trap___eq__) := ⟨rfl, rfl, rfl, by decide +kernel, rfl, by decide +kernel, by decide +kernel⟩
theorem b_Trap___eq__ {V : Wd} (G : Gf V)  {f : Addr} (cdv : Value) (A : Around) (outer : List Env) (s : Shared) (H : Hp) (E : XK) (c : Ctx 0 (bodyX V ["self", "other"] "Trap.__eq__" (defScope s_Trap___eq__) f cdv A outer s H E) E) : VB (bodyX V ["self", "other"] "Trap.__eq__" (defScope s_Trap___eq__) f cdv A outer s H E) E (defBody s_Trap___eq__) fs_Trap___eq__ :=
  (vb_one (vs_ret (ve_and (ve_isi G.isf rfl G.n_isinstance (VE.o (ve_var 1 (pv 1))) (ve_c (ue_gcls rfl G.g_Trap))) (ve_one (ve_cmp (cv_eq c.hu) (VE.o (ve_fld ["Trap"] (Gf.a_standings_Trap G) (VE.o (ve_var 0 (pv 0))))) (VE.o (ve_fld ["Trap"] (Gf.a_standings_Trap G) (VE.o (ve_var 1 (pv 1))))) rfl)))))
theorem sc_Guard___eq__ : FnScope ["self", "other"] ["self", "other"] (defScope s_Guard___eq__) := ⟨rfl, rfl, rfl, by decide +kernel, rfl, by decide +kernel, by decide +kernel⟩
theorem b_Guard___eq__ {V : Wd} (G : Gf V)  {f : Addr} (cdv : Value) (A : Around) (outer : List Env) (s : Shared) (H : Hp) (E : XK) (c : Ctx 0 (bodyX V ["self", "other"] "Guard.__eq__" (defScope s_Guard___eq__) f cdv A outer s H E) E) : VB (bodyX V ["self", "other"] "Guard.__eq__" (defScope s_Guard___eq__) f cdv A outer s H E) E (defBody s_Guard___eq__) fs_Guard___eq__ :=
  (vb_one (vs_ret (ve_and (ve_isi G.isf rfl G.n_isinstance (VE.o (ve_var 1 (pv 1))) (ve_c (ue_gcls rfl G.g_Guard))) (ve_one (ve_cmpx (cx_eqX c G.isf tabOk_nil (neT G.ne rfl)) (ve_fld ["Guard"] (Gf.a_book_Guard G) (VE.o (ve_var 0 (pv 0)))) (ve_fld ["Guard"] (Gf.a_book_Guard G) (VE.o (ve_var 1 (pv 1)))) rfl)))))
theorem sc_Lost___eq__ : FnScope ["self", "other"] ["self", "other"] (defScope s_Lost___eq__) := ⟨rfl, rfl, rfl, by decide +kernel, rfl, by decide +kernel, by decide +kernel⟩
theorem b_Lost___eq__ {V : Wd} (G : Gf V)  {f : Addr} (cdv : Value) (A : Around) (outer : List Env) (s : Shared) (H : Hp) (E : XK) (c : Ctx 0 (bodyX V ["self", "other"] "Lost.__eq__" (defScope s_Lost___eq__) f cdv A outer s H E) E) : VB (bodyX V ["self", "other"] "Lost.__eq__" (defScope s_Lost___eq__) f cdv A outer s H E) E (defBody s_Lost___eq__) fs_Lost___eq__ :=
  (vb_one (vs_ret (ve_and (ve_isi G.isf rfl G.n_isinstance (VE.o (ve_var 1 (pv 1))) (ve_c (ue_gcls rfl G.g_Lost))) (ve_one (ve_cmp (cv_eq c.hu) (VE.o (ve_fld ["Lost"] (Gf.a_events_Lost G) (VE.o (ve_var 0 (pv 0))))) (VE.o (ve_fld ["Lost"] (Gf.a_events_Lost G) (VE.o (ve_var 1 (pv 1))))) rfl)))))
theorem sc_Merged___eq__ : FnScope ["self", "other"] ["self", "other"] (defScope s_Merged___eq__) := ⟨rfl, rfl, rfl, by decide +kernel, rfl, by decide +kernel, by decide +kernel⟩
theorem b_Merged___eq__ {V : Wd} (G : Gf V) (t_tb_Merged___eq___eq : TabOk V 2 "__eq__" 2 tb_Merged___eq___eq) {f : Addr} (cdv : Value) (A : Around) (outer : List Env) (s : Shared) (H : Hp) (E : XK) (c : Ctx 2 (bodyX V ["self", "other"] "Merged.__eq__" (defScope s_Merged___eq__) f cdv A outer s H E) E) : VB (bodyX V ["self", "other"] "Merged.__eq__" (defScope s_Merged___eq__) f cdv A outer s H E) E (defBody s_Merged___eq__) fs_Merged___eq__ :=
  (vb_one (vs_ret (ve_and (ve_isi G.isf rfl G.n_isinstance (VE.o (ve_var 1 (pv 1))) (ve_c (ue_gcls rfl G.g_Merged))) (ve_one (ve_cmpx (cx_eqX c G.isf t_tb_Merged___eq___eq (neT G.ne rfl)) (ve_fld ["Merged"] (Gf.a_chart G) (VE.o (ve_var 0 (pv 0)))) (ve_fld ["Merged"] (Gf.a_chart G) (VE.o (ve_var 1 (pv 1)))) rfl)))))
theorem sc_Conflict___eq__ : FnScope ["self", "other"] ["self", "other"] (defScope s_Conflict___eq__) := ⟨rfl, rfl, rfl, by decide +kernel, rfl, by decide +kernel, by decide +kernel⟩
theorem b_Conflict___eq__ {V : Wd} (G : Gf V)  {f : Addr} (cdv : Value) (A : Around) (outer : List Env) (s : Shared) (H : Hp) (E : XK) (c : Ctx 0 (bodyX V ["self", "other"] "Conflict.__eq__" (defScope s_Conflict___eq__) f cdv A outer s H E) E) : VB (bodyX V ["self", "other"] "Conflict.__eq__" (defScope s_Conflict___eq__) f cdv A outer s H E) E (defBody s_Conflict___eq__) fs_Conflict___eq__ :=
  (vb_one (vs_ret (ve_and (ve_isi G.isf rfl G.n_isinstance (VE.o (ve_var 1 (pv 1))) (ve_c (ue_gcls rfl G.g_Conflict))) (ve_one (ve_cmp (cv_eq c.hu) (VE.o (ve_fld ["Conflict"] (Gf.a_parts G) (VE.o (ve_var 0 (pv 0))))) (VE.o (ve_fld ["Conflict"] (Gf.a_parts G) (VE.o (ve_var 1 (pv 1))))) rfl)))))
theorem sc_Wish___eq__ : FnScope ["self", "other"] ["self", "other"] (defScope s_Wish___eq__) := ⟨rfl, rfl, rfl, by decide +kernel, rfl, by decide +kernel, by decide +kernel⟩
theorem b_Wish___eq__ {V : Wd} (G : Gf V)  {f : Addr} (cdv : Value) (A : Around) (outer : List Env) (s : Shared) (H : Hp) (E : XK) (c : Ctx 0 (bodyX V ["self", "other"] "Wish.__eq__" (defScope s_Wish___eq__) f cdv A outer s H E) E) : VB (bodyX V ["self", "other"] "Wish.__eq__" (defScope s_Wish___eq__) f cdv A outer s H E) E (defBody s_Wish___eq__) fs_Wish___eq__ :=
  (vb_cons (vs_if (vt_not (vt_val (ve_isi G.isf rfl G.n_isinstance (VE.o (ve_var 1 (pv 1))) (ve_c (ue_gcls rfl G.g_Wish))))) (vb_one (vs_ret ve_bl)) vb_nil)
  (vb_one (vs_ret (ve_cmp (cv_eq c.hu) (VE.o (ve_tup (va_cons (ve_fld ["Wish"] (Gf.a_event G) (VE.o (ve_var 0 (pv 0)))) (va_cons (ve_fld ["Wish"] (Gf.a_word G) (VE.o (ve_var 0 (pv 0)))) (va_cons (ve_fld ["Wish"] (Gf.a_ticks G) (VE.o (ve_var 0 (pv 0)))) va_nil))))) (VE.o (ve_tup (va_cons (ve_fld ["Wish"] (Gf.a_event G) (VE.o (ve_var 1 (pv 1)))) (va_cons (ve_fld ["Wish"] (Gf.a_word G) (VE.o (ve_var 1 (pv 1)))) (va_cons (ve_fld ["Wish"] (Gf.a_ticks G) (VE.o (ve_var 1 (pv 1)))) va_nil))))) rfl))))
theorem sc_Keeps___eq__ : FnScope ["self", "other"] ["self", "other"] (defScope s_Keeps___eq__) := ⟨rfl, rfl, rfl, by decide +kernel, rfl, by decide +kernel, by decide +kernel⟩
theorem b_Keeps___eq__ {V : Wd} (G : Gf V)  {f : Addr} (cdv : Value) (A : Around) (outer : List Env) (s : Shared) (H : Hp) (E : XK) (c : Ctx 0 (bodyX V ["self", "other"] "Keeps.__eq__" (defScope s_Keeps___eq__) f cdv A outer s H E) E) : VB (bodyX V ["self", "other"] "Keeps.__eq__" (defScope s_Keeps___eq__) f cdv A outer s H E) E (defBody s_Keeps___eq__) fs_Keeps___eq__ :=
  (vb_one (vs_ret (ve_and (ve_isi G.isf rfl G.n_isinstance (VE.o (ve_var 1 (pv 1))) (ve_c (ue_gcls rfl G.g_Keeps))) (ve_one (ve_cmp (cv_eq c.hu) (VE.o (ve_fld ["Keeps"] (Gf.a_pairs_Keeps G) (VE.o (ve_var 0 (pv 0))))) (VE.o (ve_fld ["Keeps"] (Gf.a_pairs_Keeps G) (VE.o (ve_var 1 (pv 1))))) rfl)))))
theorem sc_Fails___eq__ : FnScope ["self", "other"] ["self", "other"] (defScope s_Fails___eq__) := ⟨rfl, rfl, rfl, by decide +kernel, rfl, by decide +kernel, by decide +kernel⟩
theorem b_Fails___eq__ {V : Wd} (G : Gf V)  {f : Addr} (cdv : Value) (A : Around) (outer : List Env) (s : Shared) (H : Hp) (E : XK) (c : Ctx 0 (bodyX V ["self", "other"] "Fails.__eq__" (defScope s_Fails___eq__) f cdv A outer s H E) E) : VB (bodyX V ["self", "other"] "Fails.__eq__" (defScope s_Fails___eq__) f cdv A outer s H E) E (defBody s_Fails___eq__) fs_Fails___eq__ :=
  (vb_one (vs_ret (ve_and (ve_isi G.isf rfl G.n_isinstance (VE.o (ve_var 1 (pv 1))) (ve_c (ue_gcls rfl G.g_Fails))) (ve_one (ve_cmp (cv_eq c.hu) (VE.o (ve_tup (va_cons (ve_fld ["Fails"] (Gf.a_events_Fails G) (VE.o (ve_var 0 (pv 0)))) (va_cons (ve_fld ["Fails"] (Gf.a_rows_Fails G) (VE.o (ve_var 0 (pv 0)))) va_nil)))) (VE.o (ve_tup (va_cons (ve_fld ["Fails"] (Gf.a_events_Fails G) (VE.o (ve_var 1 (pv 1)))) (va_cons (ve_fld ["Fails"] (Gf.a_rows_Fails G) (VE.o (ve_var 1 (pv 1)))) va_nil)))) rfl)))))
theorem sc_Stuck___eq__ : FnScope ["self", "other"] ["self", "other"] (defScope s_Stuck___eq__) := ⟨rfl, rfl, rfl, by decide +kernel, rfl, by decide +kernel, by decide +kernel⟩
theorem b_Stuck___eq__ {V : Wd} (G : Gf V)  {f : Addr} (cdv : Value) (A : Around) (outer : List Env) (s : Shared) (H : Hp) (E : XK) (c : Ctx 0 (bodyX V ["self", "other"] "Stuck.__eq__" (defScope s_Stuck___eq__) f cdv A outer s H E) E) : VB (bodyX V ["self", "other"] "Stuck.__eq__" (defScope s_Stuck___eq__) f cdv A outer s H E) E (defBody s_Stuck___eq__) fs_Stuck___eq__ :=
  (vb_one (vs_ret (ve_and (ve_isi G.isf rfl G.n_isinstance (VE.o (ve_var 1 (pv 1))) (ve_c (ue_gcls rfl G.g_Stuck))) (ve_one (ve_cmp (cv_eq c.hu) (VE.o (ve_fld ["Stuck"] (Gf.a_events_Stuck G) (VE.o (ve_var 0 (pv 0))))) (VE.o (ve_fld ["Stuck"] (Gf.a_events_Stuck G) (VE.o (ve_var 1 (pv 1))))) rfl)))))
theorem sc_One___bool__ : FnScope ["self"] ["self"] (defScope s_One___bool__) := ⟨rfl, rfl, rfl, by decide +kernel, rfl, by decide +kernel, by decide +kernel⟩
theorem b_One___bool__ {V : Wd} (G : Gf V)  {f : Addr} (cdv : Value) (A : Around) (outer : List Env) (s : Shared) (H : Hp) (E : XK) (c : Ctx 0 (bodyX V ["self"] "One.__bool__" (defScope s_One___bool__) f cdv A outer s H E) E) : VB (bodyX V ["self"] "One.__bool__" (defScope s_One___bool__) f cdv A outer s H E) E (defBody s_One___bool__) fs_One___bool__ :=
  (vb_one (vs_ret ve_bl))
theorem sc_Two___bool__ : FnScope ["self"] ["self"] (defScope s_Two___bool__) := ⟨rfl, rfl, rfl, by decide +kernel, rfl, by decide +kernel, by decide +kernel⟩
theorem b_Two___bool__ {V : Wd} (G : Gf V)  {f : Addr} (cdv : Value) (A : Around) (outer : List Env) (s : Shared) (H : Hp) (E : XK) (c : Ctx 0 (bodyX V ["self"] "Two.__bool__" (defScope s_Two___bool__) f cdv A outer s H E) E) : VB (bodyX V ["self"] "Two.__bool__" (defScope s_Two___bool__) f cdv A outer s H E) E (defBody s_Two___bool__) fs_Two___bool__ :=
  (vb_one (vs_ret ve_bl))
theorem sc_Endless___bool__ : FnScope ["self"] ["self"] (defScope s_Endless___bool__) := ⟨rfl, rfl, rfl, by decide +kernel, rfl, by decide +kernel, by decide +kernel⟩
theorem b_Endless___bool__ {V : Wd} (G : Gf V)  {f : Addr} (cdv : Value) (A : Around) (outer : List Env) (s : Shared) (H : Hp) (E : XK) (c : Ctx 0 (bodyX V ["self"] "Endless.__bool__" (defScope s_Endless___bool__) f cdv A outer s H E) E) : VB (bodyX V ["self"] "Endless.__bool__" (defScope s_Endless___bool__) f cdv A outer s H E) E (defBody s_Endless___bool__) fs_Endless___bool__ :=
  (vb_one (vs_ret ve_bl))
theorem sc_Alike___bool__ : FnScope ["self"] ["self"] (defScope s_Alike___bool__) := ⟨rfl, rfl, rfl, by decide +kernel, rfl, by decide +kernel, by decide +kernel⟩
theorem b_Alike___bool__ {V : Wd} (G : Gf V)  {f : Addr} (cdv : Value) (A : Around) (outer : List Env) (s : Shared) (H : Hp) (E : XK) (c : Ctx 0 (bodyX V ["self"] "Alike.__bool__" (defScope s_Alike___bool__) f cdv A outer s H E) E) : VB (bodyX V ["self"] "Alike.__bool__" (defScope s_Alike___bool__) f cdv A outer s H E) E (defBody s_Alike___bool__) fs_Alike___bool__ :=
  (vb_one (vs_ret ve_bl))
theorem sc_Parts___bool__ : FnScope ["self"] ["self"] (defScope s_Parts___bool__) := ⟨rfl, rfl, rfl, by decide +kernel, rfl, by decide +kernel, by decide +kernel⟩
theorem b_Parts___bool__ {V : Wd} (G : Gf V)  {f : Addr} (cdv : Value) (A : Around) (outer : List Env) (s : Shared) (H : Hp) (E : XK) (c : Ctx 0 (bodyX V ["self"] "Parts.__bool__" (defScope s_Parts___bool__) f cdv A outer s H E) E) : VB (bodyX V ["self"] "Parts.__bool__" (defScope s_Parts___bool__) f cdv A outer s H E) E (defBody s_Parts___bool__) fs_Parts___bool__ :=
  (vb_one (vs_ret ve_bl))
theorem sc_Fooled___bool__ : FnScope ["self"] ["self"] (defScope s_Fooled___bool__) := ⟨rfl, rfl, rfl, by decide +kernel, rfl, by decide +kernel, by decide +kernel⟩
theorem b_Fooled___bool__ {V : Wd} (G : Gf V)  {f : Addr} (cdv : Value) (A : Around) (outer : List Env) (s : Shared) (H : Hp) (E : XK) (c : Ctx 0 (bodyX V ["self"] "Fooled.__bool__" (defScope s_Fooled___bool__) f cdv A outer s H E) E) : VB (bodyX V ["self"] "Fooled.__bool__" (defScope s_Fooled___bool__) f cdv A outer s H E) E (defBody s_Fooled___bool__) fs_Fooled___bool__ :=
  (vb_one (vs_ret ve_bl))
theorem sc_Led___bool__ : FnScope ["self"] ["self"] (defScope s_Led___bool__) := ⟨rfl, rfl, rfl, by decide +kernel, rfl, by decide +kernel, by decide +kernel⟩
theorem b_Led___bool__ {V : Wd} (G : Gf V)  {f : Addr} (cdv : Value) (A : Around) (outer : List Env) (s : Shared) (H : Hp) (E : XK) (c : Ctx 0 (bodyX V ["self"] "Led.__bool__" (defScope s_Led___bool__) f cdv A outer s H E) E) : VB (bodyX V ["self"] "Led.__bool__" (defScope s_Led___bool__) f cdv A outer s H E) E (defBody s_Led___bool__) fs_Led___bool__ :=
  (vb_one (vs_ret ve_bl))
theorem sc_Shut___bool__ : FnScope ["self"] ["self"] (defScope s_Shut___bool__) := ⟨rfl, rfl, rfl, by decide +kernel, rfl, by decide +kernel, by decide +kernel⟩
theorem b_Shut___bool__ {V : Wd} (G : Gf V)  {f : Addr} (cdv : Value) (A : Around) (outer : List Env) (s : Shared) (H : Hp) (E : XK) (c : Ctx 0 (bodyX V ["self"] "Shut.__bool__" (defScope s_Shut___bool__) f cdv A outer s H E) E) : VB (bodyX V ["self"] "Shut.__bool__" (defScope s_Shut___bool__) f cdv A outer s H E) E (defBody s_Shut___bool__) fs_Shut___bool__ :=
  (vb_one (vs_ret ve_bl))
theorem sc_Apart___bool__ : FnScope ["self"] ["self"] (defScope s_Apart___bool__) := ⟨rfl, rfl, rfl, by decide +kernel, rfl, by decide +kernel, by decide +kernel⟩
theorem b_Apart___bool__ {V : Wd} (G : Gf V)  {f : Addr} (cdv : Value) (A : Around) (outer : List Env) (s : Shared) (H : Hp) (E : XK) (c : Ctx 0 (bodyX V ["self"] "Apart.__bool__" (defScope s_Apart___bool__) f cdv A outer s H E) E) : VB (bodyX V ["self"] "Apart.__bool__" (defScope s_Apart___bool__) f cdv A outer s H E) E (defBody s_Apart___bool__) fs_Apart___bool__ :=
  (vb_one (vs_ret ve_bl))
theorem sc_Clash___bool__ : FnScope ["self"] ["self"] (defScope s_Clash___bool__) := ⟨rfl, rfl, rfl, by decide +kernel, rfl, by decide +kernel, by decide +kernel⟩
theorem b_Clash___bool__ {V : Wd} (G : Gf V)  {f : Addr} (cdv : Value) (A : Around) (outer : List Env) (s : Shared) (H : Hp) (E : XK) (c : Ctx 0 (bodyX V ["self"] "Clash.__bool__" (defScope s_Clash___bool__) f cdv A outer s H E) E) : VB (bodyX V ["self"] "Clash.__bool__" (defScope s_Clash___bool__) f cdv A outer s H E) E (defBody s_Clash___bool__) fs_Clash___bool__ :=
  (vb_one (vs_ret ve_bl))
theorem sc_Plan___bool__ : FnScope ["self"] ["self"] (defScope s_Plan___bool__) := ⟨rfl, rfl, rfl, by decide +kernel, rfl, by decide +kernel, by decide +kernel⟩
theorem b_Plan___bool__ {V : Wd} (G : Gf V)  {f : Addr} (cdv : Value) (A : Around) (outer : List Env) (s : Shared) (H : Hp) (E : XK) (c : Ctx 0 (bodyX V ["self"] "Plan.__bool__" (defScope s_Plan___bool__) f cdv A outer s H E) E) : VB (bodyX V ["self"] "Plan.__bool__" (defScope s_Plan___bool__) f cdv A outer s H E) E (defBody s_Plan___bool__) fs_Plan___bool__ :=
  (vb_one (vs_ret ve_bl))
theorem sc_Trap___bool__ : FnScope ["self"] ["self"] (defScope s_Trap___bool__) := ⟨rfl, rfl, rfl, by decide +kernel, rfl, by decide +kernel, by decide +kernel⟩
theorem b_Trap___bool__ {V : Wd} (G : Gf V)  {f : Addr} (cdv : Value) (A : Around) (outer : List Env) (s : Shared) (H : Hp) (E : XK) (c : Ctx 0 (bodyX V ["self"] "Trap.__bool__" (defScope s_Trap___bool__) f cdv A outer s H E) E) : VB (bodyX V ["self"] "Trap.__bool__" (defScope s_Trap___bool__) f cdv A outer s H E) E (defBody s_Trap___bool__) fs_Trap___bool__ :=
  (vb_one (vs_ret ve_bl))
theorem sc_Guard___bool__ : FnScope ["self"] ["self"] (defScope s_Guard___bool__) := ⟨rfl, rfl, rfl, by decide +kernel, rfl, by decide +kernel, by decide +kernel⟩
theorem b_Guard___bool__ {V : Wd} (G : Gf V)  {f : Addr} (cdv : Value) (A : Around) (outer : List Env) (s : Shared) (H : Hp) (E : XK) (c : Ctx 0 (bodyX V ["self"] "Guard.__bool__" (defScope s_Guard___bool__) f cdv A outer s H E) E) : VB (bodyX V ["self"] "Guard.__bool__" (defScope s_Guard___bool__) f cdv A outer s H E) E (defBody s_Guard___bool__) fs_Guard___bool__ :=
  (vb_one (vs_ret ve_bl))
theorem sc_Lost___bool__ : FnScope ["self"] ["self"] (defScope s_Lost___bool__) := ⟨rfl, rfl, rfl, by decide +kernel, rfl, by decide +kernel, by decide +kernel⟩
theorem b_Lost___bool__ {V : Wd} (G : Gf V)  {f : Addr} (cdv : Value) (A : Around) (outer : List Env) (s : Shared) (H : Hp) (E : XK) (c : Ctx 0 (bodyX V ["self"] "Lost.__bool__" (defScope s_Lost___bool__) f cdv A outer s H E) E) : VB (bodyX V ["self"] "Lost.__bool__" (defScope s_Lost___bool__) f cdv A outer s H E) E (defBody s_Lost___bool__) fs_Lost___bool__ :=
  (vb_one (vs_ret ve_bl))
theorem sc_Merged___bool__ : FnScope ["self"] ["self"] (defScope s_Merged___bool__) := ⟨rfl, rfl, rfl, by decide +kernel, rfl, by decide +kernel, by decide +kernel⟩
theorem b_Merged___bool__ {V : Wd} (G : Gf V)  {f : Addr} (cdv : Value) (A : Around) (outer : List Env) (s : Shared) (H : Hp) (E : XK) (c : Ctx 0 (bodyX V ["self"] "Merged.__bool__" (defScope s_Merged___bool__) f cdv A outer s H E) E) : VB (bodyX V ["self"] "Merged.__bool__" (defScope s_Merged___bool__) f cdv A outer s H E) E (defBody s_Merged___bool__) fs_Merged___bool__ :=
  (vb_one (vs_ret ve_bl))
theorem sc_Conflict___bool__ : FnScope ["self"] ["self"] (defScope s_Conflict___bool__) := ⟨rfl, rfl, rfl, by decide +kernel, rfl, by decide +kernel, by decide +kernel⟩
theorem b_Conflict___bool__ {V : Wd} (G : Gf V)  {f : Addr} (cdv : Value) (A : Around) (outer : List Env) (s : Shared) (H : Hp) (E : XK) (c : Ctx 0 (bodyX V ["self"] "Conflict.__bool__" (defScope s_Conflict___bool__) f cdv A outer s H E) E) : VB (bodyX V ["self"] "Conflict.__bool__" (defScope s_Conflict___bool__) f cdv A outer s H E) E (defBody s_Conflict___bool__) fs_Conflict___bool__ :=
  (vb_one (vs_ret ve_bl))
theorem sc_Keeps___bool__ : FnScope ["self"] ["self"] (defScope s_Keeps___bool__) := ⟨rfl, rfl, rfl, by decide +kernel, rfl, by decide +kernel, by decide +kernel⟩
theorem b_Keeps___bool__ {V : Wd} (G : Gf V)  {f : Addr} (cdv : Value) (A : Around) (outer : List Env) (s : Shared) (H : Hp) (E : XK) (c : Ctx 0 (bodyX V ["self"] "Keeps.__bool__" (defScope s_Keeps___bool__) f cdv A outer s H E) E) : VB (bodyX V ["self"] "Keeps.__bool__" (defScope s_Keeps___bool__) f cdv A outer s H E) E (defBody s_Keeps___bool__) fs_Keeps___bool__ :=
  (vb_one (vs_ret ve_bl))
theorem sc_Fails___bool__ : FnScope ["self"] ["self"] (defScope s_Fails___bool__) := ⟨rfl, rfl, rfl, by decide +kernel, rfl, by decide +kernel, by decide +kernel⟩
theorem b_Fails___bool__ {V : Wd} (G : Gf V)  {f : Addr} (cdv : Value) (A : Around) (outer : List Env) (s : Shared) (H : Hp) (E : XK) (c : Ctx 0 (bodyX V ["self"] "Fails.__bool__" (defScope s_Fails___bool__) f cdv A outer s H E) E) : VB (bodyX V ["self"] "Fails.__bool__" (defScope s_Fails___bool__) f cdv A outer s H E) E (defBody s_Fails___bool__) fs_Fails___bool__ :=
  (vb_one (vs_ret ve_bl))
theorem sc_Stuck___bool__ : FnScope ["self"] ["self"] (defScope s_Stuck___bool__) := ⟨rfl, rfl, rfl, by decide +kernel, rfl, by decide +kernel, by decide +kernel⟩
theorem b_Stuck___bool__ {V : Wd} (G : Gf V)  {f : Addr} (cdv : Value) (A : Around) (outer : List Env) (s : Shared) (H : Hp) (E : XK) (c : Ctx 0 (bodyX V ["self"] "Stuck.__bool__" (defScope s_Stuck___bool__) f cdv A outer s H E) E) : VB (bodyX V ["self"] "Stuck.__bool__" (defScope s_Stuck___bool__) f cdv A outer s H E) E (defBody s_Stuck___bool__) fs_Stuck___bool__ :=
  (vb_one (vs_ret ve_bl))
theorem sc_law : FnScope ["script", "draw", "found", "one", "told", "other", "late", "thing", "named", "name", "states", "turned"] ["script"] (defScope s_law) := ⟨rfl, rfl, rfl, by decide +kernel, rfl, by decide +kernel, by decide +kernel⟩
theorem b_law {V : Wd} (G : Gf V) (f__law_made : Fn V 7 "_law_made" 1 (fwOf fr__law_made)) (t_tb_law_eq : TabOk V 7 "__eq__" 2 tb_law_eq) (t_tb_law_bool : TabOk V 6 "__bool__" 1 tb_law_bool) (i_Chart : Mkr V 5 "Chart" 3 (fwOf fr_Chart___init__)) (i_Flat : Mkr V 4 "Flat" 2 (fwOf fr_Flat___init__)) {f : Addr} (cdv : Value) (A : Around) (outer : List Env) (s : Shared) (H : Hp) (E : XK) (c : Ctx 7 (bodyX V ["script", "draw", "found", "one", "told", "other", "late", "thing", "named", "name", "states", "turned"] "law" (defScope s_law) f cdv A outer s H E) E) : VB (bodyX V ["script", "draw", "found", "one", "told", "other", "late", "thing", "named", "name", "states", "turned"] "law" (defScope s_law) f cdv A outer s H E) E ((defBody s_law).drop 1) fs_law :=
  (vb_cons (vs_set (i := 2) c.nd rfl (by first | exact Or.inl rfl | exact Or.inr rfl) (ve_add (VE.o (ve_call c f__law_made (by decide) rfl (va_cons (ve_var 1 (pv 1)) va_nil))) (VE.o (ve_call c f__law_made (by decide) rfl (va_cons (ve_var 1 (pv 1)) va_nil)))))
  (vb_cons (vs_for c.po c.calm (vi_seq (ve_var 2 (pv 2))) (vg_tup c.calm (vgs_cons (vg_name c.nd rfl (by first | exact Or.inl rfl | exact Or.inr rfl)) (vgs_cons (vg_name c.nd rfl (by first | exact Or.inl rfl | exact Or.inr rfl)) vgs_nil))) (vb_cons (vs_for c.po c.calm (vi_seq (ve_var 2 (pv 2))) (vg_tup c.calm (vgs_cons (vg_name c.nd rfl (by first | exact Or.inl rfl | exact Or.inr rfl)) (vgs_cons (vg_name c.nd rfl (by first | exact Or.inl rfl | exact Or.inr rfl)) vgs_nil))) (vb_one (vs_if (UW.t' (vw_or (vt_cmpx (cx_ne c G.isf t_tb_law_eq (neT G.ne rfl)) (ve_cmpx (cx_eqX c G.isf t_tb_law_eq (neT G.ne rfl)) (ve_var 3 (pv 3)) (ve_var 5 (pv 5)) rfl) (ve_cmpx (cx_eqX c G.isf t_tb_law_eq (neT G.ne rfl)) (ve_var 4 (pv 4)) (ve_var 6 (pv 6)) rfl) rfl) (vw_or1 (vt_cmpx (cx_ne c G.isf t_tb_law_eq (neT G.ne rfl)) (ve_cmpx (cx_ne c G.isf t_tb_law_eq (neT G.ne rfl)) (ve_var 3 (pv 3)) (ve_var 5 (pv 5)) rfl) (ve_cmpx (cx_ne c G.isf t_tb_law_eq (neT G.ne rfl)) (ve_var 4 (pv 4)) (ve_var 6 (pv 6)) rfl) rfl)))) (vb_one (vs_ret ve_bl)) vb_nil)))
  (vb_one (vs_for c.po c.calm (vi_seq (ve_tup (va_cons ve_non (va_cons ve_int (va_cons ve_str (va_cons (ve_tup va_nil) (va_cons (VF.ue vf_dnewK) (va_cons (ve_var 4 (pv 4)) va_nil)))))))) (vg_name c.nd rfl (by first | exact Or.inl rfl | exact Or.inr rfl)) (vb_one (vs_if (vt_cmpx (cx_eqX c G.isf t_tb_law_eq (neT G.ne rfl)) (ve_var 3 (pv 3)) (ve_var 7 (pv 7)) rfl) (vb_one (vs_ret ve_bl)) vb_nil))))))
  (vb_cons (vs_set (i := 8) c.nd rfl (by first | exact Or.inl rfl | exact Or.inr rfl) (VF.ue (vf_dictU c.w c.hu c.calm rfl G.n_dict (VE.o (VF.ue (vf_lc (own := [("one", 3), ("told", 4)]) c.calm c.nd (vi_seq (ve_var 2 (pv 2))) (blkOk_by (by first | decide +kernel | rfl)) (by decide) (fun s1 H1 C1 l1 f1 => (vg_tup (c.blk s1 H1 C1 l1 f1).calm (vgs_cons (vg_name (c.blk s1 H1 C1 l1 f1).nd rfl (by first | exact Or.inl rfl | exact Or.inr rfl)) (vgs_cons (vg_name (c.blk s1 H1 C1 l1 f1).nd rfl (by first | exact Or.inl rfl | exact Or.inr rfl)) vgs_nil)))) (fun s1 H1 C1 l1 f1 => vps_nil) (fun s1 H1 C1 l1 f1 => (ve_tup (va_cons (ve_ix (c.blk s1 H1 C1 l1 f1).w (c.blk s1 H1 C1 l1 f1).hu (VE.o (ve_var 4 (pv 4))) (VE.o ve_int) (fun _ _ => rfl)) (va_cons (ve_var 3 (pv 3)) va_nil))))))))))
  (vb_cons (vs_if (vt_not (vt_val (ve_all c.calm rfl G.n_all (VE.o (VF.ue (vf_lc (own := [("name", 9)]) c.calm c.nd (vi_seq (ve_tup (va_cons ve_str (va_cons ve_str (va_cons ve_str (va_cons ve_str (va_cons ve_str (va_cons ve_str (va_cons ve_str (va_cons ve_str va_nil)))))))))) (blkOk_by (by first | decide +kernel | rfl)) (by decide) (fun s1 H1 C1 l1 f1 => (vg_name (c.blk s1 H1 C1 l1 f1).nd rfl (by first | exact Or.inl rfl | exact Or.inr rfl))) (fun s1 H1 C1 l1 f1 => vps_nil) (fun s1 H1 C1 l1 f1 => (ve_bool (c.blk s1 H1 C1 l1 f1) t_tb_law_bool (by decide) rfl G.n_bool (ve_ix (c.blk s1 H1 C1 l1 f1).w (c.blk s1 H1 C1 l1 f1).hu (VE.o (ve_var 8 (pv 8))) (VE.o (ve_var 9 (pv 9))) (fun _ _ => rfl)))))))))) (vb_one (vs_ret ve_bl)) vb_nil)
  (vb_cons (vs_if (vt_val (ve_any c.calm rfl G.n_any (VE.o (VF.ue (vf_lc (own := [("name", 9)]) c.calm c.nd (vi_seq (ve_tup (va_cons ve_str (va_cons ve_str (va_cons ve_str (va_cons ve_str (va_cons ve_str (va_cons ve_str (va_cons ve_str (va_cons ve_str (va_cons ve_str (va_cons ve_str (va_cons ve_str va_nil))))))))))))) (blkOk_by (by first | decide +kernel | rfl)) (by decide) (fun s1 H1 C1 l1 f1 => (vg_name (c.blk s1 H1 C1 l1 f1).nd rfl (by first | exact Or.inl rfl | exact Or.inr rfl))) (fun s1 H1 C1 l1 f1 => vps_nil) (fun s1 H1 C1 l1 f1 => (ve_bool (c.blk s1 H1 C1 l1 f1) t_tb_law_bool (by decide) rfl G.n_bool (ve_ix (c.blk s1 H1 C1 l1 f1).w (c.blk s1 H1 C1 l1 f1).hu (VE.o (ve_var 8 (pv 8))) (VE.o (ve_var 9 (pv 9))) (fun _ _ => rfl))))))))) (vb_one (vs_ret ve_bl)) vb_nil)
  (vb_cons (vs_set (i := 10) c.nd rfl (by first | exact Or.inl rfl | exact Or.inr rfl) (VF.ue (vf_lst (va_cons (ve_tup (va_cons ve_str (va_cons (ve_tup (va_cons ve_str (va_cons ve_non va_nil))) va_nil))) (va_cons (ve_tup (va_cons ve_str (va_cons (ve_tup (va_cons ve_str (va_cons ve_str va_nil))) va_nil))) (va_cons (ve_tup (va_cons ve_str (va_cons (ve_tup (va_cons ve_str (va_cons ve_str va_nil))) va_nil))) va_nil))))))
  (vb_cons (vs_set (i := 11) c.nd rfl (by first | exact Or.inl rfl | exact Or.inr rfl) (ve_make c i_Chart (by decide) rfl (va_cons (VF.ue (vf_dictU c.w c.hu c.calm rfl G.n_dict (VE.o (VF.ue (vf_lst (va_cons (ve_ix c.w c.hu (VE.o (ve_var 10 (pv 10))) (VE.o ve_int) (fun _ _ => rfl)) (va_cons (ve_ix c.w c.hu (VE.o (ve_var 10 (pv 10))) (VE.o ve_int) (fun _ _ => rfl)) (va_cons (ve_ix c.w c.hu (VE.o (ve_var 10 (pv 10))) (VE.o ve_int) (fun _ _ => rfl)) va_nil)))))))) (va_cons (VF.ue (vf_lst va_nil)) (va_cons ve_str va_nil)))))
  (vb_one (vs_ret (ve_and (ve_cmpx (cx_ne c G.isf t_tb_law_eq (neT G.ne rfl)) (ve_make c i_Chart (by decide) rfl (va_cons (VF.ue (vf_dictU c.w c.hu c.calm rfl G.n_dict (VE.o (ve_var 10 (pv 10))))) (va_cons (VF.ue (vf_lst va_nil)) (va_cons ve_str va_nil)))) (ve_var 11 (pv 11)) rfl) (ve_and (ve_cmpx (cx_eqX c G.isf t_tb_law_eq (neT G.ne rfl)) (ve_fld ["Flat"] (Gf.a_rows_Flat G) (VE.o (ve_make c i_Flat (by decide) rfl (va_cons (VF.ue (vf_lst (va_cons ve_str va_nil))) (va_cons (VF.ue (vf_lst (va_cons (VF.ue (vf_disp (vq_cons ve_str (ve_tup (va_cons (VF.ue (vf_lst (va_cons ve_str va_nil))) (va_cons ve_int va_nil))) vq_nil))) va_nil))) va_nil))))) (ve_tup (va_cons (VF.ue (vf_disp (vq_cons ve_str (ve_tup (va_cons (ve_tup (va_cons ve_str va_nil)) (va_cons ve_int va_nil))) vq_nil))) va_nil)) rfl) (ve_one (ve_cmpx (cx_eqX c G.isf t_tb_law_eq (neT G.ne rfl)) (ve_fld ["Chart"] (Gf.a_rows_Chart G) (VE.o (ve_make c i_Chart (by decide) rfl (va_cons (VF.ue (vf_dictU c.w c.hu c.calm rfl G.n_dict (VE.o (ve_var 10 (pv 10))))) (va_cons (VF.ue (vf_lst (va_cons (ve_tup (va_cons ve_str (va_cons ve_str (va_cons ve_str (va_cons (VF.ue (vf_lst (va_cons ve_str va_nil))) va_nil))))) va_nil))) (va_cons ve_str va_nil)))))) (ve_tup (va_cons (ve_tup (va_cons ve_str (va_cons ve_str (va_cons ve_str (va_cons (ve_tup (va_cons ve_str va_nil)) va_nil))))) va_nil)) rfl)))))))))))))
end K18
/-! P18: what the law does with its draws, by going through all of them. -/
namespace U
open PySem L2 Tr
mutual
/-- the same data -/
def beqD : D → D → Bool
  | .non, .non => true
  | .bl a, .bl b => decide (a = b)
  | .int a, .int b => decide (a = b)
  | .str a, .str b => decide (a = b)
  | .tup xs, .tup ys => beqA xs ys
  | .lst xs, .lst ys => beqA xs ys
  | .dct ks vs, .dct ls ws => decide (ks = ls) && beqA vs ws
  | .dcT ks vs, .dcT ls ws => beqA ks ls && beqA vs ws
  | .ins c ns vs, .ins d ms ws => decide (c = d) && (decide (ns = ms) && beqA vs ws)
  | _, _ => false
def beqA : List D → List D → Bool
  | [], [] => true
  | x :: xs, y :: ys => beqD x y && beqA xs ys
  | _, _ => false
end
mutual
theorem beqD_ok : ∀ d e : D, beqD d e = true → d = e
  | .non, e, h => by cases e <;> first | rfl | exact absurd h Bool.false_ne_true
  | .bl a, e, h => by cases e <;> first | exact congrArg D.bl (of_decide_eq_true h) | exact absurd h Bool.false_ne_true
  | .int a, e, h => by cases e <;> first | exact congrArg D.int (of_decide_eq_true h) | exact absurd h Bool.false_ne_true
  | .str a, e, h => by cases e <;> first | exact congrArg D.str (of_decide_eq_true h) | exact absurd h Bool.false_ne_true
  | .tup xs, e, h => by cases e <;> first | exact congrArg D.tup (beqA_ok xs _ h) | exact absurd h Bool.false_ne_true
  | .lst xs, e, h => by cases e <;> first | exact congrArg D.lst (beqA_ok xs _ h) | exact absurd h Bool.false_ne_true
  | .dct ks vs, e, h => by
    cases e <;> first | exact absurd h Bool.false_ne_true | skip
    obtain ⟨h1, h2⟩ := Bool.and_eq_true_iff.mp h
    rw [of_decide_eq_true h1, beqA_ok vs _ h2]
  | .dcT ks vs, e, h => by
    cases e <;> first | exact absurd h Bool.false_ne_true | skip
    obtain ⟨h1, h2⟩ := Bool.and_eq_true_iff.mp h
    rw [beqA_ok ks _ h1, beqA_ok vs _ h2]
  | .ins c ns vs, e, h => by
    cases e <;> first | exact absurd h Bool.false_ne_true | skip
    obtain ⟨h1, h2⟩ := Bool.and_eq_true_iff.mp h
    obtain ⟨h2, h3⟩ := Bool.and_eq_true_iff.mp h2
    rw [of_decide_eq_true h1, of_decide_eq_true h2, beqA_ok vs _ h3]
  | .drw, e, h => absurd h (by cases e <;> exact Bool.false_ne_true)
  | .ty n, e, h => absurd h (by cases e <;> exact Bool.false_ne_true)
  | .cls c, e, h => absurd h (by cases e <;> exact Bool.false_ne_true)
  | .scr ns, e, h => absurd h (by cases e <;> exact Bool.false_ne_true)
  | .lam k, e, h => absurd h (by cases e <;> exact Bool.false_ne_true)
theorem beqA_ok : ∀ ds es : List D, beqA ds es = true → ds = es
  | [], [], _ => rfl
  | [], _ :: _, h => absurd h Bool.false_ne_true
  | _ :: _, [], h => absurd h Bool.false_ne_true
  | d :: ds, e :: es, h => by
    obtain ⟨h1, h2⟩ := Bool.and_eq_true_iff.mp h
    rw [beqD_ok d e h1, beqA_ok ds es h2]
end
/-- all ways end in what p says -/
def allR {α : Type} (p : α → Bool) : Tr α → Bool
  | .ret a => p a
  | .any n k => (List.range n).all fun i => allR p (k i)
  | _ => false
theorem allR_sat {α : Type} {p : α → Bool} {Q : α → Prop} {x : XP} (h : ∀ a, p a = true → Q a) : ∀ t : Tr α, allR p t = true → t.sat Q x
  | .ret a, q => h a q
  | .any n k, q => fun i hi => allR_sat h (k i) (List.all_eq_true.mp q i (List.mem_range.mpr hi))
  | .err _ _ _, q => absurd q Bool.false_ne_true
  | .bad, q => absurd q Bool.false_ne_true
/-- a loop all of whose turns go on -/
theorem forF_all {g : FG} {b : FS} {P : En → Prop} : ∀ ds : List D, (∀ d ∈ ds, ∀ env, P env → ∃ e e', g d env = some e ∧ b e = .ret (.nx e') ∧ P e') → ∀ env, P env → ∃ e', forF g b ds env = .ret (.nx e') ∧ P e'
  | [], _, env, p => ⟨env, rfl, p⟩
  | d :: ds, h, env, p => by
    obtain ⟨e, e', h1, h2, h3⟩ := h d (List.mem_cons_self ..) env p
    obtain ⟨e2, h4, h5⟩ := forF_all ds (fun d hd => h d (List.mem_cons_of_mem _ hd)) e' h3
    refine ⟨e2, ?_, h5⟩
    unfold forF
    rw [h1]
    show (b e).bind _ = _
    rw [h2]
    exact h4
end U
namespace K18
open PySem PySem.Spec PyProof.Rows L2
open U Tr
/-! ### what is made -/
abbrev sD (z : Str) : D := .str z
def rowD (r : Str) : D := .tup [.str "x", .str r]
def chartD (w o : Str) : D := .ins "Chart" ["states", "order", "rows", "priority"] [.dct [.inr "r", .inr "a", .inr "b"] [.tup [.str "one", .non], .tup [.str "leaf", .str "r"], .tup [.str "leaf", .str "r"]],
  .tup [.tup [.str "r", .tup [.str "one", .non]], .tup [.str "a", .tup [.str "leaf", .str "r"]], .tup [.str "b", .tup [.str "leaf", .str "r"]]], .tup [.tup [.str "a", .str "x", .str "b", .tup [.str w]]], .str o]
abbrev it (d : D) (c : Str) (ts : List D) : D := .tup [d, .tup (.str c :: ts)]
def made (r : Str) (n : Int) (w o : Str) : List D := [
  it (chartD w o) "Chart" [.str w, .str o],
  it (.ins "One" ["pairs"] [.tup [rowD r]]) "One" [rowD r],
  it (.ins "Two" ["events", "one", "other"] [.tup [.str w], .tup [rowD r], .tup [rowD r]]) "Two" [.str w, rowD r],
  it (.ins "Endless" ["events", "ring"] [.tup [.str w], .tup [rowD r]]) "Endless" [.str w, rowD r],
  it (.ins "Alike" ["pairs"] [.int n]) "Alike" [.int n],
  it (.ins "Parts" ["events"] [.tup [.str w]]) "Parts" [.str w],
  it (.ins "Flat" ["events", "rows"] [.tup [.str w], .tup [.dct [.inr w] [.tup [.tup [.str o], .int 0]]]]) "Flat" [.str w, .str o],
  it (.ins "Led" ["events"] [.tup [.str w]]) "Led" [.str w],
  it (.ins "Shut" ["standings"] [.tup [rowD r]]) "Shut" [rowD r],
  it (.ins "Apart" ["standings"] [.int n]) "Apart" [.int n],
  it (.ins "Clash" ["standing", "one", "other"] [rowD r, .int n, .int 9]) "Clash" [rowD r, .int n],
  it (.ins "Fooled" ["machine"] [chartD w o]) "Fooled" [.str w, .str o],
  it (.ins "Covered" ["events"] [.tup [.str w]]) "Covered" [.str w],
  it (.ins "Plan" ["book"] [.dcT [rowD r] [.int n]]) "Plan" [rowD r, .int n],
  it (.ins "Trap" ["standings"] [.tup [rowD r]]) "Trap" [rowD r],
  it (.ins "Guard" ["book"] [.dcT [rowD r] [.tup [.str w]]]) "Guard" [rowD r, .str w],
  it (.ins "Lost" ["events"] [.tup [.str w]]) "Lost" [.str w],
  it (.ins "Merged" ["chart"] [chartD w o]) "Merged" [.str w, .str o],
  it (.ins "Conflict" ["parts"] [.tup [rowD r]]) "Conflict" [rowD r],
  it (.ins "Wish" ["event", "word", "ticks"] [.str w, .str "y", .int n]) "Wish" [.str w, .int n],
  it (.ins "Keeps" ["pairs"] [.tup [rowD r]]) "Keeps" [rowD r],
  it (.ins "Fails" ["events", "rows"] [.tup [.str w], .tup [rowD r]]) "Fails" [.str w, rowD r],
  it (.ins "Stuck" ["events"] [.tup [.str w]]) "Stuck" [.str w]]
abbrev C4 := Str × Int × Str × Str
abbrev mk (c : C4) : List D := made c.1 c.2.1 c.2.2.1 c.2.2.2
def rs : List Str := ["y", "z"]
def nums : List Int := [0, 1, 2]
def wds : List Str := ["hi", "lo"]
def os : List Str := ["none", "outer"]
def combos : List C4 := rs.flatMap fun r => nums.flatMap fun n => wds.flatMap fun w => os.map fun o => (r, n, w, o)
/-- all that can be made, each once -/
def pick (c : C4) (is : List Nat) : List D := is.filterMap fun i => (mk c)[i]?
def univ : List D :=
  (wds.flatMap fun w => os.flatMap fun o => pick ("y", 0, w, o) [0, 6, 11, 17]) ++ (rs.flatMap fun r => pick (r, 0, "hi", "none") [1, 8, 14, 18, 20]) ++ (wds.flatMap fun w => rs.flatMap fun r => pick (r, 0, w, "none") [2, 3, 15, 21]) ++
  (nums.flatMap fun n => pick ("y", n, "hi", "none") [4, 9]) ++ (wds.flatMap fun w => pick ("y", 0, w, "none") [5, 7, 12, 16, 22]) ++ (rs.flatMap fun r => nums.flatMap fun n => pick (r, n, "hi", "none") [10, 13]) ++ (wds.flatMap fun w => nums.flatMap fun n => pick ("y", n, w, "none") [19])
theorem made_all : allR (fun d => combos.any fun c => beqD d (.lst (mk c))) (fr__law_made [.drw]) = true := by decide +kernel
theorem made_in : (combos.all fun c => (mk c).all fun d => univ.any (beqD d)) = true := by decide +kernel
/-! ### the loops -/
def test3 : FT := (fOr (fT (fOx (oxEq own tb_law_eq true) (fOx (oxEqX own tb_law_eq) (fVar 3) (fVar 5)) (fOx (oxEqX own tb_law_eq) (fVar 4) (fVar 6)))) (fT (fOx (oxEq own tb_law_eq true) (fOx (oxEq own tb_law_eq true) (fVar 3) (fVar 5)) (fOx (oxEq own tb_law_eq true) (fVar 4) (fVar 6)))))
theorem law_3 : fs_law_3 = fsIf test3 fs_law_2 fsNext := rfl
def test6 : FT := fT (fOx (oxEqX own tb_law_eq) (fVar 3) (fVar 7))
theorem law_6 : fs_law_6 = fsIf test6 fs_law_5 fsNext := rfl
def isF : Tr Bool → Bool
  | .ret false => true
  | _ => false
theorem isF_eq {t : Tr Bool} (h : isF t = true) : t = .ret false := by
  cases t with
  | ret b => cases b with
    | false => rfl
    | true => exact absurd h Bool.false_ne_true
  | _ => exact absurd h Bool.false_ne_true
abbrev env7 (x t y u z : D) : En := [.un, .un, .un, .fz x, .fz t, .fz y, .fz u, .fz z]
def pairOk : D → D → Bool
  | .tup [x, t], .tup [y, u] => isF (test3 (env7 x t y u .non))
  | _, _ => false
def thingOk : D → Bool
  | .tup [x, t] => ([.non, .int 0, .str "a", .tup [], .dct [] [], t] : List D).all fun z => isF (test6 (env7 x t .non .non z))
  | _ => false
theorem things_ok : univ.all thingOk = true := by decide +kernel
theorem pairs_ok : (univ.all fun d => univ.all fun e => pairOk d e) = true := by decide +kernel
end K18
/-! Q18: the law's answer. -/
namespace K18
open PySem PySem.Spec PyProof.Rows L2
open U Tr
def rest : FS := fsSeq fs_law_9 (fsSeq fs_law_11 (fsSeq fs_law_13 (fsSeq fs_law_14 (fsSeq fs_law_15 fs_law_16))))
theorem law_parts : fs_law = fsSeq fs_law_1 (fsSeq fs_law_8 rest) := rfl
def isT : Tr Out → Bool
  | .ret (.rt (.bl true)) => true
  | _ => false
theorem isT_eq {t : Tr Out} (h : isT t = true) : t = .ret (.rt (.bl true)) := by
  unfold isT at h
  split at h
  · rfl
  · exact absurd h Bool.false_ne_true
abbrev envL (ns : List Int) (found : List D) (v3 v4 v5 v6 v7 : Vl) : En := [.fz (.scr ns), .fz .drw, .fz (.lst found), v3, v4, v5, v6, v7, .un, .un, .un, .un]
theorem rest_all (ns : List Int) (r w o r' w' o' : Str) (n n' : Int) (v3 v4 v5 v6 v7 : Vl) : isT (rest (envL ns (made r n w o ++ made r' n' w' o') v3 v4 v5 v6 v7)) = true := by kernel_rfl
theorem univ_in {c : C4} (hc : c ∈ combos) {d : D} (hd : d ∈ mk c) : d ∈ univ := by
  have h := List.all_eq_true.mp (List.all_eq_true.mp made_in c hc) d hd
  obtain ⟨e, he, h⟩ := List.any_eq_true.mp h
  rw [beqD_ok d e h]
  exact he
theorem form {d : D} (h : d ∈ univ) : ∃ x t, d = .tup [x, t] ∧ ∀ z ∈ ([.non, .int 0, .str "a", .tup [], .dct [] [], t] : List D), isF (test6 (env7 x t .non .non z)) = true := by
  have k := List.all_eq_true.mp things_ok d h
  unfold thingOk at k
  split at k
  · exact ⟨_, _, rfl, fun z hz => List.all_eq_true.mp k z hz⟩
  · exact absurd k Bool.false_ne_true
section
variable (ns : List Int) (found : List D)
theorem turn3 (x t y u : D) (v7 : Vl) (h : isF (test3 (env7 x t y u .non)) = true) : fs_law_3 (envL ns found (.fz x) (.fz t) (.fz y) (.fz u) v7) = .ret (.nx (envL ns found (.fz x) (.fz t) (.fz y) (.fz u) v7)) := by
  have e : test3 (envL ns found (.fz x) (.fz t) (.fz y) (.fz u) v7) = test3 (env7 x t y u .non) := by kernel_rfl
  rw [law_3]
  unfold fsIf
  rw [e, isF_eq h]
  rfl
theorem turn6 (x t z : D) (v5 v6 : Vl) (h : isF (test6 (env7 x t .non .non z)) = true) : fs_law_6 (envL ns found (.fz x) (.fz t) v5 v6 (.fz z)) = .ret (.nx (envL ns found (.fz x) (.fz t) v5 v6 (.fz z))) := by
  have e : test6 (envL ns found (.fz x) (.fz t) v5 v6 (.fz z)) = test6 (env7 x t .non .non z) := by kernel_rfl
  rw [law_6]
  unfold fsIf
  rw [e, isF_eq h]
  rfl
variable (hf : ∀ d ∈ found, d ∈ univ)
include hf
theorem loop4 (x t : D) (hd : .tup [x, t] ∈ univ) (v5 v6 v7 : Vl) : ∃ w5 w6, fs_law_4 (envL ns found (.fz x) (.fz t) v5 v6 v7) = .ret (.nx (envL ns found (.fz x) (.fz t) w5 w6 v7)) := by
  obtain ⟨e', h1, w5, w6, h2⟩ := forF_all (g := fgT 2 (fgCons (fgN 5) (fgCons (fgN 6) fgNil))) (b := fs_law_3) (P := fun env => ∃ w5 w6, env = envL ns found (.fz x) (.fz t) w5 w6 v7) found (fun d hdf env p => by
    obtain ⟨w5, w6, e⟩ := p
    subst e
    obtain ⟨y, u, ed, _⟩ := form (hf d hdf)
    subst ed
    have k := List.all_eq_true.mp (List.all_eq_true.mp pairs_ok _ hd) _ (hf _ hdf)
    exact ⟨_, _, rfl, turn3 ns found x t y u v7 k, _, _, rfl⟩) (envL ns found (.fz x) (.fz t) v5 v6 v7) ⟨v5, v6, rfl⟩
  subst h2
  exact ⟨w5, w6, h1⟩
omit hf in
theorem loop7 (x t : D) (hz : ∀ z ∈ ([.non, .int 0, .str "a", .tup [], .dct [] [], t] : List D), isF (test6 (env7 x t .non .non z)) = true) (v5 v6 v7 : Vl) : ∃ w7, fs_law_7 (envL ns found (.fz x) (.fz t) v5 v6 v7) = .ret (.nx (envL ns found (.fz x) (.fz t) v5 v6 w7)) := by
  obtain ⟨e', h1, w7, h2⟩ := forF_all (g := fgN 7) (b := fs_law_6) (P := fun env => ∃ w7, env = envL ns found (.fz x) (.fz t) v5 v6 w7) [.non, .int 0, .str "a", .tup [], .dct [] [], t] (fun d hd env p => by
    obtain ⟨w7, e⟩ := p
    subst e
    exact ⟨_, _, rfl, turn6 ns found x t d v5 v6 (hz d hd), _, rfl⟩) (envL ns found (.fz x) (.fz t) v5 v6 v7) ⟨v7, rfl⟩
  subst h2
  exact ⟨w7, h1⟩
theorem loop8 (v3 v4 v5 v6 v7 : Vl) : ∃ w3 w4 w5 w6 w7, fs_law_8 (envL ns found v3 v4 v5 v6 v7) = .ret (.nx (envL ns found w3 w4 w5 w6 w7)) := by
  obtain ⟨e', h1, w3, w4, w5, w6, w7, h2⟩ := forF_all (g := fgT 2 (fgCons (fgN 3) (fgCons (fgN 4) fgNil))) (b := fsSeq fs_law_4 fs_law_7) (P := fun env => ∃ w3 w4 w5 w6 w7, env = envL ns found w3 w4 w5 w6 w7) found (fun d hdf env p => by
    obtain ⟨w3, w4, w5, w6, w7, e⟩ := p
    subst e
    obtain ⟨x, t, ed, hz⟩ := form (hf d hdf)
    subst ed
    obtain ⟨y5, y6, h4⟩ := loop4 ns found hf x t (hf _ hdf) w5 w6 w7
    obtain ⟨y7, h7⟩ := loop7 ns found x t hz y5 y6 w7
    refine ⟨envL ns found (.fz x) (.fz t) w5 w6 w7, envL ns found (.fz x) (.fz t) y5 y6 y7, rfl, ?_, _, _, _, _, _, rfl⟩
    unfold fsSeq
    rw [h4]
    exact h7) (envL ns found v3 v4 v5 v6 v7) ⟨v3, v4, v5, v6, v7, rfl⟩
  subst h2
  exact ⟨w3, w4, w5, w6, w7, h1⟩
end
theorem law_one (ns : List Int) : fs_law_1 (startL 12 ns) = ((fr__law_made [.drw]).bind fun a => (fr__law_made [.drw]).bind fun b => Tr.of (foAdd a b)).bind fun d => .ret (.nx (envL ns [] .un .un .un .un .un |>.set 2 (.fz d))) := by kernel_rfl
theorem add_made (r w o r' w' o' : Str) (n n' : Int) : foAdd (.lst (made r n w o)) (.lst (made r' n' w' o')) = some (.lst (made r n w o ++ made r' n' w' o')) := by kernel_rfl
theorem tail_ok (ns : List Int) (found : List D) (hf : ∀ d ∈ found, d ∈ univ) {tl : FS} (hr : ∀ v3 v4 v5 v6 v7, tl (envL ns found v3 v4 v5 v6 v7) = .ret (.rt (.bl true))) : fsSeq fs_law_8 tl (envL ns found .un .un .un .un .un) = .ret (.rt (.bl true)) := by
  obtain ⟨w3, w4, w5, w6, w7, h8⟩ := loop8 ns found hf .un .un .un .un .un
  unfold fsSeq
  rw [h8]
  exact hr w3 w4 w5 w6 w7
theorem glue [Wo] {m : Tr D} {tl s1 : FS} {e0 : En} {E : D → En} (h1 : s1 e0 = ((m.bind fun a => m.bind fun b => Tr.of (foAdd a b)).bind fun d => .ret (.nx (E d)))) (all : ∀ Q : D → Prop, (∀ c ∈ combos, Q (.lst (mk c))) → m.sat Q fun _ _ _ => False)
    (ht : ∀ c1 ∈ combos, ∀ c2 ∈ combos, tl (E (.lst (mk c1 ++ mk c2))) = .ret (.rt (.bl true))) : (fsSeq s1 tl e0).sat (fun o => o = .rt (.bl true)) fun _ _ _ => False := by
  unfold fsSeq
  rw [h1, sat_bind, sat_bind, sat_bind]
  refine all _ fun c1 g1 => ?_
  rw [sat_bind]
  refine all _ fun c2 g2 => ?_
  rw [add_made]
  have e := ht c1 g1 c2 g2
  show (tl (E (.lst (mk c1 ++ mk c2)))).sat _ _
  rw [e]
  exact rfl
theorem law_ok [Wo] (ns : List Int) : (fr_law ns).sat (fun o => o = .rt (.bl true)) fun _ _ _ => False := by
  unfold fr_law
  rw [law_parts]
  exact glue (E := fun d => envL ns [] .un .un .un .un .un |>.set 2 (.fz d)) (law_one ns) (fun Q h => allR_sat (fun a ha => by
    obtain ⟨c, hc, e⟩ := List.any_eq_true.mp ha
    rw [beqD_ok a _ e]
    exact h c hc) (fr__law_made [.drw]) made_all) fun c1 h1 c2 h2 =>
    tail_ok ns (mk c1 ++ mk c2) (fun d hd => (List.mem_append.mp hd).elim (univ_in h1) (univ_in h2)) fun w3 w4 w5 w6 w7 => isT_eq (rest_all ns c1.1 c1.2.2.1 c1.2.2.2 c2.1 c2.2.2.1 c2.2.2.2 c1.2.1 c2.2.1 w3 w4 w5 w6 w7)
end K18
/-! J18: the join. -/
namespace K18
open PySem PySem.Spec PyProof.Rows L2
open U
/-! ### the defs by places -/
def d_is_integer : He.DefD := ⟨("is_integer", none), "is_integer", "is_integer", defArgs s_is_integer, defBody s_is_integer, defScope s_is_integer, [], []⟩
def d_is_row : He.DefD := ⟨("is_row", none), "is_row", "is_row", defArgs s_is_row, defBody s_is_row, defScope s_is_row, [], []⟩
def d_is_number : He.DefD := ⟨("is_number", none), "is_number", "is_number", defArgs s_is_number, defBody s_is_number, defScope s_is_number, [], []⟩
def d_is_name : He.DefD := ⟨("is_name", none), "is_name", "is_name", defArgs s_is_name, defBody s_is_name, defScope s_is_name, [], []⟩
def d_Chart___init__ : He.DefD := ⟨("Chart", some "__init__"), "__init__", "Chart.__init__", defArgs s_Chart___init__, defBody s_Chart___init__, defScope s_Chart___init__, [], []⟩
def d_Chart___eq__ : He.DefD := ⟨("Chart", some "__eq__"), "__eq__", "Chart.__eq__", defArgs s_Chart___eq__, defBody s_Chart___eq__, defScope s_Chart___eq__, [], []⟩
def d_is_state : He.DefD := ⟨("is_state", none), "is_state", "is_state", defArgs s_is_state, defBody s_is_state, defScope s_is_state, [], []⟩
def d_is_chart_row : He.DefD := ⟨("is_chart_row", none), "is_chart_row", "is_chart_row", defArgs s_is_chart_row, defBody s_is_chart_row, defScope s_is_chart_row, [], []⟩
def d_is_event : He.DefD := ⟨("is_event", none), "is_event", "is_event", defArgs s_is_event, defBody s_is_event, defScope s_is_event, [], []⟩
def d_is_target : He.DefD := ⟨("is_target", none), "is_target", "is_target", defArgs s_is_target, defBody s_is_target, defScope s_is_target, [], []⟩
def d_One___init__ : He.DefD := ⟨("One", some "__init__"), "__init__", "One.__init__", defArgs s_One___init__, defBody s_One___init__, defScope s_One___init__, [], []⟩
def d_One___bool__ : He.DefD := ⟨("One", some "__bool__"), "__bool__", "One.__bool__", defArgs s_One___bool__, defBody s_One___bool__, defScope s_One___bool__, [], []⟩
def d_One___eq__ : He.DefD := ⟨("One", some "__eq__"), "__eq__", "One.__eq__", defArgs s_One___eq__, defBody s_One___eq__, defScope s_One___eq__, [], []⟩
def d_Two___init__ : He.DefD := ⟨("Two", some "__init__"), "__init__", "Two.__init__", defArgs s_Two___init__, defBody s_Two___init__, defScope s_Two___init__, [], []⟩
def d_Two___bool__ : He.DefD := ⟨("Two", some "__bool__"), "__bool__", "Two.__bool__", defArgs s_Two___bool__, defBody s_Two___bool__, defScope s_Two___bool__, [], []⟩
def d_Two___eq__ : He.DefD := ⟨("Two", some "__eq__"), "__eq__", "Two.__eq__", defArgs s_Two___eq__, defBody s_Two___eq__, defScope s_Two___eq__, [], []⟩
def d_Endless___init__ : He.DefD := ⟨("Endless", some "__init__"), "__init__", "Endless.__init__", defArgs s_Endless___init__, defBody s_Endless___init__, defScope s_Endless___init__, [], []⟩
def d_Endless___bool__ : He.DefD := ⟨("Endless", some "__bool__"), "__bool__", "Endless.__bool__", defArgs s_Endless___bool__, defBody s_Endless___bool__, defScope s_Endless___bool__, [], []⟩
def d_Endless___eq__ : He.DefD := ⟨("Endless", some "__eq__"), "__eq__", "Endless.__eq__", defArgs s_Endless___eq__, defBody s_Endless___eq__, defScope s_Endless___eq__, [], []⟩
def d_Flat___init__ : He.DefD := ⟨("Flat", some "__init__"), "__init__", "Flat.__init__", defArgs s_Flat___init__, defBody s_Flat___init__, defScope s_Flat___init__, [], []⟩
def d_Flat___eq__ : He.DefD := ⟨("Flat", some "__eq__"), "__eq__", "Flat.__eq__", defArgs s_Flat___eq__, defBody s_Flat___eq__, defScope s_Flat___eq__, [], []⟩
def d_is_step : He.DefD := ⟨("is_step", none), "is_step", "is_step", defArgs s_is_step, defBody s_is_step, defScope s_is_step, [], []⟩
def d_Alike___init__ : He.DefD := ⟨("Alike", some "__init__"), "__init__", "Alike.__init__", defArgs s_Alike___init__, defBody s_Alike___init__, defScope s_Alike___init__, [], []⟩
def d_Alike___bool__ : He.DefD := ⟨("Alike", some "__bool__"), "__bool__", "Alike.__bool__", defArgs s_Alike___bool__, defBody s_Alike___bool__, defScope s_Alike___bool__, [], []⟩
def d_Alike___eq__ : He.DefD := ⟨("Alike", some "__eq__"), "__eq__", "Alike.__eq__", defArgs s_Alike___eq__, defBody s_Alike___eq__, defScope s_Alike___eq__, [], []⟩
def d_Parts___init__ : He.DefD := ⟨("Parts", some "__init__"), "__init__", "Parts.__init__", defArgs s_Parts___init__, defBody s_Parts___init__, defScope s_Parts___init__, [], []⟩
def d_Parts___bool__ : He.DefD := ⟨("Parts", some "__bool__"), "__bool__", "Parts.__bool__", defArgs s_Parts___bool__, defBody s_Parts___bool__, defScope s_Parts___bool__, [], []⟩
def d_Parts___eq__ : He.DefD := ⟨("Parts", some "__eq__"), "__eq__", "Parts.__eq__", defArgs s_Parts___eq__, defBody s_Parts___eq__, defScope s_Parts___eq__, [], []⟩
def d_Fooled___init__ : He.DefD := ⟨("Fooled", some "__init__"), "__init__", "Fooled.__init__", defArgs s_Fooled___init__, defBody s_Fooled___init__, defScope s_Fooled___init__, [], []⟩
def d_Fooled___bool__ : He.DefD := ⟨("Fooled", some "__bool__"), "__bool__", "Fooled.__bool__", defArgs s_Fooled___bool__, defBody s_Fooled___bool__, defScope s_Fooled___bool__, [], []⟩
def d_Fooled___eq__ : He.DefD := ⟨("Fooled", some "__eq__"), "__eq__", "Fooled.__eq__", defArgs s_Fooled___eq__, defBody s_Fooled___eq__, defScope s_Fooled___eq__, [], []⟩
def d_Led___init__ : He.DefD := ⟨("Led", some "__init__"), "__init__", "Led.__init__", defArgs s_Led___init__, defBody s_Led___init__, defScope s_Led___init__, [], []⟩
def d_Led___bool__ : He.DefD := ⟨("Led", some "__bool__"), "__bool__", "Led.__bool__", defArgs s_Led___bool__, defBody s_Led___bool__, defScope s_Led___bool__, [], []⟩
def d_Led___eq__ : He.DefD := ⟨("Led", some "__eq__"), "__eq__", "Led.__eq__", defArgs s_Led___eq__, defBody s_Led___eq__, defScope s_Led___eq__, [], []⟩
def d_Shut___init__ : He.DefD := ⟨("Shut", some "__init__"), "__init__", "Shut.__init__", defArgs s_Shut___init__, defBody s_Shut___init__, defScope s_Shut___init__, [], []⟩
def d_Shut___bool__ : He.DefD := ⟨("Shut", some "__bool__"), "__bool__", "Shut.__bool__", defArgs s_Shut___bool__, defBody s_Shut___bool__, defScope s_Shut___bool__, [], []⟩
def d_Shut___eq__ : He.DefD := ⟨("Shut", some "__eq__"), "__eq__", "Shut.__eq__", defArgs s_Shut___eq__, defBody s_Shut___eq__, defScope s_Shut___eq__, [], []⟩
def d_Apart___init__ : He.DefD := ⟨("Apart", some "__init__"), "__init__", "Apart.__init__", defArgs s_Apart___init__, defBody s_Apart___init__, defScope s_Apart___init__, [], []⟩
def d_Apart___bool__ : He.DefD := ⟨("Apart", some "__bool__"), "__bool__", "Apart.__bool__", defArgs s_Apart___bool__, defBody s_Apart___bool__, defScope s_Apart___bool__, [], []⟩
def d_Apart___eq__ : He.DefD := ⟨("Apart", some "__eq__"), "__eq__", "Apart.__eq__", defArgs s_Apart___eq__, defBody s_Apart___eq__, defScope s_Apart___eq__, [], []⟩
def d_Clash___init__ : He.DefD := ⟨("Clash", some "__init__"), "__init__", "Clash.__init__", defArgs s_Clash___init__, defBody s_Clash___init__, defScope s_Clash___init__, [], []⟩
def d_Clash___bool__ : He.DefD := ⟨("Clash", some "__bool__"), "__bool__", "Clash.__bool__", defArgs s_Clash___bool__, defBody s_Clash___bool__, defScope s_Clash___bool__, [], []⟩
def d_Clash___eq__ : He.DefD := ⟨("Clash", some "__eq__"), "__eq__", "Clash.__eq__", defArgs s_Clash___eq__, defBody s_Clash___eq__, defScope s_Clash___eq__, [], []⟩
def d_Covered___init__ : He.DefD := ⟨("Covered", some "__init__"), "__init__", "Covered.__init__", defArgs s_Covered___init__, defBody s_Covered___init__, defScope s_Covered___init__, [], []⟩
def d_Covered___eq__ : He.DefD := ⟨("Covered", some "__eq__"), "__eq__", "Covered.__eq__", defArgs s_Covered___eq__, defBody s_Covered___eq__, defScope s_Covered___eq__, [], []⟩
def d_Plan___init__ : He.DefD := ⟨("Plan", some "__init__"), "__init__", "Plan.__init__", defArgs s_Plan___init__, defBody s_Plan___init__, defScope s_Plan___init__, [], []⟩
def d_Plan___bool__ : He.DefD := ⟨("Plan", some "__bool__"), "__bool__", "Plan.__bool__", defArgs s_Plan___bool__, defBody s_Plan___bool__, defScope s_Plan___bool__, [], []⟩
def d_Plan___eq__ : He.DefD := ⟨("Plan", some "__eq__"), "__eq__", "Plan.__eq__", defArgs s_Plan___eq__, defBody s_Plan___eq__, defScope s_Plan___eq__, [], []⟩
def d_Trap___init__ : He.DefD := ⟨("Trap", some "__init__"), "__init__", "Trap.__init__", defArgs s_Trap___init__, defBody s_Trap___init__, defScope s_Trap___init__, [], []⟩
def d_Trap___bool__ : He.DefD := ⟨("Trap", some "__bool__"), "__bool__", "Trap.__bool__", defArgs s_Trap___bool__, defBody s_Trap___bool__, defScope s_Trap___bool__, [], []⟩
def d_Trap___eq__ : He.DefD := ⟨("Trap", some "__eq__"), "__eq__", "Trap.__eq__", defArgs s_Trap___eq__, defBody s_Trap___eq__, defScope s_Trap___eq__, [], []⟩
def d_Guard___init__ : He.DefD := ⟨("Guard", some "__init__"), "__init__", "Guard.__init__", defArgs s_Guard___init__, defBody s_Guard___init__, defScope s_Guard___init__, [], []⟩
def d_Guard___bool__ : He.DefD := ⟨("Guard", some "__bool__"), "__bool__", "Guard.__bool__", defArgs s_Guard___bool__, defBody s_Guard___bool__, defScope s_Guard___bool__, [], []⟩
def d_Guard___eq__ : He.DefD := ⟨("Guard", some "__eq__"), "__eq__", "Guard.__eq__", defArgs s_Guard___eq__, defBody s_Guard___eq__, defScope s_Guard___eq__, [], []⟩
def d_Lost___init__ : He.DefD := ⟨("Lost", some "__init__"), "__init__", "Lost.__init__", defArgs s_Lost___init__, defBody s_Lost___init__, defScope s_Lost___init__, [], []⟩
def d_Lost___bool__ : He.DefD := ⟨("Lost", some "__bool__"), "__bool__", "Lost.__bool__", defArgs s_Lost___bool__, defBody s_Lost___bool__, defScope s_Lost___bool__, [], []⟩
def d_Lost___eq__ : He.DefD := ⟨("Lost", some "__eq__"), "__eq__", "Lost.__eq__", defArgs s_Lost___eq__, defBody s_Lost___eq__, defScope s_Lost___eq__, [], []⟩
def d_Merged___init__ : He.DefD := ⟨("Merged", some "__init__"), "__init__", "Merged.__init__", defArgs s_Merged___init__, defBody s_Merged___init__, defScope s_Merged___init__, [], []⟩
def d_Merged___bool__ : He.DefD := ⟨("Merged", some "__bool__"), "__bool__", "Merged.__bool__", defArgs s_Merged___bool__, defBody s_Merged___bool__, defScope s_Merged___bool__, [], []⟩
def d_Merged___eq__ : He.DefD := ⟨("Merged", some "__eq__"), "__eq__", "Merged.__eq__", defArgs s_Merged___eq__, defBody s_Merged___eq__, defScope s_Merged___eq__, [], []⟩
def d_Conflict___init__ : He.DefD := ⟨("Conflict", some "__init__"), "__init__", "Conflict.__init__", defArgs s_Conflict___init__, defBody s_Conflict___init__, defScope s_Conflict___init__, [], []⟩
def d_Conflict___bool__ : He.DefD := ⟨("Conflict", some "__bool__"), "__bool__", "Conflict.__bool__", defArgs s_Conflict___bool__, defBody s_Conflict___bool__, defScope s_Conflict___bool__, [], []⟩
def d_Conflict___eq__ : He.DefD := ⟨("Conflict", some "__eq__"), "__eq__", "Conflict.__eq__", defArgs s_Conflict___eq__, defBody s_Conflict___eq__, defScope s_Conflict___eq__, [], []⟩
def d_Wish___init__ : He.DefD := ⟨("Wish", some "__init__"), "__init__", "Wish.__init__", defArgs s_Wish___init__, defBody s_Wish___init__, defScope s_Wish___init__, [], []⟩
def d_Wish___eq__ : He.DefD := ⟨("Wish", some "__eq__"), "__eq__", "Wish.__eq__", defArgs s_Wish___eq__, defBody s_Wish___eq__, defScope s_Wish___eq__, [], []⟩
def d_Keeps___init__ : He.DefD := ⟨("Keeps", some "__init__"), "__init__", "Keeps.__init__", defArgs s_Keeps___init__, defBody s_Keeps___init__, defScope s_Keeps___init__, [], []⟩
def d_Keeps___bool__ : He.DefD := ⟨("Keeps", some "__bool__"), "__bool__", "Keeps.__bool__", defArgs s_Keeps___bool__, defBody s_Keeps___bool__, defScope s_Keeps___bool__, [], []⟩
def d_Keeps___eq__ : He.DefD := ⟨("Keeps", some "__eq__"), "__eq__", "Keeps.__eq__", defArgs s_Keeps___eq__, defBody s_Keeps___eq__, defScope s_Keeps___eq__, [], []⟩
def d_Fails___init__ : He.DefD := ⟨("Fails", some "__init__"), "__init__", "Fails.__init__", defArgs s_Fails___init__, defBody s_Fails___init__, defScope s_Fails___init__, [], []⟩
def d_Fails___bool__ : He.DefD := ⟨("Fails", some "__bool__"), "__bool__", "Fails.__bool__", defArgs s_Fails___bool__, defBody s_Fails___bool__, defScope s_Fails___bool__, [], []⟩
def d_Fails___eq__ : He.DefD := ⟨("Fails", some "__eq__"), "__eq__", "Fails.__eq__", defArgs s_Fails___eq__, defBody s_Fails___eq__, defScope s_Fails___eq__, [], []⟩
def d_Stuck___init__ : He.DefD := ⟨("Stuck", some "__init__"), "__init__", "Stuck.__init__", defArgs s_Stuck___init__, defBody s_Stuck___init__, defScope s_Stuck___init__, [], []⟩
def d_Stuck___bool__ : He.DefD := ⟨("Stuck", some "__bool__"), "__bool__", "Stuck.__bool__", defArgs s_Stuck___bool__, defBody s_Stuck___bool__, defScope s_Stuck___bool__, [], []⟩
def d_Stuck___eq__ : He.DefD := ⟨("Stuck", some "__eq__"), "__eq__", "Stuck.__eq__", defArgs s_Stuck___eq__, defBody s_Stuck___eq__, defScope s_Stuck___eq__, [], []⟩
def d__law_number : He.DefD := ⟨("_law_number", none), "_law_number", "_law_number", defArgs s__law_number, defBody s__law_number, defScope s__law_number, [], []⟩
def d__law_take : He.DefD := ⟨("_law_take", none), "_law_take", "_law_take", defArgs s__law_take, defBody s__law_take, defScope s__law_take, [], []⟩
def d__law_pick : He.DefD := ⟨("_law_pick", none), "_law_pick", "_law_pick", defArgs s__law_pick, defBody s__law_pick, defScope s__law_pick, [], []⟩
def d__law_made : He.DefD := ⟨("_law_made", none), "_law_made", "_law_made", defArgs s__law_made, defBody s__law_made, defScope s__law_made, [], []⟩
def d_law : He.DefD := ⟨("law", none), "law", "law", defArgs s_law, defBody s_law, defScope s_law, [], []⟩
def names : List Str := (["_wall", "ChartError", "BadChart", "BadEvents", "SMALL", "FIGURES", "MOST_NAME", "is_integer", "is_row", "is_number", "is_name", "KINDS"] : List Str) ++ (["PRIORITIES", "MOST_STATES", "MOST_ROWS", "MOST_AFTER", "TICK", "Chart", "is_state", "is_chart_row", "is_event", "is_target", "One", "Two"] : List Str) ++ (["Endless", "BadFlat", "Flat", "is_step", "Alike", "Parts", "Fooled", "Led", "Shut", "Apart", "Clash", "Covered"] : List Str) ++ (["Plan", "Trap", "Guard", "Lost", "Merged", "Conflict", "BadWish", "Wish", "Keeps", "Fails", "Stuck", "_law_number"] : List Str) ++ (["_law_take", "_law_pick", "_law_made"] : List Str)
def LAW : Nat := 65
def fn : List He.DefD := [d_is_integer, d_is_row, d_is_number, d_is_name, d_Chart___init__, d_Chart___eq__, d_is_state, d_is_chart_row, d_is_event, d_is_target, d_One___init__, d_One___bool__, d_One___eq__, d_Two___init__, d_Two___bool__, d_Two___eq__, d_Endless___init__, d_Endless___bool__, d_Endless___eq__, d_Flat___init__, d_Flat___eq__, d_is_step, d_Alike___init__, d_Alike___bool__, d_Alike___eq__, d_Parts___init__, d_Parts___bool__, d_Parts___eq__, d_Fooled___init__, d_Fooled___bool__, d_Fooled___eq__, d_Led___init__, d_Led___bool__, d_Led___eq__, d_Shut___init__, d_Shut___bool__, d_Shut___eq__, d_Apart___init__, d_Apart___bool__, d_Apart___eq__, d_Clash___init__, d_Clash___bool__, d_Clash___eq__, d_Covered___init__, d_Covered___eq__, d_Plan___init__, d_Plan___bool__, d_Plan___eq__, d_Trap___init__, d_Trap___bool__, d_Trap___eq__, d_Guard___init__, d_Guard___bool__, d_Guard___eq__, d_Lost___init__, d_Lost___bool__, d_Lost___eq__, d_Merged___init__, d_Merged___bool__, d_Merged___eq__, d_Conflict___init__, d_Conflict___bool__, d_Conflict___eq__, d_Wish___init__, d_Wish___eq__, d_Keeps___init__, d_Keeps___bool__, d_Keeps___eq__, d_Fails___init__, d_Fails___bool__, d_Fails___eq__, d_Stuck___init__, d_Stuck___bool__, d_Stuck___eq__, d__law_number, d__law_take, d__law_pick, d__law_made, d_law]
def fa : List He.Fa := [.glo "is_integer", .glo "is_row", .glo "is_number", .glo "is_name", .glo "is_state", .glo "is_chart_row", .glo "is_event", .glo "is_target", .glo "is_step", .glo "_law_number", .glo "_law_take", .glo "_law_pick", .glo "_law_made", .glo "law", .glo "ChartError", .glo "BadChart", .glo "BadEvents", .glo "Chart", .glo "One", .glo "Two", .glo "Endless", .glo "BadFlat", .glo "Flat", .glo "Alike", .glo "Parts", .glo "Fooled", .glo "Led", .glo "Shut", .glo "Apart", .glo "Clash", .glo "Covered", .glo "Plan", .glo "Trap", .glo "Guard", .glo "Lost", .glo "Merged", .glo "Conflict", .glo "BadWish", .glo "Wish", .glo "Keeps", .glo "Fails", .glo "Stuck", .cls "Chart", .mkr "Chart", .meth "Chart" "__eq__", .noat "Chart" "order", .noat "Chart" "priority", .noat "Chart" "rows", .noat "Chart" "states", .cls "One", .mkr "One", .meth "One" "__bool__", .meth "One" "__eq__", .noat "One" "pairs", .cls "Two", .mkr "Two", .meth "Two" "__bool__", .meth "Two" "__eq__", .noat "Two" "events", .noat "Two" "one", .noat "Two" "other", .cls "Endless", .mkr "Endless", .meth "Endless" "__bool__", .meth "Endless" "__eq__", .noat "Endless" "events", .noat "Endless" "ring", .cls "Flat", .mkr "Flat", .meth "Flat" "__eq__", .noat "Flat" "events", .noat "Flat" "rows", .cls "Alike", .mkr "Alike", .meth "Alike" "__bool__", .meth "Alike" "__eq__", .noat "Alike" "pairs", .cls "Parts", .mkr "Parts", .meth "Parts" "__bool__", .meth "Parts" "__eq__", .noat "Parts" "events", .cls "Fooled", .mkr "Fooled", .meth "Fooled" "__bool__", .meth "Fooled" "__eq__", .noat "Fooled" "machine", .cls "Led", .mkr "Led", .meth "Led" "__bool__", .meth "Led" "__eq__", .noat "Led" "events", .cls "Shut", .mkr "Shut", .meth "Shut" "__bool__", .meth "Shut" "__eq__", .noat "Shut" "standings", .cls "Apart", .mkr "Apart", .meth "Apart" "__bool__", .meth "Apart" "__eq__", .noat "Apart" "standings", .cls "Clash", .mkr "Clash", .meth "Clash" "__bool__", .meth "Clash" "__eq__", .noat "Clash" "one", .noat "Clash" "other", .noat "Clash" "standing", .cls "Covered", .mkr "Covered", .meth "Covered" "__eq__", .noat "Covered" "events", .cls "Plan", .mkr "Plan", .meth "Plan" "__bool__", .meth "Plan" "__eq__", .noat "Plan" "book", .cls "Trap", .mkr "Trap", .meth "Trap" "__bool__", .meth "Trap" "__eq__", .noat "Trap" "standings", .cls "Guard", .mkr "Guard", .meth "Guard" "__bool__", .meth "Guard" "__eq__", .noat "Guard" "book", .cls "Lost", .mkr "Lost", .meth "Lost" "__bool__", .meth "Lost" "__eq__", .noat "Lost" "events", .cls "Merged", .mkr "Merged", .meth "Merged" "__bool__", .meth "Merged" "__eq__", .noat "Merged" "chart", .cls "Conflict", .mkr "Conflict", .meth "Conflict" "__bool__", .meth "Conflict" "__eq__", .noat "Conflict" "parts", .cls "Wish", .mkr "Wish", .meth "Wish" "__eq__", .noat "Wish" "event", .noat "Wish" "ticks", .noat "Wish" "word", .cls "Keeps", .mkr "Keeps", .meth "Keeps" "__bool__", .meth "Keeps" "__eq__", .noat "Keeps" "pairs", .cls "Fails", .mkr "Fails", .meth "Fails" "__bool__", .meth "Fails" "__eq__", .noat "Fails" "events", .noat "Fails" "rows", .cls "Stuck", .mkr "Stuck", .meth "Stuck" "__bool__", .meth "Stuck" "__eq__", .noat "Stuck" "events", .free "len", .free "isinstance", .free "int", .free "str", .free "bool", .free "list", .free "tuple", .free "dict", .free "set", .free "range", .free "enumerate", .free "sorted", .free "all", .free "any", .str "SMALL" "abcdefghijklmnopqrstuvwxyz", .str "FIGURES" "0123456789", .int "MOST_NAME" 8, .int "MOST_STATES" 12, .int "MOST_ROWS" 16, .int "MOST_AFTER" 3, .str "TICK" "tick", .glo "KINDS", .glo "PRIORITIES"]
def ex (K : PySem.W.Frag) : Bool := (isFB K own) && ((own.all fun c => neB K (He.ga K c)) && ((tupB K "KINDS" ["leaf", "one", "all"]) && ((tupB K "PRIORITIES" ["none", "outer", "inner"]))))
abbrev R : PySem.W.OpenRow := PySem.W.OpenLaw.row PySem.Challenge.rw_nestcharts_k18_equal_outcomes
abbrev hk : PySem.W.Hook := hookE fa fn ex
def ob (s : PySem.W.SharedT) : AlE := obsE fa fn ex (HandSHeadRun.getT s)
theorem ob_eq (s : PySem.W.SharedT) : ob s = hk.obs s.abs := obsE_eq (HandSHeadRun.getT_eq s)
theorem run (w : World) : HandSHeadRun.RunEq R (PySem.W.view R.prog [LAW]) hk ob 12000 names w := by
  intro os
  kernel_rfl
variable [Wo]
/-- what is known at the law's call -/
structure Zf (V : Wd) : Prop where
  hV : V.w = Wo.w
  c : SaysE fa fn ex V.K
  h : ∃ h : Heap, V.K.In h ∧ h.Ns mainGlobals V.mg
theorem Zf.glo {V : Wd} (Z : Zf V) (i : Nat) {x : Str} (e : fa[i]? = some (.glo x)) : V.mg x = some (.ref (He.ga V.K x)) := Z.h.elim fun _ h => He.glo_ok h.1 h.2 (Z.c.d.fact i e)
theorem Zf.free {V : Wd} (Z : Zf V) (i : Nat) {x : Str} (e : fa[i]? = some (.free x)) : V.mg x = none := Z.h.elim fun _ h => He.free_ok h.1 h.2 (Z.c.d.fact i e)
theorem Zf.int {V : Wd} (Z : Zf V) (i : Nat) {x : Str} {n : Int} (e : fa[i]? = some (.int x n)) : ∃ t, V.mg x = some (.int n t) := Z.h.elim fun _ h => He.int_ok h.1 h.2 (Z.c.d.fact i e)
theorem Zf.str {V : Wd} (Z : Zf V) (i : Nat) {x z : Str} (e : fa[i]? = some (.str x z)) : ∃ t, V.mg x = some (.str z t) := Z.h.elim fun _ h => He.str_ok h.1 h.2 (Z.c.d.fact i e)
theorem Zf.cls {V : Wd} (Z : Zf V) (i : Nat) {x : Str} (e : fa[i]? = some (.cls x)) : Cls V.K (He.ga V.K x) := He.cls_ok (Z.c.d.fact i e)
theorem Zf.isf {V : Wd} (Z : Zf V) : IsF V.K own := ⟨(ba Z.c.x).1, fun c hc => by
  simp only [own, List.mem_cons, List.not_mem_nil, or_false] at hc
  rcases hc with rfl | rfl | rfl | rfl | rfl | rfl | rfl | rfl | rfl | rfl | rfl | rfl | rfl | rfl | rfl | rfl | rfl | rfl | rfl | rfl | rfl | rfl | rfl
  · exact Z.cls 42 rfl
  · exact Z.cls 49 rfl
  · exact Z.cls 54 rfl
  · exact Z.cls 61 rfl
  · exact Z.cls 67 rfl
  · exact Z.cls 72 rfl
  · exact Z.cls 77 rfl
  · exact Z.cls 82 rfl
  · exact Z.cls 87 rfl
  · exact Z.cls 92 rfl
  · exact Z.cls 97 rfl
  · exact Z.cls 102 rfl
  · exact Z.cls 109 rfl
  · exact Z.cls 113 rfl
  · exact Z.cls 118 rfl
  · exact Z.cls 123 rfl
  · exact Z.cls 128 rfl
  · exact Z.cls 133 rfl
  · exact Z.cls 138 rfl
  · exact Z.cls 143 rfl
  · exact Z.cls 149 rfl
  · exact Z.cls 154 rfl
  · exact Z.cls 160 rfl⟩
theorem Zf.gf {V : Wd} (Z : Zf V) : Gf V where
  n_all := Z.free 177 rfl
  n_any := Z.free 178 rfl
  n_bool := Z.free 169 rfl
  n_dict := Z.free 172 rfl
  n_enumerate := Z.free 175 rfl
  n_int := Z.free 167 rfl
  n_isinstance := Z.free 166 rfl
  n_len := Z.free 165 rfl
  n_list := Z.free 170 rfl
  n_range := Z.free 174 rfl
  n_set := Z.free 173 rfl
  n_sorted := Z.free 176 rfl
  n_str := Z.free 168 rfl
  n_tuple := Z.free 171 rfl
  c_SMALL := Z.str 179 rfl
  c_FIGURES := Z.str 180 rfl
  c_MOST_NAME := Z.int 181 rfl
  c_MOST_STATES := Z.int 182 rfl
  c_MOST_ROWS := Z.int 183 rfl
  c_MOST_AFTER := Z.int 184 rfl
  c_TICK := Z.str 185 rfl
  g_KINDS := Z.glo 186 rfl
  t_KINDS := (ba (ba (ba Z.c.x).2).2).1
  g_PRIORITIES := Z.glo 187 rfl
  t_PRIORITIES := (ba (ba (ba Z.c.x).2).2).2
  g_ChartError := Z.glo 14 rfl
  g_BadChart := Z.glo 15 rfl
  g_BadEvents := Z.glo 16 rfl
  g_Chart := Z.glo 17 rfl
  g_One := Z.glo 18 rfl
  g_Two := Z.glo 19 rfl
  g_Endless := Z.glo 20 rfl
  g_BadFlat := Z.glo 21 rfl
  g_Flat := Z.glo 22 rfl
  g_Alike := Z.glo 23 rfl
  g_Parts := Z.glo 24 rfl
  g_Fooled := Z.glo 25 rfl
  g_Led := Z.glo 26 rfl
  g_Shut := Z.glo 27 rfl
  g_Apart := Z.glo 28 rfl
  g_Clash := Z.glo 29 rfl
  g_Covered := Z.glo 30 rfl
  g_Plan := Z.glo 31 rfl
  g_Trap := Z.glo 32 rfl
  g_Guard := Z.glo 33 rfl
  g_Lost := Z.glo 34 rfl
  g_Merged := Z.glo 35 rfl
  g_Conflict := Z.glo 36 rfl
  g_BadWish := Z.glo 37 rfl
  g_Wish := Z.glo 38 rfl
  g_Keeps := Z.glo 39 rfl
  g_Fails := Z.glo 40 rfl
  g_Stuck := Z.glo 41 rfl
  k_Chart := Z.cls 42 rfl
  k_One := Z.cls 49 rfl
  k_Two := Z.cls 54 rfl
  k_Endless := Z.cls 61 rfl
  k_Flat := Z.cls 67 rfl
  k_Alike := Z.cls 72 rfl
  k_Parts := Z.cls 77 rfl
  k_Fooled := Z.cls 82 rfl
  k_Led := Z.cls 87 rfl
  k_Shut := Z.cls 92 rfl
  k_Apart := Z.cls 97 rfl
  k_Clash := Z.cls 102 rfl
  k_Covered := Z.cls 109 rfl
  k_Plan := Z.cls 113 rfl
  k_Trap := Z.cls 118 rfl
  k_Guard := Z.cls 123 rfl
  k_Lost := Z.cls 128 rfl
  k_Merged := Z.cls 133 rfl
  k_Conflict := Z.cls 138 rfl
  k_Wish := Z.cls 143 rfl
  k_Keeps := Z.cls 149 rfl
  k_Fails := Z.cls 154 rfl
  k_Stuck := Z.cls 160 rfl
  a_Chart_states := He.noat_ok (Z.c.d.fact 48 (f := .noat "Chart" "states") rfl)
  a_Chart_order := He.noat_ok (Z.c.d.fact 45 (f := .noat "Chart" "order") rfl)
  a_Chart_rows := He.noat_ok (Z.c.d.fact 47 (f := .noat "Chart" "rows") rfl)
  a_Flat_rows := He.noat_ok (Z.c.d.fact 71 (f := .noat "Flat" "rows") rfl)
  a_Fails_rows := He.noat_ok (Z.c.d.fact 159 (f := .noat "Fails" "rows") rfl)
  a_Chart_priority := He.noat_ok (Z.c.d.fact 46 (f := .noat "Chart" "priority") rfl)
  a_One_pairs := He.noat_ok (Z.c.d.fact 53 (f := .noat "One" "pairs") rfl)
  a_Alike_pairs := He.noat_ok (Z.c.d.fact 76 (f := .noat "Alike" "pairs") rfl)
  a_Keeps_pairs := He.noat_ok (Z.c.d.fact 153 (f := .noat "Keeps" "pairs") rfl)
  a_Two_events := He.noat_ok (Z.c.d.fact 58 (f := .noat "Two" "events") rfl)
  a_Endless_events := He.noat_ok (Z.c.d.fact 65 (f := .noat "Endless" "events") rfl)
  a_Flat_events := He.noat_ok (Z.c.d.fact 70 (f := .noat "Flat" "events") rfl)
  a_Parts_events := He.noat_ok (Z.c.d.fact 81 (f := .noat "Parts" "events") rfl)
  a_Led_events := He.noat_ok (Z.c.d.fact 91 (f := .noat "Led" "events") rfl)
  a_Covered_events := He.noat_ok (Z.c.d.fact 112 (f := .noat "Covered" "events") rfl)
  a_Lost_events := He.noat_ok (Z.c.d.fact 132 (f := .noat "Lost" "events") rfl)
  a_Fails_events := He.noat_ok (Z.c.d.fact 158 (f := .noat "Fails" "events") rfl)
  a_Stuck_events := He.noat_ok (Z.c.d.fact 164 (f := .noat "Stuck" "events") rfl)
  a_Two_one := He.noat_ok (Z.c.d.fact 59 (f := .noat "Two" "one") rfl)
  a_Clash_one := He.noat_ok (Z.c.d.fact 106 (f := .noat "Clash" "one") rfl)
  a_Two_other := He.noat_ok (Z.c.d.fact 60 (f := .noat "Two" "other") rfl)
  a_Clash_other := He.noat_ok (Z.c.d.fact 107 (f := .noat "Clash" "other") rfl)
  a_Endless_ring := He.noat_ok (Z.c.d.fact 66 (f := .noat "Endless" "ring") rfl)
  a_Fooled_machine := He.noat_ok (Z.c.d.fact 86 (f := .noat "Fooled" "machine") rfl)
  a_Shut_standings := He.noat_ok (Z.c.d.fact 96 (f := .noat "Shut" "standings") rfl)
  a_Apart_standings := He.noat_ok (Z.c.d.fact 101 (f := .noat "Apart" "standings") rfl)
  a_Trap_standings := He.noat_ok (Z.c.d.fact 122 (f := .noat "Trap" "standings") rfl)
  a_Clash_standing := He.noat_ok (Z.c.d.fact 108 (f := .noat "Clash" "standing") rfl)
  a_Plan_book := He.noat_ok (Z.c.d.fact 117 (f := .noat "Plan" "book") rfl)
  a_Guard_book := He.noat_ok (Z.c.d.fact 127 (f := .noat "Guard" "book") rfl)
  a_Merged_chart := He.noat_ok (Z.c.d.fact 137 (f := .noat "Merged" "chart") rfl)
  a_Conflict_parts := He.noat_ok (Z.c.d.fact 142 (f := .noat "Conflict" "parts") rfl)
  a_Wish_event := He.noat_ok (Z.c.d.fact 146 (f := .noat "Wish" "event") rfl)
  a_Wish_word := He.noat_ok (Z.c.d.fact 148 (f := .noat "Wish" "word") rfl)
  a_Wish_ticks := He.noat_ok (Z.c.d.fact 147 (f := .noat "Wish" "ticks") rfl)
  isf := Z.isf
  ne := List.all_eq_true.mp (ba (ba Z.c.x).2).1
theorem sc__law_number : FnScope ["script", "index", "cell", "turn", "rest", "step", "blend"] ["script", "index"] (defScope s__law_number) := ⟨rfl, rfl, rfl, by decide +kernel, rfl, by decide +kernel, by decide +kernel⟩
theorem b__law_number {V : Wd} (G : Gf V)  {f : Addr} (cdv : Value) (A : Around) (outer : List Env) (s : Shared) (H : Hp) (E : XK) (c : Ctx 0 (bodyX V ["script", "index", "cell", "turn", "rest", "step", "blend"] "_law_number" (defScope s__law_number) f cdv A outer s H E) E) : UB (bodyX V ["script", "index", "cell", "turn", "rest", "step", "blend"] "_law_number" (defScope s__law_number) f cdv A outer s H E) E (defBody s__law_number) wNum :=
  (ub_cons (us_unp (ue_if (ut_cmp (cu_ne c.hu) (UE.o (ue_var 0 (pv 0))) (UE.o (UF.ue (uf_lst ua_nil))) rfl) (ue_tup (ua_cons (ue_ix c.w c.hu (UE.o (ue_var 0 (pv 0))) (UE.o (ue_mod (UE.o (ue_var 1 (pv 1))) (UE.o (ue_len rfl G.n_len (UE.o (ue_var 0 (pv 0))))))) (fun _ _ => rfl)) (ua_cons (ue_div (UE.o (ue_var 1 (pv 1))) (UE.o (ue_len rfl G.n_len (UE.o (ue_var 0 (pv 0)))))) ua_nil))) (ue_tup (ua_cons ue_int (ua_cons ue_int ua_nil)))) (ug_tup c.calm (ugs_cons (ug_name c.nd rfl (by first | exact Or.inl rfl | exact Or.inr rfl)) (ugs_cons (ug_name c.nd rfl (by first | exact Or.inl rfl | exact Or.inr rfl)) ugs_nil))))
  (ub_cons (us_set (i := 4) c.nd rfl (by first | exact Or.inl rfl | exact Or.inr rfl) (ue_if (ut_cmp cu_lt (UE.o (ue_var 3 (pv 3))) (UE.o ue_int) rfl) (ue_sub (UE.o (ue_var 2 (pv 2))) (UE.o (ue_pow (UE.o ue_int) (UE.o ue_int)))) ue_int))
  (ub_cons (us_for c.po c.calm (ui_range1 rfl G.n_range (ue_mod (UE.o (ue_intOf rfl G.n_int (UE.o (ue_var 3 (pv 3))))) (UE.o ue_int))) (ug_name c.nd rfl (by first | exact Or.inl rfl | exact Or.inr rfl)) (ub_one (us_set (i := 4) c.nd rfl (by first | exact Or.inl rfl | exact Or.inr rfl) (ue_div (UE.o (ue_var 4 (pv 4))) (UE.o ue_int)))))
  (ub_cons (us_if (ut_cmp cu_gt (UE.o (ue_var 4 (pv 4))) (UE.o ue_int) rfl) (ub_one (us_ret (ue_mod (UE.o (ue_intOf rfl G.n_int (UE.o (ue_var 4 (pv 4))))) (UE.o ue_int)))) ub_nil)
  (ub_cons (us_set (i := 6) c.nd rfl (by first | exact Or.inl rfl | exact Or.inr rfl) (ue_mod (UE.o (ue_addU (UE.o (ue_mul (UE.o (ue_intOf rfl G.n_int (UE.o (ue_addU (UE.o (ue_var 2 (pv 2))) (UE.o (ue_mul (UE.o ue_int) (UE.o (ue_var 1 (pv 1))))))))) (UE.o ue_int))) (UE.o (ue_mul (UE.o ue_int) (UE.o (ue_len rfl G.n_len (UE.o (ue_var 0 (pv 0))))))))) (UE.o ue_int)))
  (ub_cons (us_set (i := 6) c.nd rfl (by first | exact Or.inl rfl | exact Or.inr rfl) (ue_mod (UE.o (ue_addU (UE.o (ue_mul (UE.o (ue_var 6 (pv 6))) (UE.o (ue_var 6 (pv 6))))) (UE.o (ue_mul (UE.o ue_int) (UE.o (ue_var 1 (pv 1))))))) (UE.o ue_int)))
  (ub_one (us_ret (ue_intOf rfl G.n_int (UE.o (ue_mod (UE.o (ue_addU (UE.o (ue_mul (UE.o (ue_var 6 (pv 6))) (UE.o ue_int))) (UE.o (ue_div (UE.o (ue_var 6 (pv 6))) (UE.o ue_int))))) (UE.o ue_int))))))))))))
theorem sc__law_take : FnScope ["draw", "many"] ["draw", "many"] (defScope s__law_take) := ⟨rfl, rfl, rfl, by decide +kernel, rfl, by decide +kernel, by decide +kernel⟩
theorem b__law_take {V : Wd} (G : Gf V) (f__law_number : Fn V 1 "_law_number" 2 fwNum) {f : Addr} (cdv : Value) (A : Around) (outer : List Env) (s : Shared) (H : Hp) (E : XK) (c : Ctx 1 (bodyX V ["draw", "many"] "_law_take" (defScope s__law_take) f cdv A outer s H E) E) : UB (bodyX V ["draw", "many"] "_law_take" (defScope s__law_take) f cdv A outer s H E) E (defBody s__law_take) wTake :=
  (ub_cons (us_drawS (pv 0))
  (ub_one (us_ret (ue_mod (UE.o (ue_intOf rfl G.n_int (UE.o (ue_call c f__law_number (by decide) rfl (ua_cons (ue_draw0 (pv 0)) (ua_cons (ue_intOf rfl G.n_int (UE.o (ue_draw1 (pv 0)))) ua_nil)))))) (UE.o (ue_var 1 (pv 1)))))))
theorem f__law_number {V : Wd} (Z : Zf V) : Fn V 1 "_law_number" 2 fwNum := by
  obtain ⟨fd, F⟩ := Z.c.d.def_ 74 (d := d__law_number) rfl
  exact ⟨⟨_, fd, _, fn_ok Z.hV F sc__law_number (fun cdv A outer s H E c => b__law_number Z.gf cdv A outer s H E c) fun ds Q z _ h => num_ok h, Z.glo 9 rfl, F.kp, F.bindsN (ps := ["script", "index"]) fun _ _ _ _ _ _ us hl => match us, hl with | [_, _], _ => rfl⟩, fwNum_mono⟩
theorem f__law_take {V : Wd} (Z : Zf V) : Fn V 2 "_law_take" 2 (fwOf frTake) := by
  obtain ⟨fd, F⟩ := Z.c.d.def_ 75 (d := d__law_take) rfl
  exact ⟨⟨_, fd, _, fn_ok Z.hV F sc__law_take (fun cdv A outer s H E c => b__law_take Z.gf (f__law_number Z) cdv A outer s H E c) fun ds Q z _ h => take_ok h, Z.glo 10 rfl, F.kp, F.bindsN (ps := ["draw", "many"]) fun _ _ _ _ _ _ us hl => match us, hl with | [_, _], _ => rfl⟩, fwOf_mono _⟩

theorem f__law_pick {V : Wd} (Z : Zf V) : Fn V 3 "_law_pick" 2 (fwOf fr__law_pick) := by
  obtain ⟨fd, F⟩ := Z.c.d.def_ 76 (d := d__law_pick) rfl
  exact ⟨⟨_, fd, _, fnV_ok Z.hV F sc__law_pick (fun cdv A outer s H E c => b__law_pick Z.gf (f__law_take Z) cdv A outer s H E c) rfl rfl, Z.glo 11 rfl, F.kp, F.bindsN (ps := ["draw", "items"]) fun _ _ _ _ _ _ us hl => match us, hl with | [_, _], _ => rfl⟩, fwOf_mono _⟩
theorem f_is_name {V : Wd} (Z : Zf V) : Fn V 1 "is_name" 1 (fwOf fr_is_name) := by
  obtain ⟨fd, F⟩ := Z.c.d.def_ 3 (d := d_is_name) rfl
  exact ⟨⟨_, fd, _, fnV_ok Z.hV F sc_is_name (fun cdv A outer s H E c => b_is_name Z.gf  cdv A outer s H E c) rfl rfl, Z.glo 3 rfl, F.kp, F.bindsN (ps := ["thing"]) fun _ _ _ _ _ _ us hl => match us, hl with | [_], _ => rfl⟩, fwOf_mono _⟩
theorem f_is_state {V : Wd} (Z : Zf V) : Fn V 2 "is_state" 4 (fwOf fr_is_state) := by
  obtain ⟨fd, F⟩ := Z.c.d.def_ 6 (d := d_is_state) rfl
  exact ⟨⟨_, fd, _, fnV_ok Z.hV F sc_is_state (fun cdv A outer s H E c => b_is_state Z.gf (f_is_name Z) cdv A outer s H E c) rfl rfl, Z.glo 4 rfl, F.kp, F.bindsN (ps := ["ahead", "states", "name", "told"]) fun _ _ _ _ _ _ us hl => match us, hl with | [_, _, _, _], _ => rfl⟩, fwOf_mono _⟩
theorem f_is_row {V : Wd} (Z : Zf V) : Fn V 1 "is_row" 1 (fwOf fr_is_row) := by
  obtain ⟨fd, F⟩ := Z.c.d.def_ 1 (d := d_is_row) rfl
  exact ⟨⟨_, fd, _, fnV_ok Z.hV F sc_is_row (fun cdv A outer s H E c => b_is_row Z.gf  cdv A outer s H E c) rfl rfl, Z.glo 1 rfl, F.kp, F.bindsN (ps := ["thing"]) fun _ _ _ _ _ _ us hl => match us, hl with | [_], _ => rfl⟩, fwOf_mono _⟩
theorem f_is_target {V : Wd} (Z : Zf V) : Fn V 1 "is_target" 2 (fwOf fr_is_target) := by
  obtain ⟨fd, F⟩ := Z.c.d.def_ 9 (d := d_is_target) rfl
  exact ⟨⟨_, fd, _, fnV_ok Z.hV F sc_is_target (fun cdv A outer s H E c => b_is_target Z.gf  cdv A outer s H E c) rfl rfl, Z.glo 7 rfl, F.kp, F.bindsN (ps := ["states", "thing"]) fun _ _ _ _ _ _ us hl => match us, hl with | [_, _], _ => rfl⟩, fwOf_mono _⟩
theorem f_is_integer {V : Wd} (Z : Zf V) : Fn V 1 "is_integer" 1 (fwOf fr_is_integer) := by
  obtain ⟨fd, F⟩ := Z.c.d.def_ 0 (d := d_is_integer) rfl
  exact ⟨⟨_, fd, _, fnV_ok Z.hV F sc_is_integer (fun cdv A outer s H E c => b_is_integer Z.gf  cdv A outer s H E c) rfl rfl, Z.glo 0 rfl, F.kp, F.bindsN (ps := ["thing"]) fun _ _ _ _ _ _ us hl => match us, hl with | [_], _ => rfl⟩, fwOf_mono _⟩
theorem f_is_number {V : Wd} (Z : Zf V) : Fn V 2 "is_number" 3 (fwOf fr_is_number) := by
  obtain ⟨fd, F⟩ := Z.c.d.def_ 2 (d := d_is_number) rfl
  exact ⟨⟨_, fd, _, fnV_ok Z.hV F sc_is_number (fun cdv A outer s H E c => b_is_number Z.gf (f_is_integer Z) cdv A outer s H E c) rfl rfl, Z.glo 2 rfl, F.kp, F.bindsN (ps := ["thing", "least", "most"]) fun _ _ _ _ _ _ us hl => match us, hl with | [_, _, _], _ => rfl⟩, fwOf_mono _⟩
theorem f_is_event {V : Wd} (Z : Zf V) : Fn V 3 "is_event" 1 (fwOf fr_is_event) := by
  obtain ⟨fd, F⟩ := Z.c.d.def_ 8 (d := d_is_event) rfl
  exact ⟨⟨_, fd, _, fnV_ok Z.hV F sc_is_event (fun cdv A outer s H E c => b_is_event Z.gf (f_is_name Z) (f_is_number Z) cdv A outer s H E c) rfl rfl, Z.glo 6 rfl, F.kp, F.bindsN (ps := ["thing"]) fun _ _ _ _ _ _ us hl => match us, hl with | [_], _ => rfl⟩, fwOf_mono _⟩
theorem f_is_chart_row {V : Wd} (Z : Zf V) : Fn V 4 "is_chart_row" 2 (fwOf fr_is_chart_row) := by
  obtain ⟨fd, F⟩ := Z.c.d.def_ 7 (d := d_is_chart_row) rfl
  exact ⟨⟨_, fd, _, fnV_ok Z.hV F sc_is_chart_row (fun cdv A outer s H E c => b_is_chart_row Z.gf (f_is_target Z) (f_is_event Z) (f_is_name Z) (f_is_row Z) cdv A outer s H E c) rfl rfl, Z.glo 5 rfl, F.kp, F.bindsN (ps := ["states", "row"]) fun _ _ _ _ _ _ us hl => match us, hl with | [_, _], _ => rfl⟩, fwOf_mono _⟩
theorem i_Chart {V : Wd} (Z : Zf V) : Mkr V 5 "Chart" 3 (fwOf fr_Chart___init__) := by
  obtain ⟨fd, F⟩ := Z.c.d.def_ 4 (d := d_Chart___init__) rfl
  exact ⟨⟨_, fd, _, inV_ok Z.hV F sc_Chart___init__ (by decide) (fun cdv A outer s H E c => b_Chart___init__ Z.gf (f_is_state Z) (f_is_row Z) (f_is_chart_row Z) cdv A outer s H E c) rfl rfl, He.mkr_ok (Z.c.d.fact 43 (f := .mkr "Chart") rfl), Z.glo 17 rfl, F.bindsN (ps := ["self", "states", "rows", "priority"]) fun _ _ _ _ _ _ us hl => match us, hl with | [_, _, _, _], _ => rfl⟩, fwOf_mono _⟩
theorem i_One {V : Wd} (Z : Zf V) : Mkr V 1 "One" 1 (fwOf fr_One___init__) := by
  obtain ⟨fd, F⟩ := Z.c.d.def_ 10 (d := d_One___init__) rfl
  exact ⟨⟨_, fd, _, inV_ok Z.hV F sc_One___init__ (by decide) (fun cdv A outer s H E c => b_One___init__ Z.gf  cdv A outer s H E c) rfl rfl, He.mkr_ok (Z.c.d.fact 50 (f := .mkr "One") rfl), Z.glo 18 rfl, F.bindsN (ps := ["self", "pairs"]) fun _ _ _ _ _ _ us hl => match us, hl with | [_, _], _ => rfl⟩, fwOf_mono _⟩
theorem i_Two {V : Wd} (Z : Zf V) : Mkr V 1 "Two" 3 (fwOf fr_Two___init__) := by
  obtain ⟨fd, F⟩ := Z.c.d.def_ 13 (d := d_Two___init__) rfl
  exact ⟨⟨_, fd, _, inV_ok Z.hV F sc_Two___init__ (by decide) (fun cdv A outer s H E c => b_Two___init__ Z.gf  cdv A outer s H E c) rfl rfl, He.mkr_ok (Z.c.d.fact 55 (f := .mkr "Two") rfl), Z.glo 19 rfl, F.bindsN (ps := ["self", "events", "one", "other"]) fun _ _ _ _ _ _ us hl => match us, hl with | [_, _, _, _], _ => rfl⟩, fwOf_mono _⟩
theorem i_Endless {V : Wd} (Z : Zf V) : Mkr V 1 "Endless" 2 (fwOf fr_Endless___init__) := by
  obtain ⟨fd, F⟩ := Z.c.d.def_ 16 (d := d_Endless___init__) rfl
  exact ⟨⟨_, fd, _, inV_ok Z.hV F sc_Endless___init__ (by decide) (fun cdv A outer s H E c => b_Endless___init__ Z.gf  cdv A outer s H E c) rfl rfl, He.mkr_ok (Z.c.d.fact 62 (f := .mkr "Endless") rfl), Z.glo 20 rfl, F.bindsN (ps := ["self", "events", "ring"]) fun _ _ _ _ _ _ us hl => match us, hl with | [_, _, _], _ => rfl⟩, fwOf_mono _⟩
theorem i_Alike {V : Wd} (Z : Zf V) : Mkr V 1 "Alike" 1 (fwOf fr_Alike___init__) := by
  obtain ⟨fd, F⟩ := Z.c.d.def_ 22 (d := d_Alike___init__) rfl
  exact ⟨⟨_, fd, _, inV_ok Z.hV F sc_Alike___init__ (by decide) (fun cdv A outer s H E c => b_Alike___init__ Z.gf  cdv A outer s H E c) rfl rfl, He.mkr_ok (Z.c.d.fact 73 (f := .mkr "Alike") rfl), Z.glo 23 rfl, F.bindsN (ps := ["self", "pairs"]) fun _ _ _ _ _ _ us hl => match us, hl with | [_, _], _ => rfl⟩, fwOf_mono _⟩
theorem i_Parts {V : Wd} (Z : Zf V) : Mkr V 1 "Parts" 1 (fwOf fr_Parts___init__) := by
  obtain ⟨fd, F⟩ := Z.c.d.def_ 25 (d := d_Parts___init__) rfl
  exact ⟨⟨_, fd, _, inV_ok Z.hV F sc_Parts___init__ (by decide) (fun cdv A outer s H E c => b_Parts___init__ Z.gf  cdv A outer s H E c) rfl rfl, He.mkr_ok (Z.c.d.fact 78 (f := .mkr "Parts") rfl), Z.glo 24 rfl, F.bindsN (ps := ["self", "events"]) fun _ _ _ _ _ _ us hl => match us, hl with | [_, _], _ => rfl⟩, fwOf_mono _⟩
theorem f_is_step {V : Wd} (Z : Zf V) : Fn V 3 "is_step" 2 (fwOf fr_is_step) := by
  obtain ⟨fd, F⟩ := Z.c.d.def_ 21 (d := d_is_step) rfl
  exact ⟨⟨_, fd, _, fnV_ok Z.hV F sc_is_step (fun cdv A outer s H E c => b_is_step Z.gf (f_is_row Z) (f_is_number Z) cdv A outer s H E c) rfl rfl, Z.glo 8 rfl, F.kp, F.bindsN (ps := ["thing", "many"]) fun _ _ _ _ _ _ us hl => match us, hl with | [_, _], _ => rfl⟩, fwOf_mono _⟩
theorem i_Flat {V : Wd} (Z : Zf V) : Mkr V 4 "Flat" 2 (fwOf fr_Flat___init__) := by
  obtain ⟨fd, F⟩ := Z.c.d.def_ 19 (d := d_Flat___init__) rfl
  exact ⟨⟨_, fd, _, inV_ok Z.hV F sc_Flat___init__ (by decide) (fun cdv A outer s H E c => b_Flat___init__ Z.gf (f_is_name Z) (f_is_row Z) (f_is_step Z) cdv A outer s H E c) rfl rfl, He.mkr_ok (Z.c.d.fact 68 (f := .mkr "Flat") rfl), Z.glo 22 rfl, F.bindsN (ps := ["self", "events", "rows"]) fun _ _ _ _ _ _ us hl => match us, hl with | [_, _, _], _ => rfl⟩, fwOf_mono _⟩
theorem i_Led {V : Wd} (Z : Zf V) : Mkr V 1 "Led" 1 (fwOf fr_Led___init__) := by
  obtain ⟨fd, F⟩ := Z.c.d.def_ 31 (d := d_Led___init__) rfl
  exact ⟨⟨_, fd, _, inV_ok Z.hV F sc_Led___init__ (by decide) (fun cdv A outer s H E c => b_Led___init__ Z.gf  cdv A outer s H E c) rfl rfl, He.mkr_ok (Z.c.d.fact 88 (f := .mkr "Led") rfl), Z.glo 26 rfl, F.bindsN (ps := ["self", "events"]) fun _ _ _ _ _ _ us hl => match us, hl with | [_, _], _ => rfl⟩, fwOf_mono _⟩
theorem i_Shut {V : Wd} (Z : Zf V) : Mkr V 1 "Shut" 1 (fwOf fr_Shut___init__) := by
  obtain ⟨fd, F⟩ := Z.c.d.def_ 34 (d := d_Shut___init__) rfl
  exact ⟨⟨_, fd, _, inV_ok Z.hV F sc_Shut___init__ (by decide) (fun cdv A outer s H E c => b_Shut___init__ Z.gf  cdv A outer s H E c) rfl rfl, He.mkr_ok (Z.c.d.fact 93 (f := .mkr "Shut") rfl), Z.glo 27 rfl, F.bindsN (ps := ["self", "standings"]) fun _ _ _ _ _ _ us hl => match us, hl with | [_, _], _ => rfl⟩, fwOf_mono _⟩
theorem i_Apart {V : Wd} (Z : Zf V) : Mkr V 1 "Apart" 1 (fwOf fr_Apart___init__) := by
  obtain ⟨fd, F⟩ := Z.c.d.def_ 37 (d := d_Apart___init__) rfl
  exact ⟨⟨_, fd, _, inV_ok Z.hV F sc_Apart___init__ (by decide) (fun cdv A outer s H E c => b_Apart___init__ Z.gf  cdv A outer s H E c) rfl rfl, He.mkr_ok (Z.c.d.fact 98 (f := .mkr "Apart") rfl), Z.glo 28 rfl, F.bindsN (ps := ["self", "standings"]) fun _ _ _ _ _ _ us hl => match us, hl with | [_, _], _ => rfl⟩, fwOf_mono _⟩
theorem i_Clash {V : Wd} (Z : Zf V) : Mkr V 1 "Clash" 3 (fwOf fr_Clash___init__) := by
  obtain ⟨fd, F⟩ := Z.c.d.def_ 40 (d := d_Clash___init__) rfl
  exact ⟨⟨_, fd, _, inV_ok Z.hV F sc_Clash___init__ (by decide) (fun cdv A outer s H E c => b_Clash___init__ Z.gf  cdv A outer s H E c) rfl rfl, He.mkr_ok (Z.c.d.fact 103 (f := .mkr "Clash") rfl), Z.glo 29 rfl, F.bindsN (ps := ["self", "standing", "one", "other"]) fun _ _ _ _ _ _ us hl => match us, hl with | [_, _, _, _], _ => rfl⟩, fwOf_mono _⟩
theorem i_Fooled {V : Wd} (Z : Zf V) : Mkr V 1 "Fooled" 1 (fwOf fr_Fooled___init__) := by
  obtain ⟨fd, F⟩ := Z.c.d.def_ 28 (d := d_Fooled___init__) rfl
  exact ⟨⟨_, fd, _, inV_ok Z.hV F sc_Fooled___init__ (by decide) (fun cdv A outer s H E c => b_Fooled___init__ Z.gf  cdv A outer s H E c) rfl rfl, He.mkr_ok (Z.c.d.fact 83 (f := .mkr "Fooled") rfl), Z.glo 25 rfl, F.bindsN (ps := ["self", "machine"]) fun _ _ _ _ _ _ us hl => match us, hl with | [_, _], _ => rfl⟩, fwOf_mono _⟩
theorem i_Covered {V : Wd} (Z : Zf V) : Mkr V 1 "Covered" 1 (fwOf fr_Covered___init__) := by
  obtain ⟨fd, F⟩ := Z.c.d.def_ 43 (d := d_Covered___init__) rfl
  exact ⟨⟨_, fd, _, inV_ok Z.hV F sc_Covered___init__ (by decide) (fun cdv A outer s H E c => b_Covered___init__ Z.gf  cdv A outer s H E c) rfl rfl, He.mkr_ok (Z.c.d.fact 110 (f := .mkr "Covered") rfl), Z.glo 30 rfl, F.bindsN (ps := ["self", "events"]) fun _ _ _ _ _ _ us hl => match us, hl with | [_, _], _ => rfl⟩, fwOf_mono _⟩
theorem i_Plan {V : Wd} (Z : Zf V) : Mkr V 1 "Plan" 1 (fwOf fr_Plan___init__) := by
  obtain ⟨fd, F⟩ := Z.c.d.def_ 45 (d := d_Plan___init__) rfl
  exact ⟨⟨_, fd, _, inV_ok Z.hV F sc_Plan___init__ (by decide) (fun cdv A outer s H E c => b_Plan___init__ Z.gf  cdv A outer s H E c) rfl rfl, He.mkr_ok (Z.c.d.fact 114 (f := .mkr "Plan") rfl), Z.glo 31 rfl, F.bindsN (ps := ["self", "book"]) fun _ _ _ _ _ _ us hl => match us, hl with | [_, _], _ => rfl⟩, fwOf_mono _⟩
theorem i_Trap {V : Wd} (Z : Zf V) : Mkr V 1 "Trap" 1 (fwOf fr_Trap___init__) := by
  obtain ⟨fd, F⟩ := Z.c.d.def_ 48 (d := d_Trap___init__) rfl
  exact ⟨⟨_, fd, _, inV_ok Z.hV F sc_Trap___init__ (by decide) (fun cdv A outer s H E c => b_Trap___init__ Z.gf  cdv A outer s H E c) rfl rfl, He.mkr_ok (Z.c.d.fact 119 (f := .mkr "Trap") rfl), Z.glo 32 rfl, F.bindsN (ps := ["self", "standings"]) fun _ _ _ _ _ _ us hl => match us, hl with | [_, _], _ => rfl⟩, fwOf_mono _⟩
theorem i_Guard {V : Wd} (Z : Zf V) : Mkr V 1 "Guard" 1 (fwOf fr_Guard___init__) := by
  obtain ⟨fd, F⟩ := Z.c.d.def_ 51 (d := d_Guard___init__) rfl
  exact ⟨⟨_, fd, _, inV_ok Z.hV F sc_Guard___init__ (by decide) (fun cdv A outer s H E c => b_Guard___init__ Z.gf  cdv A outer s H E c) rfl rfl, He.mkr_ok (Z.c.d.fact 124 (f := .mkr "Guard") rfl), Z.glo 33 rfl, F.bindsN (ps := ["self", "book"]) fun _ _ _ _ _ _ us hl => match us, hl with | [_, _], _ => rfl⟩, fwOf_mono _⟩
theorem i_Lost {V : Wd} (Z : Zf V) : Mkr V 1 "Lost" 1 (fwOf fr_Lost___init__) := by
  obtain ⟨fd, F⟩ := Z.c.d.def_ 54 (d := d_Lost___init__) rfl
  exact ⟨⟨_, fd, _, inV_ok Z.hV F sc_Lost___init__ (by decide) (fun cdv A outer s H E c => b_Lost___init__ Z.gf  cdv A outer s H E c) rfl rfl, He.mkr_ok (Z.c.d.fact 129 (f := .mkr "Lost") rfl), Z.glo 34 rfl, F.bindsN (ps := ["self", "events"]) fun _ _ _ _ _ _ us hl => match us, hl with | [_, _], _ => rfl⟩, fwOf_mono _⟩
theorem i_Merged {V : Wd} (Z : Zf V) : Mkr V 1 "Merged" 1 (fwOf fr_Merged___init__) := by
  obtain ⟨fd, F⟩ := Z.c.d.def_ 57 (d := d_Merged___init__) rfl
  exact ⟨⟨_, fd, _, inV_ok Z.hV F sc_Merged___init__ (by decide) (fun cdv A outer s H E c => b_Merged___init__ Z.gf  cdv A outer s H E c) rfl rfl, He.mkr_ok (Z.c.d.fact 134 (f := .mkr "Merged") rfl), Z.glo 35 rfl, F.bindsN (ps := ["self", "chart"]) fun _ _ _ _ _ _ us hl => match us, hl with | [_, _], _ => rfl⟩, fwOf_mono _⟩
theorem i_Conflict {V : Wd} (Z : Zf V) : Mkr V 1 "Conflict" 1 (fwOf fr_Conflict___init__) := by
  obtain ⟨fd, F⟩ := Z.c.d.def_ 60 (d := d_Conflict___init__) rfl
  exact ⟨⟨_, fd, _, inV_ok Z.hV F sc_Conflict___init__ (by decide) (fun cdv A outer s H E c => b_Conflict___init__ Z.gf  cdv A outer s H E c) rfl rfl, He.mkr_ok (Z.c.d.fact 139 (f := .mkr "Conflict") rfl), Z.glo 36 rfl, F.bindsN (ps := ["self", "parts"]) fun _ _ _ _ _ _ us hl => match us, hl with | [_, _], _ => rfl⟩, fwOf_mono _⟩
theorem i_Wish {V : Wd} (Z : Zf V) : Mkr V 3 "Wish" 3 (fwOf fr_Wish___init__) := by
  obtain ⟨fd, F⟩ := Z.c.d.def_ 63 (d := d_Wish___init__) rfl
  exact ⟨⟨_, fd, _, inV_ok Z.hV F sc_Wish___init__ (by decide) (fun cdv A outer s H E c => b_Wish___init__ Z.gf (f_is_name Z) (f_is_number Z) cdv A outer s H E c) rfl rfl, He.mkr_ok (Z.c.d.fact 144 (f := .mkr "Wish") rfl), Z.glo 38 rfl, F.bindsN (ps := ["self", "event", "word", "ticks"]) fun _ _ _ _ _ _ us hl => match us, hl with | [_, _, _, _], _ => rfl⟩, fwOf_mono _⟩
theorem i_Keeps {V : Wd} (Z : Zf V) : Mkr V 1 "Keeps" 1 (fwOf fr_Keeps___init__) := by
  obtain ⟨fd, F⟩ := Z.c.d.def_ 65 (d := d_Keeps___init__) rfl
  exact ⟨⟨_, fd, _, inV_ok Z.hV F sc_Keeps___init__ (by decide) (fun cdv A outer s H E c => b_Keeps___init__ Z.gf  cdv A outer s H E c) rfl rfl, He.mkr_ok (Z.c.d.fact 150 (f := .mkr "Keeps") rfl), Z.glo 39 rfl, F.bindsN (ps := ["self", "pairs"]) fun _ _ _ _ _ _ us hl => match us, hl with | [_, _], _ => rfl⟩, fwOf_mono _⟩
theorem i_Fails {V : Wd} (Z : Zf V) : Mkr V 1 "Fails" 2 (fwOf fr_Fails___init__) := by
  obtain ⟨fd, F⟩ := Z.c.d.def_ 68 (d := d_Fails___init__) rfl
  exact ⟨⟨_, fd, _, inV_ok Z.hV F sc_Fails___init__ (by decide) (fun cdv A outer s H E c => b_Fails___init__ Z.gf  cdv A outer s H E c) rfl rfl, He.mkr_ok (Z.c.d.fact 155 (f := .mkr "Fails") rfl), Z.glo 40 rfl, F.bindsN (ps := ["self", "events", "rows"]) fun _ _ _ _ _ _ us hl => match us, hl with | [_, _, _], _ => rfl⟩, fwOf_mono _⟩
theorem i_Stuck {V : Wd} (Z : Zf V) : Mkr V 1 "Stuck" 1 (fwOf fr_Stuck___init__) := by
  obtain ⟨fd, F⟩ := Z.c.d.def_ 71 (d := d_Stuck___init__) rfl
  exact ⟨⟨_, fd, _, inV_ok Z.hV F sc_Stuck___init__ (by decide) (fun cdv A outer s H E c => b_Stuck___init__ Z.gf  cdv A outer s H E c) rfl rfl, He.mkr_ok (Z.c.d.fact 161 (f := .mkr "Stuck") rfl), Z.glo 41 rfl, F.bindsN (ps := ["self", "events"]) fun _ _ _ _ _ _ us hl => match us, hl with | [_, _], _ => rfl⟩, fwOf_mono _⟩
theorem f__law_made {V : Wd} (Z : Zf V) : Fn V 7 "_law_made" 1 (fwOf fr__law_made) := by
  obtain ⟨fd, F⟩ := Z.c.d.def_ 77 (d := d__law_made) rfl
  exact ⟨⟨_, fd, _, fnV_ok Z.hV F sc__law_made (fun cdv A outer s H E c => b__law_made Z.gf (f__law_take Z) (f__law_pick Z) (i_Chart Z) (i_One Z) (i_Two Z) (i_Endless Z) (i_Alike Z) (i_Parts Z) (i_Flat Z) (i_Led Z) (i_Shut Z) (i_Apart Z) (i_Clash Z) (i_Fooled Z) (i_Covered Z) (i_Plan Z) (i_Trap Z) (i_Guard Z) (i_Lost Z) (i_Merged Z) (i_Conflict Z) (i_Wish Z) (i_Keeps Z) (i_Fails Z) (i_Stuck Z) cdv A outer s H E c) rfl rfl, Z.glo 12 rfl, F.kp, F.bindsN (ps := ["draw"]) fun _ _ _ _ _ _ us hl => match us, hl with | [_], _ => rfl⟩, fwOf_mono _⟩
theorem m_Chart___eq__ {V : Wd} (Z : Zf V) : Mt V 1 "Chart" "__eq__" 2 (fwOf fr_Chart___eq__) := by
  obtain ⟨fd, F⟩ := Z.c.d.def_ 5 (d := d_Chart___eq__) rfl
  exact ⟨⟨_, fd, _, fnV_ok Z.hV F sc_Chart___eq__ (fun cdv A outer s H E c => b_Chart___eq__ Z.gf  cdv A outer s H E c) rfl rfl, Z.cls 42 rfl, He.meth_ok (Z.c.d.fact 44 (f := .meth "Chart" "__eq__") rfl), F.bindsN (ps := ["self", "other"]) fun _ _ _ _ _ _ us hl => match us, hl with | [_, _], _ => rfl⟩, fwOf_mono _⟩
theorem m_One___eq__ {V : Wd} (Z : Zf V) : Mt V 1 "One" "__eq__" 2 (fwOf fr_One___eq__) := by
  obtain ⟨fd, F⟩ := Z.c.d.def_ 12 (d := d_One___eq__) rfl
  exact ⟨⟨_, fd, _, fnV_ok Z.hV F sc_One___eq__ (fun cdv A outer s H E c => b_One___eq__ Z.gf  cdv A outer s H E c) rfl rfl, Z.cls 49 rfl, He.meth_ok (Z.c.d.fact 52 (f := .meth "One" "__eq__") rfl), F.bindsN (ps := ["self", "other"]) fun _ _ _ _ _ _ us hl => match us, hl with | [_, _], _ => rfl⟩, fwOf_mono _⟩
theorem m_Two___eq__ {V : Wd} (Z : Zf V) : Mt V 1 "Two" "__eq__" 2 (fwOf fr_Two___eq__) := by
  obtain ⟨fd, F⟩ := Z.c.d.def_ 15 (d := d_Two___eq__) rfl
  exact ⟨⟨_, fd, _, fnV_ok Z.hV F sc_Two___eq__ (fun cdv A outer s H E c => b_Two___eq__ Z.gf  cdv A outer s H E c) rfl rfl, Z.cls 54 rfl, He.meth_ok (Z.c.d.fact 57 (f := .meth "Two" "__eq__") rfl), F.bindsN (ps := ["self", "other"]) fun _ _ _ _ _ _ us hl => match us, hl with | [_, _], _ => rfl⟩, fwOf_mono _⟩
theorem m_Endless___eq__ {V : Wd} (Z : Zf V) : Mt V 1 "Endless" "__eq__" 2 (fwOf fr_Endless___eq__) := by
  obtain ⟨fd, F⟩ := Z.c.d.def_ 18 (d := d_Endless___eq__) rfl
  exact ⟨⟨_, fd, _, fnV_ok Z.hV F sc_Endless___eq__ (fun cdv A outer s H E c => b_Endless___eq__ Z.gf  cdv A outer s H E c) rfl rfl, Z.cls 61 rfl, He.meth_ok (Z.c.d.fact 64 (f := .meth "Endless" "__eq__") rfl), F.bindsN (ps := ["self", "other"]) fun _ _ _ _ _ _ us hl => match us, hl with | [_, _], _ => rfl⟩, fwOf_mono _⟩
theorem m_Flat___eq__ {V : Wd} (Z : Zf V) : Mt V 1 "Flat" "__eq__" 2 (fwOf fr_Flat___eq__) := by
  obtain ⟨fd, F⟩ := Z.c.d.def_ 20 (d := d_Flat___eq__) rfl
  exact ⟨⟨_, fd, _, fnV_ok Z.hV F sc_Flat___eq__ (fun cdv A outer s H E c => b_Flat___eq__ Z.gf  cdv A outer s H E c) rfl rfl, Z.cls 67 rfl, He.meth_ok (Z.c.d.fact 69 (f := .meth "Flat" "__eq__") rfl), F.bindsN (ps := ["self", "other"]) fun _ _ _ _ _ _ us hl => match us, hl with | [_, _], _ => rfl⟩, fwOf_mono _⟩
theorem m_Alike___eq__ {V : Wd} (Z : Zf V) : Mt V 1 "Alike" "__eq__" 2 (fwOf fr_Alike___eq__) := by
  obtain ⟨fd, F⟩ := Z.c.d.def_ 24 (d := d_Alike___eq__) rfl
  exact ⟨⟨_, fd, _, fnV_ok Z.hV F sc_Alike___eq__ (fun cdv A outer s H E c => b_Alike___eq__ Z.gf  cdv A outer s H E c) rfl rfl, Z.cls 72 rfl, He.meth_ok (Z.c.d.fact 75 (f := .meth "Alike" "__eq__") rfl), F.bindsN (ps := ["self", "other"]) fun _ _ _ _ _ _ us hl => match us, hl with | [_, _], _ => rfl⟩, fwOf_mono _⟩
theorem m_Parts___eq__ {V : Wd} (Z : Zf V) : Mt V 1 "Parts" "__eq__" 2 (fwOf fr_Parts___eq__) := by
  obtain ⟨fd, F⟩ := Z.c.d.def_ 27 (d := d_Parts___eq__) rfl
  exact ⟨⟨_, fd, _, fnV_ok Z.hV F sc_Parts___eq__ (fun cdv A outer s H E c => b_Parts___eq__ Z.gf  cdv A outer s H E c) rfl rfl, Z.cls 77 rfl, He.meth_ok (Z.c.d.fact 80 (f := .meth "Parts" "__eq__") rfl), F.bindsN (ps := ["self", "other"]) fun _ _ _ _ _ _ us hl => match us, hl with | [_, _], _ => rfl⟩, fwOf_mono _⟩
theorem t_tb_Fooled___eq___eq {V : Wd} (Z : Zf V) : TabOk V 2 "__eq__" 2 tb_Fooled___eq___eq := tabOk_cons (m_Chart___eq__ Z) (by decide) (tabOk_nil)
theorem m_Fooled___eq__ {V : Wd} (Z : Zf V) : Mt V 3 "Fooled" "__eq__" 2 (fwOf fr_Fooled___eq__) := by
  obtain ⟨fd, F⟩ := Z.c.d.def_ 30 (d := d_Fooled___eq__) rfl
  exact ⟨⟨_, fd, _, fnV_ok Z.hV F sc_Fooled___eq__ (fun cdv A outer s H E c => b_Fooled___eq__ Z.gf (t_tb_Fooled___eq___eq Z) cdv A outer s H E c) rfl rfl, Z.cls 82 rfl, He.meth_ok (Z.c.d.fact 85 (f := .meth "Fooled" "__eq__") rfl), F.bindsN (ps := ["self", "other"]) fun _ _ _ _ _ _ us hl => match us, hl with | [_, _], _ => rfl⟩, fwOf_mono _⟩
theorem m_Led___eq__ {V : Wd} (Z : Zf V) : Mt V 1 "Led" "__eq__" 2 (fwOf fr_Led___eq__) := by
  obtain ⟨fd, F⟩ := Z.c.d.def_ 33 (d := d_Led___eq__) rfl
  exact ⟨⟨_, fd, _, fnV_ok Z.hV F sc_Led___eq__ (fun cdv A outer s H E c => b_Led___eq__ Z.gf  cdv A outer s H E c) rfl rfl, Z.cls 87 rfl, He.meth_ok (Z.c.d.fact 90 (f := .meth "Led" "__eq__") rfl), F.bindsN (ps := ["self", "other"]) fun _ _ _ _ _ _ us hl => match us, hl with | [_, _], _ => rfl⟩, fwOf_mono _⟩
theorem m_Shut___eq__ {V : Wd} (Z : Zf V) : Mt V 1 "Shut" "__eq__" 2 (fwOf fr_Shut___eq__) := by
  obtain ⟨fd, F⟩ := Z.c.d.def_ 36 (d := d_Shut___eq__) rfl
  exact ⟨⟨_, fd, _, fnV_ok Z.hV F sc_Shut___eq__ (fun cdv A outer s H E c => b_Shut___eq__ Z.gf  cdv A outer s H E c) rfl rfl, Z.cls 92 rfl, He.meth_ok (Z.c.d.fact 95 (f := .meth "Shut" "__eq__") rfl), F.bindsN (ps := ["self", "other"]) fun _ _ _ _ _ _ us hl => match us, hl with | [_, _], _ => rfl⟩, fwOf_mono _⟩
theorem m_Apart___eq__ {V : Wd} (Z : Zf V) : Mt V 1 "Apart" "__eq__" 2 (fwOf fr_Apart___eq__) := by
  obtain ⟨fd, F⟩ := Z.c.d.def_ 39 (d := d_Apart___eq__) rfl
  exact ⟨⟨_, fd, _, fnV_ok Z.hV F sc_Apart___eq__ (fun cdv A outer s H E c => b_Apart___eq__ Z.gf  cdv A outer s H E c) rfl rfl, Z.cls 97 rfl, He.meth_ok (Z.c.d.fact 100 (f := .meth "Apart" "__eq__") rfl), F.bindsN (ps := ["self", "other"]) fun _ _ _ _ _ _ us hl => match us, hl with | [_, _], _ => rfl⟩, fwOf_mono _⟩
theorem m_Clash___eq__ {V : Wd} (Z : Zf V) : Mt V 1 "Clash" "__eq__" 2 (fwOf fr_Clash___eq__) := by
  obtain ⟨fd, F⟩ := Z.c.d.def_ 42 (d := d_Clash___eq__) rfl
  exact ⟨⟨_, fd, _, fnV_ok Z.hV F sc_Clash___eq__ (fun cdv A outer s H E c => b_Clash___eq__ Z.gf  cdv A outer s H E c) rfl rfl, Z.cls 102 rfl, He.meth_ok (Z.c.d.fact 105 (f := .meth "Clash" "__eq__") rfl), F.bindsN (ps := ["self", "other"]) fun _ _ _ _ _ _ us hl => match us, hl with | [_, _], _ => rfl⟩, fwOf_mono _⟩
theorem m_Covered___eq__ {V : Wd} (Z : Zf V) : Mt V 1 "Covered" "__eq__" 2 (fwOf fr_Covered___eq__) := by
  obtain ⟨fd, F⟩ := Z.c.d.def_ 44 (d := d_Covered___eq__) rfl
  exact ⟨⟨_, fd, _, fnV_ok Z.hV F sc_Covered___eq__ (fun cdv A outer s H E c => b_Covered___eq__ Z.gf  cdv A outer s H E c) rfl rfl, Z.cls 109 rfl, He.meth_ok (Z.c.d.fact 111 (f := .meth "Covered" "__eq__") rfl), F.bindsN (ps := ["self", "other"]) fun _ _ _ _ _ _ us hl => match us, hl with | [_, _], _ => rfl⟩, fwOf_mono _⟩
theorem m_Plan___eq__ {V : Wd} (Z : Zf V) : Mt V 1 "Plan" "__eq__" 2 (fwOf fr_Plan___eq__) := by
  obtain ⟨fd, F⟩ := Z.c.d.def_ 47 (d := d_Plan___eq__) rfl
  exact ⟨⟨_, fd, _, fnV_ok Z.hV F sc_Plan___eq__ (fun cdv A outer s H E c => b_Plan___eq__ Z.gf  cdv A outer s H E c) rfl rfl, Z.cls 113 rfl, He.meth_ok (Z.c.d.fact 116 (f := .meth "Plan" "__eq__") rfl), F.bindsN (ps := ["self", "other"]) fun _ _ _ _ _ _ us hl => match us, hl with | [_, _], _ => rfl⟩, fwOf_mono _⟩
theorem m_Trap___eq__ {V : Wd} (Z : Zf V) : Mt V 1 "Trap" "__eq__" 2 (fwOf fr_Trap___eq__) := by
  obtain ⟨fd, F⟩ := Z.c.d.def_ 50 (d := d_Trap___eq__) rfl
  exact ⟨⟨_, fd, _, fnV_ok Z.hV F sc_Trap___eq__ (fun cdv A outer s H E c => b_Trap___eq__ Z.gf  cdv A outer s H E c) rfl rfl, Z.cls 118 rfl, He.meth_ok (Z.c.d.fact 121 (f := .meth "Trap" "__eq__") rfl), F.bindsN (ps := ["self", "other"]) fun _ _ _ _ _ _ us hl => match us, hl with | [_, _], _ => rfl⟩, fwOf_mono _⟩
theorem m_Guard___eq__ {V : Wd} (Z : Zf V) : Mt V 1 "Guard" "__eq__" 2 (fwOf fr_Guard___eq__) := by
  obtain ⟨fd, F⟩ := Z.c.d.def_ 53 (d := d_Guard___eq__) rfl
  exact ⟨⟨_, fd, _, fnV_ok Z.hV F sc_Guard___eq__ (fun cdv A outer s H E c => b_Guard___eq__ Z.gf  cdv A outer s H E c) rfl rfl, Z.cls 123 rfl, He.meth_ok (Z.c.d.fact 126 (f := .meth "Guard" "__eq__") rfl), F.bindsN (ps := ["self", "other"]) fun _ _ _ _ _ _ us hl => match us, hl with | [_, _], _ => rfl⟩, fwOf_mono _⟩
theorem m_Lost___eq__ {V : Wd} (Z : Zf V) : Mt V 1 "Lost" "__eq__" 2 (fwOf fr_Lost___eq__) := by
  obtain ⟨fd, F⟩ := Z.c.d.def_ 56 (d := d_Lost___eq__) rfl
  exact ⟨⟨_, fd, _, fnV_ok Z.hV F sc_Lost___eq__ (fun cdv A outer s H E c => b_Lost___eq__ Z.gf  cdv A outer s H E c) rfl rfl, Z.cls 128 rfl, He.meth_ok (Z.c.d.fact 131 (f := .meth "Lost" "__eq__") rfl), F.bindsN (ps := ["self", "other"]) fun _ _ _ _ _ _ us hl => match us, hl with | [_, _], _ => rfl⟩, fwOf_mono _⟩
theorem t_tb_Merged___eq___eq {V : Wd} (Z : Zf V) : TabOk V 2 "__eq__" 2 tb_Merged___eq___eq := tabOk_cons (m_Chart___eq__ Z) (by decide) (tabOk_nil)
theorem m_Merged___eq__ {V : Wd} (Z : Zf V) : Mt V 3 "Merged" "__eq__" 2 (fwOf fr_Merged___eq__) := by
  obtain ⟨fd, F⟩ := Z.c.d.def_ 59 (d := d_Merged___eq__) rfl
  exact ⟨⟨_, fd, _, fnV_ok Z.hV F sc_Merged___eq__ (fun cdv A outer s H E c => b_Merged___eq__ Z.gf (t_tb_Merged___eq___eq Z) cdv A outer s H E c) rfl rfl, Z.cls 133 rfl, He.meth_ok (Z.c.d.fact 136 (f := .meth "Merged" "__eq__") rfl), F.bindsN (ps := ["self", "other"]) fun _ _ _ _ _ _ us hl => match us, hl with | [_, _], _ => rfl⟩, fwOf_mono _⟩
theorem m_Conflict___eq__ {V : Wd} (Z : Zf V) : Mt V 1 "Conflict" "__eq__" 2 (fwOf fr_Conflict___eq__) := by
  obtain ⟨fd, F⟩ := Z.c.d.def_ 62 (d := d_Conflict___eq__) rfl
  exact ⟨⟨_, fd, _, fnV_ok Z.hV F sc_Conflict___eq__ (fun cdv A outer s H E c => b_Conflict___eq__ Z.gf  cdv A outer s H E c) rfl rfl, Z.cls 138 rfl, He.meth_ok (Z.c.d.fact 141 (f := .meth "Conflict" "__eq__") rfl), F.bindsN (ps := ["self", "other"]) fun _ _ _ _ _ _ us hl => match us, hl with | [_, _], _ => rfl⟩, fwOf_mono _⟩
theorem m_Wish___eq__ {V : Wd} (Z : Zf V) : Mt V 1 "Wish" "__eq__" 2 (fwOf fr_Wish___eq__) := by
  obtain ⟨fd, F⟩ := Z.c.d.def_ 64 (d := d_Wish___eq__) rfl
  exact ⟨⟨_, fd, _, fnV_ok Z.hV F sc_Wish___eq__ (fun cdv A outer s H E c => b_Wish___eq__ Z.gf  cdv A outer s H E c) rfl rfl, Z.cls 143 rfl, He.meth_ok (Z.c.d.fact 145 (f := .meth "Wish" "__eq__") rfl), F.bindsN (ps := ["self", "other"]) fun _ _ _ _ _ _ us hl => match us, hl with | [_, _], _ => rfl⟩, fwOf_mono _⟩
theorem m_Keeps___eq__ {V : Wd} (Z : Zf V) : Mt V 1 "Keeps" "__eq__" 2 (fwOf fr_Keeps___eq__) := by
  obtain ⟨fd, F⟩ := Z.c.d.def_ 67 (d := d_Keeps___eq__) rfl
  exact ⟨⟨_, fd, _, fnV_ok Z.hV F sc_Keeps___eq__ (fun cdv A outer s H E c => b_Keeps___eq__ Z.gf  cdv A outer s H E c) rfl rfl, Z.cls 149 rfl, He.meth_ok (Z.c.d.fact 152 (f := .meth "Keeps" "__eq__") rfl), F.bindsN (ps := ["self", "other"]) fun _ _ _ _ _ _ us hl => match us, hl with | [_, _], _ => rfl⟩, fwOf_mono _⟩
theorem m_Fails___eq__ {V : Wd} (Z : Zf V) : Mt V 1 "Fails" "__eq__" 2 (fwOf fr_Fails___eq__) := by
  obtain ⟨fd, F⟩ := Z.c.d.def_ 70 (d := d_Fails___eq__) rfl
  exact ⟨⟨_, fd, _, fnV_ok Z.hV F sc_Fails___eq__ (fun cdv A outer s H E c => b_Fails___eq__ Z.gf  cdv A outer s H E c) rfl rfl, Z.cls 154 rfl, He.meth_ok (Z.c.d.fact 157 (f := .meth "Fails" "__eq__") rfl), F.bindsN (ps := ["self", "other"]) fun _ _ _ _ _ _ us hl => match us, hl with | [_, _], _ => rfl⟩, fwOf_mono _⟩
theorem m_Stuck___eq__ {V : Wd} (Z : Zf V) : Mt V 1 "Stuck" "__eq__" 2 (fwOf fr_Stuck___eq__) := by
  obtain ⟨fd, F⟩ := Z.c.d.def_ 73 (d := d_Stuck___eq__) rfl
  exact ⟨⟨_, fd, _, fnV_ok Z.hV F sc_Stuck___eq__ (fun cdv A outer s H E c => b_Stuck___eq__ Z.gf  cdv A outer s H E c) rfl rfl, Z.cls 160 rfl, He.meth_ok (Z.c.d.fact 163 (f := .meth "Stuck" "__eq__") rfl), F.bindsN (ps := ["self", "other"]) fun _ _ _ _ _ _ us hl => match us, hl with | [_, _], _ => rfl⟩, fwOf_mono _⟩
theorem m_One___bool__ {V : Wd} (Z : Zf V) : Mt V 1 "One" "__bool__" 1 (fwOf fr_One___bool__) := by
  obtain ⟨fd, F⟩ := Z.c.d.def_ 11 (d := d_One___bool__) rfl
  exact ⟨⟨_, fd, _, fnV_ok Z.hV F sc_One___bool__ (fun cdv A outer s H E c => b_One___bool__ Z.gf  cdv A outer s H E c) rfl rfl, Z.cls 49 rfl, He.meth_ok (Z.c.d.fact 51 (f := .meth "One" "__bool__") rfl), F.bindsN (ps := ["self"]) fun _ _ _ _ _ _ us hl => match us, hl with | [_], _ => rfl⟩, fwOf_mono _⟩
theorem m_Two___bool__ {V : Wd} (Z : Zf V) : Mt V 1 "Two" "__bool__" 1 (fwOf fr_Two___bool__) := by
  obtain ⟨fd, F⟩ := Z.c.d.def_ 14 (d := d_Two___bool__) rfl
  exact ⟨⟨_, fd, _, fnV_ok Z.hV F sc_Two___bool__ (fun cdv A outer s H E c => b_Two___bool__ Z.gf  cdv A outer s H E c) rfl rfl, Z.cls 54 rfl, He.meth_ok (Z.c.d.fact 56 (f := .meth "Two" "__bool__") rfl), F.bindsN (ps := ["self"]) fun _ _ _ _ _ _ us hl => match us, hl with | [_], _ => rfl⟩, fwOf_mono _⟩
theorem m_Endless___bool__ {V : Wd} (Z : Zf V) : Mt V 1 "Endless" "__bool__" 1 (fwOf fr_Endless___bool__) := by
  obtain ⟨fd, F⟩ := Z.c.d.def_ 17 (d := d_Endless___bool__) rfl
  exact ⟨⟨_, fd, _, fnV_ok Z.hV F sc_Endless___bool__ (fun cdv A outer s H E c => b_Endless___bool__ Z.gf  cdv A outer s H E c) rfl rfl, Z.cls 61 rfl, He.meth_ok (Z.c.d.fact 63 (f := .meth "Endless" "__bool__") rfl), F.bindsN (ps := ["self"]) fun _ _ _ _ _ _ us hl => match us, hl with | [_], _ => rfl⟩, fwOf_mono _⟩
theorem m_Alike___bool__ {V : Wd} (Z : Zf V) : Mt V 1 "Alike" "__bool__" 1 (fwOf fr_Alike___bool__) := by
  obtain ⟨fd, F⟩ := Z.c.d.def_ 23 (d := d_Alike___bool__) rfl
  exact ⟨⟨_, fd, _, fnV_ok Z.hV F sc_Alike___bool__ (fun cdv A outer s H E c => b_Alike___bool__ Z.gf  cdv A outer s H E c) rfl rfl, Z.cls 72 rfl, He.meth_ok (Z.c.d.fact 74 (f := .meth "Alike" "__bool__") rfl), F.bindsN (ps := ["self"]) fun _ _ _ _ _ _ us hl => match us, hl with | [_], _ => rfl⟩, fwOf_mono _⟩
theorem m_Parts___bool__ {V : Wd} (Z : Zf V) : Mt V 1 "Parts" "__bool__" 1 (fwOf fr_Parts___bool__) := by
  obtain ⟨fd, F⟩ := Z.c.d.def_ 26 (d := d_Parts___bool__) rfl
  exact ⟨⟨_, fd, _, fnV_ok Z.hV F sc_Parts___bool__ (fun cdv A outer s H E c => b_Parts___bool__ Z.gf  cdv A outer s H E c) rfl rfl, Z.cls 77 rfl, He.meth_ok (Z.c.d.fact 79 (f := .meth "Parts" "__bool__") rfl), F.bindsN (ps := ["self"]) fun _ _ _ _ _ _ us hl => match us, hl with | [_], _ => rfl⟩, fwOf_mono _⟩
theorem m_Fooled___bool__ {V : Wd} (Z : Zf V) : Mt V 1 "Fooled" "__bool__" 1 (fwOf fr_Fooled___bool__) := by
  obtain ⟨fd, F⟩ := Z.c.d.def_ 29 (d := d_Fooled___bool__) rfl
  exact ⟨⟨_, fd, _, fnV_ok Z.hV F sc_Fooled___bool__ (fun cdv A outer s H E c => b_Fooled___bool__ Z.gf  cdv A outer s H E c) rfl rfl, Z.cls 82 rfl, He.meth_ok (Z.c.d.fact 84 (f := .meth "Fooled" "__bool__") rfl), F.bindsN (ps := ["self"]) fun _ _ _ _ _ _ us hl => match us, hl with | [_], _ => rfl⟩, fwOf_mono _⟩
theorem m_Led___bool__ {V : Wd} (Z : Zf V) : Mt V 1 "Led" "__bool__" 1 (fwOf fr_Led___bool__) := by
  obtain ⟨fd, F⟩ := Z.c.d.def_ 32 (d := d_Led___bool__) rfl
  exact ⟨⟨_, fd, _, fnV_ok Z.hV F sc_Led___bool__ (fun cdv A outer s H E c => b_Led___bool__ Z.gf  cdv A outer s H E c) rfl rfl, Z.cls 87 rfl, He.meth_ok (Z.c.d.fact 89 (f := .meth "Led" "__bool__") rfl), F.bindsN (ps := ["self"]) fun _ _ _ _ _ _ us hl => match us, hl with | [_], _ => rfl⟩, fwOf_mono _⟩
theorem m_Shut___bool__ {V : Wd} (Z : Zf V) : Mt V 1 "Shut" "__bool__" 1 (fwOf fr_Shut___bool__) := by
  obtain ⟨fd, F⟩ := Z.c.d.def_ 35 (d := d_Shut___bool__) rfl
  exact ⟨⟨_, fd, _, fnV_ok Z.hV F sc_Shut___bool__ (fun cdv A outer s H E c => b_Shut___bool__ Z.gf  cdv A outer s H E c) rfl rfl, Z.cls 92 rfl, He.meth_ok (Z.c.d.fact 94 (f := .meth "Shut" "__bool__") rfl), F.bindsN (ps := ["self"]) fun _ _ _ _ _ _ us hl => match us, hl with | [_], _ => rfl⟩, fwOf_mono _⟩
theorem m_Apart___bool__ {V : Wd} (Z : Zf V) : Mt V 1 "Apart" "__bool__" 1 (fwOf fr_Apart___bool__) := by
  obtain ⟨fd, F⟩ := Z.c.d.def_ 38 (d := d_Apart___bool__) rfl
  exact ⟨⟨_, fd, _, fnV_ok Z.hV F sc_Apart___bool__ (fun cdv A outer s H E c => b_Apart___bool__ Z.gf  cdv A outer s H E c) rfl rfl, Z.cls 97 rfl, He.meth_ok (Z.c.d.fact 99 (f := .meth "Apart" "__bool__") rfl), F.bindsN (ps := ["self"]) fun _ _ _ _ _ _ us hl => match us, hl with | [_], _ => rfl⟩, fwOf_mono _⟩
theorem m_Clash___bool__ {V : Wd} (Z : Zf V) : Mt V 1 "Clash" "__bool__" 1 (fwOf fr_Clash___bool__) := by
  obtain ⟨fd, F⟩ := Z.c.d.def_ 41 (d := d_Clash___bool__) rfl
  exact ⟨⟨_, fd, _, fnV_ok Z.hV F sc_Clash___bool__ (fun cdv A outer s H E c => b_Clash___bool__ Z.gf  cdv A outer s H E c) rfl rfl, Z.cls 102 rfl, He.meth_ok (Z.c.d.fact 104 (f := .meth "Clash" "__bool__") rfl), F.bindsN (ps := ["self"]) fun _ _ _ _ _ _ us hl => match us, hl with | [_], _ => rfl⟩, fwOf_mono _⟩
theorem m_Plan___bool__ {V : Wd} (Z : Zf V) : Mt V 1 "Plan" "__bool__" 1 (fwOf fr_Plan___bool__) := by
  obtain ⟨fd, F⟩ := Z.c.d.def_ 46 (d := d_Plan___bool__) rfl
  exact ⟨⟨_, fd, _, fnV_ok Z.hV F sc_Plan___bool__ (fun cdv A outer s H E c => b_Plan___bool__ Z.gf  cdv A outer s H E c) rfl rfl, Z.cls 113 rfl, He.meth_ok (Z.c.d.fact 115 (f := .meth "Plan" "__bool__") rfl), F.bindsN (ps := ["self"]) fun _ _ _ _ _ _ us hl => match us, hl with | [_], _ => rfl⟩, fwOf_mono _⟩
theorem m_Trap___bool__ {V : Wd} (Z : Zf V) : Mt V 1 "Trap" "__bool__" 1 (fwOf fr_Trap___bool__) := by
  obtain ⟨fd, F⟩ := Z.c.d.def_ 49 (d := d_Trap___bool__) rfl
  exact ⟨⟨_, fd, _, fnV_ok Z.hV F sc_Trap___bool__ (fun cdv A outer s H E c => b_Trap___bool__ Z.gf  cdv A outer s H E c) rfl rfl, Z.cls 118 rfl, He.meth_ok (Z.c.d.fact 120 (f := .meth "Trap" "__bool__") rfl), F.bindsN (ps := ["self"]) fun _ _ _ _ _ _ us hl => match us, hl with | [_], _ => rfl⟩, fwOf_mono _⟩
theorem m_Guard___bool__ {V : Wd} (Z : Zf V) : Mt V 1 "Guard" "__bool__" 1 (fwOf fr_Guard___bool__) := by
  obtain ⟨fd, F⟩ := Z.c.d.def_ 52 (d := d_Guard___bool__) rfl
  exact ⟨⟨_, fd, _, fnV_ok Z.hV F sc_Guard___bool__ (fun cdv A outer s H E c => b_Guard___bool__ Z.gf  cdv A outer s H E c) rfl rfl, Z.cls 123 rfl, He.meth_ok (Z.c.d.fact 125 (f := .meth "Guard" "__bool__") rfl), F.bindsN (ps := ["self"]) fun _ _ _ _ _ _ us hl => match us, hl with | [_], _ => rfl⟩, fwOf_mono _⟩
theorem m_Lost___bool__ {V : Wd} (Z : Zf V) : Mt V 1 "Lost" "__bool__" 1 (fwOf fr_Lost___bool__) := by
  obtain ⟨fd, F⟩ := Z.c.d.def_ 55 (d := d_Lost___bool__) rfl
  exact ⟨⟨_, fd, _, fnV_ok Z.hV F sc_Lost___bool__ (fun cdv A outer s H E c => b_Lost___bool__ Z.gf  cdv A outer s H E c) rfl rfl, Z.cls 128 rfl, He.meth_ok (Z.c.d.fact 130 (f := .meth "Lost" "__bool__") rfl), F.bindsN (ps := ["self"]) fun _ _ _ _ _ _ us hl => match us, hl with | [_], _ => rfl⟩, fwOf_mono _⟩
theorem m_Merged___bool__ {V : Wd} (Z : Zf V) : Mt V 1 "Merged" "__bool__" 1 (fwOf fr_Merged___bool__) := by
  obtain ⟨fd, F⟩ := Z.c.d.def_ 58 (d := d_Merged___bool__) rfl
  exact ⟨⟨_, fd, _, fnV_ok Z.hV F sc_Merged___bool__ (fun cdv A outer s H E c => b_Merged___bool__ Z.gf  cdv A outer s H E c) rfl rfl, Z.cls 133 rfl, He.meth_ok (Z.c.d.fact 135 (f := .meth "Merged" "__bool__") rfl), F.bindsN (ps := ["self"]) fun _ _ _ _ _ _ us hl => match us, hl with | [_], _ => rfl⟩, fwOf_mono _⟩
theorem m_Conflict___bool__ {V : Wd} (Z : Zf V) : Mt V 1 "Conflict" "__bool__" 1 (fwOf fr_Conflict___bool__) := by
  obtain ⟨fd, F⟩ := Z.c.d.def_ 61 (d := d_Conflict___bool__) rfl
  exact ⟨⟨_, fd, _, fnV_ok Z.hV F sc_Conflict___bool__ (fun cdv A outer s H E c => b_Conflict___bool__ Z.gf  cdv A outer s H E c) rfl rfl, Z.cls 138 rfl, He.meth_ok (Z.c.d.fact 140 (f := .meth "Conflict" "__bool__") rfl), F.bindsN (ps := ["self"]) fun _ _ _ _ _ _ us hl => match us, hl with | [_], _ => rfl⟩, fwOf_mono _⟩
theorem m_Keeps___bool__ {V : Wd} (Z : Zf V) : Mt V 1 "Keeps" "__bool__" 1 (fwOf fr_Keeps___bool__) := by
  obtain ⟨fd, F⟩ := Z.c.d.def_ 66 (d := d_Keeps___bool__) rfl
  exact ⟨⟨_, fd, _, fnV_ok Z.hV F sc_Keeps___bool__ (fun cdv A outer s H E c => b_Keeps___bool__ Z.gf  cdv A outer s H E c) rfl rfl, Z.cls 149 rfl, He.meth_ok (Z.c.d.fact 151 (f := .meth "Keeps" "__bool__") rfl), F.bindsN (ps := ["self"]) fun _ _ _ _ _ _ us hl => match us, hl with | [_], _ => rfl⟩, fwOf_mono _⟩
theorem m_Fails___bool__ {V : Wd} (Z : Zf V) : Mt V 1 "Fails" "__bool__" 1 (fwOf fr_Fails___bool__) := by
  obtain ⟨fd, F⟩ := Z.c.d.def_ 69 (d := d_Fails___bool__) rfl
  exact ⟨⟨_, fd, _, fnV_ok Z.hV F sc_Fails___bool__ (fun cdv A outer s H E c => b_Fails___bool__ Z.gf  cdv A outer s H E c) rfl rfl, Z.cls 154 rfl, He.meth_ok (Z.c.d.fact 156 (f := .meth "Fails" "__bool__") rfl), F.bindsN (ps := ["self"]) fun _ _ _ _ _ _ us hl => match us, hl with | [_], _ => rfl⟩, fwOf_mono _⟩
theorem m_Stuck___bool__ {V : Wd} (Z : Zf V) : Mt V 1 "Stuck" "__bool__" 1 (fwOf fr_Stuck___bool__) := by
  obtain ⟨fd, F⟩ := Z.c.d.def_ 72 (d := d_Stuck___bool__) rfl
  exact ⟨⟨_, fd, _, fnV_ok Z.hV F sc_Stuck___bool__ (fun cdv A outer s H E c => b_Stuck___bool__ Z.gf  cdv A outer s H E c) rfl rfl, Z.cls 160 rfl, He.meth_ok (Z.c.d.fact 162 (f := .meth "Stuck" "__bool__") rfl), F.bindsN (ps := ["self"]) fun _ _ _ _ _ _ us hl => match us, hl with | [_], _ => rfl⟩, fwOf_mono _⟩
theorem t_tb_law_eq {V : Wd} (Z : Zf V) : TabOk V 7 "__eq__" 2 tb_law_eq := tabOk_cons (m_Chart___eq__ Z) (by decide) (tabOk_cons (m_One___eq__ Z) (by decide) (tabOk_cons (m_Two___eq__ Z) (by decide) (tabOk_cons (m_Endless___eq__ Z) (by decide) (tabOk_cons (m_Flat___eq__ Z) (by decide) (tabOk_cons (m_Alike___eq__ Z) (by decide) (tabOk_cons (m_Parts___eq__ Z) (by decide) (tabOk_cons (m_Fooled___eq__ Z) (by decide) (tabOk_cons (m_Led___eq__ Z) (by decide) (tabOk_cons (m_Shut___eq__ Z) (by decide) (tabOk_cons (m_Apart___eq__ Z) (by decide) (tabOk_cons (m_Clash___eq__ Z) (by decide) (tabOk_cons (m_Covered___eq__ Z) (by decide) (tabOk_cons (m_Plan___eq__ Z) (by decide) (tabOk_cons (m_Trap___eq__ Z) (by decide) (tabOk_cons (m_Guard___eq__ Z) (by decide) (tabOk_cons (m_Lost___eq__ Z) (by decide) (tabOk_cons (m_Merged___eq__ Z) (by decide) (tabOk_cons (m_Conflict___eq__ Z) (by decide) (tabOk_cons (m_Wish___eq__ Z) (by decide) (tabOk_cons (m_Keeps___eq__ Z) (by decide) (tabOk_cons (m_Fails___eq__ Z) (by decide) (tabOk_cons (m_Stuck___eq__ Z) (by decide) (tabOk_nil)))))))))))))))))))))))
theorem t_tb_law_bool {V : Wd} (Z : Zf V) : TabOk V 6 "__bool__" 1 tb_law_bool := tabOk_cons (m_One___bool__ Z) (by decide) (tabOk_cons (m_Two___bool__ Z) (by decide) (tabOk_cons (m_Endless___bool__ Z) (by decide) (tabOk_cons (m_Alike___bool__ Z) (by decide) (tabOk_cons (m_Parts___bool__ Z) (by decide) (tabOk_cons (m_Fooled___bool__ Z) (by decide) (tabOk_cons (m_Led___bool__ Z) (by decide) (tabOk_cons (m_Shut___bool__ Z) (by decide) (tabOk_cons (m_Apart___bool__ Z) (by decide) (tabOk_cons (m_Clash___bool__ Z) (by decide) (tabOk_cons (m_Plan___bool__ Z) (by decide) (tabOk_cons (m_Trap___bool__ Z) (by decide) (tabOk_cons (m_Guard___bool__ Z) (by decide) (tabOk_cons (m_Lost___bool__ Z) (by decide) (tabOk_cons (m_Merged___bool__ Z) (by decide) (tabOk_cons (m_Conflict___bool__ Z) (by decide) (tabOk_cons (m_Keeps___bool__ Z) (by decide) (tabOk_cons (m_Fails___bool__ Z) (by decide) (tabOk_cons (m_Stuck___bool__ Z) (by decide) (tabOk_nil)))))))))))))))))))
theorem law_fact {P : Program} {w : World} {K : PySem.W.Frag} {mg : Str → Option Value} (h0 : Heap) (Z0 : ∀ base, Zf ⟨P, w, K, mg, base⟩) (ht : Wo.tabs = []) {f : Addr} (hf : mg "law" = some (.ref f)) : ∃ fd : FuncData, (∀ (s : Shared) (u : Value), BindsTo s fd ⟨[u], []⟩ [("script", u)]) ∧ ∀ base : Heap, FnOk P w K mg base (L2.CX P w) 8 f fd ["script"] spLaw := by
  obtain ⟨fd, F⟩ := (Z0 h0).c.d.def_ 78 (d := d_law) rfl
  cases hf.symm.trans ((Z0 h0).glo 13 rfl)
  refine ⟨fd, fun s u => F.bindsA (ps := ["script"]) (fun _ _ _ _ _ _ us hl => match us, hl with | [_], _ => rfl) s [u] rfl, fun base => ?_⟩
  have Z := Z0 base
  exact law_fn (V := ⟨P, w, K, mg, base⟩) Z.hV ht F sc_law (fun cdv A outer s H E c => b_law Z.gf (f__law_made Z) (t_tb_law_eq Z) (t_tb_law_bool Z) (i_Chart Z) (i_Flat Z) cdv A outer s H E c) (fun cdv A outer s H E c => ps_set (i := 1) c.nd rfl (.inl rfl) (pe_lst (pa_cons (pv 0) (pa_cons pe_int pa_nil)))) (by decide) law_ok
end K18
/-! the law -/
namespace K18
open PySem PySem.Spec PyProof.Rows L2 U
/-- what may be let out, at any world -/
def CXw : CXT := fun o H s E u s' => ∃ P w, L2.CX P w o H s E u s'
theorem fn_cx {P : Program} {w : World} {K : PySem.W.Frag} {mg : Str → Option Value} {base : Heap} {CX CX' : CXT} {k : Nat} {f : Addr} {fd : FuncData} {ps : List Str} {sp : Sp} (F : FnOk P w K mg base CX k f fd ps sp) (h : ∀ o H s E u s', CX o H s E u s' → CX' o H s E u s') : FnOk P w K mg base CX' k f fd ps sp :=
  ⟨F.len, fun A outer s H args us vs Q E hr he hb hv hs => codeAny_mono (F.run A outer s H args us vs Q E hr he hb hv hs) fun r s' q => by
    cases r with
    | error e => exact h _ _ _ _ _ _ q
    | ok fl => cases fl <;> exact q⟩
theorem law_end {P : Program} {w : World} {K : PySem.W.Frag} {h : Heap} {mg : Str → Option Value} {f : Addr} (X : K.In h) (G : h.Ns mainGlobals mg) (hf : mg ("law" : Str) = some (.ref f)) (c : SaysE fa fn ex K) :
    ∃ (fd : FuncData) (sp : Sp), (∀ (s : Shared) (u : Value), BindsTo s fd ⟨[u], []⟩ [("script", u)]) ∧ (∀ (H : Hp) (a : Addr) (ns : List Int), ns.length ≤ 63 → SqL K H a (ns.map V.int) → sp [.ref a] H (fun v _ => v = .bl true) fun _ _ _ => False) ∧
      ∀ base : Heap, FnOk P w K mg base CXw 8 f fd ["script"] sp := by
  letI : Wo := ⟨w, [], fun _ => none, []⟩
  obtain ⟨fd, b, F⟩ := law_fact (P := P) h (fun base => ⟨rfl, c, h, X, G⟩) rfl hf
  exact ⟨fd, spLaw, b, fun H a ns hl hS => ⟨a, ns, rfl, rd_of c.l hS, hl, fun _ => rfl⟩, fun base => fn_cx (F base) fun _ _ _ _ _ _ q => ⟨P, w, q⟩⟩
end K18
open PySem PySem.W PySem.Calls PyProof.Rows
theorem PySem.Challenge.cw_nestcharts_k18_equal_outcomes_holds : PySem.Challenge.rw_nestcharts_k18_equal_outcomes.Holds := by
  w_on; o_law
  refine HandSHeadRun.head_any (r := K18.R) (q := view K18.R.prog [K18.LAW]) (H := K18.hk) (ob := K18.ob) (M := 12000) (loose := K18.names) (d := HandSHeadRun.topDef K18.R.prog K18.LAW) (kwd := []) K18.ob_eq
    (by kernel_rfl) (fun s => by kernel_rfl) K18.run (by kernel_rfl) (by kernel_rfl) (by kernel_rfl) (by rfl) (by first | assumption | decide +kernel) (by decide +kernel) ⟨rfl, rfl, rfl, rfl, rfl, by decide +kernel⟩ ?hw ?hc
  case hw => w_witness2
  case hc =>
    refine L2.walk_ofE (l := PySem.Challenge.rw_nestcharts_k18_equal_outcomes) (n := 63) (k := 8) (x := "script") (CX := K18.CXw) rfl (by decide) (by kernel_rfl) ⟨rfl, by decide, by decide⟩ ?F (fun _ _ _ _ ⟨_, _, _, _, _, _, _, _, _, _, _, _, _, _, z⟩ => z)
    intro w mg fa h Y G hmg0
    obtain ⟨K, KX, c⟩ := Y
    have hmg : mg ("law" : PySem.Str) = some (.ref fa) := by
      have e : (HandSHeadRun.topDef K18.R.prog K18.LAW).name = ("law" : PySem.Str) := by kernel_rfl
      exact e ▸ hmg0
    obtain ⟨fd, sp, b, hs, F⟩ := K18.law_end (P := (PySem.Challenge.rw_nestcharts_k18_equal_outcomes).prog) (w := w) KX G hmg c
    exact ⟨K, fd, sp, KX, b, fun H a ns hl _ hS => hs H a ns hl hS, fun base _ _ => F base⟩
