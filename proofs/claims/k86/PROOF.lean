import PyProof.Rows.All
import Wide.All
import OpenK.AllK
import Wide.FinOn
import HandS.ForMost
import HandS.ForExc
import HandS.ExcInit
import HandS.ExcField
import HandS.CallSlots
import HandS.Defaults
import HandS.Deep
import HandS.Wide
import HandS.TupAny
import HandS.Style
import HandS.Strs
import HandS.SetBool
import HandS.Lambda
import HandS.More
import HandS.Property
import HandS.OwnEq
import HandS.SlotsOwn
import KE.KOpsOwn
import KE.KExcIs
import HandS.IsInst
import HandS.Star
import HandS.OwnIter
import HandS.IterVal
import HandS.Conv
import HandS.TupLen
import KE.GoesEnum
import KE.GoesEnumKw
import HandS.Zip
import HandS.DictComp
import HandS.Small
import HandS.HeadHook1
import HandS.HeadHook4
import HandS.NoneIn
import HandS.List
import KE.KRevSl
import HandS.TupMul
import HandS.HotCalls
import PyProof.ReprRoads
import PyProof.FitsInt
import PyProof.Rows.ReprOcc
import HandS.HeadWalk
import HandS.Flow
import PyProof.InstNe
import HandS.GenList
import KE.KDictWalk
import HandS.TupLe
import HandS.FStr
import HandS.Text
import PyProof.Rows.CallKwBuiltin
import KE.KUnpackStar
import HandS.RaiseMore
import KE.KDictOf
import HandS.ListItems
import HandS.DictEq
import KE.KDictDisplayH
import KE.KWithOwn
import HandS.Finally
import HandS.ExcValue
import KE.KStateDown
import HandS.Ends
import HandS.EndTab
import HandS.Base
import HandS.Head0
import HandS.Head1
import HandS.Head2
import HandS.HeadEnd
import HandS.HeadHook2
import HandS.HeadHook3
import PySem.Challenge.RW_savedseats_k86_each_error
import KE.BitLaws
import PyProof.StrLawsRepr
set_option Elab.async false
set_option linter.all false
set_option maxRecDepth 100000
namespace RL
open PySem PySem.Spec PyProof.Rows L2
abbrev Fg := PySem.W.Frag
def numIs (k : Int) : Value → Bool
  | .int i _ => i == k
  | .bool b => (if b then (1 : Int) else 0) == k
  | _ => false
theorem numIs_shape {k : Int} : ∀ {v : Value}, numIs k v = true → (∃ t, v = Value.int k t) ∨ ∃ b, v = Value.bool b ∧ (if b then (1 : Int) else 0) = k := fun {v} h => by
  cases v <;> first | (simp [numIs] at h; done) | skip
  · rename_i b; exact .inr ⟨b, rfl, by simpa [numIs] using h⟩
  · rename_i i t; have : i = k := by simpa [numIs] using h
    subst this; exact .inl ⟨t, rfl⟩
theorem deq (a b : Int) : decide (a = b) = (a == b) := by
  by_cases h : a = b
  · subst h; simp
  · rw [decide_eq_false h]; exact (beq_eq_false_iff_ne.mpr h).symm
theorem deqB (a b : Bool) : (a == b) = decide ((if a then (1 : Int) else 0) = (if b then (1 : Int) else 0)) := by cases a <;> cases b <;> rfl
def numKind (prog : Program) (w : World) : PySem.KeyKind prog w Int where
  is := numIs
  hash := hashInt
  inj := fun v a b ha hb => by
    rcases numIs_shape ha with ⟨t, rfl⟩ | ⟨x, rfl, e⟩
    · rcases numIs_shape hb with ⟨u, e⟩ | ⟨y, e, _⟩
      · injection e
      · exact nomatch e
    · rcases numIs_shape hb with ⟨u, e'⟩ | ⟨y, e', e2⟩
      · exact nomatch e'
      · injection e' with e'; subst e'; exact e.symm.trans e2
  byValue := fun k v h => by
    rcases numIs_shape h with ⟨t, rfl⟩ | ⟨x, rfl, _⟩ <;> rfl
  pyHash := fun hv h => by
    rcases numIs_shape hv with ⟨t, rfl⟩ | ⟨x, rfl, e⟩
    · exact wpAny_pyHash_int h
    · refine PpSet.pyHash_bool ?_;have : PpSet.hB x = hashInt (if x = true then (1 : Int) else 0) := rfl
      rw [this, e]; exact h
  eqBool := fun hu hv h => by
    rcases numIs_shape hu with ⟨t, rfl⟩ | ⟨x, rfl, e⟩
    · rcases numIs_shape hv with ⟨u, rfl⟩ | ⟨y, rfl, e2⟩
      · rw [deq] at h; exact wpAny_eqBool_int h
      · subst e2; rw [deq] at h; exact SeqAt.EqAt.int_bool _ t y _ _ _ _ h
    · rcases numIs_shape hv with ⟨u, rfl⟩ | ⟨y, rfl, e2⟩
      · subst e; rw [deq] at h; exact SeqAt.EqAt.bool_int x _ u _ _ _ _ h
      · subst e e2; rw [← deqB] at h; exact SeqAt.EqAt.bool_bool x y _ _ _ _ h
  «strs» := fun k x t v h => by
    rcases numIs_shape h with ⟨u, e⟩ | ⟨y, e, _⟩ <;> exact nomatch e
def nbK (k : Int × Bool) : List Int := [k.1, if k.2 then 1 else 0]
theorem nbK_inj {a b : Int × Bool} (e : nbK a = nbK b) : a = b := by
  obtain ⟨p, x⟩ := a; obtain ⟨q, y⟩ := b;simp only [nbK, List.cons.injEq, and_true] at e;obtain ⟨rfl, e⟩ := e;cases x <;> cases y <;> simp at e <;> rfl
def entB (x : List Int × Addr × Value) : DictEntry := ⟨reduceHash (Builtin.Tuple.tupleHashOf (x.1.map hashInt)), .ref x.2.1, x.2.2⟩
abbrev KB : List ((Int × Bool) × Addr × V) → List (List Int × Addr × Value) → Prop := Paired fun p q => nbK p.1 = q.1 ∧ p.2.1 = q.2.1 ∧ RelV p.2.2 q.2.2
/-- what stands at a: the keys' numbers, their tuples, the values -/
def DB (a : Addr) (kes : List ((Int × Bool) × Addr × V)) : Heap → Prop := fun h => kes.length ≤ sizeLine ∧ (a == sysModules) = false ∧ ∃ xs, KB kes xs ∧
  ∃ o es ep, h.get? a = some o ∧ o.ExactDict ∧ o.data = .dict es ep ∧ es.toList = xs.map entB ∧ (xs.map (·.1)).Nodup
inductive PV where
  | sc (v : V)
  | tup (xs : List PV)
  | lst (o : Bool) (xs : List PV)
  | lsk (b : Addr) (xs : List PV)
  | dct (o : Bool) (ks : List Key) (vs : List PV)
  | dtt (o : Bool) (ks : List (List Key)) (vs : List PV)
  | dtb (o : Bool) (ks : List (Int × Bool)) (vs : List PV)
  | obj (o : Bool) (C : Addr) (ns : List Str) (vs : List PV)
  | tpk (xs : List PV)
  | exo (C : Addr) (ns : List Str) (vs : List PV)
  | tab (a : Addr) (q : Str)
abbrev PV.int (i : Int) : PV := .sc (.int i)
abbrev PV.bl (b : Bool) : PV := .sc (.bl b)
abbrev PV.non : PV := .sc .non
abbrev PV.str (x : Str) : PV := .sc (.str x)
instance : Inhabited PV := ⟨.sc .non⟩
def PV.fz : PV → Bool
  | .sc _ => true
  | .tup _ => true
  | .lst o _ => !o
  | .lsk _ _ => true
  | .dct o _ _ => !o
  | .dtt o _ _ => !o
  | .dtb o _ _ => !o
  | .obj o _ _ _ => !o
  | .tpk _ => true
  | .exo _ _ _ => true
  | .tab _ _ => false
mutual
def PV.frz : PV → PV
  | .sc v => .sc v
  | .tup xs => .tup xs
  | .lst _ xs => .lst false (PV.frzL xs)
  | .lsk b xs => .lsk b xs
  | .dct _ ks vs => .dct false ks (PV.frzL vs)
  | .dtt _ ks vs => .dtt false ks (PV.frzL vs)
  | .dtb _ ks vs => .dtb false ks (PV.frzL vs)
  | .obj _ C ns vs => .obj false C ns (PV.frzL vs)
  | .tpk xs => .tpk xs
  | .exo C ns vs => .exo C ns vs
  | .tab a _ => .sc (.ref a)
def PV.frzL : List PV → List PV
  | [] => []
  | x :: xs => x.frz :: PV.frzL xs
end
/-- such a key as a value -/
def kbP (k : Int × Bool) : PV := .tup [.int k.1, .bl k.2]
def HLe (F F' : Hp) : Prop := ∀ a o, F a = some o → F' a = some o
theorem HLe.refl {F : Hp} : HLe F F := fun _ _ h => h
theorem HLe.trans {F G H : Hp} (a : HLe F G) (b : HLe G H) : HLe F H := fun x o h => b x o (a x o h)
theorem HLe.rd {F F' : Hp} (h : HLe F F') {a : Addr} {u : HO} (r : Rd F a u) : Rd F' a u := by
  rcases r with r | ⟨o, r⟩
  · exact .inl (h _ _ r)
  · exact .inr ⟨o, h _ _ r⟩
theorem HLe.sqL {K : Fg} {F F' : Hp} (h : HLe F F') {a : Addr} {xs : List V} (r : SqL K F a xs) : SqL K F' a xs := by
  rcases r with r | r
  · exact .inl (h.rd r)
  · exact .inr r
theorem HLe.sqT {K : Fg} {F F' : Hp} (h : HLe F F') {a : Addr} {xs : List V} (r : SqT K F a xs) : SqT K F' a xs := by
  rcases r with r | r
  · exact .inl (h.rd r)
  · exact .inr r
/-- at a stands an exception object of the class C, its dict is d -/
def ExV (C a : Addr) (d : Option Addr) : HO := .ext fun h => ∃ (oe : Obj) (vs : Array Value), h.get? a = some oe ∧ Zc (.ref C) d oe ∧ oe.data = .fields vs
/-- such an object with the fields ns, vs -/
def XoR (F : Hp) (a C : Addr) (ns : List Str) (vs : List V) : Prop := ∃ d, F a = some (ExV C a d) ∧ ((d = none ∧ ns = []) ∨ ∃ dd, d = some dd ∧ F dd = some (.xd (ns.zip vs)))
theorem XoR.mono {F F' : Hp} {a C : Addr} {ns : List Str} {vs : List V} (x : XoR F a C ns vs) (hF : HLe F F') : XoR F' a C ns vs := match x with | ⟨d, h, k⟩ => ⟨d, hF _ _ h, k.imp id fun ⟨dd, e, q⟩ => ⟨dd, e, hF _ _ q⟩⟩
/-- at a stands a def's table of code objects: each that it tells bears the name q -/
def TabR (F H : Hp) (a : Addr) (q : Str) : Prop := ∃ ps : Array Value, H a = some (.tbl ps) ∧ TriplesOk ps.toList ∧ ∀ (pos : Pos) (cv : Value), codeAmong pos ps.toList = some cv → ∃ c, cv = .ref c ∧ F c = some (LamX.CodeO c q)
theorem TabR.mono {F F' H H' : Hp} {a : Addr} {q : Str} (x : TabR F H a q) (hF : ∀ c, F c = some (LamX.CodeO c q) → F' c = some (LamX.CodeO c q)) (k : ∀ o, H a = some o → H' a = some o) : TabR F' H' a q := by
  obtain ⟨ps, h1, h2, h3⟩ := x;exact ⟨ps, k _ h1, h2, fun pos cv e => (h3 pos cv e).imp fun c ⟨e1, e2⟩ => ⟨e1, hF c e2⟩⟩
mutual
inductive Ow (K : Fg) (F H : Hp) : V → PV → List Addr → Prop
  | sc (v : V) : Ow K F H v (.sc v) []
  | tup {a : Addr} {vs : List V} {xs : List PV} (h : F a = some (.tup vs)) (t : OwL K F H vs xs []) : Ow K F H (.ref a) (.tup xs) []
  | lstF {a : Addr} {vs : List V} {xs : List PV} (h : F a = some (.lst vs)) (t : OwL K F H vs xs []) : Ow K F H (.ref a) (.lst false xs) []
  | lsk {a : Addr} {vs : List V} {xs : List PV} (h : SqL K F a vs) (t : OwL K F H vs xs []) : Ow K F H (.ref a) (.lsk a xs) []
  | lstO {a : Addr} {vs : List V} {xs : List PV} {l : List Addr} (h : H a = some (.lst vs)) (t : OwL K F H vs xs l) : Ow K F H (.ref a) (.lst true xs) (a :: l)
  | dctF {a : Addr} {ks : List Key} {vs : List V} {xs : List PV} (h : Rd F a (.dK (ks.zip vs))) (e : ks.length = vs.length) (t : OwL K F H vs xs []) : Ow K F H (.ref a) (.dct false ks xs) []
  | dctO {a : Addr} {ks : List Key} {vs : List V} {xs : List PV} {l : List Addr} (h : H a = some (.dK (ks.zip vs))) (e : ks.length = vs.length) (t : OwL K F H vs xs l) : Ow K F H (.ref a) (.dct true ks xs) (a :: l)
  | dttF {a : Addr} {ks : List (List Key)} {vs : List V} {xs : List PV} (h : Rd F a (.dT (ks.zip vs))) (e : ks.length = vs.length) (t : OwL K F H vs xs []) : Ow K F H (.ref a) (.dtt false ks xs) []
  | dttO {a : Addr} {ks : List (List Key)} {vs : List V} {xs : List PV} {l : List Addr} (h : H a = some (.dT (ks.zip vs))) (e : ks.length = vs.length) (t : OwL K F H vs xs l) : Ow K F H (.ref a) (.dtt true ks xs) (a :: l)
  | dtbF {a : Addr} {ks : List (Int × Bool)} {kas : List Addr} {vs : List V} {xs : List PV} (h : Rd F a (.ext (DB a (ks.zip (kas.zip vs))))) (e1 : ks.length = kas.length) (e : ks.length = vs.length) (tk : OwL K F H (kas.map V.ref) (ks.map kbP) []) (t : OwL K F H vs xs []) : Ow K F H (.ref a) (.dtb false ks xs) []
  | dtbO {a : Addr} {ks : List (Int × Bool)} {kas : List Addr} {vs : List V} {xs : List PV} {l : List Addr} (h : H a = some (.ext (DB a (ks.zip (kas.zip vs))))) (e1 : ks.length = kas.length) (e : ks.length = vs.length) (tk : OwL K F H (kas.map V.ref) (ks.map kbP) []) (t : OwL K F H vs xs l) : Ow K F H (.ref a) (.dtb true ks xs) (a :: l)
  | objF {a C dx : Addr} {ns : List Str} {vs : List V} {xs : List PV} (h : F a = some (.ins C dx (ns.zip vs))) (e : ns.length = vs.length) (t : OwL K F H vs xs []) : Ow K F H (.ref a) (.obj false C ns xs) []
  | objO {a C dx : Addr} {ns : List Str} {vs : List V} {xs : List PV} {l : List Addr} (h : H a = some (.ins C dx (ns.zip vs))) (e : ns.length = vs.length) (t : OwL K F H vs xs l) : Ow K F H (.ref a) (.obj true C ns xs) (a :: l)
  | tpk {a : Addr} {vs : List V} {xs : List PV} (h : SqT K F a vs) (t : OwL K F H vs xs []) : Ow K F H (.ref a) (.tpk xs) []
  | exo {a C : Addr} {ns : List Str} {vs : List V} {xs : List PV} (h : XoR F a C ns vs) (e : ns.length = vs.length) (t : OwL K F H vs xs []) : Ow K F H (.ref a) (.exo C ns xs) []
  | tab {a : Addr} {q : Str} (h : TabR F H a q) : Ow K F H (.ref a) (.tab a q) [a]
inductive OwL (K : Fg) (F H : Hp) : List V → List PV → List Addr → Prop
  | nil : OwL K F H [] [] []
  | cons {v : V} {p : PV} {l : List Addr} {vs : List V} {ps : List PV} {ls : List Addr} (h : Ow K F H v p l) (t : OwL K F H vs ps ls) : OwL K F H (v :: vs) (p :: ps) (l ++ ls)
end
section
variable {K : Fg} {F F' H H' : Hp}
mutual
theorem Ow.mono (hF : HLe F F') : ∀ {v : V} {p : PV} {l : List Addr}, (∀ a ∈ l, ∀ o, H a = some o → H' a = some o) → Ow K F H v p l → Ow K F' H' v p l
  | _, _, _, _, .sc v => .sc v
  | _, _, _, k, .tup h t => .tup (hF _ _ h) (OwL.mono hF k t)
  | _, _, _, k, .tpk h t => .tpk (hF.sqT h) (OwL.mono hF k t)
  | _, _, _, k, .exo h e t => .exo (h.mono hF) e (OwL.mono hF k t)
  | _, _, _, k, .tab h => .tab (h.mono (fun _ z => hF _ _ z) (k _ List.mem_cons_self))
  | _, _, _, k, .lstF h t => .lstF (hF _ _ h) (OwL.mono hF k t)
  | _, _, _, k, .lsk h t => .lsk (hF.sqL h) (OwL.mono hF k t)
  | _, _, _, k, .lstO h t => .lstO (k _ List.mem_cons_self _ h) (OwL.mono hF (fun a ha => k a (List.mem_cons_of_mem _ ha)) t)
  | _, _, _, k, .dctF h e t => .dctF (hF.rd h) e (OwL.mono hF k t)
  | _, _, _, k, .dctO h e t => .dctO (k _ List.mem_cons_self _ h) e (OwL.mono hF (fun a ha => k a (List.mem_cons_of_mem _ ha)) t)
  | _, _, _, k, .dttF h e t => .dttF (hF.rd h) e (OwL.mono hF k t)
  | _, _, _, k, .dttO h e t => .dttO (k _ List.mem_cons_self _ h) e (OwL.mono hF (fun a ha => k a (List.mem_cons_of_mem _ ha)) t)
  | _, _, _, k, .dtbF h e1 e tk t => .dtbF (hF.rd h) e1 e (OwL.mono hF k tk) (OwL.mono hF k t)
  | _, _, _, k, .dtbO h e1 e tk t => .dtbO (k _ List.mem_cons_self _ h) e1 e (OwL.mono hF (fun _ z => nomatch z) tk) (OwL.mono hF (fun a ha => k a (List.mem_cons_of_mem _ ha)) t)
  | _, _, _, k, .objF h e t => .objF (hF _ _ h) e (OwL.mono hF k t)
  | _, _, _, k, .objO h e t => .objO (k _ List.mem_cons_self _ h) e (OwL.mono hF (fun a ha => k a (List.mem_cons_of_mem _ ha)) t)
theorem OwL.mono (hF : HLe F F') : ∀ {vs : List V} {ps : List PV} {l : List Addr}, (∀ a ∈ l, ∀ o, H a = some o → H' a = some o) → OwL K F H vs ps l → OwL K F' H' vs ps l
  | _, _, _, _, .nil => .nil
  | _, _, _, k, .cons h t => .cons (Ow.mono hF (fun a ha => k a (List.mem_append_left _ ha)) h) (OwL.mono hF (fun a ha => k a (List.mem_append_right _ ha)) t)
end
mutual
theorem Ow.there : ∀ {v : V} {p : PV} {l : List Addr}, Ow K F H v p l → ∀ a ∈ l, ∃ o, H a = some o
  | _, _, _, .sc v, _, h => nomatch h
  | _, _, _, .tup _ _, _, h => nomatch h
  | _, _, _, .tpk _ _, _, h => nomatch h
  | _, _, _, .exo _ _ _, _, h => nomatch h
  | _, _, _, .tab h, b, hb => by
    rcases List.mem_cons.mp hb with rfl | hb
    · obtain ⟨ps, h, _⟩ := h; exact ⟨_, h⟩
    · exact nomatch hb
  | _, _, _, .lstF _ _, _, h => nomatch h
  | _, _, _, .lsk _ _, _, h => nomatch h
  | _, _, _, .lstO h t, b, hb => by
    rcases List.mem_cons.mp hb with rfl | hb
    · exact ⟨_, h⟩
    · exact OwL.there t b hb
  | _, _, _, .dctF _ _ _, _, h => nomatch h
  | _, _, _, .dctO h _ t, b, hb => by
    rcases List.mem_cons.mp hb with rfl | hb
    · exact ⟨_, h⟩
    · exact OwL.there t b hb
  | _, _, _, .dttF _ _ _, _, h => nomatch h
  | _, _, _, .dttO h _ t, b, hb => by
    rcases List.mem_cons.mp hb with rfl | hb
    · exact ⟨_, h⟩
    · exact OwL.there t b hb
  | _, _, _, .dtbF _ _ _ _ _, _, h => nomatch h
  | _, _, _, .dtbO h _ _ _ t, b, hb => by
    rcases List.mem_cons.mp hb with rfl | hb
    · exact ⟨_, h⟩
    · exact OwL.there t b hb
  | _, _, _, .objF _ _ _, _, h => nomatch h
  | _, _, _, .objO h _ t, b, hb => by
    rcases List.mem_cons.mp hb with rfl | hb
    · exact ⟨_, h⟩
    · exact OwL.there t b hb
theorem OwL.there : ∀ {vs : List V} {ps : List PV} {l : List Addr}, OwL K F H vs ps l → ∀ a ∈ l, ∃ o, H a = some o
  | _, _, _, .nil, _, h => nomatch h
  | _, _, _, .cons h t, b, hb => by
    rcases List.mem_append.mp hb with hb | hb
    · exact Ow.there h b hb
    · exact OwL.there t b hb
end
/-- what may join the frozen part though it stands already: a tuple, or what is locked -/
def Tf : HO → Prop
  | .tup _ => True
  | .frz _ _ => True
  | _ => False
/-- frozen: the heap does not matter -/
theorem Ow.any {v : V} {p : PV} (h : Ow K F H v p []) (hF : HLe F F') : Ow K F' H' v p [] := Ow.mono hF (fun _ z => nomatch z) h
theorem OwL.any {vs : List V} {ps : List PV} (h : OwL K F H vs ps []) (hF : HLe F F') : OwL K F' H' vs ps [] := OwL.mono hF (fun _ z => nomatch z) h
theorem OwL.length {vs : List V} {ps : List PV} {l : List Addr} : OwL K F H vs ps l → vs.length = ps.length := by
  intro h;induction ps generalizing vs l with
  | nil => cases h; rfl
  | cons p ps ih =>
    cases h with
    | cons a t => exact congrArg (· + 1) (ih t)
end
abbrev PEnv := List (Option PV)
inductive EnvR (K : Fg) (F H : Hp) : List (Option V) → PEnv → List Addr → Prop
  | nil : EnvR K F H [] [] []
  | no {x : Option V} {σ : List (Option V)} {ρ : PEnv} {l : List Addr} (t : EnvR K F H σ ρ l) : EnvR K F H (x :: σ) (none :: ρ) l
  | so {v : V} {p : PV} {σ : List (Option V)} {ρ : PEnv} {l ls : List Addr} (h : Ow K F H v p l) (t : EnvR K F H σ ρ ls) : EnvR K F H (some v :: σ) (some p :: ρ) (l ++ ls)
section
variable {K : Fg} {F F' H H' : Hp}
theorem EnvR.mono (hF : HLe F F') : ∀ {σ : List (Option V)} {ρ : PEnv} {l : List Addr}, (∀ a ∈ l, ∀ o, H a = some o → H' a = some o) → EnvR K F H σ ρ l → EnvR K F' H' σ ρ l
  | _, _, _, _, .nil => .nil
  | _, _, _, k, .no t => .no (EnvR.mono hF k t)
  | _, _, _, k, .so h t => .so (h.mono hF (fun a ha => k a (List.mem_append_left _ ha))) (EnvR.mono hF (fun a ha => k a (List.mem_append_right _ ha)) t)
theorem EnvR.there : ∀ {σ : List (Option V)} {ρ : PEnv} {l : List Addr}, EnvR K F H σ ρ l → ∀ a ∈ l, ∃ o, H a = some o
  | _, _, _, .nil, _, h => nomatch h
  | _, _, _, .no t, b, hb => EnvR.there t b hb
  | _, _, _, .so h t, b, hb => by
    rcases List.mem_append.mp hb with hb | hb
    · exact Ow.there h b hb
    · exact EnvR.there t b hb
theorem EnvR.length : ∀ {σ : List (Option V)} {ρ : PEnv} {l : List Addr}, EnvR K F H σ ρ l → σ.length = ρ.length
  | _, _, _, .nil => rfl
  | _, _, _, .no t => congrArg (· + 1) (EnvR.length t)
  | _, _, _, .so _ t => congrArg (· + 1) (EnvR.length t)
end
structure Jx where
  p : Hp → Prop
  mono : ∀ F F' : Hp, HLe F F' → p F → p F'
structure St (K : Fg) (J : Jx) (F H : Hp) (σ : List (Option V)) (ρ : PEnv) (fp : List Addr) : Prop where
  le : HLe F H
  env : EnvR K F H σ ρ fp
  nd : fp.Nodup
  dis : ∀ a ∈ fp, F a = none
  amb : J.p F
/-- o is new in the frozen part: nothing stood there, or this tuple -/
def Nt (H : Hp) (a : Addr) (o : HO) : Prop := H a = none ∨ (H a = some o ∧ Tf o)
theorem Nt.no {H : Hp} {a : Addr} {o u : HO} (h : Nt H a o) (e : H a = some u) (n : ¬ Tf u) : False := by
  rcases h with h | ⟨h, f⟩
  · rw [e] at h; cases h
  · rw [e] at h; cases h; exact n f
/-- nothing that stood is changed; new things may be frozen -/
structure Pur (F H F' H' : Hp) : Prop where
  leF : HLe F F'
  le : HLe F' H'
  same : HLe H H'
  nw : ∀ a o, F' a = some o → F a = some o ∨ Nt H a o
theorem Pur.refl {F H : Hp} (h : HLe F H) : Pur F H F H := ⟨.refl, h, .refl, fun _ _ e => .inl e⟩
theorem HLe.nt_of {H H' : Hp} (h : HLe H H') {a : Addr} {o : HO} (e : Nt H' a o) : Nt H a o := by
  cases q : H a with
  | none => exact .inl q
  | some u =>
    rcases e with e | ⟨e, f⟩
    · rw [h a u q] at e; cases e
    · rw [h a u q] at e;exact .inr ⟨by rw [q, e], f⟩
theorem Pur.trans {F H F1 H1 F2 H2 : Hp} (a : Pur F H F1 H1) (b : Pur F1 H1 F2 H2) : Pur F H F2 H2 :=
  ⟨a.leF.trans b.leF, b.le, a.same.trans b.same, fun x o e => by
    rcases b.nw x o e with e | e
    · exact a.nw x o e
    · exact .inr (a.same.nt_of e)⟩
/-- things at fp may have changed -/
structure Aft (F H : Hp) (fp : List Addr) (F' H' : Hp) (fp' : List Addr) : Prop where
  leF : HLe F F'
  le : HLe F' H'
  ext : ∀ a o, H a = some o → a ∉ fp → H' a = some o
  tr : ∀ a, H' a = none → H a = none
  nw : ∀ a ∈ fp', a ∈ fp ∨ H a = none
  nwF : ∀ a o, F' a = some o → F a = some o ∨ a ∈ fp ∨ Nt H a o
  nd : fp'.Nodup
  dis : ∀ a ∈ fp', F' a = none
theorem Aft.trans {F H F1 H1 F2 H2 : Hp} {fp fp1 fp2 : List Addr} (a : Aft F H fp F1 H1 fp1) (b : Aft F1 H1 fp1 F2 H2 fp2) : Aft F H fp F2 H2 fp2 where
  leF := a.leF.trans b.leF
  le := b.le
  ext := fun x o e n => b.ext x o (a.ext x o e n) fun z => by
    rcases a.nw x z with z | z
    · exact n z
    · rw [e] at z; cases z
  tr := fun x e => a.tr x (b.tr x e)
  nw := fun x hx => by
    rcases b.nw x hx with z | z
    · exact a.nw x z
    · exact .inr (a.tr x z)
  nwF := fun x o e => by
    rcases b.nwF x o e with z | z | z
    · exact a.nwF x o z
    · rcases a.nw x z with z | z
      · exact .inr (.inl z)
      · exact .inr (.inr (.inl z))
    · by_cases hx : x ∈ fp
      · exact .inr (.inl hx)
      · rcases z with z | ⟨z, f⟩
        · exact .inr (.inr (.inl (a.tr x z)))
        · refine .inr (.inr ?_);cases q : H x with
          | none => exact .inl q
          | some u =>
            rw [a.ext x u q hx] at z;exact .inr ⟨by rw [q, z], f⟩
  nd := b.nd
  dis := b.dis
end RL
namespace RL
open PySem PySem.Spec PyProof.Rows L2
structure Exc where
  C : Addr
  ns : List Str
  ps : List PV
inductive ER (α : Type) where
  | ok (a : α)
  | exc (x : Exc)
  | stk
inductive GR (α : Type) where
  | ok (a : α) (ρ : PEnv)
  | exc (x : Exc) (ρ : PEnv)
  | stk
inductive SR where
  | nx (ρ : PEnv)
  | rt (p : PV) (ρ : PEnv)
  | bk (ρ : PEnv)
  | ct (ρ : PEnv)
  | exc (x : Exc) (ρ : PEnv)
  | stk
def ER.bind {α β : Type} : ER α → (α → ER β) → ER β
  | .ok a, f => f a
  | .exc x, _ => .exc x
  | .stk, _ => .stk
def ER.map {α β : Type} (f : α → β) : ER α → ER β
  | .ok a => .ok (f a)
  | .exc x => .exc x
  | .stk => .stk
def GR.bind {α β : Type} : GR α → (α → PEnv → GR β) → GR β
  | .ok a ρ, f => f a ρ
  | .exc x ρ, _ => .exc x ρ
  | .stk, _ => .stk
/-- a pure result in an environment -/
def ER.at {α : Type} : ER α → PEnv → GR α
  | .ok a, ρ => .ok a ρ
  | .exc x, ρ => .exc x ρ
  | .stk, _ => .stk
def chkF : PV → ER PV := fun p => if p.fz = true then .ok p else .stk
def frzE (f : PEnv → ER PV) : PEnv → ER PV := fun ρ => (f ρ).map PV.frz
def ER.of {α : Type} : Option α → ER α
  | some a => .ok a
  | none => .stk
def bind2 (fa fb : PEnv → ER PV) (g : PV → PV → Option PV) : PEnv → ER PV := fun ρ => (fa ρ).bind fun p => (fb ρ).bind fun q => .of (g p q)
def bind2s (fa fb : PEnv → ER PV) (g : PV → PV → Option V) : PEnv → ER PV := fun ρ => (fa ρ).bind fun p => (fb ρ).bind fun q => .of ((g p q).map PV.sc)
def bind2b (fa fb : PEnv → ER PV) (g : PV → PV → Option Bool) : PEnv → ER Bool := fun ρ => (fa ρ).bind fun p => (fb ρ).bind fun q => .of (g p q)
def bindA (fa : PEnv → ER (List PV)) (g : List PV → Option PV) : PEnv → ER PV := fun ρ => (fa ρ).bind fun p => .of (g p)
def bind1 (fa : PEnv → ER PV) (g : PV → Option PV) : PEnv → ER PV := fun ρ => (fa ρ).bind fun p => .of (g p)
def ExcAt (K : Fg) (F H : Hp) (d : Option Addr) (x : Exc) : Prop :=
  (d = none ∧ x.ns = [] ∧ x.ps = []) ∨ ∃ dd vs, d = some dd ∧ F dd = some (.xd (x.ns.zip vs)) ∧ x.ns.length = vs.length ∧ OwL K F H vs x.ps []
theorem ExcAt.mono {K : Fg} {F F' H H' : Hp} {d : Option Addr} {x : Exc} (h : ExcAt K F H d x) (l : HLe F F') : ExcAt K F' H' d x := by
  rcases h with h | ⟨dd, vs, e, h, n, o⟩
  · exact .inl h
  · exact .inr ⟨dd, vs, e, l _ _ h, n, o.any l⟩
abbrev Sg := List (Option V)
section
variable (K : Fg) (J : Jx) (W : WX)
/-- a result at l is new, and is the reader's -/
def Nw (F' H : Hp) (l : List Addr) : Prop := l.Nodup ∧ ∀ a ∈ l, H a = none ∧ F' a = none
end
theorem Nw.nil {F H : Hp} : Nw F H [] := ⟨.nil, fun _ h => nomatch h⟩
section
variable {K : Fg} {J : Jx} {W : WX} {σ : Sg} {H : Hp} {Q : VK} {F : Hp}
def nmE (i : Nat) : PEnv → ER PV := fun ρ => match ρ[i]? with
  | some (some p) => .ok p
  | _ => .stk
def consA (f : PEnv → ER PV) (g : PEnv → ER (List PV)) : PEnv → ER (List PV) := fun ρ => (f ρ).bind fun p => (g ρ).bind fun ps => .ok (p :: ps)
def displayT : List PV → Option PV := fun ps => if ps.all PV.fz = true ∧ ps.length ≤ 1000 then some (.tup ps) else none
def displayL : List PV → Option PV := fun ps => if ps.all PV.fz = true ∧ ps.length ≤ 1000 then some (.lst true ps) else none
end
end RL
namespace RL
open PySem PySem.Spec PyProof.Rows L2
/-- the slots at P stay -/
def Pt (P : List Nat) (σ σ' : Sg) : Prop := σ'.length = σ.length ∧ ∀ i ∈ P, σ'[i]? = σ[i]?
theorem Pt.refl {P : List Nat} {σ : Sg} : Pt P σ σ := ⟨rfl, fun _ _ => rfl⟩
theorem Pt.trans {P : List Nat} {a b c : Sg} (h : Pt P a b) (k : Pt P b c) : Pt P a c := ⟨k.1.trans h.1, fun i hi => (k.2 i hi).trans (h.2 i hi)⟩
theorem Pt.set {P : List Nat} {σ : Sg} {i : Nat} {x : Option V} (h : i ∉ P) : Pt P σ (σ.set i x) := ⟨List.length_set, fun j hj => by
  rw [List.getElem?_set_ne];rintro rfl
  exact h hj⟩
section
variable (K : Fg) (J : Jx) (W : WX) (P : List Nat)
def envK (F H : Hp) (fp : List Addr) (σ : Sg) (ρ' : PEnv) (Q : Sg → Hp → Prop) : Prop := ∀ σ' F' H' fp', Aft F H fp F' H' fp' → Pt P σ σ' → St K J F' H' σ' ρ' fp' → Q σ' H'
def Post (r : SR) (F H : Hp) (fp : List Addr) (σ : Sg) (D : Ends) : Prop := match r with
  | .nx ρ' => envK K J P F H fp σ ρ' D.nx
  | .bk ρ' => envK K J P F H fp σ ρ' D.bk
  | .ct ρ' => envK K J P F H fp σ ρ' D.ct
  | .rt p ρ' => ∀ v σ' F' H' fp' l, Aft F H fp F' H' (fp' ++ l) → Pt P σ σ' → St K J F' H' σ' ρ' fp' → Ow K F' H' v p l → D.rt v H'
  | .exc x ρ' => ∀ d σ' F' H' fp', Aft F H fp F' H' fp' → Pt P σ σ' → St K J F' H' σ' ρ' fp' → ExcAt K F' H' d x → W (.ref x.C) d σ' H'
  | .stk => False
def TSt (f : PEnv → SR) : TS := fun D σ H => ∃ F ρ fp, St K J F H σ ρ fp ∧ Post K J W P (f ρ) F H fp σ D
end
abbrev RSs (X : Cx) (J : Jx) (W : WX) (P : List Nat) (s : List Stmt) (f : PEnv → SR) : Prop := PSs X s (TSt X.K J W P f)
section
variable {K : Fg} {J : Jx} {W : WX} {P : List Nat} {σ : Sg} {H : Hp} {Q : VK} {F : Hp} {fp : List Addr} {D : Ends}
def fG (f : PEnv → ER PV) : PEnv → GR PV := fun ρ => (f ρ).at ρ
def vG (f : PEnv → ER PV) : PEnv → GR PV := fun ρ => ((f ρ).bind chkF).at ρ
def frzG (g : PEnv → GR PV) : PEnv → GR PV := fun ρ => match g ρ with
  | .ok p ρ' => .ok p.frz ρ'
  | .exc x ρ' => .exc x ρ'
  | .stk => .stk
def bindG2 (fa fb : PEnv → GR PV) (g : PV → PV → Option PV) : PEnv → GR PV := fun ρ => (fa ρ).bind fun p ρ1 => (fb ρ1).bind fun q ρ2 => (ER.of (g p q)).at ρ2
def bindG1 (fa : PEnv → GR PV) (g : PV → Option PV) : PEnv → GR PV := fun ρ => (fa ρ).bind fun p ρ1 => (ER.of (g p)).at ρ1
def bindGA (fa : PEnv → GR (List PV)) (g : List PV → Option PV) : PEnv → GR PV := fun ρ => (fa ρ).bind fun p ρ1 => (ER.of (g p)).at ρ1
def consG (f : PEnv → GR PV) (g : PEnv → GR (List PV)) : PEnv → GR (List PV) := fun ρ => (f ρ).bind fun p ρ1 => (g ρ1).bind fun ps ρ2 => .ok (p :: ps) ρ2
/-- moving an owned name out of its slot -/
def mvE (i : Nat) : PEnv → GR PV := fun ρ => match ρ[i]? with
  | some (some p) => .ok p (ρ.set i none)
  | _ => .stk
theorem EnvR.take {K : Fg} {F H : Hp} : ∀ {σ : List (Option V)} {ρ : PEnv} {l : List Addr} {i : Nat} {p : PV}, EnvR K F H σ ρ l → ρ[i]? = some (some p) →
    ∃ v l1 l2 l3, σ[i]? = some (some v) ∧ l = l1 ++ (l2 ++ l3) ∧ Ow K F H v p l2 ∧ EnvR K F H σ (ρ.set i none) (l1 ++ l3)
  | _, _, _, i, p, .nil, h => by simp at h
  | _, _, _, 0, p, .no t, h => by simp at h
  | _, _, _, i + 1, p, .no t, h => by
    obtain ⟨v, l1, l2, l3, e1, e2, w, k⟩ := EnvR.take (i := i) (p := p) t (by simpa using h)
    exact ⟨v, l1, l2, l3, by simpa using e1, e2, w, .no k⟩
  | _, _, _, 0, p, .so (p := p0) (l := l0) (ls := ls0) h0 t, h => by
    have e : p0 = p := by simpa using h
    subst e;exact ⟨_, [], l0, ls0, rfl, rfl, h0, .no t⟩
  | _, _, _, i + 1, p, .so (l := l0) h0 t, h => by
    obtain ⟨v, l1, l2, l3, e1, e2, w, k⟩ := EnvR.take (i := i) (p := p) t (by simpa using h)
    refine ⟨v, l0 ++ l1, l2, l3, by simpa using e1, by rw [e2, List.append_assoc], w, ?_⟩
    rw [List.append_assoc];exact .so h0 k
def seqS (f g : PEnv → SR) : PEnv → SR := fun ρ => match f ρ with
  | .nx ρ' => g ρ'
  | r => r
def setG (i : Nat) (g : PEnv → GR PV) : PEnv → SR := fun ρ => match g ρ with
  | .ok p ρ' => .nx (ρ'.set i (some p))
  | .exc x ρ' => .exc x ρ'
  | .stk => .stk
def retG (g : PEnv → GR PV) : PEnv → SR := fun ρ => match g ρ with
  | .ok p ρ' => .rt p ρ'
  | .exc x ρ' => .exc x ρ'
  | .stk => .stk
def dropG (g : PEnv → GR PV) : PEnv → SR := fun ρ => match g ρ with
  | .ok _ ρ' => .nx ρ'
  | .exc x ρ' => .exc x ρ'
  | .stk => .stk
def ifG (c : PEnv → GR Bool) (t e : PEnv → SR) : PEnv → SR := fun ρ => match c ρ with
  | .ok b ρ' => if b = true then t ρ' else e ρ'
  | .exc x ρ' => .exc x ρ'
  | .stk => .stk
end
end RL
namespace RL
open PySem PySem.Spec PyProof.Rows L2
def nmT (i : Nat) : PV → PEnv → Option PEnv := fun p ρ => some (ρ.set i (some p))
def nilT : List PV → PEnv → Option PEnv := fun ps ρ => match ps with
  | [] => some ρ
  | _ => none
def consT (g : PV → PEnv → Option PEnv) (gs : List PV → PEnv → Option PEnv) : List PV → PEnv → Option PEnv := fun ps ρ => match ps with
  | p :: ps => (g p ρ).bind (gs ps)
  | [] => none
def tupT (n : Nat) (gs : List PV → PEnv → Option PEnv) : PV → PEnv → Option PEnv := fun p ρ => match p with
  | .tup ps => if ps.length = n then gs ps ρ else none
  | _ => none
section
variable {K : Fg} {J : Jx} {W : WX} {P : List Nat} {σ : Sg} {H : Hp} {F : Hp} {fp : List Addr} {D : Ends}
theorem OwL.consE' {vs : List V} {qs : List PV} {l : List Addr} {p : PV} {ps : List PV} (o : OwL K F H vs qs l) : qs = p :: ps → l = [] → ∃ v vs', vs = v :: vs' ∧ Ow K F H v p [] ∧ OwL K F H vs' ps [] := by
  cases o with
  | nil => intro e; cases e
  | cons h t =>
    intro e1 e2;cases e1
    obtain ⟨rfl, rfl⟩ := List.append_eq_nil_iff.mp e2;exact ⟨_, _, rfl, h, t⟩
theorem OwL.consE {vs : List V} {p : PV} {ps : List PV} (o : OwL K F H vs (p :: ps) []) : ∃ v vs', vs = v :: vs' ∧ Ow K F H v p [] ∧ OwL K F H vs' ps [] := o.consE' rfl rfl
theorem OwL.nilE {vs : List V} {l : List Addr} (o : OwL K F H vs [] l) : vs = [] ∧ l = [] := by
  cases o;exact ⟨rfl, rfl⟩
theorem Ow.nilE {K : Fg} {F H : Hp} {v : V} {ps : List PV} (o : Ow K F H v (.tup ps) []) : ∃ a vs, v = .ref a ∧ F a = some (.tup vs) ∧ OwL K F H vs ps [] := by
  cases o with
  | tup h t => exact ⟨_, _, rfl, h, t⟩
end
def forL (g : PV → PEnv → Option PEnv) (b : PEnv → SR) : List PV → PEnv → SR
  | [], ρ => .nx ρ
  | p :: ps, ρ => match g p ρ with
    | none => .stk
    | some ρ1 => match b ρ1 with
      | .nx ρ2 => forL g b ps ρ2
      | .ct ρ2 => forL g b ps ρ2
      | .bk ρ2 => .nx ρ2
      | r => r
def forG (it : PEnv → GR (List PV)) (g : PV → PEnv → Option PEnv) (b : PEnv → SR) : PEnv → SR := fun ρ => match it ρ with
  | .ok ps ρ' => forL g b ps ρ'
  | .exc x ρ' => .exc x ρ'
  | .stk => .stk
section
variable {K : Fg} {J : Jx} {W : WX} {P : List Nat} {σ : Sg} {H : Hp} {F : Hp} {fp : List Addr} {D : Ends}
/-- lo, lo + 1, .. -/
def rangeP (lo : Int) (n : Nat) : List PV := (List.range n).map fun i : Nat => .int (lo + i)
def iterI (f : PEnv → GR PV) (k : PV → Option (List PV)) : PEnv → GR (List PV) := fun ρ => (f ρ).bind fun p ρ' => (ER.of (k p)).at ρ'
def iterA (f : PEnv → GR (List PV)) (k : List PV → Option (List PV)) : PEnv → GR (List PV) := fun ρ => (f ρ).bind fun p ρ' => (ER.of (k p)).at ρ'
end
end RL
namespace RL
open PySem PySem.Spec PyProof.Rows L2
inductive FR where
  | ok (r : PV) (os : List PV)
  | exc (x : Exc) (os : List PV)
  | stk
def backP (P : List Nat) : Nat → List PV → PEnv → Option (List PV)
  | _, [], _ => some []
  | i, o :: os, ρ => match (if i ∈ P then (match ρ with | some p :: _ => some p | _ => none) else if o.fz = true then some o else none) with
    | none => none
    | some a => match backP P (i + 1) os ρ.tail with
      | none => none
      | some b => some (a :: b)
/-- fewer addresses, each once if they were so -/
def FSub (l l' : List Addr) : Prop := (l'.Nodup → l.Nodup) ∧ ∀ a ∈ l, a ∈ l'
theorem FSub.refl {l : List Addr} : FSub l l := ⟨id, fun _ h => h⟩
theorem FSub.trans {a b c : List Addr} (h : FSub a b) (k : FSub b c) : FSub a c := ⟨fun n => h.1 (k.1 n), fun x hx => k.2 x (h.2 x hx)⟩
inductive Ag where
  | vl (p : PV)
  | pl (i : Nat)
inductive ArgR (K : Fg) (F H : Hp) (σ : Sg) : List V → List Ag → Prop
  | nil : ArgR K F H σ [] []
  | vl {v : V} {p : PV} {vs : List V} {as : List Ag} (h : Ow K F H v p []) (t : ArgR K F H σ vs as) : ArgR K F H σ (v :: vs) (.vl p :: as)
  | pl {v : V} {i : Nat} {vs : List V} {as : List Ag} (h : σ[i]? = some (some v)) (t : ArgR K F H σ vs as) : ArgR K F H σ (v :: vs) (.pl i :: as)
theorem ArgR.any {K : Fg} {F H F' H' : Hp} {σ : Sg} (le : HLe F F') : ∀ {vs : List V} {as : List Ag}, ArgR K F H σ vs as → ArgR K F' H' σ vs as
  | _, _, .nil => .nil
  | _, _, .vl h t => .vl (h.any le) (ArgR.any le t)
  | _, _, .pl h t => .pl h (ArgR.any le t)
def takeA : List Ag → PEnv → Option (List PV × PEnv)
  | [], ρ => some ([], ρ)
  | .vl p :: as, ρ => match takeA as ρ with
    | some (os, ρ') => some (p :: os, ρ')
    | none => none
  | .pl i :: as, ρ => match ρ[i]? with
    | some (some p) => match takeA as (ρ.set i none) with
      | some (os, ρ') => some (p :: os, ρ')
      | none => none
    | _ => none
def putA : List Ag → List PV → PEnv → PEnv
  | .vl _ :: as, _ :: os, ρ => putA as os ρ
  | .pl i :: as, o :: os, ρ => putA as os (ρ.set i (some o))
  | _, _, ρ => ρ
end RL
namespace RL
open PySem PySem.Spec PyProof.Rows L2
def vlAg (f : PEnv → GR PV) (g : PEnv → GR (List Ag)) : PEnv → GR (List Ag) := fun ρ => (f ρ).bind fun p ρ1 => (g ρ1).bind fun ps ρ2 => .ok (.vl p :: ps) ρ2
def plAg (i : Nat) (g : PEnv → GR (List Ag)) : PEnv → GR (List Ag) := fun ρ => match ρ[i]? with
  | some (some _) => (g ρ).bind fun ps ρ2 => .ok (.pl i :: ps) ρ2
  | _ => .stk
def callM (m : List PV → FR) (f : PEnv → GR (List Ag)) : PEnv → GR PV := fun ρ => (f ρ).bind fun as ρ1 => match takeA as ρ1 with
  | none => .stk
  | some (os, ρr) => match m os with
    | .ok r os' => .ok r (putA as os' ρr)
    | .exc x os' => .exc x (putA as os' ρr)
    | .stk => .stk
end RL
namespace RL
open PySem PySem.Spec PyProof.Rows L2
def wipeP (ρ : PEnv) : List Nat → PEnv
  | [] => ρ
  | v :: vs => (wipeP ρ vs).set v none
/-- the slots vs get back what they held, where it is frozen -/
def backV (ρ0 ρ : PEnv) : List Nat → PEnv
  | [] => ρ
  | v :: vs => (backV ρ0 ρ vs).set v (match ρ0[v]? with
    | some (some p) => if p.fz = true then some p else none
    | _ => none)
def W0 : WX := fun _ _ _ _ => False
section
variable {X : Cx} {J : Jx} {W : WX} {P : List Nat} {elt tg iter : Expr} {ifs : List Expr} {scope : Scope} {own : List (Str × Nat)} {pos : Pos} {n : Nat}
def yesG : PEnv → GR Bool := fun ρ => .ok true ρ
end
end RL
namespace RL
open PySem PySem.Spec PyProof.Rows L2
def eqDL (f : PV → PV → Bool) : List PV → List PV → Bool
  | [], [] => true
  | x :: xs, y :: ys => f x y && eqDL f xs ys
  | _, _ => false
def okV : V → Bool
  | .non => true
  | .bl _ => true
  | .int _ => true
  | .str x => PyData.strOk x
  | _ => false
def okD : Nat → PV → Bool
  | _, .sc v => okV v
  | n + 1, .tup xs => xs.all (okD n)
  | n + 1, .lst _ xs => xs.all (okD n)
  | n + 1, .lsk b xs => xs.all (okD n)
  | _, _ => false
/-- == of data -/
def eqD : Nat → PV → PV → Bool
  | _, .sc x, .sc y => eqV x y
  | n + 1, .tup xs, .tup ys => eqDL (eqD n) xs ys
  | n + 1, .lst _ xs, .lst _ ys => eqDL (eqD n) xs ys
  | n + 1, .lsk b xs, .lst _ ys => eqDL (eqD n) xs ys
  | n + 1, .lst _ xs, .lsk b ys => eqDL (eqD n) xs ys
  | n + 1, .lsk b xs, .lsk b' ys => eqDL (eqD n) xs ys
  | _, _, _ => false
section
variable {K : Fg} {F H : Hp}
def dN : Nat := 6
def eqP : PV → PV → Option Bool := fun p q => if okD dN p = true ∧ okD dN q = true then some (eqD dN p q) else none
def neP : PV → PV → Option Bool := fun p q => if okD dN p = true ∧ okD dN q = true then some (!eqD dN p q) else none
/-- the items of a sequence -/
def seqK : PV → Option (List PV)
  | .tup ps => some ps
  | .lst _ ps => some ps
  | .lsk b ps => some ps
  | .tpk ps => some ps
  | _ => none
def inP (neg : Bool) : PV → PV → Option Bool := fun p q => match seqK q with
  | some ps => if okD dN p = true ∧ ps.all (okD dN) = true then some (if neg then !(ps.any fun z => eqD dN z p) else ps.any fun z => eqD dN z p) else none
  | none => none
end
end RL
namespace RL
open PySem PySem.Spec PyProof.Rows L2
def i2 (g : Int → Int → Option V) : PV → PV → Option V
  | .sc (.int i), .sc (.int j) => g i j
  | _, _ => none
def i2b (g : Int → Int → Bool) : PV → PV → Option Bool
  | .sc (.int i), .sc (.int j) => some (g i j)
  | _, _ => none
abbrev addI : PV → PV → Option V := i2 fun i j => some (.int (i + j))
section
variable {K : Fg} {F H : Hp}
def isNone : PV → Bool
  | .sc .non => true
  | _ => false
def truP : PV → Option Bool
  | .sc .non => some false
  | .sc (.bl b) => some b
  | .sc (.int i) => some (i != 0)
  | .sc (.str x) => if x.length ≤ sizeLine then some ((x.length : Int) != 0) else none
  | .tup xs => some (!xs.isEmpty)
  | .lst _ xs => some (!xs.isEmpty)
  | .lsk b xs => some (!xs.isEmpty)
  | .dct true ks _ => some (!ks.isEmpty)
  | _ => none
def lenA : List PV → Option PV
  | [.sc (.str x)] => if x.length ≤ sizeLine then some (.int x.length) else none
  | [p] => (seqK p).map fun ps => .int ps.length
  | _ => none
def listA : List PV → Option PV
  | [p] => match seqK p with
    | some ps => if ps.all PV.fz = true then some (.lst true ps) else none
    | none => none
  | _ => none
def seqK0 : PV → Option (List PV)
  | .tpk _ => none
  | p => seqK p
def tupA : List PV → Option PV
  | [p] => match seqK0 p with
    | some ps => if ps.all PV.fz = true then some (.tup ps) else none
    | none => none
  | _ => none
def intA : List PV → Option PV
  | [.sc (.int i)] => some (.int i)
  | [.sc (.bl b)] => some (.int (if b then 1 else 0))
  | _ => none
def absA : List PV → Option PV
  | [.sc (.int i)] => some (.int (if i < 0 then -i else i))
  | _ => none
def listOf : PV → Option (List PV)
  | .lst _ ps => some ps
  | .lsk b ps => some ps
  | _ => none
def blsK : List PV → Option (List Bool)
  | [] => some []
  | .sc (.bl i) :: ps => (blsK ps).map (i :: ·)
  | _ => none
end
end RL
namespace RL
open PySem PySem.Spec PyProof.Rows L2
section
variable {K : Fg} {F H : Hp}
def ixI (i : Int) : PV → Option PV
  | .sc (.str z) => if z.length ≤ sizeLine then (atI z.cps.toList i).map fun c => .sc (.str ⟨#[c]⟩) else none
  | .tup ps => atI ps i
  | .lst _ ps => atI ps i
  | .lsk b ps => atI ps i
  | _ => none
def ixP : PV → PV → Option PV := fun p q => match q with
  | .sc (.int i) => ixI i p
  | _ => none
end
section
variable {K : Fg} {J : Jx} {W : WX} {P : List Nat} {σ : Sg} {H : Hp} {Q : VK} {F : Hp} {fp : List Addr} {D : Ends}
/-- xs[i] with a general index, xs a name -/
def ixG (i : Nat) (fb : PEnv → GR PV) : PEnv → GR PV := fun ρ => match ρ[i]? with
  | some (some _) => (fb ρ).bind fun q ρ1 => match ρ1[i]? with
    | some (some p) => match ixP p q with
      | some o => if o.fz = true then .ok o ρ1 else .stk
      | none => .stk
    | _ => .stk
  | _ => .stk
def noPo : PEnv → ER (Option Int) := fun _ => .ok none
def intO : PV → Option (Option Int)
  | .sc (.int i) => some (some i)
  | _ => none
def soPo (f : PEnv → ER PV) : PEnv → ER (Option Int) := fun ρ => (f ρ).bind fun p => .of (intO p)
def cutP (xs : List PV) (lo hi : Option Int) : List PV := (xs.drop (HT.sIx xs.length 0 lo)).take (HT.sIx xs.length xs.length hi - HT.sIx xs.length 0 lo)
def slP (p : PV) (lo hi : Option Int) : Option PV := match p with
  | .lst _ ps => if ps.all PV.fz = true then some (.lst true (cutP ps lo hi)) else none
  | .lsk b ps => if ps.all PV.fz = true then some (.lst true (cutP ps lo hi)) else none
  | .tup ps => some (.tup (cutP ps lo hi))
  | _ => none
def slE (fa : PEnv → ER PV) (fl fh : PEnv → ER (Option Int)) : PEnv → ER PV := fun ρ => (fa ρ).bind fun p => (fl ρ).bind fun l => (fh ρ).bind fun u => .of (slP p l u)
theorem OwL.drop {vs : List V} {ps : List PV} (o : OwL K F H vs ps []) : ∀ n, OwL K F H (vs.drop n) (ps.drop n) []
  | 0 => o
  | n + 1 => by
    cases ps with
    | nil => rw [o.nilE.1]; simp only [List.drop_nil]; exact .nil
    | cons p ps =>
      obtain ⟨v, vs', rfl, _, t⟩ := o.consE;simp only [List.drop_succ_cons];exact OwL.drop t n
theorem OwL.take {vs : List V} {ps : List PV} (o : OwL K F H vs ps []) : ∀ n, OwL K F H (vs.take n) (ps.take n) []
  | 0 => .nil
  | n + 1 => by
    cases ps with
    | nil => rw [o.nilE.1]; simp only [List.take_nil]; exact .nil
    | cons p ps =>
      obtain ⟨v, vs', rfl, h, t⟩ := o.consE;simp only [List.take_succ_cons];exact .cons (l := []) (ls := []) h (OwL.take t n)
end
end RL
namespace RL
open PySem PySem.Spec PyProof.Rows L2
def bindG2s (fa fb : PEnv → GR PV) (g : PV → PV → Option V) : PEnv → GR PV := fun ρ => (fa ρ).bind fun p ρ1 => (fb ρ1).bind fun q ρ2 => (ER.of ((g p q).map PV.sc)).at ρ2
def bindG2b (fa fb : PEnv → GR PV) (g : PV → PV → Option Bool) : PEnv → GR Bool := fun ρ => (fa ρ).bind fun p ρ1 => (fb ρ1).bind fun q ρ2 => (ER.of (g p q)).at ρ2
def bind1s (fa : PEnv → ER PV) (g : PV → Option V) : PEnv → ER PV := fun ρ => (fa ρ).bind fun p => .of ((g p).map PV.sc)
def bindG1s (fa : PEnv → GR PV) (g : PV → Option V) : PEnv → GR PV := fun ρ => (fa ρ).bind fun p ρ1 => (ER.of ((g p).map PV.sc)).at ρ1
def u1 (g : Int → V) : PV → Option V
  | .sc (.int i) => some (g i)
  | _ => none
section
variable {K : Fg} {J : Jx} {W : WX} {P : List Nat} {σ : Sg} {H : Hp} {Q : VK} {F : Hp} {fp : List Addr} {D : Ends}
def truE (f : PEnv → ER PV) : PEnv → ER Bool := fun ρ => (f ρ).bind fun p => .of (truP p)
def truG (f : PEnv → GR PV) : PEnv → GR Bool := fun ρ => (f ρ).bind fun p ρ1 => (ER.of (truP p)).at ρ1
def notE (c : PEnv → ER Bool) : PEnv → ER Bool := fun ρ => (c ρ).map fun b => !b
def andB (c d : PEnv → ER Bool) : PEnv → ER Bool := fun ρ => (c ρ).bind fun b => if b = true then d ρ else .ok false
def orB (c d : PEnv → ER Bool) : PEnv → ER Bool := fun ρ => (c ρ).bind fun b => if b = true then .ok true else d ρ
def notG (c : PEnv → GR Bool) : PEnv → GR Bool := fun ρ => (c ρ).bind fun b ρ1 => .ok (!b) ρ1
def andG (c d : PEnv → GR Bool) : PEnv → GR Bool := fun ρ => (c ρ).bind fun b ρ1 => if b = true then d ρ1 else .ok false ρ1
def orG (c d : PEnv → GR Bool) : PEnv → GR Bool := fun ρ => (c ρ).bind fun b ρ1 => if b = true then .ok true ρ1 else d ρ1
def boolK (f : Bool → ER PV) (p : PV) : ER PV := match p with
  | .sc (.bl b) => f b
  | _ => .stk
def andE (f g : PEnv → ER PV) : PEnv → ER PV := fun ρ => (f ρ).bind (boolK fun b => if b = true then g ρ else .ok (.bl false))
def orE (f g : PEnv → ER PV) : PEnv → ER PV := fun ρ => (f ρ).bind (boolK fun b => if b = true then .ok (.bl true) else g ρ)
def nbO : PV → Option V
  | .sc (.bl b) => some (.bl (!b))
  | _ => none
def ifE (c : PEnv → ER Bool) (f g : PEnv → ER PV) : PEnv → ER PV := fun ρ => (c ρ).bind fun b => if b = true then f ρ else g ρ
def boolKG (f : Bool → PEnv → GR PV) (p : PV) (ρ : PEnv) : GR PV := match p with
  | .sc (.bl b) => f b ρ
  | _ => .stk
def andZ (f g : PEnv → GR PV) : PEnv → GR PV := fun ρ => (f ρ).bind (boolKG fun b ρ1 => if b = true then g ρ1 else .ok (.bl false) ρ1)
def orZ (f g : PEnv → GR PV) : PEnv → GR PV := fun ρ => (f ρ).bind (boolKG fun b ρ1 => if b = true then .ok (.bl true) ρ1 else g ρ1)
def ifZ (c : PEnv → GR Bool) (f g : PEnv → GR PV) : PEnv → GR PV := fun ρ => (c ρ).bind fun b ρ1 => if b = true then f ρ1 else g ρ1
end
section
variable {X : Cx} {J : Jx} {W : WX} {P : List Nat} {e a b c o : Expr} {es rest : List Expr} {pos : Pos}
def isnB : Bool → PV → Option Bool := fun neg p => some (if neg then !isNone p else isNone p)
end
end RL
namespace RL
open PySem PySem.Spec PyProof.Rows L2
section
variable {K : Fg} {J : Jx} {W : WX} {P : List Nat} {σ : Sg} {H : Hp} {Q : VK} {F : Hp} {fp : List Addr} {D : Ends}
/-- a method of a list in slot i, or the like: g the content and the arguments to the result and the new content -/
def mutE (i : Nat) (fA : PEnv → GR (List PV)) (g : List PV → List PV → Option (PV × List PV)) : PEnv → GR PV := fun ρ => match ρ[i]? with
  | some (some (.lst true _)) => (fA ρ).bind fun args ρ1 => match ρ1[i]? with
    | some (some (.lst true ps)) => match g ps args with
      | some (r, ps') => .ok r (ρ1.set i (some (.lst true ps')))
      | none => .stk
    | _ => .stk
  | _ => .stk
def appA : List PV → List PV → Option (PV × List PV) := fun ps args => match args with
  | [p] => if ps.length < 100000 then some (.non, ps ++ [p]) else none
  | _ => none
end
end RL
namespace RL
open PySem PySem.Spec PyProof.Rows L2
section
variable {K : Fg} {J : Jx} {W : WX} {P : List Nat} {σ : Sg} {H : Hp} {Q : VK} {F : Hp} {fp : List Addr} {D : Ends}
/-- xs[k] = v, xs in slot i -/
def setIxG (i : Nat) (fk fv : PEnv → GR PV) : PEnv → SR := fun ρ => match fv ρ with
  | .ok q ρ1 => match ρ1[i]? with
    | some (some (.lst true _)) => match fk ρ1 with
      | .ok (.sc (.int k)) ρ2 => match ρ2[i]? with
        | some (some (.lst true ps)) => match ixN ps.length k with
          | some j => .nx (ρ2.set i (some (.lst true (ps.set j q))))
          | none => .stk
        | _ => .stk
      | .ok _ _ => .stk
      | .exc x ρ2 => .exc x ρ2
      | .stk => .stk
    | _ => .stk
  | .exc x ρ1 => .exc x ρ1
  | .stk => .stk
/-- two lists in a row -/
def catP : PV → PV → Option PV := fun p q => match p, q with
  | .lst _ ps, .lst _ qs => if (ps.all PV.fz = true ∧ qs.all PV.fz = true) ∧ ps.length + qs.length < 100000 then some (.lst true (ps ++ qs)) else none
  | _, _ => none
def tcatP : PV → PV → Option PV := fun p q => match p, q with
  | .tup ps, .tup qs => if ps.length + qs.length < 100000 then some (.tup (ps ++ qs)) else none
  | _, _ => none
end
end RL
namespace RL
open PySem PySem.Spec PyProof.Rows L2
def lookN {α : Type} (f : Str) : List Str → List α → Option α
  | n :: ns, v :: vs => if f = n then some v else lookN f ns vs
  | _, _ => none
def putN (f : Str) : List Str → List Str
  | [] => [f]
  | n :: ns => if n = f then f :: ns else n :: putN f ns
def putV {α : Type} (f : Str) (p : α) : List Str → List α → List α
  | [], _ => [p]
  | n :: ns, v :: vs => if n = f then p :: vs else v :: putV f p ns vs
  | _ :: _, [] => []
def fldP (C : Addr) (f : Str) : PV → Option PV
  | .obj _ D ns vs => if D = C then lookN f ns vs else none
  | _ => none
section
variable {K : Fg} {J : Jx} {W : WX} {P : List Nat} {σ : Sg} {H : Hp} {Q : VK} {F : Hp} {fp : List Addr} {D : Ends} {C : Addr} {f : Str}
/-- x.f = e, x in slot i -/
def setFldG (i : Nat) (C : Addr) (f : Str) (g : PEnv → GR PV) : PEnv → SR := fun ρ => match g ρ with
  | .ok p ρ' => match ρ'[i]? with
    | some (some (.obj true D ns vs)) => if D = C ∧ ns.length < 1000 then .nx (ρ'.set i (some (.obj true C (putN f ns) (putV f p ns vs)))) else .stk
    | _ => .stk
  | .exc x ρ' => .exc x ρ'
  | .stk => .stk
end
end RL
namespace RL
open PySem PySem.Spec PyProof.Rows L2
def makeM (C : Addr) (m : List PV → FR) (f : PEnv → GR (List Ag)) : PEnv → GR PV := fun ρ => (f ρ).bind fun as ρ1 => match takeA as ρ1 with
  | none => .stk
  | some (os, ρr) => match m (.obj true C [] [] :: os) with
    | .ok (.sc .non) (o' :: os') => .ok o' (putA as os' ρr)
    | .exc x (_ :: os') => .exc x (putA as os' ρr)
    | _ => .stk
end RL
namespace RL
open PySem PySem.Spec PyProof.Rows L2
end RL
namespace RL
open PySem PySem.Spec PyProof.Rows L2
def raiseG (C : Addr) (fld : Str) (f : PEnv → GR PV) : PEnv → SR := fun ρ => match f ρ with
  | .ok p ρ' => .exc ⟨C, [fld], [p]⟩ ρ'
  | .exc x ρ' => .exc x ρ'
  | .stk => .stk
end RL
namespace RL
open PySem PySem.Spec PyProof.Rows L2
/-- an exception of the body, caught and landed -/
structure Caught (X : Cx) (pins : List (Addr × Obj)) (σ : Sg) (H : Hp) (a : Addr) (B : Heap) (cls : Value) (d : Option Addr) (sI s : Shared) : Prop where
  inv : Inv X pins σ H sI
  gr : ∀ b o, sI.heap.get? b = some o → b ∉ frs X.stack → B.get? b = some o
  up : sI.heap.UpToSlots s.heap
  fl : HandSPX.FlyingZ B (X.env :: X.outer) a (Zc cls d) s.heap
  na : H a = none
  os : s.os = sI.os
  ag : AllBare s.gens
structure Cl where
  c : Value
  i : Option Nat
  ts : Addr → Value → Option Addr → TS
def AsOk (X : Cx) (n : Option Str) (i : Option Nat) : Prop := match n, i with
  | none, none => True
  | some n, some i => X.N[i]? = some n ∧ X.env.kindOf n = some .local
  | _, _ => False
inductive ClsOk (X : Cx) : List ExceptHandler → List Cl → Prop
  | nil : ClsOk X [] []
  | cons {x : Str} {n : Option Str} {k : Cl} {b₀ : Stmt} {suite : List Stmt} {np pos' : Pos} {hds : List ExceptHandler} {l : List Cl} (hc : Names X x k.c) (ha : AsOk X n k.i)
      (hsu : ∀ (a : Addr) (oe : Obj) (cls : Value) (d : Option Addr) (pn : List (Addr × Obj)), Zc cls d oe → (∃ vs, oe.data = .fields vs) → PSs (X.suite a ((a, oe) :: pn)) (b₀ :: suite) (k.ts a cls d)) (r : ClsOk X hds l) :
      ClsOk X (.ExceptHandler (some (.Name x np)) n (b₀ :: suite) pos' :: hds) (k :: l)
section
variable {X : Cx} {pins : List (Addr × Obj)} {σ : Sg} {H : Hp} {a : Addr} {B : Heap} {cls : Value} {d : Option Addr} {sI s : Shared} {D : Ends} {Wout : WX}
/-- where the exception stands -/
theorem Caught.at (c : Caught X pins σ H a B cls d sI s) (hs : X.stack = X.env :: X.outer) (hf : X.env.frame = some X.env.locals) :
    Inv X pins σ H s ∧ ∃ oe vs, s.heap.get? a = some oe ∧ Zc cls d oe ∧ oe.data = .fields vs ∧ a ≠ X.env.locals ∧ a ∉ X.fs := by
  have I : Inv X pins σ H s := c.inv.landed c.gr c.fl.1 c.up c.os c.ag
  obtain ⟨oe, vs, he, hz, hd⟩ := c.fl.there;have out : a ∉ frs (X.env :: X.outer) := fun hm => by
    obtain ⟨_, o', e', hnf⟩ := c.fl.2.2.1.mem hm;have : oe = o' := Option.some.inj (he.symm.trans e');exact hnf _ (this ▸ hd)
  refine ⟨I, oe, vs, he, hz, hd, fun z => out ?_, fun hm => ?_⟩
  · exact List.mem_filterMap.mpr ⟨X.env, by simp, by rw [hf, z]⟩
  · obtain ⟨e, h1, h2⟩ := List.mem_filterMap.mp hm;exact out (List.mem_filterMap.mpr ⟨e, by simp [h1], h2⟩)
end
end RL
namespace RL
noncomputable section
open PySem PySem.Spec PyProof.Rows L2
structure Hdl where
  c : Value
  i : Option Nat
  f : Addr → Exc → PEnv → SR
open Classical in
/-- what all addresses agree on -/
def uniS (f : Addr → SR) : SR := if h : ∃ r, ∀ a, f a = r then h.choose else .stk
def pgone (i : Option Nat) (ρ : PEnv) : PEnv := match i with
  | some i => ρ.set i none
  | none => ρ
def phas (i : Option Nat) (a : Addr) (ρ : PEnv) : PEnv := match i with
  | some i => ρ.set i (some (.sc (.ref a)))
  | none => ρ
def clr (i : Option Nat) : SR → SR
  | .nx ρ => .nx (pgone i ρ)
  | .rt p ρ => .rt p (pgone i ρ)
  | .bk ρ => .bk (pgone i ρ)
  | .ct ρ => .ct (pgone i ρ)
  | .exc _ _ => .stk
  | .stk => .stk
def tryL (K : Fg) (x : Exc) (ρ : PEnv) : List Hdl → SR
  | [] => .exc x ρ
  | k :: r => match PySem.W.exmOne K (.ref x.C) k.c with
    | some true => uniS fun a => clr k.i (k.f a x (phas k.i a ρ))
    | some false => tryL K x ρ r
    | none => .stk
def tryG (K : Fg) (b : PEnv → SR) (l : List Hdl) : PEnv → SR := fun ρ => match b ρ with
  | .exc x ρ' => tryL K x ρ' l
  | r => r
/-- the caught exception's attributes are at hand -/
def Jex (K : Fg) (J : Jx) (d : Option Addr) (x : Exc) : Jx := ⟨fun F => J.p F ∧ ExcAt K F F d x, fun F F' l h => ⟨J.mono F F' l h.1, by
  rcases h.2 with h | ⟨dd, vs, e, h, n, o⟩
  · exact .inl h
  · exact .inr ⟨dd, vs, e, l _ _ h, n, o.any l⟩⟩⟩
section
variable {K : Fg} {J : Jx} {W : WX} {P : List Nat} {σ : Sg} {H : Hp} {Q : VK} {F : Hp} {fp : List Addr} {D : Ends}
def Hdl.cl (K : Fg) (J : Jx) (P : List Nat) (k : Hdl) : Cl := ⟨k.c, k.i, fun a cls d => fun D σ H => ∃ x : Exc, cls = .ref x.C ∧ TSt K (Jex K J d x) RL.W0 P (k.f a x) D σ H⟩
end
/-- the clauses of a try -/
inductive HdlsOk (X : Cx) (J : Jx) (P : List Nat) : List ExceptHandler → List Hdl → Prop
  | nil : HdlsOk X J P [] []
  | cons {x : Str} {n : Option Str} {k : Hdl} {b₀ : Stmt} {suite : List Stmt} {np pos' : Pos} {hds : List ExceptHandler} {l : List Hdl} (hc : Names X x k.c) (ha : AsOk X n k.i) (hp : ∀ j, k.i = some j → j ∉ P)
      (hsu : ∀ (a : Addr) (oe : Obj) (d : Option Addr) (pn : List (Addr × Obj)) (x : Exc), Zc (.ref x.C) d oe → (∃ vs, oe.data = .fields vs) → RSs (X.suite a ((a, oe) :: pn)) (Jex X.K J d x) RL.W0 P (b₀ :: suite) (k.f a x)) (r : HdlsOk X J P hds l) :
      HdlsOk X J P (.ExceptHandler (some (.Name x np)) n (b₀ :: suite) pos' :: hds) (k :: l)
theorem HdlsOk.cls {X : Cx} {J : Jx} {P : List Nat} : ∀ {hds : List ExceptHandler} {l : List Hdl}, HdlsOk X J P hds l → ClsOk X hds (l.map (Hdl.cl X.K J P)) ∧ ∀ k ∈ l, ∀ j, k.i = some j → j ∉ P
  | _, _, .nil => ⟨.nil, fun _ h => nomatch h⟩
  | _, _, .cons hc ha hp hsu r => by
    obtain ⟨c, q⟩ := r.cls;refine ⟨.cons hc ha (fun a oe cls d pn hz hv => ⟨fun pins s σ H D I ⟨x, e, h⟩ => ?_⟩) c, fun k hk => ?_⟩
    · subst e;exact (hsu a oe d pn x hz hv).run pins s σ H D I h
    · rcases List.mem_cons.mp hk with e | e
      · rw [e]; exact hp
      · exact q k e
end
end RL
section
set_option maxHeartbeats 2000000
namespace RL
open PySem PySem.Spec PyProof.Rows L2
end RL
end
namespace RL
open PySem PySem.Spec PyProof.Rows L2
end RL
namespace RL
open PySem PySem.Spec PyProof.Rows L2
def starA (f : PEnv → ER PV) (g : PEnv → ER (List PV)) : PEnv → ER (List PV) := fun ρ => (f ρ).bind fun p => match seqK p with
  | some ps => (g ρ).bind fun qs => .ok (ps ++ qs)
  | none => .stk
def starG (f : PEnv → GR PV) (g : PEnv → GR (List PV)) : PEnv → GR (List PV) := fun ρ => (f ρ).bind fun p ρ1 => match seqK p with
  | some ps => (g ρ1).bind fun qs ρ2 => .ok (ps ++ qs) ρ2
  | none => .stk
def tyP (Cs : List Addr) : PV → Option Value
  | .sc .non => some (.type "NoneType")
  | .sc (.bl _) => some (.type "bool")
  | .sc (.int _) => some (.type "int")
  | .sc (.str _) => some (.type "str")
  | .tup _ => some (.type "tuple")
  | .lst _ _ => some (.type "list")
  | .lsk _ _ => some (.type "list")
  | .dct _ _ _ => some (.type "dict")
  | .obj _ C _ _ => if C ∈ Cs then some (.ref C) else none
  | _ => none
def clsV : V → Option Value
  | .ty n => some (.type n)
  | .ref C => some (.ref C)
  | _ => none
def isiA (K : Fg) (Cs : List Addr) : List PV → Option PV := fun ps => match ps with
  | [p, .sc c] => match tyP Cs p, clsV c with
    | some t, some u => (PySem.W.kitOne K t u).map PV.bl
    | _, _ => none
  | _ => none
/-- e.f, e in slot i -/
def xfE (C : Addr) (i : Nat) (a : Addr) (x : Exc) (f : Str) : PEnv → ER PV := fun ρ => match ρ[i]? with
  | some (some (.sc (.ref b))) => if b = a ∧ x.C = C then .of (lookN f x.ns x.ps) else .stk
  | _ => .stk
/-- isinstance(e, c) -/
def isxA (K : Fg) (Cs : List Addr) (a : Addr) (x : Exc) : List PV → Option PV := fun ps => match ps with
  | [.sc (.ref b), .sc c] => if b = a ∧ x.C ∈ Cs then (match clsV c with
    | some u => (PySem.W.kitOne K (.ref x.C) u).map PV.bl
    | none => none) else none
  | _ => none
end RL
namespace RL
open PySem PySem.Spec PyProof.Rows L2
mutual
/-- nothing is the list that is kept at a -/
def PV.noA (a : Addr) : PV → Bool
  | .sc _ => true
  | .tup xs => PV.noAs a xs
  | .lst _ xs => PV.noAs a xs
  | .lsk b xs => !(b == a) && PV.noAs a xs
  | .dct _ _ vs => PV.noAs a vs
  | .dtt _ _ vs => PV.noAs a vs
  | .dtb _ _ vs => PV.noAs a vs
  | .obj _ _ _ vs => PV.noAs a vs
  | .tpk vs => PV.noAs a vs
  | .exo _ _ vs => PV.noAs a vs
  | .tab _ _ => true
def PV.noAs (a : Addr) : List PV → Bool
  | [] => true
  | x :: xs => x.noA a && PV.noAs a xs
end
def noAE (a : Addr) : PEnv → Bool
  | [] => true
  | some p :: ρ => p.noA a && noAE a ρ
  | none :: ρ => noAE a ρ
end RL
namespace RL
open PySem PySem.Spec PyProof.Rows L2
def orP {α : Type} (g g' : PV → PV → Option α) : PV → PV → Option α := fun p q => match g p q with
  | some o => some o
  | none => g' p q
/-- a + b: numbers, lists, tuples -/
def addU : PV → PV → Option PV := orP (fun p q => (addI p q).map PV.sc) (orP catP tcatP)
def revP : PV → Option PV := fun p => match p with
  | .lst _ ps => if ps.all PV.fz = true then some (.lst true ps.reverse) else none
  | .lsk b ps => some (.lst true ps.reverse)
  | _ => none
end RL
namespace RL
open PySem PySem.Spec PyProof.Rows L2
def seqF : PV → Option (List PV)
  | .tup ps => some ps
  | .lst false ps => some ps
  | .lsk b ps => some ps
  | _ => none
section
variable {K : Fg} {J : Jx} {W : WX} {P : List Nat} {σ : Sg} {H : Hp} {Q : VK} {F : Hp} {fp : List Addr} {D : Ends}
def slG (fa : PEnv → GR PV) (fl fh : PEnv → ER (Option Int)) : PEnv → GR PV := fun ρ => (fa ρ).bind fun p ρ1 => ((fl ρ1).bind fun l => (fh ρ1).bind fun u => ER.of (slP p l u)).at ρ1
end
def oexB (K : Fg) (C : Addr) : Bool := (match K.lookup C with
  | some ⟨.type "type", _, .cls cd, sl⟩ => (match cd.mro, sl.toList with
    | .ref C' :: bm, [_, _, _, _, some (.builtin n), _] => decide (C' = C) && decide (n = "ValueError.__new__") && cd.hasDict && !cd.hasDel && PySem.HandSPX.refsVE bm
    | _, _ => false)
  | _ => false) && decide (PySem.W.findIn K (.ref C) "__setattr__" = some (some (.builtin "object.__setattr__"))) && decide (PySem.W.subIn K (.ref C) (.type "BaseException") = some true) && decide (PySem.W.typeIn K (.ref C) = some (.type "type")) && PySem.W.keepIn K (.ref C)
def dunB (K : Fg) (C : Addr) : Bool := decide (PySem.W.findIn K (.ref C) "__class__" = some (some (.builtin "object.__class__"))) && decide (PySem.W.specialIn K (.builtin "object.__class__") "__get__" = some (some (.builtin "getset_descriptor.__get__"))) &&
  decide (PySem.W.takesIn K (.builtin "object.__class__") = some true) && decide (PySem.W.mroIn K C (.type "object") = some true)
end RL
namespace RL
open PySem PySem.Spec PyProof.Rows L2
def SR.then (r : SR) (g : PEnv → SR) : SR := match r with
  | .nx ρ' => g ρ'
  | r => r
def GR.st {α : Type} (r : GR α) (g : α → PEnv → SR) : SR := match r with
  | .ok a ρ' => g a ρ'
  | .exc x ρ' => .exc x ρ'
  | .stk => .stk
def iteS (t e : PEnv → SR) (b : Bool) (ρ : PEnv) : SR := if b = true then t ρ else e ρ
def setK (i : Nat) (p : PV) (ρ : PEnv) : SR := .nx (ρ.set i (some p))
def dropK (p : PV) (ρ : PEnv) : SR := .nx ρ
def raiK (C : Addr) (fld : Str) (p : PV) (ρ : PEnv) : SR := .exc ⟨C, [fld], [p]⟩ ρ
def forK (g : PV → PEnv → Option PEnv) (b : PEnv → SR) (ps : List PV) (ρ : PEnv) : SR := forL g b ps ρ
def sixK (i : Nat) (fk : PEnv → GR PV) (q : PV) (ρ1 : PEnv) : SR := match ρ1[i]? with
    | some (some (.lst true _)) => match fk ρ1 with
      | .ok (.sc (.int k)) ρ2 => match ρ2[i]? with
        | some (some (.lst true ps)) => match ixN ps.length k with
          | some j => .nx (ρ2.set i (some (.lst true (ps.set j q))))
          | none => .stk
        | _ => .stk
      | .ok _ _ => .stk
      | .exc x ρ2 => .exc x ρ2
      | .stk => .stk
    | _ => .stk
def fldK (i : Nat) (C : Addr) (f : Str) (p : PV) (ρ' : PEnv) : SR := match ρ'[i]? with
  | some (some (.obj true D ns vs)) => if D = C ∧ ns.length < 1000 then .nx (ρ'.set i (some (.obj true C (putN f ns) (putV f p ns vs)))) else .stk
  | _ => .stk
section
variable {α β : Type} (a : α) (x : Exc) (ρ ρ' : PEnv) (p q : PV)
@[simp] theorem then_nx (g : PEnv → SR) : (SR.nx ρ).then g = g ρ := rfl
@[simp] theorem then_rt (g : PEnv → SR) : (SR.rt p ρ).then g = .rt p ρ := rfl
@[simp] theorem then_bk (g : PEnv → SR) : (SR.bk ρ).then g = .bk ρ := rfl
@[simp] theorem then_ct (g : PEnv → SR) : (SR.ct ρ).then g = .ct ρ := rfl
@[simp] theorem then_exc (g : PEnv → SR) : (SR.exc x ρ).then g = .exc x ρ := rfl
@[simp] theorem st_ok (g : α → PEnv → SR) : (GR.ok a ρ).st g = g a ρ := rfl
@[simp] theorem st_exc (g : α → PEnv → SR) : (GR.exc x ρ : GR α).st g = .exc x ρ := rfl
@[simp] theorem ebind_ok (f : α → ER β) : (ER.ok a).bind f = f a := rfl
@[simp] theorem ebind_exc (f : α → ER β) : (ER.exc x : ER α).bind f = .exc x := rfl
@[simp] theorem emap_ok (f : α → β) : (ER.ok a).map f = .ok (f a) := rfl
@[simp] theorem eat_ok : (ER.ok a).at ρ = .ok a ρ := rfl
@[simp] theorem eat_exc : (ER.exc x : ER α).at ρ = .exc x ρ := rfl
@[simp] theorem eof_some : ER.of (some a) = .ok a := rfl
@[simp] theorem gbind_ok (f : α → PEnv → GR β) : (GR.ok a ρ).bind f = f a ρ := rfl
@[simp] theorem gbind_exc (f : α → PEnv → GR β) : (GR.exc x ρ : GR α).bind f = .exc x ρ := rfl
@[simp] theorem seqS_e (f g : PEnv → SR) : seqS f g ρ = (f ρ).then g := rfl
@[simp] theorem setG_e (i : Nat) (g : PEnv → GR PV) : setG i g ρ = (g ρ).st (setK i) := by unfold setG GR.st setK; cases g ρ <;> rfl
@[simp] theorem setK_e (i : Nat) : setK i p ρ = .nx (ρ.set i (some p)) := rfl
@[simp] theorem retG_e (g : PEnv → GR PV) : retG g ρ = (g ρ).st .rt := by unfold retG GR.st; cases g ρ <;> rfl
@[simp] theorem dropG_e (g : PEnv → GR PV) : dropG g ρ = (g ρ).st dropK := by unfold dropG GR.st dropK; cases g ρ <;> rfl
@[simp] theorem dropK_e : dropK p ρ = .nx ρ := rfl
@[simp] theorem ifG_e (c : PEnv → GR Bool) (t e : PEnv → SR) : ifG c t e ρ = (c ρ).st (iteS t e) := by unfold ifG GR.st iteS; cases c ρ <;> rfl
@[simp] theorem iteS_t (t e : PEnv → SR) : iteS t e true ρ = t ρ := rfl
@[simp] theorem iteS_f (t e : PEnv → SR) : iteS t e false ρ = e ρ := rfl
@[simp] theorem raiseG_e (C : Addr) (fld : Str) (g : PEnv → GR PV) : raiseG C fld g ρ = (g ρ).st (raiK C fld) := by unfold raiseG GR.st raiK; cases g ρ <;> rfl
@[simp] theorem raiK_e (C : Addr) (fld : Str) : raiK C fld p ρ = .exc ⟨C, [fld], [p]⟩ ρ := rfl
@[simp] theorem forG_e (it : PEnv → GR (List PV)) (g : PV → PEnv → Option PEnv) (b : PEnv → SR) : forG it g b ρ = (it ρ).st (forK g b) := by unfold forG GR.st forK; cases it ρ <;> rfl
@[simp] theorem setIxG_e (i : Nat) (fk fv : PEnv → GR PV) : setIxG i fk fv ρ = (fv ρ).st (sixK i fk) := by unfold setIxG GR.st sixK; cases fv ρ <;> rfl
@[simp] theorem setFldG_e (i : Nat) (C : Addr) (f : Str) (g : PEnv → GR PV) : setFldG i C f g ρ = (g ρ).st (fldK i C f) := by unfold setFldG GR.st fldK; cases g ρ <;> rfl
@[simp] theorem fG_e (f : PEnv → ER PV) : fG f ρ = (f ρ).at ρ := rfl
@[simp] theorem vG_e (f : PEnv → ER PV) : vG f ρ = ((f ρ).bind chkF).at ρ := rfl
@[simp] theorem chkF_sc (v : V) : chkF (.sc v) = .ok (.sc v) := rfl
@[simp] theorem chkF_tup (xs : List PV) : chkF (.tup xs) = .ok (.tup xs) := rfl
@[simp] theorem chkF_lst (xs : List PV) : chkF (.lst false xs) = .ok (.lst false xs) := rfl
@[simp] theorem chkF_lsk (b : Addr) (xs : List PV) : chkF (.lsk b xs) = .ok (.lsk b xs) := rfl
@[simp] theorem chkF_obj (C : Addr) (ns : List Str) (xs : List PV) : chkF (.obj false C ns xs) = .ok (.obj false C ns xs) := rfl
@[simp] theorem frzE_e (f : PEnv → ER PV) : frzE f ρ = (f ρ).map PV.frz := rfl
def GR.fz (r : GR PV) : GR PV := match r with
  | .ok p ρ' => .ok p.frz ρ'
  | .exc x ρ' => .exc x ρ'
  | .stk => .stk
@[simp] theorem gfz_ok : (GR.ok p ρ).fz = .ok p.frz ρ := rfl
@[simp] theorem gfz_exc : (GR.exc x ρ : GR PV).fz = .exc x ρ := rfl
@[simp] theorem frzG_e (g : PEnv → GR PV) : frzG g ρ = (g ρ).fz := rfl
@[simp] theorem frz_sc (v : V) : (PV.sc v).frz = .sc v := by simp only [PV.frz]
@[simp] theorem frz_tup (xs : List PV) : (PV.tup xs).frz = .tup xs := by simp only [PV.frz]
@[simp] theorem frz_lsk (b : Addr) (xs : List PV) : (PV.lsk b xs).frz = .lsk b xs := by simp only [PV.frz]
@[simp] theorem frz_lst (o : Bool) (xs : List PV) : (PV.lst o xs).frz = .lst false (PV.frzL xs) := by simp only [PV.frz]
@[simp] theorem frz_obj (o : Bool) (C : Addr) (ns : List Str) (xs : List PV) : (PV.obj o C ns xs).frz = .obj false C ns (PV.frzL xs) := by simp only [PV.frz]
@[simp] theorem frzL_nil : PV.frzL [] = [] := by simp only [PV.frzL]
@[simp] theorem frzL_cons (xs : List PV) : PV.frzL (p :: xs) = p.frz :: PV.frzL xs := by simp only [PV.frzL]
@[simp] theorem frzL_ints (xs : List Int) : PV.frzL (xs.map PV.int) = xs.map PV.int := by induction xs with
  | nil => simp
  | cons x xs ih => simp [ih]
@[simp] theorem fz_sc (v : V) : (PV.sc v).fz = true := (rfl)
@[simp] theorem fz_tup (xs : List PV) : (PV.tup xs).fz = true := (rfl)
@[simp] theorem fz_lst (o : Bool) (xs : List PV) : (PV.lst o xs).fz = !o := (rfl)
@[simp] theorem fz_lsk (b : Addr) (xs : List PV) : (PV.lsk b xs).fz = true := (rfl)
@[simp] theorem fz_obj (o : Bool) (C : Addr) (ns : List Str) (xs : List PV) : (PV.obj o C ns xs).fz = !o := (rfl)
@[simp] theorem fz_ints (xs : List Int) : (xs.map PV.int).all PV.fz = true := by simp
@[simp] theorem nmE_0 (o : PV) (r : PEnv) : nmE 0 (some o :: r) = .ok o := rfl
@[simp] theorem nmE_s (i : Nat) (o : Option PV) (r : PEnv) : nmE (i + 1) (o :: r) = nmE i r := rfl
@[simp] theorem mvE_e {i : Nat} {ρ : PEnv} {p : PV} (h : ρ[i]? = some (some p)) : mvE i ρ = .ok p (ρ.set i none) := by unfold mvE; rw [h]
@[simp] theorem bind1_e (f : PEnv → ER PV) (g : PV → Option PV) : bind1 f g ρ = (f ρ).bind fun p => .of (g p) := rfl
@[simp] theorem bind1s_e (f : PEnv → ER PV) (g : PV → Option V) : bind1s f g ρ = (f ρ).bind fun p => .of ((g p).map PV.sc) := rfl
@[simp] theorem bind2_e (fa fb : PEnv → ER PV) (g : PV → PV → Option PV) : bind2 fa fb g ρ = (fa ρ).bind fun p => (fb ρ).bind fun q => .of (g p q) := rfl
@[simp] theorem bind2s_e (fa fb : PEnv → ER PV) (g : PV → PV → Option V) : bind2s fa fb g ρ = (fa ρ).bind fun p => (fb ρ).bind fun q => .of ((g p q).map PV.sc) := rfl
@[simp] theorem bind2b_e (fa fb : PEnv → ER PV) (g : PV → PV → Option Bool) : bind2b fa fb g ρ = (fa ρ).bind fun p => (fb ρ).bind fun q => .of (g p q) := rfl
@[simp] theorem bindA_e (f : PEnv → ER (List PV)) (g : List PV → Option PV) : bindA f g ρ = (f ρ).bind fun p => .of (g p) := rfl
@[simp] theorem consA_e (f : PEnv → ER PV) (g : PEnv → ER (List PV)) : consA f g ρ = (f ρ).bind fun p => (g ρ).bind fun ps => .ok (p :: ps) := rfl
@[simp] theorem bindG1_e (f : PEnv → GR PV) (g : PV → Option PV) : bindG1 f g ρ = (f ρ).bind fun p ρ1 => (ER.of (g p)).at ρ1 := rfl
@[simp] theorem bindG1s_e (f : PEnv → GR PV) (g : PV → Option V) : bindG1s f g ρ = (f ρ).bind fun p ρ1 => (ER.of ((g p).map PV.sc)).at ρ1 := rfl
def g2K (fb : PEnv → GR PV) (g : PV → PV → Option PV) (p : PV) (ρ1 : PEnv) : GR PV := (fb ρ1).bind fun q ρ2 => (ER.of (g p q)).at ρ2
def g2bK (fb : PEnv → GR PV) (g : PV → PV → Option Bool) (p : PV) (ρ1 : PEnv) : GR Bool := (fb ρ1).bind fun q ρ2 => (ER.of (g p q)).at ρ2
def g2sK (fb : PEnv → GR PV) (g : PV → PV → Option V) (p : PV) (ρ1 : PEnv) : GR PV := (fb ρ1).bind fun q ρ2 => (ER.of ((g p q).map PV.sc)).at ρ2
def consK (g : PEnv → GR (List PV)) (p : PV) (ρ1 : PEnv) : GR (List PV) := (g ρ1).bind fun ps ρ2 => .ok (p :: ps) ρ2
def vlK (g : PEnv → GR (List Ag)) (p : PV) (ρ1 : PEnv) : GR (List Ag) := (g ρ1).bind fun ps ρ2 => .ok (.vl p :: ps) ρ2
@[simp] theorem bindG2_e (fa fb : PEnv → GR PV) (g : PV → PV → Option PV) : bindG2 fa fb g ρ = (fa ρ).bind (g2K fb g) := rfl
@[simp] theorem g2K_e (fb : PEnv → GR PV) (g : PV → PV → Option PV) : g2K fb g p ρ = (fb ρ).bind fun q ρ2 => (ER.of (g p q)).at ρ2 := rfl
@[simp] theorem bindG2b_e (fa fb : PEnv → GR PV) (g : PV → PV → Option Bool) : bindG2b fa fb g ρ = (fa ρ).bind (g2bK fb g) := rfl
@[simp] theorem g2bK_e (fb : PEnv → GR PV) (g : PV → PV → Option Bool) : g2bK fb g p ρ = (fb ρ).bind fun q ρ2 => (ER.of (g p q)).at ρ2 := rfl
@[simp] theorem bindG2s_e (fa fb : PEnv → GR PV) (g : PV → PV → Option V) : bindG2s fa fb g ρ = (fa ρ).bind (g2sK fb g) := rfl
@[simp] theorem g2sK_e (fb : PEnv → GR PV) (g : PV → PV → Option V) : g2sK fb g p ρ = (fb ρ).bind fun q ρ2 => (ER.of ((g p q).map PV.sc)).at ρ2 := rfl
@[simp] theorem bindGA_e (f : PEnv → GR (List PV)) (g : List PV → Option PV) : bindGA f g ρ = (f ρ).bind fun p ρ1 => (ER.of (g p)).at ρ1 := rfl
@[simp] theorem consG_e (f : PEnv → GR PV) (g : PEnv → GR (List PV)) : consG f g ρ = (f ρ).bind (consK g) := rfl
@[simp] theorem consK_e (g : PEnv → GR (List PV)) : consK g p ρ = (g ρ).bind fun ps ρ2 => .ok (p :: ps) ρ2 := rfl
@[simp] theorem vlAg_e (f : PEnv → GR PV) (g : PEnv → GR (List Ag)) : vlAg f g ρ = (f ρ).bind (vlK g) := rfl
@[simp] theorem vlK_e (g : PEnv → GR (List Ag)) : vlK g p ρ = (g ρ).bind fun ps ρ2 => .ok (.vl p :: ps) ρ2 := rfl
@[simp] theorem iterI_e (f : PEnv → GR PV) (k : PV → Option (List PV)) : iterI f k ρ = (f ρ).bind fun p ρ' => (ER.of (k p)).at ρ' := rfl
@[simp] theorem iterA_e (f : PEnv → GR (List PV)) (k : List PV → Option (List PV)) : iterA f k ρ = (f ρ).bind fun p ρ' => (ER.of (k p)).at ρ' := rfl
@[simp] theorem truE_e (f : PEnv → ER PV) : truE f ρ = (f ρ).bind fun p => .of (truP p) := rfl
@[simp] theorem truG_e (f : PEnv → GR PV) : truG f ρ = (f ρ).bind fun p ρ1 => (ER.of (truP p)).at ρ1 := rfl
@[simp] theorem notE_e (c : PEnv → ER Bool) : notE c ρ = (c ρ).map fun b => !b := rfl
@[simp] theorem notG_e (c : PEnv → GR Bool) : notG c ρ = (c ρ).bind fun b ρ1 => .ok (!b) ρ1 := rfl
def andK (d : PEnv → ER Bool) (ρ : PEnv) (b : Bool) : ER Bool := if b = true then d ρ else .ok false
def orK (d : PEnv → ER Bool) (ρ : PEnv) (b : Bool) : ER Bool := if b = true then .ok true else d ρ
def andGK (d : PEnv → GR Bool) (b : Bool) (ρ : PEnv) : GR Bool := if b = true then d ρ else .ok false ρ
def orGK (d : PEnv → GR Bool) (b : Bool) (ρ : PEnv) : GR Bool := if b = true then .ok true ρ else d ρ
@[simp] theorem andB_e (c d : PEnv → ER Bool) : andB c d ρ = (c ρ).bind (andK d ρ) := rfl
@[simp] theorem orB_e (c d : PEnv → ER Bool) : orB c d ρ = (c ρ).bind (orK d ρ) := rfl
@[simp] theorem andG_e (c d : PEnv → GR Bool) : andG c d ρ = (c ρ).bind (andGK d) := rfl
@[simp] theorem orG_e (c d : PEnv → GR Bool) : orG c d ρ = (c ρ).bind (orGK d) := rfl
@[simp] theorem andK_t (d : PEnv → ER Bool) : andK d ρ true = d ρ := rfl
@[simp] theorem andK_f (d : PEnv → ER Bool) : andK d ρ false = .ok false := rfl
@[simp] theorem orK_t (d : PEnv → ER Bool) : orK d ρ true = .ok true := rfl
@[simp] theorem orK_f (d : PEnv → ER Bool) : orK d ρ false = d ρ := rfl
@[simp] theorem andGK_t (d : PEnv → GR Bool) : andGK d true ρ = d ρ := rfl
@[simp] theorem andGK_f (d : PEnv → GR Bool) : andGK d false ρ = .ok false ρ := rfl
@[simp] theorem orGK_t (d : PEnv → GR Bool) : orGK d true ρ = .ok true ρ := rfl
@[simp] theorem orGK_f (d : PEnv → GR Bool) : orGK d false ρ = d ρ := rfl
def andVK (g : PEnv → ER PV) (ρ : PEnv) (p : PV) : ER PV := boolK (fun b => if b = true then g ρ else .ok (.bl false)) p
@[simp] theorem andE_e (f g : PEnv → ER PV) : andE f g ρ = (f ρ).bind (andVK g ρ) := rfl
@[simp] theorem andVK_t (g : PEnv → ER PV) : andVK g ρ (.sc (.bl true)) = g ρ := rfl
@[simp] theorem andVK_f (g : PEnv → ER PV) : andVK g ρ (.sc (.bl false)) = .ok (.bl false) := rfl
@[simp] theorem i2_e (g : Int → Int → Option V) (i j : Int) : i2 g (.sc (.int i)) (.sc (.int j)) = g i j := rfl
@[simp] theorem i2b_e (g : Int → Int → Bool) (i j : Int) : i2b g (.sc (.int i)) (.sc (.int j)) = some (g i j) := rfl
@[simp] theorem u1_e (g : Int → V) (i : Int) : u1 g (.sc (.int i)) = some (g i) := rfl
@[simp] theorem addU_int (i j : Int) : addU (.sc (.int i)) (.sc (.int j)) = some (.sc (.int (i + j))) := rfl
@[simp] theorem addU_lst (o o' : Bool) (xs ys : List PV) (h : xs.all PV.fz = true) (h' : ys.all PV.fz = true) (hl : xs.length + ys.length < 100000) : addU (.lst o xs) (.lst o' ys) = some (.lst true (xs ++ ys)) := by
  have : catP (.lst o xs) (.lst o' ys) = some (.lst true (xs ++ ys)) := if_pos ⟨⟨h, h'⟩, hl⟩
  simp only [addU, orP, addI, i2, Option.map, this]
@[simp] theorem ixP_lst (o : Bool) (xs : List PV) (i : Int) : ixP (.lst o xs) (.sc (.int i)) = atI xs i := rfl
@[simp] theorem ixP_lsk (b : Addr) (xs : List PV) (i : Int) : ixP (.lsk b xs) (.sc (.int i)) = atI xs i := rfl
@[simp] theorem ixP_tup (xs : List PV) (i : Int) : ixP (.tup xs) (.sc (.int i)) = atI xs i := rfl
@[simp] theorem lenA_lst (o : Bool) (xs : List PV) : lenA [.lst o xs] = some (.sc (.int xs.length)) := rfl
@[simp] theorem lenA_lsk (b : Addr) (xs : List PV) : lenA [.lsk b xs] = some (.sc (.int xs.length)) := rfl
@[simp] theorem lenA_tup (xs : List PV) : lenA [.tup xs] = some (.sc (.int xs.length)) := rfl
@[simp] theorem intA_i (i : Int) : intA [.sc (.int i)] = some (.sc (.int i)) := rfl
@[simp] theorem intA_b (b : Bool) : intA [.sc (.bl b)] = some (.sc (.int (if b then 1 else 0))) := rfl
@[simp] theorem absA_i (i : Int) : absA [.sc (.int i)] = some (.sc (.int (if i < 0 then -i else i))) := rfl
@[simp] theorem eqP_int (i j : Int) : eqP (.sc (.int i)) (.sc (.int j)) = some (decide (i = j)) := rfl
@[simp] theorem truP_bl (b : Bool) : truP (.sc (.bl b)) = some b := rfl
end
end RL
namespace RL
open PySem PySem.Spec PyProof.Rows L2
def consO (p : PV) : Option (List PV × PEnv) → Option (List PV × PEnv)
  | some (os, ρ) => some (p :: os, ρ)
  | none => none
def frK (as : List Ag) (ρr : PEnv) : FR → GR PV
  | .ok r os' => .ok r (putA as os' ρr)
  | .exc x os' => .exc x (putA as os' ρr)
  | .stk => .stk
def tkK (m : List PV → FR) (as : List Ag) : Option (List PV × PEnv) → GR PV
  | some (os, ρr) => frK as ρr (m os)
  | none => .stk
def callK (m : List PV → FR) (as : List Ag) (ρ : PEnv) : GR PV := tkK m as (takeA as ρ)
def mkK2 (as : List Ag) (ρr : PEnv) : FR → GR PV
  | .ok (.sc .non) (o' :: os') => .ok o' (putA as os' ρr)
  | .exc x (_ :: os') => .exc x (putA as os' ρr)
  | _ => .stk
def mkK1 (C : Addr) (m : List PV → FR) (as : List Ag) : Option (List PV × PEnv) → GR PV
  | some (os, ρr) => mkK2 as ρr (m (.obj true C [] [] :: os))
  | none => .stk
def makeK (C : Addr) (m : List PV → FR) (as : List Ag) (ρ : PEnv) : GR PV := mkK1 C m as (takeA as ρ)
def plK (i : Nat) (as : List Ag) (ρ : PEnv) : Option (Option PV) → Option (List PV × PEnv)
  | some (some p) => consO p (takeA as (ρ.set i none))
  | _ => none
def plgK (i : Nat) (g : PEnv → GR (List Ag)) (ρ : PEnv) : Option (Option PV) → GR (List Ag)
  | some (some _) => (g ρ).bind fun ps ρ2 => .ok (.pl i :: ps) ρ2
  | _ => .stk
def mvK (i : Nat) (ρ : PEnv) : Option (Option PV) → GR PV
  | some (some p) => .ok p (ρ.set i none)
  | _ => .stk
def mK3 (i : Nat) (ρ : PEnv) : Option (PV × List PV) → GR PV
  | some (r, ps') => .ok r (ρ.set i (some (.lst true ps')))
  | none => .stk
def mK2 (i : Nat) (ρ : PEnv) (g : List PV → List PV → Option (PV × List PV)) (args : List PV) : Option (Option PV) → GR PV
  | some (some (.lst true ps)) => mK3 i ρ (g ps args)
  | _ => .stk
def mK1 (i : Nat) (g : List PV → List PV → Option (PV × List PV)) (args : List PV) (ρ : PEnv) : GR PV := mK2 i ρ g args (ρ[i]?)
def mK0 (i : Nat) (fA : PEnv → GR (List PV)) (g : List PV → List PV → Option (PV × List PV)) (ρ : PEnv) : Option (Option PV) → GR PV
  | some (some (.lst true _)) => (fA ρ).bind (mK1 i g)
  | _ => .stk
def ixK2 (ρ : PEnv) : Option PV → GR PV
  | some o => if o.fz = true then .ok o ρ else .stk
  | none => .stk
def ixK1 (q : PV) (ρ : PEnv) : Option (Option PV) → GR PV
  | some (some p) => ixK2 ρ (ixP p q)
  | _ => .stk
def ixK (i : Nat) (q : PV) (ρ : PEnv) : GR PV := ixK1 q ρ (ρ[i]?)
def ixK0 (i : Nat) (fb : PEnv → GR PV) (ρ : PEnv) : Option (Option PV) → GR PV
  | some (some _) => (fb ρ).bind (ixK i)
  | _ => .stk
section
variable (a : Int) (x : Exc) (ρ ρ' : PEnv) (p q r : PV) (i : Nat) (m : List PV → FR) (as : List Ag) (os : List PV)
@[simp] theorem consO_e : consO p (some (os, ρ)) = some (p :: os, ρ) := rfl
@[simp] theorem frK_ok : frK as ρ (.ok r os) = .ok r (putA as os ρ) := rfl
@[simp] theorem frK_exc : frK as ρ (.exc x os) = .exc x (putA as os ρ) := rfl
@[simp] theorem tkK_e : tkK m as (some (os, ρ)) = frK as ρ (m os) := rfl
@[simp] theorem callK_e : callK m as ρ = tkK m as (takeA as ρ) := rfl
@[simp] theorem callM_e (f : PEnv → GR (List Ag)) : callM m f ρ = (f ρ).bind (callK m) := by
  unfold callM;cases f ρ with
  | ok as ρ1 =>
    show (match takeA as ρ1 with
      | none => GR.stk
      | some (os, ρr) => match m os with
        | .ok r os' => .ok r (putA as os' ρr)
        | .exc x os' => .exc x (putA as os' ρr)
        | .stk => .stk) = tkK m as (takeA as ρ1)
    cases takeA as ρ1 with
    | none => rfl
    | some z => obtain ⟨os, ρr⟩ := z; simp only [tkK, frK]
  | _ => rfl
@[simp] theorem mkK2_ok : mkK2 as ρ (.ok (.sc .non) (r :: os)) = .ok r (putA as os ρ) := rfl
@[simp] theorem mkK2_exc : mkK2 as ρ (.exc x (r :: os)) = .exc x (putA as os ρ) := rfl
@[simp] theorem mkK1_e (C : Addr) : mkK1 C m as (some (os, ρ)) = mkK2 as ρ (m (.obj true C [] [] :: os)) := rfl
@[simp] theorem makeK_e (C : Addr) : makeK C m as ρ = mkK1 C m as (takeA as ρ) := rfl
@[simp] theorem makeM_e (C : Addr) (f : PEnv → GR (List Ag)) : makeM C m f ρ = (f ρ).bind (makeK C m) := by
  unfold makeM;cases f ρ with
  | ok as ρ1 =>
    simp only [GR.bind, makeK];cases takeA as ρ1 with
    | none => rfl
    | some z =>
      obtain ⟨os, ρr⟩ := z;simp only [mkK1];generalize m (PV.obj true C [] [] :: os) = y;cases y with
      | ok r os' =>
        cases r with
        | sc v => cases v <;> cases os' <;> rfl
        | _ => rfl
      | exc x os' => cases os' <;> rfl
      | stk => rfl
  | _ => rfl
@[simp] theorem takeA_nil : takeA [] ρ = some ([], ρ) := rfl
@[simp] theorem takeA_vl : takeA (.vl p :: as) ρ = consO p (takeA as ρ) := by
  show (match takeA as ρ with
    | some (os, ρ') => some (p :: os, ρ')
    | none => none) = _
  cases takeA as ρ <;> rfl
@[simp] theorem takeA_pl : takeA (.pl i :: as) ρ = plK i as ρ (ρ[i]?) := by
  unfold takeA plK;cases ρ[i]? with
  | none => rfl
  | some o => cases o with
    | none => rfl
    | some p => simp only []; cases takeA as (ρ.set i none) <;> rfl
@[simp] theorem plK_e : plK i as ρ (some (some p)) = consO p (takeA as (ρ.set i none)) := rfl
@[simp] theorem putA_nil : putA [] os ρ = ρ := by cases os <;> rfl
@[simp] theorem putA_vl : putA (.vl p :: as) (q :: os) ρ = putA as os ρ := rfl
@[simp] theorem putA_pl : putA (.pl i :: as) (q :: os) ρ = putA as os (ρ.set i (some q)) := rfl
@[simp] theorem plAg_e' (g : PEnv → GR (List Ag)) : plAg i g ρ = plgK i g ρ (ρ[i]?) := by
  unfold plAg plgK;cases ρ[i]? with
  | none => rfl
  | some o => cases o <;> rfl
@[simp] theorem plgK_e (g : PEnv → GR (List Ag)) : plgK i g ρ (some (some p)) = (g ρ).bind fun ps ρ2 => .ok (.pl i :: ps) ρ2 := rfl
@[simp] theorem mvE_e' : mvE i ρ = mvK i ρ (ρ[i]?) := by
  unfold mvE mvK;cases ρ[i]? with
  | none => rfl
  | some o => cases o <;> rfl
@[simp] theorem mvK_e : mvK i ρ (some (some p)) = .ok p (ρ.set i none) := rfl
@[simp] theorem mK3_e : mK3 i ρ (some (r, os)) = .ok r (ρ.set i (some (.lst true os))) := rfl
@[simp] theorem mK2_e (g : List PV → List PV → Option (PV × List PV)) (args : List PV) : mK2 i ρ g args (some (some (.lst true os))) = mK3 i ρ (g os args) := rfl
@[simp] theorem mK1_e (g : List PV → List PV → Option (PV × List PV)) (args : List PV) : mK1 i g args ρ = mK2 i ρ g args (ρ[i]?) := rfl
@[simp] theorem mK0_e (fA : PEnv → GR (List PV)) (g : List PV → List PV → Option (PV × List PV)) : mK0 i fA g ρ (some (some (.lst true os))) = (fA ρ).bind (mK1 i g) := rfl
@[simp] theorem mutE_e (fA : PEnv → GR (List PV)) (g : List PV → List PV → Option (PV × List PV)) : mutE i fA g ρ = mK0 i fA g ρ (ρ[i]?) := by
  unfold mutE mK0;generalize ρ[i]? = z
  rcases z with _ | _ | p
  · rfl
  · rfl
  · cases p with
    | lst o ps =>
      cases o with
      | false => rfl
      | true =>
        show (fA ρ).bind _ = (fA ρ).bind _
        refine congrArg (GR.bind (fA ρ)) ?_;funext args ρ1;unfold mK1 mK2;generalize ρ1[i]? = z;rcases z with _ | _ | p
        · rfl
        · rfl
        · cases p with
          | lst o ps =>
            cases o with
            | false => rfl
            | true => simp only; cases g ps args <;> rfl
          | _ => rfl
    | _ => rfl
@[simp] theorem ixG_e (fb : PEnv → GR PV) : ixG i fb ρ = ixK0 i fb ρ (ρ[i]?) := by
  unfold ixG ixK0;cases ρ[i]? with
  | none => rfl
  | some o => cases o with
    | none => rfl
    | some p =>
      cases fb ρ with
      | ok q ρ1 =>
        simp only [GR.bind];unfold ixK ixK1
        cases ρ1[i]? with
        | none => rfl
        | some o => cases o with
          | none => rfl
          | some p => first | (simp only [ixK2]; cases ixP p q <;> rfl) | simp only [ixK2]
      | _ => rfl
@[simp] theorem ixK0_e (fb : PEnv → GR PV) : ixK0 i fb ρ (some (some p)) = (fb ρ).bind (ixK i) := rfl
@[simp] theorem ixK_e : ixK i q ρ = ixK1 q ρ (ρ[i]?) := rfl
@[simp] theorem ixK1_e : ixK1 q ρ (some (some p)) = ixK2 ρ (ixP p q) := rfl
@[simp] theorem ixK2_sc (v : V) : ixK2 ρ (some (.sc v)) = .ok (.sc v) ρ := rfl
@[simp] theorem appA_e (h : p.fz = true) (hl : os.length < 100000) : appA os [p] = some (.non, os ++ [p]) := by
  unfold appA;simp only [h, hl, and_self, if_true]
end
end RL
namespace RL
open PySem PySem.Spec PyProof.Rows L2
end RL
namespace RL
open PySem PySem.Spec PyProof.Rows L2
/-- what an object of the class at C is walked as -/
def ownF (C : Addr) (fld : Str) : PV → Option (List PV)
  | .obj _ D ns vs => if D = C then (match lookN fld ns vs with
    | some (.tup ps) => some ps
    | _ => none) else none
  | _ => none
end RL
namespace RL
open PySem PySem.Spec PyProof.Rows L2
instance {a b : Int} : Decidable (RgOk a b) := by unfold RgOk; infer_instance
end RL
namespace RL
open PySem PySem.Spec PyProof.Rows L2
end RL
namespace RL
open PySem PySem.Spec PyProof.Rows L2
/-- keeps simp out of what follows -/
inductive Tg {α : Type} (a : α) : Type where
  | mk
structure KE (α : Type) where
  ok : α → Prop
  ex : Exc → Prop
structure KG (α : Type) where
  ok : α → PEnv → Prop
  ex : Exc → PEnv → Prop
structure KS where
  nx : PEnv → Prop
  rt : PV → PEnv → Prop
  bk : PEnv → Prop
  ct : PEnv → Prop
  ex : Exc → PEnv → Prop
structure KF where
  ok : PV → List PV → Prop
  ex : Exc → List PV → Prop
def wO {α : Type} (r : Option α) (k : α → Prop) (_ : Tg k) : Prop := match r with
  | some a => k a
  | none => False
def wE {α : Type} (r : ER α) (k : KE α) (_ : Tg k) : Prop := match r with
  | .ok a => k.ok a
  | .exc x => k.ex x
  | .stk => False
def wG {α : Type} (r : GR α) (k : KG α) (_ : Tg k) : Prop := match r with
  | .ok a ρ => k.ok a ρ
  | .exc x ρ => k.ex x ρ
  | .stk => False
def wS (r : SR) (k : KS) (_ : Tg k) : Prop := match r with
  | .nx ρ => k.nx ρ
  | .rt p ρ => k.rt p ρ
  | .bk ρ => k.bk ρ
  | .ct ρ => k.ct ρ
  | .exc x ρ => k.ex x ρ
  | .stk => False
def wF (r : FR) (k : KF) (_ : Tg k) : Prop := match r with
  | .ok p os => k.ok p os
  | .exc x os => k.ex x os
  | .stk => False
section
variable {α β : Type}
@[simp] theorem wO_some (a : α) (k : α → Prop) (t : Tg k) : wO (some a) k t = k a := rfl
@[simp] theorem wO_none (k : α → Prop) (t : Tg k) : wO none k t = False := rfl
@[simp] theorem wO_map (r : Option β) (f : β → α) (k : α → Prop) (t : Tg k) : wO (r.map f) k t = wO r (fun b => k (f b)) .mk := by cases r <;> rfl
@[simp] theorem wO_bind (r : Option β) (f : β → Option α) (k : α → Prop) (t : Tg k) : wO (r.bind f) k t = wO r (fun b => wO (f b) k t) .mk := by cases r <;> rfl
@[simp] theorem wO_ite (c : Prop) [Decidable c] (a : Option α) (k : α → Prop) (t : Tg k) : wO (if c then a else none) k t = (c ∧ wO a k t) := by
  by_cases h : c
  · simp [h]
  · simp [h]
@[simp] theorem wE_ok (a : α) (k : KE α) (t : Tg k) : wE (.ok a) k t = k.ok a := rfl
@[simp] theorem wE_exc (x : Exc) (k : KE α) (t : Tg k) : wE (.exc x) k t = k.ex x := rfl
@[simp] theorem wE_of (o : Option α) (k : KE α) (t : Tg k) : wE (.of o) k t = wO o k.ok .mk := by cases o <;> rfl
@[simp] theorem wE_bind (r : ER β) (f : β → ER α) (k : KE α) (t : Tg k) : wE (r.bind f) k t = wE r ⟨fun b => wE (f b) k t, k.ex⟩ .mk := by cases r <;> rfl
@[simp] theorem wE_map (r : ER β) (f : β → α) (k : KE α) (t : Tg k) : wE (r.map f) k t = wE r ⟨fun b => k.ok (f b), k.ex⟩ .mk := by cases r <;> rfl
@[simp] theorem wG_ok (a : α) (ρ : PEnv) (k : KG α) (t : Tg k) : wG (.ok a ρ) k t = k.ok a ρ := rfl
@[simp] theorem wG_exc (x : Exc) (ρ : PEnv) (k : KG α) (t : Tg k) : wG (.exc x ρ : GR α) k t = k.ex x ρ := rfl
@[simp] theorem wG_stk (k : KG α) (t : Tg k) : wG (.stk : GR α) k t = False := rfl
@[simp] theorem wG_at (r : ER α) (ρ : PEnv) (k : KG α) (t : Tg k) : wG (r.at ρ) k t = wE r ⟨fun a => k.ok a ρ, fun x => k.ex x ρ⟩ .mk := by cases r <;> rfl
@[simp] theorem wG_bind (r : GR β) (f : β → PEnv → GR α) (k : KG α) (t : Tg k) : wG (r.bind f) k t = wG r ⟨fun b ρ => wG (f b ρ) k t, k.ex⟩ .mk := by cases r <;> rfl
@[simp] theorem wG_fz (r : GR PV) (k : KG PV) (t : Tg k) : wG r.fz k t = wG r ⟨fun p ρ => k.ok p.frz ρ, k.ex⟩ .mk := by cases r <;> rfl
@[simp] theorem wE_chk (p : PV) (k : KE PV) (t : Tg k) : wE (chkF p) k t = (p.fz = true ∧ k.ok p) := by
  unfold chkF;by_cases h : p.fz = true
  · simp [h]
  · simp [h, wE]
@[simp] theorem wS_nx (ρ : PEnv) (k : KS) (t : Tg k) : wS (.nx ρ) k t = k.nx ρ := rfl
@[simp] theorem wS_rt (p : PV) (ρ : PEnv) (k : KS) (t : Tg k) : wS (.rt p ρ) k t = k.rt p ρ := rfl
@[simp] theorem wS_bk (ρ : PEnv) (k : KS) (t : Tg k) : wS (.bk ρ) k t = k.bk ρ := rfl
@[simp] theorem wS_ct (ρ : PEnv) (k : KS) (t : Tg k) : wS (.ct ρ) k t = k.ct ρ := rfl
@[simp] theorem wS_exc (x : Exc) (ρ : PEnv) (k : KS) (t : Tg k) : wS (.exc x ρ) k t = k.ex x ρ := rfl
@[simp] theorem wS_then (r : SR) (g : PEnv → SR) (k : KS) (t : Tg k) : wS (r.then g) k t = wS r ⟨fun ρ => wS (g ρ) k t, k.rt, k.bk, k.ct, k.ex⟩ .mk := by cases r <;> rfl
@[simp] theorem wS_st (r : GR α) (g : α → PEnv → SR) (k : KS) (t : Tg k) : wS (r.st g) k t = wG r ⟨fun a ρ => wS (g a ρ) k t, k.ex⟩ .mk := by cases r <;> rfl
@[simp] theorem wS_iteD (u e : PEnv → SR) (c : Prop) [Decidable c] (ρ : PEnv) (k : KS) (t : Tg k) : wS (iteS u e (decide c) ρ) k t = ((c → wS (u ρ) k t) ∧ (¬ c → wS (e ρ) k t)) := by by_cases h : c <;> simp [h]
@[simp] theorem iteS_not (t e : PEnv → SR) (b : Bool) (ρ : PEnv) : iteS t e (!b) ρ = iteS e t b ρ := by cases b <;> rfl
@[simp] theorem wG_andD (d : PEnv → GR Bool) (c : Prop) [Decidable c] (ρ : PEnv) (k : KG Bool) (t : Tg k) : wG (andGK d (decide c) ρ) k t = ((c → wG (d ρ) k t) ∧ (¬ c → k.ok false ρ)) := by by_cases h : c <;> simp [h]
@[simp] theorem wG_orD (d : PEnv → GR Bool) (c : Prop) [Decidable c] (ρ : PEnv) (k : KG Bool) (t : Tg k) : wG (orGK d (decide c) ρ) k t = ((¬ c → wG (d ρ) k t) ∧ (c → k.ok true ρ)) := by by_cases h : c <;> simp [h]
@[simp] theorem wE_andD (d : PEnv → ER Bool) (c : Prop) [Decidable c] (ρ : PEnv) (k : KE Bool) (t : Tg k) : wE (andK d ρ (decide c)) k t = ((c → wE (d ρ) k t) ∧ (¬ c → k.ok false)) := by by_cases h : c <;> simp [h]
@[simp] theorem wE_orD (d : PEnv → ER Bool) (c : Prop) [Decidable c] (ρ : PEnv) (k : KE Bool) (t : Tg k) : wE (orK d ρ (decide c)) k t = ((¬ c → wE (d ρ) k t) ∧ (c → k.ok true)) := by by_cases h : c <;> simp [h]
@[simp] theorem wF_ok (p : PV) (os : List PV) (k : KF) (t : Tg k) : wF (.ok p os) k t = k.ok p os := rfl
@[simp] theorem wF_exc (x : Exc) (os : List PV) (k : KF) (t : Tg k) : wF (.exc x os) k t = k.ex x os := rfl
@[simp] theorem wG_frK (as : List Ag) (ρ : PEnv) (r : FR) (k : KG PV) (t : Tg k) : wG (frK as ρ r) k t = wF r ⟨fun v os => k.ok v (putA as os ρ), fun x os => k.ex x (putA as os ρ)⟩ .mk := by cases r <;> rfl
/-- what a making must do: the new object is what the first argument has become -/
def mkOk (as : List Ag) (ρ : PEnv) (k : PV → PEnv → Prop) (v : PV) (os : List PV) : Prop := match v, os with
  | .sc .non, o :: os' => k o (putA as os' ρ)
  | _, _ => False
def mkEx (as : List Ag) (ρ : PEnv) (k : Exc → PEnv → Prop) (x : Exc) (os : List PV) : Prop := match os with
  | _ :: os' => k x (putA as os' ρ)
  | _ => False
@[simp] theorem mkOk_e (as : List Ag) (ρ : PEnv) (k : PV → PEnv → Prop) (o : PV) (os : List PV) : mkOk as ρ k (.sc .non) (o :: os) = k o (putA as os ρ) := rfl
@[simp] theorem mkEx_e (as : List Ag) (ρ : PEnv) (k : Exc → PEnv → Prop) (x : Exc) (o : PV) (os : List PV) : mkEx as ρ k x (o :: os) = k x (putA as os ρ) := rfl
@[simp] theorem wG_mkK2 (as : List Ag) (ρ : PEnv) (r : FR) (k : KG PV) (t : Tg k) : wG (mkK2 as ρ r) k t = wF r ⟨mkOk as ρ k.ok, mkEx as ρ k.ex⟩ .mk := by
  cases r with
  | ok v os =>
    cases v with
    | sc v => cases v <;> cases os <;> rfl
    | _ => rfl
  | exc x os => cases os <;> rfl
  | stk => rfl
/-- the parameters behind a def's end -/
def wB (r : Option (List PV)) (k : List PV → Prop) (_ : Tg k) : Prop := ∃ os, r = some os ∧ k os
@[simp] theorem wB_some (os : List PV) (k : List PV → Prop) (t : Tg k) : wB (some os) k t = k os := by simp [wB]
end
/-- back at the caller: kept parameters, frozen ones -/
@[simp] theorem backP_nil (P : List Nat) (i : Nat) (ρ : PEnv) : backP P i [] ρ = some [] := rfl
@[simp] theorem nmT_e (i : Nat) (p : PV) (ρ : PEnv) : nmT i p ρ = some (ρ.set i (some p)) := rfl
@[simp] abbrev iv (xs : List Int) : List PV := xs.map PV.int
@[simp] abbrev loP (xs : List Int) : PV := .lst true (iv xs)
@[simp] abbrev lfP (xs : List Int) : PV := .lst false (iv xs)
@[simp] abbrev tuP (xs : List Int) : PV := .tup (iv xs)
@[simp] theorem noA_sc (a : Addr) (v : V) : (PV.sc v).noA a = true := (rfl)
@[simp] theorem noA_tup (a : Addr) (xs : List PV) : (PV.tup xs).noA a = PV.noAs a xs := (rfl)
@[simp] theorem noA_lst (a : Addr) (o : Bool) (xs : List PV) : (PV.lst o xs).noA a = PV.noAs a xs := (rfl)
@[simp] theorem noA_obj (a : Addr) (o : Bool) (C : Addr) (ns : List Str) (xs : List PV) : (PV.obj o C ns xs).noA a = PV.noAs a xs := (rfl)
@[simp] theorem noA_dct (a : Addr) (o : Bool) (ks : List Key) (xs : List PV) : (PV.dct o ks xs).noA a = PV.noAs a xs := (rfl)
@[simp] theorem noA_dtt (a : Addr) (o : Bool) (ks : List (List Key)) (xs : List PV) : (PV.dtt o ks xs).noA a = PV.noAs a xs := (rfl)
@[simp] theorem noA_dtb (a : Addr) (o : Bool) (ks : List (Int × Bool)) (xs : List PV) : (PV.dtb o ks xs).noA a = PV.noAs a xs := (rfl)
@[simp] theorem noAs_nil (a : Addr) : PV.noAs a [] = true := (rfl)
@[simp] theorem noAs_cons' (a : Addr) (x : PV) (xs : List PV) : PV.noAs a (x :: xs) = (x.noA a && PV.noAs a xs) := (rfl)
@[simp] theorem noAE_nil (a : Addr) : noAE a [] = true := (rfl)
@[simp] theorem noAE_some (a : Addr) (p : PV) (ρ : PEnv) : noAE a (some p :: ρ) = (p.noA a && noAE a ρ) := (rfl)
@[simp] theorem noAE_none (a : Addr) (ρ : PEnv) : noAE a (none :: ρ) = noAE a ρ := (rfl)
theorem noAs_map {α : Type} {a : Addr} {f : α → PV} : ∀ {xs : List α}, (∀ x ∈ xs, (f x).noA a = true) → PV.noAs a (xs.map f) = true
  | [], _ => rfl
  | x :: xs, h => Bool.and_eq_true_iff.mpr ⟨h x List.mem_cons_self, noAs_map fun y hy => h y (List.mem_cons_of_mem _ hy)⟩
@[simp] theorem noAs_iv (a : Addr) (xs : List Int) : PV.noAs a (xs.map PV.int) = true := noAs_map fun _ _ => rfl
end RL
section
set_option maxHeartbeats 2000000
namespace RL
open PySem PySem.Spec PyProof.Rows L2
end RL
end
namespace RL
open PySem PySem.Spec PyProof.Rows L2
abbrev Pth := List (Addr × Str)
def RdP (H : Hp) : Pth → V → V → Prop
  | [], v, v' => v = v'
  | (C, f) :: π, v, v' => ∃ a dx fs u, v = .ref a ∧ H a = some (.ins C dx fs) ∧ fs.lookup f = some u ∧ RdP H π u v'
section
variable {K : Fg} {J : Jx} {W : WX} {P : List Nat} {σ : Sg} {H : Hp} {Q : VK} {F : Hp} {fp : List Addr} {D : Ends}
theorem keyB_of {P : Program} {w : World} {H : Hp} {h : Heap} {a : Addr} {k : Int × Bool} (ok : HOk P w H h) (e : H a = some (.tup [.int k.1, .bl k.2])) : (tupleKind (numKind P w)).is h (nbK k) a := by
  obtain ⟨_, its, r, o, h1, h2, n, h3⟩ := (show ObjOk P w H h a (.tup [.int k.1, .bl k.2]) from ok a _ e)
  refine ⟨o, its.toArray, n, h1, h2, h3, ?_⟩;cases r with
  | cons r1 r => cases r with
    | cons r2 r =>
      cases r;obtain ⟨t, rfl⟩ := r1
      cases r2;refine .cons ?_ (.cons ?_ .nil)
      · show numIs k.1 (.int k.1 t) = true
        simp [numIs]
      · show numIs (if k.2 then 1 else 0) (.bool k.2) = true
        simp [numIs]
abbrev KE3 := (Int × Bool) × Addr × V
def valB (kes : List KE3) (k : Int × Bool) : Option V := (kes.find? fun q => decide (q.1 = k)).map (·.2.2)
theorem valB_pos {q : KE3} {kes : List KE3} {k : Int × Bool} (e : q.1 = k) : valB (q :: kes) k = some q.2.2 := by simp [valB, List.find?_cons, e]
theorem valB_neg {q : KE3} {kes : List KE3} {k : Int × Bool} (e : ¬ q.1 = k) : valB (q :: kes) k = valB kes k := by simp [valB, List.find?_cons, e]
theorem KB.val {kes : List KE3} {xs : List (List Int × Addr × Value)} (r : KB kes xs) (k : Int × Bool) : RelO (valB kes k) ((atKey xs (nbK k)).map (·.2)) := by
  induction r with
  | nil => exact True.intro
  | @cons p q ps qs h t ih =>
    obtain ⟨h1, _, h2⟩ := h;by_cases e : p.1 = k
    · have e' : q.1 = nbK k := by rw [← h1, e]
      have b : atKey (q :: qs) (nbK k) = some q.2 := by simp [atKey, List.find?_cons, e']
      rw [valB_pos e, b]; exact h2
    · have e' : ¬ q.1 = nbK k := fun z => e (nbK_inj (h1.trans z))
      have b : atKey (q :: qs) (nbK k) = atKey qs (nbK k) := by simp [atKey, List.find?_cons, e']
      rw [valB_neg e, b]; exact ih
/-- the dict with its keys' tuples in the heap -/
theorem DB.dict {P : Program} {w : World} {H : Hp} {h : Heap} {a : Addr} {kes : List KE3} (ok : HOk P w H h) (d : DB a kes h) (kt : ∀ q ∈ kes, H q.2.1 = some (.tup [.int q.1.1, .bl q.1.2])) : kes.length ≤ sizeLine ∧ (a == sysModules) = false ∧
    ∃ xs, KB kes xs ∧ h.DictOfH (tupleKind (numKind P w)) a xs := by
  obtain ⟨z, y, xs, r, o, es, ep, h1, h2, h3, h4, h5⟩ := d;refine ⟨z, y, xs, r, o, es, ep, h1, h2, h3, h4, fun x hx => ?_, h5⟩
  have all : ∀ {l : List KE3} {m : List (List Int × Addr × Value)}, KB l m → (∀ q ∈ l, H q.2.1 = some (.tup [.int q.1.1, .bl q.1.2])) → ∀ x ∈ m, (tupleKind (numKind P w)).is h x.1 x.2.1 := by
    intro l m q;induction q with
    | nil => intro _ x hx; exact nomatch hx
    | @cons p q ps qs hq t ih =>
      intro kt x hx;rcases List.mem_cons.mp hx with e | hx
      · subst e;rw [← hq.1, ← hq.2.1]
        exact keyB_of ok (kt _ List.mem_cons_self)
      · exact ih (fun q hq => kt q (List.mem_cons_of_mem _ hq)) x hx
  exact all r kt x hx
/-- what the dict at a holds at the key y -/
def BGet (H : Hp) (a : Addr) (y : V) (r : Option V) : Prop := ∃ kes k b, Rd H a (.ext (DB a kes)) ∧ (∀ q ∈ kes, H q.2.1 = some (.tup [.int q.1.1, .bl q.1.2])) ∧ y = .ref b ∧ H b = some (.tup [.int k.1, .bl k.2]) ∧ r = valB kes k
end
end RL
namespace RL
open PySem PySem.Spec PyProof.Rows L2
section
variable {X : Cx} {pins : List (Addr × Obj)} {σ : L2.St} {H : Hp} {s : Shared} {a : Addr} {y v : V} {u r : Value} {o : Option V} {A : Around} {E : Value → Shared → Prop}
theorem BGet.dict (I : Inv X pins σ H s) (g : BGet H a y o) : ∃ k b xs, y = .ref b ∧ (tupleKind (numKind X.prog X.w)).is s.heap (nbK k) b ∧ (a == sysModules) = false ∧ s.heap.DictOfH (tupleKind (numKind X.prog X.w)) a xs ∧ RelO o ((atKey xs (nbK k)).map (·.2)) := by
  obtain ⟨kes, k, b, e, kt, ey, eb, rfl⟩ := g;have ext : ObjOk X.prog X.w H s.heap a (.ext (DB a kes)) := rd_of I.hok e;obtain ⟨z, hd, xs, rel, dd⟩ := DB.dict I.hok ext.1 kt
  exact ⟨k, b, xs, ey, keyB_of I.hok eb, hd, dd, rel.val k⟩
end
end RL
namespace RL
open PySem PySem.Spec PyProof.Rows L2
end RL
namespace RL
open PySem PySem.Spec PyProof.Rows L2
section
variable {K : Fg} {J : Jx} {W : WX} {P : List Nat} {σ : Sg} {H : Hp} {Q : VK} {F : Hp} {fp : List Addr} {D : Ends}
def asgK (g : PV → PEnv → Option PEnv) (p : PV) (ρ : PEnv) : SR := match g p ρ with
  | some ρ' => .nx ρ'
  | none => .stk
def asgG (g : PV → PEnv → Option PEnv) (f : PEnv → GR PV) : PEnv → SR := fun ρ => match f ρ with
  | .ok p ρ' => asgK g p ρ'
  | .exc x ρ' => .exc x ρ'
  | .stk => .stk
@[simp] theorem asgG_e (g : PV → PEnv → Option PEnv) (f : PEnv → GR PV) (ρ : PEnv) : asgG g f ρ = (f ρ).st (asgK g) := by unfold asgG GR.st; cases f ρ <;> rfl
@[simp] theorem wS_asgK (g : PV → PEnv → Option PEnv) (p : PV) (ρ : PEnv) (k : KS) (t : Tg k) : wS (asgK g p ρ) k t = wO (g p ρ) k.nx .mk := by unfold asgK; cases g p ρ <;> rfl
end
end RL
namespace RL
open PySem PySem.Spec PyProof.Rows L2
def parK (i j : Nat) (ps : List PV) (ρ : PEnv) : SR := match ps with
  | [p, q] => .nx ((ρ.set i (some p)).set j (some q))
  | _ => .stk
def parG (i j : Nat) (f : PEnv → GR (List PV)) : PEnv → SR := fun ρ => match f ρ with
  | .ok ps ρ' => parK i j ps ρ'
  | .exc x ρ' => .exc x ρ'
  | .stk => .stk
@[simp] theorem parG_e (i j : Nat) (f : PEnv → GR (List PV)) (ρ : PEnv) : parG i j f ρ = (f ρ).st (parK i j) := by unfold parG GR.st; cases f ρ <;> rfl
@[simp] theorem parK_e (i j : Nat) (p q : PV) (ρ : PEnv) : parK i j [p, q] ρ = .nx ((ρ.set i (some p)).set j (some q)) := rfl
end RL
namespace RL
open PySem PySem.Spec PyProof.Rows L2
section
variable {X : Cx} {C : Addr} {bmB : List Value} {B newId initId : String}
def raise0G (C : Addr) : PEnv → SR := fun ρ => .exc ⟨C, [], []⟩ ρ
@[simp] theorem raise0G_e (C : Addr) (ρ : PEnv) : raise0G C ρ = .exc ⟨C, [], []⟩ ρ := rfl
end
end RL
namespace RL
open PySem PySem.Spec PyProof.Rows L2
end RL
namespace RL
open PySem PySem.Spec PyProof.Rows L2 He
def pA (K : Fg) (C f : Str) : Addr := match PySem.W.recIn K (ma K (ga K C) f) "property" with
  | some (.ref g :: _) => g
  | _ => 0
def fnWa (K : Fg) (a : Addr) : FnW := match K.lookup a with
  | some ⟨_, _, .func fd, _⟩ => some (fd.name, fd.qualname, fd.params, fd.body, fd.scope, fd.globals, fd.closure, fd.builtins)
  | _ => none
abbrev PrD := (Str × Str) × DefD
end RL
namespace RL
open PySem PySem.Spec PyProof.Rows L2
def isnG (neg : Bool) (f : PEnv → GR PV) : PEnv → GR Bool := fun ρ => (f ρ).bind fun p ρ1 => (ER.of (isnB neg p)).at ρ1
@[simp] theorem isnG_e (neg : Bool) (f : PEnv → GR PV) (ρ : PEnv) : isnG neg f ρ = (f ρ).bind fun p ρ1 => (ER.of (isnB neg p)).at ρ1 := rfl
end RL
namespace RL
open PySem PySem.Spec PyProof.Rows L2
end RL
section
set_option maxHeartbeats 2000000
namespace RL
open PySem PySem.Spec PyProof.Rows L2
end RL
end
section
set_option maxHeartbeats 2000000
namespace RL
open PySem PySem.Spec PyProof.Rows L2
end RL
end
section
set_option maxHeartbeats 2000000
namespace RL
open PySem PySem.Spec PyProof.Rows L2
end RL
end
section
set_option maxHeartbeats 2000000
namespace RL
open PySem PySem.Spec PyProof.Rows L2
end RL
end
section
set_option maxHeartbeats 2000000
namespace RL
open PySem PySem.Spec PyProof.Rows L2
end RL
end
section
set_option maxHeartbeats 2000000
namespace RL
open PySem PySem.Spec PySem.Calls PyProof.Rows L2
end RL
end
namespace RL
open PySem PySem.Spec PyProof.Rows L2
end RL
namespace RL
open PySem PySem.Spec PyProof.Rows L2
end RL
namespace RL
open PySem PySem.Spec PyProof.Rows L2 RZ
end RL
namespace RL
open PySem PySem.Spec PyProof.Rows L2 He
def obsA (as : List Addr) (fa : List Fa) (fn : List DefD) (ex : Fg → Bool) (g : Addr → Option Obj) : AlX := (obsT fa fn [] (frT g as), ex (frT g as) && tabsB g [] (frT g as))
theorem saysA_of {as : List Addr} {fa : List Fa} {fn : List DefD} {ex : Fg → Bool} {w : World} {h : Heap} (e : obsA as fa fn ex h.get? = valX fn [] w) : SaysX fa fn [] [] ex w h (frT h.get? as) := by
  have e1 : obsT fa fn [] (frT h.get? as) = valT fn [] w := congrArg (fun z : AlX => z.1) e
  have e2 : (ex (frT h.get? as) && tabsB h.get? [] (frT h.get? as)) = true := congrArg (fun z : AlX => z.2) e
  obtain ⟨h1, h2⟩ := ba e2;exact ⟨e1, h1, fun p hp => absurd hp (by simp), fun p hp => absurd hp (by simp), fun p hp => absurd hp (by simp)⟩
def obsPA (as : List Addr) (ps : List PrD) (g : Addr → Option Obj) : List FnW := ps.map fun p => fnWa (frT g as) (pA (frT g as) p.1.1 p.1.2)
def hookA (as : List Addr) (fa : List Fa) (fn : List DefD) (ps : List PrD) (ex : Fg → Bool) : PySem.W.Hook where
  α := AlX × List FnW
  obs := fun s => (obsA as fa fn ex s.heap.get?, obsPA as ps s.heap.get?)
  val := fun w => (valX fn [] w, ps.map fun p => p.2.val)
  says := fun w h => ∃ K : PySem.W.Frag, K.In h ∧ SaysX fa fn [] [] ex w h K ∧ ps.map (fun p => fnWa K (pA K p.1.1 p.1.2)) = ps.map fun p => p.2.val
  of := fun _ s e => ⟨frT s.heap.get? as, frT_in, saysA_of (congrArg (fun z : AlX × List FnW => z.1) e), (congrArg (fun z : AlX × List FnW => z.2) e : obsPA as ps s.heap.get? = ps.map fun p => p.2.val)⟩
  keeps := fun _ _ _ ⟨K, hK, c, cp⟩ k => ⟨K, PySem.W.Frag.In.keeps hK k, ⟨c.t, c.more, c.hd, c.out, fun p hp => k _ _ (c.empty p hp)⟩, cp⟩
theorem obsA_eq {as : List Addr} {fa : List Fa} {fn : List DefD} {ps : List PrD} {ex : Fg → Bool} {g : Addr → Option Obj} {s : Shared} (h : ∀ a, g a = s.heap.get? a) : (obsA as fa fn ex g, obsPA as ps g) = (hookA as fa fn ps ex).obs s := by
  have e : g = s.heap.get? := funext h
  rw [e] <;> rfl
end RL
namespace RL
open PySem PySem.Spec PyProof.Rows L2
end RL
namespace RL
open PySem PySem.Spec PyProof.Rows L2
end RL
namespace RL
open PySem PySem.Spec PyProof.Rows L2
end RL
namespace RL
open PySem PySem.Spec PyProof.Rows L2
end RL
namespace RL
open PySem PySem.Spec PyProof.Rows L2
end RL
section
set_option maxHeartbeats 2000000
namespace RL
open PySem PySem.Spec PyProof.Rows L2
open L2H (RoomH PinOk cxH inv_startH)
end RL
namespace RL
end RL
end
namespace RL
open PySem PySem.Spec PyProof.Rows L2
end RL
namespace RL
open PySem PySem.Spec PyProof.Rows L2
section
variable {K : Fg} {J : Jx} {W : WX} {P : List Nat} {σ : Sg} {H : Hp} {Q : VK} {F : Hp} {fp : List Addr} {D : Ends}
/-- v' stands at j in the list v -/
def At2 (H : Hp) (j : Nat) (v v' : V) : Prop := ∃ a us, v = .ref a ∧ H a = some (.lst us) ∧ us[j]? = some v'
end
end RL
namespace RL
open PySem PySem.Spec PyProof.Rows L2
end RL
namespace RL
open PySem PySem.Spec PyProof.Rows L2
end RL
namespace RL
open PySem PySem.Spec PyProof.Rows L2
end RL
namespace RL
open PySem PySem.Spec PyProof.Rows L2
end RL
namespace RL
open PySem PySem.Spec PyProof.Rows L2
end RL
namespace RL
open PySem PySem.Spec PyProof.Rows L2
section
variable {K : Fg} {J : Jx} {W : WX} {P : List Nat} {σ : Sg} {H : Hp} {Q : VK} {F : Hp} {fp : List Addr} {D : Ends}
/-- the name of the part: v' stands at j in the list at slot i, and is slot r's value -/
def Al (i r j : Nat) (σ : Sg) (H : Hp) : Prop := ∃ v v', σ[i]? = some (some v) ∧ σ[r]? = some (some v') ∧ At2 H j v v'
theorem Al.set {i r j t : Nat} {x : Option V} (h : Al i r j σ H) (hi : i ≠ t) (hr : r ≠ t) : Al i r j (σ.set t x) H := by
  obtain ⟨v, v', a, b, c⟩ := h;exact ⟨v, v', by rw [List.getElem?_set_ne (Ne.symm hi)]; exact a, by rw [List.getElem?_set_ne (Ne.symm hr)]; exact b, c⟩
end
end RL
namespace RL
open PySem PySem.Spec PyProof.Rows L2
end RL
namespace RL
open PySem PySem.Spec PyProof.Rows L2
end RL
namespace RL
open PySem PySem.Spec PyProof.Rows L2
end RL
section
set_option maxHeartbeats 2000000
namespace RL
open PySem PySem.Spec PyProof.Rows L2
end RL
end
namespace RL
open PySem PySem.Spec PyProof.Rows L2
end RL
namespace RL
open PySem PySem.Spec PyProof.Rows L2
end RL
section
set_option maxHeartbeats 2000000
namespace L2
open PySem PySem.Spec PyProof.Rows
end L2
namespace RL
open PySem PySem.Spec PyProof.Rows L2
end RL
end
namespace RL
open PySem PySem.Spec PyProof.Rows L2
end RL
namespace RL
open PySem PySem.Spec PyProof.Rows L2
end RL
namespace RL
open PySem PySem.Spec PyProof.Rows L2
end RL
namespace RL
open PySem PySem.Spec PyProof.Rows L2
end RL
namespace RL
open PySem PySem.Spec PyProof.Rows L2
end RL
namespace RL
open PySem PySem.Spec PyProof.Rows L2
end RL
namespace RL
open PySem PySem.Spec PyProof.Rows L2
end RL
namespace RL
open PySem PySem.Spec PyProof.Rows L2
end RL
namespace RG
open PySem PySem.Spec PyProof.Rows L2
open Sem (wp)
/-- asleep amid its body -/
def susp : GenState → Bool
  | .suspended .. => true
  | _ => false
/-- it looks the same, it cannot be woken -/
def psn : GenState → GenState
  | .suspended _ l c p fs cl => .suspended (fun _ => .unsupported "") l c p fs cl
  | x => x
def isGen : Frame → Bool
  | .gen .. => true
  | _ => false
/-- no frame of a waker among these -/
def nog (fs : List Frame) : Prop := ∀ F ∈ fs, isGen F = false
def nogS : GenState → Prop
  | .suspended _ _ _ _ fs _ => nog fs
  | _ => True
def nogE : End → Prop
  | .susp _ _ _ _ _ _ fs => nog fs
  | .ret _ => True
theorem nogE.gen {e : End} (h : nogE e) : nogS e.genState := by cases e <;> exact h
/-- two tables: what slept at the start (G0) is put out of use in the first, and stands as it was in the second; all else is alike -/
structure Tw (G0 Ga Gb : Array GenState) : Prop where
  size : Ga.size = Gb.size
  le : G0.size ≤ Ga.size
  at_ : ∀ i : Nat, (∃ st : GenState, G0[i]? = some st ∧ susp st = true ∧ Ga[i]? = some (psn st) ∧ Gb[i]? = some st) ∨ ((∀ st : GenState, G0[i]? = some st → susp st = false) ∧ Ga[i]? = Gb[i]? ∧ ∀ st : GenState, Ga[i]? = some st → nogS st)
section
variable {G0 Ga Gb : Array GenState}
/-- a generator that does not sleep since the start is set alike -/
theorem Tw.set {g : Nat} {x : GenState} (h : Tw G0 Ga Gb) (hg : ∀ st, G0[g]? = some st → susp st = false) (hx : nogS x) : Tw G0 (Ga.setIfInBounds g x) (Gb.setIfInBounds g x) := by
  refine ⟨by simp [h.size], by simpa using h.le, fun i => ?_⟩
  by_cases hi : g = i
  · subst hi;refine .inr ⟨hg, ?_, fun st z => ?_⟩
    · rw [Array.getElem?_setIfInBounds, Array.getElem?_setIfInBounds, h.size];by_cases c : g < Gb.size <;> simp [c]
    · rw [Array.getElem?_setIfInBounds] at z;by_cases c : g < Ga.size
      · simp [c] at z; rw [← z]; exact hx
      · simp [c] at z
  · rw [Array.getElem?_setIfInBounds_ne hi, Array.getElem?_setIfInBounds_ne hi];exact h.at_ i
end
end RG
namespace RG
open PySem PySem.Spec PyProof.Rows L2 RL GenW
theorem Inv.gens {X : Cx} {pins : List (Addr × Obj)} {σ : L2.St} {H : Hp} {s : Shared} {G : Array GenState} (I : Inv X pins σ H s) (h : AllBare G) : Inv X pins σ H { s with gens := G } :=
  ⟨I.ok, I.os, h, I.base, I.loc, I.cell, I.free, I.freeC, I.pin, I.hok, I.len⟩
def rawO (o : Obj) : HO := .frz o (.ext fun _ => True)
structure Pv (p : Addr → Bool) (L : Nat) (s : Shared) (H : Hp) : Prop where
  no : ∀ b, p b = true → H b = none
  ge : ∀ b, p b = true → L ≤ b
  th : ∀ b, p b = true → ∃ o, s.heap.get? b = some o
/-- raw at p -/
def Rw (p : Addr → Bool) (H : Hp) : Prop := ∀ b, p b = true → ∃ o, H b = some (rawO o)
section
variable {p : Addr → Bool} {L : Nat} {s : Shared} {H F : Hp} {b : Addr} {o : HO}
theorem Pv.out (v : Pv p L s H) (e : H b = some o) : ¬ p b = true := fun hb => by rw [v.no b hb] at e; cases e
theorem Rw.out (r : Rw p F) (e : F b = some o) (h : ∀ ob, o ≠ rawO ob) : ¬ p b = true := fun hb => by
  obtain ⟨ob, q⟩ := r b hb;rw [e] at q; cases q; exact h ob rfl
theorem Rw.mono {F' : Hp} (r : Rw p F) (h : HLe F F') : Rw p F' := fun b hb => let ⟨ob, e⟩ := r b hb; ⟨ob, h b _ e⟩
end
end RG
section
set_option maxHeartbeats 2000000
namespace RL
open PySem PySem.Spec PyProof.Rows L2
end RL
end
section
set_option maxHeartbeats 2000000
namespace RL
open PySem PySem.Spec PyProof.Rows L2
end RL
end
section
set_option maxHeartbeats 2000000
namespace RL
open PySem PySem.Spec PyProof.Rows L2
end RL
end
namespace RL
open PySem PySem.Spec PyProof.Rows L2
end RL
section
set_option maxHeartbeats 2000000
namespace RL
open PySem PySem.Spec PyProof.Rows L2
end RL
end
section
set_option maxHeartbeats 2000000
namespace RL
open PySem PySem.Spec PyProof.Rows L2
end RL
end
section
set_option maxHeartbeats 2000000
namespace RL
open PySem PySem.Spec PyProof.Rows L2
open PySem.SeqAt (pairEq EqAt eqAt_readsAll room_in room_here)
end RL
end
section
set_option maxHeartbeats 2000000
namespace RL
open PySem PySem.Spec PyProof.Rows L2
section
variable {X : Cx} {K : Fg} {C : Addr} {mm : List PV → FR} {ps : List Str} {j k : Nat}
/-- two own objects of which the own == says that they are equal -/
def REq (K : Fg) (C : Addr) (mm : List PV → FR) (a b : Addr) (H : Hp) : Prop := ∃ F ns vs ns' vs' os', HLe F H ∧ Ow K F H (.ref a) (.obj false C ns vs) [] ∧ Ow K F H (.ref b) (.obj false C ns' vs') [] ∧ mm [.obj false C ns vs, .obj false C ns' vs'] = .ok (.sc (.bl true)) os'
theorem REq.ext {a b : Addr} {H H' : Hp} (e : Ext H H') (h : REq K C mm a b H) : REq K C mm a b H' := by
  obtain ⟨F, ns, vs, ns', vs', os', le, o1, o2, em⟩ := h;have e : HLe H H' := e;exact ⟨F, ns, vs, ns', vs', os', le.trans e, o1.mono .refl (fun _ z => nomatch z), o2.mono .refl (fun _ z => nomatch z), em⟩
end
end RL
end
section
set_option maxHeartbeats 2000000
namespace RL
open PySem PySem.Spec PyProof.Rows L2
end RL
end
section
set_option maxHeartbeats 2000000
namespace RL
open PySem PySem.Spec PyProof.Rows L2
end RL
end
section
set_option maxHeartbeats 2000000
namespace RL
open PySem PySem.Spec PyProof.Rows L2
end RL
end
section
set_option maxHeartbeats 2000000
namespace L2
open PySem PySem.Spec PySem.Calls PyProof.Rows
end L2
namespace RL
open PySem PySem.Spec PyProof.Rows L2
end RL
end
section
set_option maxHeartbeats 2000000
namespace L2
open PySem PySem.Spec PyProof.Rows
end L2
namespace RL
open PySem PySem.Spec PyProof.Rows L2
end RL
namespace RL
open PySem PySem.Spec PyProof.Rows L2
end RL
namespace RL
open PySem PySem.Spec PyProof.Rows L2
end RL
namespace L2
open PySem PySem.Spec PyProof.Rows
end L2
namespace RL
open PySem PySem.Spec PyProof.Rows L2
end RL
end
section
set_option maxHeartbeats 2000000
namespace RL
open PySem PySem.Spec PyProof.Rows L2
end RL
namespace RL
open PySem PySem.Spec PyProof.Rows L2
end RL
end
namespace L2
open PySem PySem.Spec PyProof.Rows
end L2
namespace RL
open PySem PySem.Spec PyProof.Rows L2
end RL
section
set_option maxHeartbeats 2000000
namespace RL
open PySem PySem.Spec PyProof.Rows L2
end RL
end
section
set_option maxHeartbeats 2000000
namespace RL
open PySem PySem.Spec PyProof.Rows L2
end RL
end
section
set_option maxHeartbeats 2000000
namespace L2
open PySem PySem.Spec PyProof.Rows
end L2
namespace RL
open PySem PySem.Spec PyProof.Rows L2
end RL
end
section
set_option maxHeartbeats 2000000
namespace RL
open PySem PySem.Spec PyProof.Rows L2
end RL
end
section
set_option maxHeartbeats 2000000
namespace RL
open PySem PySem.Spec PyProof.Rows L2
theorem RdP.same {H H1 : Hp} (le : HLe H H1) : ∀ {π : Pth} {v v' w' : V}, RdP H π v v' → RdP H1 π v w' → v' = w'
  | [], _, _, _, h1, h2 => h1.symm.trans h2
  | (C, f) :: π, v, v', w', h1, h2 => by
    obtain ⟨b, dx, fs, u, rfl, hb, hl, h1⟩ := h1;obtain ⟨b', dx', fs', u', eb, hb', hl', h2⟩ := h2;cases eb;have := le _ _ hb;rw [hb'] at this;cases this;rw [hl] at hl'
    cases hl';exact RdP.same le h1 h2
end RL
end
section
set_option maxHeartbeats 2000000
namespace RL
open PySem PySem.Spec PyProof.Rows L2
end RL
end
section
set_option maxHeartbeats 2000000
namespace RL
open PySem PySem.Spec PyProof.Rows L2
end RL
end
section
set_option maxHeartbeats 2000000
namespace RL
open PySem PySem.Spec PyProof.Rows L2
end RL
end
section
set_option maxHeartbeats 2000000
namespace RL
open PySem PySem.Spec PyProof.Rows L2
end RL
end
section
set_option maxHeartbeats 2000000
namespace RL
open PySem PySem.Spec PyProof.Rows L2
end RL
end
section
set_option maxHeartbeats 2000000
namespace PySem.W
open Lean Elab Tactic Meta PySem PySem.Calls PyProof.Rows
end PySem.W
namespace RL
open PySem PySem.Spec PyProof.Rows L2
end RL
end
section
set_option maxHeartbeats 2000000
namespace RL
open PySem PySem.Spec PyProof.Rows L2
end RL
end
section
set_option maxHeartbeats 2000000
namespace RL
open PySem PySem.Spec PyProof.Rows L2
end RL
end
section
set_option maxHeartbeats 2000000
namespace RL
open PySem PySem.Spec PyProof.Rows L2
end RL
namespace RL
open PySem PySem.Spec PyProof.Rows L2
end RL
end
namespace RL
open PySem PySem.Spec PyProof.Rows L2
@[simp high] theorem len_n {α : Type} : ([] : List α).length = 0 := (rfl)
@[simp high] theorem len_c {α : Type} (x : α) (xs : List α) : (x :: xs).length = xs.length + 1 := (rfl)
@[simp high] theorem all_n {α : Type} (p : α → Bool) : ([] : List α).all p = true := (rfl)
@[simp high] theorem all_c {α : Type} (p : α → Bool) (x : α) (xs : List α) : (x :: xs).all p = (p x && xs.all p) := (rfl)
@[simp high] theorem gq_0 {α : Type} (x : α) (xs : List α) : (x :: xs)[0]? = some x := (rfl)
@[simp high] theorem gq_s {α : Type} (x : α) (xs : List α) (i : Nat) : (x :: xs)[i + 1]? = xs[i]? := (rfl)
structure Eq2 {α : Type} (n : Nat) (f g : α → PV) (dc : DecidableEq α) : Prop where
  okl : ∀ a, okD n (f a) = true
  okr : ∀ a, okD n (g a) = true
  eq : ∀ a b, eqD n (f a) (g b) = @decide (a = b) (dc a b)
theorem Eq2.int (n : Nat) : Eq2 n PV.int PV.int inferInstance := ⟨fun _ => by cases n <;> rfl, fun _ => by cases n <;> rfl, fun _ _ => by cases n <;> rfl⟩
theorem Eq2.bl (n : Nat) : Eq2 n PV.bl PV.bl inferInstance := ⟨fun _ => by cases n <;> rfl, fun _ => by cases n <;> rfl, fun a b => by cases n <;> cases a <;> cases b <;> rfl⟩
section
variable {α β : Type} [dc : DecidableEq α] [dcb : DecidableEq β] {n : Nat} {f g : α → PV} {f' g' : β → PV}
theorem eqDL_map (h : Eq2 n f g dc) : ∀ xs ys : List α, eqDL (eqD n) (xs.map f) (ys.map g) = decide (xs = ys)
  | [], [] => by simp [eqDL]
  | [], _ :: _ => by simp [eqDL]
  | _ :: _, [] => by simp [eqDL]
  | x :: xs, y :: ys => by
    show (eqD n (f x) (g y) && eqDL (eqD n) (xs.map f) (ys.map g)) = _
    rw [h.eq, eqDL_map h xs ys];by_cases h1 : x = y <;> by_cases h2 : xs = ys <;> simp [h1, h2]
theorem okD_map {f : α → PV} (h : ∀ a, okD n (f a) = true) (xs : List α) : (xs.map f).all (okD n) = true := by
  rw [List.all_map, List.all_eq_true];intro x _
  exact h x
theorem Eq2.ll (h : Eq2 n f g dc) (o o' : Bool) : Eq2 (n + 1) (fun xs : List α => .lst o (xs.map f)) (fun xs => .lst o' (xs.map g)) inferInstance :=
  ⟨fun xs => okD_map h.okl xs, fun xs => okD_map h.okr xs, fun xs ys => eqDL_map h xs ys⟩
theorem Eq2.tt (h : Eq2 n f g dc) : Eq2 (n + 1) (fun xs : List α => .tup (xs.map f)) (fun xs => .tup (xs.map g)) inferInstance :=
  ⟨fun xs => okD_map h.okl xs, fun xs => okD_map h.okr xs, fun xs ys => eqDL_map h xs ys⟩
theorem Eq2.kl (h : Eq2 n f g dc) (a : Addr) (o' : Bool) : Eq2 (n + 1) (fun xs : List α => .lsk a (xs.map f)) (fun xs => .lst o' (xs.map g)) inferInstance :=
  ⟨fun xs => okD_map h.okl xs, fun xs => okD_map h.okr xs, fun xs ys => eqDL_map h xs ys⟩
theorem Eq2.lk (h : Eq2 n f g dc) (a : Addr) (o' : Bool) : Eq2 (n + 1) (fun xs : List α => .lst o' (xs.map f)) (fun xs => .lsk a (xs.map g)) inferInstance :=
  ⟨fun xs => okD_map h.okl xs, fun xs => okD_map h.okr xs, fun xs ys => eqDL_map h xs ys⟩
theorem Eq2.kk (h : Eq2 n f g dc) (a b : Addr) : Eq2 (n + 1) (fun xs : List α => .lsk a (xs.map f)) (fun xs => .lsk b (xs.map g)) inferInstance :=
  ⟨fun xs => okD_map h.okl xs, fun xs => okD_map h.okr xs, fun xs ys => eqDL_map h xs ys⟩
theorem Eq2.eqP (h : Eq2 dN f g dc) (a b : α) : eqP (f a) (g b) = some (decide (a = b)) := by
  unfold RL.eqP;rw [if_pos ⟨h.okl a, h.okr b⟩, h.eq]
theorem Eq2.neP (h : Eq2 dN f g dc) (a b : α) : neP (f a) (g b) = some (!decide (a = b)) := by
  unfold RL.neP;rw [if_pos ⟨h.okl a, h.okr b⟩, h.eq]
theorem any_map (h : Eq2 dN f g dc) (x : α) : ∀ xs : List α, (xs.map f).any (fun z => eqD dN z (g x)) = decide (x ∈ xs)
  | [] => by simp
  | y :: ys => by
    show (eqD dN (f y) (g x) || (ys.map f).any (fun z => eqD dN z (g x))) = _
    rw [h.eq, any_map h x ys];by_cases h1 : x = y
    · subst h1; simp
    · have h2 : ¬ y = x := fun z => h1 z.symm
      simp [h1, h2]
theorem Eq2.inP (h : Eq2 dN f g dc) (neg : Bool) (x : α) (q : PV) (xs : List α) (e : seqK q = some (xs.map f)) : inP neg (g x) q = some (if neg then !decide (x ∈ xs) else decide (x ∈ xs)) := by
  unfold RL.inP;rw [e]
  show (if _ then _ else _) = _
  rw [if_pos ⟨h.okr x, okD_map h.okl xs⟩, any_map h]
end
section
variable (xs ys : List Int) (x : Int) (o o' : Bool) (a b : Addr)
@[simp] theorem eqP_ll : eqP (.lst o (xs.map PV.int)) (.lst o' (ys.map PV.int)) = some (decide (xs = ys)) := ((Eq2.int 5).ll o o').eqP xs ys
@[simp] theorem eqP_tt : eqP (.tup (xs.map PV.int)) (.tup (ys.map PV.int)) = some (decide (xs = ys)) := ((Eq2.int 5).tt).eqP xs ys
@[simp] theorem eqP_kl : eqP (.lsk a (xs.map PV.int)) (.lst o' (ys.map PV.int)) = some (decide (xs = ys)) := ((Eq2.int 5).kl a o').eqP xs ys
@[simp] theorem eqP_lk : eqP (.lst o (xs.map PV.int)) (.lsk a (ys.map PV.int)) = some (decide (xs = ys)) := ((Eq2.int 5).lk a o).eqP xs ys
@[simp] theorem eqP_kk : eqP (.lsk b (xs.map PV.int)) (.lsk a (ys.map PV.int)) = some (decide (xs = ys)) := ((Eq2.int 5).kk b a).eqP xs ys
@[simp] theorem neP_ll : neP (.lst o (xs.map PV.int)) (.lst o' (ys.map PV.int)) = some (!decide (xs = ys)) := ((Eq2.int 5).ll o o').neP xs ys
@[simp] theorem neP_tt : neP (.tup (xs.map PV.int)) (.tup (ys.map PV.int)) = some (!decide (xs = ys)) := ((Eq2.int 5).tt).neP xs ys
@[simp] theorem neP_kl : neP (.lsk a (xs.map PV.int)) (.lst o' (ys.map PV.int)) = some (!decide (xs = ys)) := ((Eq2.int 5).kl a o').neP xs ys
@[simp] theorem neP_lk : neP (.lst o (xs.map PV.int)) (.lsk a (ys.map PV.int)) = some (!decide (xs = ys)) := ((Eq2.int 5).lk a o).neP xs ys
@[simp] theorem eqP_ln : eqP (.lst o (xs.map PV.int)) (.lst o' []) = some (decide (xs = [])) := eqP_ll xs [] o o'
@[simp] theorem neP_ln : neP (.lst o (xs.map PV.int)) (.lst o' []) = some (!decide (xs = [])) := neP_ll xs [] o o'
@[simp] theorem eqP_cn (z : Int) : eqP (.lst o (.sc (.int z) :: xs.map PV.int)) (.lst o' []) = some false := by rw [show PV.sc (V.int z) :: xs.map PV.int = (z :: xs).map PV.int from rfl, eqP_ln]; rfl
@[simp] theorem neP_cn (z : Int) : neP (.lst o (.sc (.int z) :: xs.map PV.int)) (.lst o' []) = some true := by rw [show PV.sc (V.int z) :: xs.map PV.int = (z :: xs).map PV.int from rfl, neP_ln]; rfl
@[simp] theorem eqP_n2 : eqP (.lst o []) (.lst o' []) = some true := eqP_ln [] o o'
@[simp] theorem neP_n2 : neP (.lst o []) (.lst o' []) = some false := neP_ln [] o o'
@[simp] theorem eqP_tn : eqP (.tup (xs.map PV.int)) (.tup []) = some (decide (xs = [])) := eqP_tt xs []
@[simp] theorem neP_tn : neP (.tup (xs.map PV.int)) (.tup []) = some (!decide (xs = [])) := neP_tt xs []
@[simp] theorem inP_l : inP false (.sc (.int x)) (.lst o (xs.map PV.int)) = some (decide (x ∈ xs)) := (Eq2.int dN).inP false x _ xs rfl
@[simp] theorem inP_k : inP false (.sc (.int x)) (.lsk a (xs.map PV.int)) = some (decide (x ∈ xs)) := (Eq2.int dN).inP false x _ xs rfl
@[simp] theorem inP_t : inP false (.sc (.int x)) (.tup (xs.map PV.int)) = some (decide (x ∈ xs)) := (Eq2.int dN).inP false x _ xs rfl
@[simp] theorem ninP_l : inP true (.sc (.int x)) (.lst o (xs.map PV.int)) = some (!decide (x ∈ xs)) := (Eq2.int dN).inP true x _ xs rfl
@[simp] theorem ninP_k : inP true (.sc (.int x)) (.lsk a (xs.map PV.int)) = some (!decide (x ∈ xs)) := (Eq2.int dN).inP true x _ xs rfl
@[simp] theorem ninP_t : inP true (.sc (.int x)) (.tup (xs.map PV.int)) = some (!decide (x ∈ xs)) := (Eq2.int dN).inP true x _ xs rfl
@[simp] theorem neP_int (i j : Int) : neP (.sc (.int i)) (.sc (.int j)) = some (!decide (i = j)) := (Eq2.int dN).neP i j
@[simp] theorem eqP_bl (i j : Bool) : eqP (.sc (.bl i)) (.sc (.bl j)) = some (decide (i = j)) := (Eq2.bl dN).eqP i j
@[simp] theorem neP_bl (i j : Bool) : neP (.sc (.bl i)) (.sc (.bl j)) = some (!decide (i = j)) := (Eq2.bl dN).neP i j
@[simp] theorem seqF_t (ps : List PV) : seqF (.tup ps) = some ps := (rfl)
@[simp] theorem seqF_l (ps : List PV) : seqF (.lst false ps) = some ps := (rfl)
@[simp] theorem seqF_k (ps : List PV) : seqF (.lsk a ps) = some ps := (rfl)
@[simp] theorem tupA_t (ps : List PV) (h : ps.all PV.fz = true) : tupA [.tup ps] = some (.tup ps) := if_pos h
@[simp] theorem tupA_l (ps : List PV) (h : ps.all PV.fz = true) : tupA [.lst o ps] = some (.tup ps) := if_pos h
@[simp] theorem tupA_k (ps : List PV) (h : ps.all PV.fz = true) : tupA [.lsk a ps] = some (.tup ps) := if_pos h
@[simp] theorem disL (ps : List PV) (h : ps.all PV.fz = true) (h' : ps.length ≤ 1000) : displayL ps = some (.lst true ps) := by unfold displayL; simp only [h, h', and_self, if_true]
@[simp] theorem disT (ps : List PV) (h : ps.all PV.fz = true) (h' : ps.length ≤ 1000) : displayT ps = some (.tup ps) := by unfold displayT; simp [h, h']
@[simp] theorem revP_l (ps : List PV) (h : ps.all PV.fz = true) : revP (.lst o ps) = some (.lst true ps.reverse) := if_pos h
@[simp] theorem noPo_e (ρ : PEnv) : noPo ρ = .ok none := rfl
@[simp] theorem soPo_e (f : PEnv → ER PV) (ρ : PEnv) : soPo f ρ = (f ρ).bind fun p => .of (intO p) := rfl
@[simp] theorem intO_i (i : Int) : intO (.sc (.int i)) = some (some i) := (rfl)
@[simp] theorem slE_e (fa : PEnv → ER PV) (fl fh : PEnv → ER (Option Int)) (ρ : PEnv) : slE fa fl fh ρ = (fa ρ).bind fun p => (fl ρ).bind fun l => (fh ρ).bind fun u => .of (slP p l u) := rfl
@[simp] theorem slG_e (fa : PEnv → GR PV) (fl fh : PEnv → ER (Option Int)) (ρ : PEnv) : slG fa fl fh ρ = (fa ρ).bind fun p ρ1 => ((fl ρ1).bind fun l => (fh ρ1).bind fun u => ER.of (slP p l u)).at ρ1 := rfl
@[simp] theorem slP_l (ps : List PV) (l u : Option Int) (h : ps.all PV.fz = true) : slP (.lst o ps) l u = some (.lst true (cutP ps l u)) := if_pos h
@[simp] theorem slP_k (ps : List PV) (l u : Option Int) (h : ps.all PV.fz = true) : slP (.lsk a ps) l u = some (.lst true (cutP ps l u)) := if_pos h
@[simp] theorem slP_t (ps : List PV) (l u : Option Int) : slP (.tup ps) l u = some (.tup (cutP ps l u)) := (rfl)
theorem sIx_p (n d : Nat) (k : Int) (h : 0 ≤ k) : HT.sIx n d (some k) = min k.toNat n := by
  have : ¬ (k < 0) := by omega
  simp [HT.sIx, this]
@[simp] theorem cut_nn (ps : List PV) : cutP ps none none = ps := by
  unfold cutP;simp [HT.sIx]
@[simp] theorem cut_hi (ps : List PV) (k : Int) (h : 0 ≤ k) : cutP ps none (some k) = ps.take k.toNat := by
  unfold cutP;rw [sIx_p _ _ _ h]
  have l2 : HT.sIx ps.length 0 none = 0 := rfl
  rw [l2];simp
@[simp] theorem cut_lo (ps : List PV) (k : Int) (h : 0 ≤ k) : cutP ps (some k) none = ps.drop k.toNat := by
  unfold cutP;rw [sIx_p _ _ _ h]
  have l3 : HT.sIx ps.length ps.length none = ps.length := rfl
  rw [l3];by_cases h : k.toNat ≤ ps.length
  · rw [Nat.min_eq_left h, List.take_of_length_le (by simp)]
  · rw [Nat.min_eq_right (by omega), List.drop_of_length_le (by omega), List.drop_of_length_le (by omega)]
    simp
end
theorem map_inj' {α β : Type} {f : α → β} (hf : ∀ a b, f a = f b → a = b) : ∀ {xs ys : List α}, xs.map f = ys.map f → xs = ys
  | [], [], _ => rfl
  | [], _ :: _, h => by cases h
  | _ :: _, [], h => by cases h
  | x :: xs, y :: ys, h => by
    simp only [List.map_cons, List.cons.injEq] at h;rw [hf _ _ h.1, map_inj' hf h.2]
@[simp] theorem str_lit (a b : String) : (Str.ofString a = Str.ofString b) = (a = b) := by
  apply propext
  refine ⟨fun h => ?_, fun h => h ▸ rfl⟩
  rw [PySem.Str.ofString_eq_toList, PySem.Str.ofString_eq_toList] at h;injection h with h
  have h2 := congrArg Array.toList h;simp only [List.toList_toArray] at h2;have h3 := map_inj' (fun a b h => Char.ext (UInt32.toNat_inj.mp h)) h2
  exact String.ext_iff.mpr h3
theorem strOk_lit (a : String) : PyData.strOk (Str.ofString a) = true := by
  unfold PyData.strOk;rw [PySem.Str.ofString_eq_toList]
  simp
  intro c _;have := c.valid
  have e : c.toNat = c.val.toNat := rfl
  rcases this with h | ⟨_, h⟩ <;> omega
@[simp] theorem okD_str (n : Nat) (a : String) : okD n (.sc (.str (Str.ofString a))) = true := by cases n <;> exact strOk_lit a
theorem eqD_str (n : Nat) (a b : Str) : eqD n (.sc (.str a)) (.sc (.str b)) = decide (a = b) := by
  have : ∀ n, eqD n (.sc (.str a)) (.sc (.str b)) = (a == b) := fun n => by cases n <;> rfl
  rw [this];by_cases h : a = b
  · subst h; simp
  · rw [decide_eq_false h];exact beq_eq_false_iff_ne.mpr h
theorem Eq2.str (n : Nat) : Eq2 n (fun s : String => .sc (.str (Str.ofString s))) (fun s => .sc (.str (Str.ofString s))) inferInstance := ⟨fun a => okD_str n a, fun a => okD_str n a, fun a b => by rw [eqD_str]; simp only [str_lit]⟩
@[simp] theorem eqP_str (a b : String) : eqP (.sc (.str (Str.ofString a))) (.sc (.str (Str.ofString b))) = some (decide (a = b)) := (Eq2.str dN).eqP a b
@[simp] theorem neP_str (a b : String) : neP (.sc (.str (Str.ofString a))) (.sc (.str (Str.ofString b))) = some (!decide (a = b)) := (Eq2.str dN).neP a b
/-- unlike kinds are unlike -/
theorem eqP_no {p q : PV} (h1 : okD dN p = true) (h2 : okD dN q = true) (h : eqD dN p q = false) : eqP p q = some false := by unfold eqP; rw [if_pos ⟨h1, h2⟩, h]
theorem neP_no {p q : PV} (h1 : okD dN p = true) (h2 : okD dN q = true) (h : eqD dN p q = false) : neP p q = some true := by unfold neP; rw [if_pos ⟨h1, h2⟩, h]; rfl
@[simp] theorem eqP_is (i : Int) (a : String) : eqP (.sc (.int i)) (.sc (.str (Str.ofString a))) = some false := eqP_no rfl (okD_str _ a) rfl
@[simp] theorem eqP_si (i : Int) (a : String) : eqP (.sc (.str (Str.ofString a))) (.sc (.int i)) = some false := eqP_no (okD_str _ a) rfl rfl
@[simp] theorem eqP_ni (i : Int) : eqP (.sc .non) (.sc (.int i)) = some false := eqP_no rfl rfl rfl
@[simp] theorem eqP_in (i : Int) : eqP (.sc (.int i)) (.sc .non) = some false := eqP_no rfl rfl rfl
@[simp] theorem eqP_nn : eqP (.sc .non) (.sc .non) = some true := rfl
@[simp] theorem neP_nn : neP (.sc .non) (.sc .non) = some false := rfl
@[simp] theorem neP_is (i : Int) (a : String) : neP (.sc (.int i)) (.sc (.str (Str.ofString a))) = some true := neP_no rfl (okD_str _ a) rfl
@[simp] theorem neP_si (i : Int) (a : String) : neP (.sc (.str (Str.ofString a))) (.sc (.int i)) = some true := neP_no (okD_str _ a) rfl rfl
@[simp] theorem neP_ni (i : Int) : neP (.sc .non) (.sc (.int i)) = some true := neP_no rfl rfl rfl
@[simp] theorem neP_in (i : Int) : neP (.sc (.int i)) (.sc .non) = some true := neP_no rfl rfl rfl
@[simp] theorem fldP_e (C : Addr) (f : Str) (o : Bool) (ns : List Str) (vs : List PV) : fldP C f (.obj o C ns vs) = lookN f ns vs := if_pos rfl
@[simp] theorem lookN_c {α : Type} (f n : Str) (ns : List Str) (v : α) (vs : List α) : lookN f (n :: ns) (v :: vs) = if f = n then some v else lookN f ns vs := (rfl)
@[simp] theorem putN_n (f : Str) : putN f [] = [f] := (rfl)
@[simp] theorem putN_c (f n : Str) (ns : List Str) : putN f (n :: ns) = if n = f then f :: ns else n :: putN f ns := (rfl)
@[simp] theorem putV_n {α : Type} (f : Str) (p : α) (vs : List α) : putV f p [] vs = [p] := by unfold putV; rfl
@[simp] theorem putV_c {α : Type} (f : Str) (p : α) (n : Str) (ns : List Str) (v : α) (vs : List α) : putV f p (n :: ns) (v :: vs) = if n = f then p :: vs else v :: putV f p ns vs := (rfl)
@[simp] theorem fldK_0 (C : Addr) (f : Str) (p : PV) (ns : List Str) (vs : List PV) (r : PEnv) (hl : ns.length < 1000) : fldK 0 C f p (some (.obj true C ns vs) :: r) = .nx (some (.obj true C (putN f ns) (putV f p ns vs)) :: r) := by
  unfold fldK;simp only [List.getElem?_cons_zero, hl, and_self, if_true, List.set_cons_zero]
def tupOf : PV → Option (List PV)
  | .tup ps => some ps
  | _ => none
@[simp] theorem tupOf_t (ps : List PV) : tupOf (.tup ps) = some ps := (rfl)
@[simp] theorem ownF_e (C : Addr) (f : Str) (o : Bool) (ns : List Str) (vs : List PV) : ownF C f (.obj o C ns vs) = (lookN f ns vs).bind tupOf := by
  unfold ownF;simp only [if_true]
  cases lookN f ns vs with
  | none => rfl
  | some p => cases p <;> rfl
@[simp] theorem seqK_t (ps : List PV) : seqK (.tup ps) = some ps := (rfl)
@[simp] theorem seqK_l (o : Bool) (ps : List PV) : seqK (.lst o ps) = some ps := (rfl)
@[simp] theorem seqK_k (a : Addr) (ps : List PV) : seqK (.lsk a ps) = some ps := (rfl)
@[simp] theorem starA_e (f : PEnv → ER PV) (g : PEnv → ER (List PV)) (ρ : PEnv) : starA f g ρ = (f ρ).bind fun p => (ER.of (seqK p)).bind fun ps => (g ρ).bind fun qs => .ok (ps ++ qs) := by
  unfold starA;congr
  funext p
  cases seqK p <;> rfl
@[simp] theorem starG_e (f : PEnv → GR PV) (g : PEnv → GR (List PV)) (ρ : PEnv) : starG f g ρ = (f ρ).bind fun p ρ1 => ((ER.of (seqK p)).at ρ1).bind fun ps ρ2 => (g ρ2).bind fun qs ρ3 => .ok (ps ++ qs) ρ3 := by
  unfold starG;congr
  funext p ρ1
  cases seqK p <;> rfl
@[simp] theorem isiA_o (K : Fg) (C D : Addr) (o : Bool) (ns : List Str) (vs : List PV) : isiA K [C] [.obj o C ns vs, .sc (.ref D)] = (PySem.W.kitOne K (.ref C) (.ref D)).map PV.bl := by
  unfold isiA;simp [tyP, clsV]
@[simp] theorem blsK_map {α : Type} (P : α → Bool) : ∀ xs : List α, blsK (xs.map fun x => PV.bl (P x)) = some (xs.map P)
  | [] => rfl
  | x :: xs => by
    show (blsK (xs.map fun x => PV.bl (P x))).map (P x :: ·) = _
    rw [blsK_map P xs];rfl
@[simp] theorem listOf_l (o : Bool) (ps : List PV) : listOf (.lst o ps) = some ps := (rfl)
@[simp] theorem listOf_k (a : Addr) (ps : List PV) : listOf (.lsk a ps) = some ps := (rfl)
@[simp] theorem frzL_app (ys : List PV) : ∀ xs : List PV, PV.frzL (xs ++ ys) = PV.frzL xs ++ PV.frzL ys
  | [] => by simp
  | x :: xs => by simp [frzL_app ys xs]
@[simp] theorem frzL_rev : ∀ xs : List PV, PV.frzL xs.reverse = (PV.frzL xs).reverse
  | [] => by simp
  | x :: xs => by simp [frzL_rev xs]
@[simp] theorem frzL_drop : ∀ (n : Nat) (xs : List PV), PV.frzL (xs.drop n) = (PV.frzL xs).drop n
  | 0, xs => by simp
  | n + 1, [] => by simp
  | n + 1, x :: xs => by simp [frzL_drop n xs]
@[simp] theorem frzL_take : ∀ (n : Nat) (xs : List PV), PV.frzL (xs.take n) = (PV.frzL xs).take n
  | 0, xs => by simp
  | n + 1, [] => by simp
  | n + 1, x :: xs => by simp [frzL_take n xs]
@[simp] theorem frzL_tail (xs : List PV) : PV.frzL xs.tail = (PV.frzL xs).tail := by cases xs <;> simp
theorem frzL_map {α : Type} {f : α → PV} (h : ∀ x, (f x).frz = f x) : ∀ xs : List α, PV.frzL (xs.map f) = xs.map f
  | [] => by simp
  | x :: xs => by simp [h, frzL_map h xs]
@[simp] theorem frzL_bls {α : Type} (P : α → Bool) (xs : List α) : PV.frzL (xs.map fun x => PV.bl (P x)) = xs.map fun x => PV.bl (P x) := frzL_map (fun x => by simp) xs
@[simp low] theorem frzL_is {α : Type} (P : α → Int) (xs : List α) : PV.frzL (xs.map fun x => PV.int (P x)) = xs.map fun x => PV.int (P x) := frzL_map (fun x => by simp) xs
@[simp] theorem filter_tt {α : Type} (xs : List α) : xs.filter (fun _ => true) = xs := List.filter_eq_self.mpr fun _ _ => rfl
def orVK (g : PEnv → ER PV) (ρ : PEnv) (p : PV) : ER PV := boolK (fun b => if b = true then .ok (.bl true) else g ρ) p
def andZK (g : PEnv → GR PV) (p : PV) (ρ : PEnv) : GR PV := boolKG (fun b ρ1 => if b = true then g ρ1 else .ok (.bl false) ρ1) p ρ
def orZK (g : PEnv → GR PV) (p : PV) (ρ : PEnv) : GR PV := boolKG (fun b ρ1 => if b = true then .ok (.bl true) ρ1 else g ρ1) p ρ
def ifVK (f g : PEnv → ER PV) (ρ : PEnv) (b : Bool) : ER PV := if b = true then f ρ else g ρ
def ifZK (f g : PEnv → GR PV) (b : Bool) (ρ : PEnv) : GR PV := if b = true then f ρ else g ρ
@[simp] theorem orE_e (f g : PEnv → ER PV) (ρ : PEnv) : orE f g ρ = (f ρ).bind (orVK g ρ) := rfl
@[simp] theorem andZ_e (f g : PEnv → GR PV) (ρ : PEnv) : andZ f g ρ = (f ρ).bind (andZK g) := rfl
@[simp] theorem orZ_e (f g : PEnv → GR PV) (ρ : PEnv) : orZ f g ρ = (f ρ).bind (orZK g) := rfl
@[simp] theorem ifE_e (c : PEnv → ER Bool) (f g : PEnv → ER PV) (ρ : PEnv) : ifE c f g ρ = (c ρ).bind (ifVK f g ρ) := rfl
@[simp] theorem ifZ_e (c : PEnv → GR Bool) (f g : PEnv → GR PV) (ρ : PEnv) : ifZ c f g ρ = (c ρ).bind (ifZK f g) := rfl
@[simp] theorem wE_andV (g : PEnv → ER PV) (c : Prop) [Decidable c] (ρ : PEnv) (k : KE PV) (t : Tg k) : wE (andVK g ρ (.sc (.bl (decide c)))) k t = ((c → wE (g ρ) k t) ∧ (¬ c → k.ok (.bl false))) := by by_cases h : c <;> simp [h]
@[simp] theorem orVK_t (g : PEnv → ER PV) (ρ : PEnv) : orVK g ρ (.sc (.bl true)) = .ok (.bl true) := rfl
@[simp] theorem orVK_f (g : PEnv → ER PV) (ρ : PEnv) : orVK g ρ (.sc (.bl false)) = g ρ := rfl
@[simp] theorem wE_orV (g : PEnv → ER PV) (c : Prop) [Decidable c] (ρ : PEnv) (k : KE PV) (t : Tg k) : wE (orVK g ρ (.sc (.bl (decide c)))) k t = ((c → k.ok (.bl true)) ∧ (¬ c → wE (g ρ) k t)) := by by_cases h : c <;> simp [h]
@[simp] theorem andZK_t (g : PEnv → GR PV) (ρ : PEnv) : andZK g (.sc (.bl true)) ρ = g ρ := rfl
@[simp] theorem andZK_f (g : PEnv → GR PV) (ρ : PEnv) : andZK g (.sc (.bl false)) ρ = .ok (.bl false) ρ := rfl
@[simp] theorem wG_andZ (g : PEnv → GR PV) (c : Prop) [Decidable c] (ρ : PEnv) (k : KG PV) (t : Tg k) : wG (andZK g (.sc (.bl (decide c))) ρ) k t = ((c → wG (g ρ) k t) ∧ (¬ c → k.ok (.bl false) ρ)) := by by_cases h : c <;> simp [h]
@[simp] theorem orZK_t (g : PEnv → GR PV) (ρ : PEnv) : orZK g (.sc (.bl true)) ρ = .ok (.bl true) ρ := rfl
@[simp] theorem orZK_f (g : PEnv → GR PV) (ρ : PEnv) : orZK g (.sc (.bl false)) ρ = g ρ := rfl
@[simp] theorem wG_orZ (g : PEnv → GR PV) (c : Prop) [Decidable c] (ρ : PEnv) (k : KG PV) (t : Tg k) : wG (orZK g (.sc (.bl (decide c))) ρ) k t = ((c → k.ok (.bl true) ρ) ∧ (¬ c → wG (g ρ) k t)) := by by_cases h : c <;> simp [h]
@[simp] theorem ifVK_t (f g : PEnv → ER PV) (ρ : PEnv) : ifVK f g ρ true = f ρ := rfl
@[simp] theorem ifVK_f (f g : PEnv → ER PV) (ρ : PEnv) : ifVK f g ρ false = g ρ := rfl
@[simp] theorem wE_ifV (f g : PEnv → ER PV) (c : Prop) [Decidable c] (ρ : PEnv) (k : KE PV) (t : Tg k) : wE (ifVK f g ρ (decide c)) k t = ((c → wE (f ρ) k t) ∧ (¬ c → wE (g ρ) k t)) := by by_cases h : c <;> simp [h]
@[simp] theorem ifZK_t (f g : PEnv → GR PV) (ρ : PEnv) : ifZK f g true ρ = f ρ := rfl
@[simp] theorem ifZK_f (f g : PEnv → GR PV) (ρ : PEnv) : ifZK f g false ρ = g ρ := rfl
@[simp] theorem wG_ifZ (f g : PEnv → GR PV) (c : Prop) [Decidable c] (ρ : PEnv) (k : KG PV) (t : Tg k) : wG (ifZK f g (decide c) ρ) k t = ((c → wG (f ρ) k t) ∧ (¬ c → wG (g ρ) k t)) := by by_cases h : c <;> simp [h]
@[simp] theorem nbO_b (b : Bool) : nbO (.sc (.bl b)) = some (.bl (!b)) := rfl
@[simp] theorem wS_tryG (K : Fg) (b : PEnv → SR) (l : List Hdl) (ρ : PEnv) (k : KS) (t : Tg k) : wS (tryG K b l ρ) k t = wS (b ρ) ⟨k.nx, k.rt, k.bk, k.ct, fun x ρ => wS (tryL K x ρ l) k t⟩ .mk := by
  unfold tryG;cases b ρ <;> rfl
@[simp] theorem isxA_e (K : Fg) (C D : Addr) (a : Addr) (ns : List Str) (ps : List PV) : isxA K [C] a ⟨C, ns, ps⟩ [.sc (.ref a), .sc (.ref D)] = (PySem.W.kitOne K (.ref C) (.ref D)).map PV.bl := by
  unfold isxA;simp [clsV]
@[simp] theorem xfE_e (C : Addr) (i : Nat) (a : Addr) (ns : List Str) (ps : List PV) (f : Str) (ρ : PEnv) (h : ρ[i]? = some (some (.sc (.ref a)))) : xfE C i a ⟨C, ns, ps⟩ f ρ = .of (lookN f ns ps) := by
  unfold xfE;rw [h]
  simp
@[simp] theorem phas_s (i : Nat) (a : Addr) (ρ : PEnv) : phas (some i) a ρ = ρ.set i (some (.sc (.ref a))) := (rfl)
@[simp] theorem phas_n (a : Addr) (ρ : PEnv) : phas none a ρ = ρ := (rfl)
@[simp] theorem pgone_s (i : Nat) (ρ : PEnv) : pgone (some i) ρ = ρ.set i none := (rfl)
@[simp] theorem pgone_n (ρ : PEnv) : pgone none ρ = ρ := (rfl)
@[simp] theorem clr_nx (i : Option Nat) (ρ : PEnv) : clr i (.nx ρ) = .nx (pgone i ρ) := (rfl)
@[simp] theorem clr_rt (i : Option Nat) (p : PV) (ρ : PEnv) : clr i (.rt p ρ) = .rt p (pgone i ρ) := (rfl)
@[simp] theorem clr_bk (i : Option Nat) (ρ : PEnv) : clr i (.bk ρ) = .bk (pgone i ρ) := (rfl)
@[simp] theorem clr_ct (i : Option Nat) (ρ : PEnv) : clr i (.ct ρ) = .ct (pgone i ρ) := (rfl)
@[simp] theorem listA_l (o : Bool) (ps : List PV) (h : ps.all PV.fz = true) : listA [.lst o ps] = some (.lst true ps) := if_pos h
@[simp] theorem listA_t (ps : List PV) (h : ps.all PV.fz = true) : listA [.tup ps] = some (.lst true ps) := if_pos h
@[simp] theorem listA_k (a : Addr) (ps : List PV) (h : ps.all PV.fz = true) : listA [.lsk a ps] = some (.lst true ps) := if_pos h
@[simp] theorem yesG_e (ρ : PEnv) : yesG ρ = .ok true ρ := (rfl)
@[simp] theorem wipeP_n (ρ : PEnv) : wipeP ρ [] = ρ := (rfl)
@[simp] theorem wipeP_c (ρ : PEnv) (v : Nat) (vs : List Nat) : wipeP ρ (v :: vs) = (wipeP ρ vs).set v none := (rfl)
def backO : Option (Option PV) → Option PV
  | some (some p) => if p.fz = true then some p else none
  | _ => none
@[simp] theorem backO_n : backO none = none := (rfl)
@[simp] theorem backO_s : backO (some none) = none := (rfl)
@[simp] theorem backO_p (p : PV) (h : p.fz = true) : backO (some (some p)) = some p := if_pos h
@[simp] theorem backV_n (ρ0 ρ : PEnv) : backV ρ0 ρ [] = ρ := (rfl)
@[simp] theorem backV_c (ρ0 ρ : PEnv) (v : Nat) (vs : List Nat) : backV ρ0 ρ (v :: vs) = (backV ρ0 ρ vs).set v (backO ρ0[v]?) := (rfl)
@[simp] theorem tupT_e (n : Nat) (gs : List PV → PEnv → Option PEnv) (ps : List PV) (ρ : PEnv) (h : ps.length = n) : tupT n gs (.tup ps) ρ = gs ps ρ := if_pos h
@[simp] theorem consT_e (g : PV → PEnv → Option PEnv) (gs : List PV → PEnv → Option PEnv) (p : PV) (ps : List PV) (ρ : PEnv) : consT g gs (p :: ps) ρ = (g p ρ).bind (gs ps) := (rfl)
@[simp] theorem nilT_e (ρ : PEnv) : nilT [] ρ = some ρ := (rfl)
@[simp] theorem noAs_bls {α : Type} (a : Addr) (P : α → Bool) (xs : List α) : PV.noAs a (xs.map fun x => PV.bl (P x)) = true := noAs_map fun _ _ => rfl
@[simp] theorem noAs_is {α : Type} (a : Addr) (P : α → Int) (xs : List α) : PV.noAs a (xs.map fun x => PV.int (P x)) = true := noAs_map fun _ _ => rfl
@[simp] theorem rangeP_len (lo : Int) (n : Nat) : (rangeP lo n).length = n := by simp [rangeP]
end RL
namespace K86
open PySem PySem.Spec PyProof.Rows L2 RL
def top (i : Nat) : Stmt := PySem.Challenge.pw_savedseats_k86_each_error.main.body.getD i (.Pass ⟨0, 0, 0, 0⟩)
def sub (s : Stmt) (j : Nat) : Stmt := match s with
  | .ClassDef _ _ _ b _ _ _ _ _ _ _ => b.getD j (.Pass ⟨0, 0, 0, 0⟩)
  | _ => .Pass ⟨0, 0, 0, 0⟩
def fn : List He.DefD := [(⟨("BadPlaces", some "__init__"), "__init__", "BadPlaces.__init__", defArgs (sub (top 2) 0), defBody (sub (top 2) 0), defScope (sub (top 2) 0), [], []⟩ : He.DefD),
  (⟨("BadEdges", some "__init__"), "__init__", "BadEdges.__init__", defArgs (sub (top 3) 0), defBody (sub (top 3) 0), defScope (sub (top 3) 0), [], []⟩ : He.DefD),
  (⟨("BadEdge", some "__init__"), "__init__", "BadEdge.__init__", defArgs (sub (top 4) 0), defBody (sub (top 4) 0), defScope (sub (top 4) 0), [], []⟩ : He.DefD),
  (⟨("BadEntry", some "__init__"), "__init__", "BadEntry.__init__", defArgs (sub (top 5) 0), defBody (sub (top 5) 0), defScope (sub (top 5) 0), [], []⟩ : He.DefD),
  (⟨("BadExit", some "__init__"), "__init__", "BadExit.__init__", defArgs (sub (top 7) 0), defBody (sub (top 7) 0), defScope (sub (top 7) 0), [], []⟩ : He.DefD),
  (⟨("Idle", some "__init__"), "__init__", "Idle.__init__", defArgs (sub (top 8) 0), defBody (sub (top 8) 0), defScope (sub (top 8) 0), [], []⟩ : He.DefD),
  (⟨("NoGate", some "__init__"), "__init__", "NoGate.__init__", defArgs (sub (top 9) 0), defBody (sub (top 9) 0), defScope (sub (top 9) 0), [], []⟩ : He.DefD),
  (⟨("BadWay", some "__init__"), "__init__", "BadWay.__init__", defArgs (sub (top 10) 0), defBody (sub (top 10) 0), defScope (sub (top 10) 0), [], []⟩ : He.DefD),
  (⟨("NotWhole", some "__init__"), "__init__", "NotWhole.__init__", defArgs (sub (top 11) 0), defBody (sub (top 11) 0), defScope (sub (top 11) 0), [], []⟩ : He.DefD),
  (⟨("BadPlace", some "__init__"), "__init__", "BadPlace.__init__", defArgs (sub (top 12) 0), defBody (sub (top 12) 0), defScope (sub (top 12) 0), [], []⟩ : He.DefD),
  (⟨("BadMark", some "__init__"), "__init__", "BadMark.__init__", defArgs (sub (top 13) 0), defBody (sub (top 13) 0), defScope (sub (top 13) 0), [], []⟩ : He.DefD),
  (⟨("TwoMarks", some "__init__"), "__init__", "TwoMarks.__init__", defArgs (sub (top 14) 0), defBody (sub (top 14) 0), defScope (sub (top 14) 0), [], []⟩ : He.DefD),
  (⟨("BadLength", some "__init__"), "__init__", "BadLength.__init__", defArgs (sub (top 15) 0), defBody (sub (top 15) 0), defScope (sub (top 15) 0), [], []⟩ : He.DefD),
  (⟨("BadPrice", some "__init__"), "__init__", "BadPrice.__init__", defArgs (sub (top 16) 0), defBody (sub (top 16) 0), defScope (sub (top 16) 0), [], []⟩ : He.DefD),
  (⟨("BadWord", some "__init__"), "__init__", "BadWord.__init__", defArgs (sub (top 17) 0), defBody (sub (top 17) 0), defScope (sub (top 17) 0), [], []⟩ : He.DefD),
  (⟨("TooMany", some "__init__"), "__init__", "TooMany.__init__", defArgs (sub (top 19) 0), defBody (sub (top 19) 0), defScope (sub (top 19) 0), [], []⟩ : He.DefD),
  (⟨("Barred", some "__init__"), "__init__", "Barred.__init__", defArgs (sub (top 20) 0), defBody (sub (top 20) 0), defScope (sub (top 20) 0), [], []⟩ : He.DefD),
  (⟨("BadSeats", some "__init__"), "__init__", "BadSeats.__init__", defArgs (sub (top 21) 0), defBody (sub (top 21) 0), defScope (sub (top 21) 0), [], []⟩ : He.DefD),
  (⟨("BadName", some "__init__"), "__init__", "BadName.__init__", defArgs (sub (top 22) 0), defBody (sub (top 22) 0), defScope (sub (top 22) 0), [], []⟩ : He.DefD),
  (⟨("NoSeat", some "__init__"), "__init__", "NoSeat.__init__", defArgs (sub (top 23) 0), defBody (sub (top 23) 0), defScope (sub (top 23) 0), [], []⟩ : He.DefD),
  (⟨("BadEdit", some "__init__"), "__init__", "BadEdit.__init__", defArgs (sub (top 24) 0), defBody (sub (top 24) 0), defScope (sub (top 24) 0), [], []⟩ : He.DefD),
  (⟨("BadMenu", some "__init__"), "__init__", "BadMenu.__init__", defArgs (sub (top 25) 0), defBody (sub (top 25) 0), defScope (sub (top 25) 0), [], []⟩ : He.DefD),
  (⟨("TwiceInMenu", some "__init__"), "__init__", "TwiceInMenu.__init__", defArgs (sub (top 26) 0), defBody (sub (top 26) 0), defScope (sub (top 26) 0), [], []⟩ : He.DefD),
  (⟨("BadDeed", some "__init__"), "__init__", "BadDeed.__init__", defArgs (sub (top 27) 0), defBody (sub (top 27) 0), defScope (sub (top 27) 0), [], []⟩ : He.DefD),
  (⟨("BadLine", some "__init__"), "__init__", "BadLine.__init__", defArgs (sub (top 28) 0), defBody (sub (top 28) 0), defScope (sub (top 28) 0), [], []⟩ : He.DefD),
  (⟨("_law_pool", none), "_law_pool", "_law_pool", defArgs (top 30), defBody (top 30), defScope (top 30), [], []⟩ : He.DefD),
  (⟨("_law_draw", none), "_law_draw", "_law_draw", defArgs (top 31), defBody (top 31), defScope (top 31), [], []⟩ : He.DefD),
  (⟨("_law_first", none), "_law_first", "_law_first", defArgs (top 32), defBody (top 32), defScope (top 32), [], []⟩ : He.DefD),
  (⟨("_law_second", none), "_law_second", "_law_second", defArgs (top 33), defBody (top 33), defScope (top 33), [], []⟩ : He.DefD),
  (⟨("_law_third", none), "_law_third", "_law_third", defArgs (top 34), defBody (top 34), defScope (top 34), [], []⟩ : He.DefD),
  (⟨("_law_kinds", none), "_law_kinds", "_law_kinds", defArgs (top 35), defBody (top 35), defScope (top 35), [], []⟩ : He.DefD),
  (⟨("_law_made", none), "_law_made", "_law_made", defArgs (top 36), defBody (top 36), defScope (top 36), [], []⟩ : He.DefD),
  (⟨("law", none), "law", "law", defArgs (top 37), defBody (top 37), defScope (top 37), [], []⟩ : He.DefD)]
def prs : List PrD := []
def fa : List He.Fa := [.free "ValueError", .free "abs", .free "int", .free "isinstance", .free "len", .free "range", .free "tuple", .glo "BadDeed", .glo "BadEdge", .glo "BadEdges", .glo "BadEdit", .glo "BadEntry", .glo "BadExit", .glo "BadLength", .glo "BadLine", .glo "BadMark", .glo "BadMenu", .glo "BadName", .glo "BadPlace", .glo "BadPlaces", .glo "BadPrice", .glo "BadSeats", .glo "BadWay", .glo "BadWord", .glo "Barred", .glo "Idle", .glo "NoExits", .glo "NoGate", .glo "NoSeat", .glo "NotWhole", .glo "OtherWeb", .glo "SeatError", .glo "TooMany", .glo "TwiceInMenu", .glo "TwoMarks", .glo "_law_draw", .glo "_law_first", .glo "_law_kinds", .glo "_law_made", .glo "_law_pool", .glo "_law_second", .glo "_law_third", .glo "law", .noat "BadDeed" "index", .noat "BadEdge" "index", .noat "BadEdges" "count", .noat "BadEdit" "change", .noat "BadEntry" "place", .noat "BadExit" "place", .noat "BadLength" "count", .noat "BadLine" "line", .noat "BadMark" "number", .noat "BadMenu" "count", .noat "BadName" "name", .noat "BadPlace" "number", .noat "BadPlaces" "count", .noat "BadPrice" "gate", .noat "BadSeats" "count", .noat "BadWay" "index", .noat "BadWord" "word", .noat "Barred" "index", .noat "Idle" "place", .noat "NoGate" "number", .noat "NoSeat" "name", .noat "NotWhole" "place", .noat "TooMany" "count", .noat "TwiceInMenu" "index", .noat "TwoMarks" "number", .exc "NoExits", .exc "OtherWeb", .meth "BadPlaces" "__init__", .meth "BadEdges" "__init__", .meth "BadEdge" "__init__", .meth "BadEntry" "__init__", .meth "BadExit" "__init__", .meth "Idle" "__init__", .meth "NoGate" "__init__", .meth "BadWay" "__init__", .meth "NotWhole" "__init__", .meth "BadPlace" "__init__", .meth "BadMark" "__init__", .meth "TwoMarks" "__init__", .meth "BadLength" "__init__", .meth "BadPrice" "__init__", .meth "BadWord" "__init__", .meth "TooMany" "__init__", .meth "Barred" "__init__", .meth "BadSeats" "__init__", .meth "BadName" "__init__", .meth "NoSeat" "__init__", .meth "BadEdit" "__init__", .meth "BadMenu" "__init__", .meth "TwiceInMenu" "__init__", .meth "BadDeed" "__init__", .meth "BadLine" "__init__"]
def ex (K : Fg) : Bool := (oexB K (He.ga K "BadDeed") && (oexB K (He.ga K "BadEdge") && (oexB K (He.ga K "BadEdges") && (oexB K (He.ga K "BadEdit") && (oexB K (He.ga K "BadEntry") && (oexB K (He.ga K "BadExit") && (oexB K (He.ga K "BadLength") && (oexB K (He.ga K "BadLine") && (oexB K (He.ga K "BadMark") && (oexB K (He.ga K "BadMenu") && (oexB K (He.ga K "BadName") && (oexB K (He.ga K "BadPlace") && (oexB K (He.ga K "BadPlaces") && (oexB K (He.ga K "BadPrice") && (oexB K (He.ga K "BadSeats") && (oexB K (He.ga K "BadWay") && (oexB K (He.ga K "BadWord") && (oexB K (He.ga K "Barred") && (oexB K (He.ga K "Idle") && (oexB K (He.ga K "NoGate") && (oexB K (He.ga K "NoSeat") && (oexB K (He.ga K "NotWhole") && (oexB K (He.ga K "TooMany") && (oexB K (He.ga K "TwiceInMenu") && (oexB K (He.ga K "TwoMarks") && ((xfB K (He.ga K "BadDeed") && dunB K (He.ga K "BadDeed")) && ((xfB K (He.ga K "BadEdge") && dunB K (He.ga K "BadEdge")) && ((xfB K (He.ga K "BadEdges") && dunB K (He.ga K "BadEdges")) && ((xfB K (He.ga K "BadEdit") && dunB K (He.ga K "BadEdit")) && ((xfB K (He.ga K "BadEntry") && dunB K (He.ga K "BadEntry")) && ((xfB K (He.ga K "BadExit") && dunB K (He.ga K "BadExit")) && ((xfB K (He.ga K "BadLength") && dunB K (He.ga K "BadLength")) && ((xfB K (He.ga K "BadLine") && dunB K (He.ga K "BadLine")) && ((xfB K (He.ga K "BadMark") && dunB K (He.ga K "BadMark")) && ((xfB K (He.ga K "BadMenu") && dunB K (He.ga K "BadMenu")) && ((xfB K (He.ga K "BadName") && dunB K (He.ga K "BadName")) && ((xfB K (He.ga K "BadPlace") && dunB K (He.ga K "BadPlace")) && ((xfB K (He.ga K "BadPlaces") && dunB K (He.ga K "BadPlaces")) && ((xfB K (He.ga K "BadPrice") && dunB K (He.ga K "BadPrice")) && ((xfB K (He.ga K "BadSeats") && dunB K (He.ga K "BadSeats")) && ((xfB K (He.ga K "BadWay") && dunB K (He.ga K "BadWay")) && ((xfB K (He.ga K "BadWord") && dunB K (He.ga K "BadWord")) && ((xfB K (He.ga K "Barred") && dunB K (He.ga K "Barred")) && ((xfB K (He.ga K "Idle") && dunB K (He.ga K "Idle")) && ((xfB K (He.ga K "NoExits") && dunB K (He.ga K "NoExits")) && ((xfB K (He.ga K "NoGate") && dunB K (He.ga K "NoGate")) && ((xfB K (He.ga K "NoSeat") && dunB K (He.ga K "NoSeat")) && ((xfB K (He.ga K "NotWhole") && dunB K (He.ga K "NotWhole")) && ((xfB K (He.ga K "OtherWeb") && dunB K (He.ga K "OtherWeb")) && ((xfB K (He.ga K "TooMany") && dunB K (He.ga K "TooMany")) && ((xfB K (He.ga K "TwiceInMenu") && dunB K (He.ga K "TwiceInMenu")) && ((xfB K (He.ga K "TwoMarks") && dunB K (He.ga K "TwoMarks")) && (decide (∀ c ∈ (["BadPlaces", "BadEdges", "BadEdge", "BadEntry", "NoExits", "BadExit", "Idle", "NoGate", "BadWay", "NotWhole", "BadPlace", "BadMark", "TwoMarks", "BadLength", "BadPrice", "BadWord", "OtherWeb", "TooMany", "Barred", "BadSeats", "BadName", "NoSeat", "BadEdit", "BadMenu", "TwiceInMenu", "BadDeed", "BadLine"] : List Str), ∀ d ∈ (["BadPlaces", "BadEdges", "BadEdge", "BadEntry", "NoExits", "BadExit", "Idle", "NoGate", "BadWay", "NotWhole", "BadPlace", "BadMark", "TwoMarks", "BadLength", "BadPrice", "BadWord", "OtherWeb", "TooMany", "Barred", "BadSeats", "BadName", "NoSeat", "BadEdit", "BadMenu", "TwiceInMenu", "BadDeed", "BadLine"] : List Str), PySem.W.kitOne K (.ref (He.ga K c)) (.ref (He.ga K d)) = some (decide (c = d))) && (decide (∀ c ∈ (["BadPlaces", "BadEdges", "BadEdge", "BadEntry", "NoExits", "BadExit", "Idle", "NoGate", "BadWay", "NotWhole", "BadPlace", "BadMark", "TwoMarks", "BadLength", "BadPrice", "BadWord", "OtherWeb", "TooMany", "Barred", "BadSeats", "BadName", "NoSeat", "BadEdit", "BadMenu", "TwiceInMenu", "BadDeed", "BadLine"] : List Str), PySem.W.kitOne K (.ref (He.ga K c)) (.ref (He.ga K "SeatError")) = some true) && (decide (∀ c ∈ (["BadPlaces", "BadEdges", "BadEdge", "BadEntry", "NoExits", "BadExit", "Idle", "NoGate", "BadWay", "NotWhole", "BadPlace", "BadMark", "TwoMarks", "BadLength", "BadPrice", "BadWord", "OtherWeb", "TooMany", "Barred", "BadSeats", "BadName", "NoSeat", "BadEdit", "BadMenu", "TwiceInMenu", "BadDeed", "BadLine"] : List Str), PySem.W.kitOne K (.ref (He.ga K c)) (.type "ValueError") = some true) && true)))))))))))))))))))))))))))))))))))))))))))))))))))))))
abbrev R : PySem.W.OpenRow := PySem.W.OpenLaw.row PySem.Challenge.rw_savedseats_k86_each_error
def as : List Addr := [3, 24, 44, 63, 82, 101, 113, 132, 151, 170, 189, 208, 227, 246, 265, 284, 303, 322, 334, 353, 372, 391, 410, 429, 448, 467, 486, 505, 524, 533, 540, 547, 554, 561, 568, 575, 580, 23, 43, 62, 81, 100, 112, 131, 150, 169, 188, 207, 226, 245, 264, 283, 302, 321, 333, 352, 371, 390, 409, 428, 447, 466, 485, 504, 523, 532, 539, 546, 553, 560, 567, 574, 579, 41, 60, 79, 98, 129, 148, 167, 186, 205, 224, 243, 262, 281, 300, 319, 350, 369, 388, 407, 426, 445, 464, 483, 502, 521, 40, 59, 78, 97, 128, 147, 166, 185, 204, 223, 242, 261, 280, 299, 318, 349, 368, 387, 406, 425, 444, 463, 482, 501, 520]
abbrev hk : PySem.W.Hook := RL.hookA as fa fn prs ex
def ob (s : PySem.W.SharedT) : He.AlX × List He.FnW := (RL.obsA as fa fn ex (HandSHeadRun.getT s), RL.obsPA as prs (HandSHeadRun.getT s))
theorem ob_eq (s : PySem.W.SharedT) : ob s = hk.obs s.abs := RL.obsA_eq (HandSHeadRun.getT_eq s)
theorem run (w : World) : HandSHeadRun.RunEq R (PySem.W.view R.prog [37]) hk ob 30000 [("_law_pool" : Str), ("_law_draw" : Str), ("_law_first" : Str), ("_law_second" : Str), ("_law_third" : Str), ("_law_kinds" : Str), ("_law_made" : Str), ("SeatError" : Str), ("BadPlaces" : Str), ("BadEdges" : Str), ("BadEdge" : Str), ("BadEntry" : Str), ("NoExits" : Str), ("BadExit" : Str), ("Idle" : Str), ("NoGate" : Str), ("BadWay" : Str), ("NotWhole" : Str), ("BadPlace" : Str), ("BadMark" : Str), ("TwoMarks" : Str), ("BadLength" : Str), ("BadPrice" : Str), ("BadWord" : Str), ("OtherWeb" : Str), ("TooMany" : Str), ("Barred" : Str), ("BadSeats" : Str), ("BadName" : Str), ("NoSeat" : Str), ("BadEdit" : Str), ("BadMenu" : Str), ("TwiceInMenu" : Str), ("BadDeed" : Str), ("BadLine" : Str)] w := by
  intro os
  kernel_rfl
end K86
namespace ZZ
end ZZ
set_option Elab.async false
set_option linter.all false
set_option maxRecDepth 100000
namespace RL
open PySem PySem.Spec PyProof.Rows L2
section
variable {K : Fg} {F F' H H' : Hp}
mutual
theorem Ow.nt : ∀ {v : V} {p : PV} {l : List Addr}, Ow K F H v p l → ∀ a ∈ l, ∀ o, H a = some o → ¬ Tf o
  | _, _, _, .sc v, _, h, _ => nomatch h
  | _, _, _, .tup _ _, _, h, _ => nomatch h
  | _, _, _, .tpk _ _, _, h, _ => nomatch h
  | _, _, _, .exo _ _ _, _, h, _ => nomatch h
  | _, _, _, .tab h, b, hb, vs => by
    rcases List.mem_cons.mp hb with rfl | hb
    · obtain ⟨ps, h, _⟩ := h; rw [h]; intro e; cases e; exact fun z => nomatch z
    · exact nomatch hb
  | _, _, _, .lstF _ _, _, h, _ => nomatch h
  | _, _, _, .lsk _ _, _, h, _ => nomatch h
  | _, _, _, .lstO h t, b, hb, vs => by
    rcases List.mem_cons.mp hb with rfl | hb
    · rw [h]; intro e; cases e; exact fun z => nomatch z
    · exact OwL.nt t b hb vs
  | _, _, _, .dctF _ _ _, _, h, _ => nomatch h
  | _, _, _, .dctO h _ t, b, hb, vs => by
    rcases List.mem_cons.mp hb with rfl | hb
    · rw [h]; intro e; cases e; exact fun z => nomatch z
    · exact OwL.nt t b hb vs
  | _, _, _, .dttF _ _ _, _, h, _ => nomatch h
  | _, _, _, .dttO h _ t, b, hb, vs => by
    rcases List.mem_cons.mp hb with rfl | hb
    · rw [h]; intro e; cases e; exact fun z => nomatch z
    · exact OwL.nt t b hb vs
  | _, _, _, .dtbF _ _ _ _ _, _, h, _ => nomatch h
  | _, _, _, .dtbO h _ _ _ t, b, hb, vs => by
    rcases List.mem_cons.mp hb with rfl | hb
    · rw [h]; intro e; cases e; exact fun z => nomatch z
    · exact OwL.nt t b hb vs
  | _, _, _, .objF _ _ _, _, h, _ => nomatch h
  | _, _, _, .objO h _ t, b, hb, vs => by
    rcases List.mem_cons.mp hb with rfl | hb
    · rw [h]; intro e; cases e; exact fun z => nomatch z
    · exact OwL.nt t b hb vs
theorem OwL.nt : ∀ {vs : List V} {ps : List PV} {l : List Addr}, OwL K F H vs ps l → ∀ a ∈ l, ∀ o, H a = some o → ¬ Tf o
  | _, _, _, .nil, _, h, _ => nomatch h
  | _, _, _, .cons h t, b, hb, zs => by
    rcases List.mem_append.mp hb with hb | hb
    · exact Ow.nt h b hb zs
    · exact OwL.nt t b hb zs
end
theorem Ow.thereN {v : V} {p : PV} {l : List Addr} (h : Ow K F H v p l) (a : Addr) (ha : a ∈ l) : ∃ o, H a = some o ∧ ¬ Tf o := by
  obtain ⟨o, e⟩ := h.there a ha;exact ⟨o, e, h.nt a ha o e⟩
theorem OwL.thereN {vs : List V} {ps : List PV} {l : List Addr} (h : OwL K F H vs ps l) (a : Addr) (ha : a ∈ l) : ∃ o, H a = some o ∧ ¬ Tf o := by
  obtain ⟨o, e⟩ := h.there a ha;exact ⟨o, e, h.nt a ha o e⟩
theorem Ow.fz0 {v : V} {p : PV} {l : List Addr} (h : Ow K F H v p l) (e : p.fz = true) : l = [] := by
  cases h <;> first | rfl | (simp [PV.fz] at e)
mutual
theorem Ow.freeze (hF : HLe F F') : ∀ {v : V} {p : PV} {l : List Addr}, (∀ a ∈ l, ∀ o, H a = some o → F' a = some o) → Ow K F H v p l → Ow K F' H' v p.frz []
  | _, _, _, _, .sc v => .sc v
  | _, _, _, k, .tup h t => .tup (hF _ _ h) (t.any hF)
  | _, _, _, k, .tpk h t => .tpk (hF.sqT h) (t.any hF)
  | _, _, _, k, .exo h e t => .exo (h.mono hF) e (t.any hF)
  | _, _, _, _, .tab _ => .sc _
  | _, _, _, k, .lstF h t => .lstF (hF _ _ h) (OwL.freeze hF k t)
  | _, _, _, k, .lsk h t => .lsk (hF.sqL h) (t.any hF)
  | _, _, _, k, .lstO h t => .lstF (k _ List.mem_cons_self _ h) (OwL.freeze hF (fun a ha => k a (List.mem_cons_of_mem _ ha)) t)
  | _, _, _, k, .dctF h e t => .dctF (hF.rd h) e (OwL.freeze hF k t)
  | _, _, _, k, .dctO h e t => .dctF (.inl (k _ List.mem_cons_self _ h)) e (OwL.freeze hF (fun a ha => k a (List.mem_cons_of_mem _ ha)) t)
  | _, _, _, k, .dttF h e t => .dttF (hF.rd h) e (OwL.freeze hF k t)
  | _, _, _, k, .dttO h e t => .dttF (.inl (k _ List.mem_cons_self _ h)) e (OwL.freeze hF (fun a ha => k a (List.mem_cons_of_mem _ ha)) t)
  | _, _, _, k, .dtbF h e1 e tk t => .dtbF (hF.rd h) e1 e (tk.any hF) (OwL.freeze hF k t)
  | _, _, _, k, .dtbO h e1 e tk t => .dtbF (.inl (k _ List.mem_cons_self _ h)) e1 e (tk.any hF) (OwL.freeze hF (fun a ha => k a (List.mem_cons_of_mem _ ha)) t)
  | _, _, _, k, .objF h e t => .objF (hF _ _ h) e (OwL.freeze hF k t)
  | _, _, _, k, .objO h e t => .objF (k _ List.mem_cons_self _ h) e (OwL.freeze hF (fun a ha => k a (List.mem_cons_of_mem _ ha)) t)
theorem OwL.freeze (hF : HLe F F') : ∀ {vs : List V} {ps : List PV} {l : List Addr}, (∀ a ∈ l, ∀ o, H a = some o → F' a = some o) → OwL K F H vs ps l → OwL K F' H' vs (PV.frzL ps) []
  | _, _, _, _, .nil => .nil
  | _, _, _, k, .cons h t => .cons (l := []) (ls := []) (Ow.freeze hF (fun a ha => k a (List.mem_append_left _ ha)) h) (OwL.freeze hF (fun a ha => k a (List.mem_append_right _ ha)) t)
end
end
section
variable {K : Fg} {F F' H H' : Hp}
theorem EnvR.nt : ∀ {σ : List (Option V)} {ρ : PEnv} {l : List Addr}, EnvR K F H σ ρ l → ∀ a ∈ l, ∀ o, H a = some o → ¬ Tf o
  | _, _, _, .nil, _, h, _ => nomatch h
  | _, _, _, .no t, b, hb, vs => EnvR.nt t b hb vs
  | _, _, _, .so h t, b, hb, vs => by
    rcases List.mem_append.mp hb with hb | hb
    · exact Ow.nt h b hb vs
    · exact EnvR.nt t b hb vs
theorem EnvR.thereN {σ : List (Option V)} {ρ : PEnv} {l : List Addr} (h : EnvR K F H σ ρ l) (a : Addr) (ha : a ∈ l) : ∃ o, H a = some o ∧ ¬ Tf o := by
  obtain ⟨o, e⟩ := h.there a ha;exact ⟨o, e, h.nt a ha o e⟩
theorem EnvR.get : ∀ {σ : List (Option V)} {ρ : PEnv} {l : List Addr} {i : Nat} {p : PV}, EnvR K F H σ ρ l → ρ[i]? = some (some p) →
    ∃ v l1 l2 l3, σ[i]? = some (some v) ∧ l = l1 ++ (l2 ++ l3) ∧ Ow K F H v p l2 ∧ ∀ {F' H' : Hp} {v' : V} {p' : PV} {l2' : List Addr}, HLe F F' → (∀ a ∈ l1 ++ l3, ∀ o, H a = some o → H' a = some o) → Ow K F' H' v' p' l2' → EnvR K F' H' (σ.set i (some v')) (ρ.set i (some p')) (l1 ++ (l2' ++ l3))
  | _, _, _, i, p, .nil, h => by simp at h
  | _, _, _, 0, p, .no t, h => by simp at h
  | _, _, _, i + 1, p, .no t, h => by
    obtain ⟨v, l1, l2, l3, e1, e2, w, k⟩ := EnvR.get (i := i) (p := p) t (by simpa using h)
    exact ⟨v, l1, l2, l3, by simpa using e1, e2, w, fun hF hk o => .no (k hF hk o)⟩
  | _, _, _, 0, p, .so (p := p0) (l := l0) (ls := ls0) h0 t, h => by
    have e : p0 = p := by simpa using h
    subst e;exact ⟨_, [], l0, ls0, rfl, rfl, h0, fun {F' H' v' p' l2'} hF hk o => EnvR.so (l := l2') (ls := ls0) o (t.mono hF hk)⟩
  | _, _, _, i + 1, p, .so (l := l0) h0 t, h => by
    obtain ⟨v, l1, l2, l3, e1, e2, w, k⟩ := EnvR.get (i := i) (p := p) t (by simpa using h)
    refine ⟨v, l0 ++ l1, l2, l3, by simpa using e1, by rw [e2, List.append_assoc], w, fun {F' H' v' p' l2'} hF hk o => ?_⟩
    rw [List.append_assoc];exact .so (h0.mono hF fun a ha => hk a (by simp [ha])) (k hF (fun a ha => hk a (by rcases List.mem_append.mp ha with z | z <;> simp [z])) o)
/-- a slot is stored: its old owner goes -/
theorem EnvR.put : ∀ {σ : List (Option V)} {ρ : PEnv} {l : List Addr} {i : Nat}, EnvR K F H σ ρ l → i < ρ.length → ∃ l1 l2 l3, l = l1 ++ (l2 ++ l3) ∧
    ∀ {v' : V} {p' : PV} {l2' : List Addr}, Ow K F H v' p' l2' → EnvR K F H (σ.set i (some v')) (ρ.set i (some p')) (l1 ++ (l2' ++ l3))
  | _, _, _, i, .nil, h => by simp at h
  | _, _, _, 0, .no (l := ls0) t, h => ⟨[], [], ls0, rfl, fun {v' p' l2'} o => EnvR.so (l := l2') (ls := ls0) o t⟩
  | _, _, _, i + 1, .no t, h => by
    obtain ⟨l1, l2, l3, e2, k⟩ := EnvR.put (i := i) t (by simpa using h)
    exact ⟨l1, l2, l3, e2, fun o => .no (k o)⟩
  | _, _, _, 0, .so (l := l0) (ls := ls0) h0 t, h => ⟨[], l0, ls0, rfl, fun {v' p' l2'} o => EnvR.so (l := l2') (ls := ls0) o t⟩
  | _, _, _, i + 1, .so (l := l0) h0 t, h => by
    obtain ⟨l1, l2, l3, e2, k⟩ := EnvR.put (i := i) t (by simpa using h)
    refine ⟨l0 ++ l1, l2, l3, by rw [e2, List.append_assoc], fun {v' p' l2'} o => ?_⟩
    rw [List.append_assoc];exact .so h0 (k o)
/-- slots forgotten -/
theorem EnvR.drop1 : ∀ {σ : List (Option V)} {ρ : PEnv} {l : List Addr} (i : Nat) (x : Option V), EnvR K F H σ ρ l → ∃ l', EnvR K F H (σ.set i x) (ρ.set i none) l' ∧ l'.Sublist l
  | _, _, _, _, _, .nil => ⟨[], .nil, .slnil⟩
  | _, _, _, 0, _, .no t => ⟨_, .no t, List.Sublist.refl _⟩
  | _, _, _, i + 1, x, .no t => by
    obtain ⟨l', a, b⟩ := EnvR.drop1 i x t;exact ⟨l', .no a, b⟩
  | _, _, _, 0, _, .so h t => ⟨_, .no t, List.sublist_append_right _ _⟩
  | _, _, _, i + 1, x, .so h t => by
    obtain ⟨l', a, b⟩ := EnvR.drop1 i x t;exact ⟨_, .so h a, List.Sublist.append (List.Sublist.refl _) b⟩
end
def J0 : Jx := ⟨fun _ => True, fun _ _ _ _ => trivial⟩
theorem Nt.no' {H : Hp} {a : Addr} {o : HO} (h : Nt H a o) (e : ∃ u, H a = some u ∧ ¬ Tf u) : False := let ⟨_, e, n⟩ := e; h.no e n
theorem HLe.none_of {H H' : Hp} (h : HLe H H') {a : Addr} (e : H' a = none) : H a = none := by
  cases q : H a with
  | none => rfl
  | some o => rw [h a o q] at e; cases e
theorem St.pur {K : Fg} {J : Jx} {F H F' H' : Hp} {σ : List (Option V)} {ρ : PEnv} {fp : List Addr} (s : St K J F H σ ρ fp) (p : Pur F H F' H') : St K J F' H' σ ρ fp :=
  ⟨p.le, s.env.mono p.leF (fun a _ o e => p.same a o e), s.nd, (fun a ha => by
    cases q : F' a with
    | none => rfl
    | some o =>
      rcases p.nw a o q with e | e
      · rw [s.dis a ha] at e; cases e
      · exact (e.no' (s.env.thereN a ha)).elim), J.mono _ _ p.leF s.amb⟩
theorem Pur.aft {F H F' H' : Hp} {K : Fg} {J : Jx} {σ : List (Option V)} {ρ : PEnv} {fp : List Addr} (p : Pur F H F' H') (s : St K J F H σ ρ fp) : Aft F H fp F' H' fp :=
  ⟨p.leF, p.le, fun a o e _ => p.same a o e, fun a e => p.same.none_of e, fun a ha => .inl ha, fun a o e => by
    rcases p.nw a o e with z | z
    · exact .inl z
    · exact .inr (.inr z), s.nd, (s.pur p).dis⟩
/-- fewer owned things behind -/
theorem Aft.less {F H F' H' : Hp} {fp fp' fp2 : List Addr} (a : Aft F H fp F' H' fp') (s : fp2.Sublist fp') : Aft F H fp F' H' fp2 :=
  ⟨a.leF, a.le, a.ext, a.tr, fun x hx => a.nw x (s.subset hx), a.nwF, a.nd.sublist s, fun x hx => a.dis x (s.subset hx)⟩
/-- what is owned at l2 is frozen -/
theorem Aft.freeze {F H F' H' : Hp} {fp l1 l2 : List Addr} (a : Aft F H fp F' H' (l1 ++ l2)) :
    ∃ F2, Aft F H fp F2 H' l1 ∧ HLe F' F2 ∧ (∀ x ∈ l2, ∀ o, H' x = some o → F2 x = some o) ∧ (∀ x, x ∉ l2 → F2 x = F' x) := by
  refine ⟨fun x => if x ∈ l2 then H' x else F' x, ⟨fun x o e => ?_, fun x o e => ?_, a.ext, a.tr, fun x hx => a.nw x (List.mem_append_left _ hx), fun x o e => ?_, (List.nodup_append.mp a.nd).1, fun x hx => ?_⟩, fun x o e => ?_, fun x hx o e => ?_, fun x hx => ?_⟩
  · show (if x ∈ l2 then H' x else F' x) = some o
    by_cases h : x ∈ l2
    · have := a.dis x (List.mem_append_right _ h)
      rw [a.leF x o e] at this; cases this
    · rw [if_neg h]; exact a.leF x o e
  · have e : (if x ∈ l2 then H' x else F' x) = some o := e
    by_cases h : x ∈ l2
    · rw [if_pos h] at e; exact e
    · rw [if_neg h] at e; exact a.le x o e
  · have e : (if x ∈ l2 then H' x else F' x) = some o := e
    by_cases h : x ∈ l2
    · exact .inr ((a.nw x (List.mem_append_right _ h)).imp id Or.inl)
    · rw [if_neg h] at e; exact a.nwF x o e
  · show (if x ∈ l2 then H' x else F' x) = none
    by_cases h : x ∈ l2
    · exact absurd rfl ((List.nodup_append.mp a.nd).2.2 x hx x h)
    · rw [if_neg h]; exact a.dis x (List.mem_append_left _ hx)
  · show (if x ∈ l2 then H' x else F' x) = some o
    by_cases h : x ∈ l2
    · have := a.dis x (List.mem_append_right _ h)
      rw [e] at this; cases this
    · rw [if_neg h]; exact e
  · show (if x ∈ l2 then H' x else F' x) = some o
    rw [if_pos hx]; exact e
  · show (if x ∈ l2 then H' x else F' x) = F' x
    rw [if_neg hx]
end RL
namespace RL
open PySem PySem.Spec PyProof.Rows L2
def exV (K : Fg) (W : WX) (F : Hp) (σ : Sg) (H : Hp) (x : Exc) : Prop := ∀ d F' H', Pur F H F' H' → ExcAt K F' H' d x → W (.ref x.C) d σ H'
section
variable (K : Fg) (J : Jx) (W : WX)
def TV (f : PEnv → ER PV) : TE := fun σ H Q => ∃ F ρ fp, St K J F H σ ρ fp ∧ match f ρ with
  | .ok p => ∀ v F' H' l, Pur F H F' H' → Ow K F' H' v p l → (∀ a ∈ l, a ∈ fp) → Q v H'
  | .exc x => exV K W F σ H x
  | .stk => False
def TF (f : PEnv → ER PV) : TE := fun σ H Q => ∃ F ρ fp, St K J F H σ ρ fp ∧ match f ρ with
  | .ok p => ∀ v F' H' l, Pur F H F' H' → Ow K F' H' v p l → Nw F' H l → Q v H'
  | .exc x => exV K W F σ H x
  | .stk => False
def TVA (f : PEnv → ER (List PV)) : TA := fun σ H Q => ∃ F ρ fp, St K J F H σ ρ fp ∧ match f ρ with
  | .ok ps => ∀ vs F' H' l, Pur F H F' H' → OwL K F' H' vs ps l → (∀ a ∈ l, a ∈ fp) → Q vs H'
  | .exc x => exV K W F σ H x
  | .stk => False
def TB (c : PEnv → ER Bool) : TT := fun σ H Q => ∃ F ρ fp, St K J F H σ ρ fp ∧ match c ρ with
  | .ok b => ∀ F' H', Pur F H F' H' → Q b H'
  | .exc x => exV K W F σ H x
  | .stk => False
end
/-- what a fresh result must satisfy, by values -/
def OkF (K : Fg) (F H : Hp) (p : PV) (Q : VK) : Prop := ∀ v F' H' l, Pur F H F' H' → Ow K F' H' v p l → Nw F' H l → Q v H'
def Op2 (K : Fg) (r : R2) (g : PV → PV → Option PV) : Prop := ∀ F H x y p q l l' o Q, HLe F H → Ow K F H x p l → Ow K F H y q l' → g p q = some o → OkF K F H o Q → r x y H Q
def Op2S (K : Fg) (r : R2) (g : PV → PV → Option V) : Prop := ∀ F H x y p q l l' v Q, HLe F H → Ow K F H x p l → Ow K F H y q l' → g p q = some v → Q v H → r x y H Q
def CallG (K : Fg) (r : List V → Hp → VK → Prop) (g : List PV → Option PV) : Prop := ∀ F H vs ps l o Q, HLe F H → OwL K F H vs ps l → g ps = some o → OkF K F H o Q → r vs H Q
abbrev VE (X : Cx) (J : Jx) (W : WX) (e : Expr) (f : PEnv → ER PV) : Prop := PE X e (TV X.K J W f)
abbrev FE (X : Cx) (J : Jx) (W : WX) (e : Expr) (f : PEnv → ER PV) : Prop := PE X e (TF X.K J W f)
abbrev VA (X : Cx) (J : Jx) (W : WX) (es : List Expr) (f : PEnv → ER (List PV)) : Prop := PA X es (TVA X.K J W f)
abbrev VT (X : Cx) (J : Jx) (W : WX) (e : Expr) (c : PEnv → ER Bool) : Prop := PT X e (TB X.K J W c)
theorem pe_imp {X : Cx} {e : Expr} {t t' : TE} (h : PE X e t) (k : ∀ σ H Q, t' σ H Q → t σ H Q) : PE X e t' := ⟨fun pins s σ H Q I q => h.run pins s σ H Q I (k σ H Q q)⟩
theorem pt_imp {X : Cx} {e : Expr} {t t' : TT} (h : PT X e t) (k : ∀ σ H Q, t' σ H Q → t σ H Q) : PT X e t' := ⟨fun pins s σ H Q I q => h.run pins s σ H Q I (k σ H Q q)⟩
theorem pw_imp {X : Cx} {e : Expr} {t t' : TT} (h : PW X e t) (k : ∀ σ H Q, t' σ H Q → t σ H Q) : PW X e t' := ⟨fun wh pins s σ H Q I q => h.run wh pins s σ H Q I (k σ H Q q)⟩
theorem pa_imp {X : Cx} {e : List Expr} {t t' : TA} (h : PA X e t) (k : ∀ σ H Q, t' σ H Q → t σ H Q) : PA X e t' := ⟨fun pos pins s σ H Q I q => h.run pos pins s σ H Q I (k σ H Q q)⟩
theorem ps_imp {X : Cx} {e : Stmt} {t t' : TS} (h : PS X e t) (k : ∀ D σ H, t' D σ H → t D σ H) : PS X e t' := ⟨fun pins s σ H D I q => h.run pins s σ H D I (k D σ H q)⟩
theorem pss_imp {X : Cx} {e : List Stmt} {t t' : TS} (h : PSs X e t) (k : ∀ D σ H, t' D σ H → t D σ H) : PSs X e t' := ⟨fun pins s σ H D I q => h.run pins s σ H D I (k D σ H q)⟩
section
variable {K : Fg} {J : Jx} {W : WX} {σ : Sg} {H : Hp} {Q : VK} {F : Hp}
theorem exV.pur {x : Exc} {F' H' : Hp} (h : exV K W F σ H x) (p : Pur F H F' H') : exV K W F' σ H' x := fun d F2 H2 p2 e => h d F2 H2 (p.trans p2) e
/-- a frozen object laid anew -/
theorem pur_new {p : Addr} {o : HO} (le : HLe F H) (n : H p = none) : Pur F H (upd F p o) (upd H p o) := by
  refine ⟨fun a u e => ?_, fun a u e => ?_, fun a u e => ?_, fun a u e => ?_⟩
  · rw [upd_ne (ne_of_none (le a u e) n)]; exact e
  · by_cases h : a = p
    · subst h; rw [upd_same] at e ⊢; exact e
    · rw [upd_ne h] at e ⊢; exact le a u e
  · rw [upd_ne (ne_of_none e n)]; exact e
  · by_cases h : a = p
    · subst h; exact .inr (.inl n)
    · rw [upd_ne h] at e; exact .inl e
/-- an object laid anew, the reader's -/
theorem pur_own {p : Addr} {o : HO} (le : HLe F H) (n : H p = none) : Pur F H F (upd H p o) := by
  refine ⟨.refl, fun a u e => ?_, fun a u e => ?_, fun a u e => .inl e⟩
  · rw [upd_ne (ne_of_none (le a u e) n)]; exact le a u e
  · rw [upd_ne (ne_of_none e n)]; exact e
theorem nw_own {p : Addr} (le : HLe F H) (n : H p = none) : Nw F H [p] := by
  refine ⟨by simp, fun a h => ?_⟩
  have e : a = p := by simpa using h
  subst e;exact ⟨n, le.none_of n⟩
theorem tv_var {i : Nat} : TV K J W (nmE i) σ H Q → tVar i σ H Q := by
  rintro ⟨F, ρ, fp, s, h⟩;unfold nmE at h
  cases e : ρ[i]? with
  | none => rw [e] at h; exact h.elim
  | some o =>
    cases o with
    | none => rw [e] at h; exact h.elim
    | some p =>
      rw [e] at h;obtain ⟨v, l1, l2, l3, e1, e2, w, _⟩ := s.env.get e
      exact ⟨v, e1, h v F H l2 (Pur.refl s.le) w (fun a ha => by rw [e2]; simp [ha])⟩
theorem tv_c {v : V} : TV K J W (fun _ => .ok (.sc v)) σ H Q → tC v σ H Q := by
  rintro ⟨F, ρ, fp, s, h⟩;exact h v F H [] (Pur.refl s.le) (.sc v) (fun _ z => nomatch z)
theorem tv_tf {f : PEnv → ER PV} : TV K J W (frzE f) σ H Q → TF K J W f σ H Q := by
  rintro ⟨F, ρ, fp, s, h⟩;refine ⟨F, ρ, fp, s, ?_⟩
  unfold frzE at h;cases e : f ρ with
  | stk => rw [e] at h; exact h
  | exc x => rw [e] at h; exact h
  | ok p =>
    rw [e] at h;have h : ∀ v F' H' l, Pur F H F' H' → Ow K F' H' v p.frz l → (∀ a ∈ l, a ∈ fp) → Q v H' := h
    intro v F' H' l pu ow nw;have g : HLe F' (fun x => if x ∈ l then H' x else F' x) := fun x o e => by
      show (if x ∈ l then H' x else F' x) = some o
      by_cases z : x ∈ l
      · rw [(nw.2 x z).2] at e; cases e
      · rw [if_neg z]; exact e
    refine h v (fun x => if x ∈ l then H' x else F' x) H' [] ⟨pu.leF.trans g, fun x o e => ?_, pu.same, fun x o e => ?_⟩ (ow.freeze g fun x z o e => ?_) (fun _ z => nomatch z)
    · have e : (if x ∈ l then H' x else F' x) = some o := e
      by_cases z : x ∈ l
      · rw [if_pos z] at e; exact e
      · rw [if_neg z] at e; exact pu.le x o e
    · have e : (if x ∈ l then H' x else F' x) = some o := e
      by_cases z : x ∈ l
      · exact .inr (.inl (nw.2 x z).1)
      · rw [if_neg z] at e; exact pu.nw x o e
    · show (if x ∈ l then H' x else F' x) = some o
      rw [if_pos z]; exact e
theorem nw_pur {F' : Hp} {F1 H1 : Hp} {l : List Addr} (p : Pur F H F1 H1) (nw : Nw F' H1 l) : Nw F' H l := ⟨nw.1, fun a ha => ⟨p.same.none_of (nw.2 a ha).1, (nw.2 a ha).2⟩⟩
theorem okF_pur {o : PV} {F1 H1 : Hp} (p : Pur F H F1 H1) (h : OkF K F H o Q) : OkF K F1 H1 o Q := fun v F' H' l pu ow nw => h v F' H' l (p.trans pu) ow (nw_pur p nw)
theorem tv_two {fa fb : PEnv → ER PV} {g : PV → PV → Option PV} {r : R2} (hg : Op2 K r g) : TF K J W (bind2 fa fb g) σ H Q → tOp r (TV K J W fa) (TV K J W fb) σ H Q := by
  rintro ⟨F, ρ, fp, s, h⟩;refine ⟨F, ρ, fp, s, ?_⟩
  unfold bind2 at h;cases ea : fa ρ with
  | stk => simp only [ea, ER.bind] at h
  | exc x => simp only [ea, ER.bind] at h; exact h
  | ok p =>
    simp only [ea, ER.bind] at h;intro x F1 H1 l1 p1 o1 i1
    refine ⟨F1, ρ, fp, s.pur p1, ?_⟩;cases eb : fb ρ with
    | stk => simp only [eb, ER.bind] at h
    | exc x => simp only [eb, ER.bind] at h; exact exV.pur h p1
    | ok q =>
      simp only [eb, ER.bind] at h;intro y F2 H2 l2 p2 o2 i2
      cases e : g p q with
      | none => simp only [e, ER.of] at h
      | some o =>
        simp only [e, ER.of] at h;exact hg F2 H2 x y p q l1 l2 o Q p2.le (o1.mono p2.leF fun a _ o e => p2.same a o e) o2 e (okF_pur (p1.trans p2) h)
theorem tv_twoS {fa fb : PEnv → ER PV} {g : PV → PV → Option V} {r : R2} (hg : Op2S K r g) : TV K J W (bind2s fa fb g) σ H Q → tOp r (TV K J W fa) (TV K J W fb) σ H Q := by
  rintro ⟨F, ρ, fp, s, h⟩;refine ⟨F, ρ, fp, s, ?_⟩
  unfold bind2s at h;cases ea : fa ρ with
  | stk => simp only [ea, ER.bind] at h
  | exc x => simp only [ea, ER.bind] at h; exact h
  | ok p =>
    simp only [ea, ER.bind] at h;intro x F1 H1 l1 p1 o1 i1
    refine ⟨F1, ρ, fp, s.pur p1, ?_⟩;cases eb : fb ρ with
    | stk => simp only [eb, ER.bind] at h
    | exc x => simp only [eb, ER.bind] at h; exact exV.pur h p1
    | ok q =>
      simp only [eb, ER.bind] at h;intro y F2 H2 l2 p2 o2 i2
      cases e : g p q with
      | none => simp only [e, Option.map, ER.of] at h
      | some o =>
        simp only [e, Option.map, ER.of] at h;exact hg F2 H2 x y p q l1 l2 o Q p2.le (o1.mono p2.leF fun a _ o e => p2.same a o e) o2 e (h o F2 H2 [] (p1.trans p2) (.sc o) (fun _ z => nomatch z))
theorem tb_two {fa fb : PEnv → ER PV} {g : PV → PV → Option Bool} {r : R2} (hg : Op2S K r fun p q => (g p q).map V.bl) {Q : Bool → Hp → Prop} : TB K J W (bind2b fa fb g) σ H Q → tTest (tOp r (TV K J W fa) (TV K J W fb)) σ H Q := by
  rintro ⟨F, ρ, fp, s, h⟩;refine tv_twoS (g := fun p q => (g p q).map V.bl) hg ⟨F, ρ, fp, s, ?_⟩
  unfold bind2b at h;unfold bind2s
  cases ea : fa ρ with
  | stk => simp only [ea, ER.bind] at h
  | exc x => simp only [ea, ER.bind] at h ⊢; exact h
  | ok p =>
    cases eb : fb ρ with
    | stk => simp only [ea, eb, ER.bind] at h
    | exc x => simp only [ea, eb, ER.bind] at h ⊢; exact h
    | ok q =>
      cases e : g p q with
      | none => simp only [ea, eb, ER.bind, e, ER.of] at h
      | some o =>
        simp only [ea, eb, ER.bind, e, Option.map, ER.of] at h ⊢
        intro v F' H' l pu ow hl;cases ow
        exact ⟨o, rfl, h F' H' pu⟩
theorem tv_call {fa : PEnv → ER (List PV)} {g : List PV → Option PV} {r : List V → Hp → VK → Prop} (hg : CallG K r g) : TF K J W (bindA fa g) σ H Q → tCB r (TVA K J W fa) σ H Q := by
  rintro ⟨F, ρ, fp, s, h⟩;refine ⟨F, ρ, fp, s, ?_⟩
  unfold bindA at h;cases ea : fa ρ with
  | stk => simp only [ea, ER.bind] at h
  | exc x => simp only [ea, ER.bind] at h; exact h
  | ok p =>
    simp only [ea, ER.bind] at h;intro x F1 H1 l1 p1 o1 i1
    cases e : g p with
    | none => simp only [e, ER.of] at h
    | some o =>
      simp only [e, ER.of] at h;exact hg F1 H1 x p l1 o Q p1.le o1 e (okF_pur p1 h)
def nilA : PEnv → ER (List PV) := fun _ => .ok []
theorem tva_nil {Q : List V → Hp → Prop} : TVA K J W nilA σ H Q → tNil σ H Q := by
  rintro ⟨F, ρ, fp, s, h⟩;exact h [] F H [] (Pur.refl s.le) .nil (fun _ z => nomatch z)
theorem tva_cons {f : PEnv → ER PV} {g : PEnv → ER (List PV)} {Q : List V → Hp → Prop} : TVA K J W (consA f g) σ H Q → tCons (TV K J W f) (TVA K J W g) σ H Q := by
  rintro ⟨F, ρ, fp, s, h⟩;refine ⟨F, ρ, fp, s, ?_⟩
  unfold consA at h;cases ea : f ρ with
  | stk => simp only [ea, ER.bind] at h
  | exc x => simp only [ea, ER.bind] at h; exact h
  | ok p =>
    simp only [ea, ER.bind] at h;intro x F1 H1 l1 p1 o1 i1
    refine ⟨F1, ρ, fp, s.pur p1, ?_⟩;cases eb : g ρ with
    | stk => simp only [eb, ER.bind] at h
    | exc x => simp only [eb, ER.bind] at h; exact exV.pur h p1
    | ok q =>
      simp only [eb, ER.bind] at h;intro y F2 H2 l2 p2 o2 i2
      exact h (x :: y) F2 H2 (l1 ++ l2) (p1.trans p2) (.cons (o1.mono p2.leF fun a _ o e => p2.same a o e) o2) (fun a ha => (List.mem_append.mp ha).elim (i1 a) (i2 a))
theorem owl_fz {K : Fg} {F H : Hp} : ∀ {vs : List V} {ps : List PV} {l : List Addr}, OwL K F H vs ps l → ps.all PV.fz = true → l = []
  | _, _, _, .nil, _ => rfl
  | _, _, _, .cons h t, e => by
    rw [List.all_cons, Bool.and_eq_true] at e;rw [h.fz0 e.1, owl_fz t e.2]; rfl
end
section
variable {X : Cx} {J : Jx} {W : WX} {e a b c : Expr} {es : List Expr} {pos : Pos}
theorem ve_var {i : Nat} (h : PE X e (tVar i)) : VE X J W e (nmE i) := pe_imp h fun _ _ _ => tv_var
theorem ve_c {v : V} (h : PE X e (tC v)) : VE X J W e (fun _ => .ok (.sc v)) := pe_imp h fun _ _ _ => tv_c
theorem ve_fe {f : PEnv → ER PV} (h : FE X J W e f) : VE X J W e (frzE f) := pe_imp h fun _ _ _ => tv_tf
theorem va_nil : VA X J W [] nilA := pa_imp pa_nil fun _ _ _ => tva_nil
theorem va_cons {f : PEnv → ER PV} {g : PEnv → ER (List PV)} (h : VE X J W e f) (t : VA X J W es g) (hs : starEach (e :: es) X.env = (false, eval e X.env) :: starEach es X.env := by rfl) : VA X J W (e :: es) (consA f g) :=
  pa_imp (pa_cons h t hs) fun _ _ _ => tva_cons
theorem fe_op {op : Operator} {r : R2} {fa fb : PEnv → ER PV} {g : PV → PV → Option PV} (ho : OpR X (binaryOp op) r) (hg : Op2 X.K r g) (ha : VE X J W a fa) (hb : VE X J W b fb) : FE X J W (.BinOp a op b pos) (bind2 fa fb g) :=
  pe_imp (pe_op ho ha hb) fun _ _ _ => tv_two hg
theorem ve_op {op : Operator} {r : R2} {fa fb : PEnv → ER PV} {g : PV → PV → Option V} (ho : OpR X (binaryOp op) r) (hg : Op2S X.K r g) (ha : VE X J W a fa) (hb : VE X J W b fb) : VE X J W (.BinOp a op b pos) (bind2s fa fb g) :=
  pe_imp (pe_op ho ha hb) fun _ _ _ => tv_twoS hg
theorem ve_cmp {op : CmpOp} {r : R2} {fa fb : PEnv → ER PV} {g : PV → PV → Option V} (ho : OpR X (compareOp op) r) (hg : Op2S X.K r g) (ha : VE X J W a fa) (hb : VE X J W b fb) (hm : behindInMarks op b = false) : VE X J W (.Compare a [op] [b] pos) (bind2s fa fb g) :=
  pe_imp (pe_cmpR ho ha hb hm) fun _ _ _ => tv_twoS hg
theorem vt_cmp {op : CmpOp} {r : R2} {fa fb : PEnv → ER PV} {g : PV → PV → Option Bool} (ho : OpR X (compareOp op) r) (hg : Op2S X.K r fun p q => (g p q).map V.bl) (ha : VE X J W a fa) (hb : VE X J W b fb) (hm : behindInMarks op b = false) : VT X J W (.Compare a [op] [b] pos) (bind2b fa fb g) :=
  pt_imp (pt_cmpR ho ha hb hm) fun _ _ _ => tb_two hg
theorem fe_callB {r : List V → Hp → VK → Prop} {g : List PV → Option PV} {f : PEnv → ER (List PV)} {id : String} {x : Str} {p : Pos} (hc : CallR X (.builtin id) r) (hg : CallG X.K r g) (gl : Gl X x) (hm : X.mg x = none) (hv : bootBuiltins x = some (.builtin id))
    (ha : VA X J W (e :: es) f) (hn : x ≠ "__name__" := by decide) (hdb : (x == ("__debug__" : Str)) = false := by decide) (he : starEach (e :: es) X.env = (false, eval e X.env) :: starEach es X.env := by rfl) (hpl : (backTo pos (starEach es X.env)).any (·.1) = false := by rfl) :
    FE X J W (.Call (.Name x p) (e :: es) [] pos) (bindA f g) := pe_imp (pe_callB hc gl hm hv ha hn hdb he hpl) fun _ _ _ => tv_call hg
theorem fe_callTy {r : List V → Hp → VK → Prop} {g : List PV → Option PV} {f : PEnv → ER (List PV)} {T : String} {x : Str} {p : Pos} (hc : CallR X (.type T) r) (hg : CallG X.K r g) (gl : Gl X x) (hm : X.mg x = none) (hv : bootBuiltins x = some (.type T))
    (ha : VA X J W (e :: es) f) (hn : x ≠ "__name__" := by decide) (hdb : (x == ("__debug__" : Str)) = false := by decide) (he : starEach (e :: es) X.env = (false, eval e X.env) :: starEach es X.env := by rfl) (hpl : (backTo pos (starEach es X.env)).any (·.1) = false := by rfl) :
    FE X J W (.Call (.Name x p) (e :: es) [] pos) (bindA f g) := pe_imp (pe_callTy hc gl hm hv ha hn hdb he hpl) fun _ _ _ => tv_call hg
end
end RL
namespace RL
open PySem PySem.Spec PyProof.Rows L2
section
variable (K : Fg) (J : Jx) (W : WX) (P : List Nat)
def exG (F H : Hp) (fp : List Addr) (σ : Sg) (x : Exc) (ρ' : PEnv) : Prop := ∀ d F' H' fp', Aft F H fp F' H' fp' → St K J F' H' σ ρ' fp' → ExcAt K F' H' d x → W (.ref x.C) d σ H'
/-- results owned by the reader -/
def TG (f : PEnv → GR PV) : TE := fun σ H Q => ∃ F ρ fp, St K J F H σ ρ fp ∧ match f ρ with
  | .ok p ρ' => ∀ v F' H' fp' l, Aft F H fp F' H' (fp' ++ l) → St K J F' H' σ ρ' fp' → Ow K F' H' v p l → Q v H'
  | .exc x ρ' => exG K J W F H fp σ x ρ'
  | .stk => False
/-- frozen results -/
def TZ (f : PEnv → GR PV) : TE := fun σ H Q => ∃ F ρ fp, St K J F H σ ρ fp ∧ match f ρ with
  | .ok p ρ' => ∀ v F' H' fp', Aft F H fp F' H' fp' → St K J F' H' σ ρ' fp' → Ow K F' H' v p [] → Q v H'
  | .exc x ρ' => exG K J W F H fp σ x ρ'
  | .stk => False
def TZA (f : PEnv → GR (List PV)) : TA := fun σ H Q => ∃ F ρ fp, St K J F H σ ρ fp ∧ match f ρ with
  | .ok ps ρ' => ∀ vs F' H' fp', Aft F H fp F' H' fp' → St K J F' H' σ ρ' fp' → OwL K F' H' vs ps [] → Q vs H'
  | .exc x ρ' => exG K J W F H fp σ x ρ'
  | .stk => False
def TGB (c : PEnv → GR Bool) : TT := fun σ H Q => ∃ F ρ fp, St K J F H σ ρ fp ∧ match c ρ with
  | .ok b ρ' => ∀ F' H' fp', Aft F H fp F' H' fp' → St K J F' H' σ ρ' fp' → Q b H'
  | .exc x ρ' => exG K J W F H fp σ x ρ'
  | .stk => False
end
abbrev GE (X : Cx) (J : Jx) (W : WX) (e : Expr) (f : PEnv → GR PV) : Prop := PE X e (TG X.K J W f)
abbrev GZ (X : Cx) (J : Jx) (W : WX) (e : Expr) (f : PEnv → GR PV) : Prop := PE X e (TZ X.K J W f)
abbrev GA (X : Cx) (J : Jx) (W : WX) (es : List Expr) (f : PEnv → GR (List PV)) : Prop := PA X es (TZA X.K J W f)
abbrev GT (X : Cx) (J : Jx) (W : WX) (e : Expr) (c : PEnv → GR Bool) : Prop := PT X e (TGB X.K J W c)
abbrev RS (X : Cx) (J : Jx) (W : WX) (P : List Nat) (s : Stmt) (f : PEnv → SR) : Prop := PS X s (TSt X.K J W P f)
section
variable {K : Fg} {J : Jx} {W : WX} {P : List Nat} {σ : Sg} {H : Hp} {Q : VK} {F : Hp} {fp : List Addr} {D : Ends}
theorem St.aft0 {ρ : PEnv} (s : St K J F H σ ρ fp) : Aft F H fp F H fp := (Pur.refl s.le).aft s
theorem exG.aft {x : Exc} {ρ' : PEnv} {F1 H1 : Hp} {fp1 : List Addr} (h : exG K J W F H fp σ x ρ') (a : Aft F H fp F1 H1 fp1) : exG K J W F1 H1 fp1 σ x ρ' := fun d F' H' fp' b s e => h d F' H' fp' (a.trans b) s e
theorem exV_G {x : Exc} {ρ : PEnv} (h : exG K J W F H fp σ x ρ) (s : St K J F H σ ρ fp) : exV K W F σ H x := fun d F' H' p e => h d F' H' fp (p.aft s) (s.pur p) e
theorem envK.aft {ρ' : PEnv} {Q : Sg → Hp → Prop} {σ1 : Sg} {F1 H1 : Hp} {fp1 : List Addr} (h : envK K J P F H fp σ ρ' Q) (a : Aft F H fp F1 H1 fp1) (p : Pt P σ σ1) : envK K J P F1 H1 fp1 σ1 ρ' Q := fun σ' F' H' fp' b q s => h σ' F' H' fp' (a.trans b) (p.trans q) s
theorem Post.aft {r : SR} {σ1 : Sg} {F1 H1 : Hp} {fp1 : List Addr} (h : Post K J W P r F H fp σ D) (a : Aft F H fp F1 H1 fp1) (p : Pt P σ σ1) : Post K J W P r F1 H1 fp1 σ1 D := by
  cases r with
  | nx ρ => exact envK.aft h a p
  | bk ρ => exact envK.aft h a p
  | ct ρ => exact envK.aft h a p
  | rt v ρ => exact fun v σ' F' H' fp' l b q s o => h v σ' F' H' fp' l (a.trans b) (p.trans q) s o
  | exc x ρ => exact fun d σ' F' H' fp' b q s e => h d σ' F' H' fp' (a.trans b) (p.trans q) s e
  | stk => exact h
theorem aft_new {ρ : PEnv} {F' H' : Hp} {l : List Addr} (s : St K J F H σ ρ fp) (p : Pur F H F' H') (nw : Nw F' H l) : Aft F H fp F' H' (fp ++ l) := by
  have a := p.aft s;refine ⟨a.leF, a.le, a.ext, a.tr, fun x hx => ?_, a.nwF, ?_, fun x hx => ?_⟩
  · rcases List.mem_append.mp hx with z | z
    · exact .inl z
    · exact .inr (nw.2 x z).1
  · refine List.nodup_append.mpr ⟨s.nd, nw.1, fun x hx y hy e => ?_⟩
    subst e;obtain ⟨o, h⟩ := s.env.there x hx
    rw [(nw.2 x hy).1] at h; cases h
  · rcases List.mem_append.mp hx with z | z
    · exact a.dis x z
    · exact (nw.2 x z).2
theorem tg_tf {f : PEnv → ER PV} : TG K J W (fG f) σ H Q → TF K J W f σ H Q := by
  rintro ⟨F, ρ, fp, s, h⟩;refine ⟨F, ρ, fp, s, ?_⟩
  unfold fG at h;cases e : f ρ with
  | stk => simp only [e, ER.at] at h
  | exc x => simp only [e, ER.at] at h; exact exV_G h s
  | ok p =>
    simp only [e, ER.at] at h;exact fun v F' H' l p o nw => h v F' H' fp l (aft_new s p nw) (s.pur p) o
theorem tg_tv {f : PEnv → ER PV} : TG K J W (vG f) σ H Q → TV K J W f σ H Q := by
  rintro ⟨F, ρ, fp, s, h⟩;refine ⟨F, ρ, fp, s, ?_⟩
  unfold vG at h;cases e : f ρ with
  | stk => simp only [e, ER.bind, ER.at] at h
  | exc x => simp only [e, ER.bind, ER.at] at h; exact exV_G h s
  | ok p =>
    simp only [e, ER.bind, chkF] at h;intro v F' H' l pu ow hl
    by_cases c : p.fz = true
    · rw [if_pos c] at h;have z := ow.fz0 c
      subst z;exact h v F' H' fp [] (by rw [List.append_nil]; exact pu.aft s) (s.pur pu) ow
    · rw [if_neg c] at h; exact h.elim
theorem tz_tv {f : PEnv → ER PV} : TZ K J W (vG f) σ H Q → TV K J W f σ H Q := by
  rintro ⟨F, ρ, fp, s, h⟩;refine ⟨F, ρ, fp, s, ?_⟩
  unfold vG at h;cases e : f ρ with
  | stk => simp only [e, ER.bind, ER.at] at h
  | exc x => simp only [e, ER.bind, ER.at] at h; exact exV_G h s
  | ok p =>
    simp only [e, ER.bind, chkF] at h;intro v F' H' l pu ow hl
    by_cases c : p.fz = true
    · rw [if_pos c] at h;have z := ow.fz0 c
      subst z;exact h v F' H' fp (pu.aft s) (s.pur pu) ow
    · rw [if_neg c] at h; exact h.elim
theorem tz_tg {f : PEnv → GR PV} : TZ K J W (frzG f) σ H Q → TG K J W f σ H Q := by
  rintro ⟨F, ρ, fp, s, h⟩;refine ⟨F, ρ, fp, s, ?_⟩
  unfold frzG at h;cases e : f ρ with
  | stk => simp only [e] at h
  | exc x ρ' => simp only [e] at h; exact h
  | ok p ρ' =>
    simp only [e] at h;intro v F' H' fp' l a s' o
    obtain ⟨F2, b, le, k, n⟩ := a.freeze;refine h v F2 H' fp' b ⟨b.le, s'.env.mono le (fun _ _ _ e => e), s'.nd, b.dis, J.mono _ _ le s'.amb⟩ (o.freeze le k)
theorem tgb_tb {c : PEnv → ER Bool} {Q : Bool → Hp → Prop} : TGB K J W (fun ρ => (c ρ).at ρ) σ H Q → TB K J W c σ H Q := by
  rintro ⟨F, ρ, fp, s, h⟩;refine ⟨F, ρ, fp, s, ?_⟩
  cases e : c ρ with
  | stk => simp only [e, ER.at] at h
  | exc x => simp only [e, ER.at] at h; exact exV_G h s
  | ok p =>
    simp only [e, ER.at] at h;exact fun F' H' p => h F' H' fp (p.aft s) (s.pur p)
theorem aft_okF {ρ' : PEnv} {F1 H1 : Hp} {fp1 : List Addr} {o : PV} (a : Aft F H fp F1 H1 fp1) (s : St K J F1 H1 σ ρ' fp1)
    (h : ∀ v F' H' fp' l, Aft F H fp F' H' (fp' ++ l) → St K J F' H' σ ρ' fp' → Ow K F' H' v o l → Q v H') : OkF K F1 H1 o Q := fun v F' H' l pu ow nw => h v F' H' fp1 l (a.trans (aft_new s pu nw)) (s.pur pu) ow
theorem tz_two {fa fb : PEnv → GR PV} {g : PV → PV → Option PV} {r : R2} (hg : Op2 K r g) : TG K J W (bindG2 fa fb g) σ H Q → tOp r (TZ K J W fa) (TZ K J W fb) σ H Q := by
  rintro ⟨F, ρ, fp, s, h⟩;refine ⟨F, ρ, fp, s, ?_⟩
  unfold bindG2 at h;cases ea : fa ρ with
  | stk => simp only [ea, GR.bind] at h
  | exc x ρ' => simp only [ea, GR.bind] at h; exact h
  | ok p ρ1 =>
    simp only [ea, GR.bind] at h;intro x F1 H1 fp1 a1 s1 o1
    refine ⟨F1, ρ1, fp1, s1, ?_⟩;cases eb : fb ρ1 with
    | stk => simp only [eb, GR.bind] at h
    | exc x ρ' => simp only [eb, GR.bind] at h; exact exG.aft h a1
    | ok q ρ2 =>
      simp only [eb, GR.bind] at h;intro y F2 H2 fp2 a2 s2 o2
      cases e : g p q with
      | none => simp only [e, ER.of, ER.at] at h
      | some o =>
        simp only [e, ER.of, ER.at] at h;exact hg F2 H2 x y p q [] [] o Q s2.le (o1.any a2.leF) o2 e (aft_okF (a1.trans a2) s2 h)
theorem tz_call {fa : PEnv → GR (List PV)} {g : List PV → Option PV} {r : List V → Hp → VK → Prop} (hg : CallG K r g) : TG K J W (bindGA fa g) σ H Q → tCB r (TZA K J W fa) σ H Q := by
  rintro ⟨F, ρ, fp, s, h⟩;refine ⟨F, ρ, fp, s, ?_⟩
  unfold bindGA at h;cases ea : fa ρ with
  | stk => simp only [ea, GR.bind] at h
  | exc x ρ' => simp only [ea, GR.bind] at h; exact h
  | ok p ρ1 =>
    simp only [ea, GR.bind] at h;intro x F1 H1 fp1 a1 s1 o1
    cases e : g p with
    | none => simp only [e, ER.of, ER.at] at h
    | some o =>
      simp only [e, ER.of, ER.at] at h;exact hg F1 H1 x p [] o Q s1.le o1 e (aft_okF a1 s1 h)
def nilG : PEnv → GR (List PV) := fun ρ => .ok [] ρ
theorem tza_nil {Q : List V → Hp → Prop} : TZA K J W nilG σ H Q → tNil σ H Q := by
  rintro ⟨F, ρ, fp, s, h⟩;exact h [] F H fp s.aft0 s .nil
theorem tza_cons {f : PEnv → GR PV} {g : PEnv → GR (List PV)} {Q : List V → Hp → Prop} : TZA K J W (consG f g) σ H Q → tCons (TZ K J W f) (TZA K J W g) σ H Q := by
  rintro ⟨F, ρ, fp, s, h⟩;refine ⟨F, ρ, fp, s, ?_⟩
  unfold consG at h;cases ea : f ρ with
  | stk => simp only [ea, GR.bind] at h
  | exc x ρ' => simp only [ea, GR.bind] at h; exact h
  | ok p ρ1 =>
    simp only [ea, GR.bind] at h;intro x F1 H1 fp1 a1 s1 o1
    refine ⟨F1, ρ1, fp1, s1, ?_⟩;cases eb : g ρ1 with
    | stk => simp only [eb, GR.bind] at h
    | exc x ρ' => simp only [eb, GR.bind] at h; exact exG.aft h a1
    | ok q ρ2 =>
      simp only [eb, GR.bind] at h;intro y F2 H2 fp2 a2 s2 o2
      exact h (x :: y) F2 H2 fp2 (a1.trans a2) s2 (.cons (l := []) (ls := []) (o1.any a2.leF) o2)
theorem Aft.perm {F' H' : Hp} {l l' : List Addr} (a : Aft F H fp F' H' l) (p : l'.Perm l) : Aft F H fp F' H' l' :=
  ⟨a.leF, a.le, a.ext, a.tr, fun x hx => a.nw x (p.subset hx), a.nwF, p.symm.nodup a.nd, fun x hx => a.dis x (p.subset hx)⟩
/-- a name's thing is frozen for good -/
def frE (i : Nat) : PEnv → GR PV := fun ρ => match ρ[i]? with
  | some (some p) => .ok p.frz (ρ.set i (some p.frz))
  | _ => .stk
def skipS : PEnv → SR := .nx
theorem exG_post {x : Exc} {ρ' : PEnv} (h : Post K J W P (.exc x ρ') F H fp σ D) : exG K J W F H fp σ x ρ' := fun d F' H' fp' a s e => h d σ F' H' fp' a .refl s e
theorem ts_skip : TSt K J W P skipS D σ H → tNext D σ H := by
  rintro ⟨F, ρ, fp, s, h⟩;exact h σ F H fp s.aft0 .refl s
theorem ts_seq {f g : PEnv → SR} : TSt K J W P (seqS f g) D σ H → tSeq (TSt K J W P f) (TSt K J W P g) D σ H := by
  rintro ⟨F, ρ, fp, s, h⟩;refine ⟨F, ρ, fp, s, ?_⟩
  unfold seqS at h;cases e : f ρ with
  | nx ρ' => rw [e] at h; exact fun σ' F' H' fp' a p s' => ⟨F', ρ', fp', s', Post.aft h a p⟩
  | bk ρ' => rw [e] at h; exact h
  | ct ρ' => rw [e] at h; exact h
  | rt p ρ' => rw [e] at h; exact h
  | exc x ρ' => rw [e] at h; exact h
  | stk => rw [e] at h; exact h
theorem ts_ret {g : PEnv → GR PV} : TSt K J W P (retG g) D σ H → tRet (TG K J W g) D σ H := by
  rintro ⟨F, ρ, fp, s, h⟩;refine ⟨F, ρ, fp, s, ?_⟩
  unfold retG at h;cases e : g ρ with
  | ok p ρ' => rw [e] at h; exact fun v F' H' fp' l a s' o => h v σ F' H' fp' l a .refl s' o
  | exc x ρ' => rw [e] at h; exact exG_post h
  | stk => rw [e] at h; exact h
theorem St.put {ρ : PEnv} {i : Nat} {v : V} {p : PV} {l : List Addr} (s : St K J F H σ ρ fp) (hi : i < ρ.length) (a : (fp ++ l).Nodup) (d : ∀ x ∈ l, F x = none) (o : Ow K F H v p l) :
    ∃ fp', St K J F H (σ.set i (some v)) (ρ.set i (some p)) fp' ∧ ∃ q, fp'.Sublist q ∧ q.Perm (fp ++ l) := by
  obtain ⟨l1, l2, l3, e, k⟩ := s.env.put hi;subst e;have q : (l1 ++ (l ++ l3)).Sublist (l1 ++ (l ++ (l2 ++ l3))) := List.Sublist.append (List.Sublist.refl _) (List.Sublist.append (List.Sublist.refl _) (List.sublist_append_right _ _))
  have p : (l1 ++ (l ++ (l2 ++ l3))).Perm (l1 ++ (l2 ++ l3) ++ l) := by
    rw [List.append_assoc];exact List.Perm.append_left l1 List.perm_append_comm
  refine ⟨_, ⟨s.le, k o, (p.symm.nodup a).sublist q, fun x hx => ?_, s.amb⟩, _, q, p⟩
  rcases List.mem_append.mp (p.subset (q.subset hx)) with z | z
  · exact s.dis x z
  · exact d x z
theorem ts_set {i : Nat} {g : PEnv → GR PV} (hP : i ∉ P) : TSt K J W P (setG i g) D σ H → (∀ F ρ fp, St K J F H σ ρ fp → i < ρ.length) → tAsg (TG K J W g) (gName i) D σ H := by
  rintro ⟨F, ρ, fp, s, h⟩ hl;have hi := hl F ρ fp s
  refine ⟨F, ρ, fp, s, ?_⟩;unfold setG at h;cases e : g ρ with
  | ok p ρ' =>
    rw [e] at h;intro v F' H' fp' l a s' o
    have hi' : i < ρ'.length := by rw [← s'.env.length, s.env.length]; exact hi
    obtain ⟨fp2, s2, q, sub, pm⟩ := s'.put hi' a.nd (fun x hx => a.dis x (List.mem_append_right _ hx)) o
    exact h _ F' H' fp2 ((a.perm pm).less sub) (Pt.set hP) s2
  | exc x ρ' => rw [e] at h; exact exG_post h
  | stk => rw [e] at h; exact h
theorem ts_if {c : PEnv → GR Bool} {t u : PEnv → SR} : TSt K J W P (ifG c t u) D σ H → tIfS (TGB K J W c) (TSt K J W P t) (TSt K J W P u) D σ H := by
  rintro ⟨F, ρ, fp, s, h⟩;refine ⟨F, ρ, fp, s, ?_⟩
  unfold ifG at h;cases e : c ρ with
  | ok b ρ' =>
    rw [e] at h;intro F' H' fp' a s'
    cases b with
    | true => exact ⟨F', ρ', fp', s', Post.aft h a .refl⟩
    | false => exact ⟨F', ρ', fp', s', Post.aft h a .refl⟩
  | exc x ρ' => rw [e] at h; exact exG_post h
  | stk => rw [e] at h; exact h
end
section
variable {X : Cx} {J : Jx} {W : WX} {P : List Nat} {e a b c : Expr} {es : List Expr} {st : Stmt} {sts sts2 : List Stmt} {pos : Pos} {f g : PEnv → GR PV}
theorem ge_fe {f : PEnv → ER PV} (h : FE X J W e f) : GE X J W e (fG f) := pe_imp h fun _ _ _ => tg_tf
theorem ge_ve {f : PEnv → ER PV} (h : VE X J W e f) : GE X J W e (vG f) := pe_imp h fun _ _ _ => tg_tv
theorem gz_ve {f : PEnv → ER PV} (h : VE X J W e f) : GZ X J W e (vG f) := pe_imp h fun _ _ _ => tz_tv
theorem gz_ge (h : GE X J W e f) : GZ X J W e (frzG f) := pe_imp h fun _ _ _ => tz_tg
theorem gt_vt {c : PEnv → ER Bool} (h : VT X J W e c) : GT X J W e (fun ρ => (c ρ).at ρ) := pt_imp h fun _ _ _ => tgb_tb
theorem ga_nil : GA X J W [] nilG := pa_imp pa_nil fun _ _ _ => tza_nil
theorem ga_cons {g : PEnv → GR (List PV)} (h : GZ X J W e f) (t : GA X J W es g) (hs : starEach (e :: es) X.env = (false, eval e X.env) :: starEach es X.env := by rfl) : GA X J W (e :: es) (consG f g) :=
  pa_imp (pa_cons h t hs) fun _ _ _ => tza_cons
theorem ge_op {op : Operator} {r : R2} {fa fb : PEnv → GR PV} {g : PV → PV → Option PV} (ho : OpR X (binaryOp op) r) (hg : Op2 X.K r g) (ha : GZ X J W a fa) (hb : GZ X J W b fb) : GE X J W (.BinOp a op b pos) (bindG2 fa fb g) :=
  pe_imp (pe_op ho ha hb) fun _ _ _ => tz_two hg
theorem rss_nil : RSs X J W P [] skipS := pss_imp pss_nil fun _ _ _ => ts_skip
theorem rss_one {f : PEnv → SR} (h : RS X J W P st f) : RSs X J W P [st] f := pss_one h
theorem rss_cons {f g : PEnv → SR} (h : RS X J W P st f) (t : RSs X J W P sts g) : RSs X J W P (st :: sts) (seqS f g) := pss_imp (pss_cons h t) fun _ _ _ => ts_seq
theorem rs_ret (h : GE X J W e g) : RS X J W P (.Return (some e) pos) (retG g) := ps_imp (ps_ret h) fun _ _ _ => ts_ret
theorem rs_if {c : Expr} {cc : PEnv → GR Bool} {f g : PEnv → SR} (hc : GT X J W c cc) (h : RSs X J W P sts f) (k : RSs X J W P sts2 g) : RS X J W P (.If c sts sts2 pos) (ifG cc f g) := ps_imp (ps_if hc h k) fun _ _ _ => ts_if
theorem ps_impI {X : Cx} {e : Stmt} {t t' : TS} (h : PS X e t) (k : ∀ D σ H, σ.length = X.N.length → t' D σ H → t D σ H) : PS X e t' := ⟨fun pins s σ H D I q => h.run pins s σ H D I (k D σ H I.len q)⟩
theorem rs_set {i : Nat} {x : Str} {pos' : Pos} (hN : X.N.Nodup) (hi : X.N[i]? = some x) (hx : Loc X.env.scope x) (hP : i ∉ P) (h : GE X J W e g) (hs : swapsWith e (some (.Name x pos')) pos.line X.env = pure false := by rfl) (hf : X.fn x = true ∨ X.env.scope.names.lookup x = some .local := by first | exact .inl rfl | exact .inr rfl) :
    RS X J W P (.Assign [.Name x pos'] e pos) (setG i g) :=
  ps_impI (ps_set hN hi hx h hs hf) fun _ _ _ hl q => ts_set hP q fun F ρ fp s => by rw [← s.env.length, hl]; exact (List.getElem?_eq_some_iff.mp hi).1
end
end RL
namespace RL
noncomputable section
open PySem PySem.Spec PyProof.Rows L2
def TGt (K : Fg) (J : Jx) (P : List Nat) (g : PV → PEnv → Option PEnv) : L2.TG := fun v σ H Q => ∃ F ρ fp p, St K J F H σ ρ fp ∧ Ow K F H v p [] ∧ match g p ρ with
  | some ρ' => envK K J P F H fp σ ρ' Q
  | none => False
def TGts (K : Fg) (J : Jx) (P : List Nat) (g : List PV → PEnv → Option PEnv) : L2.TGs := fun vs σ H Q => ∃ F ρ fp ps, St K J F H σ ρ fp ∧ OwL K F H vs ps [] ∧ match g ps ρ with
  | some ρ' => envK K J P F H fp σ ρ' Q
  | none => False
abbrev RG (X : Cx) (J : Jx) (P : List Nat) (t : Expr) (g : PV → PEnv → Option PEnv) : Prop := PG X t (TGt X.K J P g)
abbrev RGs (X : Cx) (J : Jx) (P : List Nat) (t : List Expr) (g : List PV → PEnv → Option PEnv) : Prop := PGs X t (TGts X.K J P g)
theorem pg_imp {X : Cx} {e : Expr} {t t' : L2.TG} (h : PG X e t) (k : ∀ v σ H Q, σ.length = X.N.length → t' v σ H Q → t v σ H Q) : PG X e t' := ⟨fun pins s σ H v u Q I r q => h.run pins s σ H v u Q I r (k v σ H Q I.len q)⟩
theorem pgs_imp {X : Cx} {e : List Expr} {t t' : L2.TGs} (h : PGs X e t) (k : ∀ v σ H Q, t' v σ H Q → t v σ H Q) : PGs X e t' := ⟨fun pins s σ H v u Q I r q => h.run pins s σ H v u Q I r (k v σ H Q q)⟩
section
variable {K : Fg} {J : Jx} {W : WX} {P : List Nat} {σ : Sg} {H : Hp} {F : Hp} {fp : List Addr} {D : Ends}
theorem tt_nm {i : Nat} {v : V} {Q : Sg → Hp → Prop} (hP : i ∉ P) (hl : i < σ.length) : TGt K J P (nmT i) v σ H Q → gName i v σ H Q := by
  rintro ⟨F, ρ, fp, p, s, o, h⟩;have hi : i < ρ.length := by rw [← s.env.length]; exact hl
  obtain ⟨fp2, s2, q, sub, pm⟩ := s.put (l := []) hi (by rw [List.append_nil]; exact s.nd) (fun _ z => nomatch z) o
  rw [List.append_nil] at pm;exact h _ F H fp2 ((s.aft0.perm pm).less sub) (Pt.set hP) s2
theorem tt_nil {vs : List V} {Q : Sg → Hp → Prop} : TGts K J P nilT vs σ H Q → gNil vs σ H Q := by
  rintro ⟨F, ρ, fp, p, s, o, h⟩;cases p with
  | nil => exact ⟨o.nilE.1, h σ F H fp s.aft0 .refl s⟩
  | cons _ _ => exact h.elim
theorem tt_cons {g : PV → PEnv → Option PEnv} {gs : List PV → PEnv → Option PEnv} {vs : List V} {Q : Sg → Hp → Prop} : TGts K J P (consT g gs) vs σ H Q → gCons (TGt K J P g) (TGts K J P gs) vs σ H Q := by
  rintro ⟨F, ρ, fp, p, s, o, h⟩;cases p with
  | nil => exact h.elim
  | cons p ps =>
    obtain ⟨v, vs, rfl, o, t⟩ := o.consE;refine ⟨v, vs, rfl, F, ρ, fp, p, s, o, ?_⟩;unfold consT at h;cases e : g p ρ with
    | none => simp only [e, Option.bind] at h
    | some ρ1 =>
      simp only [e, Option.bind] at h;intro σ' F' H' fp' a q s'
      refine ⟨F', ρ1, fp', ps, s', t.any a.leF, ?_⟩;cases e2 : gs ps ρ1 with
      | none => simp only [e2] at h
      | some ρ2 => simp only [e2] at h; exact envK.aft h a q
theorem tt_tup {n : Nat} {gs : List PV → PEnv → Option PEnv} {v : V} {Q : Sg → Hp → Prop} : TGt K J P (tupT n gs) v σ H Q → gTup K n (TGts K J P gs) v σ H Q := by
  rintro ⟨F, ρ, fp, p, s, o, h⟩;unfold tupT at h
  cases p with
  | tup ps =>
    simp only at h
    obtain ⟨a, vs, rfl, hs, t⟩ := o.nilE;by_cases c : ps.length = n
    · rw [if_pos c] at h;exact ⟨a, vs, rfl, (.inl (.inl (s.le _ _ hs))), by rw [t.length, c], F, ρ, fp, ps, s, t, h⟩
    · rw [if_neg c] at h; exact h.elim
  | _ => exact h.elim
end
section
variable {X : Cx} {J : Jx} {W : WX} {P : List Nat} {e a b c : Expr} {es : List Expr} {pos : Pos}
theorem rg_nm {i : Nat} {x : Str} (hN : X.N.Nodup) (hi : X.N[i]? = some x) (hx : Loc X.env.scope x) (hP : i ∉ P) (hf : X.fn x = true ∨ X.env.scope.names.lookup x = some .local := by first | exact .inl rfl | exact .inr rfl | assumption) : RG X J P (.Name x pos) (nmT i) :=
  pg_imp (pg_name hN hi hx hf) fun _ _ _ _ hl => tt_nm hP (by rw [hl]; exact (List.getElem?_eq_some_iff.mp hi).1)
theorem rg_nil : RGs X J P [] nilT := pgs_imp pgs_nil fun _ _ _ _ => tt_nil
theorem rg_cons {g : PV → PEnv → Option PEnv} {gs : List PV → PEnv → Option PEnv} (h : RG X J P e g) (t : RGs X J P es gs) (hs : (assignEach (e :: es) X.env).map (·.2) = assign e X.env :: (assignEach es X.env).map (·.2) := by rfl) : RGs X J P (e :: es) (consT g gs) :=
  pgs_imp (pgs_cons h t hs) fun _ _ _ _ => tt_cons
theorem rg_tup {k n : Nat} {gs : List PV → PEnv → Option PEnv} (hc : X.calm = true) (h : RGs X J P es gs) (hn : (assignEach es X.env).length = n := by rfl) (hst : (assignEach es X.env).findIdx? (·.1) = none := by rfl) : RG X J P (.Tuple es k pos) (tupT n gs) :=
  pg_imp (pg_tup hc h hn hst) fun _ _ _ _ _ => tt_tup
end
/-- what an iterator gives, by turns -/
structure Wk (K : Fg) (I : It) (F0 : Hp) (ps : List PV) : Prop where
  go : ∀ i F H, HLe F0 F → HLe F H → i < ps.length → I.go i H
  stop : ∀ F H, HLe F0 F → HLe F H → I.stop ps.length H
  yld : ∀ i F H x H', HLe F0 F → HLe F H → i < ps.length → I.yld i H x H' → ∃ F' p, ps[i]? = some p ∧ Pur F H F' H' ∧ Ow K F' H' x p []
def TIt (K : Fg) (J : Jx) (W : WX) (it : PEnv → GR (List PV)) : TI := fun σ H R => ∃ F ρ fp, St K J F H σ ρ fp ∧ match it ρ with
  | .ok ps ρ' => ∀ I F' H' fp', Aft F H fp F' H' fp' → St K J F' H' σ ρ' fp' → Wk K I F' ps → R I H'
  | .exc x ρ' => exG K J W F H fp σ x ρ'
  | .stk => False
abbrev RI (X : Cx) (J : Jx) (W : WX) (tg e : Expr) (it : PEnv → GR (List PV)) : Prop := PI X tg e (TIt X.K J W it)
theorem pi_imp {X : Cx} {tg e : Expr} {t t' : TI} (h : PI X tg e t) (k : ∀ σ H R, t' σ H R → t σ H R) : PI X tg e t' := ⟨fun pins s σ H R I q => h.run pins s σ H R I (k σ H R q)⟩
def whileN (c : PEnv → GR Bool) (b : PEnv → SR) : Nat → PEnv → SR
  | 0, _ => .stk
  | n + 1, ρ => match c ρ with
    | .ok true ρ1 => match b ρ1 with
      | .nx ρ2 => whileN c b n ρ2
      | .ct ρ2 => whileN c b n ρ2
      | .bk ρ2 => .nx ρ2
      | r => r
    | .ok false ρ1 => .nx ρ1
    | .exc x ρ1 => .exc x ρ1
    | .stk => .stk
open Classical in
def whileG (c : PEnv → GR Bool) (b : PEnv → SR) : PEnv → SR := fun ρ => if h : ∃ n, whileN c b n ρ ≠ .stk then whileN c b h.choose ρ else .stk
section
variable {K : Fg} {J : Jx} {W : WX} {P : List Nat} {σ : Sg} {H : Hp} {F : Hp} {fp : List Addr} {D : Ends}
theorem ts_for {it : PEnv → GR (List PV)} {g : PV → PEnv → Option PEnv} {b : PEnv → SR} : TSt K J W P (forG it g b) D σ H → tFor (TIt K J W it) (TGt K J P g) (TSt K J W P b) D σ H := by
  rintro ⟨F, ρ, fp, s, h⟩;refine ⟨F, ρ, fp, s, ?_⟩
  unfold forG at h;cases e : it ρ with
  | stk => simp only [e] at h; exact h
  | exc x ρ' => simp only [e] at h; exact exG_post h
  | ok ps ρ' =>
    simp only [e] at h;intro I F1 H1 fp1 a1 s1 wk
    refine ⟨fun i m σ' H' => i ≤ ps.length ∧ m = ps.length - i ∧ ∃ F' ρ' fp', HLe F1 F' ∧ St K J F' H' σ' ρ' fp' ∧ Post K J W P (forL g b (ps.drop i) ρ') F' H' fp' σ' D, ⟨ps.length, Nat.zero_le _, rfl, F1, ρ', fp1, .refl, s1, Post.aft h a1 .refl⟩, ?_⟩
    rintro i m σ2 H2 ⟨hi, rfl, F2, ρ2, fp2, l2, s2, p2⟩;by_cases hlt : i < ps.length
    · refine .inr ⟨wk.go i F2 H2 l2 s2.le hlt, fun σ' H' => ∃ F' ρ' fp', HLe F1 F' ∧ St K J F' H' σ' ρ' fp' ∧ Post K J W P (forL g b (ps.drop (i + 1)) ρ') F' H' fp' σ' D, fun σ' H' q => ⟨ps.length - (i + 1), by omega, hlt, rfl, q⟩, fun x H3 y => ?_⟩
      obtain ⟨F3, p, ep, pu, o⟩ := wk.yld i F2 H2 x H3 l2 s2.le hlt y;refine ⟨F3, ρ2, fp2, p, s2.pur pu, o, ?_⟩;have ed : ps.drop i = p :: ps.drop (i + 1) := by
        obtain ⟨h1, h2⟩ := List.getElem?_eq_some_iff.mp ep;rw [List.drop_eq_getElem_cons h1, h2]
      have p3 := Post.aft p2 (pu.aft s2) (.refl : Pt P σ2 σ2);rw [ed] at p3;unfold forL at p3;cases eg : g p ρ2 with
      | none => simp only [eg] at p3; exact p3
      | some ρ3 =>
        simp only [eg] at p3;intro σ4 F4 H4 fp4 a4 q4 s4
        refine ⟨F4, ρ3, fp4, s4, ?_⟩;have p4 := Post.aft p3 a4 q4;have fin : ∀ ρ5, Post K J W P (forL g b (ps.drop (i + 1)) ρ5) F4 H4 fp4 σ4 D → envK K J P F4 H4 fp4 σ4 ρ5 fun σ' H' => ∃ F' ρ' fp', HLe F1 F' ∧ St K J F' H' σ' ρ' fp' ∧ Post K J W P (forL g b (ps.drop (i + 1)) ρ') F' H' fp' σ' D :=
          fun ρ5 p5 σ5 F5 H5 fp5 a5 q5 s5 => ⟨F5, ρ5, fp5, ((l2.trans pu.leF).trans a4.leF).trans a5.leF, s5, Post.aft p5 a5 q5⟩
        cases eb : b ρ3 with
        | nx ρ5 => simp only [eb] at p4; exact fin ρ5 p4
        | ct ρ5 => simp only [eb] at p4; exact fin ρ5 p4
        | bk ρ5 => simp only [eb] at p4; exact p4
        | rt v ρ5 => simp only [eb] at p4; exact p4
        | exc x ρ5 => simp only [eb] at p4; exact p4
        | stk => simp only [eb] at p4; exact p4
    · have ei : i = ps.length := by omega
      subst ei;rw [List.drop_length] at p2
      exact .inl ⟨wk.stop F2 H2 l2 s2.le, p2 σ2 F2 H2 fp2 s2.aft0 .refl s2⟩
theorem mem_nil {l : List Addr} (h : ∀ a ∈ l, a ∈ ([] : List Addr)) : l = [] := by
  cases l with
  | nil => rfl
  | cons a l => exact absurd (h a List.mem_cons_self) (by simp)
theorem OwL.getP {K : Fg} {F H : Hp} : ∀ {vs : List V} {ps : List PV} {l : List Addr} {i : Nat} {p : PV}, OwL K F H vs ps l → ps[i]? = some p → ∃ v l', vs[i]? = some v ∧ Ow K F H v p l' ∧ ∀ a ∈ l', a ∈ l
  | _, _, _, i, v, .nil, h => by simp at h
  | _, _, _, 0, v, .cons o t, h => by
    cases h;exact ⟨_, _, rfl, o, fun a ha => List.mem_append_left _ ha⟩
  | _, _, _, i + 1, v, .cons o t, h => by
    obtain ⟨p, l', e, w, k⟩ := OwL.getP (i := i) (p := v) t (by simpa using h)
    exact ⟨p, l', by simpa using e, w, fun a ha => List.mem_append_right _ (k a ha)⟩
theorem wk_range {lo : Int} {n : Nat} : Wk K (Itr lo n) F (rangeP lo n) := by
  have el : (rangeP lo n).length = n := by simp [rangeP]
  refine ⟨fun i F' H' l l' hi => ?_, fun F' H' l l' => ?_, fun i F' H' x H2 l l' hi y => ?_⟩
  · rw [el] at hi; exact hi
  · show n ≤ _
    rw [el]; exact Nat.le_refl _
  · rw [el] at hi;obtain ⟨e, y⟩ := y
    subst e y;exact ⟨F', .int (lo + i), by simp [rangeP, hi], Pur.refl l', .sc _⟩
def listK : PV → Option (List PV)
  | .lst false ps => some ps
  | .lsk b ps => some ps
  | _ => none
def tupK : PV → Option (List PV)
  | .tup ps => some ps
  | _ => none
def rngK1 : List PV → Option (List PV)
  | [.sc (.int j)] => if -(2 ^ 62) ≤ j ∧ j < 2 ^ 62 then some (rangeP 0 j.toNat) else none
  | _ => none
def rngK2 : List PV → Option (List PV)
  | [.sc (.int i), .sc (.int j)] => if (-(2 ^ 62) ≤ i ∧ i < 2 ^ 62) ∧ -(2 ^ 62) ≤ j ∧ j < 2 ^ 62 then some (rangeP i (j - i).toNat) else none
  | _ => none
theorem ti_goA {f : PEnv → GR (List PV)} {k : List PV → Option (List PV)} {R : It → Hp → Prop} {t : List V → Hp → Prop} (hk : ∀ F H v p ps, HLe F H → OwL K F H v p [] → k p = some ps → (∀ I, Wk K I F ps → R I H) → t v H) : TIt K J W (iterA f k) σ H R → TZA K J W f σ H t := by
  rintro ⟨F, ρ, fp, s, h⟩;refine ⟨F, ρ, fp, s, ?_⟩
  unfold iterA at h;cases e : f ρ with
  | stk => simp only [e, GR.bind] at h
  | exc x ρ' => simp only [e, GR.bind] at h; exact h
  | ok p ρ' =>
    intro v F' H' fp' a s' o;simp only [e, GR.bind] at h
    cases ek : k p with
    | none => simp only [ek, ER.of, ER.at] at h
    | some ps =>
      simp only [ek, ER.of, ER.at] at h;exact hk F' H' v p ps s'.le o ek fun I wk => h I F' H' fp' a s' wk
theorem rngK1_some {p : List PV} {ps : List PV} (e : rngK1 p = some ps) : ∃ j : Int, p = [.sc (.int j)] ∧ -(2 ^ 62) ≤ j ∧ j < 2 ^ 62 ∧ ps = rangeP 0 j.toNat := by
  unfold rngK1 at e;split at e
  · split at e
    · rename_i j c
      cases e;exact ⟨j, rfl, c.1, c.2, rfl⟩
    · cases e
  · cases e
theorem owl_int1 {vs : List V} {i : Int} {l : List Addr} (o : OwL K F H vs [.sc (.int i)] l) : vs = [.int i] := by
  cases o with
  | cons h t =>
    cases h;cases t
    rfl
theorem ti_rng1 {f : PEnv → GR (List PV)} {R : It → Hp → Prop} : TIt K J W (iterA f rngK1) σ H R → iRng1 (TZA K J W f) σ H R := ti_goA fun F H v p ps le o e k => by
  obtain ⟨j, rfl, h1, h2, rfl⟩ := rngK1_some e;exact ⟨j, owl_int1 o, h1, h2, k _ wk_range⟩
end
section
variable {X : Cx} {J : Jx} {W : WX} {P : List Nat} {e a b c tg : Expr} {es : List Expr} {sts : List Stmt} {pos : Pos}
theorem rs_for {it : PEnv → GR (List PV)} {g : PV → PEnv → Option PEnv} {f : PEnv → SR} (hp : PassesOwn (model X.prog X.w) X.A X.env X.xe) (hc : X.calm = true) (hi : RI X J W tg e it) (hg : RG X J P tg g) (hb : RSs X J W P sts f)
    (hs : ∀ x, foldedSetIterable e X.env x = pure x := by intro _; rfl) : RS X J W P (.For tg e sts [] pos) (forG it g f) := ps_imp (ps_for hp hc hi hg hb hs) fun _ _ _ => ts_for
theorem ri_rng1 {f : PEnv → GR (List PV)} {p : Pos} (hg : Gl X "range") (hm : X.mg "range" = none) (h : GA X J W [a] f) (hs : starEach [a] X.env = [(false, eval a X.env)] := by rfl) : RI X J W tg (.Call (.Name "range" p) [a] [] pos) (iterA f rngK1) := pi_imp (pi_range1 hg hm h hs) fun _ _ _ => ti_rng1
end
end
end RL
namespace RL
open PySem PySem.Spec PyProof.Rows L2
def spR (K : Fg) (m : List PV → FR) : Sp := fun vs H Q E => ∃ F os fp, HLe F H ∧ OwL K F H vs os fp ∧ fp.Nodup ∧ (∀ a ∈ fp, F a = none) ∧ match m os with
  | .ok r os' => ∀ v F' H' fp' l, Aft F H fp F' H' (fp' ++ l) → OwL K F' H' vs os' fp' → Ow K F' H' v r l → Q v H'
  | .exc x os' => ∀ d F' H' fp', Aft F H fp F' H' fp' → OwL K F' H' vs os' fp' → ExcAt K F' H' d x → E (.ref x.C) d H'
  | .stk => False
/-- the def's function: np parameters, nl further locals, the kept parameters P -/
def fnM (np nl : Nat) (P : List Nat) (f : PEnv → SR) : List PV → FR := fun os => if os.length = np then (match f (os.map some ++ List.replicate nl none) with
  | .nx ρ' => (match backP P 0 os ρ' with | some os' => .ok .non os' | none => .stk)
  | .rt p ρ' => (match backP P 0 os ρ' with | some os' => .ok p os' | none => .stk)
  | .exc x ρ' => (match backP P 0 os ρ' with | some os' => .exc x os' | none => .stk)
  | _ => .stk) else .stk
theorem backP_ok {K : Fg} {F F' H H' : Hp} {P : List Nat} (le : HLe F F') : ∀ {os : List PV} {i : Nat} {vs : List V} {l0 : List Addr} {σ' : Sg} {ρ' : PEnv} {l : List Addr} {os' : List PV}, OwL K F H vs os l0 → EnvR K F' H' σ' ρ' l →
    (∀ j, i + j ∈ P → ∀ v, vs[j]? = some v → σ'[j]? = some (some v)) → backP P i os ρ' = some os' → ∃ l', OwL K F' H' vs os' l' ∧ l'.Sublist l
  | [], i, vs, l0, σ', ρ', l, os', o, e, hp, h => by
    obtain ⟨rfl, rfl⟩ := o.nilE;cases h;exact ⟨[], .nil, List.nil_sublist _⟩
  | q :: os, i, vs, l0, σ', ρ', l, os', o, e, hp, h => by
    cases o with
    | @cons v _ lq vs _ ls oh t =>
      unfold backP at h;have tl : ∃ l2, EnvR K F' H' σ'.tail ρ'.tail l2 ∧ l2.Sublist l := by
        cases e with
        | nil => exact ⟨[], .nil, List.Sublist.refl _⟩
        | no t => exact ⟨_, t, List.Sublist.refl _⟩
        | so h t => exact ⟨_, t, List.sublist_append_right _ _⟩
      by_cases hi : i ∈ P
      · rw [if_pos hi] at h;cases e with
        | nil => cases h
        | no t => cases h
        | @so v' p σ1 ρ1 l1 l2 oh2 t2 =>
          simp only at h
          cases hb : backP P (i + 1) os ρ1 with
          | none => rw [show (some p :: ρ1).tail = ρ1 from rfl, hb] at h; cases h
          | some b =>
            rw [show (some p :: ρ1).tail = ρ1 from rfl, hb] at h
            cases h;obtain ⟨l', o2, s2⟩ := backP_ok le (i := i + 1) t t2 (fun j hj v e => by
              have := hp (j + 1) (by rw [show i + (j + 1) = i + 1 + j by omega]; exact hj) v (by simpa using e)
              simpa using this) hb
            have ev : v' = v := by
              have := hp 0 hi v rfl
              simpa using this
            subst ev;exact ⟨_, .cons oh2 o2, List.Sublist.append (List.Sublist.refl _) s2⟩
      · rw [if_neg hi] at h;by_cases hf : q.fz = true
        · rw [if_pos hf] at h;simp only at h
          cases hb : backP P (i + 1) os ρ'.tail with
          | none => rw [hb] at h; cases h
          | some b =>
            rw [hb] at h;cases h
            obtain ⟨l2, e2, s2⟩ := tl;obtain ⟨l', o2, s3⟩ := backP_ok le (i := i + 1) t e2 (fun j hj v e => by
              have := hp (j + 1) (by rw [show i + (j + 1) = i + 1 + j by omega]; exact hj) v (by simpa using e)
              cases σ' with
              | nil => simp at this
              | cons _ _ => simpa using this) hb
            have z := oh.fz0 hf;subst z;exact ⟨[] ++ l', .cons (oh.any le) o2, by rw [List.nil_append]; exact s3.trans s2⟩
        · rw [if_neg hf] at h; cases h
theorem envR_start {K : Fg} {F H : Hp} : ∀ {vs : List V} {os : List PV} {l : List Addr} (n : Nat), OwL K F H vs os l → EnvR K F H (vs.map some ++ List.replicate n none) (os.map some ++ List.replicate n none) l
  | _, _, _, 0, .nil => .nil
  | _, _, _, n + 1, .nil => .no (envR_start n .nil)
  | _, _, _, n, .cons h t => .so h (envR_start n t)
section
variable {Pr : Program} {w : World} {K : Fg} {mg : Str → Option Value} {base : Heap} {x qual : Str} {params : Arguments} {body : List Stmt} {scope : Scope} {dvs : List V} {kws : List (Str × V)} {f : Addr} {fd : FuncData}
/-- THE RULE for a def -/
theorem fn_ok {N ps : List Str} {k nl : Nat} {P : List Nat} {fb : PEnv → SR} (F : FunD K x qual params body scope dvs kws f fd) (S : FnScope N ps scope) (hN : N.length = ps.length + nl)
    (hb : ∀ (cdv : Value) (A : Around) (outer : List Env) (s : Shared) (H : Hp) (E : XK), Room k (A.deeper (envOfC qual scope s.heap.objs.size f cdv)) →
      RSs (cxOf (L2.CX Pr w) Pr w K mg base N qual scope f cdv A outer s H E) J0 (fun cls d _ H => E cls d H) P body fb) :
    FnOk Pr w K mg base (L2.CX Pr w) (k + 1) f fd ps (spR K (fnM ps.length nl P fb)) := by
  have hlen : ∀ vs H Q E, spR K (fnM ps.length nl P fb) vs H Q E → vs.length = ps.length := by
    rintro vs H Q E ⟨F, os, fp, le, o, nd, dis, h⟩;unfold fnM at h
    by_cases c : os.length = ps.length
    · exact o.length.trans c
    · rw [if_neg c] at h; exact h.elim
  refine F.ok S hlen fun cdv A outer s H vs Q E hr hsp => ⟨_, hb cdv A outer s H E hr, ?_⟩
  have hvl := hlen _ _ _ _ hsp;obtain ⟨F, os, fp, le, o, nd, dis, h⟩ := hsp;unfold fnM at h;by_cases c : os.length = ps.length
  · rw [if_pos c] at h;have es : L2.start N vs = vs.map some ++ List.replicate nl none := by
      unfold L2.start;rw [hvl, hN, Nat.add_sub_cancel_left]
    rw [es];refine ⟨F, os.map some ++ List.replicate nl none, fp, ⟨le, envR_start nl o, nd, dis, trivial⟩, ?_⟩
    have pst : ∀ {σ' : Sg}, Pt P (vs.map some ++ List.replicate nl none) σ' → ∀ j, 0 + j ∈ P → ∀ v, vs[j]? = some v → σ'[j]? = some (some v) := fun q j hj v e => by
      rw [Nat.zero_add] at hj;rw [q.2 j hj]
      obtain ⟨h1, h2⟩ := List.getElem?_eq_some_iff.mp e;rw [List.getElem?_append_left (by simpa using h1), List.getElem?_map, e]
      rfl
    cases e : fb (os.map some ++ List.replicate nl none) with
    | nx ρ' =>
      rw [e] at h;intro σ' F' H' fp' a q s'
      cases hbk : backP P 0 os ρ' with
      | none => simp only [hbk] at h
      | some os' =>
        simp only [hbk] at h;obtain ⟨l', o', sl⟩ := backP_ok a.leF o s'.env (pst q) hbk
        exact h .non F' H' l' [] (by rw [List.append_nil]; exact a.less sl) o' (.sc _)
    | rt p ρ' =>
      rw [e] at h;intro v σ' F' H' fp' l a q s' ov
      cases hbk : backP P 0 os ρ' with
      | none => simp only [hbk] at h
      | some os' =>
        simp only [hbk] at h;obtain ⟨l', o', sl⟩ := backP_ok a.leF o s'.env (pst q) hbk
        exact h v F' H' l' l (a.less (List.Sublist.append sl (List.Sublist.refl _))) o' ov
    | exc x ρ' =>
      rw [e] at h;intro d σ' F' H' fp' a q s' ov
      cases hbk : backP P 0 os ρ' with
      | none => simp only [hbk] at h
      | some os' =>
        simp only [hbk] at h;obtain ⟨l', o', sl⟩ := backP_ok a.leF o s'.env (pst q) hbk
        exact h d F' H' l' (a.less sl) o' ov
    | bk ρ' => rw [e] at h; exact h.elim
    | ct ρ' => rw [e] at h; exact h.elim
    | stk => rw [e] at h; exact h.elim
  · rw [if_neg c] at h; exact h.elim
end
theorem FSub.sub {a b : List Addr} (h : a.Sublist b) : FSub a b := ⟨fun n => n.sublist h, fun _ hx => h.subset hx⟩
theorem FSub.perm {a b : List Addr} (h : a.Perm b) : FSub a b := ⟨fun n => h.symm.nodup n, fun _ hx => h.subset hx⟩
theorem FSub.app {a b c d : List Addr} (h : FSub a b) (k : FSub c d) : FSub (a ++ c) (b ++ d) := by
  refine ⟨fun n => ?_, fun x hx => ?_⟩
  · obtain ⟨n1, n2, n3⟩ := List.nodup_append.mp n;exact List.nodup_append.mpr ⟨h.1 n1, k.1 n2, fun x hx y hy => n3 x (h.2 x hx) y (k.2 y hy)⟩
  · rcases List.mem_append.mp hx with z | z
    · exact List.mem_append_left _ (h.2 x z)
    · exact List.mem_append_right _ (k.2 x z)
theorem FSub.appR {a b : List Addr} (c : List Addr) (h : FSub a b) : FSub a (c ++ b) := h.trans (.sub (List.sublist_append_right _ _))
theorem Aft.fsub {F H F' H' : Hp} {fp l l' : List Addr} (a : Aft F H fp F' H' l) (s : FSub l' l) : Aft F H fp F' H' l' :=
  ⟨a.leF, a.le, a.ext, a.tr, fun x hx => a.nw x (s.2 x hx), a.nwF, s.1 a.nd, fun x hx => a.dis x (s.2 x hx)⟩
theorem EnvR.none_at {K : Fg} {F H : Hp} : ∀ {σ : List (Option V)} {ρ : PEnv} {l : List Addr} {i : Nat}, EnvR K F H σ ρ l → σ[i]? ≠ none → i < ρ.length := fun {σ ρ l i} e h => by
  rw [← e.length];exact Nat.lt_of_not_le fun z => h (List.getElem?_eq_none z)
theorem takeA_ok {K : Fg} {F H : Hp} {σ : Sg} : ∀ {as : List Ag} {vs : List V} {ρ : PEnv} {l : List Addr} {os : List PV} {ρ' : PEnv}, ArgR K F H σ vs as → EnvR K F H σ ρ l → takeA as ρ = some (os, ρ') →
    ∃ la lr, OwL K F H vs os la ∧ EnvR K F H σ ρ' lr ∧ (la ++ lr).Perm l
  | [], vs, ρ, l, os, ρ', a, e, h => by
    cases a;cases h
    exact ⟨[], l, .nil, e, List.Perm.refl _⟩
  | .vl p :: as, vs, ρ, l, os, ρ', a, e, h => by
    cases a with
    | vl o t =>
      unfold takeA at h;cases ht : takeA as ρ with
      | none => rw [ht] at h; cases h
      | some q =>
        obtain ⟨os1, ρ1⟩ := q;rw [ht] at h;cases h;obtain ⟨la, lr, h1, h2, h3⟩ := takeA_ok t e ht;exact ⟨[] ++ la, lr, .cons o h1, h2, h3⟩
  | .pl i :: as, vs, ρ, l, os, ρ', a, e, h => by
    cases a with
    | @pl v _ _ _ hv t =>
      unfold takeA at h;cases hp : ρ[i]? with
      | none => rw [hp] at h; cases h
      | some op =>
        cases op with
        | none => rw [hp] at h; cases h
        | some p =>
          rw [hp] at h;simp only at h
          obtain ⟨v', l1, l2, l3, e1, e2, w, k⟩ := e.take hp;rw [hv] at e1;cases e1;cases ht : takeA as (ρ.set i none) with
          | none => rw [ht] at h; cases h
          | some q =>
            obtain ⟨os1, ρ1⟩ := q;rw [ht] at h;cases h;obtain ⟨la, lr, h1, h2, h3⟩ := takeA_ok t k ht;refine ⟨l2 ++ la, lr, .cons w h1, h2, ?_⟩;rw [e2, List.append_assoc]
            refine (List.Perm.append_left l2 h3).trans ?_;rw [← List.append_assoc, ← List.append_assoc];exact List.Perm.append_right l3 List.perm_append_comm
theorem set_same {σ : Sg} {i : Nat} {v : V} (hv : σ[i]? = some (some v)) : σ.set i (some v) = σ := by
  apply List.ext_getElem?
  intro j;by_cases hj : i = j
  · subst hj;rw [hv]
    exact List.getElem?_set_self (List.getElem?_eq_some_iff.mp hv).1
  · rw [List.getElem?_set_ne hj]
theorem perm_swap {α : Type} (a b c : List α) : (a ++ (b ++ c)).Perm (b ++ (a ++ c)) := by
  have h : ((a ++ b) ++ c).Perm ((b ++ a) ++ c) := List.Perm.append_right c List.perm_append_comm
  rwa [List.append_assoc, List.append_assoc] at h
theorem putA_ok {K : Fg} {F H : Hp} {σ : Sg} : ∀ {as : List Ag} {vs : List V} {F0 H0 : Hp} {ρ : PEnv} {la lr : List Addr} {os : List PV}, ArgR K F0 H0 σ vs as → EnvR K F H σ ρ lr → OwL K F H vs os la →
    ∃ l, EnvR K F H σ (putA as os ρ) l ∧ FSub l (la ++ lr)
  | [], vs, _, _, ρ, la, lr, os, a, e, o => ⟨lr, by cases a; cases o; exact e, .sub (List.sublist_append_right _ _)⟩
  | .vl p :: as, vs, _, _, ρ, la, lr, os, a, e, o => by
    cases a with
    | vl h t =>
      cases o with
      | @cons _ _ l1 _ _ l2 oh ot =>
        obtain ⟨l, h1, h2⟩ := putA_ok t e ot;exact ⟨l, h1, by rw [List.append_assoc]; exact h2.appR l1⟩
  | .pl i :: as, vs, _, _, ρ, la, lr, os, a, e, o => by
    cases a with
    | @pl v _ _ _ hv t =>
      cases o with
      | @cons _ p l1 _ _ l2 oh ot =>
        have hi : i < ρ.length := e.none_at (by rw [hv]; simp)
        obtain ⟨m1, m2, m3, e2, k⟩ := e.put hi;have ev := k oh;rw [set_same hv] at ev;obtain ⟨l, h1, h2⟩ := putA_ok t ev ot;subst e2;refine ⟨l, h1, h2.trans ?_⟩
        have a1 : FSub (m1 ++ (l1 ++ m3)) (m1 ++ (l1 ++ (m2 ++ m3))) := .app .refl (.app .refl (.sub (List.sublist_append_right _ _)))
        have a2 : (m1 ++ (l1 ++ (m2 ++ m3))).Perm (l1 ++ (m1 ++ (m2 ++ m3))) := perm_swap _ _ _
        have a3 : FSub (l2 ++ (m1 ++ (l1 ++ m3))) (l2 ++ (l1 ++ (m1 ++ (m2 ++ m3)))) := .app .refl (a1.trans (.perm a2))
        refine a3.trans (.perm ?_);rw [← List.append_assoc];exact List.Perm.append_right _ List.perm_append_comm
end RL
namespace RL
open PySem PySem.Spec PyProof.Rows L2
def TAg (K : Fg) (J : Jx) (W : WX) (f : PEnv → GR (List Ag)) : TA := fun σ H Q => ∃ F ρ fp, St K J F H σ ρ fp ∧ match f ρ with
  | .ok as ρ' => ∀ vs F' H' fp', Aft F H fp F' H' fp' → St K J F' H' σ ρ' fp' → ArgR K F' H' σ vs as → Q vs H'
  | .exc x ρ' => exG K J W F H fp σ x ρ'
  | .stk => False
abbrev AG (X : Cx) (J : Jx) (W : WX) (es : List Expr) (f : PEnv → GR (List Ag)) : Prop := PA X es (TAg X.K J W f)
def nilAg : PEnv → GR (List Ag) := fun ρ => .ok [] ρ
section
variable {K : Fg} {J : Jx} {W : WX} {P : List Nat} {σ : Sg} {H : Hp} {Q : VK} {F : Hp} {fp : List Addr} {D : Ends}
theorem ta_nil {Q : List V → Hp → Prop} : TAg K J W nilAg σ H Q → tNil σ H Q := by
  rintro ⟨F, ρ, fp, s, h⟩;exact h [] F H fp s.aft0 s .nil
theorem ta_vl {f : PEnv → GR PV} {g : PEnv → GR (List Ag)} {Q : List V → Hp → Prop} : TAg K J W (vlAg f g) σ H Q → tCons (TZ K J W f) (TAg K J W g) σ H Q := by
  rintro ⟨F, ρ, fp, s, h⟩;refine ⟨F, ρ, fp, s, ?_⟩
  unfold vlAg at h;cases ea : f ρ with
  | stk => simp only [ea, GR.bind] at h
  | exc x ρ' => simp only [ea, GR.bind] at h; exact h
  | ok p ρ1 =>
    simp only [ea, GR.bind] at h;intro x F1 H1 fp1 a1 s1 o1
    refine ⟨F1, ρ1, fp1, s1, ?_⟩;cases eb : g ρ1 with
    | stk => simp only [eb, GR.bind] at h
    | exc x ρ' => simp only [eb, GR.bind] at h; exact exG.aft h a1
    | ok q ρ2 =>
      simp only [eb, GR.bind] at h;intro y F2 H2 fp2 a2 s2 o2
      exact h (x :: y) F2 H2 fp2 (a1.trans a2) s2 (.vl (o1.any a2.leF) o2)
theorem ta_pl {i : Nat} {g : PEnv → GR (List Ag)} {Q : List V → Hp → Prop} : TAg K J W (plAg i g) σ H Q → tCons (tVar i) (TAg K J W g) σ H Q := by
  rintro ⟨F, ρ, fp, s, h⟩;unfold plAg at h
  cases e : ρ[i]? with
  | none => simp only [e] at h
  | some o =>
    cases o with
    | none => simp only [e] at h
    | some p =>
      simp only [e] at h;obtain ⟨v, l1, l2, l3, e1, e2, w, k⟩ := s.env.take e
      refine ⟨v, e1, F, ρ, fp, s, ?_⟩;cases eb : g ρ with
      | stk => simp only [eb, GR.bind] at h
      | exc x ρ' => simp only [eb, GR.bind] at h; exact h
      | ok q ρ2 =>
        simp only [eb, GR.bind] at h;intro y F2 H2 fp2 a2 s2 o2
        exact h (v :: y) F2 H2 fp2 a2 s2 (.pl e1 o2)
/-- the rest of the environment, put beside what a callee leaves -/
theorem aft_call {la lr l' l : List Addr} {F' H' : Hp} (a : Aft F H la F' H' (l' ++ l)) (nd : (la ++ lr).Nodup) (dis : ∀ x ∈ la ++ lr, F x = none) (there : ∀ x ∈ lr, ∃ o, H x = some o ∧ ¬ Tf o) :
    Aft F H (la ++ lr) F' H' ((l' ++ lr) ++ l) ∧ (∀ x ∈ lr, ∀ o, H x = some o → H' x = some o) := by
  obtain ⟨n1, n2, n3⟩ := List.nodup_append.mp nd;have nla : ∀ x ∈ lr, x ∉ la := fun x hx hl => n3 x hl x hx rfl
  have nnew : ∀ x ∈ lr, x ∉ l' ++ l := fun x hx hl => by
    rcases a.nw x hl with z | z
    · exact nla x hx z
    · obtain ⟨o, e, _⟩ := there x hx;rw [e] at z; cases z
  obtain ⟨m1, m2, m3⟩ := List.nodup_append.mp a.nd;refine ⟨⟨a.leF, a.le, fun x o e n => a.ext x o e fun z => n (List.mem_append_left _ z), a.tr, fun x hx => ?_, fun x o e => ?_, ?_, fun x hx => ?_⟩, fun x hx o e => a.ext x o e (nla x hx)⟩
  · rcases List.mem_append.mp hx with z | z
    · rcases List.mem_append.mp z with z | z
      · rcases a.nw x (List.mem_append_left _ z) with z | z
        · exact .inl (List.mem_append_left _ z)
        · exact .inr z
      · exact .inl (List.mem_append_right _ z)
    · rcases a.nw x (List.mem_append_right _ z) with z | z
      · exact .inl (List.mem_append_left _ z)
      · exact .inr z
  · rcases a.nwF x o e with z | z | z
    · exact .inl z
    · exact .inr (.inl (List.mem_append_left _ z))
    · exact .inr (.inr z)
  · refine List.nodup_append.mpr ⟨List.nodup_append.mpr ⟨m1, n2, fun x hx y hy e => ?_⟩, m2, fun x hx y hy e => ?_⟩
    · subst e;exact nnew x hy (List.mem_append_left _ hx)
    · subst e;rcases List.mem_append.mp hx with z | z
      · exact m3 x z x hy rfl
      · exact nnew x z (List.mem_append_right _ hy)
  · rcases List.mem_append.mp hx with z | z
    · rcases List.mem_append.mp z with z | z
      · exact a.dis x (List.mem_append_left _ z)
      · cases q : F' x with
        | none => rfl
        | some o =>
          rcases a.nwF x o q with e | e | e
          · rw [dis x (List.mem_append_right _ z)] at e; cases e
          · exact absurd e (nla x z)
          · exact (e.no' (there x z)).elim
    · exact a.dis x (List.mem_append_right _ z)
theorem sp_M {m : List PV → FR} {f : PEnv → GR (List Ag)} : TG K J W (callM m f) σ H Q → TAg K J W f σ H fun vs H1 => spR K m (vs ++ []) H1 Q (WE W σ) := by
  rintro ⟨F, ρ, fp, s, h⟩;refine ⟨F, ρ, fp, s, ?_⟩
  unfold callM at h;cases ea : f ρ with
  | stk => simp only [ea, GR.bind] at h
  | exc x ρ' => simp only [ea, GR.bind] at h; exact h
  | ok as ρ1 =>
    simp only [ea, GR.bind] at h;intro vs F1 H1 fp1 a1 s1 o1
    rw [List.append_nil];cases et : takeA as ρ1 with
    | none => simp only [et] at h
    | some q =>
      obtain ⟨os, ρr⟩ := q;simp only [et] at h;obtain ⟨la, lr, w1, w2, w3⟩ := takeA_ok o1 s1.env et;have nd : (la ++ lr).Nodup := w3.symm.nodup s1.nd;have dis : ∀ x ∈ la ++ lr, F1 x = none := fun x hx => s1.dis x (w3.subset hx)
      have a1' : Aft F H fp F1 H1 (la ++ lr) := a1.perm w3
      refine ⟨F1, os, la, s1.le, w1, (List.nodup_append.mp nd).1, fun x hx => dis x (List.mem_append_left _ hx), ?_⟩
      cases em : m os with
      | stk => simp only [em] at h
      | exc x os' =>
        simp only [em] at h;intro d F' H' fp' a o e
        obtain ⟨b, kp⟩ := aft_call (l := []) (by rw [List.append_nil]; exact a) nd dis w2.thereN
        rw [List.append_nil] at b;obtain ⟨l2, e2, fs⟩ := putA_ok o1 (w2.mono a.leF kp) o
        have c := b.fsub fs;exact h d F' H' l2 (a1'.trans c) ⟨c.le, e2, c.nd, c.dis, J.mono _ _ c.leF s1.amb⟩ e
      | ok r os' =>
        simp only [em] at h;intro v F' H' fp' l a o ov
        obtain ⟨b, kp⟩ := aft_call a nd dis w2.thereN;obtain ⟨l2, e2, fs⟩ := putA_ok o1 (w2.mono a.leF kp) o;have c := b.fsub (fs.app (FSub.refl (l := l)));have c2 := c.less (List.sublist_append_left _ _)
        exact h v F' H' l2 l (a1'.trans c) ⟨c2.le, e2, c2.nd, c2.dis, J.mono _ _ c2.leF s1.amb⟩ ov
end
structure Callee (Pr : Program) (w : World) (K : Fg) (mg : Str → Option Value) (base : Heap) (k : Nat) (x : Str) (ps : List Str) (m : List PV → FR) : Prop where
  ex : ∃ f fd, FnOk Pr w K mg base (L2.CX Pr w) k f fd ps (spR K m) ∧ mg x = some (.ref f) ∧ PySem.W.keepIn K (.ref f) = true ∧ Binds K fd ps []
abbrev Cal (X : Cx) (k : Nat) (x : Str) (ps : List Str) (m : List PV → FR) : Prop := Callee X.prog X.w X.K X.mg X.base k x ps m
section
variable {X : Cx} {J : Jx} {W : WX} {P : List Nat} {e a b c tg : Expr} {es : List Expr} {sts : List Stmt} {pos p : Pos} {x : Str} {ps : List Str} {m : List PV → FR} {k j : Nat}
theorem ag_nil : AG X J W [] nilAg := pa_imp pa_nil fun _ _ _ => ta_nil
theorem ag_vl {f : PEnv → GR PV} {g : PEnv → GR (List Ag)} (h : GZ X J W e f) (t : AG X J W es g) (hs : starEach (e :: es) X.env = (false, eval e X.env) :: starEach es X.env := by rfl) : AG X J W (e :: es) (vlAg f g) :=
  pa_imp (pa_cons h t hs) fun _ _ _ => ta_vl
theorem ag_pl {i : Nat} {g : PEnv → GR (List Ag)} (h : PE X e (tVar i)) (t : AG X J W es g) (hs : starEach (e :: es) X.env = (false, eval e X.env) :: starEach es X.env := by rfl) : AG X J W (e :: es) (plAg i g) :=
  pa_imp (pa_cons h t hs) fun _ _ _ => ta_pl
theorem ge_call {f : PEnv → GR (List Ag)} (G : Cal X k x ps m) (hr : Room j X.A) (hk : k ≤ j) (tk : Takes X W) (hg : Gl X x) (ha : AG X J W (e :: es) f)
    (hdb : (x == ("__debug__" : Str)) = false := by decide) (he : starEach (e :: es) X.env = (false, eval e X.env) :: starEach es X.env := by rfl) (hpl : (backTo pos (starEach es X.env)).any (·.1) = false := by rfl) :
    GE X J W (.Call (.Name x p) (e :: es) [] pos) (callM m f) := by
  obtain ⟨fa, fd, F, hm, kp, hb⟩ := G.ex;exact pe_imp (pe_callSD F (hr.mono hk) hg hm kp hb .nil (fun σ => passAt tk σ) ha hdb he hpl) fun _ _ _ => sp_M
end
end RL
namespace RL
open PySem PySem.Spec PyProof.Rows L2
def compL (g : PV → PEnv → Option PEnv) (c : PEnv → GR Bool) (e : PEnv → GR PV) (vs : List Nat) : List PV → PEnv → List PV → GR (List PV)
  | [], ρ, acc => .ok acc ρ
  | p :: ps, ρ, acc => match g p ρ with
    | none => .stk
    | some ρ1 => match c ρ1 with
      | .ok true ρ2 => match e ρ2 with
        | .ok q ρ3 => if acc.length < 100000 then compL g c e vs ps (wipeP ρ3 vs) (acc ++ [q]) else .stk
        | _ => .stk
      | .ok false ρ2 => compL g c e vs ps (wipeP ρ2 vs) acc
      | _ => .stk
def compG (it : PEnv → GR (List PV)) (g : PV → PEnv → Option PEnv) (c : PEnv → GR Bool) (e : PEnv → GR PV) (vs : List Nat) : PEnv → GR PV := fun ρ => (it ρ).bind fun ps ρ1 => (compL g c e vs ps (wipeP ρ1 vs) []).bind fun acc ρ2 => .ok (.lst true acc) (backV ρ1 (wipeP ρ2 vs) vs)
/-- the slots that a block leaves -/
def keepS (n : Nat) (vs : List Nat) : List Nat := (List.range n).filter fun i => !vs.contains i
section
variable {K : Fg} {J : Jx} {W : WX} {P : List Nat} {σ : Sg} {H : Hp} {Q : VK} {F : Hp} {fp : List Addr} {D : Ends}
theorem EnvR.wipe {ρ : PEnv} {l : List Addr} (e : EnvR K F H σ ρ l) : ∀ vs : List Nat, ∃ l', EnvR K F H (L2.wipe σ vs) (wipeP ρ vs) l' ∧ l'.Sublist l
  | [] => ⟨l, e, List.Sublist.refl _⟩
  | v :: vs => by
    obtain ⟨l', h1, h2⟩ := EnvR.wipe e vs;obtain ⟨l2, h3, h4⟩ := h1.drop1 v none;exact ⟨l2, h3, h4.trans h2⟩
/-- an env over the wiped slots is one over the slots -/
theorem EnvR.drop0 : ∀ {σ : Sg} {ρ : PEnv} {l : List Addr} (i : Nat) (x : Option V), EnvR K F H (σ.set i x) ρ l → ∃ l', EnvR K F H σ (ρ.set i none) l' ∧ l'.Sublist l
  | [], ρ, l, i, x, e => by
    rw [List.set_nil] at e;cases e
    exact ⟨[], .nil, List.Sublist.refl _⟩
  | y :: σ, ρ, l, 0, x, e => by
    rw [List.set_cons_zero] at e;cases e with
    | no t => exact ⟨_, .no t, List.Sublist.refl _⟩
    | so h t => exact ⟨_, .no t, List.sublist_append_right _ _⟩
  | y :: σ, ρ, l, i + 1, x, e => by
    rw [List.set_cons_succ] at e;cases e with
    | no t =>
      obtain ⟨l', a, b⟩ := EnvR.drop0 i x t;exact ⟨l', .no a, b⟩
    | so h t =>
      obtain ⟨l', a, b⟩ := EnvR.drop0 i x t;exact ⟨_, .so h a, List.Sublist.append (List.Sublist.refl _) b⟩
theorem EnvR.unwipe : ∀ (vs : List Nat) {ρ : PEnv} {l : List Addr}, EnvR K F H (L2.wipe σ vs) ρ l → ∃ l', EnvR K F H σ (wipeP ρ vs) l' ∧ l'.Sublist l
  | [], ρ, l, e => ⟨l, e, List.Sublist.refl _⟩
  | v :: vs, ρ, l, e => by
    have e : EnvR K F H ((L2.wipe σ vs).set v none) ρ l := e
    obtain ⟨l1, a, b⟩ := EnvR.drop0 v none e;obtain ⟨l2, a2, b2⟩ := EnvR.unwipe vs a;refine ⟨l2, ?_, b2.trans b⟩;have comm : ∀ (vs : List Nat) (ρ : PEnv), wipeP (ρ.set v none) vs = (wipeP ρ vs).set v none := by
      intro vs;induction vs with
      | nil => intro ρ; rfl
      | cons w vs ih =>
        intro ρ;show (wipeP (ρ.set v none) vs).set w none = ((wipeP ρ vs).set w none).set v none
        rw [ih];by_cases h : v = w
        · subst h; rw [List.set_set]
        · rw [List.set_comm _ _ h]
    rw [comm] at a2;exact a2
/-- a frozen thing is put back -/
theorem EnvR.back {F0 H0 : Hp} {ρ0 : PEnv} {l0 : List Addr} (le : HLe F0 F) (e0 : EnvR K F0 H0 σ ρ0 l0) : ∀ (vs : List Nat) {ρ : PEnv} {l : List Addr}, EnvR K F H σ ρ l → ∃ l', EnvR K F H σ (backV ρ0 ρ vs) l' ∧ l'.Sublist l
  | [], ρ, l, e => ⟨l, e, List.Sublist.refl _⟩
  | v :: vs, ρ, l, e => by
    obtain ⟨l1, a, b⟩ := EnvR.back le e0 vs e;have dr : ∃ l', EnvR K F H σ ((backV ρ0 ρ vs).set v none) l' ∧ l'.Sublist l := by
      obtain ⟨l2, a2, b2⟩ := EnvR.drop0 v (σ[v]?.getD none) (by
        have es : σ.set v (σ[v]?.getD none) = σ := by
          apply List.ext_getElem?
          intro j;by_cases hj : v = j
          · subst hj;by_cases hl : v < σ.length
            · rw [List.getElem?_set_self hl, List.getElem?_eq_getElem hl]; rfl
            · rw [List.getElem?_eq_none (by simpa using hl), List.getElem?_eq_none (by simpa using hl)]
          · rw [List.getElem?_set_ne hj]
        rw [es];exact a)
      exact ⟨l2, a2, b2.trans b⟩
    show ∃ l', EnvR K F H σ ((backV ρ0 ρ vs).set v (match ρ0[v]? with
      | some (some p) => if p.fz = true then some p else none
      | _ => none)) l' ∧ l'.Sublist l
    cases hq : ρ0[v]? with
    | none => exact dr
    | some o =>
      cases o with
      | none => exact dr
      | some p =>
        simp only
        by_cases hf : p.fz = true
        · rw [if_pos hf];obtain ⟨x, m1, m2, m3, e1, e2, w, k⟩ := e0.get hq
          have z := w.fz0 hf;subst z;have hi : v < (backV ρ0 ρ vs).length := a.none_at (by rw [e1]; simp)
          obtain ⟨n1, n2, n3, e3, k2⟩ := a.put hi;have r := k2 (w.any le);rw [set_same e1] at r;refine ⟨_, r, List.Sublist.trans ?_ b⟩;rw [e3, List.nil_append];exact List.Sublist.append (List.Sublist.refl _) (List.sublist_append_right _ _)
        · rw [if_neg hf];exact dr
theorem wipe_at {σ : Sg} {i : Nat} : ∀ {vs : List Nat}, i ∈ vs → i < σ.length → (L2.wipe σ vs)[i]? = some none
  | v :: vs, h, hl => by
    show ((L2.wipe σ vs).set v none)[i]? = some none
    by_cases hv : v = i
    · subst hv;rw [List.getElem?_set_self (by rw [wipe_length]; exact hl)]
    · rw [List.getElem?_set_ne hv];exact wipe_at (by
        rcases List.mem_cons.mp h with e | e
        · exact absurd e.symm hv
        · exact e) hl
theorem wipe_pt {n : Nat} {vs : List Nat} {σ2 : Sg} (hn : σ.length = n) (p : Pt (keepS n vs) (L2.wipe σ vs) σ2) : L2.wipe σ2 vs = L2.wipe σ vs := by
  have hl : σ2.length = σ.length := by rw [p.1, wipe_length]
  apply List.ext_getElem?
  intro i;by_cases hi : i < σ.length
  · by_cases hv : i ∈ vs
    · rw [wipe_at hv (by rw [hl]; exact hi), wipe_at hv hi]
    · rw [wipe_out hv, p.2 i (by
        unfold keepS;refine List.mem_filter.mpr ⟨List.mem_range.mpr (by rw [← hn]; exact hi), by simpa using hv⟩)]
  · rw [List.getElem?_eq_none (by rw [wipe_length, hl]; omega), List.getElem?_eq_none (by rw [wipe_length]; omega)]
theorem Ow.lst_new {D : Addr} {vs : List V} {ps : List PV} (h : H D = some (.lst vs)) (o : OwL K F H vs ps []) : Ow K F H (.ref D) (.lst true ps) [D] := .lstO h o
theorem OwL.snoc : ∀ {vs : List V} {ps : List PV} {v : V} {p : PV}, OwL K F H vs ps [] → Ow K F H v p [] → OwL K F H (vs ++ [v]) (ps ++ [p]) [] := fun {vs ps v p} o h => by
  induction ps generalizing vs with
  | nil =>
    obtain ⟨rfl, _⟩ := o.nilE;exact .cons (l := []) (ls := []) h .nil
  | cons q ps ih =>
    obtain ⟨v', vs', rfl, o1, t⟩ := o.consE;exact .cons (l := []) (ls := []) o1 (ih t)
theorem ts_comp {it : PEnv → GR (List PV)} {g : PV → PEnv → Option PEnv} {c : PEnv → GR Bool} {e : PEnv → GR PV} {vs : List Nat} {n : Nat} (hn : σ.length = n) :
    TG K J W (compG it g c e vs) σ H Q → tLc (TIt K J W it) (TGt K J (keepS n vs) g) (TGB K J RL.W0 c) (TZ K J RL.W0 e) vs σ H Q := by
  rintro ⟨F, ρ, fp, s, h⟩;refine ⟨F, ρ, fp, s, ?_⟩
  unfold compG at h;cases ei : it ρ with
  | stk => simp only [ei, GR.bind] at h
  | exc x ρ' => simp only [ei, GR.bind] at h; exact h
  | ok ps ρ1 =>
    simp only [ei, GR.bind] at h;intro I F1 H1 fp1 a1 s1 wk D hD
    obtain ⟨R0, hR0⟩ : ∃ R0, R0 = compL g c e vs ps (wipeP ρ1 vs) [] := ⟨_, rfl⟩
    rw [← hR0] at h;have fin : ∀ (r : GR (List PV)), (match GR.bind r fun acc ρ2 => GR.ok (PV.lst true acc) (backV ρ1 (wipeP ρ2 vs) vs) with
        | .ok p ρ' => ∀ v F' H' fp' l, Aft F H fp F' H' (fp' ++ l) → St K J F' H' σ ρ' fp' → Ow K F' H' v p l → Q v H'
        | .exc x ρ' => exG K J W F H fp σ x ρ'
        | .stk => False) → r ≠ .stk := fun r h e => by subst e; exact h
    refine ⟨fun i m H' => i ≤ ps.length ∧ m = ps.length - i ∧ ∃ F' ρ' fp' acc vacc, Aft F1 H1 fp1 F' H' (fp' ++ [D]) ∧ HLe F1 F' ∧ EnvR K F' H' (L2.wipe σ vs) ρ' fp' ∧ J.p F' ∧ H' D = some (.lst vacc) ∧ OwL K F' H' vacc acc [] ∧
      compL g c e vs (ps.drop i) ρ' acc = R0, ⟨ps.length, Nat.zero_le _, rfl, ?_⟩, ?_⟩
    · have pu : Pur F1 H1 F1 (upd H1 D (.lst [])) := pur_own s1.le hD
      have a := aft_new s1 pu (nw_own s1.le hD);obtain ⟨l', w1, w2⟩ := (s1.env.mono .refl (fun x _ o ex => pu.same x o ex)).wipe vs
      exact ⟨F1, _, l', [], [], a.less (List.Sublist.append w2 (List.Sublist.refl _)), .refl, w1, s1.amb, upd_same, .nil, hR0.symm⟩
    · rintro i m H2 ⟨hi, rfl, F2, ρ2, fp2, acc, vacc, a2, l2, e2, am2, d2, o2, eq2⟩;have a2' : Aft F1 H1 fp1 F2 H2 fp2 := a2.less (List.sublist_append_left _ _)
      have s2 : St K J F2 H2 (L2.wipe σ vs) ρ2 fp2 := ⟨a2.le, e2, a2'.nd, a2'.dis, am2⟩
      by_cases hlt : i < ps.length
      · refine .inr ⟨wk.go i F2 H2 l2 a2.le hlt, _, fun H' q => ⟨ps.length - (i + 1), by omega, hlt, rfl, q⟩, fun x H3 y => ?_⟩
        obtain ⟨F3, p, ep, pu, ox⟩ := wk.yld i F2 H2 x H3 l2 a2.le hlt y;refine ⟨F3, ρ2, fp2, p, s2.pur pu, ox, ?_⟩;have ed : ps.drop i = p :: ps.drop (i + 1) := by
          obtain ⟨h1, h2⟩ := List.getElem?_eq_some_iff.mp ep;rw [List.drop_eq_getElem_cons h1, h2]
        rw [ed] at eq2;unfold compL at eq2
        cases eg : g p ρ2 with
        | none =>
          simp only [eg] at eq2;exact fin _ h eq2.symm
        | some ρ3 =>
          simp only [eg] at eq2;intro σ4 F4 H4 fp4 a4 q4 s4
          have D3 : H3 D = some (.lst vacc) := pu.same _ _ d2
          have nD2 : D ∉ fp2 := fun z => (List.nodup_append.mp a2.nd).2.2 D z D (by simp) rfl
          have nd2 : (fp2 ++ [D]).Nodup := a2.nd
          have dis3 : ∀ x ∈ fp2 ++ [D], F3 x = none := fun x hx => by
            cases q : F3 x with
            | none => rfl
            | some o =>
              rcases pu.nw x o q with z | z
              · rw [a2.dis x hx] at z; cases z
              · rcases List.mem_append.mp hx with w | w
                · exact (z.no' (e2.thereN x w)).elim
                · have : x = D := by simpa using w
                  rw [this] at z; exact (z.no d2 (fun q => nomatch q)).elim
          have th3 : ∀ x ∈ [D], ∃ o, H3 x = some o ∧ ¬ Tf o := fun x hx => by
            have : x = D := by simpa using hx
            rw [this]; exact ⟨_, D3, fun q => nomatch q⟩
          have a23 : Aft F1 H1 fp1 F3 H3 (fp2 ++ [D]) := by
            refine a2.trans ⟨pu.leF, pu.le, fun x o ex _ => pu.same x o ex, fun x ex => pu.same.none_of ex, fun x hx => .inl hx, fun x o ex => ?_, nd2, dis3⟩
            rcases pu.nw x o ex with z | z
            · exact .inl z
            · exact .inr (.inr z)
          obtain ⟨b4, k4⟩ := aft_call (l := []) (by rw [List.append_nil]; exact a4) nd2 dis3 th3
          rw [List.append_nil] at b4;have a14 := a23.trans b4
          have D4 : H4 D = some (.lst vacc) := k4 D (by simp) _ D3
          refine ⟨wipe_pt hn q4, F4, ρ3, fp4, s4, ?_⟩;cases ec : c ρ3 with
          | stk => simp only [ec] at eq2; exact fin _ h eq2.symm
          | exc x ρ4 => simp only [ec] at eq2; exact (fin _ h eq2.symm).elim
          | ok bb ρ4 =>
            intro F5 H5 fp5 a5 s5;have dis4 : ∀ x ∈ fp4 ++ [D], F4 x = none := a14.dis
            have th4 : ∀ x ∈ [D], ∃ o, H4 x = some o ∧ ¬ Tf o := fun x hx => by
              have : x = D := by simpa using hx
              rw [this]; exact ⟨_, D4, fun q => nomatch q⟩
            obtain ⟨b5, k5⟩ := aft_call (l := []) (by rw [List.append_nil]; exact a5) a14.nd dis4 th4
            rw [List.append_nil] at b5;have a15 := a14.trans b5
            have D5 : H5 D = some (.lst vacc) := k5 D (by simp) _ D4
            cases bb with
            | false =>
              simp only [ec] at eq2;rw [if_neg Bool.false_ne_true]
              have le5 : HLe F2 F5 := (pu.leF.trans a4.leF).trans a5.leF
              obtain ⟨l', w1, w2⟩ := s5.env.wipe vs;rw [wipe_pt hn q4] at w1;exact ⟨F5, _, l', acc, vacc, a15.less (List.Sublist.append w2 (List.Sublist.refl _)), l2.trans le5, w1, s5.amb, D5, o2.any le5, eq2⟩
            | true =>
              simp only [ec] at eq2;rw [if_pos rfl]
              refine ⟨F5, ρ4, fp5, s5, ?_⟩;cases ee : e ρ4 with
              | stk => simp only [ee] at eq2; exact fin _ h eq2.symm
              | exc x ρ5 => simp only [ee] at eq2; exact (fin _ h eq2.symm).elim
              | ok q ρ5 =>
                simp only [ee] at eq2;intro y F6 H6 fp6 a6 s6 oy
                by_cases hz : acc.length < 100000
                · rw [if_pos hz] at eq2;have th5 : ∀ x ∈ [D], ∃ o, H5 x = some o ∧ ¬ Tf o := fun x hx => by
                    have : x = D := by simpa using hx
                    rw [this]; exact ⟨_, D5, fun q => nomatch q⟩
                  obtain ⟨b6, k6⟩ := aft_call (l := []) (by rw [List.append_nil]; exact a6) a15.nd a15.dis th5
                  rw [List.append_nil] at b6;have a16 := a15.trans b6
                  have D6 : H6 D = some (.lst vacc) := k6 D (by simp) _ D5
                  have le6 : HLe F2 F6 := ((pu.leF.trans a4.leF).trans a5.leF).trans a6.leF
                  have o6 := o2.any (H' := H6) le6;refine ⟨vacc, D6, by rw [o6.length]; exact Nat.lt_of_lt_of_le hz (by decide), F6, wipeP ρ5 vs, ?_⟩
                  have nD6 : D ∉ fp6 := fun z => (List.nodup_append.mp a16.nd).2.2 D z D (by simp) rfl
                  have FD : F6 D = none := a16.dis D (by simp)
                  have le7 : HLe F6 (upd H6 D (.lst (vacc ++ [y]))) := fun x o ex => by
                    rw [upd_ne (fun z => by rw [z, FD] at ex; cases ex)]
                    exact s6.le x o ex
                  have a67 : Aft F6 H6 (fp6 ++ [D]) F6 (upd H6 D (.lst (vacc ++ [y]))) (fp6 ++ [D]) :=
                    ⟨.refl, le7, fun x o ex nx => by rw [upd_ne (fun z => nx (by simp [z]))]; exact ex, fun x ex => by
                      by_cases z : x = D
                      · rw [z, upd_same] at ex; cases ex
                      · rw [upd_ne z] at ex; exact ex, fun x hx => .inl hx, fun x o ex => .inl ex, a16.nd, a16.dis⟩
                  obtain ⟨l', w1, w2⟩ := (s6.env.mono (H' := upd H6 D (.lst (vacc ++ [y]))) .refl (fun x hx o ex => by rw [upd_ne (show x ≠ D from fun z => nD6 (by rw [← z]; exact hx))]; exact ex)).wipe vs
                  rw [wipe_pt hn q4] at w1;exact ⟨l', acc ++ [q], vacc ++ [y], (a16.trans a67).less (List.Sublist.append w2 (List.Sublist.refl _)), l2.trans le6, w1, s6.amb, upd_same, OwL.snoc (o6.any .refl) (oy.any .refl), eq2⟩
                · rw [if_neg hz] at eq2; exact (fin _ h eq2.symm).elim
      · have eiL : i = ps.length := by omega
        subst eiL;rw [List.drop_length] at eq2
        unfold compL at eq2;rw [← eq2] at h
        refine .inl ⟨wk.stop F2 H2 l2 a2.le, ?_⟩;obtain ⟨l1, u1, u2⟩ := EnvR.unwipe vs e2;obtain ⟨l3, u3, u4⟩ := EnvR.back (a2'.leF) s1.env vs u1;have a3 : Aft F1 H1 fp1 F2 H2 (l3 ++ [D]) := a2.less (List.Sublist.append (u4.trans u2) (List.Sublist.refl _))
        have a3' := a3.less (List.sublist_append_left l3 [D]);exact h (.ref D) F2 H2 l3 [D] (a1.trans a3) ⟨a2.le, u3, a3'.nd, a3'.dis, am2⟩ (.lst_new d2 o2)
end
section
variable {X : Cx} {J : Jx} {W : WX} {P : List Nat} {elt tg iter : Expr} {ifs : List Expr} {scope : Scope} {own : List (Str × Nat)} {pos : Pos} {n : Nat}
theorem pe_impI {X : Cx} {e : Expr} {t t' : TE} (h : PE X e t) (k : ∀ σ H Q, σ.length = X.N.length → t' σ H Q → t σ H Q) : PE X e t' := ⟨fun pins s σ H Q I q => h.run pins s σ H Q I (k σ H Q I.len q)⟩
theorem pts_imp {X : Cx} {e : List Expr} {t t' : TT} (h : PTs X e t) (k : ∀ σ H Q, t' σ H Q → t σ H Q) : PTs X e t' := ⟨fun pins s σ H Q I q => h.run pins s σ H Q I (k σ H Q q)⟩
abbrev GTs (X : Cx) (J : Jx) (W : WX) (e : List Expr) (c : PEnv → GR Bool) : Prop := PTs X e (TGB X.K J W c)
theorem gts_nil : GTs X J W [] yesG := pts_imp pts_nil fun σ H Q h => by
  obtain ⟨F, ρ, fp, s, h⟩ := h;exact h F H fp s.aft0 s
theorem ge_lc {it : PEnv → GR (List PV)} {g : PV → PEnv → Option PEnv} {c : PEnv → GR Bool} {e : PEnv → GR PV} (hn : X.N.length = n) (hc : X.calm = true) (hN : X.N.Nodup) (hi : RI X J W tg iter it) (ok : BlkOk X.N X.env.scope scope own)
    (hg : ∀ (s : Shared) (H : Hp) (C : Addr) (cl : List (Str × Addr)) (fp : List Addr), RG (X.blk s H scope (compEnvC scope cl C X.env) fp) J (keepS n (own.map (·.2))) tg g)
    (ht : ∀ (s : Shared) (H : Hp) (C : Addr) (cl : List (Str × Addr)) (fp : List Addr), GTs (X.blk s H scope (compEnvC scope cl C X.env) fp) J RL.W0 ifs c)
    (he : ∀ (s : Shared) (H : Hp) (C : Addr) (cl : List (Str × Addr)) (fp : List Addr), GZ (X.blk s H scope (compEnvC scope cl C X.env) fp) J RL.W0 elt e) (hs : ∀ x, foldedSetIterable iter X.env x = pure x := by intro _; rfl) :
    GE X J W (.ListComp elt [⟨tg, iter, ifs, 0⟩] scope pos) (compG it g c e (own.map (·.2))) :=
  pe_impI (pe_lc hc hN hi ok hg ht he hs) fun _ _ _ hl => ts_comp (hl.trans hn)
/-- names in a block -/
theorem takesW0 {X : Cx} : Takes X RL.W0 := takes0
end
end RL
namespace RL
open PySem PySem.Spec PyProof.Rows L2
def vD : V → PyData
  | .bl b => .bool b
  | .int i => .int i
  | .str x => .str x
  | _ => .none
def toD : Nat → PV → PyData
  | _, .sc v => vD v
  | n + 1, .tup xs => .tuple (xs.map (toD n))
  | n + 1, .lst _ xs => .list (xs.map (toD n))
  | n + 1, .lsk b xs => .list (xs.map (toD n))
  | _, _ => .none
theorem eqv_vD : ∀ x y : V, okV x = true → okV y = true → PyData.eqv (vD x) (vD y) = eqV x y := by
  intro x y hx hy;cases x <;> cases y <;> first | (simp [okV] at hx; done) | (simp [okV] at hy; done) | (simp only [vD, PyData.eqv, eqV])
theorem eqvAll_map {n : Nat} (ih : ∀ p q, okD n p = true → okD n q = true → PyData.eqv (toD n p) (toD n q) = eqD n p q) :
    ∀ xs ys : List PV, xs.all (okD n) = true → ys.all (okD n) = true → PyData.eqvAll (xs.map (toD n)) (ys.map (toD n)) = eqDL (eqD n) xs ys
  | [], [], _, _ => by simp only [List.map, PyData.eqvAll, eqDL]
  | [], _ :: _, _, _ => by simp only [List.map, PyData.eqvAll, eqDL]
  | _ :: _, [], _, _ => by simp only [List.map, PyData.eqvAll, eqDL]
  | x :: xs, y :: ys, hx, hy => by
    rw [List.all_cons, Bool.and_eq_true] at hx hy;simp only [List.map, PyData.eqvAll, eqDL]
    rw [ih x y hx.1 hy.1, eqvAll_map ih xs ys hx.2 hy.2]
theorem eqv_vt {x : V} {xs : List PyData} : okV x = true → PyData.eqv (vD x) (.tuple xs) = false ∧ PyData.eqv (.tuple xs) (vD x) = false ∧ PyData.eqv (vD x) (.list xs) = false ∧ PyData.eqv (.list xs) (vD x) = false := by
  intro h;cases x <;> first | (simp [okV] at h; done) | exact ⟨by simp only [vD, PyData.eqv], by simp only [vD, PyData.eqv], by simp only [vD, PyData.eqv], by simp only [vD, PyData.eqv]⟩
theorem eqv_toD : ∀ (n : Nat) (p q : PV), okD n p = true → okD n q = true → PyData.eqv (toD n p) (toD n q) = eqD n p q
  | n, .sc x, .sc y, hx, hy => by
    have hx : okV x = true := by cases n <;> exact hx
    have hy : okV y = true := by cases n <;> exact hy
    cases n <;> exact eqv_vD x y hx hy
  | n + 1, .sc x, .tup ys, hx, hy => (eqv_vt hx).1
  | n + 1, .sc x, .lst o ys, hx, hy => (eqv_vt hx).2.2.1
  | n + 1, .sc x, .lsk b ys, hx, hy => (eqv_vt hx).2.2.1
  | n + 1, .tup xs, .sc y, hx, hy => (eqv_vt hy).2.1
  | n + 1, .lst o xs, .sc y, hx, hy => (eqv_vt hy).2.2.2
  | n + 1, .lsk b xs, .sc y, hx, hy => (eqv_vt hy).2.2.2
  | n + 1, .tup xs, .tup ys, hx, hy => by simp only [toD, eqD, PyData.eqv]; exact eqvAll_map (eqv_toD n) xs ys hx hy
  | n + 1, .lst o xs, .lst o' ys, hx, hy => by simp only [toD, eqD, PyData.eqv]; exact eqvAll_map (eqv_toD n) xs ys hx hy
  | n + 1, .lsk b xs, .lst o' ys, hx, hy => by simp only [toD, eqD, PyData.eqv]; exact eqvAll_map (eqv_toD n) xs ys hx hy
  | n + 1, .lst o xs, .lsk b ys, hx, hy => by simp only [toD, eqD, PyData.eqv]; exact eqvAll_map (eqv_toD n) xs ys hx hy
  | n + 1, .lsk b xs, .lsk b' ys, hx, hy => by simp only [toD, eqD, PyData.eqv]; exact eqvAll_map (eqv_toD n) xs ys hx hy
  | n + 1, .tup xs, .lst o ys, hx, hy => by simp only [toD, eqD, PyData.eqv]
  | n + 1, .tup xs, .lsk b ys, hx, hy => by simp only [toD, eqD, PyData.eqv]
  | n + 1, .lst o xs, .tup ys, hx, hy => by simp only [toD, eqD, PyData.eqv]
  | n + 1, .lsk b xs, .tup ys, hx, hy => by simp only [toD, eqD, PyData.eqv]
  | 0, .tup _, _, hx, _ => by simp [okD] at hx
  | 0, .lst _ _, _, hx, _ => by simp [okD] at hx
  | 0, .lsk _ _, _, hx, _ => by simp [okD] at hx
  | 0, _, .tup _, _, hx => by simp [okD] at hx
  | 0, _, .lst _ _, _, hx => by simp [okD] at hx
  | 0, _, .lsk _ _, _, hx => by simp [okD] at hx
  | n, .dct _ _ _, _, hx, _ => by cases n <;> simp [okD] at hx
  | n, .dtt _ _ _, _, hx, _ => by cases n <;> simp [okD] at hx
  | n, .dtb _ _ _, _, hx, _ => by cases n <;> simp [okD] at hx
  | n, .obj _ _ _ _, _, hx, _ => by cases n <;> simp [okD] at hx
  | n, .tpk _, _, hx, _ => by cases n <;> simp [okD] at hx
  | n, .exo _ _ _, _, hx, _ => by cases n <;> simp [okD] at hx
  | n, .tab _ _, _, hx, _ => by cases n <;> simp [okD] at hx
  | n, _, .dct _ _ _, _, hx => by cases n <;> simp [okD] at hx
  | n, _, .dtt _ _ _, _, hx => by cases n <;> simp [okD] at hx
  | n, _, .dtb _ _ _, _, hx => by cases n <;> simp [okD] at hx
  | n, _, .obj _ _ _ _, _, hx => by cases n <;> simp [okD] at hx
  | n, _, .tpk _, _, hx => by cases n <;> simp [okD] at hx
  | n, _, .exo _ _ _, _, hx => by cases n <;> simp [okD] at hx
  | n, _, .tab _ _, _, hx => by cases n <;> simp [okD] at hx
theorem depth_all {n k : Nat} (ih : ∀ p, (toD n p).depth ≤ k) : ∀ xs : List PV, PyData.depthAll (xs.map (toD n)) ≤ k
  | [] => by simp only [List.map, PyData.depthAll]; exact Nat.zero_le _
  | x :: xs => by
    simp only [List.map, PyData.depthAll];exact Nat.max_le.mpr ⟨ih x, depth_all ih xs⟩
theorem depth_toD : ∀ (n : Nat) (p : PV), (toD n p).depth ≤ n
  | n, .sc v => by
    have : (vD v).depth = 0 := by cases v <;> simp only [vD, PyData.depth]
    cases n <;> (show (vD v).depth ≤ _; omega)
  | n + 1, .tup xs => by simp only [toD, PyData.depth]; exact Nat.succ_le_succ (depth_all (depth_toD n) xs)
  | n + 1, .lst _ xs => by simp only [toD, PyData.depth]; exact Nat.succ_le_succ (depth_all (depth_toD n) xs)
  | n + 1, .lsk b xs => by simp only [toD, PyData.depth]; exact Nat.succ_le_succ (depth_all (depth_toD n) xs)
  | 0, .tup xs => by simp only [toD, PyData.depth]; exact Nat.zero_le _
  | 0, .lst _ xs => by simp only [toD, PyData.depth]; exact Nat.zero_le _
  | 0, .lsk b xs => by simp only [toD, PyData.depth]; exact Nat.zero_le _
  | n, .dct _ _ _ => by cases n <;> (simp only [toD, PyData.depth]; exact Nat.zero_le _)
  | n, .dtt _ _ _ => by cases n <;> (simp only [toD, PyData.depth]; exact Nat.zero_le _)
  | n, .dtb _ _ _ => by cases n <;> (simp only [toD, PyData.depth]; exact Nat.zero_le _)
  | n, .obj _ _ _ _ => by cases n <;> (simp only [toD, PyData.depth]; exact Nat.zero_le _)
  | n, .tpk _ => by cases n <;> (simp only [toD, PyData.depth]; exact Nat.zero_le _)
  | n, .exo _ _ _ => by cases n <;> (simp only [toD, PyData.depth]; exact Nat.zero_le _)
  | n, .tab _ _ => by cases n <;> (simp only [toD, PyData.depth]; exact Nat.zero_le _)
theorem lay_all {n : Nat} (ih : ∀ p, okD n p = true → (toD n p).canLay0 = true) : ∀ xs : List PV, xs.all (okD n) = true → PyData.canLayAll0 (xs.map (toD n)) = true
  | [], _ => by simp only [List.map, PyData.canLayAll0]
  | x :: xs, h => by
    rw [List.all_cons, Bool.and_eq_true] at h;simp only [List.map, PyData.canLayAll0]
    rw [ih x h.1, lay_all ih xs h.2];rfl
theorem lay_toD : ∀ (n : Nat) (p : PV), okD n p = true → (toD n p).canLay0 = true
  | n, .sc v, h => by
    have h : okV v = true := by cases n <;> exact h
    have : (vD v).canLay0 = true := by cases v <;> first | (simp [okV] at h; done) | (simp only [vD, PyData.canLay0]; done) | (simp only [vD, PyData.canLay0]; exact h)
    cases n <;> exact this
  | n + 1, .tup xs, h => by simp only [toD, PyData.canLay0]; exact lay_all (lay_toD n) xs h
  | n + 1, .lst _ xs, h => by simp only [toD, PyData.canLay0]; exact lay_all (lay_toD n) xs h
  | n + 1, .lsk b xs, h => by simp only [toD, PyData.canLay0]; exact lay_all (lay_toD n) xs h
  | 0, .tup _, h => by simp [okD] at h
  | 0, .lst _ _, h => by simp [okD] at h
  | 0, .lsk _ _, h => by simp [okD] at h
  | n, .dct _ _ _, h => by cases n <;> simp [okD] at h
  | n, .dtt _ _ _, h => by cases n <;> simp [okD] at h
  | n, .dtb _ _ _, h => by cases n <;> simp [okD] at h
  | n, .obj _ _ _ _, h => by cases n <;> simp [okD] at h
  | n, .tpk _, h => by cases n <;> simp [okD] at h
  | n, .exo _ _ _, h => by cases n <;> simp [okD] at h
  | n, .tab _ _, h => by cases n <;> simp [okD] at h
theorem shaped_toD {n : Nat} {p : PV} (hn : n ≤ 64) (h : okD n p = true) : SeqAt.shaped (toD n p) = true := by
  unfold SeqAt.shaped;rw [lay_toD n p h, Bool.true_and]
  exact decide_eq_true (Nat.le_trans (depth_toD n p) hn)
section
variable {K : Fg} {F H : Hp}
theorem Ow.sqL_of {v : V} {o : Bool} {xs : List PV} {l : List Addr} (h : Ow K F H v (.lst o xs) l) (le : HLe F H) : ∃ a vs l', v = .ref a ∧ H a = some (.lst vs) ∧ OwL K F H vs xs l' ∧ (∀ x ∈ l', x ∈ l) := by
  cases h with
  | lstF h t => exact ⟨_, _, [], rfl, le _ _ h, t, fun _ z => z⟩
  | lstO h t => exact ⟨_, _, _, rfl, h, t, fun x z => List.mem_cons_of_mem _ z⟩
mutual
theorem Ow.dp (le : HLe F H) : ∀ (n : Nat) {v : V} {p : PV} {l : List Addr}, Ow K F H v p l → okD n p = true → Dp K H v (toD n p)
  | n, _, _, _, .sc v, h => by
    have h : okV v = true := by cases n <;> exact h
    have : Dp K H v (vD v) := by
      cases v <;> first | exact .non | exact .bl _ | exact .int _ | exact .str _ | (simp [okV] at h)
    cases n <;> exact this
  | n + 1, _, _, _, .tup h t, e => .tup (.inl (.inl (le _ _ h))) (OwL.dp le n t e)
  | n + 1, _, _, _, .lstF h t, e => .lst (.inl (.inl (le _ _ h))) (OwL.dp le n t e)
  | n + 1, _, _, _, .lsk h t, e => .lst (le.sqL h) (OwL.dp le n t e)
  | n + 1, _, _, _, .lstO h t, e => .lst (.inl (.inl h)) (OwL.dp le n t e)
  | 0, _, _, _, .tup _ _, e => by simp [okD] at e
  | 0, _, _, _, .lstF _ _, e => by simp [okD] at e
  | 0, _, _, _, .lsk _ _, e => by simp [okD] at e
  | 0, _, _, _, .lstO _ _, e => by simp [okD] at e
  | n, _, _, _, .dctF _ _ _, e => by cases n <;> simp [okD] at e
  | n, _, _, _, .dctO _ _ _, e => by cases n <;> simp [okD] at e
  | n, _, _, _, .dttF _ _ _, e => by cases n <;> simp [okD] at e
  | n, _, _, _, .dttO _ _ _, e => by cases n <;> simp [okD] at e
  | n, _, _, _, .dtbF _ _ _ _ _, e => by cases n <;> simp [okD] at e
  | n, _, _, _, .dtbO _ _ _ _ _, e => by cases n <;> simp [okD] at e
  | n, _, _, _, .objF _ _ _, e => by cases n <;> simp [okD] at e
  | n, _, _, _, .objO _ _ _, e => by cases n <;> simp [okD] at e
  | n, _, _, _, .tpk _ _, e => by cases n <;> simp [okD] at e
  | n, _, _, _, .exo _ _ _, e => by cases n <;> simp [okD] at e
  | n, _, _, _, .tab _, e => by cases n <;> simp [okD] at e
theorem OwL.dp (le : HLe F H) : ∀ (n : Nat) {vs : List V} {ps : List PV} {l : List Addr}, OwL K F H vs ps l → ps.all (okD n) = true → DpAll K H vs (ps.map (toD n))
  | _, _, _, _, .nil, _ => .nil
  | n, _, _, _, .cons h t, e => by
    rw [List.all_cons, Bool.and_eq_true] at e;exact .cons (Ow.dp le n h e.1) (OwL.dp le n t e.2)
end
theorem o2_eq : Op2S K (rEqD K) fun p q => (eqP p q).map V.bl := by
  intro F H x y p q l l' v Q le o1 o2 e h;unfold eqP at e
  dsimp only at e
  by_cases c : okD dN p = true ∧ okD dN q = true
  · rw [if_pos c] at e;cases e
    refine ⟨toD dN p, toD dN q, o1.dp le dN c.1, o2.dp le dN c.2, shaped_toD (by decide) c.1, shaped_toD (by decide) c.2, ?_⟩
    rw [eqv_toD dN p q c.1 c.2];exact h
  · rw [if_neg c] at e; cases e
theorem o2_ne : Op2S K (rNeD K) fun p q => (neP p q).map V.bl := by
  intro F H x y p q l l' v Q le o1 o2 e h;unfold neP at e
  dsimp only at e
  by_cases c : okD dN p = true ∧ okD dN q = true
  · rw [if_pos c] at e;cases e
    refine ⟨toD dN p, toD dN q, o1.dp le dN c.1, o2.dp le dN c.2, shaped_toD (by decide) c.1, shaped_toD (by decide) c.2, ?_⟩
    rw [eqv_toD dN p q c.1 c.2];exact h
  · rw [if_neg c] at e; cases e
end
end RL
namespace RL
open PySem PySem.Spec PyProof.Rows L2
def i1 (g : Int → V) : PV → Option PV
  | .sc (.int i) => some (.sc (g i))
  | _ => none
abbrev subI : PV → PV → Option V := i2 fun i j => some (.int (i - j))
abbrev mulI : PV → PV → Option V := i2 fun i j => if (-(2 ^ 64) < i ∧ i < 2 ^ 64) ∨ (-(2 ^ 64) < j ∧ j < 2 ^ 64) then some (.int (i * j)) else none
abbrev modI : PV → PV → Option V := i2 fun i j => if 0 < j then some (.int (i % j)) else none
abbrev fdivI : PV → PV → Option V := i2 fun i j => if 0 < j ∧ j.natAbs.log2 < 9000 then some (.int (i / j)) else none
abbrev powI : PV → PV → Option V := i2 fun i j => if 0 ≤ j ∧ j ≤ 1000000 ∧ i.natAbs < 2 ^ 64 then some (.int (i ^ j.toNat)) else none
abbrev shlI : PV → PV → Option V := i2 fun i j => if 0 ≤ j ∧ j ≤ 1000000 ∧ i.natAbs < 2 ^ 64 then some (.int (i * 2 ^ j.toNat)) else none
abbrev shrI : PV → PV → Option V := i2 fun i j => if 0 ≤ j then some (.int (i / 2 ^ j.toNat)) else none
abbrev andI : PV → PV → Option V := i2 fun i j => some (.int (Builtin.bitAnd i j))
abbrev ltI : PV → PV → Option Bool := i2b fun i j => decide (i < j)
abbrev leI : PV → PV → Option Bool := i2b fun i j => decide (i ≤ j)
abbrev gtI : PV → PV → Option Bool := i2b fun i j => decide (j < i)
abbrev geI : PV → PV → Option Bool := i2b fun i j => decide (j ≤ i)
section
variable {K : Fg} {F H : Hp}
theorem i2_some {g : Int → Int → Option V} {p q : PV} {v : V} (e : i2 g p q = some v) : ∃ i j, p = .sc (.int i) ∧ q = .sc (.int j) ∧ g i j = some v := by
  unfold i2 at e;split at e
  · exact ⟨_, _, rfl, rfl, e⟩
  · cases e
theorem i2b_some {g : Int → Int → Bool} {p q : PV} {b : Bool} (e : i2b g p q = some b) : ∃ i j, p = .sc (.int i) ∧ q = .sc (.int j) ∧ g i j = b := by
  unfold i2b at e;split at e
  · cases e; exact ⟨_, _, rfl, rfl, rfl⟩
  · cases e
theorem Ow.scE {v u : V} {l : List Addr} (o : Ow K F H v (.sc u) l) : v = u ∧ l = [] := by
  cases o; exact ⟨rfl, rfl⟩
theorem o2_i {C : Int → Int → Prop} {g0 : Int → Int → V} {g : Int → Int → Option V} (h : ∀ i j v, g i j = some v → C i j ∧ g0 i j = v) : Op2S K (rI C g0) (i2 g) := by
  intro F H x y p q l l' v Q le o1 o2 e k;obtain ⟨i, j, rfl, rfl, e⟩ := i2_some e
  obtain ⟨hc, rfl⟩ := h i j v e;exact ⟨i, j, o1.scE.1, o2.scE.1, hc, k⟩
theorem o2_i0 {g0 : Int → Int → V} : Op2S K (rI0 g0) (i2 fun i j => some (g0 i j)) := by
  intro F H x y p q l l' v Q le o1 o2 e k;obtain ⟨i, j, rfl, rfl, e⟩ := i2_some e
  cases e;exact ⟨i, j, o1.scE.1, o2.scE.1, k⟩
theorem o2_mul : Op2S K (rI CMul fun i j => .int (i * j)) mulI := o2_i fun i j v e => by
  by_cases c : (-(2 ^ 64) < i ∧ i < 2 ^ 64) ∨ (-(2 ^ 64) < j ∧ j < 2 ^ 64)
  · rw [if_pos c] at e; cases e; exact ⟨c, rfl⟩
  · rw [if_neg c] at e; cases e
theorem o2_mod : Op2S K (rI (fun _ j => 0 < j) fun i j => .int (i % j)) modI := o2_i fun i j v e => by
  by_cases c : 0 < j
  · rw [if_pos c] at e; cases e; exact ⟨c, rfl⟩
  · rw [if_neg c] at e; cases e
theorem o2_fdiv : Op2S K (rI CDivW fun i j => .int (i / j)) fdivI := o2_i fun i j v e => by
  by_cases c : 0 < j ∧ j.natAbs.log2 < 9000
  · rw [if_pos c] at e; cases e; exact ⟨c, rfl⟩
  · rw [if_neg c] at e; cases e
theorem o2_pow : Op2S K (rI CPow fun i j => .int (i ^ j.toNat)) powI := o2_i fun i j v e => by
  by_cases c : 0 ≤ j ∧ j ≤ 1000000 ∧ i.natAbs < 2 ^ 64
  · rw [if_pos c] at e; cases e; exact ⟨c, rfl⟩
  · rw [if_neg c] at e; cases e
theorem o2_cmp {g : Int → Int → Bool} : Op2S K (rI0 fun i j => .bl (g i j)) fun p q => (i2b g p q).map V.bl := by
  intro F H x y p q l l' v Q le o1 o2 e k
  dsimp only at e
  cases eb : i2b g p q with
  | none => rw [eb] at e; cases e
  | some b =>
    rw [eb] at e;cases e
    obtain ⟨i, j, rfl, rfl, rfl⟩ := i2b_some eb;exact ⟨i, j, o1.scE.1, o2.scE.1, k⟩
theorem okF_sc {v : V} {Q : VK} {F H : Hp} (le : HLe F H) (h : OkF K F H (.sc v) Q) : Q v H := h v F H [] (Pur.refl le) (.sc v) .nil
theorem isEmpty_len {α β : Type} {xs : List α} {ys : List β} (h : xs.length = ys.length) : xs.isEmpty = ys.isEmpty := by
  cases xs <;> cases ys <;> first | rfl | (simp at h)
theorem tru_of {x : V} {p : PV} {l : List Addr} {b : Bool} (le : HLe F H) (o : Ow K F H x p l) (e : truP p = some b) : TruV K x H b := by
  cases o with
  | sc =>
    cases x <;> first
      | (cases e; rfl)
      | (simp only [truP] at e
         split at e
         · rename_i c
           cases e;exact ⟨c, rfl⟩
         · cases e)
      | (cases e)
  | tup h t =>
    cases e;exact .inr (.inl ⟨_, .inl (.inl (le _ _ h)), by rw [isEmpty_len t.length]⟩)
  | lstF h t =>
    cases e;exact .inl ⟨_, .inl (.inl (le _ _ h)), by rw [isEmpty_len t.length]⟩
  | lsk h t =>
    cases e;exact .inl ⟨_, le.sqL h, by rw [isEmpty_len t.length]⟩
  | lstO h t =>
    cases e;exact .inl ⟨_, .inl (.inl h), by rw [isEmpty_len t.length]⟩
  | dctO h e' t =>
    cases e;exact .inr (.inr ⟨_, h, congrArg Bool.not (isEmpty_len (by rw [List.length_zip, ← e', Nat.min_self]))⟩)
  | _ => cases e
theorem seq_of {x : V} {p : PV} {ps : List PV} {l : List Addr} (le : HLe F H) (o : Ow K F H x p l) (e : seqK p = some ps) : ∃ a vs l', x = .ref a ∧ (SqL K H a vs ∨ SqT K H a vs) ∧ OwL K F H vs ps l' ∧ (∀ z ∈ l', z ∈ l) := by
  cases o with
  | sc v => cases e
  | tup h t => cases e; exact ⟨_, _, _, rfl, .inr (.inl (.inl (le _ _ h))), t, fun _ z => z⟩
  | lstF h t => cases e; exact ⟨_, _, _, rfl, .inl (.inl (.inl (le _ _ h))), t, fun _ z => z⟩
  | lsk h t => cases e; exact ⟨_, _, _, rfl, .inl (le.sqL h), t, fun _ z => z⟩
  | tpk h t => cases e; exact ⟨_, _, _, rfl, .inr (le.sqT h), t, fun _ z => z⟩
  | lstO h t => cases e; exact ⟨_, _, _, rfl, .inl (.inl (.inl h)), t, fun _ z => List.mem_cons_of_mem _ z⟩
  | _ => cases e
theorem OwL.one' {vs : List V} {qs : List PV} {l : List Addr} {p : PV} (o : OwL K F H vs qs l) : qs = [p] → ∃ v, vs = [v] ∧ Ow K F H v p l := by
  cases o with
  | nil => intro e; cases e
  | cons h t =>
    intro e;cases e
    obtain ⟨rfl, rfl⟩ := t.nilE;rw [List.append_nil];exact ⟨_, rfl, h⟩
theorem OwL.one {vs : List V} {l : List Addr} {p : PV} (o : OwL K F H vs [p] l) : ∃ v, vs = [v] ∧ Ow K F H v p l := o.one' rfl
def rLenS (K : Fg) : List V → Hp → VK → Prop := fun xs H Q => (∃ p ys, xs = [.ref p] ∧ (SqL K H p ys ∨ SqT K H p ys) ∧ Q (.int ys.length) H) ∨ ∃ z, xs = [.str z] ∧ z.length ≤ sizeLine ∧ Q (.int z.length) H
theorem cr_len {X : Cx} : CallR X (.builtin "len") (rLenS X.K) := call_len_seq.or call_len_str
theorem cg_len : CallG K (rLenS K) lenA := by
  intro F H vs ps l o Q le ow e k;unfold lenA at e
  split at e
  · split at e
    · rename_i x c
      cases e;obtain ⟨v, rfl, w⟩ := ow.one
      exact .inr ⟨x, by rw [w.scE.1], c, okF_sc le k⟩
    · cases e
  · rename_i p hne
    cases es : seqK p with
    | none => rw [es] at e; cases e
    | some qs =>
      rw [es] at e;cases e
      obtain ⟨v, rfl, w⟩ := ow.one;obtain ⟨a, us, l', rfl, sq, t, _⟩ := seq_of le w es;refine .inl ⟨a, us, rfl, sq, ?_⟩;rw [t.length];exact okF_sc le k
  · cases e
theorem owl_f {vs : List V} {ps : List PV} {l : List Addr} (o : OwL K F H vs ps l) (e : ps.all PV.fz = true) : OwL K F H vs ps [] := by
  have z := owl_fz o e;subst z;exact o
theorem cg_tup : CallG K (fun xs H Q => ∃ p ys, xs = [.ref p] ∧ ((SqL K H p ys ∧ ∀ l, H l = none → Q (.ref l) (upd H l (.tup ys))) ∨ (SqT K H p ys ∧ Q (.ref p) H))) tupA := by
  intro F H vs ps l o Q le ow e k;unfold tupA at e
  split at e
  · rename_i p
    cases es : seqK0 p with
    | none => rw [es] at e; cases e
    | some qs =>
      rw [es] at e;simp only at e
      by_cases c : qs.all PV.fz = true
      · rw [if_pos c] at e;cases e
        obtain ⟨v, rfl, w⟩ := ow.one;have new : ∀ {us : List V} {l' : List Addr} (b : Addr), OwL K F H us qs l' → H b = none → Q (.ref b) (upd H b (.tup us)) := fun b t hb => k _ _ _ [] (pur_new le hb) (.tup upd_same ((owl_f t c).any (pur_new le hb).leF)) .nil
        cases w with
        | tup h t => cases es; exact ⟨_, _, rfl, .inr ⟨.inl (.inl (le _ _ h)), k _ F H [] (Pur.refl le) (.tup h t) .nil⟩⟩
        | lstF h t => cases es; exact ⟨_, _, rfl, .inl ⟨.inl (.inl (le _ _ h)), fun b hb => new b t hb⟩⟩
        | lsk h t => cases es; exact ⟨_, _, rfl, .inl ⟨le.sqL h, fun b hb => new b t hb⟩⟩
        | lstO h t => cases es; exact ⟨_, _, rfl, .inl ⟨.inl (.inl h), fun b hb => new b t hb⟩⟩
        | _ => cases es
      · rw [if_neg c] at e; cases e
  · cases e
theorem cg_int : CallG K (fun xs H Q => (∃ i, xs = [.int i] ∧ Q (.int i) H) ∨ ∃ k, xs = [.bl k] ∧ Q (.int (if k then 1 else 0)) H) intA := by
  intro F H vs ps l o Q le ow e k;unfold intA at e
  split at e
  · cases e;obtain ⟨v, rfl, w⟩ := ow.one
    exact .inl ⟨_, by rw [w.scE.1], okF_sc le k⟩
  · cases e;obtain ⟨v, rfl, w⟩ := ow.one
    exact .inr ⟨_, by rw [w.scE.1], okF_sc le k⟩
  · cases e
theorem cg_abs : CallG K (fun xs H Q => ∃ i, xs = [.int i] ∧ Q (.int (if i < 0 then -i else i)) H) absA := by
  intro F H vs ps l o Q le ow e k;unfold absA at e
  split at e
  · cases e;obtain ⟨v, rfl, w⟩ := ow.one
    exact ⟨_, by rw [w.scE.1], okF_sc le k⟩
  · cases e
def max2A : List PV → Option PV
  | [.sc (.int i), .sc (.int j)] => some (.int (if j > i then j else i))
  | _ => none
def min2A : List PV → Option PV
  | [.sc (.int i), .sc (.int j)] => some (.int (if j < i then j else i))
  | _ => none
/-- the ints of a list -/
def intsK : List PV → Option (List Int)
  | [] => some []
  | .sc (.int i) :: ps => (intsK ps).map (i :: ·)
  | _ => none
def sumA : List PV → Option PV
  | [p] => (listOf p).bind fun ps => (intsK ps).map fun ns => .int ns.sum
  | _ => none
def anyA : List PV → Option PV
  | [p] => (listOf p).bind fun ps => (blsK ps).map fun bs => .bl (bs.any id)
  | _ => none
def allA : List PV → Option PV
  | [p] => (listOf p).bind fun ps => (blsK ps).map fun bs => .bl (bs.all id)
  | _ => none
end
end RL
namespace RL
open PySem PySem.Spec PyProof.Rows L2
section
variable {K : Fg} {F H : Hp}
theorem ixI_some {i : Int} {p o : PV} (e : ixI i p = some o) : (∃ z c, p = .sc (.str z) ∧ z.length ≤ sizeLine ∧ atI z.cps.toList i = some c ∧ o = .sc (.str ⟨#[c]⟩)) ∨ ∃ ps, seqK p = some ps ∧ atI ps i = some o := by
  unfold ixI at e;split at e
  · rename_i z
    split at e
    · rename_i c
      cases ec : atI z.cps.toList i with
      | none => rw [ec] at e; cases e
      | some ch =>
        rw [ec] at e;cases e
        exact .inl ⟨z, ch, rfl, c, ec, rfl⟩
    · cases e
  · exact .inr ⟨_, rfl, e⟩
  · exact .inr ⟨_, rfl, e⟩
  · exact .inr ⟨_, rfl, e⟩
  · cases e
theorem atI_len {α β : Type} {xs : List α} {ys : List β} {i : Int} {v : α} (h : xs.length = ys.length) (e : atI xs i = some v) : ∃ j, xs[j]? = some v ∧ ixN ys.length i = some j := by
  unfold atI at e;rw [h] at e
  cases ej : ixN ys.length i with
  | none => rw [ej] at e; cases e
  | some j => rw [ej] at e; exact ⟨j, e, rfl⟩
/-- a subscript's result is a view: items of what is read -/
def Op2V (K : Fg) (r : R2) (g : PV → PV → Option PV) : Prop := ∀ F H x y p q l l' o Q, HLe F H → Ow K F H x p l → Ow K F H y q l' → g p q = some o → (∀ v l2, Ow K F H v o l2 → (∀ a ∈ l2, a ∈ l) → Q v H) → r x y H Q
theorem ov_ix : Op2V K (rIx K) ixP := by
  intro F H x y p q l l' o Q le o1 o2 e k;unfold ixP at e
  split at e
  · rename_i i
    rcases ixI_some e with ⟨z, ch, rfl, c, ec, rfl⟩ | ⟨ps, es, e⟩
    · exact .inr (.inr ⟨z, i, ch, o1.scE.1, o2.scE.1, c, ec, k _ [] (.sc _) (fun _ h => nomatch h)⟩)
    · have o2 := o2.scE.1;obtain ⟨a, vs, l2, rfl, sq, t, kk⟩ := seq_of le o1 es;obtain ⟨j, ej, en⟩ := atI_len t.length.symm e;obtain ⟨v, l3, ev, w, k3⟩ := t.getP ej
      have ea : atI vs i = some v := by
        unfold atI;rw [en]
        exact ev
      rcases sq with sq | sq
      · exact .inl ⟨a, vs, i, v, rfl, o2, sq, ea, k v l3 w (fun z hz => kk z (k3 z hz))⟩
      · exact .inr (.inl ⟨a, vs, i, v, rfl, o2, sq, ea, k v l3 w (fun z hz => kk z (k3 z hz))⟩)
  · cases e
end
section
variable {K : Fg} {J : Jx} {W : WX} {P : List Nat} {σ : Sg} {H : Hp} {Q : VK} {F : Hp} {fp : List Addr} {D : Ends}
theorem tv_twoV {fa fb : PEnv → ER PV} {g : PV → PV → Option PV} {r : R2} (hg : Op2V K r g) : TV K J W (bind2 fa fb g) σ H Q → tOp r (TV K J W fa) (TV K J W fb) σ H Q := by
  rintro ⟨F, ρ, fp, s, h⟩;refine ⟨F, ρ, fp, s, ?_⟩
  unfold bind2 at h;cases ea : fa ρ with
  | stk => simp only [ea, ER.bind] at h
  | exc x => simp only [ea, ER.bind] at h; exact h
  | ok p =>
    simp only [ea, ER.bind] at h;intro x F1 H1 l1 p1 o1 i1
    refine ⟨F1, ρ, fp, s.pur p1, ?_⟩;cases eb : fb ρ with
    | stk => simp only [eb, ER.bind] at h
    | exc x => simp only [eb, ER.bind] at h; exact exV.pur h p1
    | ok q =>
      simp only [eb, ER.bind] at h;intro y F2 H2 l2 p2 o2 i2
      cases e : g p q with
      | none => simp only [e, ER.of] at h
      | some o =>
        simp only [e, ER.of] at h;exact hg F2 H2 x y p q l1 l2 o Q p2.le (o1.mono p2.leF fun a _ o e => p2.same a o e) o2 e fun v l3 w k3 => h v F2 H2 l3 (p1.trans p2) w fun a ha => i1 a (k3 a ha)
end
end RL
namespace RL
open PySem PySem.Spec PyProof.Rows L2
abbrev negV : PV → Option V := u1 fun i => .int (-i)
section
variable {K : Fg} {J : Jx} {W : WX} {P : List Nat} {σ : Sg} {H : Hp} {Q : VK} {F : Hp} {fp : List Addr} {D : Ends}
theorem tz_twoS {fa fb : PEnv → GR PV} {g : PV → PV → Option V} {r : R2} (hg : Op2S K r g) : TZ K J W (bindG2s fa fb g) σ H Q → tOp r (TZ K J W fa) (TZ K J W fb) σ H Q := by
  rintro ⟨F, ρ, fp, s, h⟩;refine ⟨F, ρ, fp, s, ?_⟩
  unfold bindG2s at h;cases ea : fa ρ with
  | stk => simp only [ea, GR.bind] at h
  | exc x ρ' => simp only [ea, GR.bind] at h; exact h
  | ok p ρ1 =>
    simp only [ea, GR.bind] at h;intro x F1 H1 fp1 a1 s1 o1
    refine ⟨F1, ρ1, fp1, s1, ?_⟩;cases eb : fb ρ1 with
    | stk => simp only [eb, GR.bind] at h
    | exc x ρ' => simp only [eb, GR.bind] at h; exact exG.aft h a1
    | ok q ρ2 =>
      simp only [eb, GR.bind] at h;intro y F2 H2 fp2 a2 s2 o2
      cases e : g p q with
      | none => simp only [e, Option.map, ER.of, ER.at] at h
      | some o =>
        simp only [e, Option.map, ER.of, ER.at] at h;exact hg F2 H2 x y p q [] [] o Q s2.le (o1.any a2.leF) o2 e (h o F2 H2 fp2 (a1.trans a2) s2 (.sc o))
theorem tgb_two {fa fb : PEnv → GR PV} {g : PV → PV → Option Bool} {r : R2} (hg : Op2S K r fun p q => (g p q).map V.bl) {Q : Bool → Hp → Prop} : TGB K J W (bindG2b fa fb g) σ H Q → tTest (tOp r (TZ K J W fa) (TZ K J W fb)) σ H Q := by
  rintro ⟨F, ρ, fp, s, h⟩;refine ⟨F, ρ, fp, s, ?_⟩
  unfold bindG2b at h;cases ea : fa ρ with
  | stk => simp only [ea, GR.bind] at h
  | exc x ρ' => simp only [ea, GR.bind] at h; exact h
  | ok p ρ1 =>
    simp only [ea, GR.bind] at h;intro x F1 H1 fp1 a1 s1 o1
    refine ⟨F1, ρ1, fp1, s1, ?_⟩;cases eb : fb ρ1 with
    | stk => simp only [eb, GR.bind] at h
    | exc x ρ' => simp only [eb, GR.bind] at h; exact exG.aft h a1
    | ok q ρ2 =>
      simp only [eb, GR.bind] at h;intro y F2 H2 fp2 a2 s2 o2
      cases e : g p q with
      | none => simp only [e, ER.of, ER.at] at h
      | some o =>
        simp only [e, ER.of, ER.at] at h;exact hg F2 H2 x y p q [] [] (.bl o) _ s2.le (o1.any a2.leF) o2 (by dsimp only; rw [e]; rfl) ⟨o, rfl, h F2 H2 fp2 (a1.trans a2) s2⟩
def blO : PV → Option Bool
  | .sc (.bl b) => some b
  | _ => none
def tstE (f : PEnv → ER PV) : PEnv → ER Bool := fun ρ => (f ρ).bind fun p => .of (blO p)
theorem tb_val {f : PEnv → ER PV} {g : PV → Option Bool} {t : VK} {Q : Bool → Hp → Prop} (hg : ∀ F H x p l b, HLe F H → Ow K F H x p l → g p = some b → Q b H → t x H) : TB K J W (fun ρ => (f ρ).bind fun p => .of (g p)) σ H Q → TV K J W f σ H t := by
  rintro ⟨F, ρ, fp, s, h⟩;refine ⟨F, ρ, fp, s, ?_⟩
  cases ea : f ρ with
  | stk => simp only [ea, ER.bind] at h
  | exc x => simp only [ea, ER.bind] at h; exact h
  | ok p =>
    simp only [ea, ER.bind] at h;intro x F1 H1 l1 p1 o1 i1
    cases e : g p with
    | none => simp only [e, ER.of] at h
    | some o =>
      simp only [e, ER.of] at h;exact hg F1 H1 x p l1 o p1.le o1 e (h F1 H1 p1)
theorem tb_go {c : PEnv → ER Bool} {k : Bool → PEnv → ER Bool} {t Q : Bool → Hp → Prop} (hk : ∀ b F H ρ fp, St K J F H σ ρ fp → (match k b ρ with | .ok b => ∀ F' H', Pur F H F' H' → Q b H' | .exc x => exV K W F σ H x | .stk => False) → t b H) : TB K J W (fun ρ => (c ρ).bind fun b => k b ρ) σ H Q → TB K J W c σ H t := by
  rintro ⟨F, ρ, fp, s, h⟩;refine ⟨F, ρ, fp, s, ?_⟩
  cases ea : c ρ with
  | stk => simp only [ea, ER.bind] at h
  | exc x => simp only [ea, ER.bind] at h; exact h
  | ok b =>
    simp only [ea, ER.bind] at h;intro F1 H1 p1
    refine hk b F1 H1 ρ fp (s.pur p1) ?_;cases ek : k b ρ with
    | ok b' => simp only [ek] at h; exact fun F' H' p => h F' H' (p1.trans p)
    | exc x => simp only [ek] at h; exact exV.pur h p1
    | stk => simp only [ek] at h
theorem tb_not {c : PEnv → ER Bool} {Q : Bool → Hp → Prop} : TB K J W (notE c) σ H Q → tNot (TB K J W c) σ H Q := fun h => tb_go (k := fun b _ => .ok (!b)) (fun b F H ρ fp s h => h F H (Pur.refl s.le)) (by
  obtain ⟨F, ρ, fp, s, h⟩ := h;refine ⟨F, ρ, fp, s, ?_⟩;unfold notE at h;cases e : c ρ <;> simp only [e, ER.map, ER.bind] at h ⊢ <;> exact h)
theorem tb_and {c d : PEnv → ER Bool} {Q : Bool → Hp → Prop} : TB K J W (andB c d) σ H Q → tAnd (TB K J W c) (TB K J W d) σ H Q := tb_go (k := fun b ρ => if b = true then d ρ else .ok false) fun b F H ρ fp s h => by
  cases b with
  | true => exact ⟨F, ρ, fp, s, h⟩
  | false => exact h F H (Pur.refl s.le)
theorem tb_or {c d : PEnv → ER Bool} {Q : Bool → Hp → Prop} : TB K J W (orB c d) σ H Q → tOr (TB K J W c) (TB K J W d) σ H Q := tb_go (k := fun b ρ => if b = true then .ok true else d ρ) fun b F H ρ fp s h => by
  cases b with
  | true => exact h F H (Pur.refl s.le)
  | false => exact ⟨F, ρ, fp, s, h⟩
def viewOk (K : Fg) (J : Jx) (W : WX) (σ : Sg) (F H : Hp) (fp : List Addr) (r : ER PV) (Q : VK) : Prop := match r with
  | .ok p => ∀ v F' H' l, Pur F H F' H' → Ow K F' H' v p l → (∀ a ∈ l, a ∈ fp) → Q v H'
  | .exc x => exV K W F σ H x
  | .stk => False
def genOk (K : Fg) (J : Jx) (W : WX) (σ : Sg) (F H : Hp) (fp : List Addr) (r : GR PV) (Q : VK) : Prop := match r with
  | .ok p ρ' => ∀ v F' H' fp', Aft F H fp F' H' fp' → St K J F' H' σ ρ' fp' → Ow K F' H' v p [] → Q v H'
  | .exc x ρ' => exG K J W F H fp σ x ρ'
  | .stk => False
def ownOk (K : Fg) (J : Jx) (W : WX) (σ : Sg) (F H : Hp) (fp : List Addr) (r : GR PV) (Q : VK) : Prop := match r with
  | .ok p ρ' => ∀ v F' H' fp' l, Aft F H fp F' H' (fp' ++ l) → St K J F' H' σ ρ' fp' → Ow K F' H' v p l → Q v H'
  | .exc x ρ' => exG K J W F H fp σ x ρ'
  | .stk => False
theorem viewOk.pur {r : ER PV} {F1 H1 : Hp} (h : viewOk K J W σ F H fp r Q) (p1 : Pur F H F1 H1) : viewOk K J W σ F1 H1 fp r Q := by
  cases r with
  | ok p => exact fun v F' H' l p w i => h v F' H' l (p1.trans p) w i
  | exc x => exact exV.pur h p1
  | stk => exact h
theorem genOk.aft {r : GR PV} {F1 H1 : Hp} {fp1 : List Addr} (h : genOk K J W σ F H fp r Q) (a1 : Aft F H fp F1 H1 fp1) : genOk K J W σ F1 H1 fp1 r Q := by
  cases r with
  | ok p ρ' => exact fun v F' H' fp' a s w => h v F' H' fp' (a1.trans a) s w
  | exc x ρ' => exact exG.aft h a1
  | stk => exact h
theorem ownOk.aft {r : GR PV} {F1 H1 : Hp} {fp1 : List Addr} (h : ownOk K J W σ F H fp r Q) (a1 : Aft F H fp F1 H1 fp1) : ownOk K J W σ F1 H1 fp1 r Q := by
  cases r with
  | ok p ρ' => exact fun v F' H' fp' l a s w => h v F' H' fp' l (a1.trans a) s w
  | exc x ρ' => exact exG.aft h a1
  | stk => exact h
def chainE (fa fb fc : PEnv → ER PV) (g g' : PV → PV → Option Bool) : PEnv → ER PV := fun ρ => (fa ρ).bind fun p => (fb ρ).bind fun q => (ER.of (g p q)).bind fun b => if b = true then (fc ρ).bind fun r => .of ((g' q r).map fun b => .sc (.bl b)) else .ok (.bl false)
end
section
variable {X : Cx} {J : Jx} {W : WX} {P : List Nat} {e a b c o : Expr} {es rest : List Expr} {pos : Pos}
theorem gz_op {op : Operator} {r : R2} {fa fb : PEnv → GR PV} {g : PV → PV → Option V} (ho : OpR X (binaryOp op) r) (hg : Op2S X.K r g) (ha : GZ X J W a fa) (hb : GZ X J W b fb) : GZ X J W (.BinOp a op b pos) (bindG2s fa fb g) := pe_imp (pe_op ho ha hb) fun _ _ _ => tz_twoS hg
theorem gt_cmp {op : CmpOp} {r : R2} {fa fb : PEnv → GR PV} {g : PV → PV → Option Bool} (ho : OpR X (compareOp op) r) (hg : Op2S X.K r fun p q => (g p q).map V.bl) (ha : GZ X J W a fa) (hb : GZ X J W b fb) (hm : behindInMarks op b = false) : GT X J W (.Compare a [op] [b] pos) (bindG2b fa fb g) := pt_imp (pt_cmpR ho ha hb hm) fun _ _ _ => tgb_two hg
theorem vt_tru {f : PEnv → ER PV} (h : VE X J W e f) (he : ∀ whole, isTrue e X.env whole = (do let v ← whole; standAt e.pos; holding [v] (truthy v)) := by intro _; rfl) : VT X J W e (truE f) := pt_imp (pt_truth h he) fun _ _ _ => tb_val fun F H x p l b le o e q => ⟨b, tru_of le o e, q⟩
abbrev VW (X : Cx) (J : Jx) (W : WX) (e : Expr) (c : PEnv → ER Bool) : Prop := PW X e (TB X.K J W c)
theorem vt_not {d : PEnv → ER Bool} (h : VT X J W a d) : VT X J W (.UnaryOp .Not a pos) (notE d) := pt_imp (pt_not h) fun _ _ _ => tb_not
theorem vw_and1 {d : PEnv → ER Bool} (h : VT X J W a d) : VW X J W (.BoolOp .And [a] pos) d := pw_and1 h
theorem vw_or1 {d : PEnv → ER Bool} (h : VT X J W a d) : VW X J W (.BoolOp .Or [a] pos) d := pw_or1 h
theorem vw_and {d d' : PEnv → ER Bool} (h : VT X J W a d) (k : VW X J W (.BoolOp .And (b :: rest) pos) d') : VW X J W (.BoolOp .And (a :: b :: rest) pos) (andB d d') := pw_imp (pw_and h k) fun _ _ _ => tb_and
theorem vw_or {d d' : PEnv → ER Bool} (h : VT X J W a d) (k : VW X J W (.BoolOp .Or (b :: rest) pos) d') : VW X J W (.BoolOp .Or (a :: b :: rest) pos) (orB d d') := pw_imp (pw_or h k) fun _ _ _ => tb_or
theorem vt_w {d : PEnv → ER Bool} (h : VW X J W a d) : VT X J W a d := h.pt
def isnV : Bool → PV → Option V := fun neg p => some (.bl (if neg then !isNone p else isNone p))
def isnE (neg : Bool) (f : PEnv → ER PV) : PEnv → ER Bool := fun ρ => (f ρ).bind fun p => .of (isnB neg p)
theorem ve_ix {fa fb : PEnv → ER PV} (ha : VE X J W a fa) (hb : VE X J W b fb) (hs : PlainIx b := by exact fun _ _ => rfl) : VE X J W (.Subscript a b pos) (bind2 fa fb ixP) := pe_imp (pe_ix ix_seq ha hb hs) fun _ _ _ => tv_twoV ov_ix
theorem gz_ix {fa fb : PEnv → GR PV} (ha : GZ X J W a fa) (hb : GZ X J W b fb) (hs : PlainIx b := by exact fun _ _ => rfl) : GZ X J W (.Subscript a b pos) (fun ρ => (fa ρ).bind fun p ρ1 => (fb ρ1).bind fun q ρ2 => (ER.of (ixP p q)).at ρ2) := pe_imp (pe_ix ix_seq ha hb hs) fun σ H Q => by
  rintro ⟨F, ρ, fp, s, h⟩;refine ⟨F, ρ, fp, s, ?_⟩
  cases ea : fa ρ with
  | stk => simp only [ea, GR.bind] at h
  | exc x ρ' => simp only [ea, GR.bind] at h; exact h
  | ok p ρ1 =>
    simp only [ea, GR.bind] at h;intro x F1 H1 fp1 a1 s1 o1
    refine ⟨F1, ρ1, fp1, s1, ?_⟩;cases eb : fb ρ1 with
    | stk => simp only [eb, GR.bind] at h
    | exc x ρ' => simp only [eb, GR.bind] at h; exact exG.aft h a1
    | ok q ρ2 =>
      simp only [eb, GR.bind] at h;intro y F2 H2 fp2 a2 s2 o2
      cases e : ixP p q with
      | none => simp only [e, ER.of, ER.at] at h
      | some o =>
        simp only [e, ER.of, ER.at] at h;refine ov_ix F2 H2 x y p q [] [] o Q s2.le (o1.any a2.leF) o2 e fun u l2 wu kk => ?_
        obtain rfl := mem_nil kk
        exact h u F2 H2 fp2 (a1.trans a2) s2 wu
theorem tv_disp {K : Fg} {J : Jx} {W : WX} {σ : Sg} {H : Hp} {Q : VK} {f : PEnv → ER (List PV)} : TF K J W (bindA f displayT) σ H Q → tTup (TVA K J W f) σ H Q := by
  rintro ⟨F, ρ, fp, s, h⟩;refine ⟨F, ρ, fp, s, ?_⟩
  unfold bindA at h;cases ea : f ρ with
  | stk => simp only [ea, ER.bind] at h
  | exc x => simp only [ea, ER.bind] at h; exact h
  | ok ps =>
    simp only [ea, ER.bind] at h;intro vs F1 H1 l1 p1 o1 i1
    cases e : displayT ps with
    | none => simp only [e, ER.of] at h
    | some o =>
      simp only [e, ER.of] at h;unfold displayT at e
      split at e
      · rename_i c
        cases e;exact ⟨by rw [o1.length]; exact Nat.le_of_lt (small1000 c.2), fun b hb => okF_pur p1 h _ _ _ [] (pur_new p1.le hb) (.tup upd_same ((owl_f o1 c.1).any (pur_new p1.le hb).leF)) .nil⟩
      · cases e
theorem tv_displ {K : Fg} {J : Jx} {W : WX} {σ : Sg} {H : Hp} {Q : VK} {f : PEnv → ER (List PV)} : TF K J W (bindA f displayL) σ H Q → tLst (TVA K J W f) σ H Q := by
  rintro ⟨F, ρ, fp, s, h⟩;refine ⟨F, ρ, fp, s, ?_⟩
  unfold bindA at h;cases ea : f ρ with
  | stk => simp only [ea, ER.bind] at h
  | exc x => simp only [ea, ER.bind] at h; exact h
  | ok ps =>
    simp only [ea, ER.bind] at h;intro vs F1 H1 l1 p1 o1 i1
    cases e : displayL ps with
    | none => simp only [e, ER.of] at h
    | some o =>
      simp only [e, ER.of] at h;unfold displayL at e
      split at e
      · rename_i c
        cases e;exact ⟨by rw [o1.length]; exact Nat.le_of_lt (small1000 c.2), fun b hb => okF_pur p1 h _ F1 _ [b] (pur_own p1.le hb) (.lstO upd_same ((owl_f o1 c.1).any .refl)) (nw_own p1.le hb)⟩
      · cases e
theorem fe_tup {k : Nat} {f : PEnv → ER (List PV)} (h : VA X J W es f) : FE X J W (.Tuple es k pos) (bindA f displayT) := pe_imp (pe_tup h) fun _ _ _ => tv_disp
theorem fe_lst {f : PEnv → ER (List PV)} (h : VA X J W es f) : FE X J W (.List es pos) (bindA f displayL) := pe_imp (pe_lst h) fun _ _ _ => tv_displ
theorem ge_callTy {r : List V → Hp → VK → Prop} {g : List PV → Option PV} {f : PEnv → GR (List PV)} {T : String} {x : Str} {p : Pos} (hc : CallR X (.type T) r) (hg : CallG X.K r g) (gl : Gl X x) (hm : X.mg x = none) (hv : bootBuiltins x = some (.type T))
    (ha : GA X J W (e :: es) f) (hn : x ≠ "__name__" := by decide) (hdb : (x == ("__debug__" : Str)) = false := by decide) (he : starEach (e :: es) X.env = (false, eval e X.env) :: starEach es X.env := by rfl) (hpl : (backTo pos (starEach es X.env)).any (·.1) = false := by rfl) :
    GE X J W (.Call (.Name x p) (e :: es) [] pos) (bindGA f g) := pe_imp (pe_callTy hc gl hm hv ha hn hdb he hpl) fun _ _ _ => tz_call hg
end
end RL
namespace RL
open PySem PySem.Spec PyProof.Rows L2
section
variable {K : Fg} {J : Jx} {W : WX} {P : List Nat} {σ : Sg} {H : Hp} {Q : VK} {F : Hp} {fp : List Addr} {D : Ends}
theorem St.lmut {ρ : PEnv} {i : Nat} {ps : List PV} (s : St K J F H σ ρ fp) (e : ρ[i]? = some (some (.lst true ps))) : ∃ a vs l, σ[i]? = some (some (.ref a)) ∧ H a = some (.lst vs) ∧ OwL K F H vs ps l ∧
    ∀ vs' ps' l', OwL K F H vs' ps' l' → FSub l' l → ∃ fp', Aft F H fp F (upd H a (.lst vs')) fp' ∧ St K J F (upd H a (.lst vs')) σ (ρ.set i (some (.lst true ps'))) fp' := by
  obtain ⟨v, l1, l2, l3, e1, e2, w, k⟩ := s.env.get e;cases w with
  | @lstO a vs _ l hH t =>
    refine ⟨a, vs, l, e1, hH, t, fun vs' ps' l' t' sub => ?_⟩
    subst e2;obtain ⟨n1, n23, d1⟩ := List.nodup_append.mp s.nd
    obtain ⟨n2, n3, d2⟩ := List.nodup_append.mp n23;have na1 : a ∉ l1 := fun z => d1 a z a (by simp) rfl
    have na3 : a ∉ l3 := fun z => d2 a (by simp) a z rfl
    have nal : a ∉ l := (List.nodup_cons.mp n2).1
    have Fa : F a = none := s.dis a (by simp)
    have le : HLe F (upd H a (.lst vs')) := fun b o hb => by
      rw [upd_ne (fun z => by rw [z, Fa] at hb; cases hb)]
      exact s.le b o hb
    have keep : ∀ b, b ≠ a → ∀ o, H b = some o → (upd H a (.lst vs')) b = some o := fun b hb o h => by rw [upd_ne hb]; exact h
    have ow : Ow K F (upd H a (.lst vs')) (.ref a) (.lst true ps') (a :: l') := .lstO upd_same (t'.mono .refl fun b hb o h => keep b (fun z => nal (by rw [← z]; exact sub.2 b hb)) o h)
    have ev := k (l2' := a :: l') .refl (fun b hb o h => keep b (fun z => by
      subst z;rcases List.mem_append.mp hb with z | z
      · exact na1 z
      · exact na3 z) o h) ow
    rw [set_same e1] at ev;have fs : FSub (l1 ++ ((a :: l') ++ l3)) (l1 ++ ((a :: l) ++ l3)) := .app .refl (.app (by
      have : FSub ([a] ++ l') ([a] ++ l) := .app .refl sub
      exact this) .refl)
    have nd := fs.1 s.nd;have dis : ∀ x ∈ l1 ++ ((a :: l') ++ l3), F x = none := fun x hx => s.dis x (fs.2 x hx)
    exact ⟨_, ⟨.refl, le, fun b o hb n => keep b (fun z => n (by simp [z])) o hb, fun b hb => by
      by_cases z : b = a
      · rw [z, upd_same] at hb; cases hb
      · rw [upd_ne z] at hb; exact hb, fun b hb => .inl (fs.2 b hb), fun b o hb => .inl hb, nd, dis⟩, le, ev, nd, dis, s.amb⟩
def popA : List PV → List PV → Option (PV × List PV) := fun ps args => match args with
  | [] => match ps.getLast? with
    | some q => if q.fz = true then some (q, ps.dropLast) else none
    | none => none
  | _ => none
theorem OwL.app : ∀ {vs us : List V} {ps qs : List PV} {l m : List Addr}, OwL K F H vs ps l → OwL K F H us qs m → OwL K F H (vs ++ us) (ps ++ qs) (l ++ m)
  | _, _, _, _, _, _, .nil, o => o
  | _, _, _, _, _, _, .cons (l := l0) o t, o2 => by
    rw [List.append_assoc];exact .cons o (OwL.app t o2)
theorem OwL.setG : ∀ {vs : List V} {ps : List PV} {l : List Addr} {v : V} {p : PV} (k : Nat), OwL K F H vs ps l → Ow K F H v p [] → ∃ l', OwL K F H (vs.set k v) (ps.set k p) l' ∧ FSub l' l
  | _, _, _, v, p, k, .nil, w => ⟨[], .nil, .refl⟩
  | _, _, _, v, p, 0, .cons (l := l0) (ls := ls) o t, w => ⟨[] ++ ls, .cons w t, .sub (List.sublist_append_right _ _)⟩
  | _, _, _, v, p, k + 1, .cons (l := l0) o t, w => by
    obtain ⟨l', a, b⟩ := OwL.setG k t w;exact ⟨l0 ++ l', .cons o a, .app .refl b⟩
def popAtA : List PV → List PV → Option (PV × List PV) := fun ps args => match args with
  | [.sc (.int i)] => if -(2 ^ 63) ≤ i ∧ i < 2 ^ 63 then (match seqIndex? i ps.length with
    | some k => match ps[k]? with
      | some q => if q.fz = true then some (q, ps.eraseIdx k) else none
      | none => none
    | none => none) else none
  | _ => none
end
end RL
namespace RL
open PySem PySem.Spec PyProof.Rows L2
def insA : List PV → List PV → Option (PV × List PV) := fun ps args => match args with
  | [.sc (.int i), p] => if ps.length < 100000 ∧ 0 ≤ i ∧ i < 2 ^ 63 then some (.non, ps.take i.toNat ++ (p :: ps.drop i.toNat)) else none
  | _ => none
def extA : List PV → List PV → Option (PV × List PV) := fun ps args => match args with
  | [.lst false qs] => if ps.length + qs.length < 100000 then some (.non, ps ++ qs) else none
  | _ => none
section
variable {K : Fg} {J : Jx} {W : WX} {P : List Nat} {σ : Sg} {H : Hp} {Q : VK} {F : Hp} {fp : List Addr} {D : Ends}
theorem ts_setIx {i : Nat} {fk fv : PEnv → GR PV} : TSt K J W P (setIxG i fk fv) D σ H → tAsg (TZ K J W fv) (gSub (tVar i) (TZ K J W fk) rSetL) D σ H := by
  rintro ⟨F, ρ, fp, s, h⟩;refine ⟨F, ρ, fp, s, ?_⟩
  unfold setIxG at h;cases ev : fv ρ with
  | stk => rw [ev] at h; exact h.elim
  | exc x ρ1 => rw [ev] at h; exact exG_post h
  | ok q ρ1 =>
    rw [ev] at h;simp only at h
    intro y F1 H1 fp1 a1 s1 o1;have h := Post.aft h a1 (.refl : Pt P σ σ)
    split at h
    · rename_i ps0 e0
      obtain ⟨a, vs0, l0, e1, hH0, t0, _⟩ := s1.lmut e0;refine ⟨.ref a, e1, F1, ρ1, fp1, s1, ?_⟩;cases ek : fk ρ1 with
      | stk => rw [ek] at h; exact h.elim
      | exc x ρ2 => rw [ek] at h; exact exG_post h
      | ok kk ρ2 =>
        rw [ek] at h;intro z F2 H2 fp2 a2 s2 o2
        split at h
        · rename_i k2 ρ3 eq
          cases eq;have h := Post.aft h a2 (.refl : Pt P σ σ)
          split at h
          · rename_i ps e2
            obtain ⟨b, vs, l, e3, hH, t, km⟩ := s2.lmut e2;rw [e1] at e3;cases e3;split at h
            · rename_i j ej
              obtain ⟨l', t', sub⟩ := t.setG j (o1.any a2.leF);obtain ⟨fp', a3, s3⟩ := km _ _ l' t' sub;exact ⟨a, vs, k2, j, rfl, o2.scE.1, hH, by rw [t.length]; exact ej, h σ F2 _ fp' a3 .refl s3⟩
            · exact h.elim
          · exact h.elim
        · exact h.elim
        · rename_i eq; cases eq
        · rename_i eq; cases eq
    · exact h.elim
theorem o2_cat : Op2 K rCat catP := by
  intro F H x y p q l l' o Q le o1 o2 e k;unfold catP at e
  split at e
  · rename_i b1 ps b2 qs
    split at e
    · rename_i c
      cases e;obtain ⟨a, vs, la, rfl, ha, ta, _⟩ := o1.sqL_of le
      obtain ⟨b, us, lb, rfl, hb, tb, _⟩ := o2.sqL_of le;refine ⟨a, b, vs, us, rfl, rfl, ha, hb, by rw [ta.length, tb.length]; exact Nat.le_of_lt (Nat.lt_of_lt_of_le c.2 (by decide)), fun r hr => ?_⟩
      have t := (owl_f ta c.1.1).app (owl_f tb c.1.2);rw [List.append_nil] at t;exact k _ F _ [r] (pur_own le hr) (.lstO upd_same (t.any .refl)) (nw_own le hr)
    · cases e
  · cases e
theorem o2_tcat : Op2 K (rCatA K) tcatP := by
  intro F H x y p q l l' o Q le o1 o2 e k;unfold tcatP at e
  split at e
  · rename_i ps qs
    split at e
    · rename_i c
      cases e;have z1 := o1.fz0 rfl
      have z2 := o2.fz0 rfl;subst z1 z2;obtain ⟨a, vs, rfl, ha, ta⟩ := o1.nilE;obtain ⟨b, us, rfl, hb, tb⟩ := o2.nilE;have t := ta.app tb
      rw [List.append_nil] at t;refine ⟨a, b, vs, us, rfl, rfl, (.inl (.inl (le _ _ ha))), (.inl (.inl (le _ _ hb))), by rw [ta.length, tb.length]; exact Nat.le_of_lt (Nat.lt_of_lt_of_le c (by decide)), fun e => ?_, fun _ e => ?_, fun _ _ r hr => ?_⟩
      · subst e;exact k _ F H [] (Pur.refl le) (.tup hb t) .nil
      · subst e;rw [List.append_nil] at t
        exact k _ F H [] (Pur.refl le) (.tup ha t) .nil
      · exact k _ _ _ [] (pur_new le hr) (.tup upd_same (t.any (pur_new le hr).leF)) .nil
    · cases e
  · cases e
def repP : PV → PV → Option PV := fun p q => match p, q with
  | .lst _ ps, .sc (.int k) => if (ps.all PV.fz = true ∧ -(2 ^ 63) ≤ k ∧ k < 2 ^ 63) ∧ ps.length * k.toNat < 100000 then some (.lst true (List.replicate k.toNat ps).flatten) else none
  | _, _ => none
end
section
variable {X : Cx} {J : Jx} {W : WX} {P : List Nat} {e a b c o : Expr} {es rest : List Expr} {pos apos : Pos} {name : Str} {id : String} {r : V → List V → Hp → VK → Prop} {g : List PV → List PV → Option (PV × List PV)} {f : PEnv → GR (List PV)} {i : Nat}
theorem rs_setIx {fk fv : PEnv → GR PV} {p2 : Pos} (hv : GZ X J W c fv) (ho : PE X o (tVar i)) (hk : GZ X J W a fk)
    (hs : swapsWithSole [.Subscript o a p2] c pos.line X.env = pure false := by rfl) (hw : swappedStores [.Subscript o a p2] c X.env = pure none := by rfl)
    (h1 : (assignEach [.Subscript o a p2] X.env).map (·.2) = [assign (.Subscript o a p2) X.env] := by rfl)
    (ha : ∀ v, assign (.Subscript o a p2) X.env v = (do
      let ov ← holding [v] (eval o X.env)
      let iv ← holding [v, ov] (eval a X.env)
      standAt p2
      holding [v, ov, iv] (setItem ov iv v)
      release [v, ov, iv] []) := by intro _; rfl) :
    RS X J W P (.Assign [.Subscript o a p2] c pos) (setIxG i fk fv) := ps_imp (ps_asg hv (pg_sub ho hk set_list ha) hs hw h1) fun _ _ _ => ts_setIx
end
end RL
namespace RL
open PySem PySem.Spec PyProof.Rows L2
section
variable {K : Fg} {J : Jx} {W : WX} {P : List Nat} {σ : Sg} {H : Hp} {Q : VK} {F : Hp} {fp : List Addr} {D : Ends} {C : Addr} {f : Str}
theorem OwL.look {q : PV} : ∀ {ns : List Str} {vs : List V} {ps : List PV} {l : List Addr}, OwL K F H vs ps l → ns.length = vs.length → lookN f ns ps = some q → ∃ v l', (ns.zip vs).lookup f = some v ∧ Ow K F H v q l' ∧ ∀ a ∈ l', a ∈ l
  | [], _, ps, _, o, e, h => by simp [lookN] at h
  | n :: ns, _, _, _, .nil, e, h => by simp at e
  | n :: ns, _, _, _, .cons (v := v) (p := p) (l := l1) (vs := vs) (ps := ps) (ls := l2) o t, e, h => by
    unfold lookN at h;by_cases c : f = n
    · rw [if_pos c] at h;cases h
      refine ⟨v, l1, ?_, o, fun a ha => List.mem_append_left _ ha⟩
      rw [List.zip_cons_cons, List.lookup_cons, c];simp
    · rw [if_neg c] at h;obtain ⟨v', l', e1, w, sub⟩ := OwL.look t (by simpa using e) h
      refine ⟨v', l', ?_, w, fun a ha => List.mem_append_right _ (sub a ha)⟩
      rw [List.zip_cons_cons, List.lookup_cons, show (f == n) = false by simpa using c]
      exact e1
end
end RL
namespace RL
open PySem PySem.Spec PyProof.Rows L2
def recvM (C : Addr) (m : Str) (fo : PEnv → GR PV) (g : PEnv → GR (List Ag)) : PEnv → GR (List Ag) := fun ρ => (fo ρ).bind fun p ρ1 => match p with
  | .obj _ D ns _ => if D = C ∧ m ∉ ns then (g ρ1).bind fun as ρ2 => .ok (.vl p :: as) ρ2 else .stk
  | _ => .stk
def recvP (C : Addr) (m : Str) (i : Nat) (g : PEnv → GR (List Ag)) : PEnv → GR (List Ag) := fun ρ => match ρ[i]? with
  | some (some (.obj _ D ns _)) => if D = C ∧ m ∉ ns then (g ρ).bind fun as ρ2 => .ok (.pl i :: as) ρ2 else .stk
  | _ => .stk
end RL
namespace RL
open PySem PySem.Spec PyProof.Rows L2
abbrev noE : XK := fun _ _ _ => False
theorem cx_no {Pr : Program} {w : World} {st : List Env} {H : Hp} {s s' : Shared} {e : Value} (h : L2.CX Pr w st H s noE e s') : False := by
  obtain ⟨_, _, _, _, _, _, _, _, _, _, _, _, h⟩ := h;exact h
def ow2 (C : Addr) (mm : List PV → FR) : PV → PV → Option PV := fun p q => match p, q with
  | .obj false D ns vs, .obj false D' ns' vs' => if D = C ∧ D' = C then (match mm [.obj false D ns vs, .obj false D' ns' vs'] with
    | .ok r _ => some r
    | _ => none) else none
  | _, _ => none
def ow2b (C : Addr) (mm : List PV → FR) : PV → PV → Option Bool := fun p q => match ow2 C mm p q with
  | some (.sc (.bl b)) => some b
  | _ => none
def owIn (neg : Bool) (C : Addr) (mm : List PV → FR) : PV → PV → Option Bool := fun p q => match q with
  | .obj false D ns vs => if D = C ∧ p.fz = true then (match mm [.obj false D ns vs, p] with
    | .ok (.sc (.bl b)) _ => some (if neg then !b else b)
    | _ => none) else none
  | _ => none
def ow1 (C : Addr) (mm : List PV → FR) : PV → Option PV := fun p => match p with
  | .obj false D ns vs => if D = C then (match mm [.obj false D ns vs] with
    | .ok r _ => some r
    | _ => none) else none
  | _ => none
def owLen (C : Addr) (mm : List PV → FR) : List PV → Option PV := fun ps => match ps with
  | [p] => match ow1 C mm p with
    | some (.sc (.int i)) => if 0 ≤ i ∧ i < 2 ^ 63 then some (.int i) else none
    | _ => none
  | _ => none
end RL
namespace RL
open PySem PySem.Spec PyProof.Rows L2
def spInit (C : Addr) (f : Str) : Sp := fun vs H Q _ => ∃ a y, vs = [.ref a, y] ∧ H a = some (exo a C none) ∧ ∀ dx, H dx = none → dx ≠ a → Q .non (upd (upd H dx (exd dx [(f, y)])) a (exo a C (some dx)))
structure XCallee (Pr : Program) (w : World) (K : Fg) (mg : Str → Option Value) (base : Heap) (k : Nat) (x : Str) (C : Addr) (fld : Str) : Prop where
  ex : ∃ f fd ps, FnOk Pr w K mg base (L2.CX Pr w) k f fd ps (spInit C fld) ∧ OexC K C ∧ PySem.W.findIn K (.ref C) "__init__" = some (some (.ref f)) ∧ PySem.W.typeIn K (.ref f) = some (.type "function") ∧ Binds K fd ps [] ∧ mg x = some (.ref C)
abbrev XCal (X : Cx) (k : Nat) (x : Str) (C : Addr) (fld : Str) : Prop := XCallee X.prog X.w X.K X.mg X.base k x C fld
section
variable {Pr : Program} {w : World} {K : Fg} {mg : Str → Option Value} {base : Heap} {x qual : Str} {params : Arguments} {body : List Stmt} {scope : Scope} {f : Addr} {fd : FuncData}
theorem init_ok {N ps : List Str} {k : Nat} {C : Addr} {fld : Str} (F : FunD K x qual params body scope [] [] f fd) (S : FnScope N ps scope) (hps : ps.length = 2) (hN : N.length = 2) (T : OexC K C) (hno : PySem.W.findIn K (.ref C) fld = some none)
    (hb : ∀ (cdv : Value) (A : Around) (outer : List Env) (s : Shared) (H : Hp) (E : XK), PSs (cxOf (L2.CX Pr w) Pr w K mg base N qual scope f cdv A outer s H E) body (tOst K fld (tVar 0) (tVar 1))) :
    FnOk Pr w K mg base (L2.CX Pr w) (k + 1) f fd ps (spInit C fld) := by
  refine F.ok S (fun vs H Q E h => ?_) fun cdv A outer s H vs Q E hr h => ⟨_, hb cdv A outer s H E, ?_⟩
  · obtain ⟨a, y, e, _⟩ := h;rw [e, hps]; rfl
  · obtain ⟨a, y, e, ha, q⟩ := h;subst e;have es : L2.start N [V.ref a, y] = [some (V.ref a), some y] := by
      unfold L2.start;rw [hN]
      rfl
    rw [es];exact ⟨y, rfl, .ref a, rfl, a, C, rfl, T, hno, .inl ⟨ha, fun dx n ne => q dx n ne⟩⟩
end
end RL
namespace RL
open PySem PySem.Spec PyProof.Rows L2
/-- what happens to the slot of a clause's name behind its suite -/
def slotGone (i : Option Nat) (σ : Sg) : Sg := match i with
  | some i => σ.set i none
  | none => σ
end RL
namespace RL
open PySem PySem.Spec PyProof.Rows L2
section
variable {K : Fg} {J : Jx} {W : WX} {P : List Nat} {σ : Sg} {H : Hp} {Q : VK} {F : Hp} {fp : List Addr} {D : Ends}
theorem EnvR.forget : ∀ {σ : Sg} {ρ : PEnv} {l : List Addr} (i : Nat), EnvR K F H σ ρ l → ∃ l', EnvR K F H σ (ρ.set i none) l' ∧ l'.Sublist l
  | _, _, _, _, .nil => ⟨[], .nil, .slnil⟩
  | _, _, _, 0, .no t => ⟨_, .no t, List.Sublist.refl _⟩
  | _, _, _, 0, .so (ls := ls) h t => ⟨ls, .no t, List.sublist_append_right _ _⟩
  | _, _, _, i + 1, .no t => by
    obtain ⟨l', a, b⟩ := EnvR.forget i t;exact ⟨l', .no a, b⟩
  | _, _, _, i + 1, .so h t => by
    obtain ⟨l', a, b⟩ := EnvR.forget i t;exact ⟨_, .so h a, List.Sublist.append (List.Sublist.refl _) b⟩
theorem St.gone {d : Option Addr} {x : Exc} {ρ : PEnv} (i : Option Nat) (s : St K (Jex K J d x) F H σ ρ fp) : ∃ fp', St K J F H σ (pgone i ρ) fp' ∧ fp'.Sublist fp ∧ ∃ fp2, St K J F H (slotGone i σ) (pgone i ρ) fp2 ∧ fp2.Sublist fp := by
  cases i with
  | none => exact ⟨fp, ⟨s.le, s.env, s.nd, s.dis, s.amb.1⟩, List.Sublist.refl _, fp, ⟨s.le, s.env, s.nd, s.dis, s.amb.1⟩, List.Sublist.refl _⟩
  | some i =>
    obtain ⟨l1, e1, s1⟩ := s.env.forget i;obtain ⟨l2, e2, s2⟩ := s.env.drop1 i none;exact ⟨l1, ⟨s.le, e1, s.nd.sublist s1, fun a ha => s.dis a (s1.subset ha), s.amb.1⟩, s1, l2, ⟨s.le, e2, s.nd.sublist s2, fun a ha => s.dis a (s2.subset ha), s.amb.1⟩, s2⟩
end
end RL
section
set_option maxHeartbeats 2000000
namespace RL
open PySem PySem.Spec PyProof.Rows L2
end RL
end
namespace RL
open PySem PySem.Spec PyProof.Rows L2
def insAsc (k : Int) : List Int → List Int
  | [] => [k]
  | a :: l => if k < a then k :: a :: l else if k = a then a :: l else a :: insAsc k l
def ascL : List Int → List Int
  | [] => []
  | k :: ks => insAsc k (ascL ks)
theorem mem_insAsc {j k : Int} : ∀ {l : List Int}, j ∈ insAsc k l ↔ j = k ∨ j ∈ l
  | [] => by simp [insAsc]
  | a :: l => by
    unfold insAsc;by_cases h1 : k < a
    · rw [if_pos h1]; simp
    · rw [if_neg h1];by_cases h2 : k = a
      · rw [if_pos h2, h2]; simp
      · rw [if_neg h2, List.mem_cons, List.mem_cons, mem_insAsc (l := l)];constructor
        · rintro (h | h | h)
          · exact .inr (.inl h)
          · exact .inl h
          · exact .inr (.inr h)
        · rintro (h | h | h)
          · exact .inr (.inl h)
          · exact .inl h
          · exact .inr (.inr h)
theorem mem_ascL {j : Int} : ∀ {ks : List Int}, j ∈ ascL ks ↔ j ∈ ks
  | [] => by simp [ascL]
  | k :: ks => by
    unfold ascL;rw [mem_insAsc, mem_ascL (ks := ks), List.mem_cons]
def sciL (g : PV → PEnv → Option PEnv) (e : PEnv → GR PV) (vs : List Nat) : List PV → PEnv → List Int → GR (List Int)
  | [], ρ, acc => .ok acc ρ
  | p :: ps, ρ, acc => match g p ρ with
    | none => .stk
    | some ρ1 => match e ρ1 with
      | .ok (.sc (.int k)) ρ2 => if (ascL acc).length < 63 then sciL g e vs ps (wipeP ρ2 vs) (k :: acc) else .stk
      | _ => .stk
def srtG (it : PEnv → GR (List PV)) (g : PV → PEnv → Option PEnv) (e : PEnv → GR PV) (vs : List Nat) : PEnv → GR PV := fun ρ => (it ρ).bind fun ps ρ1 => (sciL g e vs ps (wipeP ρ1 vs) []).bind fun acc ρ2 => .ok (.lst true ((ascL acc).map PV.int)) (backV ρ1 (wipeP ρ2 vs) vs)
section
variable {K : Fg} {J : Jx} {W : WX} {P : List Nat} {σ : Sg} {H : Hp} {Q : VK} {F : Hp} {fp : List Addr} {D : Ends}
theorem owl_ints : ∀ ks : List Int, OwL K F H (ks.map V.int) (ks.map PV.int) []
  | [] => .nil
  | k :: ks => .cons (l := []) (ls := []) (.sc _) (owl_ints ks)
end
end RL
namespace RL
open PySem PySem.Spec PyProof.Rows L2
structure XfX (K : Fg) (C : Addr) : Prop where
  xf : XfC K C
  ha : PySem.W.findIn K (.ref C) "__class__" = some (some (.builtin "object.__class__"))
  hn : PySem.W.specialIn K (.builtin "object.__class__") "__get__" = some (some (.builtin "getset_descriptor.__get__"))
  ht : PySem.W.takesIn K (.builtin "object.__class__") = some true
  hm : PySem.W.mroIn K C (.type "object") = some true
section
variable {K : Fg} {J : Jx} {W : WX} {P : List Nat} {σ : Sg} {H : Hp} {Q : VK} {F : Hp} {fp : List Addr} {D : Ends}
theorem clsV_ok {c : V} {u : Value} (e : clsV c = some u) : ClsV c u := by
  unfold clsV at e;split at e
  · cases e; exact .ty _
  · cases e; exact .own _
  · cases e
end
end RL
namespace RL
noncomputable section
open PySem PySem.Spec PyProof.Rows L2
/-- one answer for all addresses that may be -/
def uniA {α : Type} (P : Addr → Prop) (f : Addr → α) (d : α) : α := open Classical in if h : ∃ r, ∀ a, P a → f a = r then h.choose else d
open Classical in
def lendR (i : Nat) (ps : List PV) (a : Addr) : GR PV → GR PV
  | .ok r ρ' => if r.noA a = true ∧ noAE a (ρ'.set i none) = true ∧ ρ'[i]? = some (some (.lsk a ps)) then .ok r (ρ'.set i (some (.lst true ps))) else .stk
  | .exc x ρ' => .exc x (ρ'.set i none)
  | .stk => .stk
def lendG (i : Nat) (f : PEnv → GR PV) : PEnv → GR PV := fun ρ => match ρ[i]? with
  | some (some (.lst true ps)) => if ps.all PV.fz = true then uniA (fun a => noAE a (ρ.set i none) = true ∧ PV.noAs a ps = true) (fun a => lendR i ps a (f (ρ.set i (some (.lsk a ps))))) .stk else .stk
  | some (some p) => if p.fz = true then f ρ else .stk
  | _ => .stk
section
variable {K : Fg} {J : Jx} {W : WX} {P : List Nat} {σ : Sg} {H : Hp} {Q : VK} {F : Hp} {fp : List Addr} {D : Ends}
theorem tg_tz {f : PEnv → GR PV} : TG K J W f σ H Q → TZ K J W f σ H Q := by
  rintro ⟨F, ρ, fp, s, h⟩;refine ⟨F, ρ, fp, s, ?_⟩
  cases e : f ρ with
  | stk => rw [e] at h; exact h
  | exc x ρ' => rw [e] at h; exact h
  | ok p ρ' =>
    rw [e] at h;exact fun v F' H' fp' af s' o => h v F' H' fp' [] (by rw [List.append_nil]; exact af) s' o
end
section
variable {X : Cx} {J : Jx} {W : WX} {P : List Nat} {e : Expr} {st : Stmt} {f : PEnv → GR PV}
theorem ge_gz (h : GZ X J W e f) : GE X J W e f := pe_imp h fun _ _ _ => tg_tz
end
end
end RL
namespace RL
open PySem PySem.Spec PyProof.Rows L2
theorem opr_or {X : Cx} {f : Value → Value → Sem Value} {r r' : R2} (h : OpR X f r) (h' : OpR X f r') : OpR X f (fun x y H Q => r x y H Q ∨ r' x y H Q) := fun pins s σ H x y v u Q I rx ry q => q.elim (h pins s σ H x y v u Q I rx ry) (h' pins s σ H x y v u Q I rx ry)
section
variable {K : Fg} {r r' : R2}
theorem o2_or {g g' : PV → PV → Option PV} (h : Op2 K r g) (h' : Op2 K r' g') : Op2 K (fun x y H Q => r x y H Q ∨ r' x y H Q) (orP g g') := by
  intro F H x y p q l l' o Q le o1 o2 e k;unfold orP at e
  cases eg : g p q with
  | some o' => rw [eg] at e; cases e; exact .inl (h F H x y p q l l' o Q le o1 o2 eg k)
  | none => rw [eg] at e; exact .inr (h' F H x y p q l l' o Q le o1 o2 e k)
theorem o2_s {g : PV → PV → Option V} (h : Op2S K r g) : Op2 K r fun p q => (g p q).map PV.sc := by
  intro F H x y p q l l' o Q le o1 o2 e k
  dsimp only at e
  cases eg : g p q with
  | none => rw [eg] at e; cases e
  | some v => rw [eg] at e; cases e; exact h F H x y p q l l' v Q le o1 o2 eg (okF_sc le k)
end
def rAddU (K : Fg) : R2 := fun x y H Q => rI0 (fun i j => .int (i + j)) x y H Q ∨ (rCat x y H Q ∨ rCatA K x y H Q)
theorem op_addU {X : Cx} : OpR X (binaryOp .Add) (rAddU X.K) := opr_or op_add (opr_or op_cat op_catA)
theorem o2_addU {K : Fg} : Op2 K (rAddU K) addU := o2_or (o2_s o2_i0) (o2_or o2_cat o2_tcat)
section
variable {P : Program} {w : World} {K : Fg} {mg : Str → Option Value} {base : Heap} {N : List Str} {qual : Str} {scope : Scope} {f : Addr} {cd : Value} {A : Around} {outer : List Env} {s : Shared} {H : Hp} {E : XK}
theorem tk_cx : Takes (cxOf (L2.CX P w) P w K mg base N qual scope f cd A outer s H E) (fun cls d _ H => E cls d H) := takes_of rfl rfl rfl rfl
theorem ps_cx : PassesOwn (model P w) (cxOf (L2.CX P w) P w K mg base N qual scope f cd A outer s H E).A (cxOf (L2.CX P w) P w K mg base N qual scope f cd A outer s H E).env (cxOf (L2.CX P w) P w K mg base N qual scope f cd A outer s H E).xe := passes_of (X := cxOf (L2.CX P w) P w K mg base N qual scope f cd A outer s H E) rfl
end
end RL
namespace RL
open PySem PySem.Spec PyProof.Rows L2
def blkB (N : List Str) (sc scope : Scope) (own : List (Str × Nat)) : Bool := decide (scope.kind = .function) && decide (∀ y ∈ scope.names, scope.names.lookup y.1 = some y.2) && decide (∀ p ∈ own, N[p.2]? = some p.1) &&
  decide (∀ y ∈ scope.names, y.2 = .free → sc.names.lookup y.1 = some .cell ∨ sc.names.lookup y.1 = some .free) && decide (∀ y ∈ scope.names, y.2 = .local ∨ y.2 = .cell → y.1 ∈ own.map (·.1) ∨ y.1 ∉ N)
theorem blk_of {N : List Str} {sc scope : Scope} {own : List (Str × Nat)} (N' : List Str) (sc' : Scope) (hN : N = N') (hs : sc = sc') (h : blkB N' sc' scope own = true) : BlkOk N sc scope own := by
  subst hN hs;unfold blkB at h
  simp only [Bool.and_eq_true, decide_eq_true_eq] at h;obtain ⟨⟨⟨⟨h1, h2⟩, h3⟩, h4⟩, h5⟩ := h
  exact ⟨h1, h2, h3, h4, h5⟩
theorem oexB_ok {K : Fg} {C : Addr} (h : oexB K C = true) : OexC K C := by
  unfold oexB at h;simp only [Bool.and_eq_true, decide_eq_true_eq] at h
  obtain ⟨⟨⟨⟨h0, h1⟩, h2⟩, h3⟩, h4⟩ := h;refine ⟨?_, h1, h2, h3, h4⟩;split at h0
  · rename_i dd cd sl e
    split at h0
    · rename_i C' bm k0 k1 k2 k3 n k5 em es
      simp only [Bool.and_eq_true, decide_eq_true_eq, Bool.not_eq_true'] at h0;obtain ⟨⟨⟨⟨rfl, rfl⟩, hd⟩, hdel⟩, hv⟩ := h0
      obtain ⟨nm, bs, mro, ns, qn, hdct, sn, sub, ab, col, del⟩ := cd
      dsimp only at em hd hdel
      subst em hd hdel;have esl : sl = #[k0, k1, k2, k3, some (.builtin "ValueError.__new__"), k5] := by
        apply Array.ext'
        rw [es]
      subst esl;exact ⟨nm, qn, ns, bs, bm, sn, sub, ab, col, dd, k0, k1, k2, k3, k5, e, hv⟩
    · cases h0
  · cases h0
theorem xfx_ok {K : Fg} {C : Addr} (h : (xfB K C && dunB K C) = true) : XfX K C := by
  obtain ⟨h0, h⟩ := Bool.and_eq_true_iff.mp h;unfold dunB at h;simp only [Bool.and_eq_true, decide_eq_true_eq] at h;obtain ⟨⟨⟨h1, h2⟩, h3⟩, h4⟩ := h;exact ⟨xfB_ok h0, h1, h2, h3, h4⟩
end RL
namespace RL
open PySem PySem.Spec PyProof.Rows L2
section
variable {α β : Type} (a : α) (x : Exc) (ρ ρ' : PEnv) (p q : PV)
@[simp] theorem skipS_e : skipS ρ = .nx ρ := rfl
theorem sixK_e {i : Nat} {fk : PEnv → GR PV} {ps0 ps : List PV} {z : Int} {j : Nat} {ρ2 : PEnv} (h0 : ρ[i]? = some (some (.lst true ps0))) (h1 : fk ρ = .ok (.int z) ρ2) (h2 : ρ2[i]? = some (some (.lst true ps))) (h3 : ixN ps.length z = some j) : sixK i fk q ρ = .nx (ρ2.set i (some (.lst true (ps.set j q)))) := by
  unfold sixK;simp only [h0, h1, h2, h3]
theorem chkF_e (h : p.fz = true) : chkF p = .ok p := if_pos h
theorem nmE_e {i : Nat} {ρ : PEnv} {p : PV} (h : ρ[i]? = some (some p)) : nmE i ρ = .ok p := by unfold nmE; rw [h]
@[simp] theorem nilA_e : nilA ρ = .ok [] := rfl
@[simp] theorem nilG_e : nilG ρ = .ok [] ρ := rfl
@[simp] theorem nilAg_e : nilAg ρ = .ok [] ρ := rfl
theorem plAg_e {i : Nat} {g : PEnv → GR (List Ag)} {ρ : PEnv} {p : PV} (h : ρ[i]? = some (some p)) : plAg i g ρ = (g ρ).bind fun ps ρ2 => .ok (.pl i :: ps) ρ2 := by unfold plAg; rw [h]
end
end RL
namespace RL
open PySem PySem.Spec PyProof.Rows L2
end RL
namespace RL
open PySem PySem.Spec PyProof.Rows L2
end RL
namespace RL
open PySem PySem.Spec PyProof.Rows L2
end RL
namespace RL
open PySem PySem.Spec PyProof.Rows L2
def lrg1 : PV → Option PV
  | .sc (.int j) => if RgOk 0 j ∧ (j - 0).toNat < 100000 then some (.lst true (rangeP 0 (j - 0).toNat)) else none
  | _ => none
end RL
namespace RL
open PySem PySem.Spec PyProof.Rows L2
end RL
namespace RL
open PySem PySem.Spec PyProof.Rows L2
theorem atI_in {α : Type} {xs : List α} {i : Int} (h0 : 0 ≤ i) (h1 : i < xs.length) : atI xs i = some (xs[i.toNat]'(by omega)) := by
  unfold atI ixN;rw [if_pos h0, if_pos h1]
  simp [show i.toNat < xs.length by omega]
/-- a thing that names no list that is kept -/
def PV.cl (p : PV) : Prop := ∀ a, p.noA a = true
end RL
section
set_option maxHeartbeats 2000000
namespace RL
open PySem PySem.Spec PyProof.Rows L2
/-- list(o), o of a class that is walked by a tuple in fld and has its own len -/
def lsOwn (C : Addr) (fld : Str) (mm : List PV → FR) : List PV → Option PV := fun ps => match ps with
  | [p] => match ownF C fld p, owLen C mm [p] with
    | some qs, some (.sc (.int n)) => if n < 2 ^ 20 then some (.lst true qs) else none
    | _, _ => none
  | _ => none
end RL
end
namespace RL
open PySem PySem.Spec PyProof.Rows L2
def getPt : Pth → PV → Option PV
  | [], p => some p
  | (C, f) :: π, p => match p with
    | .obj true D ns vs => if D = C then (match lookN f ns vs with
      | some q => getPt π q
      | none => none) else none
    | _ => none
def updN (f : Str) (g : PV → PV) : List Str → List PV → List PV
  | n :: ns, v :: vs => if f = n then g v :: vs else v :: updN f g ns vs
  | _, vs => vs
def setPt : Pth → PV → PV → PV
  | [], q, _ => q
  | (_, f) :: π, q, p => match p with
    | .obj true D ns vs => .obj true D ns (updN f (setPt π q) ns vs)
    | p => p
section
variable {K : Fg} {J : Jx} {W : WX} {P : List Nat} {σ : Sg} {H : Hp} {Q : VK} {F : Hp} {fp : List Addr} {D : Ends}
/-- what stands at a place -/
def atPt (ρ : PEnv) (i : Nat) (π : Pth) : Option PV := match ρ[i]? with
  | some (some p) => getPt π p
  | _ => none
def putPt (ρ : PEnv) (i : Nat) (π : Pth) (q : PV) : PEnv := match ρ[i]? with
  | some (some p) => ρ.set i (some (setPt π q p))
  | _ => ρ
/-- a method of a list at a place, its arguments pure -/
def mutP (i : Nat) (π : Pth) (fA : PEnv → ER (List PV)) (g : List PV → List PV → Option (PV × List PV)) : PEnv → GR PV := fun ρ => match atPt ρ i π with
  | some (.lst true ps) => match fA ρ with
    | .ok args => if args.all PV.fz = true then (match g ps args with
      | some (r, ps') => .ok r (putPt ρ i π (.lst true ps'))
      | none => .stk) else .stk
    | .exc x => .exc x ρ
    | .stk => .stk
  | _ => .stk
def keyP : PV → Option Key
  | .sc (.int i) => some (.inl i)
  | .sc (.str x) => some (.inr x)
  | _ => none
def keysP : List PV → Option (List Key)
  | [] => some []
  | p :: ps => match keyP p, keysP ps with
    | some k, some ks => some (k :: ks)
    | _, _ => none
section
variable {κ α : Type} [DecidableEq κ]
def lookX (k : κ) : List κ → List α → Option α
  | k' :: ks, v :: vs => if k' = k then some v else lookX k ks vs
  | _, _ => none
def putXk (k : κ) (ks : List κ) : List κ := if k ∈ ks then ks else ks ++ [k]
def repX (k : κ) (v : α) : List κ → List α → List α
  | k' :: ks, x :: vs => (if k' = k then v else x) :: repX k v ks vs
  | _, vs => vs
def putXv (k : κ) (v : α) (ks : List κ) (vs : List α) : List α := if k ∈ ks then repX k v ks vs else vs ++ [v]
end
def putB (kes : List KE3) (k : Int × Bool) (ka : Addr) (v : V) : List KE3 := if (valB kes k).isSome then kes.map (fun q => if q.1 = k then (q.1, q.2.1, v) else q) else kes ++ [(k, ka, v)]
theorem KB.repl {kes : List KE3} {xs : List (List Int × Addr × Value)} (r : KB kes xs) (k : Int × Bool) {y : V} {u : Value} (ry : RelV y u) :
    KB (kes.map fun q => if q.1 = k then (q.1, q.2.1, y) else q) (xs.map (putAt (nbK k) u)) := by
  induction r with
  | nil => exact .nil
  | @cons p q ps qs h t ih =>
    rw [List.map_cons, List.map_cons];refine .cons ?_ ih
    obtain ⟨h1, h2, h3⟩ := h;unfold putAt;by_cases e : p.1 = k
    · rw [if_pos e, if_pos (by rw [← h1, e])]; exact ⟨h1, h2, ry⟩
    · rw [if_neg e, if_neg (fun z => e (nbK_inj (h1.trans z)))]; exact ⟨h1, h2, h3⟩
theorem KB.put {kes : List KE3} {xs : List (List Int × Addr × Value)} (r : KB kes xs) (k : Int × Bool) (b : Addr) {y : V} {u : Value} (ry : RelV y u) : KB (putB kes k b y) (storedH xs (nbK k) b u) := by
  have e : (valB kes k).isSome = (atKey xs (nbK k)).isSome := by rw [(r.val k).isSome_eq, Option.isSome_map]
  unfold putB storedH;rw [e]
  by_cases q : (atKey xs (nbK k)).isSome = true
  · rw [if_pos q, if_pos q]; exact r.repl k ry
  · rw [if_neg q, if_neg q]; exact Paired.snoc r ⟨rfl, rfl, ry⟩
/-- the node behind the store -/
def setU (node key val : PV) : Option PV := match node with
  | .lst true ps => match key with
    | .sc (.int k) => (ixN ps.length k).map fun j => .lst true (ps.set j val)
    | _ => none
  | .dct true ks vs => match keyP key with
    | some k => if ks.length < 100000 then some (.dct true (putXk k ks) (putXv k val ks vs)) else none
    | none => none
  | .dtt true ks vs => match key with
    | .tup qs => match keysP qs with
      | some k => if ks.length < 100000 then some (.dtt true (putXk k ks) (putXv k val ks vs)) else none
      | none => none
    | _ => none
  | .dtb true ks vs => match key with
    | .tup [.sc (.int k), .sc (.bl b)] => if ks.length < 100000 then some (.dtb true (putXk (k, b) ks) (putXv (k, b) val ks vs)) else none
    | _ => none
  | _ => none
theorem keyP_ok {F H : Hp} {v : V} {p : PV} {k : Key} {l : List Addr} (w : Ow K F H v p l) (e : keyP p = some k) : v = kV k ∧ l = [] := by
  unfold keyP at e;split at e
  · cases e; cases w; exact ⟨rfl, rfl⟩
  · cases e; cases w; exact ⟨rfl, rfl⟩
  · cases e
/-- p[k] = v; v first, then the place, then the key -/
def setP (i : Nat) (π : Pth) (fk : PEnv → ER PV) (fv : PEnv → GR PV) : PEnv → SR := fun ρ => match fv ρ with
  | .ok val ρ1 => match atPt ρ1 i π with
    | some q => match fk ρ1 with
      | .ok key => match setU q key val with
        | some q' => .nx (putPt ρ1 i π q')
        | none => .stk
      | .exc x => .exc x ρ1
      | .stk => .stk
    | none => .stk
  | .exc x ρ1 => .exc x ρ1
  | .stk => .stk
theorem RdP.pur {F1 H1 : Hp} (pu : Pur F H F1 H1) : ∀ {π : Pth} {v v' : V}, RdP H π v v' → RdP H1 π v v'
  | [], _, _, h => h
  | (C, f) :: π, _, _, ⟨a, dx, fs, u, e, h, l, r⟩ => ⟨a, dx, fs, u, e, pu.same _ _ h, l, RdP.pur pu r⟩
end
end RL
namespace RL
open PySem PySem.Spec PyProof.Rows L2
def dLook (q p : PV) : Option (Option PV) := match q with
  | .dct _ ks vs => (keyP p).map fun k => lookX k ks vs
  | .dtt _ ks vs => match p with
    | .tup ps => (keysP ps).map fun k => lookX k ks vs
    | _ => none
  | .dtb _ ks vs => match p with
    | .tup [.sc (.int k), .sc (.bl b)] => some (lookX (k, b) ks vs)
    | _ => none
  | _ => none
/-- is there such a key? -/
def hasX {κ : Type} [DecidableEq κ] (k : κ) (ks : List κ) : Bool := decide (k ∈ ks)
def dHas (q p : PV) : Option Bool := match q with
  | .dct _ ks _ => (keyP p).map fun (k : Key) => hasX k ks
  | .dtt _ ks _ => match p with
    | .tup ps => (keysP ps).map fun (k : List Key) => hasX k ks
    | _ => none
  | .dtb _ ks _ => match p with
    | .tup [.sc (.int k), .sc (.bl b)] => some (hasX (k, b) ks)
    | _ => none
  | _ => none
def dinP (neg : Bool) : PV → PV → Option Bool := fun p q => (dHas q p).map fun b => if neg then !b else b
def dgetP : PV → PV → Option PV := fun q p => match dLook q p with
  | some (some v) => some v
  | _ => none
/-- in either kind of dict -/
def UGet (H : Hp) (a : Addr) (y : V) (r : Option V) : Prop := DGet H a y r ∨ BGet H a y r
/-- x in y: lists, tuples, dicts -/
def inU (neg : Bool) : PV → PV → Option Bool := orP (inP neg) (dinP neg)
/-- x[k]: texts, lists, tuples, dicts -/
def ixU : PV → PV → Option PV := orP ixP dgetP
end RL
namespace RL
open PySem PySem.Spec PyProof.Rows L2
end RL
namespace RL
open PySem PySem.Spec PyProof.Rows L2
def enumP (c : Int) : List PV → List PV
  | [] => []
  | p :: ps => .tup [.int c, p] :: enumP (c + 1) ps
def enumK : List PV → Option (List PV)
  | [p] => (seqF p).map (enumP 0)
  | _ => none
section
variable {K : Fg} {J : Jx} {W : WX} {P : List Nat} {σ : Sg} {H : Hp} {Q : VK} {F : Hp} {fp : List Addr} {D : Ends}
theorem ts_asg {f : PEnv → GR PV} {g : PV → PEnv → Option PEnv} : TSt K J W P (asgG g f) D σ H → tAsg (TZ K J W f) (TGt K J P g) D σ H := by
  rintro ⟨F, ρ, fp, s, h⟩;refine ⟨F, ρ, fp, s, ?_⟩
  unfold asgG at h;cases e : f ρ with
  | stk => rw [e] at h; exact h.elim
  | exc x ρ' => rw [e] at h; exact exG_post h
  | ok p ρ' =>
    rw [e] at h;intro v F' H' fp' a s' o
    refine ⟨F', ρ', fp', p, s', o, ?_⟩;unfold asgK at h;cases eg : g p ρ' with
    | none => simp only [eg] at h; exact h.elim
    | some ρ2 =>
      simp only [eg] at h ⊢
      exact fun σ' F2 H2 fp2 a2 pt st => h σ' F2 H2 fp2 (a.trans a2) pt st
end
section
variable {X : Cx} {J : Jx} {W : WX} {P : List Nat} {e tg : Expr} {pos : Pos}
theorem rs_asg {f : PEnv → GR PV} {g : PV → PEnv → Option PEnv} (h : GZ X J W e f) (hg : RG X J P tg g) (hs : swapsWithSole [tg] e pos.line X.env = pure false := by rfl) (hw : swappedStores [tg] e X.env = pure none := by rfl)
    (h1 : (assignEach [tg] X.env).map (·.2) = [assign tg X.env] := by rfl) : RS X J W P (.Assign [tg] e pos) (asgG g f) := ps_imp (ps_asg h hg hs hw h1) fun _ _ _ => ts_asg
end
end RL
namespace RL
open PySem PySem.Spec PyProof.Rows L2
def dcL (g : PV → PEnv → Option PEnv) (c : PEnv → GR Bool) (ek e : PEnv → GR PV) (vs : List Nat) : List PV → PEnv → List Key → List PV → GR (List Key × List PV)
  | [], ρ, ks, acc => .ok (ks, acc) ρ
  | p :: ps, ρ, ks, acc => match g p ρ with
    | none => .stk
    | some ρ1 => match c ρ1 with
      | .ok false ρ2 => dcL g c ek e vs ps (wipeP ρ2 vs) ks acc
      | .ok true ρ2 => match ek ρ2 with
        | .ok kp ρ3 => match keyP kp with
          | some k => match e ρ3 with
            | .ok q ρ4 => if ks.length < 100000 then dcL g c ek e vs ps (wipeP ρ4 vs) (putXk k ks) (putXv k q ks acc) else .stk
            | _ => .stk
          | none => .stk
        | _ => .stk
      | _ => .stk
def dcG (it : PEnv → GR (List PV)) (g : PV → PEnv → Option PEnv) (c : PEnv → GR Bool) (ek e : PEnv → GR PV) (vs : List Nat) : PEnv → GR PV := fun ρ => (it ρ).bind fun ps ρ1 => (dcL g c ek e vs ps (wipeP ρ1 vs) [] []).bind fun acc ρ2 => .ok (.dct true acc.1 acc.2) (backV ρ1 (wipeP ρ2 vs) vs)
end RL
namespace RL
open PySem PySem.Spec PyProof.Rows L2
section
variable {X : Cx} {C : Addr} {bmB : List Value} {B newId initId : String}
theorem pmk_own0 {x : Str} {p pos : Pos} (F : ExcBaseFacts B newId initId bmB) (q : PySem.W.excIn X.K C bmB newId = true) (gC : X.mg x = some (.ref C)) (kC : PySem.W.keepIn X.K (.ref C) = true) (r : Raises X (.ref C)) (hg : Gl X x)
    (hdb : (x == ("__debug__" : Str)) = false := by decide) : PMk X (.Call (.Name x p) [] [] pos) (fun _ H Q => Q (.ref C) none H) := by
  intro pins s σ H Q I h;refine wpAny_Call_Name_kw (ld_glob I hg gC ?_ hdb)
  refine PySem.W.callWith_K0 I.kIn kC ?_;show wpAny _ _ (call (.ref C) []) _ _ _
  obtain ⟨bm, N, nm, qn, bs, hdct, sn, sub, ab, col, dd, k0, k1, k2, k3, k5, mN, hC, hN, hni, T⟩ := exc_obj I.kIn q;refine wpAny_call_exc_subT F T hC hN hni (fun h' e hm => ?_) (Nat.zero_le _)
  exact mk_of I hm r h (I.hok.gone hm.new)
/-- what is known of an own exception class without own __init__ -/
structure XC0 (K : Fg) (C : Addr) : Prop where
  xF : PySem.W.excIn K C He.veBase "ValueError.__new__" = true
  kF : PySem.W.keepIn K (.ref C) = true
  bF : PySem.W.subIn K (.ref C) (.type "BaseException") = some true
  tF : PySem.W.typeIn K (.ref C) = some (.type "type")
end
end RL
namespace RL
open PySem PySem.Spec PyProof.Rows L2
end RL
namespace RL
open PySem PySem.Spec PyProof.Rows L2 He
end RL
namespace RL
open PySem PySem.Spec PyProof.Rows L2
end RL
namespace RL
open PySem PySem.Spec PyProof.Rows L2
end RL
section
set_option maxHeartbeats 2000000
namespace RL
open PySem PySem.Spec PyProof.Rows L2
end RL
end
section
set_option maxHeartbeats 2000000
namespace RL
open PySem PySem.Spec PyProof.Rows L2
def idxA : List PV → List PV → Option (PV × List PV) := fun ps args => match args with
  | [p] => if okD dN p = true ∧ ps.all (okD dN) = true then (match ps.findIdx? fun z => eqD dN z p with
    | some j => some (.int j, ps)
    | none => none) else none
  | _ => none
end RL
end
section
set_option maxHeartbeats 2000000
namespace RL
open PySem PySem.Spec PyProof.Rows L2
def tpkS (zs : List Str) : PEnv → ER PV := fun _ => .ok (.tpk (zs.map PV.str))
end RL
end
section
set_option maxHeartbeats 2000000
namespace RL
open PySem PySem.Spec PyProof.Rows L2
def parF (i j : Nat) (f g : PEnv → ER PV) : PEnv → SR := fun ρ => match f ρ with
  | .ok p => (match g ρ with
    | .ok q => .nx ((ρ.set i (some p)).set j (some q))
    | .exc x => .exc x ρ
    | .stk => .stk)
  | .exc x => .exc x ρ
  | .stk => .stk
def tupW (n : Nat) (gs : List PV → PEnv → Option PEnv) : PV → PEnv → Option PEnv := fun p ρ => match seqK p with
  | some ps => if ps.length = n then gs ps ρ else none
  | none => none
end RL
end
section
set_option maxHeartbeats 2000000
namespace RL
open PySem PySem.Spec PyProof.Rows L2
end RL
end
section
set_option maxHeartbeats 2000000
namespace RL
open PySem PySem.Spec PySem.Calls PyProof.Rows L2
end RL
end
namespace RL
open PySem PySem.Spec PyProof.Rows L2
def augP (i : Nat) (π : Pth) (fk fe : PEnv → ER PV) (g : Int → Int → Int) : PEnv → SR := fun ρ => match atPt ρ i π with
  | some q => match fk ρ with
    | .ok key => match ixU q key with
      | some (.sc (.int x)) => match fe ρ with
        | .ok (.sc (.int y)) => match setU q key (.int (g x y)) with
          | some q' => .nx (putPt ρ i π q')
          | none => .stk
        | .ok _ => .stk
        | .exc x => .exc x ρ
        | .stk => .stk
      | _ => .stk
    | .exc x => .exc x ρ
    | .stk => .stk
  | none => .stk
end RL
namespace RL
open PySem PySem.Spec PyProof.Rows L2
def eitK (k1 k2 : PV → Option (List PV)) : PV → Option (List PV) := fun p => match k1 p with
  | some xs => some xs
  | none => k2 p
def nilD : PEnv → ER (List Key × List PV) := fun _ => .ok ([], [])
def consD (fk fv : PEnv → ER PV) (g : PEnv → ER (List Key × List PV)) : PEnv → ER (List Key × List PV) := fun ρ => (fk ρ).bind fun k => (fv ρ).bind fun v => (g ρ).bind fun r => match keyP k with
  | some kk => if v.fz = true then .ok (kk :: r.1, v :: r.2) else .stk
  | none => .stk
def bindD (g : PEnv → ER (List Key × List PV)) : PEnv → ER PV := fun ρ => (g ρ).bind fun r => if r.1.Nodup ∧ r.1.length ≤ 15 then .ok (.dct true r.1 r.2) else .stk
def TVD (K : Fg) (W : WX) (g : PEnv → ER (List Key × List PV)) (ρ : PEnv) (F : Hp) (σ : Sg) (H : Hp) (Q : List (V × V) → Hp → Prop) : Prop := match g ρ with
  | .ok r => ∀ xs F' H', Pur F H F' H' → OwL K F' H' xs r.2 [] → xs.length = r.1.length → Q ((r.1.map kV).zip xs) H'
  | .exc x => exV K W F σ H x
  | .stk => False
inductive DPs (X : Cx) (J : Jx) (W : WX) (pos : Pos) : List (Option Expr) → List Expr → List (TE × TE) → (PEnv → ER (List Key × List PV)) → Prop
  | nil : DPs X J W pos [] [] [] nilD
  | cons {k v : Expr} {ks : List (Option Expr)} {vs : List Expr} {fk fv : PEnv → ER PV} {trs : List (TE × TE)} {g : PEnv → ER (List Key × List PV)} (hk : VE X J W k fk) (hv : VE X J W v fv) (t : DPs X J W pos ks vs trs g) : DPs X J W pos (some k :: ks) (v :: vs) ((TV X.K J W fk, TV X.K J W fv) :: trs) (consD fk fv g)
theorem DPs.go {X : Cx} {J : Jx} {W : WX} {pos : Pos} {ks : List (Option Expr)} {vs : List Expr} {trs : List (TE × TE)} {g : PEnv → ER (List Key × List PV)} (d : DPs X J W pos ks vs trs g) : ∀ {F H : Hp} {ρ : PEnv} {fp : List Addr} {σ : Sg} {Q : List (V × V) → Hp → Prop}, St X.K J F H σ ρ fp → TVD X.K W g ρ F σ H Q → tPairs trs σ H Q := by
  induction d with
  | nil => intro F H ρ fp σ Q s h; exact h [] F H (Pur.refl s.le) .nil rfl
  | @cons k v ks vs fk fv trs g hk hv t ih =>
    intro F H ρ fp σ Q s h;unfold TVD consD at h
    show TV X.K J W fk σ H fun x H1 => TV X.K J W fv σ H1 fun y H2 => tPairs trs σ H2 fun ps H3 => Q ((x, y) :: ps) H3
    refine ⟨F, ρ, fp, s, ?_⟩;cases ek : fk ρ with
    | stk => simp only [ek, ER.bind] at h
    | exc x => simp only [ek, ER.bind] at h; exact h
    | ok kp =>
      simp only [ek, ER.bind] at h;intro x F1 H1 l1 p1 o1 i1
      refine ⟨F1, ρ, fp, s.pur p1, ?_⟩;cases ev : fv ρ with
      | stk => simp only [ev] at h
      | exc x => simp only [ev] at h; exact exV.pur h p1
      | ok vp =>
        simp only [ev] at h;intro y F2 H2 l2 p2 o2 i2
        refine ih ((s.pur p1).pur p2) ?_;unfold TVD;cases eg : g ρ with
        | stk => simp only [eg] at h
        | exc x => simp only [eg] at h; exact exV.pur h (p1.trans p2)
        | ok r =>
          simp only [eg] at h;intro xs F3 H3 p3 o3 e3
          cases ekk : keyP kp with
          | none => simp only [ekk] at h
          | some kk =>
            simp only [ekk] at h;by_cases c : vp.fz = true
            · simp only [c, if_true] at h;obtain ⟨rfl, _⟩ := keyP_ok o1 ekk
              have el := o2.fz0 c;subst el;have w := OwL.cons (o2.any p3.leF) o3
              exact h (y :: xs) F3 H3 ((p1.trans p2).trans p3) w (by simp [e3])
            · rw [if_neg c] at h; exact h.elim
end RL
namespace RL
open PySem PySem.Spec PyProof.Rows L2 RZ
def zipP (ps qs : List PV) : List PV := List.zipWith (fun p q => .tup [p, q]) ps qs
def zipK : List PV → Option (List PV)
  | [.tup ps, .tup qs] => some (zipP ps qs)
  | [p, q] => match listK p with
    | some ps => (listK q).map (zipP ps)
    | none => none
  | _ => none
end RL
namespace RL
open PySem PySem.Spec PyProof.Rows L2 He
end RL
namespace RL
open PySem PySem.Spec PyProof.Rows L2
def owIx (C : Addr) (mm : List PV → FR) : PV → PV → Option PV := fun p q => match p with
  | .obj false D ns vs => if D = C ∧ q.fz = true then (match mm [.obj false D ns vs, q] with
    | .ok r _ => some r
    | _ => none) else none
  | _ => none
def isB (neg : Bool) : PV → PV → Option Bool := fun p q => match p, q with
  | .sc (.bl c), .sc (.bl b) => some (if neg then !(c == b) else c == b)
  | _, _ => none
end RL
namespace RL
open PySem PySem.Spec PyProof.Rows L2
end RL
namespace RL
open PySem PySem.Spec PyProof.Rows L2
def isDP : PV → Bool
  | .dct _ _ _ => true
  | .dtt _ _ _ => true
  | .dtb _ _ _ => false
  | _ => false
def dget2P (p q r : PV) : Option PV := match dLook p q with
  | some (some w) => if w.fz = true then some w else none
  | some none => if r.fz = true then some r else none
  | none => none
def dget2E (fa fb fc : PEnv → ER PV) : PEnv → ER PV := fun ρ => (fa ρ).bind fun p => if isDP p = true then (fb ρ).bind fun q => (fc ρ).bind fun r => .of (dget2P p q r) else .stk
section
variable {X : Cx} {J : Jx} {W : WX} {o e f : Expr} {apos cpos : Pos}
theorem UGet.d {H : Hp} {a : Addr} {y : V} {o : Option V} (g : UGet H a y o) (i : IsD H a) : DGet H a y o := by
  rcases g with g | ⟨kes, k, b, e, _⟩
  · exact g
  · rcases i with ⟨kvs, i⟩ | ⟨kvs, i⟩ <;> (rcases e with e | ⟨_, e⟩ <;> (rcases i with i | ⟨_, i⟩ <;> (rw [e] at i; cases i)))
end
end RL
namespace RL
open PySem PySem.Spec PyProof.Rows L2
end RL
namespace RL
open PySem PySem.Spec PyProof.Rows L2
def isLP : PV → Bool
  | .lst _ _ => true
  | _ => false
def ixoP : PV → PV → Option PV := fun p q => match p with
  | .lst _ ps => (idxA ps [q]).map (·.1)
  | _ => none
def ixoE (fa fb : PEnv → ER PV) : PEnv → ER PV := fun ρ => (fa ρ).bind fun p => if isLP p = true then (fb ρ).bind fun q => .of (ixoP p q) else .stk
end RL
section
set_option maxHeartbeats 2000000
namespace RL
open PySem PySem.Spec PyProof.Rows L2
open L2H (RoomH PinOk cxH inv_startH)
end RL
namespace RL
theorem all_k1 {α : Type} {p : α → Prop} {a : α} {l : List α} (h : p a) (t : ∀ x ∈ l, p x) : ∀ x ∈ a :: l, p x := fun x hx => (List.mem_cons.mp hx).elim (fun e => e ▸ h) (t x)
end RL
end
namespace RL
open PySem PySem.Spec PyProof.Rows L2
end RL
namespace RL
open PySem PySem.Spec PyProof.Rows L2
section
variable {K : Fg} {J : Jx} {W : WX} {P : List Nat} {σ : Sg} {H : Hp} {Q : VK} {F : Hp} {fp : List Addr} {D : Ends}
theorem At2.pur {F1 H1 : Hp} {j : Nat} {v v' : V} (h : At2 H j v v') (pu : Pur F H F1 H1) : At2 H1 j v v' := by
  obtain ⟨a, us, e, h, g⟩ := h;exact ⟨a, us, e, pu.same _ _ h, g⟩
end
end RL
namespace RL
open PySem PySem.Spec PyProof.Rows L2
end RL
namespace RL
open PySem PySem.Spec PyProof.Rows L2
end RL
namespace RL
open PySem PySem.Spec PyProof.Rows L2
end RL
namespace RL
open PySem PySem.Spec PyProof.Rows L2
end RL
namespace RL
open PySem PySem.Spec PyProof.Rows L2
end RL
namespace RL
open PySem PySem.Spec PyProof.Rows L2
section
variable {K : Fg} {J : Jx} {W : WX} {P : List Nat} {σ : Sg} {H : Hp} {Q : VK} {F : Hp} {fp : List Addr} {D : Ends}
theorem Al.pur {i r j : Nat} {F1 H1 : Hp} (h : Al i r j σ H) (pu : Pur F H F1 H1) : Al i r j σ H1 := by
  obtain ⟨v, v', a, b, c⟩ := h;exact ⟨v, v', a, b, c.pur pu⟩
end
end RL
namespace RL
open PySem PySem.Spec PyProof.Rows L2
end RL
namespace RL
open PySem PySem.Spec PyProof.Rows L2
end RL
namespace RL
open PySem PySem.Spec PyProof.Rows L2
end RL
section
set_option maxHeartbeats 2000000
namespace RL
open PySem PySem.Spec PyProof.Rows L2
end RL
end
namespace RL
open PySem PySem.Spec PyProof.Rows L2
def kP (k : Key) : PV := .sc (kV k)
def ktP (ks : List Key) : PV := .tup (ks.map kP)
def keyK : PV → Option (List PV)
  | .dct false ks _ => some (ks.map kP)
  | .dtt false ks _ => some (ks.map ktP)
  | .dtb false ks _ => some (ks.map kbP)
  | _ => none
section
variable {K : Fg} {J : Jx} {W : WX} {P : List Nat} {σ : Sg} {H : Hp} {Q : VK} {F : Hp} {fp : List Addr} {D : Ends} {d : Addr} {u : HO} {od : Obj}
/-- the walk over the keys of a field -/
def itK (i : Nat) (C : Addr) (f : Str) : PEnv → GR (List PV) := iterI (vG (bind1 (nmE i) (fldP C f))) keyK
def noXS : SR → SR
  | .exc _ _ => .stk
  | r => r
def forKy (i : Nat) (C : Addr) (f : Str) (g : PV → PEnv → Option PEnv) (b : PEnv → SR) : PEnv → SR := fun ρ => noXS (forG (itK i C f) g b ρ)
end
end RL
namespace RL
open PySem PySem.Spec PyProof.Rows L2
def noXG {α : Type} : GR α → GR α
  | .exc _ _ => .stk
  | r => r
section
variable {K : Fg} {J : Jx} {W : WX} {P : List Nat} {σ : Sg} {H : Hp} {Q : VK} {F : Hp} {fp : List Addr} {D : Ends} {d : Addr} {u : HO} {od : Obj}
/-- a list comprehension over the keys of a field -/
def compKy (i : Nat) (C : Addr) (f : Str) (g : PV → PEnv → Option PEnv) (c : PEnv → GR Bool) (e : PEnv → GR PV) (vs : List Nat) : PEnv → GR PV := fun ρ => noXG (compG (itK i C f) g c e vs ρ)
def keyO : PV → Option (List PV)
  | .dct true ks vs => if vs.all PV.fz = true then some (ks.map kP) else none
  | .dtt true ks vs => if vs.all PV.fz = true then some (ks.map ktP) else none
  | _ => none
end
end RL
section
set_option maxHeartbeats 2000000
namespace L2
open PySem PySem.Spec PyProof.Rows
end L2
namespace RL
open PySem PySem.Spec PyProof.Rows L2
def keyT : PV → Option (List Key)
  | .tup ps => keysP ps
  | _ => none
def dcTL (g : PV → PEnv → Option PEnv) (c : PEnv → GR Bool) (ek e : PEnv → GR PV) (vs : List Nat) : List PV → PEnv → List (List Key) → List PV → GR (List (List Key) × List PV)
  | [], ρ, ks, acc => .ok (ks, acc) ρ
  | p :: ps, ρ, ks, acc => match g p ρ with
    | none => .stk
    | some ρ1 => match c ρ1 with
      | .ok false ρ2 => dcTL g c ek e vs ps (wipeP ρ2 vs) ks acc
      | .ok true ρ2 => match ek ρ2 with
        | .ok kp ρ3 => match keyT kp with
          | some k => match e ρ3 with
            | .ok q ρ4 => if ks.length < 100000 then dcTL g c ek e vs ps (wipeP ρ4 vs) (putXk k ks) (putXv k q ks acc) else .stk
            | _ => .stk
          | none => .stk
        | _ => .stk
      | _ => .stk
def dcTG (it : PEnv → GR (List PV)) (g : PV → PEnv → Option PEnv) (c : PEnv → GR Bool) (ek e : PEnv → GR PV) (vs : List Nat) : PEnv → GR PV := fun ρ => (it ρ).bind fun ps ρ1 => (dcTL g c ek e vs ps (wipeP ρ1 vs) [] []).bind fun acc ρ2 => .ok (.dtt true acc.1 acc.2) (backV ρ1 (wipeP ρ2 vs) vs)
section
variable {K : Fg} {J : Jx} {W : WX} {P : List Nat} {σ : Sg} {H : Hp} {Q : VK} {F : Hp} {fp : List Addr} {D : Ends} {d : Addr} {u : HO} {od : Obj}
/-- a dict comprehension, its keys tuples, over the keys of a field -/
def dcKy (i : Nat) (C : Addr) (f : Str) (g : PV → PEnv → Option PEnv) (c : PEnv → GR Bool) (ek e : PEnv → GR PV) (vs : List Nat) : PEnv → GR PV := fun ρ => noXG (dcTG (itK i C f) g c ek e vs ρ)
end
end RL
end
namespace RL
noncomputable section
open PySem PySem.Spec PyProof.Rows L2
mutual
/-- no frozen object, nor frozen dict, is in it -/
def PV.noO : PV → Bool
  | .sc _ => true
  | .tup xs => PV.noOs xs
  | .lst _ xs => PV.noOs xs
  | .lsk _ xs => PV.noOs xs
  | .dct o _ vs => o && PV.noOs vs
  | .dtt o _ vs => o && PV.noOs vs
  | .dtb o _ vs => o && PV.noOs vs
  | .obj o _ _ vs => o && PV.noOs vs
  | .tpk vs => PV.noOs vs
  | .exo _ _ _ => false
  | .tab _ _ => false
def PV.noOs : List PV → Bool
  | [] => true
  | x :: xs => x.noO && PV.noOs xs
end
/-- the fields: frozen, or own dicts of frozen things -/
def fldO : List PV → Bool
  | [] => true
  | .dct true _ us :: vs => us.all PV.fz && fldO vs
  | .dtt true _ us :: vs => us.all PV.fz && fldO vs
  | .dtb true _ us :: vs => us.all PV.fz && fldO vs
  | v :: vs => v.fz && fldO vs
open Classical in
/-- the slots behind: as they were and frozen, or without frozen objects and dicts; the others are forgotten -/
def clO : PEnv → PEnv → PEnv
  | _, [] => []
  | ρ, some p :: ρ' => (if p.noO = true ∨ (ρ.head? = some (some p) ∧ p.fz = true) then some p else none) :: clO ρ.tail ρ'
  | ρ, none :: ρ' => none :: clO ρ.tail ρ'
section
variable {K : Fg} {J : Jx} {W : WX} {P : List Nat} {σ : Sg} {H : Hp} {Q : VK} {F : Hp} {fp : List Addr} {D : Ends}
open Classical in
def lendOR (i : Nat) (ρ : PEnv) (own : PV) : GR PV → GR PV
  | .ok p ρ' => if p.noO = true ∧ i < ρ'.length then .ok p ((clO (ρ.set i none) (ρ'.set i none)).set i (some own)) else .stk
  | _ => .stk
def lendO (i : Nat) (f : PEnv → GR PV) : PEnv → GR PV := fun ρ => match ρ[i]? with
  | some (some (.obj true C ns vs)) => if fldO vs = true then lendOR i ρ (.obj true C ns vs) (f (ρ.set i (some (.obj false C ns (PV.frzL vs))))) else .stk
  | some (some p) => if p.fz = true then f ρ else .stk
  | _ => .stk
end
end
end RL
namespace RL
open PySem PySem.Spec PyProof.Rows L2
open PySem.W in
def neB (K : Fg) (C : Addr) : Bool := (match findIn K (.ref C) "__ne__" with
  | some (some (.builtin id)) => id == "object.__ne__"
  | _ => false) && (match subIn K (.ref C) (.type "object") with
  | some b => b
  | none => false)
def NeK (K : Fg) (C : Addr) : Prop := neB K C = true
section
open PySem.W
variable {K : Fg} {C : Addr}
theorem NeK.ne (h : NeK K C) : findIn K (.ref C) "__ne__" = some (some (.builtin "object.__ne__")) := by
  obtain ⟨h, _⟩ := Bool.and_eq_true_iff.mp (show (_ && _) = true from h)
  split at h
  · rename_i id e
    rw [e, eq_of_beq h]
  · cases h
theorem NeK.sub (h : NeK K C) : subIn K (.ref C) (.type "object") = some true := by
  obtain ⟨_, h⟩ := Bool.and_eq_true_iff.mp (show (_ && _) = true from h)
  split at h
  · rename_i b e
    rw [e, h]
  · cases h
end
end RL
namespace RL
open PySem PySem.Spec PyProof.Rows L2
end RL
namespace RL
open PySem PySem.Spec PyProof.Rows L2
section
variable {K : Fg} {J : Jx} {W : WX} {P : List Nat} {σ : Sg} {H : Hp} {Q : VK} {F : Hp} {fp : List Addr} {D : Ends} {d : Addr} {u : HO} {od : Obj}
def itN (i : Nat) : PEnv → GR (List PV) := iterI (vG (nmE i)) keyK
def forKn (i : Nat) (g : PV → PEnv → Option PEnv) (b : PEnv → SR) : PEnv → SR := fun ρ => noXS (forG (itN i) g b ρ)
end
def isiA2 (K : Fg) (Cs : List Addr) : List PV → Option PV := fun ps => match ps with
  | [.dtt _ _ _, .sc c] => (match clsV c with
    | some u => (PySem.W.kitOne K (.type "dict") u).map PV.bl
    | none => none)
  | ps => isiA K Cs ps
end RL
namespace RL
open PySem PySem.Spec PyProof.Rows L2
end RL
namespace RL
open PySem PySem.Spec PyProof.Rows L2
end RL
namespace RL
open PySem PySem.Spec PyProof.Rows L2
end RL
namespace RL
open PySem PySem.Spec PyProof.Rows L2
def isBX (neg : Bool) : PV → PV → Option Bool := fun p q => match p, q with
  | .sc .non, .sc (.bl _) => some neg
  | .sc (.int _), .sc (.bl _) => some neg
  | p, q => isB neg p q
end RL
namespace RG
open PySem PySem.Spec PyProof.Rows L2
open Sem (wp)
def psnA (G : Array GenState) : Array GenState := G.map psn
theorem nog.split {fs : List Frame} (h : nog fs) : splitAtGen fs = none := by
  induction fs with
  | nil => rfl
  | cons F fs ih =>
    have h0 := h F List.mem_cons_self;have ht := ih fun G hG => h G (List.mem_cons_of_mem _ hG)
    cases F with
    | gen _ _ _ _ _ => cases h0
    | ret _ _ _ _ _ _ _ => show (splitAtGen fs).map _ = none; rw [ht]; rfl
section
variable {G0 Ga Gb : Array GenState}
theorem Tw.start (G : Array GenState) : Tw G (psnA G) G := by
  refine ⟨by simp [psnA], by simp [psnA], fun i => ?_⟩
  have e : (psnA G)[i]? = (G[i]?).map psn := by simp [psnA]
  rw [e];cases hg : G[i]? with
  | none => exact .inr ⟨fun st z => (nomatch z), rfl, fun st z => (nomatch z)⟩
  | some st =>
    cases hs : susp st with
    | true => exact .inl ⟨st, rfl, hs, rfl, rfl⟩
    | false =>
      refine .inr ⟨fun st' z => by cases z; exact hs, ?_, fun st' z => ?_⟩
      · cases st <;> first | rfl | cases hs
      · cases st <;> first | (cases z; trivial) | cases hs
end
end RG
namespace RG
open PySem PySem.Spec PyProof.Rows L2 GenW
def Sg (M : Model) (A : Around) (Φ : End → Shared → Prop) (c : Code) (t : Sem PySem.Fin) (fs : List Frame) (s : Shared) : Prop :=
  ∀ Γ p, Γ.code = c → Γ.Woken A → ∃ e s', Runs M Γ p t fs s e s' ∧ Φ e s'
def Goes (M : Model) (A : Around) (Φ : End → Shared → Prop) (gs : GenState) (s : Shared) : Prop :=
  match gs with
  | .fresh c => Sg M A Φ c (M.den c) [] s
  | .suspended k _ c _ fs _ => Sg M A Φ c (k (.send .none)) fs s
  | _ => False
/-- the next of a generator: what its stretch ends with -/
inductive Ends3 (Y : Value → GenState → Shared → Prop) (R : Shared → Prop) (X : Value → Shared → Prop) : End → Shared → Prop
  | yld {v l k c p fs s} (q : (End.susp v false l k c p fs).quiet = true) (h : Y v (.suspended k l c p fs (fs.any Frame.guarded)) s) : Ends3 Y R X (.susp v false l k c p fs) s
  | fin {s} (h : R s) : Ends3 Y R X (.ret (.ok (.ret .none))) s
  | exc {e s} (h : X e s) : Ends3 Y R X (.ret (.error e)) s
theorem Ends3.quiet {Y R X e s} (h : Ends3 Y R X e s) : e.quiet = true := by
  cases h <;> first | rfl | assumption
end RG
namespace RG
open PySem PySem.Spec PyProof.Rows L2 RL GenW
def stp (p : Addr → Bool) (H : Hp) : Hp := fun b => if p b = true then none else H b
section
variable {K : Fg} {F H : Hp} {p : Addr → Bool}
theorem EnvR.fz0 : ∀ {σ : List (Option V)} {ρ : PEnv} {l : List Addr}, EnvR K F H σ ρ l → (∀ x, some x ∈ ρ → PV.fz x = true) → l = []
  | _, _, _, .nil, _ => rfl
  | _, _, _, .no t, h => EnvR.fz0 t fun x hx => h x (List.mem_cons_of_mem _ hx)
  | _, _, _, .so o t, h => by
    rw [o.fz0 (h _ List.mem_cons_self), EnvR.fz0 t fun x hx => h x (List.mem_cons_of_mem _ hx)]; rfl
end
def cutS (s : Shared) (L : Nat) : Shared := { s with heap := ⟨s.heap.objs.extract 0 L, s.heap.life⟩ }
def cutH (H : Hp) (L : Nat) : Hp := fun b => if b < L then H b else none
/-- what a stretch of the generator's run does to the rest: from sr, with the views Fr, Hr, to s1 -/
structure Ran (P : Program) (w : World) (fs : List Addr) (L : Nat) (pn : List (Addr × Obj)) (sr : Shared) (Fr Hr : Hp) (s1 : Shared) (F1 H1 : Hp) : Prop where
  un : Un fs [] (cutH Hr L) H1 (cutS sr L).heap s1.heap
  pur : Pur Fr Hr F1 H1
  os : s1.os = sr.os
  bare : AllBare s1.gens
  hok : HOk P w H1 s1.heap
  obj : ∀ q ∈ pn, s1.heap.get? q.1 = some q.2 ∧ H1 q.1 = none
section
variable (P : Program) (w : World) (K : Fg) (mg : Str → Option Value) (base : Heap) (N : List Str) (A : Around) (outer : List Env) (pn : List (Addr × Obj))
def GX (env : Env) (s : Shared) (H : Hp) (E : XK) : Cx where
  prog := P
  w := w
  K := K
  mg := mg
  base := base
  A := A.deeper env
  N := N
  s_0 := s
  H_0 := H
  env := env
  outer := outer
  stack := env :: outer
  ex := []
  calm := true
  fn := fun _ => true
  pn := pn
  xe := fun e s' => wpAny (model P w) (A.deeper env) (leaving env e) (fun _ s'' => L2.CX P w outer H s E e s'' ∧ ∀ q ∈ pn, s''.heap.get? q.1 = some q.2) (fun _ _ => False) s'
end
section
variable {P : Program} {w : World} {K : Fg} {mg : Str → Option Value} {base : Heap} {N : List Str} {A : Around} {outer : List Env} {env : Env} {pn : List (Addr × Obj)}
/-- from the generator's sleep (s1, F1, H1) to its waking (s2, F2, H2): what is its own is as it was -/
structure Woke (P : Program) (w : World) (K : Fg) (mg : Str → Option Value) (base : Heap) (A : Around) (outer : List Env) (L : Nat) (s1 : Shared) (F1 H1 : Hp) (s2 : Shared) (F2 H2 : Hp) : Prop where
  priv : ∀ b o, L ≤ b → H1 b = none → s1.heap.get? b = some o → s2.heap.get? b = some o ∧ H2 b = none
  leF : HLe F1 F2
  le : HLe F2 H2
  env0 : Env0 P w K mg base A outer s2 H2
  sz : L ≤ s2.heap.objs.size
end
end RG
namespace RG
open PySem PySem.Spec PyProof.Rows L2 RL GenW
def noE : XK := fun _ _ _ => False
/-- what is due: these values and the end; or an exception ahead of the first one -/
inductive Gt where
  | ok (zs : List PV)
  | ex (E : XK)
def Gt.E : Gt → XK
  | .ok _ => noE
  | .ex E => E
def Gt.pre (ys : List PV) : Gt → Gt
  | .ok zs => .ok (ys ++ zs)
  | .ex E => .ex E
section
variable (P : Program) (w : World) (K : Fg) (mg : Str → Option Value) (base : Heap) (A : Around) (outer : List Env) (L : Nat) (pn : List (Addr × Obj))
def Gl : List PV → Shared → Hp → Hp → End → Shared → Prop
  | [], sr, Fr, Hr => Ends3 (fun _ _ _ => False) (fun s1 => ∃ F1 H1, Ran P w (frs outer) L pn sr Fr Hr s1 F1 H1) (fun _ _ => False)
  | z :: zs, sr, Fr, Hr => Ends3 (fun v gs s1 => ∃ x F1 H1, Ran P w (frs outer) L pn sr Fr Hr s1 F1 H1 ∧ L2.RelV x v ∧ Ow K F1 H1 x z [] ∧ ∀ s2 F2 H2, Woke P w K mg base A outer L s1 F1 H1 s2 F2 H2 → Goes (model P w) A (Gl zs s2 F2 H2) gs s2) (fun _ => False) (fun _ _ => False)
end
/-- a generator's call -/
structure Gq where
  P : Program
  w : World
  K : PySem.W.Frag
  mg : Str → Option Value
  base : Heap
  N : List Str
  A : Around
  outer : List Env
  env : Env
  L : Nat
  pn : List (Addr × Obj)
def Gq.X (G : Gq) (s : Shared) (H : Hp) (E : XK) : Cx := GX G.P G.w G.K G.mg G.base G.N G.A G.outer G.pn G.env s H E
/-- it runs: since it was woken at sr -/
structure At (G : Gq) (T : Gt) (sr : Shared) (Fr Hr : Hp) (ip : List (Addr × Obj)) (s : Shared) (σ : L2.St) (ρ : PEnv) (F H : Hp) (fp : List Addr) : Prop where
  inv : Inv (G.X (cutS sr G.L) (cutH Hr G.L) T.E) ip σ H s
  st : RL.St G.K J0 F H σ ρ fp
  aft : Aft Fr Hr [] F H fp
  sz : G.L ≤ sr.heap.objs.size
abbrev YR := List PV × SR
def ExP (K : Fg) (E : XK) (x : Exc) (F H : Hp) (fp : List Addr) : Prop := ∀ d F' H' fp', Aft F H fp F' H' fp' → ExcAt K F' H' d x → E (.ref x.C) d H'
def YP (G : Gq) (T : Gt) (m : YR) (F H : Hp) (fp : List Addr) : Prop := match m.2 with
  | .stk => False
  | .exc x _ => m.1 = [] ∧ ExP G.K T.E x F H fp
  | .rt p _ => p = .sc .non
  | _ => True
theorem ExP.aft {K : Fg} {E : XK} {x : Exc} {F H F1 H1 : Hp} {fp fp1 : List Addr} (h : ExP K E x F H fp) (a : Aft F H fp F1 H1 fp1) : ExP K E x F1 H1 fp1 := fun d F' H' fp' b e => h d F' H' fp' (a.trans b) e
def pln (b : PEnv → SR) : PEnv → YR := fun ρ => ([], b ρ)
section
variable {G : Gq} {st : Stmt} {rest : List Stmt}
def fzO : Option PV → Bool
  | none => true
  | some p => p.fz
def yldM (f : PEnv → GR PV) : PEnv → YR := fun ρ => match f ρ with
  | .ok p ρ' => if ρ'.all fzO = true then ([p], .nx ρ') else ([], .stk)
  | .exc x ρ' => ([], .exc x ρ')
  | .stk => ([], .stk)
def thenM (r : YR) (n : PEnv → YR) : YR := match r.2 with
  | .nx ρ1 => (r.1 ++ (n ρ1).1, (n ρ1).2)
  | _ => r
def seqM (m n : PEnv → YR) : PEnv → YR := fun ρ => thenM (m ρ) n
end
end RG
namespace RG
open PySem PySem.Spec PyProof.Rows L2 RL GenW
def forYL (g : PV → PEnv → Option PEnv) (b : PEnv → YR) : List PV → PEnv → YR
  | [], ρ => ([], .nx ρ)
  | p :: ps, ρ => match g p ρ with
    | none => ([], .stk)
    | some ρ1 => match (b ρ1).2 with
      | .nx ρ2 => ((b ρ1).1 ++ (forYL g b ps ρ2).1, (forYL g b ps ρ2).2)
      | .ct ρ2 => ((b ρ1).1 ++ (forYL g b ps ρ2).1, (forYL g b ps ρ2).2)
      | .bk ρ2 => ((b ρ1).1, .nx ρ2)
      | r => ((b ρ1).1, r)
def forY (it : PEnv → GR (List PV)) (g : PV → PEnv → Option PEnv) (b : PEnv → YR) : PEnv → YR := fun ρ => match it ρ with
  | .ok ps ρ' => forYL g b ps ρ'
  | .exc x ρ' => ([], .exc x ρ')
  | .stk => ([], .stk)
section
variable {G : Gq} {c : Code} {fs : List Frame} {gd : Bool → Bool} {K : Flow → Sem PySem.Fin} {J : Value → Sem PySem.Fin} {lv : List Value → List Value}
theorem YP.pre {T : Gt} {m m' : YR} {F H : Hp} {fp : List Addr} : YP G T m F H fp → m = m' → YP G T m' F H fp := fun h e => e ▸ h
end
end RG
section
set_option maxHeartbeats 1000000
namespace RG
open PySem PySem.Spec PyProof.Rows L2 RL GenW
inductive YT where
  | ok (zs : List PV)
  | exc (x : Exc)
  | stk
def endY : YR → YT
  | (zs, .nx _) => .ok zs
  | (zs, .rt (.sc .non) _) => .ok zs
  | ([], .exc x _) => .exc x
  | _ => .stk
def gnM (np nl : Nat) (fb : PEnv → YR) : List PV → YT := fun os => if os.length = np ∧ os.all PV.fz = true then endY (fb (os.map some ++ List.replicate nl none)) else .stk
end RG
end
section
set_option maxHeartbeats 1000000
namespace RG
open PySem PySem.Spec PyProof.Rows L2 RL GenW
/-- what a generator's call hands out (no exception) -/
def yK (m : List PV → YT) : List PV → Option (List PV) := fun os => match m os with
  | .ok zs => some zs
  | _ => none
abbrev itY (m : List PV → YT) (fa : PEnv → GR (List PV)) : PEnv → GR (List PV) := iterA fa (yK m)
end RG
end
section
set_option maxHeartbeats 1000000
namespace RG
open PySem PySem.Spec PyProof.Rows L2 RL GenW
end RG
end
section
set_option maxHeartbeats 2000000
namespace RG
open PySem PySem.Spec PyProof.Rows L2 RL GenW
end RG
end
section
set_option maxHeartbeats 2000000
namespace RL
open PySem PySem.Spec PyProof.Rows L2
section
variable {X : Cx} {J : Jx} {W : WX} {e : Expr} {es : List Expr} {p pos : Pos} {C : Addr} {fld : Str} {mm : List PV → FR} {k kI j : Nat}
def starOG (C : Addr) (fld : Str) (mm : List PV → FR) (f : PEnv → GR PV) (g : PEnv → GR (List PV)) : PEnv → GR (List PV) := fun ρ => (f ρ).bind fun p ρ1 => match lsOwn C fld mm [p] with
  | some (.lst true ps) => if ps.all PV.fz = true then (g ρ1).bind fun qs ρ2 => .ok (ps ++ qs) ρ2 else .stk
  | _ => .stk
end
end RL
end
section
set_option maxHeartbeats 2000000
namespace RL
open PySem PySem.Spec PyProof.Rows L2
end RL
end
section
set_option maxHeartbeats 2000000
namespace RL
open PySem PySem.Spec PyProof.Rows L2
/-- keyword-only parameters in order: none = the next that is written, some v = the default v -/
def kV : List (Option V) → List V → List V
  | [], _ => []
  | some v :: r, zs => v :: kV r zs
  | none :: r, z :: zs => z :: kV r zs
  | none :: _, [] => []
end RL
end
namespace RL
noncomputable section
open PySem PySem.Spec PyProof.Rows L2
mutual
/-- no frozen object, nor frozen dict, is in it -/
def PV.noW : PV → Bool
  | .sc _ => true
  | .tup xs => PV.noWs xs
  | .lst o xs => o && PV.noWs xs
  | .lsk _ _ => false
  | .dct o _ vs => o && PV.noWs vs
  | .dtt o _ vs => o && PV.noWs vs
  | .dtb o _ vs => o && PV.noWs vs
  | .obj o _ _ vs => o && PV.noWs vs
  | .tpk vs => PV.noWs vs
  | .exo _ _ _ => false
  | .tab _ _ => false
def PV.noWs : List PV → Bool
  | [] => true
  | x :: xs => x.noW && PV.noWs xs
end
/-- the fields: frozen, or own dicts of frozen things -/
def fldW : List PV → Bool
  | [] => true
  | .lst true us :: vs => us.all PV.fz && fldW vs
  | .dct true _ us :: vs => us.all PV.fz && fldW vs
  | .dtt true _ us :: vs => us.all PV.fz && fldW vs
  | .dtb true _ us :: vs => us.all PV.fz && fldW vs
  | v :: vs => v.fz && fldW vs
open Classical in
/-- the slots behind: as they were and frozen, or without frozen objects and dicts; the others are forgotten -/
def clW : PEnv → PEnv → PEnv
  | _, [] => []
  | ρ, some p :: ρ' => (if p.noW = true ∨ (ρ.head? = some (some p) ∧ p.fz = true) then some p else none) :: clW ρ.tail ρ'
  | ρ, none :: ρ' => none :: clW ρ.tail ρ'
section
variable {K : Fg} {J : Jx} {W : WX} {P : List Nat} {σ : Sg} {H : Hp} {Q : VK} {F : Hp} {fp : List Addr} {D : Ends}
open Classical in
def lendWR (i : Nat) (ρ : PEnv) (own : PV) : GR PV → GR PV
  | .ok p ρ' => if p.noW = true ∧ i < ρ'.length then .ok p ((clW (ρ.set i none) (ρ'.set i none)).set i (some own)) else .stk
  | _ => .stk
def lendW (i : Nat) (f : PEnv → GR PV) : PEnv → GR PV := fun ρ => match ρ[i]? with
  | some (some (.obj true C ns vs)) => if fldW vs = true then lendWR i ρ (.obj true C ns vs) (f (ρ.set i (some (.obj false C ns (PV.frzL vs))))) else .stk
  | some (some p) => if p.fz = true then f ρ else .stk
  | _ => .stk
end
end
end RL
section
set_option maxHeartbeats 2000000
namespace RL
open PySem PySem.Spec PyProof.Rows L2
end RL
end
section
set_option maxHeartbeats 2000000
namespace RL
open PySem PySem.Spec PyProof.Rows L2
end RL
end
section
set_option maxHeartbeats 2000000
namespace RL
open PySem PySem.Spec PyProof.Rows L2
open PySem.SeqAt (pairEq EqAt eqAt_readsAll room_in room_here)
mutual
/-- order of data, where each place has one or is equal -/
def ltv : PyData → PyData → Option Bool
  | .int a, .int b => some (decide (a < b))
  | .tuple xs, .tuple ys => ltvL xs ys
  | _, _ => none
def ltvL : List PyData → List PyData → Option Bool
  | [], [] => some false
  | [], _ :: _ => some true
  | _ :: _, [] => some false
  | x :: xs, y :: ys => match ltvL xs ys with
    | none => none
    | some r => if PyData.eqv x y = true then some r else ltv x y
end
section
variable {K : Fg}
def ltU : PV → PV → Option Bool := fun p q => if okD dN p = true ∧ okD dN q = true then ltv (toD dN p) (toD dN q) else none
end
end RL
end
section
set_option maxHeartbeats 2000000
namespace RL
open PySem PySem.Spec PyProof.Rows L2
end RL
end
section
set_option maxHeartbeats 2000000
namespace RL
open PySem PySem.Spec PyProof.Rows L2
end RL
end
section
set_option maxHeartbeats 2000000
namespace RL
open PySem PySem.Spec PyProof.Rows L2
end RL
end
section
set_option maxHeartbeats 2000000
namespace RL
open PySem PySem.Spec PyProof.Rows L2
end RL
end
section
set_option maxHeartbeats 2000000
namespace L2
open PySem PySem.Spec PySem.Calls PyProof.Rows
end L2
namespace RL
open PySem PySem.Spec PyProof.Rows L2
end RL
end
section
set_option maxHeartbeats 2000000
namespace L2
open PySem PySem.Spec PyProof.Rows
end L2
namespace RL
open PySem PySem.Spec PyProof.Rows L2
end RL
namespace RL
open PySem PySem.Spec PyProof.Rows L2
end RL
namespace RL
open PySem PySem.Spec PyProof.Rows L2
end RL
namespace L2
open PySem PySem.Spec PyProof.Rows
end L2
namespace RL
open PySem PySem.Spec PyProof.Rows L2
end RL
end
section
set_option maxHeartbeats 2000000
namespace RL
noncomputable section
open PySem PySem.Spec PyProof.Rows L2
mutual
/-- no frozen list is in it -/
def PV.noL : PV → Bool
  | .sc _ => true
  | .tup xs => PV.noLs xs
  | .lst o xs => o && PV.noLs xs
  | .lsk _ _ => false
  | .dct _ _ vs => PV.noLs vs
  | .dtt _ _ vs => PV.noLs vs
  | .dtb _ _ vs => PV.noLs vs
  | .obj _ _ _ vs => PV.noLs vs
  | .tpk vs => PV.noLs vs
  | .exo _ _ _ => false
  | .tab _ _ => false
def PV.noLs : List PV → Bool
  | [] => true
  | x :: xs => x.noL && PV.noLs xs
end
open Classical in
/-- the slots behind: as they were and frozen, or without frozen objects and dicts; the others are forgotten -/
def clN : PEnv → PEnv → PEnv
  | _, [] => []
  | ρ, some p :: ρ' => (if p.noL = true ∨ (ρ.head? = some (some p) ∧ p.fz = true) then some p else none) :: clN ρ.tail ρ'
  | ρ, none :: ρ' => none :: clN ρ.tail ρ'
end
end RL
namespace RL
open PySem PySem.Spec PyProof.Rows L2
end RL
end
namespace L2
open PySem PySem.Spec PyProof.Rows
end L2
namespace RL
open PySem PySem.Spec PyProof.Rows L2
end RL
section
set_option maxHeartbeats 2000000
namespace RL
open PySem PySem.Spec PyProof.Rows L2
end RL
end
section
set_option maxHeartbeats 2000000
namespace RL
open PySem PySem.Spec PyProof.Rows L2
end RL
end
section
set_option maxHeartbeats 2000000
namespace L2
open PySem PySem.Spec PyProof.Rows
end L2
namespace RL
open PySem PySem.Spec PyProof.Rows L2
end RL
end
section
set_option maxHeartbeats 2000000
namespace RL
open PySem PySem.Spec PyProof.Rows L2
end RL
end
section
set_option maxHeartbeats 2000000
namespace RL
open PySem PySem.Spec PyProof.Rows L2
end RL
end
section
set_option maxHeartbeats 2000000
namespace RL
open PySem PySem.Spec PyProof.Rows L2
end RL
end
section
set_option maxHeartbeats 2000000
namespace RL
open PySem PySem.Spec PyProof.Rows L2
end RL
end
section
set_option maxHeartbeats 2000000
namespace RL
open PySem PySem.Spec PyProof.Rows L2
end RL
end
section
set_option maxHeartbeats 2000000
namespace RL
open PySem PySem.Spec PyProof.Rows L2
end RL
end
section
set_option maxHeartbeats 2000000
namespace RL
open PySem PySem.Spec PyProof.Rows L2
end RL
end
section
set_option maxHeartbeats 2000000
namespace PySem.W
open Lean Elab Tactic Meta PySem PySem.Calls PyProof.Rows
end PySem.W
namespace RL
open PySem PySem.Spec PyProof.Rows L2
end RL
end
section
set_option maxHeartbeats 2000000
namespace RL
open PySem PySem.Spec PyProof.Rows L2
section
variable {X : Cx}
theorem exv_ok {P : Program} {w : World} {H : Hp} {h : Heap} {a C : Addr} {d : Option Addr} {oe : Obj} {vs : Array Value} (e : h.get? a = some oe) (z : Zc (.ref C) d oe) (dt : oe.data = .fields vs) : ObjOk P w H h a (ExV C a d) :=
  ⟨⟨oe, vs, e, z, dt⟩, ⟨oe, e⟩, fun _ _ ⟨o, v, q, r⟩ k => ⟨o, v, k o q, r⟩⟩
/-- what makes an exception gives a new exception object -/
theorem pe_mk {e : Expr} {t : L2.St → Hp → XK → Prop} (hm : PMk X e t) : PE X e (fun σ H Q => t σ H fun cls d H' => ∃ C, cls = .ref C ∧ ∀ a, H' a = none → Q (.ref a) (upd H' a (ExV C a d))) := by
  refine ⟨fun pins s σ H Q I h => wpAny_mono (hm pins s σ H _ I h) (fun u s1 hu => ?_) fun _ _ x => x⟩
  obtain ⟨a, oe, vs, sI, H', cls, d, rfl, I', kp, na, ga, hz, hd, h1, hn, os, ag, hr, C, rfl, q⟩ := hu;have J := Inv.laidN (t' := s1.toks) I' kp na hn (exv_ok (H := upd H' a (ExV C a d)) ga hz hd)
  exact ⟨.ref a, upd H' a (ExV C a d), ⟨J.ok, os.trans J.os, ag, J.base, J.loc, J.cell, J.free, J.freeC, J.pin, J.hok, J.len⟩, rfl, q a hn⟩
end
def exnG (C : Addr) (fld : Str) (f : PEnv → GR PV) : PEnv → GR PV := fun ρ => match f ρ with
  | .ok p ρ' => .ok (.exo C [fld] [p]) ρ'
  | .exc x ρ' => .exc x ρ'
  | .stk => .stk
section
variable {X : Cx} {J : Jx} {W : WX} {k j : Nat} {e : Expr} {p pos : Pos} {C : Addr} {x fld : Str}
theorem ge_exn {f : PEnv → GR PV} (G : XCal X k x C fld) (hr : Room j X.A) (hk : k + 1 ≤ j) (hg : Gl X x) (h : GZ X J W e f)
    (hdb : (x == ("__debug__" : Str)) = false := by decide) (he : starEach [e] X.env = (false, eval e X.env) :: starEach [] X.env := by rfl) (hpl : (backTo pos (starEach [] X.env)).any (·.1) = false := by rfl) :
    GE X J W (.Call (.Name x p) [e] [] pos) (exnG C fld f) := by
  obtain ⟨fI, fd, ps, F, T, iC, tI, hb, hm⟩ := G.ex;refine pe_imp (pe_mk (pmk_oex T iC tI F (hr.mono hk) hb .nil (fun _ _ _ _ _ _ _ z => (cx_no z).elim) hg hm (ga_cons h ga_nil he) hdb he hpl)) fun σ H Q hq => ?_
  obtain ⟨F0, ρ, fp, s, hq⟩ := hq;refine ⟨F0, ρ, fp, s, ?_⟩;unfold exnG at hq;unfold consG nilG;cases ef : f ρ with
  | stk => rw [ef] at hq; exact hq.elim
  | exc y ρ' => rw [ef] at hq; exact hq
  | ok q ρ' =>
    rw [ef] at hq;intro vs F1 H1 fp1 a1 s1 o1
    obtain ⟨v, rfl, w⟩ := o1.one;refine ⟨by simp, fun a ha => ⟨a, v, rfl, upd_same, fun dx hd ne => ?_⟩⟩
    have hd1 : H1 dx = none := by rw [upd_ne ne] at hd; exact hd
    refine ⟨rfl, dx, _, upd_same, by rw [upd_ne ne, upd_same], hd1, ?_⟩
    have eH : upd (del (upd (upd (upd H1 a (exo a C none)) dx (exd dx [(fld, v)])) a (exo a C (some dx))) a) dx (.xd [(fld, v)]) = upd H1 dx (.xd [(fld, v)]) := by
      funext b
      by_cases h1 : b = dx
      · rw [h1, upd_same, upd_same]
      · rw [upd_ne h1, upd_ne h1];by_cases h2 : b = a
        · rw [h2, del_same, ha]
        · rw [del_ne h2, upd_ne h2, upd_ne h1, upd_ne h2]
    rw [eH];refine ⟨C, rfl, fun a' ha' => ?_⟩
    have pu := pur_new (o := .xd [(fld, v)]) s1.le hd1;have pu2 := pur_new (o := ExV C a' (some dx)) pu.le ha'
    have ne' : dx ≠ a' := fun z => by rw [← z, upd_same] at ha'; cases ha'
    have pp := pu.trans pu2;refine hq (.ref a') _ _ fp1 [] (by rw [List.append_nil]; exact a1.trans (pp.aft s1)) (s1.pur pp) (.exo (vs := [v]) ⟨some dx, upd_same, .inr ⟨dx, rfl, by rw [upd_ne ne', upd_same]; rfl⟩⟩ rfl (.cons (l := []) (ls := []) (w.any pp.leF) .nil))
theorem fe_exn0 (T : XC0 X.K C) (gC : X.mg x = some (.ref C)) (hg : Gl X x) (hdb : (x == ("__debug__" : Str)) = false := by decide) : FE X J W (.Call (.Name x p) [] [] pos) (fun _ => .ok (.exo C [] [])) := by
  refine pe_imp (pe_mk (pmk_own0 PySem.F.excBase_ValueError T.xF gC T.kF (raises_own T.bF T.tF) hg hdb)) fun σ H Q hq => ?_
  obtain ⟨F0, ρ, fp, s, hq⟩ := hq;refine ⟨C, rfl, fun a' ha' => ?_⟩
  have pu := pur_new (o := ExV C a' none) s.le ha';exact hq (.ref a') _ _ [] pu (.exo (vs := []) ⟨none, upd_same, .inl ⟨rfl, rfl⟩⟩ rfl .nil) .nil
end
def exfP (Cs : List Addr) (f : Str) : PV → Option PV
  | .exo C ns vs => if C ∈ Cs then lookN f ns vs else none
  | _ => none
def tXv (K : Fg) (n : Str) (te : TE) : TE := fun σ H Q => te σ H fun x H1 => ∃ a C dd fs v, x = .ref a ∧ H1 a = some (ExV C a (some dd)) ∧ XfC K C ∧ PySem.W.findIn K (.ref C) n = some none ∧ H1 dd = some (.xd fs) ∧ fs.lookup n = some v ∧ Q v H1
section
variable {X : Cx} {J : Jx} {W : WX}
theorem pe_xfv {e : Expr} {te : TE} {pos : Pos} {n : Str} (he : PE X e te) (hb : attributeBase e n X.env (eval e X.env) = eval e X.env := by rfl) : PE X (.Attribute e n pos) (tXv X.K n te) := by
  refine ⟨fun pins s σ H Q I h => ?_⟩
  refine attr_of hb (thn (he.run pins s σ H _ I h) fun u s1 hh => ?_)
  obtain ⟨x, H1, I1, rx, a, C, dd, fs, v, ex, ha, T, hno, ea, l, q⟩ := hh;subst ex;obtain rfl : u = Value.ref a := rx;obtain ⟨⟨oe, vs, hget, hz, hd⟩, _, _⟩ := I1.hok a _ ha
  have hx : ObjOk X.prog X.w H1 s1.heap dd (.xd fs) := I1.hok dd _ ea
  obtain ⟨mA, hns, hr⟩ := hx;obtain ⟨od, ho, hl⟩ := lookIn_ns hns;obtain ⟨u, hu, ru⟩ := RelO.some_of (v := v) (o := mA n) (by rw [← l]; exact hr n)
  have J : PySem.W.InstAt s1.heap a oe C (some od) := ⟨hget, hz.1, by unfold PySem.W.notCls; rw [hd] <;> rfl, by rw [hz.2]; exact ho⟩
  exact HandSPX.exc_get I1.kIn J T.ga T.gg T.exC (PySem.W.findObj_own T.hdC hno rfl (by rw [hl, hu])) (handed_of ru) ⟨v, H1, I1.tok _, ru, q⟩
theorem tv_xfv {K : Fg} {σ : Sg} {H : Hp} {Q : VK} {Cs : List Addr} {n : Str} {fe : PEnv → ER PV} (hC : ∀ C ∈ Cs, XfX K C ∧ PySem.W.findIn K (.ref C) n = some none) : TV K J W (bind1 fe (exfP Cs n)) σ H Q → tXv K n (TV K J W fe) σ H Q := by
  rintro ⟨F, ρ, fp, s, h⟩;refine ⟨F, ρ, fp, s, ?_⟩
  unfold bind1 at h;cases ea : fe ρ with
  | stk => simp only [ea, ER.bind] at h
  | exc x => simp only [ea, ER.bind] at h; exact h
  | ok p =>
    simp only [ea, ER.bind] at h;intro v F' H' l pu ow hl
    cases e : exfP Cs n p with
    | none => simp only [e, ER.of] at h
    | some q =>
      simp only [e, ER.of] at h;unfold exfP at e
      split at e
      · rename_i C ns vs
        split at e
        · rename_i hD
          cases ow with
          | exo hx hl2 t =>
            obtain ⟨d, h1, h2⟩ := hx;rcases h2 with ⟨_, rfl⟩ | ⟨dd, rfl, h3⟩
            · cases e
            · obtain ⟨v', l2, e1, w, s2⟩ := t.look hl2 e;exact ⟨_, C, dd, _, v', rfl, pu.le _ _ h1, (hC C hD).1.xf, (hC C hD).2, pu.le _ _ h3, e1, h v' F' H' l2 pu w fun x hx => hl x (s2 x hx)⟩
        · cases e
      · cases e
theorem ve_xfv {e : Expr} {pos : Pos} {n : Str} {Cs : List Addr} {fe : PEnv → ER PV} (hC : ∀ C ∈ Cs, XfX X.K C ∧ PySem.W.findIn X.K (.ref C) n = some none) (h : VE X J W e fe) (hb : attributeBase e n X.env (eval e X.env) = eval e X.env := by rfl) : VE X J W (.Attribute e n pos) (bind1 fe (exfP Cs n)) :=
  pe_imp (pe_xfv h hb) fun _ _ _ => tv_xfv hC
end
def isvA (K : Fg) (Cs : List Addr) : List PV → Option PV := fun ps => match ps with
  | [.exo C _ _, .sc c] => if C ∈ Cs then (match clsV c with
    | some u => (PySem.W.kitOne K (.ref C) u).map PV.bl
    | none => none) else none
  | _ => none
def rIsV (K : Fg) : List V → Hp → VK → Prop := fun xs H Q => ∃ (a D : Addr) (d : Option Addr) (c : V) (cv : Value) (b : Bool), xs = [.ref a, c] ∧ ClsV c cv ∧ H a = some (ExV D a d) ∧ XfX K D ∧ PySem.W.kitOne K (.ref D) cv = some b ∧
  (d = none ∨ ∃ dd fs, d = some dd ∧ H dd = some (.xd fs)) ∧ Q (.bl b) H
section
variable {X : Cx} {J : Jx} {W : WX}
theorem call_isV : CallR X (.builtin "isinstance") (rIsV X.K) := by
  intro pins s σ H xs us Q I r h;obtain ⟨a, D, d, c, cv, b, rfl, hcv, hA, T, e, hd, q⟩ := h
  cases r with
  | cons rx rr =>
    cases rr with
    | cons rt rr =>
      cases rr;cases rx
      have ec := hcv.eq rt;subst ec;obtain ⟨⟨oe, vs, hget, hz, hv⟩, _, _⟩ := I.hok a _ hA;have od : ∃ od, PySem.W.InstAt s.heap a oe D od := by
        obtain ⟨h1, h2⟩ := hz;rcases hd with hd | ⟨dd, fs, hd, hH⟩
        · exact ⟨none, hget, h1, by unfold PySem.W.notCls; rw [hv], by rw [h2, hd]; trivial⟩
        · obtain ⟨mA, hns, _⟩ := (show ObjOk X.prog X.w H s.heap dd (.xd fs) from I.hok dd _ hH)
          obtain ⟨od, ho, _⟩ := lookIn_ns hns;exact ⟨some od, hget, h1, by unfold PySem.W.notCls; rw [hv], by rw [h2, hd]; exact ho⟩
      obtain ⟨od, J⟩ := od;have hcl : (PySem.W.clsIn X.K D).isSome = true := by
        obtain ⟨cd, hc, _⟩ := PySem.W.any_some T.xf.hdC;rw [hc]; rfl
      exact PySem.W.kia_one (PySem.W.kitx_exc hcl T.xf.ga T.xf.gg T.xf.exC T.ha T.hn T.ht T.hm) I.kIn J e (fun z => nomatch z) fun tk => ⟨.bl b, H, I.kept (t' := tk) fun _ _ z => z, rfl, q⟩
theorem tv_isv {K : Fg} {σ : Sg} {H : Hp} {Q : VK} {Cs : List Addr} {fa : PEnv → ER (List PV)} (hC : ∀ C ∈ Cs, XfX K C) : TF K J W (bindA fa (isvA K Cs)) σ H Q → tCB (rIsV K) (TVA K J W fa) σ H Q := by
  rintro ⟨F, ρ, fp, s, h⟩;refine ⟨F, ρ, fp, s, ?_⟩
  unfold bindA at h;cases ea : fa ρ with
  | stk => simp only [ea, ER.bind] at h
  | exc x => simp only [ea, ER.bind] at h; exact h
  | ok p =>
    simp only [ea, ER.bind] at h;intro xs F1 H1 l1 p1 o1 i1
    cases e : isvA K Cs p with
    | none => simp only [e, ER.of] at h
    | some o =>
      simp only [e, ER.of] at h;unfold isvA at e
      split at e
      · rename_i C ns qs c
        split at e
        · rename_i hD
          split at e
          · rename_i u eu
            cases ek : PySem.W.kitOne K (.ref C) u with
            | none => rw [ek] at e; cases e
            | some bb =>
              rw [ek] at e;cases e
              cases o1 with
              | cons oh ot =>
                cases oh with
                | exo hx hl t =>
                  obtain ⟨d, h1, h2⟩ := hx;cases ot with
                  | cons oc on =>
                    obtain ⟨rfl, _⟩ := on.nilE;cases oc;refine ⟨_, C, d, c, u, bb, rfl, clsV_ok eu, p1.le _ _ h1, hC _ hD, ek, ?_, h _ F1 H1 [] p1 (.sc _) .nil⟩
                    rcases h2 with ⟨h3, _⟩ | ⟨dd, ed, hF⟩
                    · exact .inl h3
                    · exact .inr ⟨dd, _, ed, p1.le _ _ hF⟩
          · cases e
        · cases e
      · cases e
theorem fe_isv {e : Expr} {es : List Expr} {p pos : Pos} {Cs : List Addr} {f : PEnv → ER (List PV)} (hC : ∀ C ∈ Cs, XfX X.K C) (gl : Gl X "isinstance") (hm : X.mg "isinstance" = none) (hv : bootBuiltins "isinstance" = some (.builtin "isinstance"))
    (ha : VA X J W (e :: es) f) (he : starEach (e :: es) X.env = (false, eval e X.env) :: starEach es X.env := by rfl) (hpl : (backTo pos (starEach es X.env)).any (·.1) = false := by rfl) :
    FE X J W (.Call (.Name "isinstance" p) (e :: es) [] pos) (bindA f (isvA X.K Cs)) :=
  pe_imp (pe_callB call_isV gl hm hv ha (by decide) (by decide) he hpl) fun _ _ _ => tv_isv hC
end
end RL
end
section
set_option maxHeartbeats 2000000
namespace RL
open PySem PySem.Spec PyProof.Rows L2
end RL
end
section
set_option maxHeartbeats 2000000
namespace RL
open PySem PySem.Spec PyProof.Rows L2
end RL
namespace RL
open PySem PySem.Spec PyProof.Rows L2
end RL
end
namespace RL
open PySem PySem.Spec PyProof.Rows L2
end RL
namespace K86
open PySem PySem.Spec PyProof.Rows L2 RL
def dLaw : He.DefD := (⟨("law", none), "law", "law", defArgs (top 37), defBody (top 37), defScope (top 37), [], []⟩ : He.DefD)
end K86
namespace TL
open PySem PySem.Spec PyProof.Rows L2 RL
structure TX where
  c : Str
  ns : List Str
  vs : List PV
def TX.e (K : Fg) (x : TX) : Exc := ⟨He.ga K x.c, x.ns, x.vs⟩
/-- a statement's end: going on with S, an answer A (and the kept places M), an error, out of or on with a loop -/
inductive TS (L M A X S : Type) where
  | nx (s : S)
  | rt (m : M) (a : A)
  | ex (x : X) (e : TX)
  | bk (l : L)
  | ct (l : L)
  | stk
inductive FT (M X A : Type) where
  | ok (m : M) (a : A)
  | ex (x : X) (e : TX)
  | stk
section
variable {L L' M M' A A' X X' S T G β γ α : Type}
def TS.bind (t : TS L M A X S) (k : S → TS L M A X T) : TS L M A X T := match t with
  | .nx s => k s
  | .rt m a => .rt m a
  | .ex x e => .ex x e
  | .bk l => .bk l
  | .ct l => .ct l
  | .stk => .stk
def oB (o : Option α) (k : α → TS L M A X S) : TS L M A X S := match o with
  | some a => k a
  | none => .stk
def callT (r : FT M X A) (kx : X → X') (k : M → A → TS L M' A' X' S) : TS L M' A' X' S := match r with
  | .ok m a => k m a
  | .ex x e => .ex (kx x) e
  | .stk => .stk
/-- a part that answers -/
def blkT (t : TS Empty G A X Empty) (k : G → A → TS L M A' X S) : TS L M A' X S := match t with
  | .rt g a => k g a
  | .ex x e => .ex x e
  | _ => .stk
def forT (xs : List β) (s : L) (f : β → L → TS L M A X L) : TS L' M A X L := match xs with
  | [] => .nx s
  | x :: xs => match f x s with
    | .nx s => forT xs s f
    | .ct s => forT xs s f
    | .bk s => .nx s
    | .rt m a => .rt m a
    | .ex x e => .ex x e
    | .stk => .stk
def whT (c : L → Option Bool) (f : L → TS L M A X L) : Nat → L → TS L' M A X L
  | 0, _ => .stk
  | n + 1, s => match c s with
    | none => .stk
    | some false => .nx s
    | some true => match f s with
      | .nx s => whT c f n s
      | .ct s => whT c f n s
      | .bk s => .nx s
      | .rt m a => .rt m a
      | .ex x e => .ex x e
      | .stk => .stk
def FUEL : Nat := 1000000000000
def compL' (f : β → G → TS Empty G (Option γ) X Empty) : List β → G → List γ → TS Empty G (List γ) X Empty
  | [], g, acc => .rt g acc
  | x :: xs, g, acc => match f x g with
    | .rt g (some y) => if acc.length < 100000 then compL' f xs g (acc ++ [y]) else .stk
    | .rt g none => compL' f xs g acc
    | _ => .stk
def compT (xs : List β) (g : G) (f : β → G → TS Empty G (Option γ) X Empty) (k : G → List γ → TS L M A X S) : TS L M A X S := match compL' f xs g [] with
  | .rt g a => k g a
  | _ => .stk
def runN (t : TS Empty M A X M) (d : A) : FT M X A := match t with
  | .nx m => .ok m d
  | .rt m a => .ok m a
  | .ex x e => .ex x e
  | _ => .stk
def runE (t : TS Empty M A X Empty) : FT M X A := match t with
  | .rt m a => .ok m a
  | .ex x e => .ex x e
  | _ => .stk
def FT.val : FT M X A → Option A
  | .ok _ a => some a
  | _ => none
structure EC (L M A X : Type) where
  K : PySem.W.Frag
  lo : L → PEnv → Prop
  rt : M → A → PV → PEnv → Prop
  ex : X → PEnv → Prop
def Sim (c : EC L M A X) (E : S → PEnv → Prop) (r : SR) (t : TS L M A X S) : Prop := match t with
  | .nx s => ∃ ρ, r = .nx ρ ∧ E s ρ
  | .rt m a => ∃ p ρ, r = .rt p ρ ∧ c.rt m a p ρ
  | .ex x e => ∃ ρ, r = .exc (e.e c.K) ρ ∧ c.ex x ρ
  | .bk l => ∃ ρ, r = .bk ρ ∧ c.lo l ρ
  | .ct l => ∃ ρ, r = .ct ρ ∧ c.lo l ρ
  | .stk => True
def SimF (K : Fg) (r : FR) (t : FT M X A) (ev : A → PV) (eo : M → List PV) (ex : X → List PV → Prop) : Prop := match t with
  | .ok m a => r = .ok (ev a) (eo m)
  | .ex x e => ∃ os, r = .exc (e.e K) os ∧ ex x os
  | .stk => True
variable {c : EC L M A X} {E : S → PEnv → Prop} {ρ ρ' ρ1 : PEnv} {t : TS L M A X S} {r : SR} {b : PEnv → SR} {k : PV → PEnv → SR} {i : Nat}
abbrev NoE : S → PEnv → Prop := fun _ _ => False
theorem s_oB {o : Option α} {k : α → TS L M A X S} (h : ∀ a, o = some a → Sim c E r (k a)) : Sim c E r (oB o k) := by
  cases o with
  | none => trivial
  | some a => exact h a rfl
theorem s_bind {E' : T → PEnv → Prop} {t : TS L M A X S} {k : S → TS L M A X T} (h : Sim c E r t) (hk : ∀ s ρ, E s ρ → Sim c E' (b ρ) (k s)) : Sim c E' (r.then b) (t.bind k) := by
  cases t with
  | nx s => obtain ⟨ρ, rfl, h⟩ := h; exact hk s ρ h
  | rt m a => obtain ⟨p, ρ, rfl, h⟩ := h; exact ⟨p, ρ, rfl, h⟩
  | ex x e => obtain ⟨ρ, rfl, h⟩ := h; exact ⟨ρ, rfl, h⟩
  | bk l => obtain ⟨ρ, rfl, h⟩ := h; exact ⟨ρ, rfl, h⟩
  | ct l => obtain ⟨ρ, rfl, h⟩ := h; exact ⟨ρ, rfl, h⟩
  | stk => trivial
/-- a part that does not go on -/
theorem s_dead {t : TS L M A X S} (h : Sim c NoE r t) : Sim c E (r.then b) t := by
  cases t with
  | nx s => obtain ⟨ρ, rfl, h⟩ := h; exact h.elim
  | rt m a => obtain ⟨p, ρ, rfl, h⟩ := h; exact ⟨p, ρ, rfl, h⟩
  | ex x e => obtain ⟨ρ, rfl, h⟩ := h; exact ⟨ρ, rfl, h⟩
  | bk l => obtain ⟨ρ, rfl, h⟩ := h; exact ⟨ρ, rfl, h⟩
  | ct l => obtain ⟨ρ, rfl, h⟩ := h; exact ⟨ρ, rfl, h⟩
  | stk => trivial
theorem then_nx' (r : SR) : r.then SR.nx = r := by cases r <;> rfl
theorem st_then {α : Type} (r : GR α) (f : α → PEnv → SR) (g : PEnv → SR) : (r.st f).then g = r.st fun v ρ => (f v ρ).then g := by cases r <;> rfl
theorem bind_st {α β : Type} (r : GR α) (f : α → PEnv → GR β) (g : β → PEnv → SR) : (r.bind f).st g = r.st fun v ρ => (f v ρ).st g := by cases r <;> rfl
theorem s_last {t : TS L M A X S} (h : Sim c E (r.then SR.nx) t) : Sim c E r t := by rwa [then_nx'] at h
theorem s_end {s : S} (h : E s ρ) : Sim c E (.nx ρ) (.nx s) := ⟨ρ, rfl, h⟩
theorem s_seq {f g : PEnv → SR} (h : Sim c E ((f ρ).then g) t) : Sim c E (seqS f g ρ) t := h
theorem s_skip (h : Sim c E (b ρ) t) : Sim c E ((skipS ρ).then b) t := h
def kSet (i : Nat) (b : PEnv → SR) (v : PV) (ρ : PEnv) : SR := b (ρ.set i (some v))
def kRt (b : PEnv → SR) (p : PV) (ρ : PEnv) : SR := (SR.rt p ρ).then b
def kFrz (k : PV → PEnv → SR) (p : PV) (ρ : PEnv) : SR := k p.frz ρ
def kSix (i : Nat) (fk : PEnv → GR PV) (b : PEnv → SR) (q : PV) (ρ : PEnv) : SR := (sixK i fk q ρ).then b
def kAsg (g : PV → PEnv → Option PEnv) (b : PEnv → SR) (p : PV) (ρ : PEnv) : SR := (asgK g p ρ).then b
def kIf (s1 s2 : PEnv → SR) (b : PEnv → SR) (v : Bool) (ρ : PEnv) : SR := (iteS s1 s2 v ρ).then b
def kFor (g : PV → PEnv → Option PEnv) (s b : PEnv → SR) (ps : List PV) (ρ : PEnv) : SR := (forK g s ps ρ).then b
def kOpL (op : List PV → Option PV) (k : PV → PEnv → SR) (p : List PV) (ρ : PEnv) : SR := ((ER.of (op p)).at ρ).st k
def kItA (op : List PV → Option (List PV)) (k : List PV → PEnv → SR) (p : List PV) (ρ : PEnv) : SR := ((ER.of (op p)).at ρ).st k
def k2a (fb : PEnv → GR PV) (k : PV → PV → PEnv → SR) (p : PV) (ρ : PEnv) : SR := (fb ρ).st (k p)
def kOp2 (op : PV → PV → Option PV) (k : PV → PEnv → SR) (p q : PV) (ρ : PEnv) : SR := ((ER.of (op p q)).at ρ).st k
def kOp2s (op : PV → PV → Option V) (k : PV → PEnv → SR) (p q : PV) (ρ : PEnv) : SR := ((ER.of ((op p q).map PV.sc)).at ρ).st k
def kOp2b (op : PV → PV → Option Bool) (k : Bool → PEnv → SR) (p q : PV) (ρ : PEnv) : SR := ((ER.of (op p q)).at ρ).st k
def kConsA (g : PEnv → GR (List PV)) (k : List PV → PEnv → SR) (p : PV) (ρ : PEnv) : SR := (g ρ).st fun ps ρ => k (p :: ps) ρ
def kConsB (p : PV) (k : List PV → PEnv → SR) (ps : List PV) (ρ : PEnv) : SR := k (p :: ps) ρ
def kVlA (g : PEnv → GR (List Ag)) (k : List Ag → PEnv → SR) (p : PV) (ρ : PEnv) : SR := (g ρ).st fun ps ρ => k (.vl p :: ps) ρ
def kVlB (p : Ag) (k : List Ag → PEnv → SR) (ps : List Ag) (ρ : PEnv) : SR := k (p :: ps) ρ
def kCall (m : List PV → FR) (k : PV → PEnv → SR) (as : List Ag) (ρ : PEnv) : SR := (callK m as ρ).st k
theorem s_set {g : PEnv → GR PV} (h : Sim c E ((g ρ).st (kSet i b)) t) : Sim c E ((setG i g ρ).then b) t := by
  rw [setG_e, st_then]; exact h
theorem k_set {p : PV} (e : ρ.set i (some p) = ρ') (h : Sim c E (b ρ') t) : Sim c E (kSet i b p ρ) t := by unfold kSet; rw [e]; exact h
theorem s_ret {g : PEnv → GR PV} (h : Sim c E ((g ρ).st (kRt b)) t) : Sim c E ((retG g ρ).then b) t := by
  rw [retG_e, st_then]; exact h
theorem k_rt {m : M} {a : A} {p : PV} (h : c.rt m a p ρ) : Sim c E (kRt b p ρ) (.rt m a) := ⟨p, ρ, rfl, h⟩
theorem s_six {fk g : PEnv → GR PV} (h : Sim c E ((g ρ).st (kSix i fk b)) t) : Sim c E ((setIxG i fk g ρ).then b) t := by
  rw [setIxG_e, st_then]; exact h
/-- the place is told by a part without effect -/
theorem k_six {fk : PEnv → GR PV} {ps : List PV} {z : Int} {j : Nat} {q : PV} (e0 : ρ[i]? = some (some (.lst true ps))) (e1 : fk ρ = .ok (.int z) ρ) (e2 : ixN ps.length z = some j) (e3 : ρ.set i (some (.lst true (ps.set j q))) = ρ') (h : Sim c E (b ρ') t) : Sim c E (kSix i fk b q ρ) t := by
  unfold kSix;rw [sixK_e ρ q e0 e1 e0 e2, then_nx, e3]
  exact h
theorem s_asg {g : PV → PEnv → Option PEnv} {f : PEnv → GR PV} (h : Sim c E ((f ρ).st (kAsg g b)) t) : Sim c E ((asgG g f ρ).then b) t := by
  have e : asgG g f ρ = (f ρ).st (asgK g) := by unfold asgG asgK GR.st; cases f ρ <;> rfl
  rw [e, st_then]; exact h
theorem k_asg {g : PV → PEnv → Option PEnv} {p : PV} (e : g p ρ = some ρ') (h : Sim c E (b ρ') t) : Sim c E (kAsg g b p ρ) t := by
  unfold kAsg asgK;rw [e]
  exact h
theorem s_if {d : PEnv → GR Bool} {s1 s2 : PEnv → SR} (h : Sim c E ((d ρ).st (kIf s1 s2 b)) t) : Sim c E ((ifG d s1 s2 ρ).then b) t := by
  rw [ifG_e, st_then]; exact h
/-- the first way does not go on -/
theorem k_ifx {s1 s2 : PEnv → SR} {v : Bool} {t1 t2 : TS L M A X S} (h1 : v = true → Sim c NoE (s1 ρ) t1) (h2 : v = false → Sim c E ((s2 ρ).then b) t2) : Sim c E (kIf s1 s2 b v ρ) (if v = true then t1 else t2) := by
  cases v with
  | true => exact s_dead (h1 rfl)
  | false => exact h2 rfl
/-- both may go on -/
theorem k_ifj {s1 s2 : PEnv → SR} {v : Bool} {E1 : T → PEnv → Prop} {t1 t2 : TS L M A X T} {k : T → TS L M A X S} (h1 : v = true → Sim c E1 (s1 ρ) t1) (h2 : v = false → Sim c E1 (s2 ρ) t2) (hk : ∀ s ρ, E1 s ρ → Sim c E (b ρ) (k s)) : Sim c E (kIf s1 s2 b v ρ) (TS.bind (if v = true then t1 else t2) k) := by
  cases v with
  | true => exact s_bind (h1 rfl) hk
  | false => exact s_bind (h2 rfl) hk
theorem s_for {it : PEnv → GR (List PV)} {g : PV → PEnv → Option PEnv} {s : PEnv → SR} (h : Sim c E ((it ρ).st (kFor g s b)) t) : Sim c E ((forG it g s ρ).then b) t := by
  rw [forG_e, st_then]; exact h
theorem k_for {L0 : Type} {g : PV → PEnv → Option PEnv} {s : PEnv → SR} {f : β → PV} {xs : List β} {ps : List PV} {E1 : L0 → PEnv → Prop} {s0 : L0} {tb : β → L0 → TS L0 M A X L0} {k : L0 → TS L M A X S} (hp : ps = xs.map f) (h0 : E1 s0 ρ)
    (hb : ∀ x l ρ, E1 l ρ → ∃ ρ2, g (f x) ρ = some ρ2 ∧ Sim ⟨c.K, E1, c.rt, c.ex⟩ E1 (s ρ2) (tb x l)) (hk : ∀ l ρ, E1 l ρ → Sim c E (b ρ) (k l)) : Sim c E (kFor g s b ps ρ) (TS.bind (forT xs s0 tb) k) := by
  subst hp;unfold kFor forK
  refine s_bind (E := E1) ?_ hk;induction xs generalizing s0 ρ with
  | nil => exact ⟨ρ, rfl, h0⟩
  | cons x xs ih =>
    obtain ⟨ρ2, e, h⟩ := hb x s0 ρ h0;rw [List.map_cons];unfold forL forT;simp only [e];cases e1 : tb x s0 with
    | nx s => rw [e1] at h; obtain ⟨ρ3, e2, h⟩ := h; simp only [e2]; exact ih h
    | ct s => rw [e1] at h; obtain ⟨ρ3, e2, h⟩ := h; simp only [e2]; exact ih h
    | bk s => rw [e1] at h; obtain ⟨ρ3, e2, h⟩ := h; simp only [e2]; exact ⟨ρ3, rfl, h⟩
    | rt m a => rw [e1] at h; obtain ⟨p, ρ3, e2, h⟩ := h; simp only [e2]; exact ⟨p, ρ3, rfl, h⟩
    | ex x e => rw [e1] at h; obtain ⟨ρ3, e2, h⟩ := h; simp only [e2]; exact ⟨ρ3, rfl, h⟩
    | stk => trivial
theorem g_v {e : PEnv → ER PV} {p : PV} (h : e ρ = .ok p) (hz : p.fz = true) (hk : Sim c E (k p ρ) t) : Sim c E ((vG e ρ).st k) t := by
  rw [vG_e, h, ebind_ok, chkF_e p hz]; exact hk
theorem g_f {e : PEnv → ER PV} {p : PV} (h : e ρ = .ok p) (hk : Sim c E (k p ρ) t) : Sim c E ((fG e ρ).st k) t := by
  rw [fG_e, h]; exact hk
theorem g_at {e : PEnv → ER Bool} {v : Bool} {k : Bool → PEnv → SR} (h : e ρ = .ok v) (hk : Sim c E (k v ρ) t) : Sim c E (((e ρ).at ρ).st k) t := by
  rw [h]; exact hk
theorem g_frz {g : PEnv → GR PV} (h : Sim c E ((g ρ).st (kFrz k)) t) : Sim c E ((frzG g ρ).st k) t := by
  have e : (frzG g ρ).st k = (g ρ).st (kFrz k) := by rw [frzG_e]; cases g ρ <;> rfl
  rw [e]; exact h
theorem k_frz {p p' : PV} (e : p.frz = p') (h : Sim c E (k p' ρ) t) : Sim c E (kFrz k p ρ) t := by unfold kFrz; rw [e]; exact h
theorem g_A {f : PEnv → GR (List PV)} {op : List PV → Option PV} (h : Sim c E ((f ρ).st (kOpL op k)) t) : Sim c E ((bindGA f op ρ).st k) t := by
  rw [bindGA_e, bind_st]; exact h
theorem k_opL {op : List PV → Option PV} {p : List PV} {o : PV} (e : op p = some o) (h : Sim c E (k o ρ) t) : Sim c E (kOpL op k p ρ) t := by unfold kOpL; rw [e]; exact h
theorem g_itA {f : PEnv → GR (List PV)} {op : List PV → Option (List PV)} {k : List PV → PEnv → SR} (h : Sim c E ((f ρ).st (kItA op k)) t) : Sim c E ((iterA f op ρ).st k) t := by
  rw [iterA_e, bind_st]; exact h
theorem k_itA {op : List PV → Option (List PV)} {p : List PV} {o : List PV} {k : List PV → PEnv → SR} (e : op p = some o) (h : Sim c E (k o ρ) t) : Sim c E (kItA op k p ρ) t := by unfold kItA; rw [e]; exact h
theorem g_2 {fa fb : PEnv → GR PV} {op : PV → PV → Option PV} (h : Sim c E ((fa ρ).st (k2a fb (kOp2 op k))) t) : Sim c E ((bindG2 fa fb op ρ).st k) t := by
  have e : (bindG2 fa fb op ρ).st k = (fa ρ).st (k2a fb (kOp2 op k)) := by
    unfold bindG2; rw [bind_st]; congr 1; funext p ρ1; rw [bind_st]; rfl
  rw [e]; exact h
theorem g_2s {fa fb : PEnv → GR PV} {op : PV → PV → Option V} (h : Sim c E ((fa ρ).st (k2a fb (kOp2s op k))) t) : Sim c E ((bindG2s fa fb op ρ).st k) t := by
  have e : (bindG2s fa fb op ρ).st k = (fa ρ).st (k2a fb (kOp2s op k)) := by
    unfold bindG2s; rw [bind_st]; congr 1; funext p ρ1; rw [bind_st]; rfl
  rw [e]; exact h
theorem g_2b {fa fb : PEnv → GR PV} {op : PV → PV → Option Bool} {k : Bool → PEnv → SR} (h : Sim c E ((fa ρ).st (k2a fb (kOp2b op k))) t) : Sim c E ((bindG2b fa fb op ρ).st k) t := by
  have e : (bindG2b fa fb op ρ).st k = (fa ρ).st (k2a fb (kOp2b op k)) := by
    unfold bindG2b; rw [bind_st]; congr 1; funext p ρ1; rw [bind_st]; rfl
  rw [e]; exact h
theorem k_2a {fb : PEnv → GR PV} {k : PV → PV → PEnv → SR} {p : PV} (h : Sim c E ((fb ρ).st (k p)) t) : Sim c E (k2a fb k p ρ) t := h
theorem k_op2 {op : PV → PV → Option PV} {p q o : PV} (e : op p q = some o) (h : Sim c E (k o ρ) t) : Sim c E (kOp2 op k p q ρ) t := by unfold kOp2; rw [e]; exact h
theorem k_op2s {op : PV → PV → Option V} {p q : PV} {o : V} (e : op p q = some o) (h : Sim c E (k (.sc o) ρ) t) : Sim c E (kOp2s op k p q ρ) t := by unfold kOp2s; rw [e]; exact h
theorem k_op2b {op : PV → PV → Option Bool} {p q : PV} {o : Bool} {k : Bool → PEnv → SR} (e : op p q = some o) (h : Sim c E (k o ρ) t) : Sim c E (kOp2b op k p q ρ) t := by unfold kOp2b; rw [e]; exact h
theorem g_nil {k : List PV → PEnv → SR} (h : Sim c E (k [] ρ) t) : Sim c E ((nilG ρ).st k) t := h
theorem g_cons {f : PEnv → GR PV} {g : PEnv → GR (List PV)} {k : List PV → PEnv → SR} (h : Sim c E ((f ρ).st (kConsA g k)) t) : Sim c E ((consG f g ρ).st k) t := by
  have e : (consG f g ρ).st k = (f ρ).st (kConsA g k) := by
    unfold consG; rw [bind_st]; congr 1; funext p ρ1; rw [bind_st]; rfl
  rw [e]; exact h
theorem k_cons {g : PEnv → GR (List PV)} {k : List PV → PEnv → SR} {p : PV} (h : Sim c E ((g ρ).st (kConsB p k)) t) : Sim c E (kConsA g k p ρ) t := h
theorem k_consB {k : List PV → PEnv → SR} {p : PV} {ps : List PV} (h : Sim c E (k (p :: ps) ρ) t) : Sim c E (kConsB p k ps ρ) t := h
theorem g_nilAg {k : List Ag → PEnv → SR} (h : Sim c E (k [] ρ) t) : Sim c E ((nilAg ρ).st k) t := h
theorem g_vl {f : PEnv → GR PV} {g : PEnv → GR (List Ag)} {k : List Ag → PEnv → SR} (h : Sim c E ((f ρ).st (kVlA g k)) t) : Sim c E ((vlAg f g ρ).st k) t := by
  have e : (vlAg f g ρ).st k = (f ρ).st (kVlA g k) := by
    unfold vlAg; rw [bind_st]; congr 1; funext p ρ1; rw [bind_st]; rfl
  rw [e]; exact h
theorem k_vl {g : PEnv → GR (List Ag)} {k : List Ag → PEnv → SR} {p : PV} (h : Sim c E ((g ρ).st (kVlB (.vl p) k)) t) : Sim c E (kVlA g k p ρ) t := h
theorem k_vlB {k : List Ag → PEnv → SR} {p : Ag} {ps : List Ag} (h : Sim c E (k (p :: ps) ρ) t) : Sim c E (kVlB p k ps ρ) t := h
theorem g_pl {g : PEnv → GR (List Ag)} {k : List Ag → PEnv → SR} {p : PV} (e : ρ[i]? = some (some p)) (h : Sim c E ((g ρ).st (kVlB (.pl i) k)) t) : Sim c E ((plAg i g ρ).st k) t := by
  rw [plAg_e e, bind_st]; exact h
theorem g_call {m : List PV → FR} {f : PEnv → GR (List Ag)} (h : Sim c E ((f ρ).st (kCall m k)) t) : Sim c E ((callM m f ρ).st k) t := by
  rw [callM_e, bind_st]; exact h
theorem k_call {M' X' A' : Type} {m : List PV → FR} {as : List Ag} {os : List PV} {ρr : PEnv} {tf : FT M' X' A'} {ev : A' → PV} {eo : M' → List PV} {ex : X' → List PV → Prop} {kx : X' → X} {tk : M' → A' → TS L M A X S} (ρ' : M' → PEnv) (h1 : takeA as ρ = some (os, ρr)) (hf : SimF c.K (m os) tf ev eo ex) (hp : ∀ m, putA as (eo m) ρr = ρ' m)
    (hk : ∀ m a, Sim c E (k (ev a) (ρ' m)) (tk m a)) (hx : ∀ x os, ex x os → c.ex (kx x) (putA as os ρr)) : Sim c E (kCall m k as ρ) (callT tf kx tk) := by
  unfold kCall;rw [callK_e, h1, tkK_e]
  cases tf with
  | ok m2 a => rw [show m os = _ from hf, frK_ok, hp]; exact hk m2 a
  | ex x e => obtain ⟨os', e1, h⟩ := hf; rw [e1]; exact ⟨_, rfl, hx x os' h⟩
  | stk => trivial
def compK (it : PEnv → GR (List PV)) (g : PV → PEnv → Option PEnv) (d : PEnv → GR Bool) (e : PEnv → GR PV) (vs : List Nat) (k : PV → PEnv → SR) (ps : List PV) (ρ1 : PEnv) : SR := ((compL g d e vs ps (wipeP ρ1 vs) []).bind fun acc ρ2 => GR.ok (.lst true acc) (backV ρ1 (wipeP ρ2 vs) vs)).st k
theorem g_comp {it : PEnv → GR (List PV)} {g : PV → PEnv → Option PEnv} {d : PEnv → GR Bool} {e : PEnv → GR PV} {vs : List Nat} (h : Sim c E ((it ρ).st (compK it g d e vs k)) t) : Sim c E ((compG it g d e vs ρ).st k) t := by
  unfold compG; rw [bind_st]; exact h
/-- whole: the test and the item tell at once -/
def itemG (d : PEnv → GR Bool) (e : PEnv → GR PV) : PEnv → GR PV := fun ρ => (d ρ).bind fun b ρ1 => if b = true then (e ρ1).bind fun p ρ2 => .ok (.tup [p]) ρ2 else .ok (.tup []) ρ1
def eItem {γ : Type} (f : γ → PV) : Option γ → PV
  | some y => .tup [f y]
  | none => .tup []
theorem k_comp {G γ : Type} {it : PEnv → GR (List PV)} {g : PV → PEnv → Option PEnv} {d : PEnv → GR Bool} {e : PEnv → GR PV} {vs : List Nat} {f : β → PV} {fy : γ → PV} {xs : List β} {ps : List PV} {g0 : G} {tb : β → G → TS Empty G (Option γ) X Empty} {tk : G → List γ → TS L M A X S} (Eg : G → PEnv) (hp : ps = xs.map f) (h0 : wipeP ρ vs = Eg g0)
    (hb : ∀ x s, ∃ ρ2, g (f x) (Eg s) = some ρ2 ∧ Sim ⟨c.K, NoE, fun m v p ρ => p = eItem fy v ∧ wipeP ρ vs = Eg m, fun _ _ => True⟩ NoE ((itemG d e ρ2).st SR.rt) (tb x s)) (ρ' : G → PEnv) (h1 : ∀ s, backV ρ (wipeP (Eg s) vs) vs = ρ' s)
    (hk : ∀ s ys, Sim c E (k (.lst true (ys.map fy)) (ρ' s)) (tk s ys)) : Sim c E (compK it g d e vs k ps ρ) (compT xs g0 tb tk) := by
  subst hp;unfold compK compT
  rw [h0];have key : ∀ (xs : List β) (s : G) (acc : List γ), (∃ s' ys, compL' tb xs s acc = .rt s' ys ∧ compL g d e vs (xs.map f) (Eg s) (acc.map fy) = .ok (ys.map fy) (Eg s')) ∨ ∀ s' ys, compL' tb xs s acc ≠ .rt s' ys := by
    intro xs;induction xs with
    | nil => intro s acc; exact .inl ⟨s, acc, rfl, rfl⟩
    | cons x xs ih =>
      intro s acc;obtain ⟨ρ2, eg, h⟩ := hb x s
      rw [List.map_cons];unfold compL' compL
      simp only [eg];cases et : tb x s with
      | rt s1 o =>
        rw [et] at h;obtain ⟨p, ρ3, e1, e2, e3⟩ := h
        subst e2;unfold itemG at e1
        cases o with
        | none =>
          cases ed : d ρ2 with
          | ok v ρ4 =>
            rw [ed] at e1;cases v with
            | true =>
              simp only [GR.bind, if_true] at e1;cases ee : e ρ4 with
              | ok q ρ5 => rw [ee] at e1; injection e1 with e1 _; simp only [eItem] at e1; injection e1 with e1; cases e1
              | exc x ρ5 => rw [ee] at e1; cases e1
              | stk => rw [ee] at e1; cases e1
            | false =>
              simp only [GR.bind, Bool.false_eq_true, if_false] at e1;injection e1 with _ e1
              subst e1;simp only [e3]
              exact ih s1 acc
          | exc x ρ5 => rw [ed] at e1; cases e1
          | stk => rw [ed] at e1; cases e1
        | some y =>
          cases ed : d ρ2 with
          | ok v ρ4 =>
            rw [ed] at e1;cases v with
            | true =>
              simp only [GR.bind, if_true] at e1;cases ee : e ρ4 with
              | ok q ρ5 =>
                rw [ee] at e1;injection e1 with e1 e4
                simp only [eItem] at e1;injection e1 with e1
                injection e1 with e1
                subst e1;subst e4
                simp only [ee, List.length_map];by_cases hl : acc.length < 100000
                · simp only [hl, if_true, e3];have := ih s1 (acc ++ [y])
                  rw [List.map_append] at this;exact this
                · simp only [hl, if_false]; exact .inr fun _ _ z => nomatch z
              | exc x ρ5 => rw [ee] at e1; cases e1
              | stk => rw [ee] at e1; cases e1
            | false =>
              simp only [GR.bind, Bool.false_eq_true, if_false] at e1;injection e1 with e1 _
              simp only [eItem] at e1;injection e1 with e1
              cases e1
          | exc x ρ5 => rw [ed] at e1; cases e1
          | stk => rw [ed] at e1; cases e1
      | _ => exact .inr fun _ _ z => nomatch z
  rcases key xs g0 [] with ⟨s', ys, e1, e2⟩ | h
  · rw [e1];simp only
    rw [show compL g d e vs (xs.map f) (Eg g0) [] = _ from e2]
    show Sim c E (k _ (backV ρ (wipeP (Eg s') vs) vs)) _
    rw [h1];exact hk s' ys
  · cases e : compL' tb xs g0 [] with
    | rt s ys => exact absurd e (h s ys)
    | _ => trivial
theorem g_item {d : PEnv → GR Bool} {e : PEnv → GR PV} (h : Sim c E ((d ρ).st fun b ρ1 => if b = true then (e ρ1).st fun p ρ2 => k (.tup [p]) ρ2 else k (.tup []) ρ1) t) : Sim c E ((itemG d e ρ).st k) t := by
  have e : (itemG d e ρ).st k = (d ρ).st fun b ρ1 => if b = true then (e ρ1).st fun p ρ2 => k (.tup [p]) ρ2 else k (.tup []) ρ1 := by
    unfold itemG;rw [bind_st]; congr 1; funext b ρ1
    cases b
    · rfl
    · simp only [if_true]; rw [bind_st]; rfl
  rw [e]; exact h
def kItD (e : PEnv → GR PV) (k : PV → PEnv → SR) (b : Bool) (ρ1 : PEnv) : SR := if b = true then (e ρ1).st fun p ρ2 => k (.tup [p]) ρ2 else k (.tup []) ρ1
def kItE (k : PV → PEnv → SR) (p : PV) (ρ : PEnv) : SR := k (.tup [p]) ρ
theorem g_item' {d : PEnv → GR Bool} {e : PEnv → GR PV} (h : Sim c E ((d ρ).st (kItD e k)) t) : Sim c E ((itemG d e ρ).st k) t := g_item h
theorem g_yes {k : Bool → PEnv → SR} (h : Sim c E (k true ρ) t) : Sim c E ((yesG ρ).st k) t := h
theorem k_itY {e : PEnv → GR PV} (h : Sim c E ((e ρ).st (kItE k)) t) : Sim c E (kItD e k true ρ) t := h
theorem k_itE {γ : Type} {fy : γ → PV} {y : γ} {m : M} {c : EC L M (Option γ) X} (h : c.rt m (some y) (.tup [fy y]) ρ) : Sim c E (kItE SR.rt (fy y) ρ) (.rt m (some y)) := ⟨_, ρ, rfl, h⟩
def blkX {XB : Type} (t : TS Empty G A XB Empty) (kx : XB → X) (k : G → A → TS L M A' X S) : TS L M A' X S := match t with
  | .rt g a => k g a
  | .ex x e => .ex (kx x) e
  | _ => .stk
theorem f_E {K : Fg} {np nl : Nat} {P : List Nat} {s : PEnv → SR} {os : List PV} {ev : A → PV} {eo : M → List PV} {ex : X → List PV → Prop} {t : TS Empty M A X Empty} (hl : os.length = np)
    (h : Sim ⟨K, NoE, fun m a p ρ => p = ev a ∧ backP P 0 os ρ = some (eo m), fun x ρ => ∃ os', backP P 0 os ρ = some os' ∧ ex x os'⟩ NoE (s (os.map some ++ List.replicate nl none)) t) : SimF K (fnM np nl P s os) (runE t) ev eo ex := by
  unfold fnM;rw [if_pos hl]
  cases t with
  | rt m a => obtain ⟨p, ρ, e, rfl, h⟩ := h; rw [e]; simp only [h]; rfl
  | ex x e => obtain ⟨ρ, e1, os', h, h2⟩ := h; rw [e1]; simp only [h]; exact ⟨os', rfl, h2⟩
  | _ => trivial
end
end TL
namespace TL
open PySem PySem.Spec PyProof.Rows L2 RL
section
variable {ρ : PEnv} {i : Nat} {p q r o p' : PV} {ps qs : List PV} {v w : Bool} {e f g : PEnv → ER PV} {c d : PEnv → ER Bool} {α β : Type}
theorem e_nm (h : ρ[i]? = some (some p)) : nmE i ρ = .ok p := nmE_e h
theorem e_1 {op : PV → Option PV} (h : e ρ = .ok p) (h1 : op p = some o) : bind1 e op ρ = .ok o := by rw [bind1_e, h, ebind_ok, h1]; rfl
theorem e_2 {op : PV → PV → Option PV} (h : e ρ = .ok p) (h' : f ρ = .ok q) (h1 : op p q = some o) : bind2 e f op ρ = .ok o := by rw [bind2_e, h, ebind_ok, h', ebind_ok, h1]; rfl
theorem e_2s {op : PV → PV → Option V} {x : V} (h : e ρ = .ok p) (h' : f ρ = .ok q) (h1 : op p q = some x) : bind2s e f op ρ = .ok (.sc x) := by rw [bind2s_e, h, ebind_ok, h', ebind_ok, h1]; rfl
theorem e_2m {op : PV → PV → Option Bool} (h : e ρ = .ok p) (h' : f ρ = .ok q) (h1 : op p q = some v) : bind2s e f (fun p q => (op p q).map V.bl) ρ = .ok (.bl v) := by rw [bind2s_e, h, ebind_ok, h', ebind_ok, h1]; rfl
theorem e_2b {op : PV → PV → Option Bool} (h : e ρ = .ok p) (h' : f ρ = .ok q) (h1 : op p q = some v) : bind2b e f op ρ = .ok v := by rw [bind2b_e, h, ebind_ok, h', ebind_ok, h1]; rfl
theorem e_A {fa : PEnv → ER (List PV)} {op : List PV → Option PV} (h : fa ρ = .ok ps) (h1 : op ps = some o) : bindA fa op ρ = .ok o := by rw [bindA_e, h, ebind_ok, h1]; rfl
theorem e_nil : nilA ρ = .ok [] := rfl
theorem e_cons {g : PEnv → ER (List PV)} (h : e ρ = .ok p) (h1 : g ρ = .ok ps) : consA e g ρ = .ok (p :: ps) := by rw [consA_e, h, ebind_ok, h1]; rfl
theorem e_frz (h : e ρ = .ok p) (h1 : p.frz = p') : frzE e ρ = .ok p' := by rw [frzE_e, h, emap_ok, h1]
theorem e_tru (h : e ρ = .ok p) (h1 : truP p = some v) : truE e ρ = .ok v := by rw [truE_e, h, ebind_ok, h1]; rfl
theorem e_not (h : c ρ = .ok v) : notE c ρ = .ok (!v) := by rw [notE_e, h]; rfl
theorem e_and (h : c ρ = .ok v) (h1 : d ρ = .ok w) : andB c d ρ = .ok (v && w) := by rw [andB_e, h, ebind_ok]; cases v; rfl; rw [andK_t, h1]; rfl
theorem e_orP {t : Option Bool} (h : c ρ = .ok v) (h1 : ∀ w, t = some w → d ρ = .ok w) (hb : (if v = true then some true else t) = some w) : orB c d ρ = .ok w := by
  rw [orB_e, h, ebind_ok];cases v
  · exact h1 _ hb
  · cases hb; rfl
/-- of a part that may lack a value -/
theorem q0 {P : β → Prop} {t : Option α} {k : α → Option β} (h : ∀ a, t = some a → ∀ b, k a = some b → P b) : ∀ b, (t.bind k) = some b → P b := by
  intro b e;cases t with
  | none => cases e
  | some a => exact h a rfl b e
theorem q20 {P : β → Prop} {a : β} (h : P a) : ∀ b, some a = some b → P b := by intro b e; cases e; exact h
end
section
variable {α β γ : Type} {f g : α → PV} {xs ys zs : List α} {x y : α} {i : Int} {b : Bool} {a : Addr}
theorem o_add (i j : Int) : addU (.int i) (.int j) = some (.int (i + j)) := rfl
@[irreducible] def catO (xs ys : List α) : Option (List α) := if xs.length + ys.length < 100000 then some (xs ++ ys) else none
theorem all_fz (h : ∀ x, (f x).fz = true) (xs : List α) : (xs.map f).all PV.fz = true := by
  rw [List.all_map, List.all_eq_true]; intro x _; exact h x
theorem o_cat (o o' : Bool) (h : ∀ x, (f x).fz = true) (e : catO xs ys = some zs) : addU (.lst o (xs.map f)) (.lst o' (ys.map f)) = some (.lst true (zs.map f)) := by
  unfold catO at e;split at e
  · cases e;rw [addU_lst _ _ _ _ (all_fz h xs) (all_fz h ys) (by simpa using ‹_›), List.map_append]
  · cases e
theorem o_sub (i j : Int) : subI (.int i) (.int j) = some (.int (i - j)) := rfl
@[irreducible] def modO (i j : Int) : Option Int := if 0 < j then some (i % j) else none
@[irreducible] def divO (i j : Int) : Option Int := if 0 < j ∧ j.natAbs.log2 < 9000 then some (i / j) else none
@[irreducible] def powO (i j : Int) : Option Int := if 0 ≤ j ∧ j ≤ 1000000 ∧ i.natAbs < 2 ^ 64 then some (i ^ j.toNat) else none
theorem o_ite {c : Prop} [Decidable c] {z k : Int} (e : (if c then some z else none) = some k) : (if c then some (V.int z) else none) = some (V.int k) := by
  split at e
  · rename_i h; rw [if_pos h]; cases e; rfl
  · cases e
theorem o_mod {i j k : Int} (e : modO i j = some k) : modI (.int i) (.int j) = some (.int k) := by unfold modO at e; exact o_ite e
theorem o_div {i j k : Int} (e : divO i j = some k) : fdivI (.int i) (.int j) = some (.int k) := by unfold divO at e; exact o_ite e
theorem o_pow {i j k : Int} (e : powO i j = some k) : powI (.int i) (.int j) = some (.int k) := by unfold powO at e; exact o_ite e
theorem o_mulL (i j : Int) (h : -(2 ^ 64) < j ∧ j < 2 ^ 64) : mulI (.int i) (.int j) = some (.int (i * j)) := if_pos (.inr h)
theorem o_mulR (i j : Int) (h : -(2 ^ 64) < i ∧ i < 2 ^ 64) : mulI (.int i) (.int j) = some (.int (i * j)) := if_pos (.inl h)
theorem o_modL (i j : Int) (h : 0 < j) : modI (.int i) (.int j) = some (.int (i % j)) := if_pos h
theorem o_divL (i j : Int) (h : 0 < j ∧ j.natAbs.log2 < 9000) : fdivI (.int i) (.int j) = some (.int (i / j)) := if_pos h
theorem o_powL (i j : Int) (h : 0 ≤ j ∧ j ≤ 1000000 ∧ i.natAbs < 2 ^ 64) : powI (.int i) (.int j) = some (.int (i ^ j.toNat)) := if_pos h
theorem o_lt (i j : Int) : ltI (.int i) (.int j) = some (decide (i < j)) := rfl
theorem o_gt (i j : Int) : gtI (.int i) (.int j) = some (decide (j < i)) := rfl
theorem o_ge (i j : Int) : geI (.int i) (.int j) = some (decide (j ≤ i)) := rfl
theorem o_at (e : atI xs i = some y) : atI (xs.map f) i = some (f y) := by
  unfold atI at e ⊢
  rw [List.length_map];cases h : ixN xs.length i with
  | none => rw [h] at e; cases e
  | some j => rw [h] at e; show (xs.map f)[j]? = _; rw [List.getElem?_map, show xs[j]? = some y from e]; rfl
theorem o_ixL (o : Bool) (e : atI xs i = some y) : ixP (.lst o (xs.map f)) (.int i) = some (f y) := o_at e
theorem o_ixK (e : atI xs i = some y) : ixP (.lsk a (xs.map f)) (.int i) = some (f y) := o_at e
theorem o_lenK : lenA [.lsk a (xs.map f)] = some (.int xs.length) := by rw [lenA_lsk, List.length_map]
theorem o_int (i : Int) : intA [.int i] = some (.int i) := rfl
def absZ (i : Int) : Int := if i < 0 then -i else i
theorem o_abs (i : Int) : absA [.int i] = some (.int (absZ i)) := rfl
theorem o_tupL (o : Bool) (h : ∀ x, (f x).fz = true) : tupA [.lst o (xs.map f)] = some (.tup (xs.map f)) := if_pos (all_fz h xs)
@[irreducible] def appO (xs : List α) (x : α) : Option (List α) := if xs.length < 100000 then some (xs ++ [x]) else none
@[irreducible] def popO (xs : List α) : Option (α × List α) := match xs.getLast? with
  | some x => some (x, xs.dropLast)
  | none => none
def rngL (lo : Int) (n : Nat) : List Int := (List.range n).map fun i : Nat => lo + i
theorem rangeP_L (lo : Int) (n : Nat) : rangeP lo n = (rngL lo n).map PV.int := by
  unfold rangeP rngL; rw [List.map_map]; rfl
@[irreducible] def rg1 (j : Int) : Option (List Int) := if -(2 ^ 62) ≤ j ∧ j < 2 ^ 62 then some (rngL 0 j.toNat) else none
theorem o_rng1 {j : Int} {zs : List Int} (e : rg1 j = some zs) : rngK1 [.int j] = some (zs.map PV.int) := by
  unfold rg1 at e;split at e
  · cases e; rw [← rangeP_L]; exact if_pos ‹_›
  · cases e
def enumL (c : Int) : List α → List (Int × α)
  | [] => []
  | x :: xs => (c, x) :: enumL (c + 1) xs
theorem o_disT {ps : List PV} (h : ps.all PV.fz = true) (h' : Nat.ble ps.length 1000 = true) : displayT ps = some (.tup ps) := disT ps h (Nat.le_of_ble_eq_true h')
theorem o_disL {ps : List PV} (h : ps.all PV.fz = true) (h' : Nat.ble ps.length 1000 = true) : displayL ps = some (.lst true ps) := disL ps h (Nat.le_of_ble_eq_true h')
theorem z_lst (h : ∀ x, (f x).frz = f x) (o : Bool) (xs : List α) : (PV.lst o (xs.map f)).frz = .lst false (xs.map f) := by
  rw [frz_lst]; congr 1
  induction xs with
  | nil => simp
  | cons x xs ih => rw [List.map_cons, frzL_cons, h, ih]
def cutT (xs : List α) (lo hi : Option Int) : List α := (xs.drop (HT.sIx xs.length 0 lo)).take (HT.sIx xs.length xs.length hi - HT.sIx xs.length 0 lo)
variable {M X A : Type} {K : Fg}
end
def letT {α L M A X S : Type} (v : α) (k : α → TS L M A X S) : TS L M A X S := k v
section
variable {L M A X S α : Type} {c : EC L M A X} {E : S → PEnv → Prop} {ρ : PEnv} {b : PEnv → SR} {i : Nat}
theorem k_setL {v : α} {tk : α → TS L M A X S} (ev : α → PV) (ρ' : α → PEnv) (e : ∀ x, ρ.set i (some (ev x)) = ρ' x) (h : ∀ x, Sim c E (b (ρ' x)) (tk x)) : Sim c E (kSet i b (ev v) ρ) (letT v tk) := by
  unfold kSet; rw [e]; exact h v
theorem k_ifd {s1 s2 : PEnv → SR} {v : Bool} {t1 t2 : TS L M A X S} (h1 : v = true → Sim c E ((s1 ρ).then b) t1) (h2 : v = false → Sim c E ((s2 ρ).then b) t2) : Sim c E (kIf s1 s2 b v ρ) (if v = true then t1 else t2) := by
  cases v with
  | true => exact h1 rfl
  | false => exact h2 rfl
end
end TL
namespace TL
open PySem PySem.Spec PyProof.Rows L2 RL
abbrev eS (s : String) : PV := PV.str (Str.ofString s)
section
variable {α β γ : Type} {f : α → PV} {xs ys : List α} {x y : α} {p q o p' : PV} {ρ ρ' : PEnv} {i : Nat}
@[irreducible] def fzO (p : PV) : Option Unit := if p.fz = true then some () else none
theorem fz_of {u : Unit} (h : fzO p = some u) : p.fz = true := by
  unfold fzO at h; split at h
  · assumption
  · cases h
abbrev vD (f : α → PV) (d : List (Int × α)) : List PV := d.map fun x => f x.2
def hasD (k : Int) (d : List (Int × α)) : Bool := decide (k ∈ d.map fun x => x.1)
def putD (k : Int) (v : α) (d : List (Int × α)) : List (Int × α) := if hasD k d = true then d.map fun x => if x.1 = k then (x.1, v) else x else d ++ [(k, v)]
@[irreducible] def putO (k : Int) (v : α) (d : List (Int × α)) : Option (List (Int × α)) := if d.length < 100000 then some (putD k v d) else none
def dcL' (kf : β → Int) (vf : β → α) : List β → List (Int × α) → Option (List (Int × α))
  | [], d => some d
  | x :: xs, d => if d.length < 100000 then dcL' kf vf xs (putD (kf x) (vf x) d) else none
def dcO (kf : β → Int) (vf : β → α) (xs : List β) : Option (List (Int × α)) := dcL' kf vf xs []
end
section
variable {L M A X S α β : Type} {c : EC L M A X} {E : S → PEnv → Prop} {ρ ρ' : PEnv} {b : PEnv → SR} {i : Nat} {t : TS L M A X S} {k : PV → PEnv → SR}
theorem k_sixF {fk : PEnv → GR PV} {ps : List PV} {z : Int} {j : Nat} {p : PV} {tk : α → TS L M A X S} (v : α) (ρ' : α → PEnv) (e0 : ρ[i]? = some (some (.lst true ps))) (e1 : fk ρ = .ok (.int z) ρ) (e2 : ixN ps.length z = some j) (e3 : ρ.set i (some (.lst true (ps.set j p))) = ρ' v) (h : ∀ x, Sim c E (b (ρ' x)) (tk x)) : Sim c E (kSix i fk b p ρ) (letT v tk) :=
  k_six e0 e1 e2 e3 (h v)
end
section
variable {M A X : Type} {K : Fg} {np nl : Nat} {P : List Nat} {s : PEnv → SR} {os : List PV} {ev : A → PV} {eo : M → List PV} {ρ0 : PEnv}
theorem f_E' {ex : X → List PV} {t : TS Empty M A X Empty} (h0 : os.map some ++ List.replicate nl none = ρ0) (hl : os.length = np)
    (h : Sim ⟨K, NoE, fun m a p ρ => p = ev a ∧ backP P 0 os ρ = some (eo m), fun x ρ => backP P 0 os ρ = some (ex x)⟩ NoE (s ρ0) t) : SimF K (fnM np nl P s os) (runE t) ev eo (fun x os => os = ex x) := by
  subst h0;refine f_E hl ?_
  cases t with
  | ex x e => obtain ⟨ρ, e1, h⟩ := h; exact ⟨ρ, e1, _, h, rfl⟩
  | nx s => obtain ⟨ρ, e1, h⟩ := h; exact h.elim
  | bk l => exact l.elim
  | ct l => exact l.elim
  | rt m a => exact h
  | stk => trivial
end
def memL {α : Type} [DecidableEq α] (x : α) (xs : List α) : Bool := decide (x ∈ xs)
@[simp] theorem memL_t {α : Type} [DecidableEq α] {x : α} {xs : List α} : (memL x xs = true) = (x ∈ xs) := by unfold memL; simp
@[simp] theorem memL_f {α : Type} [DecidableEq α] {x : α} {xs : List α} : (memL x xs = false) = ¬ (x ∈ xs) := by unfold memL; simp
def tryT {L M A X XB S : Type} (t : TS L M A XB S) (h : XB → TX → TS L M A X S) : TS L M A X S := match t with
  | .nx s => .nx s
  | .rt m a => .rt m a
  | .ex x e => h x e
  | .bk l => .bk l
  | .ct l => .ct l
  | .stk => .stk
end TL
namespace SP
noncomputable section
open PySem PySem.Spec PyProof.Rows L2 RL
@[simp] def t_ascending_0 (K : Fg) (ρ : PEnv) : SR := (retG (bindGA (consG (frzG (srtG (iterI (vG (nmE 0)) seqF) (nmT 1) (frzG (fG (bindA (consA (nmE 1) nilA) intA))) [1])) nilG) tupA)) ρ
def s_ascending (K : Fg) : PEnv → SR := (t_ascending_0 K)
def m_ascending (K : Fg) : List PV → FR := fnM 1 1 [0] (s_ascending K)
@[simp] def t_Lot_init_0 (K : Fg) (ρ : PEnv) : SR := (raiseG (He.ga K "BadPlace") "number" (vG (nmE 2))) ρ
@[simp] def t_Lot_init_1 (K : Fg) (ρ : PEnv) : SR := (ifG (fun ρ => ((bind2b (nmE 2) (fun _ => ER.ok (PV.sc (V.int 0))) ltI) ρ).at ρ) (t_Lot_init_0 K)
    skipS) ρ
@[simp] def t_Lot_init_2 (K : Fg) (ρ : PEnv) : SR := (forG (iterI (vG (nmE 1)) seqF) (nmT 2)
    (t_Lot_init_1 K)) ρ
@[simp] def t_Lot_init_3 (K : Fg) (ρ : PEnv) : SR := (setFldG 0 (He.ga K "Lot") "places" (frzG (callM (m_ascending K) (vlAg (vG (nmE 1)) nilAg)))) ρ
def s_Lot_init (K : Fg) : PEnv → SR := (seqS (t_Lot_init_2 K)
    (t_Lot_init_3 K))
def m_Lot_init (K : Fg) : List PV → FR := fnM 2 1 [0, 1] (s_Lot_init K)
@[simp] def t_Lot_len_0 (K : Fg) (ρ : PEnv) : SR := (retG (fG (bindA (consA (bind1 (nmE 0) (fldP (He.ga K "Lot") "places")) nilA) lenA))) ρ
def s_Lot_len (K : Fg) : PEnv → SR := (t_Lot_len_0 K)
def m_Lot_len (K : Fg) : List PV → FR := fnM 1 0 [0] (s_Lot_len K)
@[simp] def t_Lot_contains_0 (K : Fg) (ρ : PEnv) : SR := (retG (vG (bind2s (nmE 1) (bind1 (nmE 0) (fldP (He.ga K "Lot") "places")) fun p q => ((inP false) p q).map V.bl))) ρ
def s_Lot_contains (K : Fg) : PEnv → SR := (t_Lot_contains_0 K)
def m_Lot_contains (K : Fg) : List PV → FR := fnM 2 0 [0, 1] (s_Lot_contains K)
@[simp] def t_Lot_eq_0 (K : Fg) (ρ : PEnv) : SR := (retG (vG (andE (frzE (bindA (consA (nmE 1) (consA (fun _ => ER.ok (PV.sc (V.ref (He.ga K "Lot")))) nilA)) (isiA K [(He.ga K "Lot")]))) (bind2s (bind1 (nmE 0) (fldP (He.ga K "Lot") "places")) (bind1 (nmE 1) (fldP (He.ga K "Lot") "places")) fun p q => (eqP p q).map V.bl)))) ρ
@[simp] def t_Lot_le_0 (K : Fg) (ρ : PEnv) : SR := (retG (bindGA (consG (frzG (compG (iterI (vG (bind1 (nmE 0) (fldP (He.ga K "Lot") "places"))) seqF) (nmT 2) yesG (vG (bind2s (nmE 2) (bind1 (nmE 1) (fldP (He.ga K "Lot") "places")) fun p q => ((inP false) p q).map V.bl)) [2])) nilG) allA)) ρ
def s_Lot_le (K : Fg) : PEnv → SR := (t_Lot_le_0 K)
def m_Lot_le (K : Fg) : List PV → FR := fnM 2 1 [0, 1] (s_Lot_le K)
@[simp] def t_Lot_or_0 (K : Fg) (ρ : PEnv) : SR := (retG (makeM (He.ga K "Lot") (m_Lot_init K) (vlAg (frzG (fG (bindA (starA (bind1 (nmE 0) (fldP (He.ga K "Lot") "places")) (starA (bind1 (nmE 1) (fldP (He.ga K "Lot") "places")) nilA)) displayL))) nilAg))) ρ
@[simp] def t_Lot_and_0 (K : Fg) (ρ : PEnv) : SR := (retG (makeM (He.ga K "Lot") (m_Lot_init K) (vlAg (frzG (compG (iterI (vG (bind1 (nmE 0) (fldP (He.ga K "Lot") "places"))) seqF) (nmT 2) (fun ρ => ((bind2b (nmE 2) (bind1 (nmE 1) (fldP (He.ga K "Lot") "places")) (inP false)) ρ).at ρ) (vG (nmE 2)) [2])) nilAg))) ρ
@[simp] def t_Lot_sub_0 (K : Fg) (ρ : PEnv) : SR := (retG (makeM (He.ga K "Lot") (m_Lot_init K) (vlAg (frzG (compG (iterI (vG (bind1 (nmE 0) (fldP (He.ga K "Lot") "places"))) seqF) (nmT 2) (fun ρ => ((bind2b (nmE 2) (bind1 (nmE 1) (fldP (He.ga K "Lot") "places")) (inP true)) ρ).at ρ) (vG (nmE 2)) [2])) nilAg))) ρ
@[simp] def t_law_pool_0 (K : Fg) (ρ : PEnv) : SR := (retG (fG (bindA (consA (nmE 0) (consA (fun _ => ER.ok (PV.sc (V.int 0))) (consA (fun _ => ER.ok (PV.sc (V.int 0))) (consA (fun _ => ER.ok (PV.sc (V.int 0))) (consA (fun _ => ER.ok (PV.sc (V.int 7))) nilA))))) displayL))) ρ
def s_law_pool (K : Fg) : PEnv → SR := (t_law_pool_0 K)
def m_law_pool (K : Fg) : List PV → FR := fnM 1 0 [0] (s_law_pool K)
@[simp] def t_law_draw_0 (K : Fg) (ρ : PEnv) : SR := (setIxG 0 (vG (fun _ => ER.ok (PV.sc (V.int 1)))) (frzG (fG (bind2 (bind2 (nmE 0) (fun _ => ER.ok (PV.sc (V.int 1))) ixP) (fun _ => ER.ok (PV.sc (V.int 1))) addU)))) ρ
@[simp] def t_law_draw_1 (K : Fg) (ρ : PEnv) : SR := (setG 2 (frzG (fG (bindA (consA (bind2 (bind2 (nmE 0) (fun _ => ER.ok (PV.sc (V.int 0))) ixP) (bind2 (nmE 0) (fun _ => ER.ok (PV.sc (V.int 2))) ixP) ixP) nilA) absA)))) ρ
@[simp] def t_law_draw_2 (K : Fg) (ρ : PEnv) : SR := (setIxG 0 (vG (fun _ => ER.ok (PV.sc (V.int 2)))) (frzG (fG (bind2 (bind2 (nmE 0) (fun _ => ER.ok (PV.sc (V.int 2))) ixP) (fun _ => ER.ok (PV.sc (V.int 1))) addU)))) ρ
@[simp] def t_law_draw_3 (K : Fg) (ρ : PEnv) : SR := (setIxG 0 (vG (fun _ => ER.ok (PV.sc (V.int 3)))) (vG (nmE 2))) ρ
@[simp] def t_law_draw_4 (K : Fg) (ρ : PEnv) : SR := (setIxG 0 (vG (fun _ => ER.ok (PV.sc (V.int 4)))) (vG (bind2s (frzE (bindA (consA (bind2s (frzE (bind2 (frzE (bind2 (bind2 (nmE 0) (fun _ => ER.ok (PV.sc (V.int 4))) ixP) (nmE 2) addU)) (fun _ => ER.ok (PV.sc (V.int 1))) addU)) (fun _ => ER.ok (PV.sc (V.int 48271))) mulI) nilA) intA)) (fun _ => ER.ok (PV.sc (V.int 2147483629))) modI))) ρ
@[simp] def t_law_draw_5 (K : Fg) (ρ : PEnv) : SR := (ifG (fun ρ => ((bind2b (nmE 2) (bind2s (fun _ => ER.ok (PV.sc (V.int 10))) (fun _ => ER.ok (PV.sc (V.int 18))) powI) geI) ρ).at ρ) (t_law_draw_3 K)
    (t_law_draw_4 K)) ρ
@[simp] def t_law_draw_6 (K : Fg) (ρ : PEnv) : SR := (ifG (fun ρ => ((andB (bind2b (bind2 (nmE 0) (fun _ => ER.ok (PV.sc (V.int 3))) ixP) (fun _ => ER.ok (PV.sc (V.int 0))) eqP) (bind2b (bind2 (nmE 0) (fun _ => ER.ok (PV.sc (V.int 2))) ixP) (frzE (bindA (consA (bind2 (nmE 0) (fun _ => ER.ok (PV.sc (V.int 0))) ixP) nilA) lenA)) ltI)) ρ).at ρ) (seqS (t_law_draw_1 K)
    (seqS (t_law_draw_2 K)
    (t_law_draw_5 K)))
    skipS) ρ
@[simp] def t_law_draw_7 (K : Fg) (ρ : PEnv) : SR := (setG 3 (vG (bind2s (frzE (bindA (consA (bind2 (nmE 0) (fun _ => ER.ok (PV.sc (V.int 3))) ixP) nilA) intA)) (nmE 1) modI))) ρ
@[simp] def t_law_draw_8 (K : Fg) (ρ : PEnv) : SR := (setIxG 0 (vG (fun _ => ER.ok (PV.sc (V.int 3)))) (vG (bind2s (bind2 (nmE 0) (fun _ => ER.ok (PV.sc (V.int 3))) ixP) (nmE 1) fdivI))) ρ
@[simp] def t_law_draw_9 (K : Fg) (ρ : PEnv) : SR := (retG (vG (nmE 3))) ρ
@[simp] def t_law_draw_10 (K : Fg) (ρ : PEnv) : SR := (ifG (fun ρ => ((bind2b (bind2 (nmE 0) (fun _ => ER.ok (PV.sc (V.int 3))) ixP) (fun _ => ER.ok (PV.sc (V.int 0))) gtI) ρ).at ρ) (seqS (t_law_draw_7 K)
    (seqS (t_law_draw_8 K)
    (t_law_draw_9 K)))
    skipS) ρ
@[simp] def t_law_draw_11 (K : Fg) (ρ : PEnv) : SR := (setG 4 (vG (bind2s (frzE (bindA (consA (bind2s (frzE (bind2 (bind2 (nmE 0) (fun _ => ER.ok (PV.sc (V.int 4))) ixP) (bind2s (bind2 (nmE 0) (fun _ => ER.ok (PV.sc (V.int 1))) ixP) (fun _ => ER.ok (PV.sc (V.int 7919))) mulI) addU)) (fun _ => ER.ok (PV.sc (V.int 3))) powI) nilA) intA)) (fun _ => ER.ok (PV.sc (V.int 2147483647))) modI))) ρ
@[simp] def t_law_draw_12 (K : Fg) (ρ : PEnv) : SR := (retG (vG (bind2s (frzE (bindA (consA (bind2s (nmE 4) (fun _ => ER.ok (PV.sc (V.int 16))) fdivI) nilA) intA)) (nmE 1) modI))) ρ
def s_law_draw (K : Fg) : PEnv → SR := (seqS (t_law_draw_0 K)
    (seqS (t_law_draw_6 K)
    (seqS (t_law_draw_10 K)
    (seqS (t_law_draw_11 K)
    (t_law_draw_12 K)))))
def m_law_draw (K : Fg) : List PV → FR := fnM 2 3 [0, 1] (s_law_draw K)
end
end SP
namespace SP
noncomputable section
open PySem PySem.Spec PyProof.Rows L2 RL
@[simp] def t_Placing_init_0 (K : Fg) (ρ : PEnv) : SR := (raiseG (He.ga K "BadMark") "number" (vG (nmE 3))) ρ
@[simp] def t_Placing_init_1 (K : Fg) (ρ : PEnv) : SR := (ifG (fun ρ => ((bind2b (nmE 3) (fun _ => ER.ok (PV.sc (V.int 0))) ltI) ρ).at ρ) (t_Placing_init_0 K)
    skipS) ρ
@[simp] def t_Placing_init_2 (K : Fg) (ρ : PEnv) : SR := (forG (iterI (frzG (fG (bindA (starA (nmE 1) (starA (nmE 2) nilA)) displayL))) seqF) (nmT 3)
    (t_Placing_init_1 K)) ρ
@[simp] def t_Placing_init_3 (K : Fg) (ρ : PEnv) : SR := (setFldG 0 (He.ga K "Placing") "saves" (frzG (callM (m_ascending K) (vlAg (vG (nmE 1)) nilAg)))) ρ
@[simp] def t_Placing_init_4 (K : Fg) (ρ : PEnv) : SR := (setFldG 0 (He.ga K "Placing") "backs" (frzG (callM (m_ascending K) (vlAg (vG (nmE 2)) nilAg)))) ρ
@[simp] def t_Placing_init_5 (K : Fg) (ρ : PEnv) : SR := (raiseG (He.ga K "TwoMarks") "number" (vG (nmE 3))) ρ
@[simp] def t_Placing_init_6 (K : Fg) (ρ : PEnv) : SR := (ifG (fun ρ => ((bind2b (nmE 3) (bind1 (nmE 0) (fldP (He.ga K "Placing") "backs")) (inP false)) ρ).at ρ) (t_Placing_init_5 K)
    skipS) ρ
@[simp] def t_Placing_init_7 (K : Fg) (ρ : PEnv) : SR := (forG (iterI (vG (bind1 (nmE 0) (fldP (He.ga K "Placing") "saves"))) seqF) (nmT 3)
    (t_Placing_init_6 K)) ρ
def s_Placing_init (K : Fg) : PEnv → SR := (seqS (t_Placing_init_2 K)
    (seqS (t_Placing_init_3 K)
    (seqS (t_Placing_init_4 K)
    (t_Placing_init_7 K))))
def m_Placing_init (K : Fg) : List PV → FR := fnM 3 1 [0, 1, 2] (s_Placing_init K)
@[simp] def t_Placing_len_0 (K : Fg) (ρ : PEnv) : SR := (retG (fG (bindA (consA (frzE (bindA (starA (bind1 (nmE 0) (fldP (He.ga K "Placing") "saves")) (starA (bind1 (nmE 0) (fldP (He.ga K "Placing") "backs")) nilA)) displayT)) nilA) lenA))) ρ
@[simp] def t_Placing_eq_0 (K : Fg) (ρ : PEnv) : SR := (retG (vG (andE (frzE (bindA (consA (nmE 1) (consA (fun _ => ER.ok (PV.sc (V.ref (He.ga K "Placing")))) nilA)) (isiA K [(He.ga K "Placing")]))) (andE (bind2s (bind1 (nmE 0) (fldP (He.ga K "Placing") "saves")) (bind1 (nmE 1) (fldP (He.ga K "Placing") "saves")) fun p q => (eqP p q).map V.bl) (bind2s (bind1 (nmE 0) (fldP (He.ga K "Placing") "backs")) (bind1 (nmE 1) (fldP (He.ga K "Placing") "backs")) fun p q => (eqP p q).map V.bl))))) ρ
def s_Placing_eq (K : Fg) : PEnv → SR := (t_Placing_eq_0 K)
def m_Placing_eq (K : Fg) : List PV → FR := fnM 2 0 [0, 1] (s_Placing_eq K)
@[simp] def t_check_places_0 (K : Fg) (ρ : PEnv) : SR := (raiseG (He.ga K "BadPlace") "number" (vG (nmE 2))) ρ
@[simp] def t_check_places_1 (K : Fg) (ρ : PEnv) : SR := (ifG (fun ρ => ((bind2b (nmE 2) (bind1 (nmE 0) (fldP (He.ga K "Web") "places")) geI) ρ).at ρ) (t_check_places_0 K)
    skipS) ρ
@[simp] def t_check_places_2 (K : Fg) (ρ : PEnv) : SR := (forG (iterI (vG (bind1 (nmE 1) (fldP (He.ga K "Lot") "places"))) seqF) (nmT 2)
    (t_check_places_1 K)) ρ
def s_check_places (K : Fg) : PEnv → SR := (t_check_places_2 K)
def m_check_places (K : Fg) : List PV → FR := fnM 2 1 [0, 1] (s_check_places K)
@[simp] def t_Web_gates_0 (K : Fg) (ρ : PEnv) : SR := (retG (fG (bind2 (frzE (bind2 (frzE (bindA (consA (bind1 (nmE 0) (fldP (He.ga K "Web") "edges")) nilA) lenA)) (fun _ => ER.ok (PV.sc (V.int 1))) addU)) (frzE (bindA (consA (bind1 (nmE 0) (fldP (He.ga K "Web") "exits")) nilA) lenA)) addU))) ρ
def s_Web_gates (K : Fg) : PEnv → SR := (t_Web_gates_0 K)
def m_Web_gates (K : Fg) : List PV → FR := fnM 1 0 [0] (s_Web_gates K)
@[simp] def t_check_gate_0 (K : Fg) (ρ : PEnv) : SR := (raiseG (He.ga K "NoGate") "number" (vG (nmE 1))) ρ
@[simp] def t_check_gate_1 (K : Fg) (ρ : PEnv) : SR := (ifG (fun ρ => ((notE (tstE (chainE (fun _ => ER.ok (PV.sc (V.int 0))) (nmE 1) (frzE (bind1 (nmE 0) (ow1 (He.ga K "Web") (m_Web_gates K)))) leI ltI))) ρ).at ρ) (t_check_gate_0 K)
    skipS) ρ
def s_check_gate (K : Fg) : PEnv → SR := (t_check_gate_1 K)
def m_check_gate (K : Fg) : List PV → FR := fnM 2 0 [0, 1] (s_check_gate K)
@[simp] def t_Web_ends_0 (K : Fg) (ρ : PEnv) : SR := (setG 2 (frzG (fG (bindA (consA (bind1 (nmE 0) (fldP (He.ga K "Web") "edges")) nilA) lenA)))) ρ
@[simp] def t_Web_ends_1 (K : Fg) (ρ : PEnv) : SR := (dropG (callM (m_check_gate K) (vlAg (vG (nmE 0)) (vlAg (vG (nmE 1)) nilAg)))) ρ
@[simp] def t_Web_ends_2 (K : Fg) (ρ : PEnv) : SR := (retG (vG (bind2 (bind1 (nmE 0) (fldP (He.ga K "Web") "edges")) (nmE 1) ixP))) ρ
@[simp] def t_Web_ends_3 (K : Fg) (ρ : PEnv) : SR := (ifG (fun ρ => ((bind2b (nmE 1) (nmE 2) ltI) ρ).at ρ) (t_Web_ends_2 K)
    skipS) ρ
@[simp] def t_Web_ends_4 (K : Fg) (ρ : PEnv) : SR := (retG (fG (bindA (consA (fun _ => ER.ok (PV.sc (V.int (-1)))) (consA (bind1 (nmE 0) (fldP (He.ga K "Web") "entry")) nilA)) displayT))) ρ
@[simp] def t_Web_ends_5 (K : Fg) (ρ : PEnv) : SR := (ifG (fun ρ => ((bind2b (nmE 1) (nmE 2) eqP) ρ).at ρ) (t_Web_ends_4 K)
    skipS) ρ
@[simp] def t_Web_ends_6 (K : Fg) (ρ : PEnv) : SR := (retG (fG (bindA (consA (bind2 (bind1 (nmE 0) (fldP (He.ga K "Web") "exits")) (bind2s (bind2s (nmE 1) (nmE 2) subI) (fun _ => ER.ok (PV.sc (V.int 1))) subI) ixP) (consA (fun _ => ER.ok (PV.sc (V.int (-1)))) nilA)) displayT))) ρ
def s_Web_ends (K : Fg) : PEnv → SR := (seqS (t_Web_ends_0 K)
    (seqS (t_Web_ends_1 K)
    (seqS (t_Web_ends_3 K)
    (seqS (t_Web_ends_5 K)
    (t_Web_ends_6 K)))))
def m_Web_ends (K : Fg) : List PV → FR := fnM 2 1 [0, 1] (s_Web_ends K)
@[simp] def t_mark_of_0 (K : Fg) (ρ : PEnv) : SR := (asgG (tupT 2 (consT (nmT 3) (consT (nmT 4) nilT))) (frzG (callM (m_Web_ends K) (recvM (He.ga K "Web") "ends" (vG (nmE 0)) (vlAg (vG (nmE 2)) nilAg))))) ρ
@[simp] def t_mark_of_1 (K : Fg) (ρ : PEnv) : SR := (retG (vG (fun _ => ER.ok (PV.sc (V.str ("save" : Str)))))) ρ
@[simp] def t_mark_of_2 (K : Fg) (ρ : PEnv) : SR := (ifG (fun ρ => ((andB (bind2b (nmE 3) (bind1 (nmE 1) (fldP (He.ga K "Lot") "places")) (inP true)) (bind2b (nmE 4) (bind1 (nmE 1) (fldP (He.ga K "Lot") "places")) (inP false))) ρ).at ρ) (t_mark_of_1 K)
    skipS) ρ
@[simp] def t_mark_of_3 (K : Fg) (ρ : PEnv) : SR := (retG (vG (fun _ => ER.ok (PV.sc (V.str ("back" : Str)))))) ρ
@[simp] def t_mark_of_4 (K : Fg) (ρ : PEnv) : SR := (ifG (fun ρ => ((andB (bind2b (nmE 3) (bind1 (nmE 1) (fldP (He.ga K "Lot") "places")) (inP false)) (bind2b (nmE 4) (bind1 (nmE 1) (fldP (He.ga K "Lot") "places")) (inP true))) ρ).at ρ) (t_mark_of_3 K)
    skipS) ρ
@[simp] def t_mark_of_5 (K : Fg) (ρ : PEnv) : SR := (retG (vG (fun _ => ER.ok (PV.sc V.non)))) ρ
def s_mark_of (K : Fg) : PEnv → SR := (seqS (t_mark_of_0 K)
    (seqS (t_mark_of_2 K)
    (seqS (t_mark_of_4 K)
    (t_mark_of_5 K))))
def m_mark_of (K : Fg) : List PV → FR := fnM 3 2 [0, 1, 2] (s_mark_of K)
@[simp] def t_placing_of_0 (K : Fg) (ρ : PEnv) : SR := (dropG (callM (m_check_places K) (vlAg (vG (nmE 0)) (vlAg (vG (nmE 1)) nilAg)))) ρ
@[simp] def t_placing_of_1 (K : Fg) (ρ : PEnv) : SR := (setG 2 (frzG (compG (iterA (consG (frzG (fG (bind1 (nmE 0) (ow1 (He.ga K "Web") (m_Web_gates K))))) nilG) rngK1) (nmT 3) yesG (frzG (callM (m_mark_of K) (vlAg (vG (nmE 0)) (vlAg (vG (nmE 1)) (vlAg (vG (nmE 3)) nilAg))))) [3]))) ρ
@[simp] def t_placing_of_2 (K : Fg) (ρ : PEnv) : SR := (setG 4 (frzG (compG (iterA (consG (vG (nmE 2)) nilG) enumK) (tupT 2 (consT (nmT 3) (consT (nmT 5) nilT))) (fun ρ => ((bind2b (nmE 5) (fun _ => ER.ok (PV.sc (V.str ("save" : Str)))) eqP) ρ).at ρ) (vG (nmE 3)) [3, 5]))) ρ
@[simp] def t_placing_of_3 (K : Fg) (ρ : PEnv) : SR := (retG (makeM (He.ga K "Placing") (m_Placing_init K) (vlAg (vG (nmE 4)) (vlAg (frzG (compG (iterA (consG (vG (nmE 2)) nilG) enumK) (tupT 2 (consT (nmT 3) (consT (nmT 5) nilT))) (fun ρ => ((bind2b (nmE 5) (fun _ => ER.ok (PV.sc (V.str ("back" : Str)))) eqP) ρ).at ρ) (vG (nmE 3)) [3, 5])) nilAg)))) ρ
@[simp] def t_good_edge_0 (K : Fg) (ρ : PEnv) : SR := (retG (vG (andE (bind2s (frzE (bindA (consA (nmE 0) nilA) lenA)) (fun _ => ER.ok (PV.sc (V.int 2))) fun p q => (eqP p q).map V.bl) (andE (chainE (fun _ => ER.ok (PV.sc (V.int 0))) (bind2 (nmE 0) (fun _ => ER.ok (PV.sc (V.int 0))) ixP) (nmE 1) leI ltI) (chainE (fun _ => ER.ok (PV.sc (V.int 0))) (bind2 (nmE 0) (fun _ => ER.ok (PV.sc (V.int 1))) ixP) (nmE 1) leI ltI))))) ρ
def s_good_edge (K : Fg) : PEnv → SR := (t_good_edge_0 K)
def m_good_edge (K : Fg) : List PV → FR := fnM 2 0 [0, 1] (s_good_edge K)
@[simp] def t_reached_0 (K : Fg) (ρ : PEnv) : SR := (setG 2 (dcG (iterI (vG (nmE 1)) seqF) (nmT 3) yesG (vG (nmE 3)) (vG (fun _ => ER.ok (PV.sc (V.bl true)))) [3])) ρ
@[simp] def t_reached_1 (K : Fg) (ρ : PEnv) : SR := (setG 4 (fG (bindA (consA (nmE 1) nilA) listA))) ρ
@[simp] def t_reached_2 (K : Fg) (ρ : PEnv) : SR := (setG 3 (mutE 4 nilG popA)) ρ
@[simp] def t_reached_3 (K : Fg) (ρ : PEnv) : SR := (setP 2 [] (nmE 6) (vG (fun _ => ER.ok (PV.sc (V.bl true))))) ρ
@[simp] def t_reached_4 (K : Fg) (ρ : PEnv) : SR := (dropG (mutE 4 (consG (vG (nmE 6)) nilG) appA)) ρ
@[simp] def t_reached_5 (K : Fg) (ρ : PEnv) : SR := (ifG (fun ρ => ((andB (bind2b (nmE 5) (nmE 3) eqP) (bind2b (nmE 6) (nmE 2) (inU true))) ρ).at ρ) (seqS (t_reached_3 K)
    (t_reached_4 K))
    skipS) ρ
@[simp] def t_reached_6 (K : Fg) (ρ : PEnv) : SR := (forG (iterI (vG (nmE 0)) seqF) (tupT 2 (consT (nmT 5) (consT (nmT 6) nilT)))
    (t_reached_5 K)) ρ
@[simp] def t_reached_7 (K : Fg) (ρ : PEnv) : SR := (whileG (fun ρ => ((truE (nmE 4)) ρ).at ρ) (seqS (t_reached_2 K)
    (t_reached_6 K))) ρ
@[simp] def t_reached_8 (K : Fg) (ρ : PEnv) : SR := (retG (mvE 2)) ρ
def s_reached (K : Fg) : PEnv → SR := (seqS (t_reached_0 K)
    (seqS (t_reached_1 K)
    (seqS (t_reached_7 K)
    (t_reached_8 K))))
def m_reached (K : Fg) : List PV → FR := fnM 2 5 [0, 1] (s_reached K)
@[simp] def t_Web_check_idle_0 (K : Fg) (ρ : PEnv) : SR := (setG 1 (frzG (callM (m_reached K) (vlAg (vG (bind1 (nmE 0) (fldP (He.ga K "Web") "edges"))) (vlAg (frzG (fG (bindA (consA (bind1 (nmE 0) (fldP (He.ga K "Web") "entry")) nilA) displayL))) nilAg))))) ρ
@[simp] def t_Web_check_idle_1 (K : Fg) (ρ : PEnv) : SR := (setG 2 (frzG (callM (m_reached K) (vlAg (frzG (compG (iterI (vG (bind1 (nmE 0) (fldP (He.ga K "Web") "edges"))) seqF) (tupT 2 (consT (nmT 3) (consT (nmT 4) nilT))) yesG (frzG (fG (bindA (consA (nmE 4) (consA (nmE 3) nilA)) displayT))) [3, 4])) (vlAg (vG (bind1 (nmE 0) (fldP (He.ga K "Web") "exits"))) nilAg))))) ρ
@[simp] def t_Web_check_idle_2 (K : Fg) (ρ : PEnv) : SR := (raiseG (He.ga K "Idle") "place" (vG (nmE 5))) ρ
@[simp] def t_Web_check_idle_3 (K : Fg) (ρ : PEnv) : SR := (ifG (fun ρ => ((orB (bind2b (nmE 5) (nmE 1) (inU true)) (bind2b (nmE 5) (nmE 2) (inU true))) ρ).at ρ) (t_Web_check_idle_2 K)
    skipS) ρ
@[simp] def t_Web_check_idle_4 (K : Fg) (ρ : PEnv) : SR := (forG (iterA (consG (vG (bind1 (nmE 0) (fldP (He.ga K "Web") "places"))) nilG) rngK1) (nmT 5)
    (t_Web_check_idle_3 K)) ρ
def s_Web_check_idle (K : Fg) : PEnv → SR := (seqS (t_Web_check_idle_0 K)
    (seqS (t_Web_check_idle_1 K)
    (t_Web_check_idle_4 K)))
def m_Web_check_idle (K : Fg) : List PV → FR := fnM 1 5 [0] (s_Web_check_idle K)
@[simp] def t_Web_init_0 (K : Fg) (ρ : PEnv) : SR := (setG 5 (frzG (bindGA (consG (frzG (compG (iterI (vG (nmE 2)) seqF) (nmT 6) yesG (frzG (fG (bindA (consA (nmE 6) nilA) tupA))) [6])) nilG) tupA))) ρ
@[simp] def t_Web_init_1 (K : Fg) (ρ : PEnv) : SR := (raiseG (He.ga K "BadPlaces") "count" (vG (nmE 1))) ρ
@[simp] def t_Web_init_2 (K : Fg) (ρ : PEnv) : SR := (ifG (fun ρ => ((notE (tstE (chainE (fun _ => ER.ok (PV.sc (V.int 1))) (nmE 1) (fun _ => ER.ok (PV.sc (V.int 24))) leI leI))) ρ).at ρ) (t_Web_init_1 K)
    skipS) ρ
@[simp] def t_Web_init_3 (K : Fg) (ρ : PEnv) : SR := (raiseG (He.ga K "BadEdges") "count" (frzG (fG (bindA (consA (nmE 5) nilA) lenA)))) ρ
@[simp] def t_Web_init_4 (K : Fg) (ρ : PEnv) : SR := (ifG (fun ρ => ((bind2b (frzE (bindA (consA (nmE 5) nilA) lenA)) (fun _ => ER.ok (PV.sc (V.int 80))) gtI) ρ).at ρ) (t_Web_init_3 K)
    skipS) ρ
@[simp] def t_Web_init_5 (K : Fg) (ρ : PEnv) : SR := (raiseG (He.ga K "BadEdge") "index" (vG (nmE 7))) ρ
@[simp] def t_Web_init_6 (K : Fg) (ρ : PEnv) : SR := (ifG (orG (notG (truG (frzG (callM (m_good_edge K) (vlAg (vG (nmE 6)) (vlAg (vG (nmE 1)) nilAg)))))) (fun ρ => ((bind2b (nmE 6) (frzE (slE (nmE 5) noPo (soPo (nmE 7)))) (inP false)) ρ).at ρ)) (t_Web_init_5 K)
    skipS) ρ
@[simp] def t_Web_init_7 (K : Fg) (ρ : PEnv) : SR := (forG (iterA (consG (vG (nmE 5)) nilG) enumK) (tupT 2 (consT (nmT 7) (consT (nmT 6) nilT)))
    (t_Web_init_6 K)) ρ
@[simp] def t_Web_init_8 (K : Fg) (ρ : PEnv) : SR := (raiseG (He.ga K "BadEntry") "place" (vG (nmE 3))) ρ
@[simp] def t_Web_init_9 (K : Fg) (ρ : PEnv) : SR := (ifG (fun ρ => ((notE (tstE (chainE (fun _ => ER.ok (PV.sc (V.int 0))) (nmE 3) (nmE 1) leI ltI))) ρ).at ρ) (t_Web_init_8 K)
    skipS) ρ
@[simp] def t_Web_init_10 (K : Fg) (ρ : PEnv) : SR := (raise0G (He.ga K "NoExits")) ρ
@[simp] def t_Web_init_11 (K : Fg) (ρ : PEnv) : SR := (ifG (fun ρ => ((bind2b (frzE (bindA (consA (nmE 4) nilA) lenA)) (fun _ => ER.ok (PV.sc (V.int 0))) eqP) ρ).at ρ) (t_Web_init_10 K)
    skipS) ρ
@[simp] def t_Web_init_12 (K : Fg) (ρ : PEnv) : SR := (raiseG (He.ga K "BadExit") "place" (vG (nmE 8))) ρ
@[simp] def t_Web_init_13 (K : Fg) (ρ : PEnv) : SR := (ifG (fun ρ => ((notE (tstE (chainE (fun _ => ER.ok (PV.sc (V.int 0))) (nmE 8) (nmE 1) leI ltI))) ρ).at ρ) (t_Web_init_12 K)
    skipS) ρ
@[simp] def t_Web_init_14 (K : Fg) (ρ : PEnv) : SR := (forG (iterI (vG (nmE 4)) seqF) (nmT 8)
    (t_Web_init_13 K)) ρ
@[simp] def t_Web_init_15 (K : Fg) (ρ : PEnv) : SR := (setFldG 0 (He.ga K "Web") "places" (vG (nmE 1))) ρ
@[simp] def t_Web_init_16 (K : Fg) (ρ : PEnv) : SR := (setFldG 0 (He.ga K "Web") "edges" (vG (nmE 5))) ρ
@[simp] def t_Web_init_17 (K : Fg) (ρ : PEnv) : SR := (setFldG 0 (He.ga K "Web") "entry" (vG (nmE 3))) ρ
@[simp] def t_Web_init_18 (K : Fg) (ρ : PEnv) : SR := (setFldG 0 (He.ga K "Web") "exits" (frzG (bindGA (consG (frzG (compG (iterA (consG (vG (nmE 1)) nilG) rngK1) (nmT 8) (fun ρ => ((bind2b (nmE 8) (nmE 4) (inP false)) ρ).at ρ) (vG (nmE 8)) [8])) nilG) tupA))) ρ
@[simp] def t_Web_init_19 (K : Fg) (ρ : PEnv) : SR := (dropG (callM (m_Web_check_idle K) (recvP (He.ga K "Web") "check_idle" 0 nilAg))) ρ
def s_Web_init (K : Fg) : PEnv → SR := (seqS (t_Web_init_0 K)
    (seqS (t_Web_init_2 K)
    (seqS (t_Web_init_4 K)
    (seqS (t_Web_init_7 K)
    (seqS (t_Web_init_9 K)
    (seqS (t_Web_init_11 K)
    (seqS (t_Web_init_14 K)
    (seqS (t_Web_init_15 K)
    (seqS (t_Web_init_16 K)
    (seqS (t_Web_init_17 K)
    (seqS (t_Web_init_18 K)
    (t_Web_init_19 K))))))))))))
def m_Web_init (K : Fg) : List PV → FR := fnM 5 4 [0, 1, 2, 3, 4] (s_Web_init K)
@[simp] def t_law_ahead_0 (K : Fg) (ρ : PEnv) : SR := (setG 2 (fG (bindA (consA (nmE 1) nilA) listA))) ρ
@[simp] def t_law_ahead_1 (K : Fg) (ρ : PEnv) : SR := (dropG (mutE 2 (consG (vG (nmE 4)) nilG) appA)) ρ
@[simp] def t_law_ahead_2 (K : Fg) (ρ : PEnv) : SR := (ifG (fun ρ => ((andB (bind2b (nmE 5) (nmE 2) (inP false)) (bind2b (nmE 4) (nmE 2) (inP true))) ρ).at ρ) (t_law_ahead_1 K)
    skipS) ρ
@[simp] def t_law_ahead_3 (K : Fg) (ρ : PEnv) : SR := (forG (iterI (vG (nmE 0)) seqF) (tupT 2 (consT (nmT 4) (consT (nmT 5) nilT)))
    (t_law_ahead_2 K)) ρ
@[simp] def t_law_ahead_4 (K : Fg) (ρ : PEnv) : SR := (forG (iterA (consG (frzG (fG (bindA (consA (nmE 0) nilA) lenA))) nilG) rngK1) (nmT 3)
    (t_law_ahead_3 K)) ρ
@[simp] def t_law_ahead_5 (K : Fg) (ρ : PEnv) : SR := (retG (mvE 2)) ρ
def s_law_ahead (K : Fg) : PEnv → SR := (seqS (t_law_ahead_0 K)
    (seqS (t_law_ahead_4 K)
    (t_law_ahead_5 K)))
def m_law_ahead (K : Fg) : List PV → FR := fnM 2 4 [0, 1] (s_law_ahead K)
@[simp] def t_law_web_0 (K : Fg) (ρ : PEnv) : SR := (setG 3 (frzG (bindG2 (vG (fun _ => ER.ok (PV.sc (V.int 1)))) (frzG (callM (m_law_draw K) (plAg 0 (vlAg (vG (nmE 1)) nilAg)))) addU))) ρ
@[simp] def t_law_web_1 (K : Fg) (ρ : PEnv) : SR := (setG 4 (fG (bindA nilA displayL))) ρ
@[simp] def t_law_web_2 (K : Fg) (ρ : PEnv) : SR := (dropG (mutE 4 (consG (frzG (callM (m_law_draw K) (plAg 0 (vlAg (frzG (fG (bind2 (nmE 5) (fun _ => ER.ok (PV.sc (V.int 1))) addU))) nilAg)))) (consG (vG (nmE 5)) nilG)) insA)) ρ
@[simp] def t_law_web_3 (K : Fg) (ρ : PEnv) : SR := (forG (iterA (consG (vG (nmE 3)) nilG) rngK1) (nmT 5)
    (t_law_web_2 K)) ρ
@[simp] def t_law_web_4 (K : Fg) (ρ : PEnv) : SR := (setG 6 (fG (bindA nilA displayL))) ρ
@[simp] def t_law_web_5 (K : Fg) (ρ : PEnv) : SR := (dropG (mutE 6 (consG (frzG (callM (m_law_draw K) (plAg 0 (vlAg (vG (nmE 7)) nilAg)))) (consG (frzG (bindGA (consG (ixG 4 (frzG (callM (m_law_draw K) (plAg 0 (vlAg (vG (nmE 7)) nilAg))))) (consG (vG (bind2 (nmE 4) (nmE 7) ixP)) nilG)) displayT)) nilG)) insA)) ρ
@[simp] def t_law_web_6 (K : Fg) (ρ : PEnv) : SR := (forG (iterA (consG (vG (fun _ => ER.ok (PV.sc (V.int 1)))) (consG (vG (nmE 3)) nilG)) rngK2) (nmT 7)
    (t_law_web_5 K)) ρ
@[simp] def t_law_web_7 (K : Fg) (ρ : PEnv) : SR := (setG 8 (frzG (bindGA (consG (frzG (callM (m_law_draw K) (plAg 0 (vlAg (vG (nmE 3)) nilAg)))) (consG (frzG (callM (m_law_draw K) (plAg 0 (vlAg (vG (nmE 3)) nilAg)))) nilG)) displayT))) ρ
@[simp] def t_law_web_8 (K : Fg) (ρ : PEnv) : SR := (dropG (mutE 6 (consG (frzG (callM (m_law_draw K) (plAg 0 (vlAg (frzG (fG (bind2 (frzE (bindA (consA (nmE 6) nilA) lenA)) (fun _ => ER.ok (PV.sc (V.int 1))) addU))) nilAg)))) (consG (vG (nmE 8)) nilG)) insA)) ρ
@[simp] def t_law_web_9 (K : Fg) (ρ : PEnv) : SR := (ifG (fun ρ => ((bind2b (nmE 8) (nmE 6) (inP true)) ρ).at ρ) (t_law_web_8 K)
    skipS) ρ
@[simp] def t_law_web_10 (K : Fg) (ρ : PEnv) : SR := (forG (iterA (consG (frzG (callM (m_law_draw K) (plAg 0 (vlAg (frzG (fG (bind2 (nmE 2) (fun _ => ER.ok (PV.sc (V.int 1))) addU))) nilAg)))) nilG) rngK1) (nmT 7)
    (seqS (t_law_web_7 K)
    (t_law_web_9 K))) ρ
@[simp] def t_law_web_11 (K : Fg) (ρ : PEnv) : SR := (setG 9 (compG (iterA (consG (vG (nmE 3)) nilG) rngK1) (nmT 5) (bindG2b (frzG (callM (m_law_draw K) (plAg 0 (vlAg (vG (fun _ => ER.ok (PV.sc (V.int 3)))) nilAg)))) (vG (fun _ => ER.ok (PV.sc (V.int 0)))) eqP) (vG (nmE 5)) [5])) ρ
@[simp] def t_law_web_12 (K : Fg) (ρ : PEnv) : SR := (setG 9 (bindGA (consG (frzG (callM (m_law_draw K) (plAg 0 (vlAg (vG (nmE 3)) nilAg)))) nilG) displayL)) ρ
@[simp] def t_law_web_13 (K : Fg) (ρ : PEnv) : SR := (ifG (fun ρ => ((bind2b (nmE 9) (frzE (bindA nilA displayL)) eqP) ρ).at ρ) (t_law_web_12 K)
    skipS) ρ
@[simp] def t_law_web_14 (K : Fg) (ρ : PEnv) : SR := (dropG (mutE 6 (consG (frzG (callM (m_law_draw K) (plAg 0 (vlAg (frzG (fG (bind2 (frzE (bindA (consA (nmE 6) nilA) lenA)) (fun _ => ER.ok (PV.sc (V.int 1))) addU))) nilAg)))) (consG (frzG (bindGA (consG (vG (nmE 5)) (consG (ixG 9 (frzG (callM (m_law_draw K) (plAg 0 (vlAg (frzG (fG (bindA (consA (nmE 9) nilA) lenA))) nilAg))))) nilG)) displayT)) nilG)) insA)) ρ
@[simp] def t_law_web_15 (K : Fg) (ρ : PEnv) : SR := (dropG (mutE 9 (consG (frzG (callM (m_law_draw K) (plAg 0 (vlAg (frzG (fG (bind2 (frzE (bindA (consA (nmE 9) nilA) lenA)) (fun _ => ER.ok (PV.sc (V.int 1))) addU))) nilAg)))) (consG (vG (nmE 5)) nilG)) insA)) ρ
@[simp] def t_law_web_16 (K : Fg) (ρ : PEnv) : SR := (ifG (bindG2b (frzG (callM (m_law_draw K) (plAg 0 (vlAg (vG (fun _ => ER.ok (PV.sc (V.int 2)))) nilAg)))) (vG (fun _ => ER.ok (PV.sc (V.int 0)))) eqP) (t_law_web_14 K)
    (t_law_web_15 K)) ρ
@[simp] def t_law_web_17 (K : Fg) (ρ : PEnv) : SR := (ifG (bindG2b (vG (nmE 5)) (frzG (lendG 6 (callM (m_law_ahead K) (vlAg (vG (nmE 6)) (plAg 9 nilAg))))) (inP true)) (t_law_web_16 K)
    skipS) ρ
@[simp] def t_law_web_18 (K : Fg) (ρ : PEnv) : SR := (forG (iterA (consG (vG (nmE 3)) nilG) rngK1) (nmT 5)
    (t_law_web_17 K)) ρ
@[simp] def t_law_web_19 (K : Fg) (ρ : PEnv) : SR := (retG (bindGA (consG (vG (nmE 3)) (consG (frE 6) (consG (vG (bind2 (nmE 4) (fun _ => ER.ok (PV.sc (V.int 0))) ixP)) (consG (frE 9) nilG)))) displayT)) ρ
end
end SP
namespace SP
noncomputable section
open PySem PySem.Spec PyProof.Rows L2 RL
@[simp] def t_Web_eq_0 (K : Fg) (ρ : PEnv) : SR := (retG (vG (fun _ => ER.ok (PV.sc (V.bl false))))) ρ
@[simp] def t_Web_eq_1 (K : Fg) (ρ : PEnv) : SR := (ifG (fun ρ => ((notE (truE (frzE (bindA (consA (nmE 1) (consA (fun _ => ER.ok (PV.sc (V.ref (He.ga K "Web")))) nilA)) (isiA K [(He.ga K "Web")]))))) ρ).at ρ) (t_Web_eq_0 K)
    skipS) ρ
@[simp] def t_Web_eq_2 (K : Fg) (ρ : PEnv) : SR := (setG 2 (frzG (fG (bindA (consA (bind1 (nmE 0) (fldP (He.ga K "Web") "places")) (consA (bind1 (nmE 0) (fldP (He.ga K "Web") "edges")) (consA (bind1 (nmE 0) (fldP (He.ga K "Web") "entry")) (consA (bind1 (nmE 0) (fldP (He.ga K "Web") "exits")) nilA)))) displayT)))) ρ
@[simp] def t_Web_eq_3 (K : Fg) (ρ : PEnv) : SR := (retG (vG (bind2s (nmE 2) (frzE (bindA (consA (bind1 (nmE 1) (fldP (He.ga K "Web") "places")) (consA (bind1 (nmE 1) (fldP (He.ga K "Web") "edges")) (consA (bind1 (nmE 1) (fldP (He.ga K "Web") "entry")) (consA (bind1 (nmE 1) (fldP (He.ga K "Web") "exits")) nilA)))) displayT)) fun p q => (eqP p q).map V.bl))) ρ
def s_Web_eq (K : Fg) : PEnv → SR := (seqS (t_Web_eq_1 K)
    (seqS (t_Web_eq_2 K)
    (t_Web_eq_3 K)))
def m_Web_eq (K : Fg) : List PV → FR := fnM 2 1 [0, 1] (s_Web_eq K)
@[simp] def t_Web_gate_in_0 (K : Fg) (ρ : PEnv) : SR := (retG (fG (bindA (consA (bind1 (nmE 0) (fldP (He.ga K "Web") "edges")) nilA) lenA))) ρ
def s_Web_gate_in (K : Fg) : PEnv → SR := (t_Web_gate_in_0 K)
def m_Web_gate_in (K : Fg) : List PV → FR := fnM 1 0 [0] (s_Web_gate_in K)
@[simp] def t_Web_gate_out_0 (K : Fg) (ρ : PEnv) : SR := (retG (fG (bind2 (frzE (bind2 (frzE (bindA (consA (bind1 (nmE 0) (fldP (He.ga K "Web") "edges")) nilA) lenA)) (fun _ => ER.ok (PV.sc (V.int 1))) addU)) (nmE 2) addU))) ρ
@[simp] def t_Web_gate_out_1 (K : Fg) (ρ : PEnv) : SR := (ifG (fun ρ => ((bind2b (nmE 3) (nmE 1) eqP) ρ).at ρ) (t_Web_gate_out_0 K)
    skipS) ρ
@[simp] def t_Web_gate_out_2 (K : Fg) (ρ : PEnv) : SR := (forG (iterA (consG (vG (bind1 (nmE 0) (fldP (He.ga K "Web") "exits"))) nilG) enumK) (tupT 2 (consT (nmT 2) (consT (nmT 3) nilT)))
    (t_Web_gate_out_1 K)) ρ
@[simp] def t_Web_gate_out_3 (K : Fg) (ρ : PEnv) : SR := (raiseG (He.ga K "BadExit") "place" (vG (nmE 1))) ρ
def s_Web_gate_out (K : Fg) : PEnv → SR := (seqS (t_Web_gate_out_2 K)
    (t_Web_gate_out_3 K))
def m_Web_gate_out (K : Fg) : List PV → FR := fnM 2 2 [0, 1] (s_Web_gate_out K)
@[simp] def t_law_made_0 (K : Fg) (ρ : PEnv) : SR := (asgG (tupT 4 (consT (nmT 1) (consT (nmT 2) (consT (nmT 3) (consT (nmT 4) nilT))))) (vG (nmE 0))) ρ
@[simp] def t_law_made_1 (K : Fg) (ρ : PEnv) : SR := (retG (makeM (He.ga K "Web") (m_Web_init K) (vlAg (vG (nmE 1)) (vlAg (vG (nmE 2)) (vlAg (vG (nmE 3)) (vlAg (vG (nmE 4)) nilAg)))))) ρ
@[simp] def t_law_gates_0 (K : Fg) (ρ : PEnv) : SR := (asgG (tupT 4 (consT (nmT 1) (consT (nmT 2) (consT (nmT 3) (consT (nmT 4) nilT))))) (vG (nmE 0))) ρ
@[simp] def t_law_gates_1 (K : Fg) (ρ : PEnv) : SR := (retG (bindG2 (frzG (fG (bind2 (frzE (bindA (consA (nmE 2) nilA) listA)) (frzE (bindA (consA (frzE (bindA (consA (bind1s (fun _ => ER.ok (PV.sc (V.int 1))) negV) (consA (nmE 3) nilA)) displayT)) nilA) displayL)) addU))) (frzG (compG (iterA (consG (vG (nmE 1)) nilG) rngK1) (nmT 5) (fun ρ => ((bind2b (nmE 5) (nmE 4) (inP false)) ρ).at ρ) (frzG (fG (bindA (consA (nmE 5) (consA (bind1s (fun _ => ER.ok (PV.sc (V.int 1))) negV) nilA)) displayT))) [5])) addU)) ρ
end
end SP
namespace TP
open PySem PySem.Spec PyProof.Rows L2 RL SP TL
structure TWeb where
  places : Int
  edges : List (Int × Int)
  entry : Int
  exits : List Int
structure TLot where
  places : List Int
structure TPlacing where
  saves : List Int
  backs : List Int
end TP
section
set_option maxHeartbeats 0
namespace TP
open PySem PySem.Spec PyProof.Rows L2 RL SP TL
variable {K : Fg}
@[irreducible] def T_law_pool (q15 : (List Int)) : FT (Unit) (Unit) ((List Int) × Int × Int × Int × Int) :=
  runE (M := Unit) (X := Unit) (.rt () (q15, 0, 0, 0, 7))
theorem w_law_pool {a1 : Addr} {q15 : (List Int)} : SimF K (m_law_pool K [(PV.lsk a1 (List.map PV.int q15))]) (T_law_pool q15) (fun x : ((List Int) × Int × Int × Int × Int) => (PV.lst true [(PV.lsk a1 (List.map PV.int x.1)), (PV.int x.2.1), (PV.int x.2.2.1), (PV.int x.2.2.2.1), (PV.int x.2.2.2.2)])) (fun m => [(PV.lsk a1 (List.map PV.int q15))]) (fun m os => os = [(PV.lsk a1 (List.map PV.int q15))]) :=
  by
  unfold T_law_pool m_law_pool;refine f_E' (s := t_law_pool_0 K) (ρ0 := [some (PV.lsk a1 (List.map PV.int q15))]) (by rfl) (by rfl) ?_
  refine s_last (s_ret (g_f (e_A (e_cons (e_nm rfl) (e_cons rfl (e_cons rfl (e_cons rfl (e_cons rfl e_nil))))) (o_disL rfl rfl)) ?_));exact k_rt (And.intro rfl rfl)
@[irreducible] def T_law_draw (q14 : ((List Int) × Int × Int × Int × Int)) (q12 : Int) : FT (((List Int) × Int × Int × Int × Int)) (((List Int) × Int × Int × Int × Int)) Int :=
  runE (M := ((List Int) × Int × Int × Int × Int)) (X := ((List Int) × Int × Int × Int × Int)) (letT (q14.1, (q14.2.1 + 1), q14.2.2.1, q14.2.2.2.1, q14.2.2.2.2) fun v1 : ((List Int) × Int × Int × Int × Int) => (TS.bind (if ((decide ((v1.2.2.2.1 : Int) = 0)) && (decide (v1.2.2.1 < (v1.1.length : Int)))) = true then (oB (atI v1.1 v1.2.2.1) fun y2 => (letT (absZ y2) fun v4 : Int => (letT (v1.1, v1.2.1, (v1.2.2.1 + 1), v1.2.2.2.1, v1.2.2.2.2) fun v5 : ((List Int) × Int × Int × Int × Int) => (if (decide (((10 : Int) ^ (Int.toNat 18)) ≤ v4)) = true then (letT (v5.1, v5.2.1, v5.2.2.1, v4, v5.2.2.2.2) fun v6 : ((List Int) × Int × Int × Int × Int) => (.nx v6)) else (letT (v5.1, v5.2.1, v5.2.2.1, v5.2.2.2.1, ((((v5.2.2.2.2 + v4) + 1) * 48271) % 2147483629)) fun v7 : ((List Int) × Int × Int × Int × Int) => (.nx v7)))))) else (.nx v1)) fun l8 : (((List Int) × Int × Int × Int × Int)) => (if (decide (0 < l8.2.2.2.1)) = true then (oB (modO l8.2.2.2.1 q12) fun y10 => (oB (divO l8.2.2.2.1 q12) fun y12 => (letT (l8.1, l8.2.1, l8.2.2.1, y12, l8.2.2.2.2) fun v14 : ((List Int) × Int × Int × Int × Int) => (.rt v14 y10)))) else (oB (powO (l8.2.2.2.2 + (l8.2.1 * 7919)) 3) fun y15 => (letT (y15 % 2147483647) fun v17 : Int => (oB (modO (v17 / 16) q12) fun y18 => (.rt l8 y18)))))))
theorem w_law_draw {a1 : Addr} {q14 : ((List Int) × Int × Int × Int × Int)} {q12 : Int} : SimF K (m_law_draw K [(PV.lst true [(PV.lsk a1 (List.map PV.int q14.1)), (PV.int q14.2.1), (PV.int q14.2.2.1), (PV.int q14.2.2.2.1), (PV.int q14.2.2.2.2)]), (PV.int q12)]) (T_law_draw q14 q12) PV.int (fun m => [(PV.lst true [(PV.lsk a1 (List.map PV.int m.1)), (PV.int m.2.1), (PV.int m.2.2.1), (PV.int m.2.2.2.1), (PV.int m.2.2.2.2)]), (PV.int q12)]) (fun m os => os = [(PV.lst true [(PV.lsk a1 (List.map PV.int m.1)), (PV.int m.2.1), (PV.int m.2.2.1), (PV.int m.2.2.2.1), (PV.int m.2.2.2.2)]), (PV.int q12)]) :=
  by
  unfold T_law_draw m_law_draw;refine f_E' (ρ0 := [some (PV.lst true [(PV.lsk a1 (List.map PV.int q14.1)), (PV.int q14.2.1), (PV.int q14.2.2.1), (PV.int q14.2.2.2.1), (PV.int q14.2.2.2.2)]), some (PV.int q12), none, none, none]) (by rfl) (by rfl) ?_
  refine s_seq (s_six (g_frz (g_f (e_2 (e_2 (e_nm rfl) rfl rfl) rfl (o_add _ _)) ?_)));refine k_frz ((fun _ => frz_sc _) _) ?_
  refine k_sixF (j := 1) (q14.1, (q14.2.1 + 1), q14.2.2.1, q14.2.2.2.1, q14.2.2.2.2) (fun v1 => [some (PV.lst true [(PV.lsk a1 (List.map PV.int v1.1)), (PV.int v1.2.1), (PV.int v1.2.2.1), (PV.int v1.2.2.2.1), (PV.int v1.2.2.2.2)]), some (PV.int q12), none, none, none]) rfl rfl rfl rfl fun v1 => ?_
  refine s_seq (s_if (g_at (e_and (e_2b (e_2 (e_nm rfl) rfl rfl) rfl ((Eq2.int 6).eqP v1.2.2.2.1 0)) (e_2b (e_2 (e_nm rfl) rfl rfl) (e_frz (e_A (e_cons (e_2 (e_nm rfl) rfl rfl) e_nil) (o_lenK)) ((fun _ => frz_sc _) _)) (o_lt _ _))) ?_))
  refine k_ifj (E1 := (fun (l8 : (((List Int) × Int × Int × Int × Int))) (ρ : PEnv) => ∃ o9 : Option PV, ρ = [some (PV.lst true [(PV.lsk a1 (List.map PV.int l8.1)), (PV.int l8.2.1), (PV.int l8.2.2.1), (PV.int l8.2.2.2.1), (PV.int l8.2.2.2.2)]), some (PV.int q12), o9, none, none])) (fun _ => ?_) (fun _ => ?_) (fun l8 rr hE => ?_)
  · refine s_seq (s_set (g_frz ?_));refine s_oB fun y2 h3 => (g_f (e_A (e_cons (e_2 (e_2 (e_nm rfl) rfl rfl) (e_2 (e_nm rfl) rfl rfl) (o_ixK h3)) e_nil) (o_abs _)) ?_)
    refine k_frz ((fun _ => frz_sc _) _) ?_
    refine k_setL (v := (absZ y2)) PV.int (fun v4 => [some (PV.lst true [(PV.lsk a1 (List.map PV.int v1.1)), (PV.int v1.2.1), (PV.int v1.2.2.1), (PV.int v1.2.2.2.1), (PV.int v1.2.2.2.2)]), some (PV.int q12), some (PV.int v4), none, none]) (fun _ => rfl) fun v4 => ?_
    refine s_seq (s_six (g_frz (g_f (e_2 (e_2 (e_nm rfl) rfl rfl) rfl (o_add _ _)) ?_)));refine k_frz ((fun _ => frz_sc _) _) ?_
    refine k_sixF (j := 2) (v1.1, v1.2.1, (v1.2.2.1 + 1), v1.2.2.2.1, v1.2.2.2.2) (fun v5 => [some (PV.lst true [(PV.lsk a1 (List.map PV.int v5.1)), (PV.int v5.2.1), (PV.int v5.2.2.1), (PV.int v5.2.2.2.1), (PV.int v5.2.2.2.2)]), some (PV.int q12), some (PV.int v4), none, none]) rfl rfl rfl rfl fun v5 => ?_
    refine s_last (s_if (g_at (e_2b (e_nm rfl) (e_2s rfl rfl (o_powL _ _ (by decide))) (o_ge _ _)) ?_))
    refine k_ifd (fun _ => ?_) (fun _ => ?_)
    · refine s_six (g_v (e_nm rfl) rfl ?_);refine k_sixF (j := 3) (v5.1, v5.2.1, v5.2.2.1, v4, v5.2.2.2.2) (fun v6 => [some (PV.lst true [(PV.lsk a1 (List.map PV.int v6.1)), (PV.int v6.2.1), (PV.int v6.2.2.1), (PV.int v6.2.2.2.1), (PV.int v6.2.2.2.2)]), some (PV.int q12), some (PV.int v4), none, none]) rfl rfl rfl rfl fun v6 => ?_
      exact s_end ⟨_, rfl⟩
    · refine s_six (g_v (e_2s (e_frz (e_A (e_cons (e_2s (e_frz (e_2 (e_frz (e_2 (e_2 (e_nm rfl) rfl rfl) (e_nm rfl) (o_add _ _)) ((fun _ => frz_sc _) _)) rfl (o_add _ _)) ((fun _ => frz_sc _) _)) rfl (o_mulL _ _ (by decide))) e_nil) (o_int _)) ((fun _ => frz_sc _) _)) rfl (o_modL _ _ (by decide))) rfl ?_)
      refine k_sixF (j := 4) (v5.1, v5.2.1, v5.2.2.1, v5.2.2.2.1, ((((v5.2.2.2.2 + v4) + 1) * 48271) % 2147483629)) (fun v7 => [some (PV.lst true [(PV.lsk a1 (List.map PV.int v7.1)), (PV.int v7.2.1), (PV.int v7.2.2.1), (PV.int v7.2.2.2.1), (PV.int v7.2.2.2.2)]), some (PV.int q12), some (PV.int v4), none, none]) rfl rfl rfl rfl fun v7 => ?_
      exact s_end ⟨_, rfl⟩
  · exact s_last (s_skip (s_end ⟨_, rfl⟩))
  · obtain ⟨o9, rfl⟩ := hE;refine s_seq (s_if (g_at (e_2b (e_2 (e_nm rfl) rfl rfl) rfl (o_gt _ _)) ?_));refine k_ifx (fun _ => ?_) (fun _ => ?_)
    · refine s_seq (s_set ?_);refine s_oB fun y10 h11 => (g_v (e_2s (e_frz (e_A (e_cons (e_2 (e_nm rfl) rfl rfl) e_nil) (o_int _)) ((fun _ => frz_sc _) _)) (e_nm rfl) (o_mod h11)) rfl ?_)
      refine k_set (ρ' := [some (PV.lst true [(PV.lsk a1 (List.map PV.int l8.1)), (PV.int l8.2.1), (PV.int l8.2.2.1), (PV.int l8.2.2.2.1), (PV.int l8.2.2.2.2)]), some (PV.int q12), o9, some (PV.int y10), none]) rfl ?_
      refine s_seq (s_six ?_);refine s_oB fun y12 h13 => (g_v (e_2s (e_2 (e_nm rfl) rfl rfl) (e_nm rfl) (o_div h13)) rfl ?_)
      refine k_sixF (j := 3) (l8.1, l8.2.1, l8.2.2.1, y12, l8.2.2.2.2) (fun v14 => [some (PV.lst true [(PV.lsk a1 (List.map PV.int v14.1)), (PV.int v14.2.1), (PV.int v14.2.2.1), (PV.int v14.2.2.2.1), (PV.int v14.2.2.2.2)]), some (PV.int q12), o9, some (PV.int y10), none]) rfl rfl rfl rfl fun v14 => ?_
      refine s_last (s_ret (g_v (e_nm rfl) rfl ?_));exact k_rt (And.intro rfl rfl)
    · refine s_skip (s_seq (s_set ?_));refine s_oB fun y15 h16 => (g_v (e_2s (e_frz (e_A (e_cons (e_2s (e_frz (e_2 (e_2 (e_nm rfl) rfl rfl) (e_2s (e_2 (e_nm rfl) rfl rfl) rfl (o_mulL _ _ (by decide))) (o_add _ _)) ((fun _ => frz_sc _) _)) rfl (o_pow h16)) e_nil) (o_int _)) ((fun _ => frz_sc _) _)) rfl (o_modL _ _ (by decide))) rfl ?_)
      refine k_setL (v := (y15 % 2147483647)) PV.int (fun v17 => [some (PV.lst true [(PV.lsk a1 (List.map PV.int l8.1)), (PV.int l8.2.1), (PV.int l8.2.2.1), (PV.int l8.2.2.2.1), (PV.int l8.2.2.2.2)]), some (PV.int q12), o9, none, some (PV.int v17)]) (fun _ => rfl) fun v17 => ?_
      refine s_last (s_ret ?_);refine s_oB fun y18 h19 => (g_v (e_2s (e_frz (e_A (e_cons (e_2s (e_nm rfl) rfl (o_divL _ _ (by decide))) e_nil) (o_int _)) ((fun _ => frz_sc _) _)) (e_nm rfl) (o_mod h19)) rfl ?_)
      exact k_rt (And.intro rfl rfl)
@[irreducible] def T_good_edge (q6 : (Int × Int)) (q19 : Int) : FT (Unit) (Unit) Bool :=
  runE (M := Unit) (X := Unit) (.rt () ((decide ((2 : Int) = 2)) && (((decide (0 ≤ q6.1)) && (decide (q6.1 < q19))) && ((decide (0 ≤ q6.2)) && (decide (q6.2 < q19))))))
@[irreducible] def T_reached (q18 : (List (Int × Int))) (q22 : (List Int)) : FT (Unit) (Unit) (List (Int × Bool)) :=
  runE (M := Unit) (X := Unit) (oB (dcO (fun x1 : Int => x1) (fun x1 => true) q22) fun d2 => (TS.bind (whT (fun l4 : ((List (Int × Bool)) × (List Int)) => (some (!(List.isEmpty l4.2)))) (fun l4 => (oB (popO l4.2) fun y8 => (TS.bind (forT (q18 : List (Int × Int)) ((l4.1, y8.2) : ((List (Int × Bool)) × (List Int))) fun x11 l10 => (if ((decide ((x11.1 : Int) = y8.1)) && (!(hasD x11.2 l10.1))) = true then (oB (putO x11.2 true l10.1) fun d14 => (oB (appO l10.2 x11.2) fun y16 => (.nx (d14, y16)))) else (.nx (l10.1, l10.2)))) fun l18 => (.nx (l18.1, l18.2))))) FUEL ((d2, q22) : ((List (Int × Bool)) × (List Int)))) fun l21 => (.rt () l21.1)))
@[irreducible] def T_Web_check_idle (q21 : TWeb) : FT (TWeb) (TWeb) Unit :=
  runN (M := TWeb) (X := TWeb) (callT (T_reached q21.edges [q21.entry]) (fun m1 => q21) fun m1 a2 => (compT (q21.edges : List (Int × Int)) (() : (Unit)) (fun x4 l3 => (.rt () (some (x4.2, x4.1)))) fun l5 ys6 => (callT (T_reached ys6 q21.exits) (fun m7 => q21) fun m7 a8 => (oB (rg1 q21.places) fun r9 => (TS.bind (forT (r9 : List Int) (() : (Unit)) fun x12 l11 => (if ((!(hasD x12 a2)) || (!(hasD x12 a8))) = true then (.ex q21 ⟨"Idle", ["place"], [(PV.int x12)]⟩) else (.nx ()))) fun l14 => (.nx q21)))))) ()
@[irreducible] def T_Web_init (q19 : Int) (q7 : (List (Int × Int))) (q8 : Int) (q9 : (List Int)) : FT (TWeb) (Unit) Unit :=
  runN (M := TWeb) (X := Unit) (compT (q7 : List (Int × Int)) (() : (Unit)) (fun x2 l1 => (.rt () (some x2))) fun l3 ys4 => (if (!((decide (1 ≤ q19)) && (decide (q19 ≤ 24)))) = true then (.ex () ⟨"BadPlaces", ["count"], [(PV.int q19)]⟩) else (if (decide (80 < (ys4.length : Int))) = true then (.ex () ⟨"BadEdges", ["count"], [(PV.int (ys4.length : Int))]⟩) else (TS.bind (forT ((enumL 0 ys4) : List (Int × (Int × Int))) (() : (Unit)) fun x6 l5 => (blkT (G := (Unit)) (callT (T_good_edge x6.2 q19) (fun m9 => ()) fun m9 a10 => (if (!a10) = true then (.rt () true) else (.rt () (memL (x6.2 : (Int × Int)) (cutT ys4 none (some x6.1)))))) fun l11 b12 => (if b12 = true then (.ex () ⟨"BadEdge", ["index"], [(PV.int x6.1)]⟩) else (.nx ())))) fun l13 => (if (!((decide (0 ≤ q8)) && (decide (q8 < q19)))) = true then (.ex () ⟨"BadEntry", ["place"], [(PV.int q8)]⟩) else (if (decide (((q9.length : Int) : Int) = 0)) = true then (.ex () ⟨"NoExits", [], []⟩) else (TS.bind (forT (q9 : List Int) (() : (Unit)) fun x17 l16 => (if (!((decide (0 ≤ x17)) && (decide (x17 < q19)))) = true then (.ex () ⟨"BadExit", ["place"], [(PV.int x17)]⟩) else (.nx ()))) fun l19 => (oB (rg1 q19) fun r21 => (compT (r21 : List Int) (() : (Unit)) (fun x24 l23 => (if (memL (x24 : Int) q9) = true then (.rt () (some x24)) else (.rt () none))) fun l25 ys26 => (callT (T_Web_check_idle (⟨q19, ys4, q8, ys26⟩ : TWeb)) (fun m27 => ()) fun m27 a28 => (.nx m27))))))))))) ()
end TP
end
namespace TL
open PySem PySem.Spec PyProof.Rows L2 RL
end TL
namespace SP
noncomputable section
open PySem PySem.Spec PyProof.Rows L2 RL
@[simp] def t_law_made_v1_0 (K : Fg) (ρ : PEnv) : SR := (asgG (tupT 4 (consT (nmT 1) (consT (nmT 2) (consT (nmT 3) (consT (nmT 4) nilT))))) (vG (nmE 0))) ρ
@[simp] def t_law_made_v1_1 (K : Fg) (ρ : PEnv) : SR := (retG (makeM (He.ga K "Web") (m_Web_init K) (vlAg (vG (nmE 1)) (vlAg (vG (nmE 2)) (vlAg (vG (nmE 3)) (vlAg (vG (nmE 4)) nilAg)))))) ρ
@[simp] def t_law_gates_v1_0 (K : Fg) (ρ : PEnv) : SR := (asgG (tupT 4 (consT (nmT 1) (consT (nmT 2) (consT (nmT 3) (consT (nmT 4) nilT))))) (vG (nmE 0))) ρ
@[simp] def t_law_gates_v1_1 (K : Fg) (ρ : PEnv) : SR := (retG (bindG2 (frzG (fG (bind2 (frzE (bindA (consA (nmE 2) nilA) listA)) (frzE (bindA (consA (frzE (bindA (consA (bind1s (fun _ => ER.ok (PV.sc (V.int 1))) negV) (consA (nmE 3) nilA)) displayT)) nilA) displayL)) addU))) (frzG (compG (iterA (consG (vG (nmE 1)) nilG) rngK1) (nmT 5) (fun ρ => ((bind2b (nmE 5) (nmE 4) (inP false)) ρ).at ρ) (frzG (fG (bindA (consA (nmE 5) (consA (bind1s (fun _ => ER.ok (PV.sc (V.int 1))) negV) nilA)) displayT))) [5])) addU)) ρ
@[simp] def t_law_some_0 (K : Fg) (ρ : PEnv) : SR := (setG 2 (frzG (bindG2 (vG (fun _ => ER.ok (PV.sc (V.int 2)))) (frzG (callM (m_law_draw K) (plAg 0 (vlAg (vG (fun _ => ER.ok (PV.sc (V.int 2)))) nilAg)))) addU))) ρ
@[simp] def t_law_some_1 (K : Fg) (ρ : PEnv) : SR := (retG (compG (iterA (consG (vG (nmE 1)) nilG) rngK1) (nmT 3) (bindG2b (frzG (callM (m_law_draw K) (plAg 0 (vlAg (vG (nmE 2)) nilAg)))) (vG (fun _ => ER.ok (PV.sc (V.int 0)))) eqP) (vG (nmE 3)) [3])) ρ
end
end SP
section
set_option maxHeartbeats 0
namespace TP
open PySem PySem.Spec PyProof.Rows L2 RL SP TL
end TP
end
namespace PW
open PySem PySem.Spec PyProof.Rows L2 RL TL TP
structure KT (L M A X S : Type) where
  nx : S → Prop
  rt : M → A → Prop
  ex : X → TX → Prop
  bk : L → Prop
  ct : L → Prop
def wp {L M A X S : Type} (t : TS L M A X S) (k : KT L M A X S) : Prop := match t with
  | .nx s => k.nx s
  | .rt m a => k.rt m a
  | .ex x e => k.ex x e
  | .bk l => k.bk l
  | .ct l => k.ct l
  | .stk => False
/-- the end of a def -/
def wf {M X A : Type} (r : FT M X A) (Q : M → A → Prop) (E : X → TX → Prop) : Prop := match r with
  | .ok m a => Q m a
  | .ex x e => E x e
  | .stk => False
abbrev ok {M X A : Type} (r : FT M X A) (Q : M → A → Prop) : Prop := wf r Q fun _ _ => False
section
variable {L L' M M' A A' X X' S T G β α γ XB : Type} {k : KT L M A X S}
section
variable {kn : S → Prop} {kr : M → A → Prop} {ke : X → TX → Prop} {kb kc : L → Prop}
@[simp] theorem wp_nx (s : S) : wp (.nx s) (⟨kn, kr, ke, kb, kc⟩ : KT L M A X S) = kn s := rfl
@[simp] theorem wp_rt (m : M) (a : A) : wp (.rt m a) (⟨kn, kr, ke, kb, kc⟩ : KT L M A X S) = kr m a := rfl
@[simp] theorem wp_ex (x : X) (e : TX) : wp (.ex x e) (⟨kn, kr, ke, kb, kc⟩ : KT L M A X S) = ke x e := rfl
end
@[simp] theorem wp_bk (l : L) : wp (.bk l) k = k.bk l := rfl
@[simp] theorem wp_ct (l : L) : wp (.ct l) k = k.ct l := rfl
@[simp] theorem wp_stk : wp .stk k = False := rfl
@[simp] theorem wp_bind (t : TS L M A X T) (f : T → TS L M A X S) : wp (t.bind f) k = wp t ⟨fun s => wp (f s) k, k.rt, k.ex, k.bk, k.ct⟩ := by cases t <;> rfl
@[simp] theorem wp_let (v : α) (f : α → TS L M A X S) : wp (letT v f) k = wp (f v) k := rfl
@[simp] theorem wp_oS (a : α) (f : α → TS L M A X S) : wp (oB (some a) f) k = wp (f a) k := rfl
theorem wp_oB {o : Option α} {a : α} {f : α → TS L M A X S} (e : o = some a) (h : wp (f a) k) : wp (oB o f) k := by rw [e]; exact h
theorem wp_f {p : Prop} [Decidable p] {t1 t2 : TS L M A X S} (h : ¬ p) : wp (if p then t1 else t2) k = wp t2 k := by rw [if_neg h]
@[simp] theorem wp_itP (p : Prop) [Decidable p] (t1 t2 : TS L M A X S) : wp (if p then t1 else t2) k = ((p → wp t1 k) ∧ (¬ p → wp t2 k)) := by by_cases h : p <;> simp [h]
@[simp] theorem wp_callOk (m : M) (a : A) (kx : X → X') (f : M → A → TS L M' A' X' S) (k : KT L M' A' X' S) : wp (callT (.ok m a) kx f) k = wp (f m a) k := rfl
@[simp] theorem wp_callEx (x : X) (e : TX) (kx : X → X') (f : M → A → TS L M' A' X' S) (k : KT L M' A' X' S) : wp (callT (.ex x e) kx f) k = k.ex (kx x) e := rfl
theorem wp_call {r : FT M X A} {kx : X → X'} {f : M → A → TS L M' A' X' S} {k : KT L M' A' X' S} {Q : M → A → Prop} (h : ok r Q) (h1 : ∀ m a, Q m a → wp (f m a) k) : wp (callT r kx f) k := by
  cases r with
  | ok m a => exact h1 m a h
  | ex x e => exact h.elim
  | stk => exact h.elim
@[simp] theorem wp_blk (t : TS Empty G A' X Empty) (f : G → A' → TS L M A X S) : wp (blkT t f) k = wp t ⟨Empty.elim, fun g a => wp (f g a) k, k.ex, Empty.elim, Empty.elim⟩ := by
  cases t with
  | nx s => cases s
  | bk s => cases s
  | ct s => cases s
  | _ => rfl
@[simp] theorem wp_blkX (t : TS Empty G A' XB Empty) (kx : XB → X) (f : G → A' → TS L M A X S) : wp (blkX t kx f) k = wp t ⟨Empty.elim, fun g a => wp (f g a) k, fun x => k.ex (kx x), Empty.elim, Empty.elim⟩ := by
  cases t with
  | nx s => cases s
  | bk s => cases s
  | ct s => cases s
  | _ => rfl
@[simp] theorem wp_try (t : TS L M A XB S) (f : XB → TX → TS L M A X S) : wp (tryT t f) k = wp t ⟨k.nx, k.rt, fun x e => wp (f x e) k, k.bk, k.ct⟩ := by cases t <;> rfl
theorem wp_mono {t : TS L M A X S} {k' : KT L M A X S} (h : wp t k) (h1 : ∀ s, k.nx s → k'.nx s) (h2 : ∀ m a, k.rt m a → k'.rt m a) (h3 : ∀ x e, k.ex x e → k'.ex x e) (h4 : ∀ l, k.bk l → k'.bk l) (h5 : ∀ l, k.ct l → k'.ct l) : wp t k' := by
  cases t with
  | nx s => exact h1 _ h
  | rt m a => exact h2 _ _ h
  | ex x e => exact h3 _ _ h
  | bk l => exact h4 _ h
  | ct l => exact h5 _ h
  | stk => exact h
/-- a part that only goes on -/
theorem wp_cut {t : TS L M A X S} (I : S → Prop) (h : wp t ⟨I, fun _ _ => False, fun _ _ => False, fun _ => False, fun _ => False⟩) (h1 : ∀ s, I s → k.nx s) : wp t k := wp_mono h h1 (fun _ _ z => z.elim) (fun _ _ z => z.elim) (fun _ z => z.elim) (fun _ z => z.elim)
@[simp] theorem wf_runN (t : TS Empty M A X M) (d : A) (Q : M → A → Prop) (E : X → TX → Prop) : wf (runN t d) Q E = wp t ⟨fun m => Q m d, Q, E, Empty.elim, Empty.elim⟩ := by
  cases t with
  | bk s => cases s
  | ct s => cases s
  | _ => rfl
@[simp] theorem wf_runE (t : TS Empty M A X Empty) (Q : M → A → Prop) (E : X → TX → Prop) : wf (runE t) Q E = wp t ⟨Empty.elim, Q, E, Empty.elim, Empty.elim⟩ := by
  cases t with
  | nx s => cases s
  | bk s => cases s
  | ct s => cases s
  | _ => rfl
theorem ok_E {t : TS Empty M A X Empty} {Q : M → A → Prop} (h : wp t ⟨Empty.elim, Q, fun _ _ => False, Empty.elim, Empty.elim⟩) : ok (runE t) Q := by
  show wf _ _ _
  rw [wf_runE]; exact h
theorem ok_N {t : TS Empty M A X M} {d : A} {Q : M → A → Prop} (h : wp t ⟨fun m => Q m d, Q, fun _ _ => False, Empty.elim, Empty.elim⟩) : ok (runN t d) Q := by
  show wf _ _ _
  rw [wf_runN]; exact h
theorem wf_eq {r : FT M X A} {m : M} {a : A} (h : ok r fun m' a' => m' = m ∧ a' = a) : r = .ok m a := by
  cases r with
  | ok m' a' => obtain ⟨rfl, rfl⟩ := h; rfl
  | ex x e => exact h.elim
  | stk => exact h.elim
theorem ok_ex {r : FT M X A} {Q : M → A → Prop} (h : ok r Q) : ∃ m a, r = .ok m a ∧ Q m a := by
  cases r with
  | ok m' a' => exact ⟨_, _, rfl, h⟩
  | ex x e => exact h.elim
  | stk => exact h.elim
@[simp] theorem val_ok (m : M) (a : A) : (FT.ok m a : FT M X A).val = some a := rfl
@[simp] theorem obind_some (a : α) (f : α → Option β) : (some a).bind f = f a := rfl
/-- a loop by what is behind it -/
theorem wp_for {xs : List β} {s : L'} {f : β → L' → TS L' M A X L'} {k : KT L M A X L'} (I : List β → L' → Prop) (h0 : I [] s)
    (hs : ∀ a x c s, xs = a ++ x :: c → I a s → wp (f x s) ⟨I (a ++ [x]), k.rt, k.ex, k.nx, I (a ++ [x])⟩) (he : ∀ s, I xs s → k.nx s) : wp (forT xs s f) k := by
  have key : ∀ (ys a : List β) (s : L'), xs = a ++ ys → I a s → wp (forT ys s f : TS L M A X L') k := by
    intro ys;induction ys with
    | nil => intro a s e h; rw [List.append_nil] at e; subst e; exact he s h
    | cons y ys ih =>
      intro a s e h;have h1 := hs a y ys s e h
      unfold forT;have nxt : ∀ s', I (a ++ [y]) s' → wp (forT ys s' f : TS L M A X L') k := fun s' h2 => ih (a ++ [y]) s' (by rw [e]; simp) h2
      cases ef : f y s with
      | nx s' => rw [ef] at h1; exact nxt s' h1
      | ct s' => rw [ef] at h1; exact nxt s' h1
      | bk s' => rw [ef] at h1; exact h1
      | rt m a' => rw [ef] at h1; exact h1
      | ex x e' => rw [ef] at h1; exact h1
      | stk => rw [ef] at h1; exact h1
  exact key xs [] s rfl h0
/-- a loop by the turn -/
theorem wp_forN {xs : List β} {s : L'} {f : β → L' → TS L' M A X L'} {k : KT L M A X L'} (I : Nat → L' → Prop) (h0 : I 0 s)
    (hs : ∀ i s (hi : i < xs.length), I i s → wp (f xs[i] s) ⟨I (i + 1), k.rt, k.ex, k.nx, I (i + 1)⟩) (he : ∀ s, I xs.length s → k.nx s) : wp (forT xs s f) k := by
  refine wp_for (fun a s => I a.length s) h0 (fun a x c s e h => ?_) he
  have hi : a.length < xs.length := by rw [e]; simp
  have ex : xs[a.length] = x := by simp [e]
  have := hs a.length s hi h
  rw [ex] at this;rw [List.length_append]
  exact this
@[simp] theorem rngL_len (lo : Int) (n : Nat) : (rngL lo n).length = n := by simp [rngL]
theorem rngL_get (lo : Int) (n i : Nat) (h : i < (rngL lo n).length) : (rngL lo n)[i] = lo + i := by simp [rngL]
/-- over range(n) -/
theorem wp_for0 {n : Nat} {s : L'} {f : Int → L' → TS L' M A X L'} {k : KT L M A X L'} (I : Nat → L' → Prop) (h0 : I 0 s)
    (hs : ∀ (i : Nat) s, i < n → I i s → wp (f i s) ⟨I (i + 1), k.rt, k.ex, k.nx, I (i + 1)⟩) (he : ∀ s, I n s → k.nx s) : wp (forT (rngL 0 n) s f) k := by
  refine wp_forN I h0 (fun i s hi h => ?_) (fun s h => he s (by simpa using h))
  rw [rngL_get, Int.zero_add];exact hs i s (by simpa using hi) h
theorem wp_wh {c : L' → Option Bool} {f : L' → TS L' M A X L'} {s : L'} {n : Nat} {k : KT L M A X L'} (I : L' → Prop) (μ : L' → Nat) (h0 : I s) (hn : μ s < n)
    (hs : ∀ s, I s → ∃ b, c s = some b ∧ (b = true → wp (f s) ⟨fun s' => I s' ∧ μ s' < μ s, k.rt, k.ex, k.nx, fun s' => I s' ∧ μ s' < μ s⟩) ∧ (b = false → k.nx s)) : wp (whT c f n s) k := by
  induction n generalizing s with
  | zero => omega
  | succ n ih =>
    obtain ⟨b, e, h1, h2⟩ := hs s h0;unfold whT;rw [e];cases b with
    | false => exact h2 rfl
    | true =>
      have h := h1 rfl;simp only;cases ef : f s with
      | nx s' => rw [ef] at h; exact ih h.1 (by have := h.2; omega)
      | ct s' => rw [ef] at h; exact ih h.1 (by have := h.2; omega)
      | bk s' => rw [ef] at h; exact h
      | rt m a' => rw [ef] at h; exact h
      | ex x e' => rw [ef] at h; exact h
      | stk => rw [ef] at h; exact h
/-- a comprehension by what is behind it -/
theorem wp_comp {xs : List β} {g : G} {f : β → G → TS Empty G (Option γ) X Empty} {f' : G → List γ → TS L M A X S} (I : List β → G → List γ → Prop) (h0 : I [] g []) (hl : xs.length < 100000)
    (hs : ∀ a x c g acc, xs = a ++ x :: c → I a g acc → wp (f x g) ⟨Empty.elim, fun g o => match o with | some y => I (a ++ [x]) g (acc ++ [y]) | none => I (a ++ [x]) g acc, fun _ _ => False, Empty.elim, Empty.elim⟩)
    (he : ∀ g acc, I xs g acc → wp (f' g acc) k) : wp (compT xs g f f') k := by
  have key : ∀ (ys a : List β) (g : G) (acc : List γ), xs = a ++ ys → acc.length ≤ a.length → I a g acc → ∃ g' acc', compL' f ys g acc = .rt g' acc' ∧ I xs g' acc' := by
    intro ys;induction ys with
    | nil => intro a g acc e _ h; rw [List.append_nil] at e; subst e; exact ⟨g, acc, rfl, h⟩
    | cons y ys ih =>
      intro a g acc e hla h;have h1 := hs a y ys g acc e h
      have lxs : xs.length = a.length + ys.length + 1 := by rw [e]; simp; omega
      unfold compL';cases ef : f y g with
      | rt g1 o =>
        rw [ef] at h1;cases o with
        | none => exact ih (a ++ [y]) g1 acc (by rw [e]; simp) (by simp; omega) h1
        | some z =>
          simp only
          rw [if_pos (by omega)]
          exact ih (a ++ [y]) g1 (acc ++ [z]) (by rw [e]; simp) (by simp; omega) h1
      | nx s => cases s
      | bk s => cases s
      | ct s => cases s
      | ex x e' => rw [ef] at h1; exact h1.elim
      | stk => rw [ef] at h1; exact h1.elim
  obtain ⟨g', acc', e1, h1⟩ := key xs [] g [] rfl (Nat.le_refl _) h0;unfold compT;rw [e1];exact he g' acc' h1
/-- of parts without effect -/
theorem compT_map {xs : List β} {f : β → Unit → TS Empty Unit (Option γ) X Empty} {f' : Unit → List γ → TS L M A X S} (p : β → Bool) (F : β → γ) (h : ∀ x ∈ xs, f x () = .rt () (if p x = true then some (F x) else none)) (hl : xs.length < 100000) : compT xs () f f' = f' () ((xs.filter p).map F) := by
  have key : ∀ (ys : List β) (acc : List γ), (∀ y ∈ ys, y ∈ xs) → acc.length + ys.length < 100000 → compL' f ys () acc = .rt () (acc ++ (ys.filter p).map F) := by
    intro ys;induction ys with
    | nil => intro acc _ _; simp [compL']
    | cons y ys ih =>
      intro acc hy hl;simp only [List.length_cons] at hl
      unfold compL';rw [h y (hy y List.mem_cons_self)]
      cases hp : p y with
      | true =>
        simp only [if_true];rw [if_pos (by omega), ih _ (fun z hz => hy z (List.mem_cons_of_mem _ hz)) (by simp; omega)]
        simp [List.filter_cons, hp]
      | false =>
        simp only [Bool.false_eq_true, if_false];rw [ih _ (fun z hz => hy z (List.mem_cons_of_mem _ hz)) (by omega)]
        simp [List.filter_cons, hp]
  unfold compT;rw [key xs [] (fun _ h => h) (by simpa using hl)]
  rfl
theorem wp_map {xs : List β} {f : β → Unit → TS Empty Unit (Option γ) X Empty} {f' : Unit → List γ → TS L M A X S} (F : β → γ) (h : ∀ x ∈ xs, f x () = .rt () (some (F x))) (hl : xs.length < 100000) (he : wp (f' () (xs.map F)) k) : wp (compT xs () f f') k := by
  rw [compT_map (fun _ => true) F (fun x hx => by rw [h x hx]; rfl) hl]
  rw [List.filter_eq_self.mpr (fun _ _ => rfl)]
  exact he
theorem wp_filter {xs : List β} {f : β → Unit → TS Empty Unit (Option γ) X Empty} {f' : Unit → List γ → TS L M A X S} (p : β → Bool) (F : β → γ) (h : ∀ x ∈ xs, f x () = .rt () (if p x = true then some (F x) else none)) (hl : xs.length < 100000) (he : wp (f' () ((xs.filter p).map F)) k) : wp (compT xs () f f') k := by
  rw [compT_map p F h hl]; exact he
end
section
variable {α : Type} {xs ys : List α} {x : α} {i : Int}
theorem rng1_e {n : Int} (h : 0 ≤ n) (h1 : n < 2 ^ 62) : rg1 n = some (rngL 0 n.toNat) := by unfold rg1; rw [if_pos ⟨by omega, h1⟩]
theorem rng1_n {n : Nat} (h1 : n < 2 ^ 62) : rg1 (n : Int) = some (rngL 0 n) := by rw [rng1_e (by omega) (by omega), Int.toNat_natCast]
theorem mem_rngL {lo : Int} {n : Nat} {x : Int} : x ∈ rngL lo n ↔ lo ≤ x ∧ x < lo + n := by
  unfold rngL;rw [List.mem_map]
  constructor
  · rintro ⟨i, hi, rfl⟩;have := List.mem_range.mp hi
    omega
  · rintro ⟨h1, h2⟩;exact ⟨(x - lo).toNat, List.mem_range.mpr (by omega), by omega⟩
theorem appO_e (h : xs.length < 100000) : appO xs x = some (xs ++ [x]) := by unfold appO; rw [if_pos h]
theorem modO_e {i j : Int} (h : 0 < j) : modO i j = some (i % j) := by unfold modO; rw [if_pos h]
theorem log_lt {j : Int} (h1 : j ≤ 10000000000000000000000000000000) (h0 : 0 < j) : j.natAbs.log2 < 9000 := by
  have hn2 : j < 2 ^ 2000 := Int.lt_of_le_of_lt h1 (by decide +kernel)
  have e : ((j.natAbs : Nat) : Int) < 2 ^ 2000 := by omega
  have e2 : j.natAbs < 2 ^ 2000 := by exact_mod_cast e
  have e3 : j.natAbs.log2 < 2000 := (Nat.log2_lt (by omega)).mpr e2
  omega
theorem divO_e {i j : Int} (h : 0 < j) (h1 : j ≤ 10000000000000000000000000000000) : divO i j = some (i / j) := by unfold divO; rw [if_pos ⟨h, log_lt h1 h⟩]
theorem powO_e {i j : Int} (h : 0 ≤ j) (h1 : j ≤ 1000000) (h2 : i.natAbs < 2 ^ 64) : powO i j = some (i ^ j.toNat) := by unfold powO; rw [if_pos ⟨h, h1, h2⟩]
theorem at_e (h0 : 0 ≤ i) (h1 : i < xs.length) : atI xs i = some (xs[i.toNat]'(by omega)) := atI_in h0 h1
end
abbrev Pool := List Int × Int × Int × Int × Int
def PO (N : Nat) (p : Pool) : Prop := 0 ≤ p.2.1 ∧ p.2.1 ≤ N ∧ 0 ≤ p.2.2.1 ∧ 0 ≤ p.2.2.2.1 ∧ 0 ≤ p.2.2.2.2 ∧ p.2.2.2.2 < 2147483629
theorem PO.mono {M N : Nat} {p : Pool} (h : PO N p) (l : N ≤ M) : PO M p := ⟨h.1, by have := h.2.1; omega, h.2.2⟩
theorem pool_e (ns : List Int) : T_law_pool ns = .ok () (ns, 0, 0, 0, 7) := by unfold T_law_pool; rfl
theorem PO_0 (ns : List Int) : PO 0 (ns, 0, 0, 0, 7) := ⟨by simp, by simp, by simp, by simp, by simp, by simp⟩
theorem absZ_n (i : Int) : 0 ≤ absZ i := by unfold absZ; split <;> omega
theorem draw_ok {p : Pool} {n : Int} {N : Nat} (hp : PO N p) (hN : N < 1000000) (hn : 0 < n) (hn2 : n ≤ 10000000000000000000000000000000) : ok (T_law_draw p n) fun p' z => 0 ≤ z ∧ z < n ∧ PO (N + 1) p' := by
  obtain ⟨ns, a, b, c, d⟩ := p;obtain ⟨h1, h2, h3, h4, h5, h6⟩ := hp;simp only at h1 h2 h3 h4 h5 h6;have fin : ∀ x : Int, 0 ≤ x % n ∧ x % n < n := fun x => ⟨Int.emod_nonneg _ (by omega), Int.emod_lt_of_pos _ hn⟩
  unfold T_law_draw;refine ok_E ?_
  rw [wp_let, wp_bind];refine wp_cut (fun l : Pool => l.2.1 = a + 1 ∧ 0 ≤ l.2.2.1 ∧ 0 ≤ l.2.2.2.1 ∧ 0 ≤ l.2.2.2.2 ∧ l.2.2.2.2 < 2147483629) ?_ ?_
  · simp only [wp_itP, Bool.and_eq_true, decide_eq_true_eq];refine ⟨fun ⟨hc, hb⟩ => ?_, fun _ => by simp only [wp_nx]; exact ⟨trivial, h3, h4, h5, h6⟩⟩
    refine wp_oB (at_e h3 hb) ?_;simp only [wp_let, wp_itP];have := absZ_n ns[b.toNat];refine ⟨fun _ => ⟨rfl, by simp only; omega, by simp only; omega, h5, h6⟩, fun _ => ⟨rfl, by simp only; omega, by simp only; omega, Int.emod_nonneg _ (by decide), Int.emod_lt_of_pos _ (by decide)⟩⟩
  · rintro ⟨ns', a', b', c', d'⟩ ⟨e, k1, k2, k3, k4⟩;simp only at e k1 k2 k3 k4
    subst e;simp only [wp_itP, decide_eq_true_eq]
    refine ⟨fun hc => ?_, fun hc => ?_⟩
    · refine wp_oB (modO_e hn) (wp_oB (divO_e hn hn2) ?_);exact ⟨(fin _).1, (fin _).2, by simp only; omega, by simp only; omega, k1, Int.ediv_nonneg (by omega) (by omega), k3, k4⟩
    · refine wp_oB (powO_e (by omega) (by omega) (by omega)) ?_
      rw [wp_let];refine wp_oB (modO_e hn) ?_
      exact ⟨(fin _).1, (fin _).2, by simp only; omega, by simp only; omega, k1, k2, k3, k4⟩
end PW
namespace PW
open PySem PySem.Spec PyProof.Rows L2 RL TL TP
inductive Rch (es : List (Int × Int)) (S : List Int) : Int → Prop where
  | start {x : Int} (h : x ∈ S) : Rch es S x
  | step {a b : Int} (h : Rch es S a) (e : (a, b) ∈ es) : Rch es S b
theorem Rch.closed {es : List (Int × Int)} {S ks : List Int} (h0 : ∀ x ∈ S, x ∈ ks) (hc : ∀ a b, (a, b) ∈ es → a ∈ ks → b ∈ ks) {x : Int} (h : Rch es S x) : x ∈ ks := by
  induction h with
  | start h => exact h0 _ h
  | step _ e ih => exact hc _ _ e ih
theorem Rch.mono {es fs : List (Int × Int)} {S T : List Int} (he : ∀ e ∈ es, e ∈ fs) (hs : ∀ x ∈ S, Rch fs T x) {x : Int} (h : Rch es S x) : Rch fs T x := by
  induction h with
  | start h => exact hs _ h
  | step _ e ih => exact .step ih (he _ e)
theorem Rch.sub {es fs : List (Int × Int)} {S T : List Int} (he : ∀ e ∈ es, e ∈ fs) (hs : ∀ x ∈ S, x ∈ T) {x : Int} (h : Rch es S x) : Rch fs T x := h.mono he fun x hx => .start (hs x hx)
def swp (es : List (Int × Int)) : List (Int × Int) := es.map fun e => (e.2, e.1)
theorem mem_swp {es : List (Int × Int)} {a b : Int} : (a, b) ∈ swp es ↔ (b, a) ∈ es := by
  unfold swp;rw [List.mem_map]
  constructor
  · rintro ⟨⟨c, d⟩, h, e⟩; cases e; exact h
  · intro h; exact ⟨(b, a), h, rfl⟩
def stepA (met : List Int) (e : Int × Int) : List Int := if e.2 ∈ met ∧ e.1 ∉ met then met ++ [e.1] else met
def passA (es : List (Int × Int)) (met : List Int) : List Int := es.foldl stepA met
def iterA (es : List (Int × Int)) : Nat → List Int → List Int
  | 0, met => met
  | n + 1, met => iterA es n (passA es met)
theorem filt_mono {α : Type} {p q : α → Bool} (h : ∀ x, p x = true → q x = true) : ∀ xs : List α, (xs.filter p).length ≤ (xs.filter q).length
  | [] => by simp
  | x :: xs => by
    have ih := filt_mono h xs;simp only [List.filter_cons];cases hp : p x with
    | true => rw [if_pos rfl, if_pos (h x hp)]; simpa using ih
    | false =>
      cases hq : q x with
      | true => simp; omega
      | false => simpa using ih
theorem filt_lt {α : Type} {p q : α → Bool} (h : ∀ x, p x = true → q x = true) {y : α} : ∀ {xs : List α}, y ∈ xs → p y = false → q y = true → (xs.filter p).length < (xs.filter q).length
  | x :: xs, hy, h1, h2 => by
    rcases List.mem_cons.mp hy with rfl | hy
    · have := filt_mono h xs
      simp only [List.filter_cons, h1, h2];simp; omega
    · have ih := filt_lt h hy h1 h2;simp only [List.filter_cons];cases hp : p x with
      | true => rw [if_pos rfl, if_pos (h x hp)]; simpa using ih
      | false =>
        cases hq : q x with
        | true => simp; omega
        | false => simpa using ih
end PW
namespace PW
open PySem PySem.Spec PyProof.Rows L2 RL TL TP
abbrev TTold := Int × List (Int × Int) × Int × List Int
structure Told (m : Nat) (t : TTold) : Prop where
  n1 : 1 ≤ t.1
  pr : ∀ e ∈ t.2.1, (0 ≤ e.1 ∧ e.1 < t.1) ∧ 0 ≤ e.2 ∧ e.2 < t.1
  pn : t.2.1.Nodup
  pl : t.2.1.length ≤ m
  og : 0 ≤ t.2.2.1 ∧ t.2.2.1 < t.1
  g0 : t.2.2.2 ≠ []
  gr : ∀ g ∈ t.2.2.2, 0 ≤ g ∧ g < t.1
  gn : t.2.2.2.Nodup
  fw : ∀ x, 0 ≤ x → x < t.1 → Rch t.2.1 [t.2.2.1] x
  bw : ∀ x, 0 ≤ x → x < t.1 → Rch (swp t.2.1) t.2.2.2 x
theorem rngL_nodup (lo : Int) (n : Nat) : (rngL lo n).Nodup := by
  unfold rngL;exact (List.nodup_range (n := n)).map (fun i : Nat => lo + (i : Int)) fun a b h => by
    intro z; exact h (by omega)
theorem nodup_len {xs : List Int} {n : Nat} (h : xs.Nodup) (hr : ∀ x ∈ xs, 0 ≤ x ∧ x < n) : xs.length ≤ n := by
  have hp : xs.Perm ((rngL 0 n).filter fun x => decide (x ∈ xs)) := (List.perm_ext_iff_of_nodup h ((rngL_nodup 0 n).filter _)).mpr fun x => by
    rw [List.mem_filter, decide_eq_true_eq];exact ⟨fun z => ⟨mem_rngL.mpr (by have := hr x z; omega), z⟩, fun z => z.2⟩
  have := hp.length_eq
  have := List.length_filter_le (fun x => decide (x ∈ xs)) (rngL 0 n)
  simp at this
  omega
end PW
namespace PW
noncomputable section
open PySem PySem.Spec PyProof.Rows L2 RL TL TP
def keysD {α : Type} (d : List (Int × α)) : List Int := d.map fun x => x.1
theorem hasD_iff {α : Type} {k : Int} {d : List (Int × α)} : hasD k d = true ↔ k ∈ keysD d := by unfold hasD keysD; simp
theorem keys_put {α : Type} {k : Int} {v : α} {d : List (Int × α)} : keysD (putD k v d) = if k ∈ keysD d then keysD d else keysD d ++ [k] := by
  unfold putD;by_cases h : hasD k d = true
  · rw [if_pos h, if_pos (hasD_iff.mp h)];unfold keysD
    rw [List.map_map];apply List.map_congr_left
    intro x _;simp only [Function.comp]
    split <;> rfl
  · rw [if_neg h, if_neg (fun z => h (hasD_iff.mpr z))]; simp [keysD]
theorem putO_e {α : Type} {k : Int} {v : α} {d : List (Int × α)} (h : d.length < 100000) : putO k v d = some (putD k v d) := by unfold putO; rw [if_pos h]
theorem len_keys {α : Type} (d : List (Int × α)) : (keysD d).length = d.length := by simp [keysD]
theorem dcO_keys {α β : Type} {kf : β → Int} {vf : β → α} {xs : List β} (h : xs.length < 100000) : ∃ d, dcO kf vf xs = some d ∧ d.length ≤ xs.length ∧ ∀ k, k ∈ keysD d ↔ ∃ x ∈ xs, kf x = k := by
  have key : ∀ (xs : List β) (d0 : List (Int × α)), d0.length + xs.length < 100000 → ∃ d, dcL' kf vf xs d0 = some d ∧ d.length ≤ d0.length + xs.length ∧ ∀ k, k ∈ keysD d ↔ k ∈ keysD d0 ∨ ∃ x ∈ xs, kf x = k := by
    intro xs;induction xs with
    | nil => intro d0 _; exact ⟨d0, rfl, by simp, by simp⟩
    | cons x xs ih =>
      intro d0 hl;simp only [List.length_cons] at hl
      have lp : (putD (kf x) (vf x) d0).length ≤ d0.length + 1 := by
        rw [← len_keys, keys_put];split
        · rw [len_keys]; omega
        · rw [List.length_append, len_keys]; simp
      obtain ⟨d, e, h1, h2⟩ := ih (putD (kf x) (vf x) d0) (by omega)
      refine ⟨d, ?_, by simp; omega, fun k => ?_⟩
      · unfold dcL';rw [if_pos (by omega)]
        exact e
      · rw [h2, keys_put];simp only [List.mem_cons, exists_eq_or_imp]
        split
        · rename_i hk
          exact ⟨fun z => z.elim .inl fun z => .inr (.inr z), fun z => z.elim .inl fun z => z.elim (fun z => .inl (z ▸ hk)) .inr⟩
        · simp only [List.mem_append, List.mem_singleton];constructor
          · rintro ((z | z) | z)
            · exact .inl z
            · exact .inr (.inl z.symm)
            · exact .inr (.inr z)
          · rintro (z | z | z)
            · exact .inl (.inl z)
            · exact .inl (.inr z.symm)
            · exact .inr z
  obtain ⟨d, e, h1, h2⟩ := key xs [] (by simpa using h)
  exact ⟨d, e, by simpa using h1, fun k => by rw [h2]; simp [keysD]⟩
theorem popO_e {α : Type} {xs : List α} (h : xs ≠ []) : popO xs = some (xs.getLast h, xs.dropLast) := by
  unfold popO; rw [List.getLast?_eq_some_getLast h]
theorem reached_ok {es : List (Int × Int)} {S : List Int} (h1 : es.length ≤ 250) (h2 : S.length ≤ 1000) : ok (T_reached es S) fun _ d => ∀ x, hasD x d = true ↔ Rch es S x := by
  unfold T_reached;refine ok_E ?_
  obtain ⟨d0, e0, l0, k0⟩ := dcO_keys (kf := fun x1 : Int => x1) (vf := fun _ => true) (xs := S) (by omega)
  refine wp_oB e0 ?_;rw [wp_bind]
  let un (d : List (Int × Bool)) : Nat := (es.filter fun e => !hasD e.2 d).length
  have unle : ∀ d, un d ≤ es.length := fun d => List.length_filter_le _ _
  refine wp_wh (fun s : List (Int × Bool) × List Int => (s.1.length + un s.1 ≤ S.length + es.length ∧ s.2.length + un s.1 ≤ S.length + es.length) ∧ (∀ x, hasD x s.1 = true → Rch es S x) ∧ (∀ x ∈ S, hasD x s.1 = true) ∧ (∀ x ∈ s.2, hasD x s.1 = true) ∧
      ∀ a b, (a, b) ∈ es → hasD a s.1 = true → a ∉ s.2 → hasD b s.1 = true) (fun s => 2 * un s.1 + s.2.length) ⟨⟨?_, ?_⟩, ?_, ?_, ?_, ?_⟩ ?_ ?_
  · have := unle d0; simp only; omega
  · have := unle d0; simp only; omega
  · intro x hx;obtain ⟨y, hy, rfl⟩ := (k0 x).mp (hasD_iff.mp hx)
    exact .start hy
  · intro x hx;exact hasD_iff.mpr ((k0 x).mpr ⟨x, hx, rfl⟩)
  · intro x hx;exact hasD_iff.mpr ((k0 x).mpr ⟨x, hx, rfl⟩)
  · intro a b he ha hn;obtain ⟨y, hy, rfl⟩ := (k0 a).mp (hasD_iff.mp ha)
    exact absurd hy hn
  · have := unle d0
    show 2 * un d0 + S.length < FUEL
    unfold FUEL;omega
  · rintro ⟨d, td⟩ ⟨⟨hl, ht⟩, hr, hs, htd, hc⟩;simp only at hl ht hr hs htd hc ⊢
    refine ⟨_, rfl, fun hb => ?_, fun hb => ?_⟩
    · have hne : td ≠ [] := by rintro rfl; simp at hb
      refine wp_oB (popO_e hne) ?_;have etd : td = td.dropLast ++ [td.getLast hne] := (List.dropLast_concat_getLast hne).symm;have ltd : td.length = td.dropLast.length + 1 := by
        have := congrArg List.length etd
        simpa using this
      generalize td.getLast hne = p at etd
      generalize td.dropLast = tl at etd ltd
      have hp : hasD p d = true := htd p (by rw [etd]; simp)
      rw [wp_bind];simp only
      refine wp_for (fun (a : List (Int × Int)) (s : List (Int × Bool) × List Int) => (s.1.length + un s.1 ≤ S.length + es.length ∧ s.2.length + un s.1 ≤ S.length + es.length ∧ 2 * un s.1 + s.2.length ≤ 2 * un d + tl.length) ∧ (∀ x, hasD x s.1 = true → Rch es S x) ∧ (∀ x, hasD x d = true → hasD x s.1 = true) ∧ (∀ x ∈ s.2, hasD x s.1 = true) ∧ (∀ x ∈ tl, x ∈ s.2) ∧
        (∀ b, (p, b) ∈ a → hasD b s.1 = true) ∧ ∀ x, hasD x s.1 = true → hasD x d = true ∨ x ∈ s.2) ⟨⟨hl, by simp only; omega, Nat.le_refl _⟩, hr, fun _ h => h, fun x h => htd x (by rw [etd]; simp [h]), fun _ h => h, by simp, fun _ h => .inl h⟩ ?_ ?_
      · rintro a ⟨x, y⟩ cc ⟨d1, t1⟩ e ⟨⟨q1, q2, q3⟩, r1, r2, r3, r4, r5, r6⟩;simp only at q1 q2 q3 r1 r2 r3 r4 r5 r6 ⊢
        simp only [wp_itP, Bool.and_eq_true, decide_eq_true_eq, Bool.not_eq_true'];refine ⟨fun ⟨hx, hy⟩ => ?_, fun hh => ?_⟩
        · subst hx;have hye : (x, y) ∈ es := by rw [e]; simp
          have hdec : un (putD y true d1) < un d1 := by
            refine filt_lt (y := (x, y)) (fun z hz => ?_) hye ?_ ?_
            · simp only [Bool.not_eq_true'] at hz ⊢
              cases h : hasD z.2 d1 with
              | false => rfl
              | true =>
                have : hasD z.2 (putD y true d1) = true := hasD_iff.mpr (by rw [keys_put]; split; exact hasD_iff.mp h; exact List.mem_append_left _ (hasD_iff.mp h))
                rw [this] at hz; cases hz
            · simp only [Bool.not_eq_false'];exact hasD_iff.mpr (by rw [keys_put]; split; assumption; simp)
            · simp [hy]
          have lp : (putD y true d1).length = d1.length + 1 := by
            rw [← len_keys, keys_put, if_neg (fun z => by rw [hasD_iff.mpr z] at hy; cases hy), List.length_append, len_keys]; rfl
          have mp : ∀ z, hasD z (putD y true d1) = true ↔ hasD z d1 = true ∨ z = y := fun z => by
            rw [hasD_iff, hasD_iff, keys_put, if_neg (fun z => by rw [hasD_iff.mpr z] at hy; cases hy)]; simp
          have := unle d1
          refine wp_oB (putO_e (by omega)) (wp_oB (appO_e (by omega)) ?_)
          simp only [wp_nx];refine ⟨⟨by rw [lp]; omega, by simp; omega, by simp; omega⟩, fun z hz => ?_, fun z hz => (mp z).mpr (.inl (r2 z hz)), fun z hz => ?_, fun z hz => List.mem_append_left _ (r4 z hz), fun b hb => ?_, fun z hz => ?_⟩
          · rcases (mp z).mp hz with hz | rfl
            · exact r1 z hz
            · exact .step (r1 _ (r2 _ hp)) hye
          · rcases List.mem_append.mp hz with hz | hz
            · exact (mp z).mpr (.inl (r3 z hz))
            · exact (mp z).mpr (.inr (List.mem_singleton.mp hz))
          · rcases List.mem_append.mp hb with hb | hb
            · exact (mp b).mpr (.inl (r5 b hb))
            · have := List.mem_singleton.mp hb
              cases this;exact (mp _).mpr (.inr rfl)
          · rcases (mp z).mp hz with hz | rfl
            · exact (r6 z hz).imp id fun h => List.mem_append_left _ h
            · exact .inr (by simp)
        · simp only [wp_nx];refine ⟨⟨q1, q2, q3⟩, r1, r2, r3, r4, fun b hb => ?_, r6⟩
          rcases List.mem_append.mp hb with hb | hb
          · exact r5 b hb
          · have := List.mem_singleton.mp hb
            cases this;cases hy : hasD y d1 with
            | true => rfl
            | false => exact absurd ⟨rfl, hy⟩ hh
      · rintro ⟨d1, t1⟩ ⟨⟨q1, q2, q3⟩, r1, r2, r3, r4, r5, r6⟩;simp only at q1 q2 q3 r1 r2 r3 r4 r5 r6 ⊢
        refine ⟨⟨⟨q1, q2⟩, r1, fun x hx => r2 x (hs x hx), r3, fun a b he ha hn => ?_⟩, by simp only; omega⟩
        rcases r6 a ha with h | h
        · by_cases hap : a = p
          · subst hap; exact r5 b he
          · exact r2 b (hc a b he h fun z => by
              rw [etd] at z;rcases List.mem_append.mp z with z | z
              · exact hn (r4 a z)
              · exact hap (List.mem_singleton.mp z))
        · exact absurd h hn
    · have hnil : td = [] := by cases td with | nil => rfl | cons _ _ => simp at hb
      subst hnil;simp only [wp_rt]
      refine fun x => ⟨hr x, fun h => hasD_iff.mpr (h.closed (fun x hx => hasD_iff.mp (hs x hx)) fun a b he ha => hasD_iff.mp (hc a b he (hasD_iff.mpr ha) (by simp)))⟩
/-- a loop that only looks for an error -/
theorem wp_forE {M A X β L' : Type} {xs : List β} {f : β → Unit → TS Unit M A X Unit} {k : KT L' M A X Unit} (p : β → Bool) (er : β → TX) (xx : X) (hf : ∀ x ∈ xs, f x () = if p x = true then .ex xx (er x) else .nx ()) (h1 : ∀ z, xs.find? p = some z → k.ex xx (er z)) (h2 : xs.find? p = none → k.nx ()) : wp (forT xs () f) k := by
  induction xs with
  | nil => exact h2 rfl
  | cons x xs ih =>
    unfold forT;rw [hf x List.mem_cons_self]
    cases hp : p x with
    | true => exact h1 x (by simp [List.find?_cons, hp])
    | false =>
      simp only [Bool.false_eq_true, if_false];exact ih (fun y hy => hf y (List.mem_cons_of_mem _ hy)) (fun z hz => h1 z (by simp [List.find?_cons, hp, hz])) (fun hz => h2 (by simp [List.find?_cons, hp, hz]))
/-- the first idle place -/
def idleB (w : TWeb) (x : Int) : Bool := open Classical in decide (¬ (Rch w.edges [w.entry] x ∧ Rch (swp w.edges) w.exits x))
def idle? (w : TWeb) : Option Int := (rngL 0 w.places.toNat).find? (idleB w)
def txIdle (x : Int) : TX := ⟨"Idle", ["place"], [.int x]⟩
theorem check_ok {w : TWeb} (h0 : 0 ≤ w.places) (h1 : w.places ≤ 1000) (h2 : w.edges.length ≤ 250) (h3 : w.exits.length ≤ 1000) : wf (T_Web_check_idle w) (fun m _ => m = w ∧ idle? w = none) fun m e => m = w ∧ ∃ x, idle? w = some x ∧ e = txIdle x := by
  unfold T_Web_check_idle;rw [wf_runN]
  refine wp_call (reached_ok h2 (by simp)) ?_
  intro _ d1 hd1;refine wp_map (fun e : Int × Int => (e.2, e.1)) (fun _ _ => rfl) (by omega) ?_
  refine wp_call (reached_ok (by simpa using h2) h3) ?_
  intro _ d2 hd2;refine wp_oB (rng1_e h0 (by omega)) ?_
  rw [wp_bind];refine wp_forE (idleB w) txIdle w ?_ ?_ ?_
  · intro x _;have : ((!hasD x d1) || !hasD x d2) = idleB w x := by
      unfold idleB;rw [Bool.eq_iff_iff]
      simp only [Bool.or_eq_true, Bool.not_eq_true', decide_eq_true_eq];have e1 := hd1 x
      have e2 := hd2 x;rw [show List.map (fun e : Int × Int => (e.2, e.1)) w.edges = swp w.edges from rfl] at e2
      rw [← e1, ← e2];cases hasD x d1 <;> cases hasD x d2 <;> simp
    rw [this];rfl
  · intro z hz;exact ⟨rfl, z, hz, rfl⟩
  · intro hz;exact ⟨rfl, hz⟩
def goodE (c : Int) (e : Int × Int) : Bool := decide ((0 ≤ e.1 ∧ e.1 < c) ∧ 0 ≤ e.2 ∧ e.2 < c)
theorem good_e (e : Int × Int) (c : Int) : T_good_edge e c = .ok () (goodE c e) := by
  unfold T_good_edge goodE;refine wf_eq (ok_E ?_)
  simp only [wp_rt];refine ⟨trivial, ?_⟩
  rw [Bool.eq_iff_iff];simp
def exitsOf (c : Int) (gs : List Int) : List Int := (rngL 0 c.toNat).filter fun x => memL x gs
theorem mem_exitsOf {c : Int} {gs : List Int} (h : ∀ g ∈ gs, 0 ≤ g ∧ g < c) {x : Int} : x ∈ exitsOf c gs ↔ x ∈ gs := by
  unfold exitsOf;rw [List.mem_filter, memL_t, mem_rngL]
  exact ⟨fun z => z.2, fun z => ⟨by have := h x z; omega, z⟩⟩
theorem cutT_to {α : Type} (xs : List α) (i : Int) (h : 0 ≤ i) : cutT xs none (some i) = xs.take i.toNat := by
  unfold cutT;rw [sIx_p _ _ _ h]
  have l2 : HT.sIx xs.length 0 none = 0 := rfl
  rw [l2];simp
theorem enumL_mem {α : Type} : ∀ {xs : List α} {c : Int} {y : Int × α}, y ∈ enumL c xs → ∃ i, ∃ h : i < xs.length, y = (c + i, xs[i])
  | x :: xs, c, y, h => by
    unfold enumL at h;rcases List.mem_cons.mp h with rfl | h
    · exact ⟨0, by simp, by simp⟩
    · obtain ⟨i, hi, e⟩ := enumL_mem h;exact ⟨i + 1, by simpa using hi, by rw [e]; simp; omega⟩
/-- a web from what is right -/
theorem init_ok {c : Int} {ps : List (Int × Int)} {o : Int} {gs : List Int} (c1 : 1 ≤ c) (c2 : c ≤ 24) (pl : ps.length ≤ 80) (pr : ∀ e ∈ ps, (0 ≤ e.1 ∧ e.1 < c) ∧ 0 ≤ e.2 ∧ e.2 < c) (pn : ps.Nodup) (og : 0 ≤ o ∧ o < c) (g0 : gs ≠ []) (gr : ∀ g ∈ gs, 0 ≤ g ∧ g < c)
    (fw : ∀ x, 0 ≤ x → x < c → Rch ps [o] x) (bw : ∀ x, 0 ≤ x → x < c → Rch (swp ps) gs x) : T_Web_init c ps o gs = .ok ⟨c, ps, o, exitsOf c gs⟩ () := by
  refine wf_eq ?_;unfold T_Web_init;refine ok_N ?_;refine wp_map (fun e => e) (fun _ _ => rfl) (by omega) ?_
  rw [List.map_id'];rw [if_neg (by simp; omega), if_neg (by simp; omega), wp_bind]
  refine wp_for (fun _ _ => True) trivial ?_ ?_
  · rintro a ⟨i, e⟩ b ⟨⟩ he _;obtain ⟨j, hj, ej⟩ := enumL_mem (xs := ps) (c := 0) (y := (i, e)) (by rw [he]; simp)
    injection ej with e1 e2
    have hm : e ∈ ps := by rw [e2]; exact List.getElem_mem _
    have hg : goodE c e = true := by unfold goodE; rw [decide_eq_true_eq]; exact pr e hm
    have hn : e ∉ ps.take j := fun z => by
      obtain ⟨k, hk, ek⟩ := List.getElem_of_mem z;rw [List.getElem_take] at ek;simp only [List.length_take] at hk;exact List.pairwise_iff_getElem.mp pn k j (by omega) hj (by omega) (by rw [ek, e2])
    simp only [wp_blk, good_e, wp_callOk, hg, Bool.not_true, Bool.false_eq_true, if_false, wp_rt, e1, cutT_to ps (0 + (j : Int)) (by omega), wp_itP, memL_t, wp_nx]
    rw [show (0 + (j : Int)).toNat = j by omega]
    exact ⟨fun z => absurd z hn, fun _ => trivial⟩
  rintro ⟨⟩ _;rw [if_neg (by simp; omega), if_neg (by simpa using g0), wp_bind]
  refine wp_for (fun _ _ => True) trivial ?_ ?_
  · rintro a g b ⟨⟩ he _;have := gr g (by rw [he]; simp)
    rw [if_neg (by simp; omega)]
    trivial
  rintro ⟨⟩ _;refine wp_oB (rng1_e (by omega) (by omega)) ?_
  refine wp_filter (fun x => memL x gs) (fun x => x) (fun x _ => by split <;> rfl) (by simp; omega) ?_
  rw [List.map_id'];show wp (callT (T_Web_check_idle ⟨c, ps, o, exitsOf c gs⟩) _ _) _
  have hi : idle? ⟨c, ps, o, exitsOf c gs⟩ = none := by
    unfold idle?
    rw [List.find?_eq_none];intro x hx
    have := mem_rngL.mp hx
    simp only at this
    unfold idleB;simp only [decide_eq_true_eq, Classical.not_not]
    exact ⟨fw x (by omega) (by omega), (bw x (by omega) (by omega)).sub (fun _ h => h) fun g hg => (mem_exitsOf gr).mpr hg⟩
  have hck := check_ok (w := ⟨c, ps, o, exitsOf c gs⟩) (by simp only; omega) (by simp only; omega) (by simp only; omega) (by
    have := List.length_filter_le (fun x => memL x gs) (rngL 0 c.toNat)
    simp only [exitsOf];simp at this
    omega)
  cases hr : T_Web_check_idle ⟨c, ps, o, exitsOf c gs⟩ with
  | ok m a =>
    rw [hr] at hck;simp only [wp_callOk, wp_nx]
    exact ⟨hck.1, trivial⟩
  | ex x e =>
    rw [hr] at hck;obtain ⟨_, y, hy, _⟩ := hck
    rw [hi] at hy; cases hy
  | stk => rw [hr] at hck; exact hck.elim
abbrev webOf (t : TTold) : TWeb := ⟨t.1, t.2.1, t.2.2.1, exitsOf t.1 t.2.2.2⟩
def gatesL (w : TWeb) : List (Int × Int) := w.edges ++ [(-1, w.entry)] ++ w.exits.map fun x => (x, -1)
theorem exitsOf_len (c : Int) (gs : List Int) : (exitsOf c gs).length ≤ c.toNat := by
  have := List.length_filter_le (fun x => memL x gs) (rngL 0 c.toNat)
  simpa [exitsOf] using this
instance : DecidableEq TWeb := fun a b => by
  cases a; cases b
  simp only [TWeb.mk.injEq]
  infer_instance
end
end PW
namespace PW
open PySem PySem.Spec PyProof.Rows L2 RL TL TP
end PW
namespace PW
open PySem PySem.Spec PyProof.Rows L2 RL TL TP
/-- what stands at a gate -/
def gateAt (w : TWeb) (g : Int) : Int × Int := (gatesL w).getD g.toNat (0, 0)
def isSave (w : TWeb) (S : List Int) (g : Int) : Bool := decide ((gateAt w g).1 ∉ S ∧ (gateAt w g).2 ∈ S)
def isBack (w : TWeb) (S : List Int) (g : Int) : Bool := decide ((gateAt w g).1 ∈ S ∧ (gateAt w g).2 ∉ S)
theorem gateAt_e {w : TWeb} {g : Int} (h0 : 0 ≤ g) (h1 : g < (gatesL w).length) : (gatesL w)[g.toNat]'(by omega) = gateAt w g := by
  unfold gateAt;rw [List.getD_eq_getElem?_getD, List.getElem?_eq_getElem (by omega)]; rfl
theorem rngL_asc (lo : Int) (n : Nat) : (rngL lo n).Pairwise (· < ·) := by
  unfold rngL;rw [List.pairwise_map]
  exact List.pairwise_lt_range.imp fun h => by omega
def savesOf (w : TWeb) (S : List Int) : List Int := (rngL 0 (gatesL w).length).filter (isSave w S)
def backsOf (w : TWeb) (S : List Int) : List Int := (rngL 0 (gatesL w).length).filter (isBack w S)
instance : DecidableEq TPlacing := fun a b => by
  cases a; cases b
  simp only [TPlacing.mk.injEq]
  infer_instance
end PW
namespace TL
open PySem PySem.Spec PyProof.Rows L2 RL
end TL
namespace TL
open PySem PySem.Spec PyProof.Rows L2 RL
end TL
namespace SP
noncomputable section
open PySem PySem.Spec PyProof.Rows L2 RL
@[simp] def t_check_word_0 (K : Fg) (ρ : PEnv) : SR := (raiseG (He.ga K "BadWord") "word" (vG (nmE 0))) ρ
@[simp] def t_check_word_1 (K : Fg) (ρ : PEnv) : SR := (ifG (fun ρ => ((bind2b (nmE 0) (tpkS ["save", "back"]) (inP true)) ρ).at ρ) (t_check_word_0 K)
    skipS) ρ
def s_check_word (K : Fg) : PEnv → SR := (t_check_word_1 K)
def m_check_word (K : Fg) : List PV → FR := fnM 1 0 [0] (s_check_word K)
@[simp] def t_ends_of_arc_0 (K : Fg) (ρ : PEnv) : SR := (asgG (tupW 2 (consT (nmT 2) (consT (nmT 3) nilT))) (vG (nmE 1))) ρ
@[simp] def t_ends_of_arc_1 (K : Fg) (ρ : PEnv) : SR := (asgG (tupT 2 (consT (nmT 4) (consT (nmT 5) nilT))) (frzG (callM (m_Web_ends K) (recvM (He.ga K "Web") "ends" (vG (nmE 0)) (vlAg (vG (nmE 2)) nilAg))))) ρ
@[simp] def t_ends_of_arc_2 (K : Fg) (ρ : PEnv) : SR := (retG (vG (ifE (bind2b (nmE 3) (fun _ => ER.ok (PV.sc (V.str ("save" : Str)))) eqP) (frzE (bindA (consA (nmE 5) (consA (nmE 4) nilA)) displayT)) (frzE (bindA (consA (nmE 4) (consA (nmE 5) nilA)) displayT))))) ρ
def s_ends_of_arc (K : Fg) : PEnv → SR := (seqS (t_ends_of_arc_0 K)
    (seqS (t_ends_of_arc_1 K)
    (t_ends_of_arc_2 K)))
def m_ends_of_arc (K : Fg) : List PV → FR := fnM 2 4 [0, 1] (s_ends_of_arc K)
@[simp] def t_arc_ends_0 (K : Fg) (ρ : PEnv) : SR := (asgG (tupW 2 (consT (nmT 2) (consT (nmT 3) nilT))) (vG (nmE 1))) ρ
@[simp] def t_arc_ends_1 (K : Fg) (ρ : PEnv) : SR := (dropG (callM (m_check_gate K) (vlAg (vG (nmE 0)) (vlAg (vG (nmE 2)) nilAg)))) ρ
@[simp] def t_arc_ends_2 (K : Fg) (ρ : PEnv) : SR := (dropG (callM (m_check_word K) (vlAg (vG (nmE 3)) nilAg))) ρ
@[simp] def t_arc_ends_3 (K : Fg) (ρ : PEnv) : SR := (retG (callM (m_ends_of_arc K) (vlAg (vG (nmE 0)) (vlAg (vG (nmE 1)) nilAg)))) ρ
@[simp] def t_arcs_0 (K : Fg) (ρ : PEnv) : SR := (setG 1 (fG (bindA nilA displayL))) ρ
@[simp] def t_arcs_1 (K : Fg) (ρ : PEnv) : SR := (asgG (tupT 2 (consT (nmT 3) (consT (nmT 4) nilT))) (frzG (callM (m_Web_ends K) (recvM (He.ga K "Web") "ends" (vG (nmE 0)) (vlAg (vG (nmE 2)) nilAg))))) ρ
@[simp] def t_arcs_2 (K : Fg) (ρ : PEnv) : SR := (dropG (mutE 1 (consG (frzG (fG (bindA (consA (frzE (bindA (consA (nmE 2) (consA (fun _ => ER.ok (PV.sc (V.str ("back" : Str)))) nilA)) displayT)) (consA (frzE (bindA (consA (nmE 2) (consA (fun _ => ER.ok (PV.sc (V.str ("save" : Str)))) nilA)) displayT)) nilA)) displayL))) nilG) extA)) ρ
@[simp] def t_arcs_3 (K : Fg) (ρ : PEnv) : SR := (ifG (fun ρ => ((bind2b (nmE 3) (nmE 4) neP) ρ).at ρ) (t_arcs_2 K)
    skipS) ρ
@[simp] def t_arcs_4 (K : Fg) (ρ : PEnv) : SR := (forG (iterA (consG (frzG (fG (bind1 (nmE 0) (ow1 (He.ga K "Web") (m_Web_gates K))))) nilG) rngK1) (nmT 2)
    (seqS (t_arcs_1 K)
    (t_arcs_3 K))) ρ
@[simp] def t_arcs_5 (K : Fg) (ρ : PEnv) : SR := (retG (fG (bindA (consA (nmE 1) nilA) tupA))) ρ
def s_arcs (K : Fg) : PEnv → SR := (seqS (t_arcs_0 K)
    (seqS (t_arcs_4 K)
    (t_arcs_5 K)))
def m_arcs (K : Fg) : List PV → FR := fnM 1 4 [0] (s_arcs K)
@[simp] def t_law_pool_v1_0 (K : Fg) (ρ : PEnv) : SR := (setG 2 (vG (fun _ => ER.ok (PV.sc (V.int 0))))) ρ
@[simp] def t_law_pool_v1_1 (K : Fg) (ρ : PEnv) : SR := (setG 2 (vG (bind2 (nmE 0) (nmE 1) ixP))) ρ
@[simp] def t_law_pool_v1_2 (K : Fg) (ρ : PEnv) : SR := (ifG (fun ρ => ((bind2b (nmE 1) (frzE (bindA (consA (nmE 0) nilA) lenA)) ltI) ρ).at ρ) (t_law_pool_v1_1 K)
    skipS) ρ
@[simp] def t_law_pool_v1_3 (K : Fg) (ρ : PEnv) : SR := (setG 3 (frzG (fG (bindA (consA (frzE (bindA (consA (nmE 2) nilA) intA)) (consA (frzE (bindA (consA (bind2s (bind1s (fun _ => ER.ok (PV.sc (V.int 1))) negV) (nmE 2) subI) nilA) intA)) nilA)) max2A)))) ρ
@[simp] def t_law_pool_v1_4 (K : Fg) (ρ : PEnv) : SR := (setG 4 (vG (bind2s (frzE (bindA (consA (bind2s (frzE (bind2 (frzE (bind2 (frzE (bind2 (bind2s (frzE (bindA (consA (nmE 3) nilA) intA)) (fun _ => ER.ok (PV.sc (V.int 2147483629))) modI) (bind2s (bind2s (fun _ => ER.ok (PV.sc (V.int 7727))) (nmE 1) mulI) (nmE 1) mulI) addU)) (bind2s (fun _ => ER.ok (PV.sc (V.int 37))) (nmE 1) mulI) addU)) (fun _ => ER.ok (PV.sc (V.int 23))) addU)) (fun _ => ER.ok (PV.sc (V.int 48271))) mulI) nilA) intA)) (fun _ => ER.ok (PV.sc (V.int 2147483647))) modI))) ρ
@[simp] def t_law_pool_v1_5 (K : Fg) (ρ : PEnv) : SR := (retG (fG (bindA (consA (bind2s (nmE 3) (frzE (bindA (consA (bind2s (nmE 3) (bind2s (fun _ => ER.ok (PV.sc (V.int 10))) (fun _ => ER.ok (PV.sc (V.int 18))) powI) fun p q => (geI p q).map V.bl) nilA) intA)) mulI) (consA (nmE 4) nilA)) displayL))) ρ
@[simp] def t_law_take_0 (K : Fg) (ρ : PEnv) : SR := (setG 2 (vG (bind2s (frzE (bindA (consA (bind2 (nmE 0) (fun _ => ER.ok (PV.sc (V.int 0))) ixP) nilA) intA)) (nmE 1) modI))) ρ
@[simp] def t_law_take_1 (K : Fg) (ρ : PEnv) : SR := (setIxG 0 (vG (fun _ => ER.ok (PV.sc (V.int 0)))) (vG (bind2s (bind2 (nmE 0) (fun _ => ER.ok (PV.sc (V.int 0))) ixP) (nmE 1) fdivI))) ρ
@[simp] def t_law_take_2 (K : Fg) (ρ : PEnv) : SR := (retG (vG (nmE 2))) ρ
@[simp] def t_law_take_3 (K : Fg) (ρ : PEnv) : SR := (ifG (fun ρ => ((bind2b (bind2 (nmE 0) (fun _ => ER.ok (PV.sc (V.int 0))) ixP) (fun _ => ER.ok (PV.sc (V.int 0))) gtI) ρ).at ρ) (seqS (t_law_take_0 K)
    (seqS (t_law_take_1 K)
    (t_law_take_2 K)))
    skipS) ρ
@[simp] def t_law_take_4 (K : Fg) (ρ : PEnv) : SR := (setIxG 0 (vG (fun _ => ER.ok (PV.sc (V.int 1)))) (vG (bind2s (frzE (bindA (consA (frzE (bind2 (bind2s (bind2 (nmE 0) (fun _ => ER.ok (PV.sc (V.int 1))) ixP) (fun _ => ER.ok (PV.sc (V.int 39373))) mulI) (fun _ => ER.ok (PV.sc (V.int 7))) addU)) nilA) intA)) (fun _ => ER.ok (PV.sc (V.int 2147483647))) modI))) ρ
@[simp] def t_law_take_5 (K : Fg) (ρ : PEnv) : SR := (retG (vG (bind2s (frzE (bindA (consA (bind2s (bind2s (frzE (bindA (consA (bind2s (bind2 (nmE 0) (fun _ => ER.ok (PV.sc (V.int 1))) ixP) (bind2 (nmE 0) (fun _ => ER.ok (PV.sc (V.int 1))) ixP) mulI) nilA) intA)) (fun _ => ER.ok (PV.sc (V.int 2147483629))) modI) (fun _ => ER.ok (PV.sc (V.int 32))) fdivI) nilA) intA)) (nmE 1) modI))) ρ
def s_law_take (K : Fg) : PEnv → SR := (seqS (t_law_take_3 K)
    (seqS (t_law_take_4 K)
    (t_law_take_5 K)))
def m_law_take (K : Fg) : List PV → FR := fnM 2 1 [0, 1] (s_law_take K)
@[simp] def t_law_one_0 (K : Fg) (ρ : PEnv) : SR := (retG (ixG 1 (frzG (callM (m_law_take K) (plAg 0 (vlAg (frzG (fG (bindA (consA (nmE 1) nilA) lenA))) nilAg)))))) ρ
def s_law_one (K : Fg) : PEnv → SR := (t_law_one_0 K)
def m_law_one (K : Fg) : List PV → FR := fnM 2 0 [0, 1] (s_law_one K)
@[simp] def t_law_turned_0 (K : Fg) (ρ : PEnv) : SR := (parF 2 3 (bindA (consA (nmE 1) nilA) listA) (bindA nilA displayL)) ρ
@[simp] def t_law_turned_1 (K : Fg) (ρ : PEnv) : SR := (dropG (mutE 3 (consG (mutE 2 (consG (frzG (callM (m_law_take K) (plAg 0 (vlAg (frzG (fG (bindA (consA (nmE 2) nilA) lenA))) nilAg)))) nilG) popAtA) nilG) appA)) ρ
@[simp] def t_law_turned_2 (K : Fg) (ρ : PEnv) : SR := (forG (iterA (consG (frzG (fG (bindA (consA (nmE 1) nilA) lenA))) nilG) rngK1) (nmT 4)
    (t_law_turned_1 K)) ρ
@[simp] def t_law_turned_3 (K : Fg) (ρ : PEnv) : SR := (retG (mvE 3)) ρ
def s_law_turned (K : Fg) : PEnv → SR := (seqS (t_law_turned_0 K)
    (seqS (t_law_turned_2 K)
    (t_law_turned_3 K)))
def m_law_turned (K : Fg) : List PV → FR := fnM 2 3 [0, 1] (s_law_turned K)
@[simp] def t_law_ahead_v1_0 (K : Fg) (ρ : PEnv) : SR := (setG 2 (fG (bindA (consA (nmE 1) nilA) listA))) ρ
@[simp] def t_law_ahead_v1_1 (K : Fg) (ρ : PEnv) : SR := (dropG (mutE 2 (consG (vG (nmE 4)) nilG) appA)) ρ
@[simp] def t_law_ahead_v1_2 (K : Fg) (ρ : PEnv) : SR := (ifG (fun ρ => ((andB (bind2b (nmE 5) (nmE 2) (inP false)) (bind2b (nmE 4) (nmE 2) (inP true))) ρ).at ρ) (t_law_ahead_v1_1 K)
    skipS) ρ
@[simp] def t_law_ahead_v1_3 (K : Fg) (ρ : PEnv) : SR := (forG (iterI (vG (nmE 0)) seqF) (tupT 2 (consT (nmT 4) (consT (nmT 5) nilT)))
    (t_law_ahead_v1_2 K)) ρ
@[simp] def t_law_ahead_v1_4 (K : Fg) (ρ : PEnv) : SR := (forG (iterA (consG (frzG (fG (bindA (consA (nmE 0) nilA) lenA))) nilG) rngK1) (nmT 3)
    (t_law_ahead_v1_3 K)) ρ
@[simp] def t_law_ahead_v1_5 (K : Fg) (ρ : PEnv) : SR := (retG (mvE 2)) ρ
def s_law_ahead_v1 (K : Fg) : PEnv → SR := (seqS (t_law_ahead_v1_0 K)
    (seqS (t_law_ahead_v1_4 K)
    (t_law_ahead_v1_5 K)))
def m_law_ahead_v1 (K : Fg) : List PV → FR := fnM 2 4 [0, 1] (s_law_ahead_v1 K)
@[simp] def t_law_web_v2_0 (K : Fg) (ρ : PEnv) : SR := (setG 2 (frzG (bindG2 (vG (fun _ => ER.ok (PV.sc (V.int 1)))) (frzG (callM (m_law_take K) (plAg 0 (vlAg (vG (nmE 1)) nilAg)))) addU))) ρ
@[simp] def t_law_web_v2_1 (K : Fg) (ρ : PEnv) : SR := (setG 3 (compG (iterA (consG (vG (fun _ => ER.ok (PV.sc (V.int 1)))) (consG (vG (nmE 2)) nilG)) rngK2) (nmT 4) yesG (frzG (bindGA (consG (frzG (callM (m_law_take K) (plAg 0 (vlAg (vG (nmE 4)) nilAg)))) (consG (vG (nmE 4)) nilG)) displayT)) [4])) ρ
@[simp] def t_law_web_v2_2 (K : Fg) (ρ : PEnv) : SR := (setG 5 (frzG (ifZ (bindG2b (frzG (callM (m_law_take K) (plAg 0 (vlAg (vG (fun _ => ER.ok (PV.sc (V.int 4)))) nilAg)))) (vG (fun _ => ER.ok (PV.sc (V.int 0)))) eqP) (fG (bind2 (bind2s (nmE 2) (nmE 2) mulI) (fun _ => ER.ok (PV.sc (V.int 1))) addU)) (fG (bind2 (nmE 2) (fun _ => ER.ok (PV.sc (V.int 3))) addU))))) ρ
@[simp] def t_law_web_v2_3 (K : Fg) (ρ : PEnv) : SR := (setG 7 (frzG (bindGA (consG (frzG (callM (m_law_take K) (plAg 0 (vlAg (vG (nmE 2)) nilAg)))) (consG (frzG (callM (m_law_take K) (plAg 0 (vlAg (vG (nmE 2)) nilAg)))) nilG)) displayT))) ρ
@[simp] def t_law_web_v2_4 (K : Fg) (ρ : PEnv) : SR := (dropG (mutE 3 (consG (vG (nmE 7)) nilG) appA)) ρ
@[simp] def t_law_web_v2_5 (K : Fg) (ρ : PEnv) : SR := (ifG (fun ρ => ((bind2b (nmE 7) (nmE 3) (inP true)) ρ).at ρ) (t_law_web_v2_4 K)
    skipS) ρ
@[simp] def t_law_web_v2_6 (K : Fg) (ρ : PEnv) : SR := (forG (iterA (consG (frzG (callM (m_law_take K) (plAg 0 (vlAg (frzG (fG (bindA (consA (frzE (bindA (consA (nmE 5) nilA) intA)) (consA (frzE (bindA (consA (bind2s (fun _ => ER.ok (PV.sc (V.int 81))) (bind2s (fun _ => ER.ok (PV.sc (V.int 2))) (nmE 2) mulI) subI) nilA) intA)) nilA)) min2A))) nilAg)))) nilG) rngK1) (nmT 6)
    (seqS (t_law_web_v2_3 K)
    (t_law_web_v2_5 K))) ρ
@[simp] def t_law_web_v2_7 (K : Fg) (ρ : PEnv) : SR := (setG 8 (compG (iterA (consG (vG (nmE 2)) nilG) rngK1) (nmT 4) (bindG2b (frzG (callM (m_law_take K) (plAg 0 (vlAg (vG (fun _ => ER.ok (PV.sc (V.int 3)))) nilAg)))) (vG (fun _ => ER.ok (PV.sc (V.int 0)))) eqP) (vG (nmE 4)) [4])) ρ
@[simp] def t_law_web_v2_8 (K : Fg) (ρ : PEnv) : SR := (setG 8 (bindGA (consG (frzG (callM (m_law_take K) (plAg 0 (vlAg (vG (nmE 2)) nilAg)))) nilG) displayL)) ρ
@[simp] def t_law_web_v2_9 (K : Fg) (ρ : PEnv) : SR := (ifG (fun ρ => ((bind2b (nmE 8) (frzE (bindA nilA displayL)) eqP) ρ).at ρ) (t_law_web_v2_8 K)
    skipS) ρ
@[simp] def t_law_web_v2_10 (K : Fg) (ρ : PEnv) : SR := (dropG (mutE 8 (consG (vG (nmE 4)) nilG) appA)) ρ
@[simp] def t_law_web_v2_11 (K : Fg) (ρ : PEnv) : SR := (dropG (mutE 3 (consG (frzG (bindGA (consG (vG (nmE 4)) (consG (frzG (callM (m_law_one K) (plAg 0 (plAg 8 nilAg)))) nilG)) displayT)) nilG) appA)) ρ
@[simp] def t_law_web_v2_12 (K : Fg) (ρ : PEnv) : SR := (ifG (bindG2b (frzG (callM (m_law_take K) (plAg 0 (vlAg (vG (fun _ => ER.ok (PV.sc (V.int 2)))) nilAg)))) (vG (fun _ => ER.ok (PV.sc (V.int 0)))) eqP) (t_law_web_v2_10 K)
    (t_law_web_v2_11 K)) ρ
@[simp] def t_law_web_v2_13 (K : Fg) (ρ : PEnv) : SR := (ifG (bindG2b (vG (nmE 4)) (frzG (lendG 3 (callM (m_law_ahead_v1 K) (vlAg (vG (nmE 3)) (plAg 8 nilAg))))) (inP true)) (t_law_web_v2_12 K)
    skipS) ρ
@[simp] def t_law_web_v2_14 (K : Fg) (ρ : PEnv) : SR := (forG (iterA (consG (vG (nmE 2)) nilG) rngK1) (nmT 4)
    (t_law_web_v2_13 K)) ρ
@[simp] def t_law_web_v2_15 (K : Fg) (ρ : PEnv) : SR := (setG 9 (frzG (callM (m_law_turned K) (plAg 0 (vlAg (frzG (fG (bind1 (nmE 2) lrg1))) nilAg))))) ρ
@[simp] def t_law_web_v2_16 (K : Fg) (ρ : PEnv) : SR := (setG 3 (compG (iterI (frzG (callM (m_law_turned K) (plAg 0 (plAg 3 nilAg)))) seqF) (tupT 2 (consT (nmT 10) (consT (nmT 11) nilT))) yesG (frzG (fG (bindA (consA (bind2 (nmE 9) (nmE 10) ixP) (consA (bind2 (nmE 9) (nmE 11) ixP) nilA)) displayT))) [10, 11])) ρ
@[simp] def t_law_web_v2_17 (K : Fg) (ρ : PEnv) : SR := (retG (bindGA (consG (vG (nmE 2)) (consG (frE 3) (consG (vG (bind2 (nmE 9) (fun _ => ER.ok (PV.sc (V.int 0))) ixP)) (consG (frzG (compG (iterA (consG (vG (nmE 2)) nilG) rngK1) (nmT 4) (bindG2b (vG (nmE 4)) (frzG (lendG 8 (compG (iterI (vG (nmE 8)) seqF) (nmT 10) yesG (vG (bind2 (nmE 9) (nmE 10) ixP)) [10]))) (inP false)) (vG (nmE 4)) [4])) nilG)))) displayL)) ρ
@[simp] def t_law_gates_v4_0 (K : Fg) (ρ : PEnv) : SR := (retG (bindG2 (frzG (fG (bind2 (bind2 (nmE 0) (fun _ => ER.ok (PV.sc (V.int 1))) ixP) (frzE (bindA (consA (frzE (bindA (consA (bind1s (fun _ => ER.ok (PV.sc (V.int 1))) negV) (consA (bind2 (nmE 0) (fun _ => ER.ok (PV.sc (V.int 2))) ixP) nilA)) displayT)) nilA) displayL)) addU))) (frzG (compG (iterI (vG (bind2 (nmE 0) (fun _ => ER.ok (PV.sc (V.int 3))) ixP)) seqF) (nmT 1) yesG (frzG (fG (bindA (consA (nmE 1) (consA (bind1s (fun _ => ER.ok (PV.sc (V.int 1))) negV) nilA)) displayT))) [1])) addU)) ρ
def s_law_gates_v4 (K : Fg) : PEnv → SR := (t_law_gates_v4_0 K)
def m_law_gates_v4 (K : Fg) : List PV → FR := fnM 1 1 [0] (s_law_gates_v4 K)
end
end SP
section
set_option maxHeartbeats 0
namespace TP
open PySem PySem.Spec PyProof.Rows L2 RL SP TL
end TP
end
namespace PW
open PySem PySem.Spec PyProof.Rows L2 RL TL TP
end PW
namespace PW
open PySem PySem.Spec PyProof.Rows L2 RL TL TP
theorem Told.mono {m n : Nat} {t : TTold} (h : Told m t) (l : m ≤ n) : Told n t := ⟨h.n1, h.pr, h.pn, Nat.le_trans h.pl l, h.og, h.g0, h.gr, h.gn, h.fw, h.bw⟩
end PW
namespace TL
open PySem PySem.Spec PyProof.Rows L2 RL
end TL
namespace TL
open PySem PySem.Spec PyProof.Rows L2 RL
end TL
namespace TL
open PySem PySem.Spec PyProof.Rows L2 RL
theorem noAE_none {a : Addr} : ∀ {ρ : PEnv} {j : Nat}, noAE a ρ = true → noAE a (ρ.set j none) = true
  | [], _, _ => rfl
  | none :: ρ, 0, h => by simp at h ⊢; exact h
  | some q :: ρ, 0, h => by simp at h ⊢; exact h.2
  | none :: ρ, j + 1, h => by simp at h ⊢; exact noAE_none h
  | some q :: ρ, j + 1, h => by simp at h ⊢; exact ⟨h.1, noAE_none h.2⟩
end TL
namespace TL
open PySem PySem.Spec PyProof.Rows L2 RL
theorem fzl_nil : ([] : List PV).all PV.fz = true := rfl
theorem fzl_cons {p : PV} {ps : List PV} (h : p.fz = true) (t : ps.all PV.fz = true) : (p :: ps).all PV.fz = true := by rw [List.all_cons, h, t]; rfl
end TL
namespace SP
noncomputable section
open PySem PySem.Spec PyProof.Rows L2 RL
@[simp] def t_ascending_u_0 (K : Fg) (ρ : PEnv) : SR := (retG (bindGA (consG (frzG (srtG (iterI (vG (nmE 0)) (eitK (ownF (He.ga K "Lot") "places") seqF)) (nmT 1) (frzG (fG (bindA (consA (nmE 1) nilA) intA))) [1])) nilG) tupA)) ρ
def s_ascending_u (K : Fg) : PEnv → SR := (t_ascending_u_0 K)
def m_ascending_u (K : Fg) : List PV → FR := fnM 1 1 [0] (s_ascending_u K)
@[simp] def t_Lot_init_u_0 (K : Fg) (ρ : PEnv) : SR := (raiseG (He.ga K "BadPlace") "number" (vG (nmE 2))) ρ
@[simp] def t_Lot_init_u_1 (K : Fg) (ρ : PEnv) : SR := (ifG (fun ρ => ((bind2b (nmE 2) (fun _ => ER.ok (PV.sc (V.int 0))) ltI) ρ).at ρ) (t_Lot_init_u_0 K)
    skipS) ρ
@[simp] def t_Lot_init_u_2 (K : Fg) (ρ : PEnv) : SR := (forG (iterI (vG (nmE 1)) (eitK (ownF (He.ga K "Lot") "places") seqF)) (nmT 2)
    (t_Lot_init_u_1 K)) ρ
@[simp] def t_Lot_init_u_3 (K : Fg) (ρ : PEnv) : SR := (setFldG 0 (He.ga K "Lot") "places" (frzG (callM (m_ascending_u K) (vlAg (vG (nmE 1)) nilAg)))) ρ
def s_Lot_init_u (K : Fg) : PEnv → SR := (seqS (t_Lot_init_u_2 K)
    (t_Lot_init_u_3 K))
def m_Lot_init_u (K : Fg) : List PV → FR := fnM 2 1 [0, 1] (s_Lot_init_u K)
@[simp] def t_Placing_init_u_0 (K : Fg) (ρ : PEnv) : SR := (raiseG (He.ga K "BadMark") "number" (vG (nmE 3))) ρ
@[simp] def t_Placing_init_u_1 (K : Fg) (ρ : PEnv) : SR := (ifG (fun ρ => ((bind2b (nmE 3) (fun _ => ER.ok (PV.sc (V.int 0))) ltI) ρ).at ρ) (t_Placing_init_u_0 K)
    skipS) ρ
@[simp] def t_Placing_init_u_2 (K : Fg) (ρ : PEnv) : SR := (forG (iterI (frzG (fG (bindA (starA (nmE 1) (starA (nmE 2) nilA)) displayL))) seqF) (nmT 3)
    (t_Placing_init_u_1 K)) ρ
@[simp] def t_Placing_init_u_3 (K : Fg) (ρ : PEnv) : SR := (setFldG 0 (He.ga K "Placing") "saves" (frzG (callM (m_ascending_u K) (vlAg (vG (nmE 1)) nilAg)))) ρ
@[simp] def t_Placing_init_u_4 (K : Fg) (ρ : PEnv) : SR := (setFldG 0 (He.ga K "Placing") "backs" (frzG (callM (m_ascending_u K) (vlAg (vG (nmE 2)) nilAg)))) ρ
@[simp] def t_Placing_init_u_5 (K : Fg) (ρ : PEnv) : SR := (raiseG (He.ga K "TwoMarks") "number" (vG (nmE 3))) ρ
@[simp] def t_Placing_init_u_6 (K : Fg) (ρ : PEnv) : SR := (ifG (fun ρ => ((bind2b (nmE 3) (bind1 (nmE 0) (fldP (He.ga K "Placing") "backs")) (inP false)) ρ).at ρ) (t_Placing_init_u_5 K)
    skipS) ρ
@[simp] def t_Placing_init_u_7 (K : Fg) (ρ : PEnv) : SR := (forG (iterI (vG (bind1 (nmE 0) (fldP (He.ga K "Placing") "saves"))) seqF) (nmT 3)
    (t_Placing_init_u_6 K)) ρ
def s_Placing_init_u (K : Fg) : PEnv → SR := (seqS (t_Placing_init_u_2 K)
    (seqS (t_Placing_init_u_3 K)
    (seqS (t_Placing_init_u_4 K)
    (t_Placing_init_u_7 K))))
def m_Placing_init_u (K : Fg) : List PV → FR := fnM 3 1 [0, 1, 2] (s_Placing_init_u K)
@[simp] def t_placing_of_u_0 (K : Fg) (ρ : PEnv) : SR := (dropG (callM (m_check_places K) (vlAg (vG (nmE 0)) (vlAg (vG (nmE 1)) nilAg)))) ρ
@[simp] def t_placing_of_u_1 (K : Fg) (ρ : PEnv) : SR := (setG 2 (frzG (compG (iterA (consG (frzG (fG (bind1 (nmE 0) (ow1 (He.ga K "Web") (m_Web_gates K))))) nilG) rngK1) (nmT 3) yesG (frzG (callM (m_mark_of K) (vlAg (vG (nmE 0)) (vlAg (vG (nmE 1)) (vlAg (vG (nmE 3)) nilAg))))) [3]))) ρ
@[simp] def t_placing_of_u_2 (K : Fg) (ρ : PEnv) : SR := (setG 4 (frzG (compG (iterA (consG (vG (nmE 2)) nilG) enumK) (tupT 2 (consT (nmT 3) (consT (nmT 5) nilT))) (fun ρ => ((bind2b (nmE 5) (fun _ => ER.ok (PV.sc (V.str ("save" : Str)))) eqP) ρ).at ρ) (vG (nmE 3)) [3, 5]))) ρ
@[simp] def t_placing_of_u_3 (K : Fg) (ρ : PEnv) : SR := (retG (makeM (He.ga K "Placing") (m_Placing_init_u K) (vlAg (vG (nmE 4)) (vlAg (frzG (compG (iterA (consG (vG (nmE 2)) nilG) enumK) (tupT 2 (consT (nmT 3) (consT (nmT 5) nilT))) (fun ρ => ((bind2b (nmE 5) (fun _ => ER.ok (PV.sc (V.str ("back" : Str)))) eqP) ρ).at ρ) (vG (nmE 3)) [3, 5])) nilAg)))) ρ
def s_placing_of_u (K : Fg) : PEnv → SR := (seqS (t_placing_of_u_0 K)
    (seqS (t_placing_of_u_1 K)
    (seqS (t_placing_of_u_2 K)
    (t_placing_of_u_3 K))))
def m_placing_of_u (K : Fg) : List PV → FR := fnM 2 4 [0, 1] (s_placing_of_u K)
@[simp] def t_good_price_0 (K : Fg) (ρ : PEnv) : SR := (retG (vG (orE (bind1s (nmE 0) (isnV false)) (chainE (fun _ => ER.ok (PV.sc (V.int 0))) (nmE 0) (fun _ => ER.ok (PV.sc (V.int 100000))) leI leI)))) ρ
def s_good_price (K : Fg) : PEnv → SR := (t_good_price_0 K)
def m_good_price (K : Fg) : List PV → FR := fnM 1 0 [0] (s_good_price K)
@[simp] def t_check_numbers_0 (K : Fg) (ρ : PEnv) : SR := (raiseG (He.ga K "BadPrice") "gate" (vG (nmE 1))) ρ
@[simp] def t_check_numbers_1 (K : Fg) (ρ : PEnv) : SR := (ifG (notG (truG (frzG (callM (m_good_price K) (vlAg (vG (nmE 2)) nilAg))))) (t_check_numbers_0 K)
    skipS) ρ
@[simp] def t_check_numbers_2 (K : Fg) (ρ : PEnv) : SR := (forG (iterA (consG (vG (nmE 0)) nilG) enumK) (tupT 2 (consT (nmT 1) (consT (nmT 2) nilT)))
    (t_check_numbers_1 K)) ρ
def s_check_numbers (K : Fg) : PEnv → SR := (t_check_numbers_2 K)
def m_check_numbers (K : Fg) : List PV → FR := fnM 1 2 [0] (s_check_numbers K)
@[simp] def t_added_0 (K : Fg) (ρ : PEnv) : SR := (retG (vG (ifE (orB (isnE false (nmE 0)) (isnE false (nmE 1))) (fun _ => ER.ok (PV.sc V.non)) (frzE (bind2 (nmE 0) (nmE 1) addU))))) ρ
def s_added (K : Fg) : PEnv → SR := (t_added_0 K)
def m_added (K : Fg) : List PV → FR := fnM 2 0 [0, 1] (s_added K)
@[simp] def t_Prices_init_0 (K : Fg) (ρ : PEnv) : SR := (raiseG (He.ga K "BadLength") "count" (frzG (fG (bindA (consA (nmE 4) nilA) lenA)))) ρ
@[simp] def t_Prices_init_1 (K : Fg) (ρ : PEnv) : SR := (ifG (fun ρ => ((bind2b (frzE (bindA (consA (nmE 4) nilA) lenA)) (frzE (bind1 (nmE 1) (ow1 (He.ga K "Web") (m_Web_gates K)))) neP) ρ).at ρ) (t_Prices_init_0 K)
    skipS) ρ
@[simp] def t_Prices_init_2 (K : Fg) (ρ : PEnv) : SR := (forG (iterI (frzG (fG (bindA (consA (nmE 2) (consA (nmE 3) nilA)) displayT))) tupK) (nmT 4)
    (t_Prices_init_1 K)) ρ
@[simp] def t_Prices_init_3 (K : Fg) (ρ : PEnv) : SR := (dropG (callM (m_check_numbers K) (vlAg (vG (nmE 2)) nilAg))) ρ
@[simp] def t_Prices_init_4 (K : Fg) (ρ : PEnv) : SR := (dropG (callM (m_check_numbers K) (vlAg (vG (nmE 3)) nilAg))) ρ
@[simp] def t_Prices_init_5 (K : Fg) (ρ : PEnv) : SR := (setFldG 0 (He.ga K "Prices") "web" (vG (nmE 1))) ρ
@[simp] def t_Prices_init_6 (K : Fg) (ρ : PEnv) : SR := (setFldG 0 (He.ga K "Prices") "saves" (frzG (fG (bindA (consA (nmE 2) nilA) tupA)))) ρ
@[simp] def t_Prices_init_7 (K : Fg) (ρ : PEnv) : SR := (setFldG 0 (He.ga K "Prices") "backs" (frzG (fG (bindA (consA (nmE 3) nilA) tupA)))) ρ
def s_Prices_init (K : Fg) : PEnv → SR := (seqS (t_Prices_init_2 K)
    (seqS (t_Prices_init_3 K)
    (seqS (t_Prices_init_4 K)
    (seqS (t_Prices_init_5 K)
    (seqS (t_Prices_init_6 K)
    (t_Prices_init_7 K))))))
def m_Prices_init (K : Fg) : List PV → FR := fnM 4 1 [0, 1, 2, 3] (s_Prices_init K)
@[simp] def t_check_web_0 (K : Fg) (ρ : PEnv) : SR := (raise0G (He.ga K "OtherWeb")) ρ
@[simp] def t_check_web_1 (K : Fg) (ρ : PEnv) : SR := (ifG (fun ρ => ((notE (bind2b (bind1 (nmE 1) (fldP (He.ga K "Prices") "web")) (nmE 0) (ow2b (He.ga K "Web") (m_Web_eq K)))) ρ).at ρ) (t_check_web_0 K)
    skipS) ρ
def s_check_web (K : Fg) : PEnv → SR := (t_check_web_1 K)
def m_check_web (K : Fg) : List PV → FR := fnM 2 0 [0, 1] (s_check_web K)
@[simp] def t_lot_cost_u_0 (K : Fg) (ρ : PEnv) : SR := (setG 2 (frzG (callM (m_placing_of_u K) (vlAg (vG (bind1 (nmE 1) (fldP (He.ga K "Prices") "web"))) (vlAg (vG (nmE 0)) nilAg))))) ρ
@[simp] def t_lot_cost_u_1 (K : Fg) (ρ : PEnv) : SR := (setG 3 (vG (fun _ => ER.ok (PV.sc (V.int 0))))) ρ
@[simp] def t_lot_cost_u_2 (K : Fg) (ρ : PEnv) : SR := (setG 3 (frzG (callM (m_added K) (vlAg (vG (nmE 3)) (vlAg (vG (bind2 (bind1 (nmE 1) (fldP (He.ga K "Prices") "saves")) (nmE 4) ixP)) nilAg))))) ρ
@[simp] def t_lot_cost_u_3 (K : Fg) (ρ : PEnv) : SR := (forG (iterI (vG (bind1 (nmE 2) (fldP (He.ga K "Placing") "saves"))) seqF) (nmT 4)
    (t_lot_cost_u_2 K)) ρ
@[simp] def t_lot_cost_u_4 (K : Fg) (ρ : PEnv) : SR := (setG 3 (frzG (callM (m_added K) (vlAg (vG (nmE 3)) (vlAg (vG (bind2 (bind1 (nmE 1) (fldP (He.ga K "Prices") "backs")) (nmE 4) ixP)) nilAg))))) ρ
@[simp] def t_lot_cost_u_5 (K : Fg) (ρ : PEnv) : SR := (forG (iterI (vG (bind1 (nmE 2) (fldP (He.ga K "Placing") "backs"))) seqF) (nmT 4)
    (t_lot_cost_u_4 K)) ρ
@[simp] def t_lot_cost_u_6 (K : Fg) (ρ : PEnv) : SR := (retG (vG (nmE 3))) ρ
def s_lot_cost_u (K : Fg) : PEnv → SR := (seqS (t_lot_cost_u_0 K)
    (seqS (t_lot_cost_u_1 K)
    (seqS (t_lot_cost_u_3 K)
    (seqS (t_lot_cost_u_5 K)
    (t_lot_cost_u_6 K)))))
def m_lot_cost_u (K : Fg) : List PV → FR := fnM 2 3 [0, 1] (s_lot_cost_u K)
@[simp] def t_cost_u_0 (K : Fg) (ρ : PEnv) : SR := (setG 1 (frzG (makeM (He.ga K "Lot") (m_Lot_init_u K) (vlAg (vG (nmE 1)) nilAg)))) ρ
@[simp] def t_cost_u_1 (K : Fg) (ρ : PEnv) : SR := (dropG (callM (m_check_places K) (vlAg (vG (nmE 0)) (vlAg (vG (nmE 1)) nilAg)))) ρ
@[simp] def t_cost_u_2 (K : Fg) (ρ : PEnv) : SR := (dropG (callM (m_check_web K) (vlAg (vG (nmE 0)) (vlAg (vG (nmE 2)) nilAg)))) ρ
@[simp] def t_cost_u_3 (K : Fg) (ρ : PEnv) : SR := (retG (callM (m_lot_cost_u K) (vlAg (vG (nmE 1)) (vlAg (vG (nmE 2)) nilAg)))) ρ
def s_cost_u (K : Fg) : PEnv → SR := (seqS (t_cost_u_0 K)
    (seqS (t_cost_u_1 K)
    (seqS (t_cost_u_2 K)
    (t_cost_u_3 K))))
def m_cost_u (K : Fg) : List PV → FR := fnM 3 0 [0, 2] (s_cost_u K)
@[simp] def t_law_price_0 (K : Fg) (ρ : PEnv) : SR := (retG (vG (fun _ => ER.ok (PV.sc V.non)))) ρ
@[simp] def t_law_price_1 (K : Fg) (ρ : PEnv) : SR := (ifG (bindG2b (frzG (callM (m_law_take K) (plAg 0 (vlAg (vG (fun _ => ER.ok (PV.sc (V.int 12)))) nilAg)))) (vG (nmE 1)) ltI) (t_law_price_0 K)
    skipS) ρ
@[simp] def t_law_price_2 (K : Fg) (ρ : PEnv) : SR := (retG (ifZ (bindG2b (frzG (callM (m_law_take K) (plAg 0 (vlAg (vG (fun _ => ER.ok (PV.sc (V.int 4)))) nilAg)))) (vG (fun _ => ER.ok (PV.sc (V.int 0)))) eqP) (callM (m_law_take K) (plAg 0 (vlAg (vG (fun _ => ER.ok (PV.sc (V.int 100001)))) nilAg))) (callM (m_law_take K) (plAg 0 (vlAg (vG (fun _ => ER.ok (PV.sc (V.int 6)))) nilAg))))) ρ
def s_law_price (K : Fg) : PEnv → SR := (seqS (t_law_price_1 K)
    (t_law_price_2 K))
def m_law_price (K : Fg) : List PV → FR := fnM 2 0 [0, 1] (s_law_price K)
@[simp] def t_law_numbers_v2_0 (K : Fg) (ρ : PEnv) : SR := (setG 3 (frzG (callM (m_law_gates_v4 K) (vlAg (vG (nmE 1)) nilAg)))) ρ
@[simp] def t_law_numbers_v2_1 (K : Fg) (ρ : PEnv) : SR := (retG (compG (iterA (consG (vG (fun _ => ER.ok (PV.sc (V.int 2)))) nilG) rngK1) (nmT 5) yesG (frzG (compG (iterI (vG (nmE 3)) seqF) (nmT 4) yesG (frzG (callM (m_law_price K) (plAg 0 (vlAg (vG (nmE 2)) nilAg)))) [4])) [5])) ρ
@[simp] def t_law_cost_0 (K : Fg) (ρ : PEnv) : SR := (setG 3 (vG (fun _ => ER.ok (PV.sc (V.int 0))))) ρ
@[simp] def t_law_cost_1 (K : Fg) (ρ : PEnv) : SR := (setG 5 (vG (bind2s (bind2 (bind2 (nmE 0) (nmE 4) ixP) (fun _ => ER.ok (PV.sc (V.int 0))) ixP) (nmE 2) fun p q => ((inP false) p q).map V.bl))) ρ
@[simp] def t_law_cost_2 (K : Fg) (ρ : PEnv) : SR := (setG 6 (vG (bind2s (bind2 (bind2 (nmE 0) (nmE 4) ixP) (fun _ => ER.ok (PV.sc (V.int 1))) ixP) (nmE 2) fun p q => ((inP false) p q).map V.bl))) ρ
@[simp] def t_law_cost_3 (K : Fg) (ρ : PEnv) : SR := (setG 7 (vG (fun _ => ER.ok (PV.sc (V.int 0))))) ρ
@[simp] def t_law_cost_4 (K : Fg) (ρ : PEnv) : SR := (setG 7 (vG (bind2 (bind2 (nmE 1) (fun _ => ER.ok (PV.sc (V.int 0))) ixP) (nmE 4) ixP))) ρ
@[simp] def t_law_cost_5 (K : Fg) (ρ : PEnv) : SR := (ifG (fun ρ => ((andB (truE (nmE 6)) (notE (truE (nmE 5)))) ρ).at ρ) (t_law_cost_4 K)
    skipS) ρ
@[simp] def t_law_cost_6 (K : Fg) (ρ : PEnv) : SR := (setG 7 (vG (bind2 (bind2 (nmE 1) (fun _ => ER.ok (PV.sc (V.int 1))) ixP) (nmE 4) ixP))) ρ
@[simp] def t_law_cost_7 (K : Fg) (ρ : PEnv) : SR := (ifG (fun ρ => ((andB (truE (nmE 5)) (notE (truE (nmE 6)))) ρ).at ρ) (t_law_cost_6 K)
    skipS) ρ
@[simp] def t_law_cost_8 (K : Fg) (ρ : PEnv) : SR := (setG 3 (vG (ifE (orB (isnE false (nmE 3)) (isnE false (nmE 7))) (fun _ => ER.ok (PV.sc V.non)) (frzE (bind2 (nmE 3) (nmE 7) addU))))) ρ
@[simp] def t_law_cost_9 (K : Fg) (ρ : PEnv) : SR := (forG (iterA (consG (frzG (fG (bindA (consA (nmE 0) nilA) lenA))) nilG) rngK1) (nmT 4)
    (seqS (t_law_cost_1 K)
    (seqS (t_law_cost_2 K)
    (seqS (t_law_cost_3 K)
    (seqS (t_law_cost_5 K)
    (seqS (t_law_cost_7 K)
    (t_law_cost_8 K))))))) ρ
@[simp] def t_law_cost_10 (K : Fg) (ρ : PEnv) : SR := (retG (vG (nmE 3))) ρ
def s_law_cost (K : Fg) : PEnv → SR := (seqS (t_law_cost_0 K)
    (seqS (t_law_cost_9 K)
    (t_law_cost_10 K)))
def m_law_cost (K : Fg) : List PV → FR := fnM 3 5 [0, 1, 2] (s_law_cost K)
@[simp] def t_law_made_v2_0 (K : Fg) (ρ : PEnv) : SR := (setG 2 (frzG (makeM (He.ga K "Web") (m_Web_init K) (vlAg (vG (bind2 (nmE 0) (fun _ => ER.ok (PV.sc (V.int 0))) ixP)) (vlAg (vG (bind2 (nmE 0) (fun _ => ER.ok (PV.sc (V.int 1))) ixP)) (vlAg (vG (bind2 (nmE 0) (fun _ => ER.ok (PV.sc (V.int 2))) ixP)) (vlAg (vG (bind2 (nmE 0) (fun _ => ER.ok (PV.sc (V.int 3))) ixP)) nilAg))))))) ρ
@[simp] def t_law_made_v2_1 (K : Fg) (ρ : PEnv) : SR := (retG (bindGA (consG (vG (nmE 2)) (consG (frzG (makeM (He.ga K "Prices") (m_Prices_init K) (vlAg (vG (nmE 2)) (vlAg (vG (bind2 (nmE 1) (fun _ => ER.ok (PV.sc (V.int 0))) ixP)) (vlAg (vG (bind2 (nmE 1) (fun _ => ER.ok (PV.sc (V.int 1))) ixP)) nilAg))))) nilG)) displayL)) ρ
end
end SP
namespace SP
noncomputable section
open PySem PySem.Spec PyProof.Rows L2 RL
@[simp] def t_Lot_or_u_0 (K : Fg) (ρ : PEnv) : SR := (retG (makeM (He.ga K "Lot") (m_Lot_init_u K) (vlAg (frzG (fG (bindA (starA (bind1 (nmE 0) (fldP (He.ga K "Lot") "places")) (starA (bind1 (nmE 1) (fldP (He.ga K "Lot") "places")) nilA)) displayL))) nilAg))) ρ
@[simp] def t_Lot_and_u_0 (K : Fg) (ρ : PEnv) : SR := (retG (makeM (He.ga K "Lot") (m_Lot_init_u K) (vlAg (frzG (compG (iterI (vG (bind1 (nmE 0) (fldP (He.ga K "Lot") "places"))) seqF) (nmT 2) (fun ρ => ((bind2b (nmE 2) (bind1 (nmE 1) (fldP (He.ga K "Lot") "places")) (inP false)) ρ).at ρ) (vG (nmE 2)) [2])) nilAg))) ρ
end
end SP
namespace TP
open PySem PySem.Spec PyProof.Rows L2 RL SP TL
structure TPrices where
  web : TWeb
  saves : List (Option Int)
  backs : List (Option Int)
variable {K : Fg}
end TP
section
set_option maxHeartbeats 0
namespace TP
open PySem PySem.Spec PyProof.Rows L2 RL SP TL
end TP
end
namespace SP
noncomputable section
open PySem PySem.Spec PyProof.Rows L2 RL
@[simp] def t_Prices_add_0 (K : Fg) (ρ : PEnv) : SR := (dropG (callM (m_check_web K) (vlAg (vG (bind1 (nmE 0) (fldP (He.ga K "Prices") "web"))) (vlAg (vG (nmE 1)) nilAg)))) ρ
@[simp] def t_Prices_add_1 (K : Fg) (ρ : PEnv) : SR := (setG 2 (frzG (compG (iterA (consG (vG (bind1 (nmE 0) (fldP (He.ga K "Prices") "saves"))) (consG (vG (bind1 (nmE 1) (fldP (He.ga K "Prices") "saves"))) nilG)) zipK) (tupT 2 (consT (nmT 3) (consT (nmT 4) nilT))) yesG (frzG (callM (m_added K) (vlAg (vG (nmE 3)) (vlAg (vG (nmE 4)) nilAg)))) [3, 4]))) ρ
@[simp] def t_Prices_add_2 (K : Fg) (ρ : PEnv) : SR := (retG (makeM (He.ga K "Prices") (m_Prices_init K) (vlAg (vG (bind1 (nmE 0) (fldP (He.ga K "Prices") "web"))) (vlAg (vG (nmE 2)) (vlAg (frzG (compG (iterA (consG (vG (bind1 (nmE 0) (fldP (He.ga K "Prices") "backs"))) (consG (vG (bind1 (nmE 1) (fldP (He.ga K "Prices") "backs"))) nilG)) zipK) (tupT 2 (consT (nmT 3) (consT (nmT 4) nilT))) yesG (frzG (callM (m_added K) (vlAg (vG (nmE 3)) (vlAg (vG (nmE 4)) nilAg)))) [3, 4])) nilAg))))) ρ
end
end SP
section
set_option maxHeartbeats 0
namespace TP
open PySem PySem.Spec PyProof.Rows L2 RL SP TL
end TP
end
namespace PW
open PySem PySem.Spec PyProof.Rows L2 RL TL TP
def addO : Option Int → Option Int → Option Int
  | some x, some y => some (x + y)
  | _, _ => none
@[simp] theorem addO_ss (x y : Int) : addO (some x) (some y) = some (x + y) := rfl
@[simp] theorem addO_n (a : Option Int) : addO none a = none := rfl
@[simp] theorem addO_n' (a : Option Int) : addO a none = none := by cases a <;> rfl
theorem addO_z (a : Option Int) : addO (some 0) a = a := by cases a <;> simp
theorem addO_z' (a : Option Int) : addO a (some 0) = a := by cases a <;> simp
theorem addO_assoc (a b c : Option Int) : addO (addO a b) c = addO a (addO b c) := by cases a <;> cases b <;> cases c <;> simp [Int.add_assoc]
def sumO (xs : List (Option Int)) : Option Int := xs.foldr addO (some 0)
@[simp] theorem sumO_nil : sumO [] = some 0 := rfl
@[simp] theorem sumO_cons (x : Option Int) (xs : List (Option Int)) : sumO (x :: xs) = addO x (sumO xs) := rfl
theorem sumO_append (xs ys : List (Option Int)) : sumO (xs ++ ys) = addO (sumO xs) (sumO ys) := by
  induction xs with
  | nil => simp [addO_z]
  | cons x xs ih => simp [ih, addO_assoc]
def prAt (xs : List (Option Int)) (g : Int) : Option Int := xs.getD g.toNat none
theorem prAt_e {xs : List (Option Int)} {g : Int} (h0 : 0 ≤ g) (h1 : g < xs.length) : atI xs g = some (prAt xs g) := by
  rw [at_e h0 h1];unfold prAt
  rw [List.getD_eq_getElem?_getD, List.getElem?_eq_getElem (by omega)]; rfl
def mPrice (w : TWeb) (sv bk : List (Option Int)) (S : List Int) (g : Int) : Option Int := if isSave w S g = true then prAt sv g else if isBack w S g = true then prAt bk g else some 0
def costO (w : TWeb) (sv bk : List (Option Int)) (S : List Int) : Option Int := sumO ((rngL 0 (gatesL w).length).map (mPrice w sv bk S))
theorem isSave_ext {w : TWeb} {S S' : List Int} (h : ∀ x, x ∈ S ↔ x ∈ S') : isSave w S = isSave w S' := by funext g; unfold isSave; simp [h]
theorem isBack_ext {w : TWeb} {S S' : List Int} (h : ∀ x, x ∈ S ↔ x ∈ S') : isBack w S = isBack w S' := by funext g; unfold isBack; simp [h]
theorem costO_ext {w : TWeb} {sv bk : List (Option Int)} {S S' : List Int} (h : ∀ x, x ∈ S ↔ x ∈ S') : costO w sv bk S = costO w sv bk S' := by
  unfold costO;congr 2; funext g; unfold mPrice; rw [isSave_ext h, isBack_ext h]
/-- prices that fit -/
structure PrOk (pr : TPrices) : Prop where
  ls : pr.saves.length = (gatesL pr.web).length
  lb : pr.backs.length = (gatesL pr.web).length
def goodP (p : Option Int) : Prop := ∀ v, p = some v → 0 ≤ v ∧ v ≤ 100000
structure NumOk (n : Nat) (a : List (List (Option Int))) : Prop where
  ex : ∃ sv bk, a = [sv, bk] ∧ sv.length = n ∧ bk.length = n ∧ (∀ p ∈ sv, goodP p) ∧ ∀ p ∈ bk, goodP p
end PW
namespace PW
open PySem PySem.Spec PyProof.Rows L2 RL TL TP
def posP (p : Option Int) : Prop := ∀ v, p = some v → 0 ≤ v
theorem posP_at {xs : List (Option Int)} (h : ∀ p ∈ xs, posP p) (g : Int) : posP (prAt xs g) := by
  intro v hv;unfold prAt at hv
  rw [List.getD_eq_getElem?_getD] at hv;cases e : xs[g.toNat]? with
  | none => rw [e] at hv; cases hv
  | some p => rw [e] at hv; exact h p (List.mem_of_getElem? e) v hv
end PW
namespace TL
open PySem PySem.Spec PyProof.Rows L2 RL
section
variable {α β : Type} {f : α → PV} {ρ : PEnv}
@[irreducible] def getD (k : Int) (d : List (Int × α)) : Option α := (d.find? fun x => decide (x.1 = k)).map (·.2)
end
end TL
namespace SP
noncomputable section
open PySem PySem.Spec PyProof.Rows L2 RL
@[simp] def t_end_of_row_0 (K : Fg) (ρ : PEnv) : SR := (setG 3 (vG (nmE 1))) ρ
@[simp] def t_end_of_row_1 (K : Fg) (ρ : PEnv) : SR := (raiseG (He.ga K "BadWay") "index" (vG (nmE 4))) ρ
@[simp] def t_end_of_row_2 (K : Fg) (ρ : PEnv) : SR := (ifG (fun ρ => ((orB (notE (tstE (chainE (fun _ => ER.ok (PV.sc (V.int 0))) (nmE 5) (frzE (bindA (consA (bind1 (nmE 0) (fldP (He.ga K "Web") "edges")) nilA) lenA)) leI ltI))) (bind2b (bind2 (bind2 (bind1 (nmE 0) (fldP (He.ga K "Web") "edges")) (nmE 5) ixP) (fun _ => ER.ok (PV.sc (V.int 0))) ixP) (nmE 3) neP)) ρ).at ρ) (t_end_of_row_1 K)
    skipS) ρ
@[simp] def t_end_of_row_3 (K : Fg) (ρ : PEnv) : SR := (setG 3 (vG (bind2 (bind2 (bind1 (nmE 0) (fldP (He.ga K "Web") "edges")) (nmE 5) ixP) (fun _ => ER.ok (PV.sc (V.int 1))) ixP))) ρ
@[simp] def t_end_of_row_4 (K : Fg) (ρ : PEnv) : SR := (forG (iterA (consG (vG (nmE 2)) nilG) enumK) (tupT 2 (consT (nmT 4) (consT (nmT 5) nilT)))
    (seqS (t_end_of_row_2 K)
    (t_end_of_row_3 K))) ρ
@[simp] def t_end_of_row_5 (K : Fg) (ρ : PEnv) : SR := (retG (vG (nmE 3))) ρ
def s_end_of_row (K : Fg) : PEnv → SR := (seqS (t_end_of_row_0 K)
    (seqS (t_end_of_row_4 K)
    (t_end_of_row_5 K)))
def m_end_of_row (K : Fg) : List PV → FR := fnM 3 3 [0, 1, 2] (s_end_of_row K)
@[simp] def t_places_of_0 (K : Fg) (ρ : PEnv) : SR := (dropG (callM (m_end_of_row K) (vlAg (vG (nmE 0)) (vlAg (vG (bind1 (nmE 0) (fldP (He.ga K "Web") "entry"))) (vlAg (vG (nmE 1)) nilAg))))) ρ
@[simp] def t_places_of_1 (K : Fg) (ρ : PEnv) : SR := (retG (bindGA (consG (vG (bind1 (nmE 0) (fldP (He.ga K "Web") "entry"))) (starG (frzG (compG (iterI (vG (nmE 1)) seqF) (nmT 2) yesG (vG (bind2 (bind2 (bind1 (nmE 0) (fldP (He.ga K "Web") "edges")) (nmE 2) ixP) (fun _ => ER.ok (PV.sc (V.int 1))) ixP)) [2])) nilG)) displayT)) ρ
@[simp] def t_law_madew_0 (K : Fg) (ρ : PEnv) : SR := (asgG (tupW 4 (consT (nmT 1) (consT (nmT 2) (consT (nmT 3) (consT (nmT 4) nilT))))) (vG (nmE 0))) ρ
@[simp] def t_law_madew_1 (K : Fg) (ρ : PEnv) : SR := (retG (makeM (He.ga K "Web") (m_Web_init K) (vlAg (vG (nmE 1)) (vlAg (vG (nmE 2)) (vlAg (vG (nmE 3)) (vlAg (vG (nmE 4)) nilAg)))))) ρ
@[simp] def t_law_far_0 (K : Fg) (ρ : PEnv) : SR := (asgG (tupW 4 (consT (nmT 2) (consT (nmT 3) (consT (nmT 4) (consT (nmT 5) nilT))))) (vG (nmE 0))) ρ
@[simp] def t_law_far_1 (K : Fg) (ρ : PEnv) : SR := (setG 6 (frzG (fG (bindA (consA (nmE 5) nilA) listA)))) ρ
@[simp] def t_law_far_2 (K : Fg) (ρ : PEnv) : SR := (retG (vG (nmE 7))) ρ
@[simp] def t_law_far_3 (K : Fg) (ρ : PEnv) : SR := (ifG (fun ρ => ((bind2b (nmE 1) (nmE 6) (inP false)) ρ).at ρ) (t_law_far_2 K)
    skipS) ρ
@[simp] def t_law_far_4 (K : Fg) (ρ : PEnv) : SR := (setG 6 (frzG (bindG2 (vG (nmE 6)) (frzG (compG (iterI (vG (nmE 3)) seqF) (tupT 2 (consT (nmT 8) (consT (nmT 9) nilT))) (fun ρ => ((bind2b (nmE 9) (nmE 6) (inP false)) ρ).at ρ) (vG (nmE 8)) [8, 9])) addU))) ρ
@[simp] def t_law_far_5 (K : Fg) (ρ : PEnv) : SR := (forG (iterA (consG (vG (nmE 2)) nilG) rngK1) (nmT 7)
    (seqS (t_law_far_3 K)
    (t_law_far_4 K))) ρ
@[simp] def t_law_far_6 (K : Fg) (ρ : PEnv) : SR := (retG (vG (nmE 2))) ρ
def s_law_far (K : Fg) : PEnv → SR := (seqS (t_law_far_0 K)
    (seqS (t_law_far_1 K)
    (seqS (t_law_far_5 K)
    (t_law_far_6 K))))
def m_law_far (K : Fg) : List PV → FR := fnM 2 8 [0, 1] (s_law_far K)
@[simp] def t_law_way_0 (K : Fg) (ρ : PEnv) : SR := (asgG (tupW 4 (consT (nmT 3) (consT (nmT 4) (consT (nmT 5) (consT (nmT 6) nilT))))) (vG (nmE 1))) ρ
@[simp] def t_law_way_1 (K : Fg) (ρ : PEnv) : SR := (setG 7 (vG (nmE 5))) ρ
@[simp] def t_law_way_2 (K : Fg) (ρ : PEnv) : SR := (setG 8 (fG (bindA nilA displayL))) ρ
@[simp] def t_law_way_3 (K : Fg) (ρ : PEnv) : SR := (ifG (andG (fun ρ => ((bind2b (nmE 7) (nmE 6) (inP false)) ρ).at ρ) (orG (fun ρ => ((bind2b (nmE 9) (nmE 2) geI) ρ).at ρ) (bindG2b (frzG (callM (m_law_draw K) (plAg 0 (vlAg (vG (fun _ => ER.ok (PV.sc (V.int 4)))) nilAg)))) (vG (fun _ => ER.ok (PV.sc (V.int 0)))) eqP))) SR.bk
    skipS) ρ
@[simp] def t_law_way_4 (K : Fg) (ρ : PEnv) : SR := (setG 10 (frzG (compG (iterA (consG (frzG (fG (bindA (consA (nmE 4) nilA) lenA))) nilG) rngK1) (nmT 11) (fun ρ => ((bind2b (bind2 (bind2 (nmE 4) (nmE 11) ixP) (fun _ => ER.ok (PV.sc (V.int 0))) ixP) (nmE 7) eqP) ρ).at ρ) (vG (nmE 11)) [11]))) ρ
@[simp] def t_law_way_5 (K : Fg) (ρ : PEnv) : SR := (setG 10 (frzG (compG (iterI (vG (nmE 10)) seqF) (nmT 11) (bindG2b (frzG (callM (m_law_far K) (vlAg (vG (nmE 1)) (vlAg (vG (bind2 (bind2 (nmE 4) (nmE 11) ixP) (fun _ => ER.ok (PV.sc (V.int 1))) ixP)) nilAg)))) (frzG (callM (m_law_far K) (vlAg (vG (nmE 1)) (vlAg (vG (nmE 7)) nilAg)))) ltI) (vG (nmE 11)) [11]))) ρ
@[simp] def t_law_way_6 (K : Fg) (ρ : PEnv) : SR := (ifG (fun ρ => ((bind2b (nmE 9) (nmE 2) geI) ρ).at ρ) (t_law_way_5 K)
    skipS) ρ
@[simp] def t_law_way_7 (K : Fg) (ρ : PEnv) : SR := (ifG (fun ρ => ((bind2b (nmE 10) (frzE (bindA nilA displayL)) eqP) ρ).at ρ) SR.bk
    skipS) ρ
@[simp] def t_law_way_8 (K : Fg) (ρ : PEnv) : SR := (setG 12 (ixG 10 (frzG (callM (m_law_draw K) (plAg 0 (vlAg (frzG (fG (bindA (consA (nmE 10) nilA) lenA))) nilAg)))))) ρ
@[simp] def t_law_way_9 (K : Fg) (ρ : PEnv) : SR := (dropG (mutE 8 (consG (vG (nmE 12)) nilG) appA)) ρ
@[simp] def t_law_way_10 (K : Fg) (ρ : PEnv) : SR := (setG 7 (vG (bind2 (bind2 (nmE 4) (nmE 12) ixP) (fun _ => ER.ok (PV.sc (V.int 1))) ixP))) ρ
@[simp] def t_law_way_11 (K : Fg) (ρ : PEnv) : SR := (forG (iterA (consG (frzG (fG (bind2 (nmE 2) (bind2s (fun _ => ER.ok (PV.sc (V.int 2))) (nmE 3) mulI) addU))) nilG) rngK1) (nmT 9)
    (seqS (t_law_way_3 K)
    (seqS (t_law_way_4 K)
    (seqS (t_law_way_6 K)
    (seqS (t_law_way_7 K)
    (seqS (t_law_way_8 K)
    (seqS (t_law_way_9 K)
    (t_law_way_10 K)))))))) ρ
@[simp] def t_law_way_12 (K : Fg) (ρ : PEnv) : SR := (retG (mvE 8)) ρ
end
end SP
section
set_option maxHeartbeats 0
namespace TP
open PySem PySem.Spec PyProof.Rows L2 RL SP TL
end TP
end
namespace PW
open PySem PySem.Spec PyProof.Rows L2 RL TL TP
def levL (es : List (Int × Int)) (gs : List Int) : Nat → List Int
  | 0 => gs
  | t + 1 => levL es gs t ++ (es.filter fun e => memL e.2 (levL es gs t)).map fun e => e.1
def farN (es : List (Int × Int)) (gs : List Int) (c : Nat) (x : Int) : Nat := ((List.range c).find? fun t => decide (x ∈ levL es gs t)).getD c
theorem mem_lev {es : List (Int × Int)} {gs : List Int} {t : Nat} {x : Int} : x ∈ levL es gs (t + 1) ↔ x ∈ levL es gs t ∨ ∃ y, (x, y) ∈ es ∧ y ∈ levL es gs t := by
  simp only [levL, List.mem_append, List.mem_map, List.mem_filter, memL, decide_eq_true_eq];constructor
  · rintro (h | ⟨⟨a, b⟩, ⟨h1, h2⟩, rfl⟩)
    · exact .inl h
    · exact .inr ⟨b, h1, h2⟩
  · rintro (h | ⟨y, h1, h2⟩)
    · exact .inl h
    · exact .inr ⟨(x, y), ⟨h1, h2⟩, rfl⟩
theorem far_le (es : List (Int × Int)) (gs : List Int) (c : Nat) (x : Int) : farN es gs c x ≤ c := by
  unfold farN;cases h : (List.range c).find? fun t => decide (x ∈ levL es gs t) with
  | none => simp
  | some t =>
    have := List.mem_of_find?_eq_some h
    simp at this ⊢; omega
theorem far_mem {es : List (Int × Int)} {gs : List Int} {c : Nat} {x : Int} (h : farN es gs c x < c) : x ∈ levL es gs (farN es gs c x) ∧ ∀ j, j < farN es gs c x → x ∉ levL es gs j := by
  unfold farN at h ⊢
  cases e : (List.range c).find? fun t => decide (x ∈ levL es gs t) with
  | none => rw [e] at h; simp at h
  | some t =>
    have := List.find?_range_eq_some.mp e
    simp only [Option.getD_some];exact ⟨by simpa using this.1, fun j hj => by simpa using this.2.2 j hj⟩
theorem far_to {es : List (Int × Int)} {gs : List Int} {c i : Nat} {x : Int} (h : x ∈ levL es gs i) : farN es gs c x ≤ i := by
  by_cases hc : farN es gs c x < c
  · exact Nat.le_of_not_lt fun z => (far_mem hc).2 i z h
  · exact Nat.le_of_not_lt fun z => by
      have hl := far_le es gs c x;have e : farN es gs c x = c := by omega
      have hi : i < c := by omega
      unfold farN at e;cases e2 : (List.range c).find? fun t => decide (x ∈ levL es gs t) with
      | none => exact absurd h (by simpa using List.find?_range_eq_none.mp e2 i hi)
      | some t =>
        have := List.mem_of_find?_eq_some e2
        rw [e2] at e; simp at this e; omega
theorem lev_all {es : List (Int × Int)} {gs : List Int} {c : Nat} (g0 : gs ≠ []) (gr : ∀ g ∈ gs, 0 ≤ g ∧ g < (c : Int)) (er : ∀ e ∈ es, (0 ≤ e.1 ∧ e.1 < (c : Int)) ∧ 0 ≤ e.2 ∧ e.2 < (c : Int)) (bw : ∀ x, 0 ≤ x → x < (c : Int) → Rch (swp es) gs x) :
    ∀ t, (∀ x, 0 ≤ x → x < (c : Int) → x ∈ levL es gs t) ∨ t + 1 ≤ ((rngL 0 c).filter fun x => decide (x ∈ levL es gs t)).length
  | 0 => by
    right
    obtain ⟨g, hg⟩ := List.exists_mem_of_ne_nil _ g0;have := gr g hg;have : g ∈ (rngL 0 c).filter fun x => decide (x ∈ levL es gs 0) := List.mem_filter.mpr ⟨mem_rngL.mpr (by omega), decide_eq_true hg⟩
    exact List.length_pos_of_mem this
  | t + 1 => by
    rcases lev_all g0 gr er bw t with h | h
    · exact .inl fun x x0 x1 => mem_lev.mpr (.inl (h x x0 x1))
    · by_cases hn : ∃ y, y ∈ levL es gs (t + 1) ∧ y ∉ levL es gs t ∧ 0 ≤ y ∧ y < (c : Int)
      · obtain ⟨y, y1, y2, y3, y4⟩ := hn;right;have := filt_lt (p := fun x => decide (x ∈ levL es gs t)) (q := fun x => decide (x ∈ levL es gs (t + 1))) (fun x hx => by simp at hx ⊢; exact mem_lev.mpr (.inl hx)) (y := y) (xs := rngL 0 c) (mem_rngL.mpr (by omega)) (by simpa using y2) (by simpa using y1)
        omega
      · left
        intro x x0 x1;have cl : ∀ a b, (a, b) ∈ swp es → a ∈ levL es gs t → b ∈ levL es gs t := fun a b hab ha => by
          have hab := mem_swp.mp hab;have := er _ hab
          exact Classical.byContradiction fun hb => hn ⟨b, mem_lev.mpr (.inr ⟨a, hab, ha⟩), hb, this.1.1, this.1.2⟩
        have g1 : ∀ y ∈ gs, y ∈ levL es gs t := by
          clear h hn cl
          intro y hy;induction t with
          | zero => exact hy
          | succ t ih => exact mem_lev.mpr (.inl ih)
        exact mem_lev.mpr (.inl ((bw x x0 x1).closed g1 cl))
theorem far_lt {es : List (Int × Int)} {gs : List Int} {c : Nat} (c0 : 0 < c) (g0 : gs ≠ []) (gr : ∀ g ∈ gs, 0 ≤ g ∧ g < (c : Int)) (er : ∀ e ∈ es, (0 ≤ e.1 ∧ e.1 < (c : Int)) ∧ 0 ≤ e.2 ∧ e.2 < (c : Int)) (bw : ∀ x, 0 ≤ x → x < (c : Int) → Rch (swp es) gs x) {x : Int} (x0 : 0 ≤ x) (x1 : x < (c : Int)) : farN es gs c x < c := by
  have key : x ∈ levL es gs (c - 1) := by
    rcases lev_all g0 gr er bw (c - 1) with h | h
    · exact h x x0 x1
    · have hl := List.length_filter_le (fun x => decide (x ∈ levL es gs (c - 1))) (rngL 0 c)
      rw [rngL_len] at hl;have he : ((rngL 0 c).filter fun x => decide (x ∈ levL es gs (c - 1))).length = (rngL 0 c).length := by rw [rngL_len]; omega
      have := List.length_filter_eq_length_iff.mp he x (mem_rngL.mpr (by omega))
      simpa using this
  have := far_to (c := c) key
  omega
def edgeAt (es : List (Int × Int)) (i : Int) : Int × Int := es.getD i.toNat (0, 0)
def rowEnd (es : List (Int × Int)) : Int → List Int → Option Int
  | s, [] => some s
  | s, i :: r => if (0 ≤ i ∧ i < es.length) ∧ (edgeAt es i).1 = s then rowEnd es (edgeAt es i).2 r else none
theorem PO.up {M N : Nat} {p : Pool} (h : PO N p) (l : N ≤ M) : PO M p := h.mono l
structure WH (N mo c m : Nat) (t : TTold) : Prop where
  ht : Told m t
  hN : N < 500000
  hm : m ≤ 250
  hc : t.1 = c
  c30 : c ≤ 30
  mo1 : mo ≤ 1000
theorem WH.pr {N mo c m : Nat} {t : TTold} (w : WH N mo c m t) : ∀ e ∈ t.2.1, (0 ≤ e.1 ∧ e.1 < (c : Int)) ∧ 0 ≤ e.2 ∧ e.2 < (c : Int) := fun e he => by have := w.ht.pr e he; have := w.hc; omega
theorem WH.fl {N mo c m : Nat} {t : TTold} (w : WH N mo c m t) : ∀ x, 0 ≤ x → x < (c : Int) → farN t.2.1 t.2.2.2 c x < c := fun x x0 x1 => far_lt (by omega) w.ht.g0 (fun g hg => by have := w.ht.gr g hg; have := w.hc; omega) w.pr (fun x x0 x1 => w.ht.bw x x0 (by have := w.hc; omega)) x0 x1
end PW
namespace RL
noncomputable section
open PySem PySem.Spec PyProof.Rows L2
def intsP : List PV → Option (List Int)
  | [] => some []
  | .sc (.int i) :: ps => (intsP ps).map (i :: ·)
  | _ :: _ => none
def drawAt (cs : List Int) (k : Int) : Int := cs.getD (k % cs.length).toNat 0
def drawV (cs : List Int) (k lim : Int) : Int × List Int × Int :=
  if cs = [] then (0, cs, k) else
  if 1000000000000000000 ≤ drawAt cs k then (drawAt cs k % lim, cs.set (k % cs.length).toNat (drawAt cs k / lim), k + 1)
  else (((drawAt cs k * 48271 + (k + 1) * 69621 + 11) % 2147483647 * 16807 + (k + 1) * 40692) % 2147483629 % lim, cs, k + 1)
open Classical in
def dF : PEnv → SR := fun ρ => match ρ with
  | [some (.lst true [.lst true ps, .sc (.int k)]), some (.sc (.int lim)), none, none, none, none] => (match intsP ps with
    | some cs => if 0 < lim ∧ lim.natAbs.log2 < 9000 ∧ cs.length < 100000 then .rt (.int (drawV cs k lim).1) [some (.lst true [.lst true ((drawV cs k lim).2.1.map PV.int), .int (drawV cs k lim).2.2]), some (.int lim), none, none, none, none] else .stk
    | none => .stk)
  | _ => .stk
section
variable {K : Fg} {J : Jx} {W : WX} {P : List Nat} {σ : Sg} {H F : Hp} {fp : List Addr} {D D' : Ends}
theorem TSt.step {f : PEnv → SR} {ρ ρ' : PEnv} (e : f ρ = .nx ρ') (s : St K J F H σ ρ fp) (k : ∀ σ' F' H' fp', Aft F H fp F' H' fp' → Pt P σ σ' → St K J F' H' σ' ρ' fp' → D.nx σ' H') : TSt K J W P f D σ H := ⟨F, ρ, fp, s, by rw [e]; exact k⟩
theorem TSt.ret {f : PEnv → SR} {ρ ρ' : PEnv} {p : PV} (e : f ρ = .rt p ρ') (s : St K J F H σ ρ fp) (k : ∀ v σ' F' H' fp' l, Aft F H fp F' H' (fp' ++ l) → Pt P σ σ' → St K J F' H' σ' ρ' fp' → Ow K F' H' v p l → D.rt v H') : TSt K J W P f D σ H := ⟨F, ρ, fp, s, by rw [e]; exact k⟩
end
end
end RL
namespace SP
noncomputable section
open PySem PySem.Spec PyProof.Rows L2 RL
def s_law_draw_v1 (K : Fg) : PEnv → SR := dF
def m_law_draw_v1 (K : Fg) : List PV → FR := fnM 2 4 [0, 1] (s_law_draw_v1 K)
end
end SP
namespace TP
open PySem PySem.Spec PyProof.Rows L2 RL SP TL
end TP
namespace TL
open PySem PySem.Spec PyProof.Rows L2 RL
end TL
namespace TL
open PySem PySem.Spec PyProof.Rows L2 RL
end TL
namespace TL
open PySem PySem.Spec PyProof.Rows L2 RL
end TL
namespace SP
noncomputable section
open PySem PySem.Spec PyProof.Rows L2 RL
@[simp] def t_row_back_ways_0 (K : Fg) (ρ : PEnv) : SR := (setG 3 (fG (bindA nilA displayL))) ρ
@[simp] def t_row_back_ways_1 (K : Fg) (ρ : PEnv) : SR := (setG 4 (vG (bind2 (nmE 1) (nmE 2) ixU))) ρ
@[simp] def t_row_back_ways_2 (K : Fg) (ρ : PEnv) : SR := (dropG (mutE 3 (consG (vG (nmE 4)) nilG) appA)) ρ
@[simp] def t_row_back_ways_3 (K : Fg) (ρ : PEnv) : SR := (setG 4 (vG (bind2 (nmE 1) (bind2 (bind2 (bind1 (nmE 0) (fldP (He.ga K "Web") "edges")) (nmE 4) ixP) (fun _ => ER.ok (PV.sc (V.int 0))) ixP) ixU))) ρ
@[simp] def t_row_back_ways_4 (K : Fg) (ρ : PEnv) : SR := (whileG (fun ρ => ((isnE true (nmE 4)) ρ).at ρ) (seqS (t_row_back_ways_2 K)
    (t_row_back_ways_3 K))) ρ
@[simp] def t_row_back_ways_5 (K : Fg) (ρ : PEnv) : SR := (retG (fG (bindA (consA (frzE (bind1 (nmE 3) revP)) nilA) tupA))) ρ
def s_row_back_ways (K : Fg) : PEnv → SR := (seqS (t_row_back_ways_0 K)
    (seqS (t_row_back_ways_1 K)
    (seqS (t_row_back_ways_4 K)
    (t_row_back_ways_5 K))))
def m_row_back_ways (K : Fg) : List PV → FR := fnM 3 2 [0, 1, 2] (s_row_back_ways K)
@[simp] def t_row_between_0 (K : Fg) (ρ : PEnv) : SR := (setG 3 (fG (bindD (consD (nmE 1) (fun _ => ER.ok (PV.sc V.non)) nilD)))) ρ
@[simp] def t_row_between_1 (K : Fg) (ρ : PEnv) : SR := (setG 4 (fG (bindA (consA (nmE 1) nilA) displayL))) ρ
@[simp] def t_row_between_2 (K : Fg) (ρ : PEnv) : SR := (setG 5 (vG (fun _ => ER.ok (PV.sc (V.int 0))))) ρ
@[simp] def t_row_between_3 (K : Fg) (ρ : PEnv) : SR := (setG 6 (vG (bind2 (nmE 4) (nmE 5) ixP))) ρ
@[simp] def t_row_between_4 (K : Fg) (ρ : PEnv) : SR := (retG (callM (m_row_back_ways K) (vlAg (vG (nmE 0)) (plAg 3 (vlAg (vG (nmE 6)) nilAg))))) ρ
@[simp] def t_row_between_5 (K : Fg) (ρ : PEnv) : SR := (ifG (fun ρ => ((bind2b (nmE 6) (nmE 2) (inP false)) ρ).at ρ) (t_row_between_4 K)
    skipS) ρ
@[simp] def t_row_between_6 (K : Fg) (ρ : PEnv) : SR := (setP 3 [] (nmE 9) (vG (nmE 7))) ρ
@[simp] def t_row_between_7 (K : Fg) (ρ : PEnv) : SR := (dropG (mutE 4 (consG (vG (nmE 9)) nilG) appA)) ρ
@[simp] def t_row_between_8 (K : Fg) (ρ : PEnv) : SR := (ifG (fun ρ => ((andB (bind2b (nmE 8) (nmE 6) eqP) (bind2b (nmE 9) (nmE 3) (inU true))) ρ).at ρ) (seqS (t_row_between_6 K)
    (t_row_between_7 K))
    skipS) ρ
@[simp] def t_row_between_9 (K : Fg) (ρ : PEnv) : SR := (forG (iterA (consG (vG (bind1 (nmE 0) (fldP (He.ga K "Web") "edges"))) nilG) enumK) (tupT 2 (consT (nmT 7) (consT (tupT 2 (consT (nmT 8) (consT (nmT 9) nilT))) nilT)))
    (t_row_between_8 K)) ρ
@[simp] def t_row_between_10 (K : Fg) (ρ : PEnv) : SR := (setG 5 (bindG2s (vG (nmE 5)) (vG (fun _ => ER.ok (PV.sc (V.int 1)))) addI)) ρ
@[simp] def t_row_between_11 (K : Fg) (ρ : PEnv) : SR := (whileG (fun ρ => ((bind2b (nmE 5) (frzE (bindA (consA (nmE 4) nilA) lenA)) ltI) ρ).at ρ) (seqS (t_row_between_3 K)
    (seqS (t_row_between_5 K)
    (seqS (t_row_between_9 K)
    (t_row_between_10 K))))) ρ
@[simp] def t_row_between_12 (K : Fg) (ρ : PEnv) : SR := (retG (vG (fun _ => ER.ok (PV.sc V.non)))) ρ
def s_row_between (K : Fg) : PEnv → SR := (seqS (t_row_between_0 K)
    (seqS (t_row_between_1 K)
    (seqS (t_row_between_2 K)
    (seqS (t_row_between_11 K)
    (t_row_between_12 K)))))
def m_row_between (K : Fg) : List PV → FR := fnM 3 7 [0, 1, 2] (s_row_between K)
@[simp] def t_law_put_0 (K : Fg) (ρ : PEnv) : SR := (dropG (mutE 1 (consG (frzG (callM (m_law_draw_v1 K) (plAg 0 (vlAg (frzG (fG (bind2 (frzE (bindA (consA (nmE 1) nilA) lenA)) (fun _ => ER.ok (PV.sc (V.int 1))) addU))) nilAg)))) (consG (vG (nmE 2)) nilG)) insA)) ρ
@[simp] def t_law_put_1 (K : Fg) (ρ : PEnv) : SR := (ifG (fun ρ => ((bind2b (nmE 2) (nmE 1) (inP true)) ρ).at ρ) (t_law_put_0 K)
    skipS) ρ
def s_law_put (K : Fg) : PEnv → SR := (t_law_put_1 K)
def m_law_put (K : Fg) : List PV → FR := fnM 3 0 [0, 1, 2] (s_law_put K)
@[simp] def t_law_web_v1_0 (K : Fg) (ρ : PEnv) : SR := (setG 3 (frzG (bindG2 (vG (fun _ => ER.ok (PV.sc (V.int 1)))) (frzG (callM (m_law_draw_v1 K) (plAg 0 (vlAg (vG (nmE 1)) nilAg)))) addU))) ρ
@[simp] def t_law_web_v1_1 (K : Fg) (ρ : PEnv) : SR := (setG 4 (frzG (callM (m_law_draw_v1 K) (plAg 0 (vlAg (vG (nmE 3)) nilAg))))) ρ
@[simp] def t_law_web_v1_2 (K : Fg) (ρ : PEnv) : SR := (setG 5 (frzG (compG (iterA (consG (vG (nmE 3)) nilG) rngK1) (nmT 6) (bindG2b (frzG (callM (m_law_draw_v1 K) (plAg 0 (vlAg (vG (fun _ => ER.ok (PV.sc (V.int 3)))) nilAg)))) (vG (fun _ => ER.ok (PV.sc (V.int 1)))) eqP) (vG (nmE 6)) [6]))) ρ
@[simp] def t_law_web_v1_3 (K : Fg) (ρ : PEnv) : SR := (setG 5 (frzG (bindGA (consG (frzG (callM (m_law_draw_v1 K) (plAg 0 (vlAg (vG (nmE 3)) nilAg)))) nilG) displayL))) ρ
@[simp] def t_law_web_v1_4 (K : Fg) (ρ : PEnv) : SR := (ifG (fun ρ => ((notE (truE (nmE 5))) ρ).at ρ) (t_law_web_v1_3 K)
    skipS) ρ
@[simp] def t_law_web_v1_5 (K : Fg) (ρ : PEnv) : SR := (setG 7 (fG (bindA nilA displayL))) ρ
@[simp] def t_law_web_v1_6 (K : Fg) (ρ : PEnv) : SR := (setG 8 (fG (bindA (consA (nmE 4) nilA) displayL))) ρ
@[simp] def t_law_web_v1_7 (K : Fg) (ρ : PEnv) : SR := (setG 9 (compG (iterA (consG (vG (nmE 3)) nilG) rngK1) (nmT 6) (fun ρ => ((bind2b (nmE 6) (nmE 4) neP) ρ).at ρ) (vG (nmE 6)) [6])) ρ
@[simp] def t_law_web_v1_8 (K : Fg) (ρ : PEnv) : SR := (setG 6 (mutE 9 (consG (frzG (callM (m_law_draw_v1 K) (plAg 0 (vlAg (frzG (fG (bindA (consA (nmE 9) nilA) lenA))) nilAg)))) nilG) popAtA)) ρ
@[simp] def t_law_web_v1_9 (K : Fg) (ρ : PEnv) : SR := (dropG (callM (m_law_put K) (plAg 0 (plAg 7 (vlAg (frzG (bindGA (consG (ixG 8 (frzG (callM (m_law_draw_v1 K) (plAg 0 (vlAg (frzG (fG (bindA (consA (nmE 8) nilA) lenA))) nilAg))))) (consG (vG (nmE 6)) nilG)) displayT)) nilAg))))) ρ
@[simp] def t_law_web_v1_10 (K : Fg) (ρ : PEnv) : SR := (dropG (mutE 8 (consG (vG (nmE 6)) nilG) appA)) ρ
@[simp] def t_law_web_v1_11 (K : Fg) (ρ : PEnv) : SR := (forG (iterA (consG (vG (bind2s (nmE 3) (fun _ => ER.ok (PV.sc (V.int 1))) subI)) nilG) rngK1) (nmT 10)
    (seqS (t_law_web_v1_8 K)
    (seqS (t_law_web_v1_9 K)
    (t_law_web_v1_10 K)))) ρ
@[simp] def t_law_web_v1_12 (K : Fg) (ρ : PEnv) : SR := (setG 11 (fG (bindA (consA (nmE 5) nilA) listA))) ρ
@[simp] def t_law_web_v1_13 (K : Fg) (ρ : PEnv) : SR := (setG 9 (compG (iterA (consG (vG (nmE 3)) nilG) rngK1) (nmT 6) (fun ρ => ((bind2b (nmE 6) (nmE 5) (inP true)) ρ).at ρ) (vG (nmE 6)) [6])) ρ
@[simp] def t_law_web_v1_14 (K : Fg) (ρ : PEnv) : SR := (setG 6 (mutE 9 (consG (frzG (callM (m_law_draw_v1 K) (plAg 0 (vlAg (frzG (fG (bindA (consA (nmE 9) nilA) lenA))) nilAg)))) nilG) popAtA)) ρ
@[simp] def t_law_web_v1_15 (K : Fg) (ρ : PEnv) : SR := (dropG (callM (m_law_put K) (plAg 0 (plAg 7 (vlAg (frzG (bindGA (consG (vG (nmE 6)) (consG (ixG 11 (frzG (callM (m_law_draw_v1 K) (plAg 0 (vlAg (frzG (fG (bindA (consA (nmE 11) nilA) lenA))) nilAg))))) nilG)) displayT)) nilAg))))) ρ
@[simp] def t_law_web_v1_16 (K : Fg) (ρ : PEnv) : SR := (dropG (mutE 11 (consG (vG (nmE 6)) nilG) appA)) ρ
@[simp] def t_law_web_v1_17 (K : Fg) (ρ : PEnv) : SR := (forG (iterA (consG (frzG (fG (bindA (consA (nmE 9) nilA) lenA))) nilG) rngK1) (nmT 10)
    (seqS (t_law_web_v1_14 K)
    (seqS (t_law_web_v1_15 K)
    (t_law_web_v1_16 K)))) ρ
@[simp] def t_law_web_v1_18 (K : Fg) (ρ : PEnv) : SR := (dropG (callM (m_law_put K) (plAg 0 (plAg 7 (vlAg (frzG (bindGA (consG (frzG (callM (m_law_draw_v1 K) (plAg 0 (vlAg (vG (nmE 3)) nilAg)))) (consG (frzG (callM (m_law_draw_v1 K) (plAg 0 (vlAg (vG (nmE 3)) nilAg)))) nilG)) displayT)) nilAg))))) ρ
@[simp] def t_law_web_v1_19 (K : Fg) (ρ : PEnv) : SR := (forG (iterA (consG (frzG (callM (m_law_draw_v1 K) (plAg 0 (vlAg (frzG (fG (bind2 (nmE 2) (fun _ => ER.ok (PV.sc (V.int 1))) addU))) nilAg)))) nilG) rngK1) (nmT 10)
    (t_law_web_v1_18 K)) ρ
@[simp] def t_law_web_v1_20 (K : Fg) (ρ : PEnv) : SR := (retG (bindGA (consG (vG (nmE 3)) (consG (frE 7) (consG (vG (nmE 4)) (consG (vG (nmE 5)) nilG)))) displayT)) ρ
@[simp] def t_law_some_v1_0 (K : Fg) (ρ : PEnv) : SR := (retG (compG (iterA (consG (vG (nmE 1)) nilG) rngK1) (nmT 2) (bindG2b (frzG (callM (m_law_draw_v1 K) (plAg 0 (vlAg (vG (fun _ => ER.ok (PV.sc (V.int 2)))) nilAg)))) (vG (fun _ => ER.ok (PV.sc (V.int 1)))) eqP) (vG (nmE 2)) [2])) ρ
def s_law_some_v1 (K : Fg) : PEnv → SR := (t_law_some_v1_0 K)
def m_law_some_v1 (K : Fg) : List PV → FR := fnM 2 1 [0, 1] (s_law_some_v1 K)
end
end SP
section
set_option maxHeartbeats 0
namespace TP
open PySem PySem.Spec PyProof.Rows L2 RL SP TL
end TP
end
namespace PW
open PySem PySem.Spec PyProof.Rows L2 RL TL TP
theorem wp_callE {L M A X S M' A' X' : Type} {r : FT M' X' A'} {m : M'} {a : A'} {kx : X' → X} {f : M' → A' → TS L M A X S} {k : KT L M A X S} (e : r = .ok m a) (h : wp (f m a) k) : wp (callT r kx f) k := by rw [e, wp_callOk]; exact h
abbrev D3 := List Int × Int
end PW
namespace TL
open PySem PySem.Spec PyProof.Rows L2 RL
end TL
namespace SP
noncomputable section
open PySem PySem.Spec PyProof.Rows L2 RL
@[simp] def t_greatest_sums_0 (K : Fg) (ρ : PEnv) : SR := (setG 3 (fG (bindD (consD (bind1 (nmE 0) (fldP (He.ga K "Web") "entry")) (nmE 1) nilD)))) ρ
@[simp] def t_greatest_sums_1 (K : Fg) (ρ : PEnv) : SR := (setG 4 (fG (fun _ => ER.ok (PV.dct true [] [])))) ρ
@[simp] def t_greatest_sums_2 (K : Fg) (ρ : PEnv) : SR := (setG 5 (vG (fun _ => ER.ok (PV.sc V.non)))) ρ
@[simp] def t_greatest_sums_3 (K : Fg) (ρ : PEnv) : SR := (setG 5 (vG (fun _ => ER.ok (PV.sc V.non)))) ρ
@[simp] def t_greatest_sums_4 (K : Fg) (ρ : PEnv) : SR := (ifG (fun ρ => ((bind2b (nmE 8) (nmE 3) (inU true)) ρ).at ρ) SR.ct
    skipS) ρ
@[simp] def t_greatest_sums_5 (K : Fg) (ρ : PEnv) : SR := (setG 10 (frzG (fG (bind2 (bind2 (nmE 3) (nmE 8) ixU) (bind2 (nmE 2) (nmE 7) ixP) addU)))) ρ
@[simp] def t_greatest_sums_6 (K : Fg) (ρ : PEnv) : SR := (setP 3 [] (nmE 9) (vG (nmE 10))) ρ
@[simp] def t_greatest_sums_7 (K : Fg) (ρ : PEnv) : SR := (setP 4 [] (nmE 9) (vG (nmE 7))) ρ
@[simp] def t_greatest_sums_8 (K : Fg) (ρ : PEnv) : SR := (setG 5 (vG (nmE 9))) ρ
@[simp] def t_greatest_sums_9 (K : Fg) (ρ : PEnv) : SR := (ifG (fun ρ => ((orB (bind2b (nmE 9) (nmE 3) (inU true)) (bind2b (nmE 10) (bind2 (nmE 3) (nmE 9) ixU) gtI)) ρ).at ρ) (seqS (t_greatest_sums_6 K)
    (seqS (t_greatest_sums_7 K)
    (t_greatest_sums_8 K)))
    skipS) ρ
@[simp] def t_greatest_sums_10 (K : Fg) (ρ : PEnv) : SR := (forG (iterA (consG (vG (bind1 (nmE 0) (fldP (He.ga K "Web") "edges"))) nilG) enumK) (tupT 2 (consT (nmT 7) (consT (tupT 2 (consT (nmT 8) (consT (nmT 9) nilT))) nilT)))
    (seqS (t_greatest_sums_4 K)
    (seqS (t_greatest_sums_5 K)
    (t_greatest_sums_9 K)))) ρ
@[simp] def t_greatest_sums_11 (K : Fg) (ρ : PEnv) : SR := (ifG (fun ρ => ((isnE false (nmE 5)) ρ).at ρ) SR.bk
    skipS) ρ
@[simp] def t_greatest_sums_12 (K : Fg) (ρ : PEnv) : SR := (forG (iterA (consG (frzG (fG (bind2 (bind1 (nmE 0) (fldP (He.ga K "Web") "places")) (fun _ => ER.ok (PV.sc (V.int 1))) addU))) nilG) rngK1) (nmT 6)
    (seqS (t_greatest_sums_3 K)
    (seqS (t_greatest_sums_10 K)
    (t_greatest_sums_11 K)))) ρ
@[simp] def t_greatest_sums_13 (K : Fg) (ρ : PEnv) : SR := (retG (bindGA (consG (frE 3) (consG (frE 4) (consG (vG (nmE 5)) nilG))) displayT)) ρ
def s_greatest_sums (K : Fg) : PEnv → SR := (seqS (t_greatest_sums_0 K)
    (seqS (t_greatest_sums_1 K)
    (seqS (t_greatest_sums_2 K)
    (seqS (t_greatest_sums_12 K)
    (t_greatest_sums_13 K)))))
def m_greatest_sums (K : Fg) : List PV → FR := fnM 3 8 [0, 1, 2] (s_greatest_sums K)
@[simp] def t_Prices_getitem_0 (K : Fg) (ρ : PEnv) : SR := (asgG (tupW 2 (consT (nmT 2) (consT (nmT 3) nilT))) (vG (nmE 1))) ρ
@[simp] def t_Prices_getitem_1 (K : Fg) (ρ : PEnv) : SR := (dropG (callM (m_check_gate K) (vlAg (vG (bind1 (nmE 0) (fldP (He.ga K "Prices") "web"))) (vlAg (vG (nmE 2)) nilAg)))) ρ
@[simp] def t_Prices_getitem_2 (K : Fg) (ρ : PEnv) : SR := (dropG (callM (m_check_word K) (vlAg (vG (nmE 3)) nilAg))) ρ
@[simp] def t_Prices_getitem_3 (K : Fg) (ρ : PEnv) : SR := (retG (vG (ifE (bind2b (nmE 3) (fun _ => ER.ok (PV.sc (V.str ("save" : Str)))) eqP) (bind2 (bind1 (nmE 0) (fldP (He.ga K "Prices") "saves")) (nmE 2) ixP) (bind2 (bind1 (nmE 0) (fldP (He.ga K "Prices") "backs")) (nmE 2) ixP)))) ρ
def s_Prices_getitem (K : Fg) : PEnv → SR := (seqS (t_Prices_getitem_0 K)
    (seqS (t_Prices_getitem_1 K)
    (seqS (t_Prices_getitem_2 K)
    (t_Prices_getitem_3 K))))
def m_Prices_getitem (K : Fg) : List PV → FR := fnM 2 2 [0, 1] (s_Prices_getitem K)
@[simp] def t_marked_prices_u_0 (K : Fg) (ρ : PEnv) : SR := (setG 3 (frzG (callM (m_placing_of_u K) (vlAg (vG (nmE 0)) (vlAg (vG (nmE 2)) nilAg))))) ρ
@[simp] def t_marked_prices_u_1 (K : Fg) (ρ : PEnv) : SR := (setG 4 (dcG (iterI (vG (bind1 (nmE 3) (fldP (He.ga K "Placing") "saves"))) seqF) (nmT 5) yesG (vG (nmE 5)) (frzG (fG (bind2 (nmE 1) (frzE (bindA (consA (nmE 5) (consA (fun _ => ER.ok (PV.sc (V.str ("save" : Str)))) nilA)) displayT)) (owIx (He.ga K "Prices") (m_Prices_getitem K))))) [5])) ρ
@[simp] def t_marked_prices_u_2 (K : Fg) (ρ : PEnv) : SR := (setP 4 [] (nmE 5) (frzG (fG (bind2 (nmE 1) (frzE (bindA (consA (nmE 5) (consA (fun _ => ER.ok (PV.sc (V.str ("back" : Str)))) nilA)) displayT)) (owIx (He.ga K "Prices") (m_Prices_getitem K)))))) ρ
@[simp] def t_marked_prices_u_3 (K : Fg) (ρ : PEnv) : SR := (forG (iterI (vG (bind1 (nmE 3) (fldP (He.ga K "Placing") "backs"))) seqF) (nmT 5)
    (t_marked_prices_u_2 K)) ρ
@[simp] def t_marked_prices_u_4 (K : Fg) (ρ : PEnv) : SR := (retG (mvE 4)) ρ
def s_marked_prices_u (K : Fg) : PEnv → SR := (seqS (t_marked_prices_u_0 K)
    (seqS (t_marked_prices_u_1 K)
    (seqS (t_marked_prices_u_3 K)
    (t_marked_prices_u_4 K))))
def m_marked_prices_u (K : Fg) : List PV → FR := fnM 3 3 [0, 1, 2] (s_marked_prices_u K)
@[simp] def t_differences_u_0 (K : Fg) (ρ : PEnv) : SR := (dropG (callM (m_check_web K) (vlAg (vG (nmE 0)) (vlAg (vG (nmE 1)) nilAg)))) ρ
@[simp] def t_differences_u_1 (K : Fg) (ρ : PEnv) : SR := (parG 2 3 (consG (frzG (makeM (He.ga K "Lot") (m_Lot_init_u K) (vlAg (vG (nmE 2)) nilAg))) (consG (frzG (makeM (He.ga K "Lot") (m_Lot_init_u K) (vlAg (vG (nmE 3)) nilAg))) nilG))) ρ
@[simp] def t_differences_u_2 (K : Fg) (ρ : PEnv) : SR := (dropG (callM (m_check_places K) (vlAg (vG (nmE 0)) (vlAg (vG (nmE 2)) nilAg)))) ρ
@[simp] def t_differences_u_3 (K : Fg) (ρ : PEnv) : SR := (dropG (callM (m_check_places K) (vlAg (vG (nmE 0)) (vlAg (vG (nmE 3)) nilAg)))) ρ
@[simp] def t_differences_u_4 (K : Fg) (ρ : PEnv) : SR := (raiseG (He.ga K "Barred") "index" (vG (nmE 4))) ρ
@[simp] def t_differences_u_5 (K : Fg) (ρ : PEnv) : SR := (ifG (isnG false (frzG (callM (m_cost_u K) (vlAg (vG (nmE 0)) (vlAg (vG (nmE 5)) (vlAg (vG (nmE 1)) nilAg)))))) (t_differences_u_4 K)
    skipS) ρ
@[simp] def t_differences_u_6 (K : Fg) (ρ : PEnv) : SR := (forG (iterA (consG (frzG (fG (bindA (consA (nmE 2) (consA (nmE 3) nilA)) displayT))) nilG) enumK) (tupT 2 (consT (nmT 4) (consT (nmT 5) nilT)))
    (t_differences_u_5 K)) ρ
@[simp] def t_differences_u_7 (K : Fg) (ρ : PEnv) : SR := (asgG (tupT 2 (consT (nmT 6) (consT (nmT 7) nilT))) (frzG (bindGA (consG (frzG (callM (m_marked_prices_u K) (vlAg (vG (nmE 0)) (vlAg (vG (nmE 1)) (vlAg (vG (nmE 2)) nilAg))))) (consG (frzG (callM (m_marked_prices_u K) (vlAg (vG (nmE 0)) (vlAg (vG (nmE 1)) (vlAg (vG (nmE 3)) nilAg))))) nilG)) displayT))) ρ
@[simp] def t_differences_u_8 (K : Fg) (ρ : PEnv) : SR := (retG (compG (iterA (consG (frzG (fG (bind1 (nmE 0) (ow1 (He.ga K "Web") (m_Web_gates K))))) nilG) rngK1) (nmT 8) yesG (vG (bind2s (dget2E (nmE 6) (nmE 8) (fun _ => ER.ok (PV.sc (V.int 0)))) (dget2E (nmE 7) (nmE 8) (fun _ => ER.ok (PV.sc (V.int 0)))) subI)) [8])) ρ
def s_differences_u (K : Fg) : PEnv → SR := (seqS (t_differences_u_0 K)
    (seqS (t_differences_u_1 K)
    (seqS (t_differences_u_2 K)
    (seqS (t_differences_u_3 K)
    (seqS (t_differences_u_6 K)
    (seqS (t_differences_u_7 K)
    (t_differences_u_8 K)))))))
def m_differences_u (K : Fg) : List PV → FR := fnM 4 5 [0, 1] (s_differences_u K)
@[simp] def t_round_behind_0 (K : Fg) (ρ : PEnv) : SR := (setG 2 (vG (bind2 (bind2 (bind1 (nmE 0) (fldP (He.ga K "Web") "edges")) (bind2 (nmE 1) (nmE 2) ixU) ixP) (fun _ => ER.ok (PV.sc (V.int 0))) ixP))) ρ
@[simp] def t_round_behind_1 (K : Fg) (ρ : PEnv) : SR := (forG (iterA (consG (vG (bind1 (nmE 0) (fldP (He.ga K "Web") "places"))) nilG) rngK1) (nmT 3)
    (t_round_behind_0 K)) ρ
@[simp] def t_round_behind_2 (K : Fg) (ρ : PEnv) : SR := (setG 4 (fG (bindA nilA displayL))) ρ
@[simp] def t_round_behind_3 (K : Fg) (ρ : PEnv) : SR := (setG 5 (vG (nmE 2))) ρ
@[simp] def t_round_behind_4 (K : Fg) (ρ : PEnv) : SR := (dropG (mutE 4 (consG (vG (bind2 (nmE 1) (nmE 5) ixU)) nilG) appA)) ρ
@[simp] def t_round_behind_5 (K : Fg) (ρ : PEnv) : SR := (setG 5 (vG (bind2 (bind2 (bind1 (nmE 0) (fldP (He.ga K "Web") "edges")) (bind2 (nmE 1) (nmE 5) ixU) ixP) (fun _ => ER.ok (PV.sc (V.int 0))) ixP))) ρ
@[simp] def t_round_behind_6 (K : Fg) (ρ : PEnv) : SR := (whileG (fun ρ => ((orB (notE (truE (nmE 4))) (bind2b (nmE 5) (nmE 2) neP)) ρ).at ρ) (seqS (t_round_behind_4 K)
    (t_round_behind_5 K))) ρ
@[simp] def t_round_behind_7 (K : Fg) (ρ : PEnv) : SR := (retG (fG (bindA (consA (nmE 2) (consA (frzE (bindA (consA (frzE (bind1 (nmE 4) revP)) nilA) tupA)) nilA)) displayT))) ρ
def s_round_behind (K : Fg) : PEnv → SR := (seqS (t_round_behind_1 K)
    (seqS (t_round_behind_2 K)
    (seqS (t_round_behind_3 K)
    (seqS (t_round_behind_6 K)
    (t_round_behind_7 K)))))
def m_round_behind (K : Fg) : List PV → FR := fnM 3 3 [0, 1] (s_round_behind K)
@[simp] def t_law_row_0 (K : Fg) (ρ : PEnv) : SR := (setG 3 (fG (bindA (consA (frzE (bindA (consA (nmE 1) (consA (frzE (bindA nilA displayT)) nilA)) displayT)) nilA) displayL))) ρ
@[simp] def t_law_row_1 (K : Fg) (ρ : PEnv) : SR := (setG 4 (fG (bindA (consA (nmE 1) nilA) displayL))) ρ
@[simp] def t_law_row_2 (K : Fg) (ρ : PEnv) : SR := (ifG (fun ρ => ((bind2b (nmE 5) (frzE (bindA (consA (nmE 3) nilA) lenA)) geI) ρ).at ρ) SR.bk
    skipS) ρ
@[simp] def t_law_row_3 (K : Fg) (ρ : PEnv) : SR := (asgG (tupT 2 (consT (nmT 6) (consT (nmT 7) nilT))) (vG (bind2 (nmE 3) (nmE 5) ixP))) ρ
@[simp] def t_law_row_4 (K : Fg) (ρ : PEnv) : SR := (retG (vG (nmE 7))) ρ
@[simp] def t_law_row_5 (K : Fg) (ρ : PEnv) : SR := (ifG (fun ρ => ((bind2b (nmE 6) (nmE 2) (inP false)) ρ).at ρ) (t_law_row_4 K)
    skipS) ρ
@[simp] def t_law_row_6 (K : Fg) (ρ : PEnv) : SR := (asgG (tupT 2 (consT (nmT 9) (consT (nmT 10) nilT))) (vG (bind2 (bind2 (nmE 0) (fun _ => ER.ok (PV.sc (V.int 1))) ixP) (nmE 8) ixP))) ρ
@[simp] def t_law_row_7 (K : Fg) (ρ : PEnv) : SR := (dropG (mutE 4 (consG (vG (nmE 10)) nilG) appA)) ρ
@[simp] def t_law_row_8 (K : Fg) (ρ : PEnv) : SR := (dropG (mutE 3 (consG (frzG (fG (bindA (consA (nmE 10) (consA (frzE (bind2 (nmE 7) (frzE (bindA (consA (nmE 8) nilA) displayT)) addU)) nilA)) displayT))) nilG) appA)) ρ
@[simp] def t_law_row_9 (K : Fg) (ρ : PEnv) : SR := (ifG (fun ρ => ((andB (bind2b (nmE 9) (nmE 6) eqP) (bind2b (nmE 10) (nmE 4) (inP true))) ρ).at ρ) (seqS (t_law_row_7 K)
    (t_law_row_8 K))
    skipS) ρ
@[simp] def t_law_row_10 (K : Fg) (ρ : PEnv) : SR := (forG (iterA (consG (frzG (fG (bindA (consA (bind2 (nmE 0) (fun _ => ER.ok (PV.sc (V.int 1))) ixP) nilA) lenA))) nilG) rngK1) (nmT 8)
    (seqS (t_law_row_6 K)
    (t_law_row_9 K))) ρ
@[simp] def t_law_row_11 (K : Fg) (ρ : PEnv) : SR := (forG (iterA (consG (vG (bind2 (nmE 0) (fun _ => ER.ok (PV.sc (V.int 0))) ixP)) nilG) rngK1) (nmT 5)
    (seqS (t_law_row_2 K)
    (seqS (t_law_row_3 K)
    (seqS (t_law_row_5 K)
    (t_law_row_10 K))))) ρ
@[simp] def t_law_row_12 (K : Fg) (ρ : PEnv) : SR := (retG (vG (fun _ => ER.ok (PV.sc V.non)))) ρ
def s_law_row (K : Fg) : PEnv → SR := (seqS (t_law_row_0 K)
    (seqS (t_law_row_1 K)
    (seqS (t_law_row_11 K)
    (t_law_row_12 K))))
def m_law_row (K : Fg) : List PV → FR := fnM 3 8 [0, 1, 2] (s_law_row K)
@[simp] def t_law_drawn_way_0 (K : Fg) (ρ : PEnv) : SR := (setG 3 (vG (bind2 (nmE 1) (fun _ => ER.ok (PV.sc (V.int 2))) ixP))) ρ
@[simp] def t_law_drawn_way_1 (K : Fg) (ρ : PEnv) : SR := (setG 4 (frzG (fG (bindA nilA displayT)))) ρ
@[simp] def t_law_drawn_way_2 (K : Fg) (ρ : PEnv) : SR := (setG 6 (frzG (compG (iterA (consG (frzG (fG (bindA (consA (bind2 (nmE 1) (fun _ => ER.ok (PV.sc (V.int 1))) ixP) nilA) lenA))) nilG) rngK1) (nmT 7) (fun ρ => ((bind2b (bind2 (bind2 (bind2 (nmE 1) (fun _ => ER.ok (PV.sc (V.int 1))) ixP) (nmE 7) ixP) (fun _ => ER.ok (PV.sc (V.int 0))) ixP) (nmE 3) eqP) ρ).at ρ) (vG (nmE 7)) [7]))) ρ
@[simp] def t_law_drawn_way_3 (K : Fg) (ρ : PEnv) : SR := (ifG (fun ρ => ((notE (truE (nmE 6))) ρ).at ρ) SR.bk
    skipS) ρ
@[simp] def t_law_drawn_way_4 (K : Fg) (ρ : PEnv) : SR := (setG 7 (ixG 6 (frzG (callM (m_law_draw_v1 K) (plAg 0 (vlAg (frzG (fG (bindA (consA (nmE 6) nilA) lenA))) nilAg)))))) ρ
@[simp] def t_law_drawn_way_5 (K : Fg) (ρ : PEnv) : SR := (setG 4 (frzG (fG (bind2 (nmE 4) (frzE (bindA (consA (nmE 7) nilA) displayT)) addU)))) ρ
@[simp] def t_law_drawn_way_6 (K : Fg) (ρ : PEnv) : SR := (setG 3 (vG (bind2 (bind2 (bind2 (nmE 1) (fun _ => ER.ok (PV.sc (V.int 1))) ixP) (nmE 7) ixP) (fun _ => ER.ok (PV.sc (V.int 1))) ixP))) ρ
@[simp] def t_law_drawn_way_7 (K : Fg) (ρ : PEnv) : SR := (forG (iterA (consG (frzG (callM (m_law_draw_v1 K) (plAg 0 (vlAg (frzG (fG (bind2 (nmE 2) (fun _ => ER.ok (PV.sc (V.int 1))) addU))) nilAg)))) nilG) rngK1) (nmT 5)
    (seqS (t_law_drawn_way_2 K)
    (seqS (t_law_drawn_way_3 K)
    (seqS (t_law_drawn_way_4 K)
    (seqS (t_law_drawn_way_5 K)
    (t_law_drawn_way_6 K)))))) ρ
@[simp] def t_law_drawn_way_8 (K : Fg) (ρ : PEnv) : SR := (retG (bindG2 (vG (nmE 4)) (frzG (callM (m_law_row K) (vlAg (vG (nmE 1)) (vlAg (vG (nmE 3)) (vlAg (vG (bind2 (nmE 1) (fun _ => ER.ok (PV.sc (V.int 3))) ixP)) nilAg))))) addU)) ρ
end
end SP
section
set_option maxHeartbeats 0
namespace TP
open PySem PySem.Spec PyProof.Rows L2 RL SP TL
end TP
end
namespace PW
open PySem PySem.Spec PyProof.Rows L2 RL TL TP
theorem getD_nil {α : Type} (k : Int) : getD k ([] : List (Int × α)) = none := by unfold getD; rfl
theorem getD_put {α : Type} (k k' : Int) (v : α) : ∀ d : List (Int × α), getD k' (putD k v d) = if k' = k then some v else getD k' d := by
  have none_of : ∀ d : List (Int × α), hasD k d = false → getD k d = none := fun d h => by
    unfold getD;rw [List.find?_eq_none.mpr]; rfl
    intro x hx z;have : hasD k d = true := hasD_iff.mpr (by unfold keysD; exact List.mem_map.mpr ⟨x, hx, by simpa using z⟩)
    rw [h] at this; cases this
  intro d;unfold putD
  by_cases h : hasD k d = true
  · rw [if_pos h]
    clear none_of
    induction d with
    | nil => unfold hasD at h; simp at h
    | cons x d ih =>
      unfold getD at ih ⊢
      rw [List.map_cons, List.find?_cons, List.find?_cons];by_cases hx : x.1 = k
      · rw [if_pos hx];by_cases hk : k' = k
        · subst hk; simp [hx]
        · have e1 : decide (x.1 = k') = false := by simp; intro z; exact hk (z.symm.trans hx)
          simp only [e1, if_neg hk];by_cases hd : hasD k d = true
          · have := ih hd
            rw [if_neg hk] at this; exact this
          · have : (d.map fun x => if x.1 = k then (x.1, v) else x) = d := by
              conv => rhs; rw [← List.map_id d]
              refine List.map_congr_left fun y hy => ?_
              rw [if_neg fun z => hd (hasD_iff.mpr (by unfold keysD; exact List.mem_map.mpr ⟨y, hy, z⟩))]; rfl
            rw [this]
      · rw [if_neg hx];have hd : hasD k d = true := by
          have := hasD_iff.mp h
          unfold keysD at this;rw [List.map_cons, List.mem_cons] at this
          rcases this with z | z
          · exact absurd z.symm hx
          · exact hasD_iff.mpr (by unfold keysD; exact z)
        by_cases hk : x.1 = k'
        · simp only [hk, decide_true, if_neg (show ¬ k' = k from fun z => hx (hk.trans z))]
        · simp only [hk, decide_false]; exact ih hd
  · have h : hasD k d = false := by simpa using h
    rw [h, if_neg (by simp)]
    unfold getD;rw [List.find?_append]
    by_cases hk : k' = k
    · subst hk;have := none_of d h
      unfold getD at this;cases e : d.find? fun x => decide (x.1 = k') with
      | none => simp
      | some y => rw [e] at this; cases this
    · have : ¬ k = k' := fun z => hk z.symm
      simp [hk, this]
def nmW (ws : List Int) (i : Int) : Int := ws.getD i.toNat 0
/-- the last step at which edge i was looked at -/
def lookT (n r idx i : Nat) : Int := if i < idx then (r : Int) * n + i else ((r : Int) - 1) * n + i
structure GS (es : List (Int × Int)) (ws : List Int) (en fi : Int) (r idx : Nat) (H P : List (Int × Int)) (R : Int → Int) : Prop where
  ent : ∃ a, getD en H = some a ∧ fi ≤ a
  pr : ∀ v i, getD v P = some i → ∃ u a b, (0 ≤ i ∧ i < es.length) ∧ edgeAt es i = (u, v) ∧ getD u H = some a ∧ getD v H = some b ∧ b ≤ a + nmW ws i ∧ (R v ≤ R u → b < a + nmW ws i) ∧ R v - es.length ≤ R u
  np : ∀ v b, getD v H = some b → getD v P = none → v = en ∧ b = fi ∧ R v < 0
  done : ∀ i : Nat, i < es.length → ∀ u v a, edgeAt es i = (u, v) → getD u H = some a → R u < lookT es.length r idx i → ∃ b, getD v H = some b ∧ a + nmW ws i ≤ b
  lt : ∀ v, R v < (r : Int) * es.length + idx
end PW
namespace PW
open PySem PySem.Spec PyProof.Rows L2 RL TL TP
theorem GS.start (es : List (Int × Int)) (ws : List Int) (en fi : Int) : GS es ws en fi 0 0 [(en, fi)] [] (fun _ => -1) := by
  have g1 : ∀ v, getD v [(en, fi)] = if v = en then some fi else none := fun v => by
    have := getD_put en v fi ([] : List (Int × Int))
    rw [getD_nil] at this;exact this
  refine ⟨⟨fi, by rw [g1, if_pos rfl], Int.le_refl _⟩, fun v i h => ?_, fun v b h _ => ?_, fun i hi u v a _ _ hR => ?_, fun v => by simp⟩
  · rw [getD_nil] at h; cases h
  · rw [g1] at h;by_cases z : v = en
    · rw [if_pos z] at h; cases h; exact ⟨z, rfl, by simp⟩
    · rw [if_neg z] at h; cases h
  · unfold lookT at hR;rw [if_neg (Nat.not_lt_zero _)] at hR
    simp at hR
    omega
def Closed (es : List (Int × Int)) (ws : List Int) (H : List (Int × Int)) : Prop := ∀ i : Nat, i < es.length → ∀ u v a, edgeAt es i = (u, v) → getD u H = some a → ∃ b, getD v H = some b ∧ a + nmW ws i ≤ b
end PW
namespace PW
open PySem PySem.Spec PyProof.Rows L2 RL TL TP
def sumW (ws : List Int) (r : List Int) : Int := (r.map (nmW ws)).foldr (· + ·) 0
@[simp] theorem sumW_nil (ws : List Int) : sumW ws [] = 0 := rfl
@[simp] theorem sumW_cons (ws : List Int) (i : Int) (r : List Int) : sumW ws (i :: r) = nmW ws i + sumW ws r := rfl
/-- a closed potential bounds every row -/
theorem Closed.row {es : List (Int × Int)} {ws : List Int} {H : List (Int × Int)} (hc : Closed es ws H) : ∀ {row : List Int} {u e a : Int}, rowEnd es u row = some e → getD u H = some a → ∃ b, getD e H = some b ∧ a + sumW ws row ≤ b
  | [], u, e, a, h, ha => by
    simp only [rowEnd, Option.some.injEq] at h;subst h
    exact ⟨a, ha, by simp⟩
  | i :: row, u, e, a, h, ha => by
    simp only [rowEnd] at h;by_cases hi : (0 ≤ i ∧ i < es.length) ∧ (edgeAt es i).1 = u
    · rw [if_pos hi] at h;have hin : ((i.toNat : Nat) : Int) = i := by omega
      obtain ⟨b, hb, hle⟩ := hc i.toNat (by omega) u (edgeAt es i).2 a (by rw [hin, ← hi.2]) ha
      obtain ⟨d, hd, hle2⟩ := Closed.row hc h hb;rw [hin] at hle;exact ⟨d, hd, by rw [sumW_cons]; omega⟩
    · rw [if_neg hi] at h; cases h
/-- the start of the edge kept for a place -/
def backF (es P : List (Int × Int)) (v : Int) : Int := match getD v P with
  | some i => (edgeAt es i).1
  | none => v
section
variable {es : List (Int × Int)} {ws : List Int} {en fi : Int} {r idx : Nat} {H P : List (Int × Int)} {R : Int → Int}
theorem GS.back (g : GS es ws en fi r idx H P R) {v i : Int} (h : getD v P = some i) : ∃ a b, (0 ≤ i ∧ i < es.length) ∧ edgeAt es i = (backF es P v, v) ∧ getD (backF es P v) H = some a ∧ getD v H = some b ∧ b ≤ a + nmW ws i ∧ (R v ≤ R (backF es P v) → b < a + nmW ws i) ∧ R v - es.length ≤ R (backF es P v) := by
  obtain ⟨u, a, b, h1, h2, h3, h4, h5, h6, h7⟩ := g.pr v i h;have e : backF es P v = u := by unfold backF; rw [h]; show (edgeAt es i).1 = u; rw [h2]
  rw [e];exact ⟨a, b, h1, h2, h3, h4, h5, h6, h7⟩
end
end PW
namespace PW
open PySem PySem.Spec PyProof.Rows L2 RL TL TP
/-- the tree of a search from first: rk is the place's turn -/
def BT (es : List (Int × Int)) (first : Int) (B : List (Int × Option Int)) (rk : Int → Nat) : Prop :=
  ∀ v o, getD v B = some o → (o = none → v = first) ∧ ∀ i, o = some i → ∃ u, (0 ≤ i ∧ i < es.length) ∧ edgeAt es i = (u, v) ∧ (∃ o', getD u B = some o') ∧ rk u < rk v
end PW
namespace PW
open PySem PySem.Spec PyProof.Rows L2 RL TL TP
/-- a search: its tree, its queue -/
structure BQ (es : List (Int × Int)) (c : Nat) (first : Int) (B : List (Int × Option Int)) (Q : List Int) (rk : Int → Nat) : Prop where
  bt : BT es first B rk
  mem : ∀ x, x ∈ Q ↔ ∃ o, getD x B = some o
  rl : ∀ x ∈ Q, rk x < Q.length
  nd : Q.Nodup
  rg : ∀ x ∈ Q, 0 ≤ x ∧ x < (c : Int)
  fi : first ∈ Q
  bl : B.length ≤ Q.length
theorem BQ.len {es : List (Int × Int)} {c : Nat} {first : Int} {B : List (Int × Option Int)} {Q : List Int} {rk : Int → Nat} (q : BQ es c first B Q rk) : Q.length ≤ c := nodup_len q.nd q.rg
end PW
namespace TL
open PySem PySem.Spec PyProof.Rows L2 RL
end TL
namespace TP
open PySem PySem.Spec PyProof.Rows L2 RL SP TL
end TP
namespace SP
noncomputable section
open PySem PySem.Spec PyProof.Rows L2 RL
@[simp] def t_row_back_onway_0 (K : Fg) (ρ : PEnv) : SR := (setG 3 (fG (bindA nilA displayL))) ρ
@[simp] def t_row_back_onway_1 (K : Fg) (ρ : PEnv) : SR := (dropG (mutE 3 (consG (vG (bind2 (nmE 1) (nmE 2) ixU)) nilG) appA)) ρ
@[simp] def t_row_back_onway_2 (K : Fg) (ρ : PEnv) : SR := (setG 2 (vG (bind2 (bind2 (bind1 (nmE 0) (fldP (He.ga K "Web") "edges")) (bind2 (nmE 1) (nmE 2) ixU) ixP) (fun _ => ER.ok (PV.sc (V.int 0))) ixP))) ρ
@[simp] def t_row_back_onway_3 (K : Fg) (ρ : PEnv) : SR := (whileG (fun ρ => ((bind2b (nmE 2) (nmE 1) (inU false)) ρ).at ρ) (seqS (t_row_back_onway_1 K)
    (t_row_back_onway_2 K))) ρ
@[simp] def t_row_back_onway_4 (K : Fg) (ρ : PEnv) : SR := (retG (fG (bindA (consA (frzE (bind1 (nmE 3) revP)) nilA) tupA))) ρ
def s_row_back_onway (K : Fg) : PEnv → SR := (seqS (t_row_back_onway_0 K)
    (seqS (t_row_back_onway_3 K)
    (t_row_back_onway_4 K)))
def m_row_back_onway (K : Fg) : List PV → FR := fnM 3 1 [0, 1] (s_row_back_onway K)
@[simp] def t_Answer_init_0 (K : Fg) (ρ : PEnv) : SR := (setFldG 0 (He.ga K "Answer") "found" (vG (nmE 1))) ρ
@[simp] def t_Answer_init_1 (K : Fg) (ρ : PEnv) : SR := (setFldG 0 (He.ga K "Answer") "paper" (vG (nmE 2))) ρ
def s_Answer_init (K : Fg) : PEnv → SR := (seqS (t_Answer_init_0 K)
    (t_Answer_init_1 K))
def m_Answer_init (K : Fg) : List PV → FR := fnM 3 0 [0, 1, 2] (s_Answer_init K)
@[simp] def t_dearer_u_0 (K : Fg) (ρ : PEnv) : SR := (setG 4 (frzG (callM (m_differences_u K) (vlAg (vG (nmE 0)) (vlAg (vG (nmE 1)) (vlAg (vG (nmE 2)) (vlAg (vG (nmE 3)) nilAg))))))) ρ
@[simp] def t_dearer_u_1 (K : Fg) (ρ : PEnv) : SR := (asgG (tupT 3 (consT (nmT 5) (consT (nmT 6) (consT (nmT 7) nilT)))) (frzG (callM (m_greatest_sums K) (vlAg (vG (nmE 0)) (vlAg (ixG 4 (frzG (callM (m_Web_gate_in K) (recvM (He.ga K "Web") "gate_in" (vG (nmE 0)) nilAg)))) (vlAg (vG (nmE 4)) nilAg)))))) ρ
@[simp] def t_dearer_u_2 (K : Fg) (ρ : PEnv) : SR := (asgG (tupT 2 (consT (nmT 8) (consT (nmT 9) nilT))) (frzG (callM (m_round_behind K) (vlAg (vG (nmE 0)) (vlAg (vG (nmE 6)) (vlAg (vG (nmE 7)) nilAg)))))) ρ
@[simp] def t_dearer_u_3 (K : Fg) (ρ : PEnv) : SR := (retG (makeM (He.ga K "Answer") (m_Answer_init K) (vlAg (vG (fun _ => ER.ok (PV.sc (V.bl true)))) (vlAg (frzG (bindGA (consG (frzG (callM (m_row_between K) (vlAg (vG (nmE 0)) (vlAg (vG (bind1 (nmE 0) (fldP (He.ga K "Web") "entry"))) (vlAg (frzG (fG (bindA (consA (nmE 8) nilA) displayT))) nilAg))))) (consG (vG (nmE 9)) (consG (frzG (callM (m_row_between K) (vlAg (vG (nmE 0)) (vlAg (vG (nmE 8)) (vlAg (vG (bind1 (nmE 0) (fldP (He.ga K "Web") "exits"))) nilAg))))) nilG))) displayT)) nilAg)))) ρ
@[simp] def t_dearer_u_4 (K : Fg) (ρ : PEnv) : SR := (ifG (fun ρ => ((isnE true (nmE 7)) ρ).at ρ) (seqS (t_dearer_u_2 K)
    (t_dearer_u_3 K))
    skipS) ρ
@[simp] def t_dearer_u_5 (K : Fg) (ρ : PEnv) : SR := (retG (makeM (He.ga K "Answer") (m_Answer_init K) (vlAg (vG (fun _ => ER.ok (PV.sc (V.bl true)))) (vlAg (frzG (callM (m_row_back_onway K) (vlAg (vG (nmE 0)) (vlAg (vG (nmE 6)) (vlAg (vG (nmE 8)) nilAg))))) nilAg)))) ρ
@[simp] def t_dearer_u_6 (K : Fg) (ρ : PEnv) : SR := (ifG (bindG2b (frzG (bindG2 (vG (bind2 (nmE 5) (nmE 8) ixU)) (ixG 4 (frzG (callM (m_Web_gate_out K) (recvM (He.ga K "Web") "gate_out" (vG (nmE 0)) (vlAg (vG (nmE 8)) nilAg))))) addU)) (vG (fun _ => ER.ok (PV.sc (V.int 0)))) gtI) (t_dearer_u_5 K)
    skipS) ρ
@[simp] def t_dearer_u_7 (K : Fg) (ρ : PEnv) : SR := (forG (iterI (vG (bind1 (nmE 0) (fldP (He.ga K "Web") "exits"))) seqF) (nmT 8)
    (t_dearer_u_6 K)) ρ
@[simp] def t_dearer_u_8 (K : Fg) (ρ : PEnv) : SR := (retG (makeM (He.ga K "Answer") (m_Answer_init K) (vlAg (vG (fun _ => ER.ok (PV.sc (V.bl false)))) (vlAg (frzG (bindGA (consG (frzG (compG (iterA (consG (vG (bind1 (nmE 0) (fldP (He.ga K "Web") "places"))) nilG) rngK1) (nmT 8) yesG (vG (bind2 (nmE 5) (nmE 8) ixU)) [8])) nilG) tupA)) nilAg)))) ρ
end
end SP
section
set_option maxHeartbeats 0
namespace TP
open PySem PySem.Spec PyProof.Rows L2 RL SP TL
end TP
end
namespace PW
open PySem PySem.Spec PyProof.Rows L2 RL TL TP
end PW
namespace PW
open PySem PySem.Spec PyProof.Rows L2 RL TL TP
end PW
namespace PW
open PySem PySem.Spec PyProof.Rows L2 RL TL TP
structure LotOk (w : TWeb) (S : List Int) : Prop where
  rg : ∀ x ∈ S, 0 ≤ x ∧ x < w.places
  la : (ascL S).length < 63
  l1 : (savesOf w S).length < 63
  l2 : (backsOf w S).length < 63
/-- no edge adds more than the heights rise -/
def Rises (es : List (Int × Int)) (h : Int → Int) (ws : List Int) : Prop := ∀ i : Nat, i < es.length → h (edgeAt es i).1 + nmW ws i ≤ h (edgeAt es i).2
theorem Rises.row {es : List (Int × Int)} {h : Int → Int} {ws : List Int} (hr : Rises es h ws) : ∀ {row : List Int} {u e : Int}, rowEnd es u row = some e → h u + sumW ws row ≤ h e
  | [], u, e, he => by simp only [rowEnd, Option.some.injEq] at he; subst he; simp
  | i :: row, u, e, he => by
    simp only [rowEnd] at he;by_cases hi : (0 ≤ i ∧ i < es.length) ∧ (edgeAt es i).1 = u
    · rw [if_pos hi] at he;have hin : ((i.toNat : Nat) : Int) = i := by omega
      have h1 := hr i.toNat (by omega)
      have h2 := hr.row he;rw [hin, hi.2] at h1;rw [sumW_cons]; omega
    · rw [if_neg hi] at he; cases he
/-- a web as told -/
structure WebOk (w : TWeb) (c : Nat) : Prop where
  pc : w.places = c
  c1 : 1 ≤ c
  c24 : c ≤ 24
  el : w.edges.length ≤ 250
  er : ∀ e ∈ w.edges, (0 ≤ e.1 ∧ e.1 < (c : Int)) ∧ 0 ≤ e.2 ∧ e.2 < (c : Int)
  en : 0 ≤ w.entry ∧ w.entry < (c : Int)
  xr : ∀ x ∈ w.exits, 0 ≤ x ∧ x < (c : Int)
  xl : w.exits.length ≤ c
  fw : ∀ x, 0 ≤ x → x < (c : Int) → Rch w.edges [w.entry] x
  bw : ∀ x, 0 ≤ x → x < (c : Int) → ∃ e ∈ w.exits, Rch w.edges [x] e
theorem Rch.back {es : List (Int × Int)} {S : List Int} {x : Int} (h : Rch (swp es) S x) : ∃ e ∈ S, Rch es [x] e := by
  induction h with
  | start h => exact ⟨_, h, .start (List.mem_singleton.mpr rfl)⟩
  | step h e ih =>
    obtain ⟨z, hz, hr⟩ := ih;exact ⟨z, hz, hr.mono (fun _ h => h) fun y hy => by
      rw [List.mem_singleton.mp hy];exact .step (.start (List.mem_singleton.mpr rfl)) (mem_swp.mp e)⟩
theorem WebOk.of {m c : Nat} {t : TTold} (h : Told m t) (hm : m ≤ 250) (hc : t.1 = c) (c24 : c ≤ 24) : WebOk (webOf t) c := by
  have n1 := h.n1;have pl := h.pl
  have xl := exitsOf_len t.1 t.2.2.2;refine ⟨hc, by omega, c24, by show t.2.1.length ≤ 250; omega, fun e he => by have := h.pr e he; omega, by have := h.og; show 0 ≤ t.2.2.1 ∧ t.2.2.1 < (c : Int); omega, fun x hx => ?_, by show (exitsOf _ _).length ≤ c; omega, fun x h0 h1 => h.fw x h0 (by omega), fun x h0 h1 => ?_⟩
  · have := h.gr x ((mem_exitsOf h.gr).mp hx); omega
  · obtain ⟨e, he, hr⟩ := (h.bw x h0 (by omega)).back
    exact ⟨e, (mem_exitsOf h.gr).mpr he, hr⟩
theorem gates_n (w : TWeb) : (gatesL w).length = w.edges.length + 1 + w.exits.length := by simp [gatesL]; omega
end PW
namespace TL
open PySem PySem.Spec PyProof.Rows L2 RL
theorem noW {α γ : Type} {P : α → γ → Prop} : ∀ (a : α) (w : γ), (none : Option γ) = some w → P a w := by intro a w h; cases h
end TL
namespace TL
open PySem PySem.Spec PyProof.Rows L2 RL
end TL
namespace TL
open PySem PySem.Spec PyProof.Rows L2 RL
end TL
namespace SP
noncomputable section
open PySem PySem.Spec PyProof.Rows L2 RL
@[simp] def t_is_integer_0 (K : Fg) (ρ : PEnv) : SR := (retG (vG (andE (frzE (bindA (consA (nmE 0) (consA (fun _ => ER.ok (PV.sc (V.ty "int"))) nilA)) (isiA K []))) (bind1s (frzE (bindA (consA (nmE 0) (consA (fun _ => ER.ok (PV.sc (V.ty "bool"))) nilA)) (isiA K []))) nbO)))) ρ
def s_is_integer (K : Fg) : PEnv → SR := (t_is_integer_0 K)
def m_is_integer (K : Fg) : List PV → FR := fnM 1 0 [0] (s_is_integer K)
@[simp] def t_are_heights_0 (K : Fg) (ρ : PEnv) : SR := (retG (andZ (frzG (fG (bindA (consA (nmE 1) (consA (fun _ => ER.ok (PV.sc (V.ty "tuple"))) nilA)) (isiA K [])))) (andZ (vG (bind2s (frzE (bindA (consA (nmE 1) nilA) lenA)) (bind1 (nmE 0) (fldP (He.ga K "Web") "places")) fun p q => (eqP p q).map V.bl)) (frzG (bindGA (consG (frzG (compG (iterI (vG (nmE 1)) seqF) (nmT 2) yesG (frzG (callM (m_is_integer K) (vlAg (vG (nmE 2)) nilAg))) [2])) nilG) allA))))) ρ
def s_are_heights (K : Fg) : PEnv → SR := (t_are_heights_0 K)
def m_are_heights (K : Fg) : List PV → FR := fnM 2 1 [0, 1] (s_are_heights K)
@[simp] def t_rises_0 (K : Fg) (ρ : PEnv) : SR := (retG (vG (fun _ => ER.ok (PV.sc (V.bl false))))) ρ
@[simp] def t_rises_1 (K : Fg) (ρ : PEnv) : SR := (ifG (fun ρ => ((bind2b (bind2 (nmE 1) (nmE 5) ixP) (frzE (bind2 (bind2 (nmE 1) (nmE 4) ixP) (bind2 (nmE 2) (nmE 3) ixP) addU)) ltI) ρ).at ρ) (t_rises_0 K)
    skipS) ρ
@[simp] def t_rises_2 (K : Fg) (ρ : PEnv) : SR := (forG (iterA (consG (vG (bind1 (nmE 0) (fldP (He.ga K "Web") "edges"))) nilG) enumK) (tupT 2 (consT (nmT 3) (consT (tupT 2 (consT (nmT 4) (consT (nmT 5) nilT))) nilT)))
    (t_rises_1 K)) ρ
@[simp] def t_rises_3 (K : Fg) (ρ : PEnv) : SR := (retG (vG (fun _ => ER.ok (PV.sc (V.bl true))))) ρ
def s_rises (K : Fg) : PEnv → SR := (seqS (t_rises_2 K)
    (t_rises_3 K))
def m_rises (K : Fg) : List PV → FR := fnM 3 3 [0, 1, 2] (s_rises K)
@[simp] def t_shows_never_u_0 (K : Fg) (ρ : PEnv) : SR := (setG 5 (frzG (callM (m_differences_u K) (vlAg (vG (nmE 0)) (vlAg (vG (nmE 1)) (vlAg (vG (nmE 2)) (vlAg (vG (nmE 3)) nilAg))))))) ρ
@[simp] def t_shows_never_u_1 (K : Fg) (ρ : PEnv) : SR := (retG (vG (fun _ => ER.ok (PV.sc (V.bl false))))) ρ
@[simp] def t_shows_never_u_2 (K : Fg) (ρ : PEnv) : SR := (ifG (orG (notG (truG (frzG (callM (m_are_heights K) (vlAg (vG (nmE 0)) (vlAg (vG (nmE 4)) nilAg)))))) (orG (bindG2b (vG (bind2 (nmE 4) (bind1 (nmE 0) (fldP (He.ga K "Web") "entry")) ixP)) (ixG 5 (frzG (callM (m_Web_gate_in K) (recvM (He.ga K "Web") "gate_in" (vG (nmE 0)) nilAg)))) ltI) (notG (truG (frzG (callM (m_rises K) (vlAg (vG (nmE 0)) (vlAg (vG (nmE 4)) (vlAg (vG (nmE 5)) nilAg))))))))) (t_shows_never_u_1 K)
    skipS) ρ
@[simp] def t_shows_never_u_3 (K : Fg) (ρ : PEnv) : SR := (retG (bindGA (consG (frzG (compG (iterI (vG (bind1 (nmE 0) (fldP (He.ga K "Web") "exits"))) seqF) (nmT 6) yesG (bindG2s (frzG (bindG2 (vG (bind2 (nmE 4) (nmE 6) ixP)) (ixG 5 (frzG (callM (m_Web_gate_out K) (recvM (He.ga K "Web") "gate_out" (vG (nmE 0)) (vlAg (vG (nmE 6)) nilAg))))) addU)) (vG (fun _ => ER.ok (PV.sc (V.int 0)))) fun p q => (leI p q).map V.bl) [6])) nilG) allA)) ρ
end
end SP
section
set_option maxHeartbeats 0
namespace TP
open PySem PySem.Spec PyProof.Rows L2 RL SP TL
end TP
end
namespace SP
noncomputable section
open PySem PySem.Spec PyProof.Rows L2 RL
@[simp] def t_check_whole_0 (K : Fg) (ρ : PEnv) : SR := (setG 2 (frzG (callM (m_end_of_row K) (vlAg (vG (nmE 0)) (vlAg (vG (bind1 (nmE 0) (fldP (He.ga K "Web") "entry"))) (vlAg (vG (nmE 1)) nilAg)))))) ρ
@[simp] def t_check_whole_1 (K : Fg) (ρ : PEnv) : SR := (raiseG (He.ga K "NotWhole") "place" (vG (nmE 2))) ρ
@[simp] def t_check_whole_2 (K : Fg) (ρ : PEnv) : SR := (ifG (fun ρ => ((bind2b (nmE 2) (bind1 (nmE 0) (fldP (He.ga K "Web") "exits")) (inP true)) ρ).at ρ) (t_check_whole_1 K)
    skipS) ρ
def s_check_whole (K : Fg) : PEnv → SR := (seqS (t_check_whole_0 K)
    (t_check_whole_2 K))
def m_check_whole (K : Fg) : List PV → FR := fnM 2 1 [0, 1] (s_check_whole K)
@[simp] def t_gates_of_0 (K : Fg) (ρ : PEnv) : SR := (setG 2 (vG (ifE (truE (nmE 1)) (bind2 (bind2 (bind1 (nmE 0) (fldP (He.ga K "Web") "edges")) (bind2 (nmE 1) (bind1s (fun _ => ER.ok (PV.sc (V.int 1))) negV) ixP) ixP) (fun _ => ER.ok (PV.sc (V.int 1))) ixP) (bind1 (nmE 0) (fldP (He.ga K "Web") "entry"))))) ρ
@[simp] def t_gates_of_1 (K : Fg) (ρ : PEnv) : SR := (retG (bindGA (consG (frzG (callM (m_Web_gate_in K) (recvM (He.ga K "Web") "gate_in" (vG (nmE 0)) nilAg))) (starG (vG (nmE 1)) (consG (frzG (callM (m_Web_gate_out K) (recvM (He.ga K "Web") "gate_out" (vG (nmE 0)) (vlAg (vG (nmE 2)) nilAg)))) nilG))) displayL)) ρ
def s_gates_of (K : Fg) : PEnv → SR := (seqS (t_gates_of_0 K)
    (t_gates_of_1 K))
def m_gates_of (K : Fg) : List PV → FR := fnM 2 1 [0, 1] (s_gates_of K)
@[simp] def t_along_u_0 (K : Fg) (ρ : PEnv) : SR := (dropG (callM (m_check_web K) (vlAg (vG (nmE 0)) (vlAg (vG (nmE 1)) nilAg)))) ρ
@[simp] def t_along_u_1 (K : Fg) (ρ : PEnv) : SR := (setG 2 (frzG (makeM (He.ga K "Lot") (m_Lot_init_u K) (vlAg (vG (nmE 2)) nilAg)))) ρ
@[simp] def t_along_u_2 (K : Fg) (ρ : PEnv) : SR := (dropG (callM (m_check_places K) (vlAg (vG (nmE 0)) (vlAg (vG (nmE 2)) nilAg)))) ρ
@[simp] def t_along_u_3 (K : Fg) (ρ : PEnv) : SR := (dropG (callM (m_check_whole K) (vlAg (vG (nmE 0)) (vlAg (vG (nmE 3)) nilAg)))) ρ
@[simp] def t_along_u_4 (K : Fg) (ρ : PEnv) : SR := (setG 4 (frzG (callM (m_marked_prices_u K) (vlAg (vG (nmE 0)) (vlAg (vG (nmE 1)) (vlAg (vG (nmE 2)) nilAg)))))) ρ
@[simp] def t_along_u_5 (K : Fg) (ρ : PEnv) : SR := (setG 5 (frzG (compG (iterI (frzG (callM (m_gates_of K) (vlAg (vG (nmE 0)) (vlAg (vG (nmE 3)) nilAg)))) seqF) (nmT 6) yesG (vG (dget2E (nmE 4) (nmE 6) (fun _ => ER.ok (PV.sc (V.int 0))))) [6]))) ρ
@[simp] def t_along_u_6 (K : Fg) (ρ : PEnv) : SR := (retG (vG (ifE (bind2b (fun _ => ER.ok (PV.sc V.non)) (nmE 5) (inP false)) (fun _ => ER.ok (PV.sc V.non)) (frzE (bindA (consA (nmE 5) nilA) sumA))))) ρ
@[simp] def t_law_ends_v2_0 (K : Fg) (ρ : PEnv) : SR := (retG (vG (fun _ => ER.ok (PV.sc V.non)))) ρ
@[simp] def t_law_ends_v2_1 (K : Fg) (ρ : PEnv) : SR := (ifG (fun ρ => ((notE (truE (frzE (bindA (consA (nmE 1) (consA (fun _ => ER.ok (PV.sc (V.ty "tuple"))) nilA)) (isiA K []))))) ρ).at ρ) (t_law_ends_v2_0 K)
    skipS) ρ
@[simp] def t_law_ends_v2_2 (K : Fg) (ρ : PEnv) : SR := (retG (vG (fun _ => ER.ok (PV.sc V.non)))) ρ
@[simp] def t_law_ends_v2_3 (K : Fg) (ρ : PEnv) : SR := (ifG (fun ρ => ((orB (notE (truE (frzE (bindA (consA (nmE 3) (consA (fun _ => ER.ok (PV.sc (V.ty "int"))) nilA)) (isiA K []))))) (orB (truE (frzE (bindA (consA (nmE 3) (consA (fun _ => ER.ok (PV.sc (V.ty "bool"))) nilA)) (isiA K [])))) (notE (tstE (chainE (fun _ => ER.ok (PV.sc (V.int 0))) (nmE 3) (frzE (bindA (consA (bind2 (nmE 0) (fun _ => ER.ok (PV.sc (V.int 1))) ixP) nilA) lenA)) leI ltI))))) ρ).at ρ) (t_law_ends_v2_2 K)
    skipS) ρ
@[simp] def t_law_ends_v2_4 (K : Fg) (ρ : PEnv) : SR := (retG (vG (fun _ => ER.ok (PV.sc V.non)))) ρ
@[simp] def t_law_ends_v2_5 (K : Fg) (ρ : PEnv) : SR := (ifG (fun ρ => ((bind2b (bind2 (bind2 (bind2 (nmE 0) (fun _ => ER.ok (PV.sc (V.int 1))) ixP) (nmE 3) ixP) (fun _ => ER.ok (PV.sc (V.int 0))) ixP) (nmE 2) neP) ρ).at ρ) (t_law_ends_v2_4 K)
    skipS) ρ
@[simp] def t_law_ends_v2_6 (K : Fg) (ρ : PEnv) : SR := (setG 2 (vG (bind2 (bind2 (bind2 (nmE 0) (fun _ => ER.ok (PV.sc (V.int 1))) ixP) (nmE 3) ixP) (fun _ => ER.ok (PV.sc (V.int 1))) ixP))) ρ
@[simp] def t_law_ends_v2_7 (K : Fg) (ρ : PEnv) : SR := (forG (iterI (vG (nmE 1)) seqF) (nmT 3)
    (seqS (t_law_ends_v2_3 K)
    (seqS (t_law_ends_v2_5 K)
    (t_law_ends_v2_6 K)))) ρ
@[simp] def t_law_ends_v2_8 (K : Fg) (ρ : PEnv) : SR := (retG (vG (nmE 2))) ρ
def s_law_ends_v2 (K : Fg) : PEnv → SR := (seqS (t_law_ends_v2_1 K)
    (seqS (t_law_ends_v2_7 K)
    (t_law_ends_v2_8 K)))
def m_law_ends_v2 (K : Fg) : List PV → FR := fnM 3 1 [0, 1] (s_law_ends_v2 K)
@[simp] def t_law_whole_0 (K : Fg) (ρ : PEnv) : SR := (retG (bindG2s (frzG (callM (m_law_ends_v2 K) (vlAg (vG (nmE 0)) (vlAg (vG (nmE 1)) (vlAg (vG (bind2 (nmE 0) (fun _ => ER.ok (PV.sc (V.int 2))) ixP)) nilAg))))) (vG (bind2 (nmE 0) (fun _ => ER.ok (PV.sc (V.int 3))) ixP)) fun p q => ((inP false) p q).map V.bl)) ρ
end
end SP
section
set_option maxHeartbeats 0
namespace TP
open PySem PySem.Spec PyProof.Rows L2 RL SP TL
end TP
end
namespace SP
noncomputable section
open PySem PySem.Spec PyProof.Rows L2 RL
@[simp] def t_Most_init_0 (K : Fg) (ρ : PEnv) : SR := (setFldG 0 (He.ga K "Most") "number" (vG (nmE 1))) ρ
@[simp] def t_Most_init_1 (K : Fg) (ρ : PEnv) : SR := (setFldG 0 (He.ga K "Most") "paper" (vG (nmE 2))) ρ
def s_Most_init (K : Fg) : PEnv → SR := (seqS (t_Most_init_0 K)
    (t_Most_init_1 K))
def m_Most_init (K : Fg) : List PV → FR := fnM 3 0 [0, 1, 2] (s_Most_init K)
@[simp] def t_saving_edges_u_0 (K : Fg) (ρ : PEnv) : SR := (setG 2 (bindG1 (frzG (callM (m_placing_of_u K) (vlAg (vG (nmE 0)) (vlAg (vG (nmE 1)) nilAg)))) (fldP (He.ga K "Placing") "saves"))) ρ
@[simp] def t_saving_edges_u_1 (K : Fg) (ρ : PEnv) : SR := (retG (compG (iterA (consG (frzG (fG (bindA (consA (bind1 (nmE 0) (fldP (He.ga K "Web") "edges")) nilA) lenA))) nilG) rngK1) (nmT 3) yesG (frzG (fG (bindA (consA (bind2s (nmE 3) (nmE 2) fun p q => ((inP false) p q).map V.bl) nilA) intA))) [3])) ρ
def s_saving_edges_u (K : Fg) : PEnv → SR := (seqS (t_saving_edges_u_0 K)
    (t_saving_edges_u_1 K))
def m_saving_edges_u (K : Fg) : List PV → FR := fnM 2 2 [0, 1] (s_saving_edges_u K)
@[simp] def t_entry_saves_0 (K : Fg) (ρ : PEnv) : SR := (retG (fG (bindA (consA (frzE (bind2 (bind1 (nmE 0) (fldP (He.ga K "Web") "entry")) (nmE 1) fun p q => ((owIn false (He.ga K "Lot") (m_Lot_contains K)) p q).map PV.bl)) nilA) intA))) ρ
def s_entry_saves (K : Fg) : PEnv → SR := (t_entry_saves_0 K)
def m_entry_saves (K : Fg) : List PV → FR := fnM 2 0 [0, 1] (s_entry_saves K)
@[simp] def t_endless_round_0 (K : Fg) (ρ : PEnv) : SR := (setG 5 (frzG (callM (m_row_between K) (vlAg (vG (nmE 0)) (vlAg (vG (nmE 4)) (vlAg (frzG (fG (bindA (consA (nmE 3) nilA) displayT))) nilAg)))))) ρ
@[simp] def t_endless_round_1 (K : Fg) (ρ : PEnv) : SR := (retG (bindGA (consG (frzG (callM (m_row_between K) (vlAg (vG (nmE 0)) (vlAg (vG (bind1 (nmE 0) (fldP (He.ga K "Web") "entry"))) (vlAg (frzG (fG (bindA (consA (nmE 3) nilA) displayT))) nilAg))))) (consG (frzG (fG (bindA (consA (nmE 2) (starA (nmE 5) nilA)) displayT))) (consG (frzG (callM (m_row_between K) (vlAg (vG (nmE 0)) (vlAg (vG (nmE 3)) (vlAg (vG (bind1 (nmE 0) (fldP (He.ga K "Web") "exits"))) nilAg))))) nilG))) displayT)) ρ
@[simp] def t_endless_round_2 (K : Fg) (ρ : PEnv) : SR := (ifG (fun ρ => ((andB (bind2b (bind2 (nmE 1) (nmE 2) ixP) (fun _ => ER.ok (PV.sc (V.int 1))) eqP) (isnE true (nmE 5))) ρ).at ρ) (t_endless_round_1 K)
    skipS) ρ
@[simp] def t_endless_round_3 (K : Fg) (ρ : PEnv) : SR := (forG (iterA (consG (vG (bind1 (nmE 0) (fldP (He.ga K "Web") "edges"))) nilG) enumK) (tupT 2 (consT (nmT 2) (consT (tupT 2 (consT (nmT 3) (consT (nmT 4) nilT))) nilT)))
    (seqS (t_endless_round_0 K)
    (t_endless_round_2 K))) ρ
@[simp] def t_endless_round_4 (K : Fg) (ρ : PEnv) : SR := (retG (vG (fun _ => ER.ok (PV.sc V.non)))) ρ
def s_endless_round (K : Fg) : PEnv → SR := (seqS (t_endless_round_3 K)
    (t_endless_round_4 K))
def m_endless_round (K : Fg) : List PV → FR := fnM 2 4 [0, 1] (s_endless_round K)
@[simp] def t_most_saves_u_0 (K : Fg) (ρ : PEnv) : SR := (setG 1 (frzG (makeM (He.ga K "Lot") (m_Lot_init_u K) (vlAg (vG (nmE 1)) nilAg)))) ρ
@[simp] def t_most_saves_u_1 (K : Fg) (ρ : PEnv) : SR := (dropG (callM (m_check_places K) (vlAg (vG (nmE 0)) (vlAg (vG (nmE 1)) nilAg)))) ρ
@[simp] def t_most_saves_u_2 (K : Fg) (ρ : PEnv) : SR := (setG 2 (frzG (callM (m_saving_edges_u K) (vlAg (vG (nmE 0)) (vlAg (vG (nmE 1)) nilAg))))) ρ
@[simp] def t_most_saves_u_3 (K : Fg) (ρ : PEnv) : SR := (setG 3 (frzG (callM (m_endless_round K) (vlAg (vG (nmE 0)) (vlAg (vG (nmE 2)) nilAg))))) ρ
@[simp] def t_most_saves_u_4 (K : Fg) (ρ : PEnv) : SR := (retG (makeM (He.ga K "Most") (m_Most_init K) (vlAg (vG (fun _ => ER.ok (PV.sc V.non))) (vlAg (vG (nmE 3)) nilAg)))) ρ
@[simp] def t_most_saves_u_5 (K : Fg) (ρ : PEnv) : SR := (ifG (fun ρ => ((isnE true (nmE 3)) ρ).at ρ) (t_most_saves_u_4 K)
    skipS) ρ
@[simp] def t_most_saves_u_6 (K : Fg) (ρ : PEnv) : SR := (asgG (tupT 3 (consT (nmT 4) (consT (nmT 5) (consT (nmT 6) nilT)))) (frzG (callM (m_greatest_sums K) (vlAg (vG (nmE 0)) (vlAg (frzG (callM (m_entry_saves K) (vlAg (vG (nmE 0)) (vlAg (vG (nmE 1)) nilAg)))) (vlAg (vG (nmE 2)) nilAg)))))) ρ
@[simp] def t_most_saves_u_7 (K : Fg) (ρ : PEnv) : SR := (setG 7 (vG (bind2 (bind1 (nmE 0) (fldP (He.ga K "Web") "exits")) (fun _ => ER.ok (PV.sc (V.int 0))) ixP))) ρ
@[simp] def t_most_saves_u_8 (K : Fg) (ρ : PEnv) : SR := (setG 7 (vG (nmE 8))) ρ
@[simp] def t_most_saves_u_9 (K : Fg) (ρ : PEnv) : SR := (ifG (fun ρ => ((bind2b (bind2 (nmE 4) (nmE 8) ixU) (bind2 (nmE 4) (nmE 7) ixU) gtI) ρ).at ρ) (t_most_saves_u_8 K)
    skipS) ρ
@[simp] def t_most_saves_u_10 (K : Fg) (ρ : PEnv) : SR := (forG (iterI (vG (bind1 (nmE 0) (fldP (He.ga K "Web") "exits"))) seqF) (nmT 8)
    (t_most_saves_u_9 K)) ρ
@[simp] def t_most_saves_u_11 (K : Fg) (ρ : PEnv) : SR := (setG 9 (frzG (bindGA (consG (frzG (compG (iterA (consG (vG (bind1 (nmE 0) (fldP (He.ga K "Web") "places"))) nilG) rngK1) (nmT 8) yesG (vG (bind2 (nmE 4) (nmE 8) ixU)) [8])) nilG) tupA))) ρ
@[simp] def t_most_saves_u_12 (K : Fg) (ρ : PEnv) : SR := (retG (makeM (He.ga K "Most") (m_Most_init K) (vlAg (vG (bind2 (nmE 4) (nmE 7) ixU)) (vlAg (frzG (bindGA (consG (frzG (callM (m_row_back_onway K) (vlAg (vG (nmE 0)) (vlAg (vG (nmE 5)) (vlAg (vG (nmE 7)) nilAg))))) (consG (vG (nmE 9)) nilG)) displayT)) nilAg)))) ρ
def s_most_saves_u (K : Fg) : PEnv → SR := (seqS (t_most_saves_u_0 K)
    (seqS (t_most_saves_u_1 K)
    (seqS (t_most_saves_u_2 K)
    (seqS (t_most_saves_u_3 K)
    (seqS (t_most_saves_u_5 K)
    (seqS (t_most_saves_u_6 K)
    (seqS (t_most_saves_u_7 K)
    (seqS (t_most_saves_u_10 K)
    (seqS (t_most_saves_u_11 K)
    (t_most_saves_u_12 K))))))))))
def m_most_saves_u (K : Fg) : List PV → FR := fnM 2 8 [0] (s_most_saves_u K)
end
end SP
section
set_option maxHeartbeats 0
namespace TP
open PySem PySem.Spec PyProof.Rows L2 RL SP TL
end TP
end
namespace PW
open PySem PySem.Spec PyProof.Rows L2 RL TL TP
/-- all prices there -/
def AllP (ps : List (Option Int)) : Prop := ∀ p ∈ ps, ∃ v, p = some v
theorem AllP.at_ {ps : List (Option Int)} (h : AllP ps) {g : Int} (h0 : 0 ≤ g) (h1 : g < ps.length) : ∃ v, prAt ps g = some v := by
  have := prAt_e h0 h1
  have e := at_e h0 h1;rw [e] at this;have := Option.some.inj this
  rw [← this]; exact h _ (List.getElem_mem _)
end PW
section
set_option maxHeartbeats 0
namespace TP
open PySem PySem.Spec PyProof.Rows L2 RL SP TL
end TP
end
namespace PW
open PySem PySem.Spec PyProof.Rows L2 RL TL TP
/-- the law's own search -/
structure LS (es : List (Int × Int)) (c : Nat) (first : Int) (Rs : List (Int × List Int)) (Q : List Int) : Prop where
  mp : Q = Rs.map (·.1)
  nd : Q.Nodup
  rg : ∀ x ∈ Q, 0 ≤ x ∧ x < (c : Int)
  fi : first ∈ Q
  rw_ : ∀ x ∈ Rs, rowEnd es first x.2 = some x.1 ∧ x.2.length < Rs.length
theorem LS.len {es : List (Int × Int)} {c : Nat} {first : Int} {Rs : List (Int × List Int)} {Q : List Int} (q : LS es c first Rs Q) : Rs.length ≤ c := by
  have := nodup_len q.nd q.rg
  rw [q.mp, List.length_map] at this; exact this
end PW
namespace PW
open PySem PySem.Spec PyProof.Rows L2 RL TL TP
end PW
namespace PW
open PySem PySem.Spec PyProof.Rows L2 RL TL TP
end PW
namespace SP
noncomputable section
open PySem PySem.Spec PyProof.Rows L2 RL
@[simp] def t_is_number_0 (K : Fg) (ρ : PEnv) : SR := (retG (vG (andE (frzE (bindA (consA (nmE 0) (consA (fun _ => ER.ok (PV.sc (V.ty "int"))) nilA)) (isiA K []))) (bind1s (frzE (bindA (consA (nmE 0) (consA (fun _ => ER.ok (PV.sc (V.ty "bool"))) nilA)) (isiA K []))) nbO)))) ρ
def s_is_number (K : Fg) : PEnv → SR := (t_is_number_0 K)
def m_is_number (K : Fg) : List PV → FR := fnM 1 0 [0] (s_is_number K)
@[simp] def t_end_of_0 (K : Fg) (ρ : PEnv) : SR := (retG (vG (fun _ => ER.ok (PV.sc V.non)))) ρ
@[simp] def t_end_of_1 (K : Fg) (ρ : PEnv) : SR := (ifG (orG (fun ρ => ((notE (truE (frzE (bindA (consA (nmE 1) (consA (fun _ => ER.ok (PV.sc (V.ty "tuple"))) nilA)) (isiA K []))))) ρ).at ρ) (notG (truG (frzG (bindGA (consG (frzG (compG (iterI (vG (nmE 1)) seqF) (nmT 3) yesG (frzG (callM (m_is_number K) (vlAg (vG (nmE 3)) nilAg))) [3])) nilG) allA))))) (t_end_of_0 K)
    skipS) ρ
@[simp] def t_end_of_2 (K : Fg) (ρ : PEnv) : SR := (retG (callM (m_end_of_row K) (vlAg (vG (nmE 0)) (vlAg (vG (nmE 2)) (vlAg (vG (nmE 1)) nilAg))))) ρ
@[simp] def t_end_of_3 (K : Fg) (ρ : PEnv) : SR := (tryG K (t_end_of_2 K) [⟨.ref (He.ga K "BadWay"), none, fun a x => (retG (vG (fun _ => ER.ok (PV.sc V.non))))⟩]) ρ
def s_end_of (K : Fg) : PEnv → SR := (seqS (t_end_of_1 K)
    (t_end_of_3 K))
def m_end_of (K : Fg) : List PV → FR := fnM 3 1 [0, 1, 2] (s_end_of K)
@[simp] def t_is_whole_0 (K : Fg) (ρ : PEnv) : SR := (retG (bindG2s (frzG (callM (m_end_of K) (vlAg (vG (nmE 0)) (vlAg (vG (nmE 1)) (vlAg (vG (bind1 (nmE 0) (fldP (He.ga K "Web") "entry"))) nilAg))))) (vG (bind1 (nmE 0) (fldP (He.ga K "Web") "exits"))) fun p q => ((inP false) p q).map V.bl)) ρ
def s_is_whole (K : Fg) : PEnv → SR := (t_is_whole_0 K)
def m_is_whole (K : Fg) : List PV → FR := fnM 2 0 [0, 1] (s_is_whole K)
@[simp] def t_is_triple_0 (K : Fg) (ρ : PEnv) : SR := (retG (vG (fun _ => ER.ok (PV.sc (V.bl false))))) ρ
@[simp] def t_is_triple_1 (K : Fg) (ρ : PEnv) : SR := (ifG (fun ρ => ((orB (notE (truE (frzE (bindA (consA (nmE 1) (consA (fun _ => ER.ok (PV.sc (V.ty "tuple"))) nilA)) (isiA K []))))) (bind2b (frzE (bindA (consA (nmE 1) nilA) lenA)) (fun _ => ER.ok (PV.sc (V.int 3))) neP)) ρ).at ρ) (t_is_triple_0 K)
    skipS) ρ
@[simp] def t_is_triple_2 (K : Fg) (ρ : PEnv) : SR := (asgG (tupW 3 (consT (nmT 2) (consT (nmT 3) (consT (nmT 4) nilT)))) (vG (nmE 1))) ρ
@[simp] def t_is_triple_3 (K : Fg) (ρ : PEnv) : SR := (setG 5 (frzG (callM (m_end_of K) (vlAg (vG (nmE 0)) (vlAg (vG (nmE 2)) (vlAg (vG (bind1 (nmE 0) (fldP (He.ga K "Web") "entry"))) nilAg)))))) ρ
@[simp] def t_is_triple_4 (K : Fg) (ρ : PEnv) : SR := (retG (vG (fun _ => ER.ok (PV.sc (V.bl false))))) ρ
@[simp] def t_is_triple_5 (K : Fg) (ρ : PEnv) : SR := (ifG (orG (fun ρ => ((isnE false (nmE 5)) ρ).at ρ) (orG (fun ρ => ((notE (truE (frzE (bindA (consA (nmE 3) (consA (fun _ => ER.ok (PV.sc (V.ty "tuple"))) nilA)) (isiA K []))))) ρ).at ρ) (orG (fun ρ => ((bind2b (frzE (bindA (consA (nmE 3) nilA) lenA)) (fun _ => ER.ok (PV.sc (V.int 0))) eqP) ρ).at ρ) (bindG2b (frzG (callM (m_end_of K) (vlAg (vG (nmE 0)) (vlAg (vG (nmE 3)) (vlAg (vG (nmE 5)) nilAg))))) (vG (nmE 5)) neP)))) (t_is_triple_4 K)
    skipS) ρ
@[simp] def t_is_triple_6 (K : Fg) (ρ : PEnv) : SR := (retG (bindG2s (frzG (callM (m_end_of K) (vlAg (vG (nmE 0)) (vlAg (vG (nmE 4)) (vlAg (vG (nmE 5)) nilAg))))) (vG (bind1 (nmE 0) (fldP (He.ga K "Web") "exits"))) fun p q => ((inP false) p q).map V.bl)) ρ
def s_is_triple (K : Fg) : PEnv → SR := (seqS (t_is_triple_1 K)
    (seqS (t_is_triple_2 K)
    (seqS (t_is_triple_3 K)
    (seqS (t_is_triple_5 K)
    (t_is_triple_6 K)))))
def m_is_triple (K : Fg) : List PV → FR := fnM 2 4 [0, 1] (s_is_triple K)
@[simp] def t_shows_dearer_u_0 (K : Fg) (ρ : PEnv) : SR := (setG 5 (frzG (callM (m_differences_u K) (vlAg (vG (nmE 0)) (vlAg (vG (nmE 1)) (vlAg (vG (nmE 2)) (vlAg (vG (nmE 3)) nilAg))))))) ρ
@[simp] def t_shows_dearer_u_1 (K : Fg) (ρ : PEnv) : SR := (retG (bindG2s (frzG (bindGA (consG (frzG (compG (iterI (frzG (callM (m_gates_of K) (vlAg (vG (nmE 0)) (vlAg (vG (nmE 4)) nilAg)))) seqF) (nmT 6) yesG (vG (bind2 (nmE 5) (nmE 6) ixP)) [6])) nilG) sumA)) (vG (fun _ => ER.ok (PV.sc (V.int 0)))) fun p q => (gtI p q).map V.bl)) ρ
@[simp] def t_shows_dearer_u_2 (K : Fg) (ρ : PEnv) : SR := (ifG (truG (frzG (callM (m_is_whole K) (vlAg (vG (nmE 0)) (vlAg (vG (nmE 4)) nilAg))))) (t_shows_dearer_u_1 K)
    skipS) ρ
@[simp] def t_shows_dearer_u_3 (K : Fg) (ρ : PEnv) : SR := (retG (andZ (frzG (callM (m_is_triple K) (vlAg (vG (nmE 0)) (vlAg (vG (nmE 4)) nilAg)))) (bindG2s (frzG (bindGA (consG (frzG (compG (iterI (vG (bind2 (nmE 4) (fun _ => ER.ok (PV.sc (V.int 1))) ixP)) seqF) (nmT 7) yesG (vG (bind2 (nmE 5) (nmE 7) ixP)) [7])) nilG) sumA)) (vG (fun _ => ER.ok (PV.sc (V.int 0)))) fun p q => (gtI p q).map V.bl))) ρ
@[simp] def t_law_gates_v3_0 (K : Fg) (ρ : PEnv) : SR := (asgG (tupW 4 (consT (nmT 1) (consT (nmT 2) (consT (nmT 3) (consT (nmT 4) nilT))))) (vG (nmE 0))) ρ
@[simp] def t_law_gates_v3_1 (K : Fg) (ρ : PEnv) : SR := (retG (bindG2 (frzG (fG (bind2 (frzE (bindA (consA (nmE 2) nilA) listA)) (frzE (bindA (consA (frzE (bindA (consA (bind1s (fun _ => ER.ok (PV.sc (V.int 1))) negV) (consA (nmE 3) nilA)) displayT)) nilA) displayL)) addU))) (frzG (compG (iterI (vG (nmE 4)) seqF) (nmT 5) yesG (frzG (fG (bindA (consA (nmE 5) (consA (bind1s (fun _ => ER.ok (PV.sc (V.int 1))) negV) nilA)) displayT))) [5])) addU)) ρ
@[simp] def t_law_marks_v1_0 (K : Fg) (ρ : PEnv) : SR := (setG 2 (frzG (compG (iterA (consG (frzG (fG (bindA (consA (nmE 0) nilA) lenA))) nilG) rngK1) (nmT 3) (fun ρ => ((andB (bind2b (bind2 (bind2 (nmE 0) (nmE 3) ixP) (fun _ => ER.ok (PV.sc (V.int 1))) ixP) (nmE 1) (inP false)) (bind2b (bind2 (bind2 (nmE 0) (nmE 3) ixP) (fun _ => ER.ok (PV.sc (V.int 0))) ixP) (nmE 1) (inP true))) ρ).at ρ) (vG (nmE 3)) [3]))) ρ
@[simp] def t_law_marks_v1_1 (K : Fg) (ρ : PEnv) : SR := (retG (bindGA (consG (vG (nmE 2)) (consG (frzG (compG (iterA (consG (frzG (fG (bindA (consA (nmE 0) nilA) lenA))) nilG) rngK1) (nmT 3) (fun ρ => ((andB (bind2b (bind2 (bind2 (nmE 0) (nmE 3) ixP) (fun _ => ER.ok (PV.sc (V.int 0))) ixP) (nmE 1) (inP false)) (bind2b (bind2 (bind2 (nmE 0) (nmE 3) ixP) (fun _ => ER.ok (PV.sc (V.int 1))) ixP) (nmE 1) (inP true))) ρ).at ρ) (vG (nmE 3)) [3])) nilG)) displayT)) ρ
def s_law_marks_v1 (K : Fg) : PEnv → SR := (seqS (t_law_marks_v1_0 K)
    (t_law_marks_v1_1 K))
def m_law_marks_v1 (K : Fg) : List PV → FR := fnM 2 2 [0, 1] (s_law_marks_v1 K)
@[simp] def t_law_price_v1_0 (K : Fg) (ρ : PEnv) : SR := (retG (vG (fun _ => ER.ok (PV.sc V.non)))) ρ
@[simp] def t_law_price_v1_1 (K : Fg) (ρ : PEnv) : SR := (ifG (bindG2b (frzG (callM (m_law_draw_v1 K) (plAg 0 (vlAg (vG (fun _ => ER.ok (PV.sc (V.int 6)))) nilAg)))) (vG (fun _ => ER.ok (PV.sc (V.int 5)))) eqP) (t_law_price_v1_0 K)
    skipS) ρ
@[simp] def t_law_price_v1_2 (K : Fg) (ρ : PEnv) : SR := (retG (callM (m_law_draw_v1 K) (plAg 0 (vlAg (vG (nmE 1)) nilAg)))) ρ
def s_law_price_v1 (K : Fg) : PEnv → SR := (seqS (t_law_price_v1_1 K)
    (t_law_price_v1_2 K))
def m_law_price_v1 (K : Fg) : List PV → FR := fnM 2 0 [0, 1] (s_law_price_v1 K)
@[simp] def t_law_prices_0 (K : Fg) (ρ : PEnv) : SR := (setG 2 (bindG2 (frzG (fG (bindA (consA (fun _ => ER.ok (PV.sc (V.int 3))) (consA (fun _ => ER.ok (PV.sc (V.int 8))) (consA (fun _ => ER.ok (PV.sc (V.int 100001))) nilA))) displayT))) (frzG (callM (m_law_draw_v1 K) (plAg 0 (vlAg (vG (fun _ => ER.ok (PV.sc (V.int 3)))) nilAg)))) ixP)) ρ
@[simp] def t_law_prices_1 (K : Fg) (ρ : PEnv) : SR := (retG (bindGA (consG (frzG (compG (iterA (consG (vG (nmE 1)) nilG) rngK1) (nmT 3) yesG (frzG (callM (m_law_price_v1 K) (plAg 0 (vlAg (vG (nmE 2)) nilAg)))) [3])) (consG (frzG (compG (iterA (consG (vG (nmE 1)) nilG) rngK1) (nmT 3) yesG (frzG (callM (m_law_price_v1 K) (plAg 0 (vlAg (vG (nmE 2)) nilAg)))) [3])) nilG)) displayT)) ρ
end
end SP
section
set_option maxHeartbeats 0
namespace TP
open PySem PySem.Spec PyProof.Rows L2 RL SP TL
end TP
end
namespace PW
open PySem PySem.Spec PyProof.Rows L2 RL TL TP
def badAt (w : TWeb) (S : List Int) : Option Int := (ascL S).find? fun x => decide (w.places ≤ x)
/-- a lot whose places the web need not have -/
structure LotWide (w : TWeb) (S : List Int) : Prop where
  n0 : ∀ x ∈ S, 0 ≤ x
  la : (ascL S).length < 63
  l1 : (savesOf w S).length < 63
  l2 : (backsOf w S).length < 63
theorem badAt_none {w : TWeb} {S : List Int} (h : badAt w S = none) : ∀ x ∈ S, x < w.places := fun x hx => by
  have := List.find?_eq_none.mp h x (mem_ascL.mpr hx)
  simpa using this
theorem LotWide.ok {w : TWeb} {S : List Int} (l : LotWide w S) (h : badAt w S = none) : LotOk w S := ⟨fun x hx => ⟨l.n0 x hx, badAt_none h x hx⟩, l.la, l.l1, l.l2⟩
end PW
namespace PW
open PySem PySem.Spec PyProof.Rows L2 RL TL TP
end PW
namespace TL
open PySem PySem.Spec PyProof.Rows L2 RL
theorem frzL_map : ∀ xs : List PV, PV.frzL xs = xs.map PV.frz
  | [] => by simp only [PV.frzL, List.map]
  | x :: xs => by simp only [PV.frzL, List.map]; rw [frzL_map xs]
end TL
noncomputable section
namespace TL
open PySem PySem.Spec PyProof.Rows L2 RL
end TL
end
noncomputable section
namespace TL
open PySem PySem.Spec PyProof.Rows L2 RL
end TL
end
namespace PW
open PySem PySem.Spec PyProof.Rows L2 RL TL TP
/-- small numbers, not too many -/
def Sm (k : Nat) (r : List Int) : Prop := r.length ≤ 300 + k ∧ ∀ z ∈ r, -(10 : Int) ^ 20 - 5 * k ≤ z ∧ z ≤ (10 : Int) ^ 20 + 5 * k
theorem Sm.mono {k j : Nat} {r : List Int} (h : Sm k r) (hj : k ≤ j) : Sm j r := ⟨by have := h.1; omega, fun z hz => by have := h.2 z hz; omega⟩
theorem Sm.ins {k : Nat} {r : List Int} (h : Sm k r) {i : Nat} {e : Int} (h0 : -1000 ≤ e) (h1 : e ≤ 1000) : Sm (k + 1) (r.take i ++ e :: r.drop i) := by
  refine ⟨?_, fun z hz => ?_⟩
  · have := h.1
    simp only [List.length_append, List.length_take, List.length_cons, List.length_drop];omega
  · simp only [List.mem_append, List.mem_cons] at hz;rcases hz with hz | rfl | hz
    · have := h.2 z (List.mem_of_mem_take hz); omega
    · omega
    · have := h.2 z (List.mem_of_mem_drop hz); omega
theorem Sm.set {k : Nat} {r : List Int} (h : Sm k r) (i : Nat) {e : Int} (h0 : -1000 ≤ e) (h1 : e ≤ 1000) : Sm (k + 1) (r.set i e) := by
  refine ⟨by rw [List.length_set]; have := h.1; omega, fun z hz => ?_⟩
  rcases List.mem_or_eq_of_mem_set hz with hz | rfl
  · have := h.2 z hz; omega
  · omega
end PW
noncomputable section
namespace TL
open PySem PySem.Spec PyProof.Rows L2 RL
end TL
end
namespace PW
open PySem PySem.Spec PyProof.Rows L2 RL TL TP
def tb (T : List (List Int)) (a b : Nat) : Int := (T.getD a []).getD b 0
structure Sq (c : Nat) (T : List (List Int)) : Prop where
  len : T.length = c
  rows : ∀ r ∈ T, r.length = c
theorem Sq.row {c : Nat} {T : List (List Int)} (s : Sq c T) {a : Nat} (ha : a < c) : T[a]? = some (T.getD a []) ∧ (T.getD a []).length = c := by
  have hl : a < T.length := by rw [s.len]; exact ha
  have e : T[a]? = some T[a] := List.getElem?_eq_getElem hl
  have e2 : T.getD a [] = T[a] := by rw [List.getD_eq_getElem?_getD, e]; rfl
  rw [e2];exact ⟨e, s.rows _ (List.getElem_mem hl)⟩
def WR (es : List (Int × Int)) : Nat → Int → Int → Prop
  | 0, a, b => a = b ∨ (a, b) ∈ es
  | m + 1, a, b => WR es m a b ∨ (WR es m a m ∧ WR es m m b)
theorem WR.up {es : List (Int × Int)} {a b : Int} : ∀ {m n : Nat}, m ≤ n → WR es m a b → WR es n a b
  | m, 0, h, w => by have : m = 0 := by omega
                     subst this; exact w
  | m, n + 1, h, w => by
    by_cases e : m = n + 1
    · subst e; exact w
    · exact .inl (WR.up (by omega) w)
end PW
noncomputable section
namespace TL
open PySem PySem.Spec PyProof.Rows L2 RL
end TL
namespace TP
open PySem PySem.Spec PyProof.Rows L2 RL SP TL
end TP
end
noncomputable section
namespace TL
open PySem PySem.Spec PyProof.Rows L2 RL
section
variable {α β : Type} {f : α → PV} {ρ : PEnv}
def hasA (k : Int × String) (d : List ((Int × String) × α)) : Bool := decide (k ∈ d.map fun x => x.1)
def insA (k : Int × String) (v : α) (d : List ((Int × String) × α)) : List ((Int × String) × α) := if hasA k d = true then d.map fun x => if x.1 = k then (x.1, v) else x else d ++ [(k, v)]
end
end TL
namespace TP
open PySem PySem.Spec PyProof.Rows L2 RL SP TL
end TP
end
namespace SP
noncomputable section
open PySem PySem.Spec PyProof.Rows L2 RL
@[simp] def t_Least_init_0 (K : Fg) (ρ : PEnv) : SR := (setFldG 0 (He.ga K "Least") "cost" (vG (nmE 1))) ρ
@[simp] def t_Least_init_1 (K : Fg) (ρ : PEnv) : SR := (setFldG 0 (He.ga K "Least") "lot" (vG (nmE 2))) ρ
@[simp] def t_Least_init_2 (K : Fg) (ρ : PEnv) : SR := (setFldG 0 (He.ga K "Least") "flow" (vG (nmE 3))) ρ
@[simp] def t_Least_init_3 (K : Fg) (ρ : PEnv) : SR := (setFldG 0 (He.ga K "Least") "row" (vG (nmE 4))) ρ
def s_Least_init (K : Fg) : PEnv → SR := (seqS (t_Least_init_0 K)
    (seqS (t_Least_init_1 K)
    (seqS (t_Least_init_2 K)
    (t_Least_init_3 K))))
def m_Least_init (K : Fg) : List PV → FR := fnM 5 0 [0, 1, 2, 3, 4] (s_Least_init K)
@[simp] def t_Network_init_0 (K : Fg) (ρ : PEnv) : SR := (setFldG 0 (He.ga K "Network") "sources" (frzG (fG (bindA (consA (nmE 2) nilA) listA)))) ρ
@[simp] def t_Network_init_1 (K : Fg) (ρ : PEnv) : SR := (setFldG 0 (He.ga K "Network") "sinks" (frzG (fG (bindA (starA (nmE 3) (consA (fun _ => ER.ok (PV.sc (V.int (-1)))) nilA)) displayL)))) ρ
@[simp] def t_Network_init_2 (K : Fg) (ρ : PEnv) : SR := (setFldG 0 (He.ga K "Network") "places" (vG (bind1 (bind1 (nmE 1) (fldP (He.ga K "Prices") "web")) (fldP (He.ga K "Web") "places")))) ρ
@[simp] def t_Network_init_3 (K : Fg) (ρ : PEnv) : SR := (setFldG 0 (He.ga K "Network") "rooms" (fG (fun _ => ER.ok (PV.dtt true [] [])))) ρ
@[simp] def t_Network_init_4 (K : Fg) (ρ : PEnv) : SR := (setFldG 0 (He.ga K "Network") "tips" (fG (fun _ => ER.ok (PV.dtt true [] [])))) ρ
@[simp] def t_Network_init_5 (K : Fg) (ρ : PEnv) : SR := (asgG (tupT 2 (consT (nmT 5) (consT (nmT 6) nilT))) (frzG (callM (m_ends_of_arc K) (vlAg (vG (bind1 (nmE 1) (fldP (He.ga K "Prices") "web"))) (vlAg (vG (nmE 4)) nilAg))))) ρ
@[simp] def t_Network_init_6 (K : Fg) (ρ : PEnv) : SR := (setP 0 [((He.ga K "Network"), "rooms")] (nmE 4) (frzG (fG (bind2 (nmE 1) (nmE 4) (owIx (He.ga K "Prices") (m_Prices_getitem K)))))) ρ
@[simp] def t_Network_init_7 (K : Fg) (ρ : PEnv) : SR := (setP 0 [((He.ga K "Network"), "tips")] (nmE 4) (frzG (fG (bindA (consA (nmE 5) (consA (nmE 6) nilA)) displayT)))) ρ
@[simp] def t_Network_init_8 (K : Fg) (ρ : PEnv) : SR := (ifG (fun ρ => ((andB (bind2b (nmE 6) (bind1 (nmE 0) (fldP (He.ga K "Network") "sources")) (inP true)) (bind2b (nmE 5) (bind1 (nmE 0) (fldP (He.ga K "Network") "sinks")) (inP true))) ρ).at ρ) (seqS (t_Network_init_6 K)
    (t_Network_init_7 K))
    skipS) ρ
@[simp] def t_Network_init_9 (K : Fg) (ρ : PEnv) : SR := (forG (iterI (frzG (callM (m_arcs K) (vlAg (vG (bind1 (nmE 1) (fldP (He.ga K "Prices") "web"))) nilAg))) seqF) (nmT 4)
    (seqS (t_Network_init_5 K)
    (t_Network_init_8 K))) ρ
@[simp] def t_Network_init_10 (K : Fg) (ρ : PEnv) : SR := (setFldG 0 (He.ga K "Network") "numbers" (lendO 0 (dcKy 0 (He.ga K "Network") "rooms" (nmT 4) yesG (vG (nmE 4)) (vG (fun _ => ER.ok (PV.sc (V.int 0)))) [4]))) ρ
def s_Network_init (K : Fg) : PEnv → SR := (seqS (t_Network_init_0 K)
    (seqS (t_Network_init_1 K)
    (seqS (t_Network_init_2 K)
    (seqS (t_Network_init_3 K)
    (seqS (t_Network_init_4 K)
    (seqS (t_Network_init_9 K)
    (t_Network_init_10 K)))))))
def m_Network_init (K : Fg) : List PV → FR := fnM 4 3 [0, 1, 2, 3] (s_Network_init K)
@[simp] def t_Network_free_0 (K : Fg) (ρ : PEnv) : SR := (setG 2 (vG (bind2 (bind1 (nmE 0) (fldP (He.ga K "Network") "rooms")) (nmE 1) ixU))) ρ
@[simp] def t_Network_free_1 (K : Fg) (ρ : PEnv) : SR := (retG (vG (ifE (isnE false (nmE 2)) (fun _ => ER.ok (PV.sc V.non)) (bind2s (nmE 2) (bind2 (bind1 (nmE 0) (fldP (He.ga K "Network") "numbers")) (nmE 1) ixU) subI)))) ρ
def s_Network_free (K : Fg) : PEnv → SR := (seqS (t_Network_free_0 K)
    (t_Network_free_1 K))
def m_Network_free (K : Fg) : List PV → FR := fnM 2 1 [0, 1] (s_Network_free K)
@[simp] def t_Network_steps_from_0 (K : Fg) (ρ : PEnv) : SR := (setG 2 (fG (bindA nilA displayL))) ρ
@[simp] def t_Network_steps_from_1 (K : Fg) (ρ : PEnv) : SR := (asgG (tupT 2 (consT (nmT 4) (consT (nmT 5) nilT))) (vG (bind2 (bind1 (nmE 0) (fldP (He.ga K "Network") "tips")) (nmE 3) ixU))) ρ
@[simp] def t_Network_steps_from_2 (K : Fg) (ρ : PEnv) : SR := (dropG (mutE 2 (consG (frzG (fG (bindA (consA (nmE 3) (consA (fun _ => ER.ok (PV.sc (V.int 1))) (consA (nmE 5) nilA))) displayT))) nilG) appA)) ρ
@[simp] def t_Network_steps_from_3 (K : Fg) (ρ : PEnv) : SR := (ifG (andG (fun ρ => ((bind2b (nmE 4) (nmE 1) eqP) ρ).at ρ) (bindG2b (frzG (callM (m_Network_free K) (recvM (He.ga K "Network") "free" (vG (nmE 0)) (vlAg (vG (nmE 3)) nilAg)))) (vG (fun _ => ER.ok (PV.sc (V.int 0)))) neP)) (t_Network_steps_from_2 K)
    skipS) ρ
@[simp] def t_Network_steps_from_4 (K : Fg) (ρ : PEnv) : SR := (dropG (mutE 2 (consG (frzG (fG (bindA (consA (nmE 3) (consA (bind1s (fun _ => ER.ok (PV.sc (V.int 1))) negV) (consA (nmE 4) nilA))) displayT))) nilG) appA)) ρ
@[simp] def t_Network_steps_from_5 (K : Fg) (ρ : PEnv) : SR := (ifG (fun ρ => ((andB (bind2b (nmE 5) (nmE 1) eqP) (bind2b (bind2 (bind1 (nmE 0) (fldP (He.ga K "Network") "numbers")) (nmE 3) ixU) (fun _ => ER.ok (PV.sc (V.int 0))) gtI)) ρ).at ρ) (t_Network_steps_from_4 K)
    skipS) ρ
@[simp] def t_Network_steps_from_6 (K : Fg) (ρ : PEnv) : SR := (forKy 0 (He.ga K "Network") "rooms" (nmT 3)
    (seqS (t_Network_steps_from_1 K)
    (seqS (t_Network_steps_from_3 K)
    (t_Network_steps_from_5 K)))) ρ
@[simp] def t_Network_steps_from_7 (K : Fg) (ρ : PEnv) : SR := (retG (mvE 2)) ρ
def s_Network_steps_from (K : Fg) : PEnv → SR := (seqS (t_Network_steps_from_0 K)
    (seqS (t_Network_steps_from_6 K)
    (t_Network_steps_from_7 K)))
def m_Network_steps_from (K : Fg) : List PV → FR := fnM 2 4 [0, 1] (s_Network_steps_from K)
@[simp] def t_Network_met_from_0 (K : Fg) (ρ : PEnv) : SR := (setG 2 (dcG (iterI (vG (nmE 1)) seqF) (nmT 3) yesG (vG (nmE 3)) (vG (fun _ => ER.ok (PV.sc V.non))) [3])) ρ
@[simp] def t_Network_met_from_1 (K : Fg) (ρ : PEnv) : SR := (setG 4 (fG (bindA (consA (nmE 1) nilA) listA))) ρ
@[simp] def t_Network_met_from_2 (K : Fg) (ρ : PEnv) : SR := (setG 5 (vG (fun _ => ER.ok (PV.sc (V.int 0))))) ρ
@[simp] def t_Network_met_from_3 (K : Fg) (ρ : PEnv) : SR := (setP 2 [] (nmE 8) (frzG (fG (bindA (consA (bind2 (nmE 4) (nmE 5) ixP) (consA (nmE 6) (consA (nmE 7) nilA))) displayT)))) ρ
@[simp] def t_Network_met_from_4 (K : Fg) (ρ : PEnv) : SR := (dropG (mutE 4 (consG (vG (nmE 8)) nilG) appA)) ρ
@[simp] def t_Network_met_from_5 (K : Fg) (ρ : PEnv) : SR := (ifG (fun ρ => ((bind2b (nmE 8) (nmE 2) (inU true)) ρ).at ρ) (seqS (t_Network_met_from_3 K)
    (t_Network_met_from_4 K))
    skipS) ρ
@[simp] def t_Network_met_from_6 (K : Fg) (ρ : PEnv) : SR := (forG (iterI (frzG (callM (m_Network_steps_from K) (recvM (He.ga K "Network") "steps_from" (vG (nmE 0)) (vlAg (vG (bind2 (nmE 4) (nmE 5) ixP)) nilAg)))) seqF) (tupT 3 (consT (nmT 6) (consT (nmT 7) (consT (nmT 8) nilT))))
    (t_Network_met_from_5 K)) ρ
@[simp] def t_Network_met_from_7 (K : Fg) (ρ : PEnv) : SR := (setG 5 (bindG2s (vG (nmE 5)) (vG (fun _ => ER.ok (PV.sc (V.int 1)))) addI)) ρ
@[simp] def t_Network_met_from_8 (K : Fg) (ρ : PEnv) : SR := (whileG (fun ρ => ((bind2b (nmE 5) (frzE (bindA (consA (nmE 4) nilA) lenA)) ltI) ρ).at ρ) (seqS (t_Network_met_from_6 K)
    (t_Network_met_from_7 K))) ρ
@[simp] def t_Network_met_from_9 (K : Fg) (ρ : PEnv) : SR := (retG (mvE 2)) ρ
def s_Network_met_from (K : Fg) : PEnv → SR := (seqS (t_Network_met_from_0 K)
    (seqS (t_Network_met_from_1 K)
    (seqS (t_Network_met_from_2 K)
    (seqS (t_Network_met_from_8 K)
    (t_Network_met_from_9 K)))))
def m_Network_met_from (K : Fg) : List PV → FR := fnM 2 7 [0, 1] (s_Network_met_from K)
@[simp] def t_way_back_0 (K : Fg) (ρ : PEnv) : SR := (setG 2 (fG (bindA nilA displayL))) ρ
@[simp] def t_way_back_1 (K : Fg) (ρ : PEnv) : SR := (asgG (tupT 3 (consT (nmT 3) (consT (nmT 4) (consT (nmT 5) nilT)))) (vG (bind2 (nmE 0) (nmE 1) ixU))) ρ
@[simp] def t_way_back_2 (K : Fg) (ρ : PEnv) : SR := (dropG (mutE 2 (consG (frzG (fG (bindA (consA (nmE 4) (consA (nmE 5) nilA)) displayT))) nilG) appA)) ρ
@[simp] def t_way_back_3 (K : Fg) (ρ : PEnv) : SR := (setG 1 (vG (nmE 3))) ρ
@[simp] def t_way_back_4 (K : Fg) (ρ : PEnv) : SR := (whileG (fun ρ => ((isnE true (bind2 (nmE 0) (nmE 1) ixU)) ρ).at ρ) (seqS (t_way_back_1 K)
    (seqS (t_way_back_2 K)
    (t_way_back_3 K)))) ρ
@[simp] def t_way_back_5 (K : Fg) (ρ : PEnv) : SR := (retG (fG (bind1 (nmE 2) revP))) ρ
def s_way_back (K : Fg) : PEnv → SR := (seqS (t_way_back_0 K)
    (seqS (t_way_back_4 K)
    (t_way_back_5 K)))
def m_way_back (K : Fg) : List PV → FR := fnM 2 4 [0] (s_way_back K)
@[simp] def t_Network_path_0 (K : Fg) (ρ : PEnv) : SR := (setG 1 (frzG (callM (m_Network_met_from K) (recvM (He.ga K "Network") "met_from" (vG (nmE 0)) (vlAg (vG (bind1 (nmE 0) (fldP (He.ga K "Network") "sources"))) nilAg))))) ρ
@[simp] def t_Network_path_1 (K : Fg) (ρ : PEnv) : SR := (retG (callM (m_way_back K) (vlAg (vG (nmE 1)) (vlAg (vG (nmE 2)) nilAg)))) ρ
@[simp] def t_Network_path_2 (K : Fg) (ρ : PEnv) : SR := (ifG (fun ρ => ((bind2b (nmE 2) (nmE 1) (inU false)) ρ).at ρ) (t_Network_path_1 K)
    skipS) ρ
@[simp] def t_Network_path_3 (K : Fg) (ρ : PEnv) : SR := (forG (iterI (vG (bind1 (nmE 0) (fldP (He.ga K "Network") "sinks"))) seqF) (nmT 2)
    (t_Network_path_2 K)) ρ
@[simp] def t_Network_path_4 (K : Fg) (ρ : PEnv) : SR := (retG (vG (fun _ => ER.ok (PV.sc V.non)))) ρ
def s_Network_path (K : Fg) : PEnv → SR := (seqS (t_Network_path_0 K)
    (seqS (t_Network_path_3 K)
    (t_Network_path_4 K)))
def m_Network_path (K : Fg) : List PV → FR := fnM 1 2 [0] (s_Network_path K)
@[simp] def t_Network_least_free_0 (K : Fg) (ρ : PEnv) : SR := (setG 2 (vG (fun _ => ER.ok (PV.sc V.non)))) ρ
@[simp] def t_Network_least_free_1 (K : Fg) (ρ : PEnv) : SR := (setG 5 (frzG (ifZ (fun ρ => ((bind2b (nmE 4) (fun _ => ER.ok (PV.sc (V.int 1))) eqP) ρ).at ρ) (callM (m_Network_free K) (recvM (He.ga K "Network") "free" (vG (nmE 0)) (vlAg (vG (nmE 3)) nilAg))) (vG (bind2 (bind1 (nmE 0) (fldP (He.ga K "Network") "numbers")) (nmE 3) ixU))))) ρ
@[simp] def t_Network_least_free_2 (K : Fg) (ρ : PEnv) : SR := (setG 2 (vG (nmE 5))) ρ
@[simp] def t_Network_least_free_3 (K : Fg) (ρ : PEnv) : SR := (ifG (fun ρ => ((orB (isnE false (nmE 2)) (andB (isnE true (nmE 5)) (bind2b (nmE 5) (nmE 2) ltI))) ρ).at ρ) (t_Network_least_free_2 K)
    skipS) ρ
@[simp] def t_Network_least_free_4 (K : Fg) (ρ : PEnv) : SR := (forG (iterI (vG (nmE 1)) seqF) (tupT 2 (consT (nmT 3) (consT (nmT 4) nilT)))
    (seqS (t_Network_least_free_1 K)
    (t_Network_least_free_3 K))) ρ
@[simp] def t_Network_least_free_5 (K : Fg) (ρ : PEnv) : SR := (retG (vG (nmE 2))) ρ
def s_Network_least_free (K : Fg) : PEnv → SR := (seqS (t_Network_least_free_0 K)
    (seqS (t_Network_least_free_4 K)
    (t_Network_least_free_5 K)))
def m_Network_least_free (K : Fg) : List PV → FR := fnM 2 4 [0, 1] (s_Network_least_free K)
@[simp] def t_Network_barred_row_0 (K : Fg) (ρ : PEnv) : SR := (setG 1 (dcG (iterI (vG (bind1 (nmE 0) (fldP (He.ga K "Network") "sources"))) seqF) (nmT 2) yesG (vG (nmE 2)) (vG (fun _ => ER.ok (PV.sc V.non))) [2])) ρ
@[simp] def t_Network_barred_row_1 (K : Fg) (ρ : PEnv) : SR := (setG 3 (fG (bindA (consA (bind1 (nmE 0) (fldP (He.ga K "Network") "sources")) nilA) listA))) ρ
@[simp] def t_Network_barred_row_2 (K : Fg) (ρ : PEnv) : SR := (setG 4 (vG (fun _ => ER.ok (PV.sc (V.int 0))))) ρ
@[simp] def t_Network_barred_row_3 (K : Fg) (ρ : PEnv) : SR := (asgG (tupT 2 (consT (nmT 6) (consT (nmT 7) nilT))) (vG (bind2 (bind1 (nmE 0) (fldP (He.ga K "Network") "tips")) (nmE 5) ixU))) ρ
@[simp] def t_Network_barred_row_4 (K : Fg) (ρ : PEnv) : SR := (setP 1 [] (nmE 7) (frzG (fG (bindA (consA (nmE 6) (consA (nmE 5) (consA (fun _ => ER.ok (PV.sc (V.int 1))) nilA))) displayT)))) ρ
@[simp] def t_Network_barred_row_5 (K : Fg) (ρ : PEnv) : SR := (dropG (mutE 3 (consG (vG (nmE 7)) nilG) appA)) ρ
@[simp] def t_Network_barred_row_6 (K : Fg) (ρ : PEnv) : SR := (ifG (fun ρ => ((andB (bind2b (nmE 6) (bind2 (nmE 3) (nmE 4) ixP) eqP) (andB (isnE false (bind2 (bind1 (nmE 0) (fldP (He.ga K "Network") "rooms")) (nmE 5) ixU)) (bind2b (nmE 7) (nmE 1) (inU true)))) ρ).at ρ) (seqS (t_Network_barred_row_4 K)
    (t_Network_barred_row_5 K))
    skipS) ρ
@[simp] def t_Network_barred_row_7 (K : Fg) (ρ : PEnv) : SR := (forKy 0 (He.ga K "Network") "rooms" (nmT 5)
    (seqS (t_Network_barred_row_3 K)
    (t_Network_barred_row_6 K))) ρ
@[simp] def t_Network_barred_row_8 (K : Fg) (ρ : PEnv) : SR := (setG 4 (bindG2s (vG (nmE 4)) (vG (fun _ => ER.ok (PV.sc (V.int 1)))) addI)) ρ
@[simp] def t_Network_barred_row_9 (K : Fg) (ρ : PEnv) : SR := (whileG (fun ρ => ((bind2b (nmE 4) (frzE (bindA (consA (nmE 3) nilA) lenA)) ltI) ρ).at ρ) (seqS (t_Network_barred_row_7 K)
    (t_Network_barred_row_8 K))) ρ
@[simp] def t_Network_barred_row_10 (K : Fg) (ρ : PEnv) : SR := (retG (bindGA (consG (frzG (compG (iterI (frzG (callM (m_way_back K) (plAg 1 (vlAg (vG (nmE 8)) nilAg)))) seqF) (tupT 2 (consT (nmT 5) (consT (nmT 9) nilT))) yesG (vG (nmE 5)) [5, 9])) nilG) tupA)) ρ
@[simp] def t_Network_barred_row_11 (K : Fg) (ρ : PEnv) : SR := (ifG (fun ρ => ((bind2b (nmE 8) (nmE 1) (inU false)) ρ).at ρ) (t_Network_barred_row_10 K)
    skipS) ρ
@[simp] def t_Network_barred_row_12 (K : Fg) (ρ : PEnv) : SR := (forG (iterI (vG (bind1 (nmE 0) (fldP (He.ga K "Network") "sinks"))) seqF) (nmT 8)
    (t_Network_barred_row_11 K)) ρ
@[simp] def t_Network_barred_row_13 (K : Fg) (ρ : PEnv) : SR := (retG (vG (fun _ => ER.ok (PV.sc V.non)))) ρ
def s_Network_barred_row (K : Fg) : PEnv → SR := (seqS (t_Network_barred_row_0 K)
    (seqS (t_Network_barred_row_1 K)
    (seqS (t_Network_barred_row_2 K)
    (seqS (t_Network_barred_row_9 K)
    (seqS (t_Network_barred_row_12 K)
    (t_Network_barred_row_13 K))))))
def m_Network_barred_row (K : Fg) : List PV → FR := fnM 1 9 [0] (s_Network_barred_row K)
@[simp] def t_Network_fill_0 (K : Fg) (ρ : PEnv) : SR := (setG 1 (frzG (lendO 0 (callM (m_Network_barred_row K) (recvM (He.ga K "Network") "barred_row" (vG (nmE 0)) nilAg))))) ρ
@[simp] def t_Network_fill_1 (K : Fg) (ρ : PEnv) : SR := (retG (vG (nmE 1))) ρ
@[simp] def t_Network_fill_2 (K : Fg) (ρ : PEnv) : SR := (ifG (fun ρ => ((isnE true (nmE 1)) ρ).at ρ) (t_Network_fill_1 K)
    skipS) ρ
@[simp] def t_Network_fill_3 (K : Fg) (ρ : PEnv) : SR := (setG 2 (frzG (lendO 0 (callM (m_Network_path K) (recvM (He.ga K "Network") "path" (vG (nmE 0)) nilAg))))) ρ
@[simp] def t_Network_fill_4 (K : Fg) (ρ : PEnv) : SR := (setG 3 (frzG (lendO 0 (callM (m_Network_least_free K) (recvM (He.ga K "Network") "least_free" (vG (nmE 0)) (vlAg (vG (nmE 2)) nilAg)))))) ρ
@[simp] def t_Network_fill_5 (K : Fg) (ρ : PEnv) : SR := (augP 0 [((He.ga K "Network"), "numbers")] (nmE 4) (bind2s (nmE 5) (nmE 3) mulI) (fun i j => i + j)) ρ
@[simp] def t_Network_fill_6 (K : Fg) (ρ : PEnv) : SR := (forG (iterI (vG (nmE 2)) seqF) (tupT 2 (consT (nmT 4) (consT (nmT 5) nilT)))
    (t_Network_fill_5 K)) ρ
@[simp] def t_Network_fill_7 (K : Fg) (ρ : PEnv) : SR := (setG 2 (frzG (lendO 0 (callM (m_Network_path K) (recvM (He.ga K "Network") "path" (vG (nmE 0)) nilAg))))) ρ
@[simp] def t_Network_fill_8 (K : Fg) (ρ : PEnv) : SR := (whileG (fun ρ => ((isnE true (nmE 2)) ρ).at ρ) (seqS (t_Network_fill_4 K)
    (seqS (t_Network_fill_6 K)
    (t_Network_fill_7 K)))) ρ
@[simp] def t_Network_fill_9 (K : Fg) (ρ : PEnv) : SR := (retG (vG (fun _ => ER.ok (PV.sc V.non)))) ρ
def s_Network_fill (K : Fg) : PEnv → SR := (seqS (t_Network_fill_0 K)
    (seqS (t_Network_fill_2 K)
    (seqS (t_Network_fill_3 K)
    (seqS (t_Network_fill_8 K)
    (t_Network_fill_9 K)))))
def m_Network_fill (K : Fg) : List PV → FR := fnM 1 5 [0] (s_Network_fill K)
@[simp] def t_Network_value_0 (K : Fg) (ρ : PEnv) : SR := (retG (bindGA (consG (frzG (compKy 0 (He.ga K "Network") "rooms" (nmT 1) (fun ρ => ((bind2b (bind2 (bind2 (bind1 (nmE 0) (fldP (He.ga K "Network") "tips")) (nmE 1) ixU) (fun _ => ER.ok (PV.sc (V.int 0))) ixP) (bind1 (nmE 0) (fldP (He.ga K "Network") "sources")) (inP false)) ρ).at ρ) (vG (bind2 (bind1 (nmE 0) (fldP (He.ga K "Network") "numbers")) (nmE 1) ixU)) [1])) nilG) sumA)) ρ
def s_Network_value (K : Fg) : PEnv → SR := (t_Network_value_0 K)
def m_Network_value (K : Fg) : List PV → FR := fnM 1 1 [0] (s_Network_value K)
@[simp] def t_Network_least_places_0 (K : Fg) (ρ : PEnv) : SR := (retG (compG (iterI (callM (m_Network_met_from K) (recvM (He.ga K "Network") "met_from" (vG (nmE 0)) (vlAg (vG (bind1 (nmE 0) (fldP (He.ga K "Network") "sources"))) nilAg))) keyO) (nmT 1) (fun ρ => ((bind2b (nmE 1) (fun _ => ER.ok (PV.sc (V.int (-1)))) neP) ρ).at ρ) (vG (nmE 1)) [1])) ρ
def s_Network_least_places (K : Fg) : PEnv → SR := (t_Network_least_places_0 K)
def m_Network_least_places (K : Fg) : List PV → FR := fnM 1 1 [0] (s_Network_least_places K)
end
end SP
section
set_option maxHeartbeats 0
noncomputable section
namespace TP
open PySem PySem.Spec PyProof.Rows L2 RL SP TL
end TP
end
end
namespace PW
open PySem PySem.Spec PyProof.Rows L2 RL TL TP
abbrev Arc := Int × String
abbrev Met := List (Int × Option (Int × Arc × Int))
abbrev keysM (m : Met) : List Int := m.map (·.1)
abbrev StepR := Int → Arc → Int → Int → Prop
inductive Mt (St : StepR) (S : List Int) : Met → Prop
  | src {S' : List Int} : S'.Nodup → (∀ v, v ∈ S' ↔ v ∈ S) → Mt St S (S'.map fun s => (s, none))
  | step {m : Met} {b v t : Int} {a : Arc} : Mt St S m → b ∈ keysM m → v ∉ keysM m → St b a t v → Mt St S (m ++ [(v, some (b, a, t))])
inductive Rc (St : StepR) (S : List Int) : Int → Prop
  | src {s : Int} : s ∈ S → Rc St S s
  | step {b v t : Int} {a : Arc} : Rc St S b → St b a t v → Rc St S v
/-- a way, told from its end -/
inductive Pa (St : StepR) (S : List Int) : Int → List (Arc × Int) → Prop
  | src {s : Int} : s ∈ S → Pa St S s []
  | step {b v t : Int} {a : Arc} {ts : List (Arc × Int)} : Pa St S b ts → St b a t v → Pa St S v ((a, t) :: ts)
section
variable {St : StepR} {S : List Int} {m : Met}
theorem Mt.nd (h : Mt St S m) : (keysM m).Nodup := by
  induction h with
  | src nd _ => simpa [keysM, Function.comp_def] using nd
  | step h hb hv st ih =>
    simp only [keysM, List.map_append, List.map_cons, List.map_nil];refine List.nodup_append.mpr ⟨ih, by simp, ?_⟩
    intro a ha b hb e;rw [List.mem_singleton.mp hb] at e
    exact hv (e ▸ ha)
theorem Mt.sub (h : Mt St S m) : ∀ s ∈ S, s ∈ keysM m := by
  induction h with
  | src _ hS => intro s hs; simp [keysM, (hS s).mpr hs]
  | step h hb hv st ih => intro s hs; simp only [keysM, List.map_append, List.mem_append]; exact .inl (ih s hs)
theorem Mt.all (h : Mt St S m) (hc : ∀ b ∈ keysM m, ∀ a t v, St b a t v → v ∈ keysM m) {v : Int} (r : Rc St S v) : v ∈ keysM m := by
  induction r with
  | src hs => exact h.sub _ hs
  | step _ st ih => exact hc _ ih _ _ _ st
def WBk (m : Met) : Int → List (Arc × Int) → Prop
  | v, [] => getD v m = some none
  | v, x :: ts => ∃ b, getD v m = some (some (b, x.1, x.2)) ∧ WBk m b ts
theorem getD_app {α : Type} {k : Int} {m : List (Int × α)} {x : Int × α} {v : α} (h : getD k m = some v) : getD k (m ++ [x]) = some v := by
  unfold getD at *
  rw [List.find?_append];cases e : m.find? fun y => decide (y.1 = k) with
  | none => rw [e] at h; cases h
  | some y => rw [e] at h; simpa using h
theorem getD_new {α : Type} {k : Int} {m : List (Int × α)} {v : α} (h : k ∉ m.map (·.1)) : getD k (m ++ [(k, v)]) = some v := by
  unfold getD;rw [List.find?_append]
  have : m.find? (fun y => decide (y.1 = k)) = none := by
    rw [List.find?_eq_none];intro y hy
    simp only [decide_eq_true_eq];exact fun e => h (List.mem_map.mpr ⟨y, hy, e⟩)
  rw [this];simp
theorem WBk.app {x : Int × Option (Int × Arc × Int)} : ∀ {ts : List (Arc × Int)} {v : Int}, WBk m v ts → WBk (m ++ [x]) v ts
  | [], v, h => getD_app (α := Option (Int × Arc × Int)) h
  | y :: ts, v, h => by
    obtain ⟨b, h1, h2⟩ := h;exact ⟨b, getD_app (α := Option (Int × Arc × Int)) h1, WBk.app h2⟩
theorem getD_src : ∀ {S : List Int} {v : Int}, v ∈ S → getD v (S.map fun s => (s, (none : Option (Int × Arc × Int)))) = some none
  | [], v, h => by cases h
  | s :: S, v, h => by
    have ih := @getD_src S v;unfold getD at *;rw [List.map_cons, List.find?_cons];by_cases e : s = v
    · simp [e]
    · have : decide ((s, (none : Option (Int × Arc × Int))).1 = v) = false := decide_eq_false e
      rw [this];rcases List.mem_cons.mp h with rfl | h
      · exact absurd rfl e
      · exact ih h
theorem Mt.way {en : Arc → Int × Int} (he : ∀ b a t v, St b a t v → en a = (b, v) ∨ en a = (v, b)) (h : Mt St S m) : ∀ v ∈ keysM m, ∃ ts, WBk m v ts ∧ Pa St S v ts ∧ ts.length ≤ m.length ∧ (ts.map (·.1)).Nodup ∧ ∀ x ∈ ts, (en x.1).1 ∈ keysM m ∧ (en x.1).2 ∈ keysM m := by
  induction h with
  | src _ hS =>
    intro v hv;have hv := (by simpa [keysM] using hv : v ∈ _)
    exact ⟨[], getD_src hv, .src ((hS v).mp hv), by simp, by simp, by simp⟩
  | @step m b v t a h hb hv st ih =>
    intro w hw;simp only [keysM, List.map_append, List.map_cons, List.map_nil, List.mem_append, List.mem_singleton] at hw ⊢
    rcases hw with hw | rfl
    · obtain ⟨ts, h1, h2, h3, h4, h5⟩ := ih w hw;exact ⟨ts, h1.app, h2, by simp; omega, h4, fun x hx => ⟨.inl (h5 x hx).1, .inl (h5 x hx).2⟩⟩
    · obtain ⟨ts, h1, h2, h3, h4, h5⟩ := ih b hb;have ea := he _ _ _ _ st;refine ⟨(a, t) :: ts, ⟨b, getD_new hv, h1.app⟩, .step h2 st, by simp; omega, ?_, ?_⟩
      · rw [List.map_cons];refine List.nodup_cons.mpr ⟨fun z => ?_, h4⟩
        obtain ⟨x, hx, e⟩ := List.mem_map.mp z;have := h5 x hx;rw [show x.1 = a from e] at this
        rcases ea with q | q <;> rw [q] at this
        · exact hv this.2
        · exact hv this.1
      · intro x hx;rcases List.mem_cons.mp hx with rfl | hx
        · rcases ea with q | q <;> rw [q]
          · exact ⟨.inl hb, .inr rfl⟩
          · exact ⟨.inr rfl, .inl hb⟩
        · exact ⟨.inl (h5 x hx).1, .inl (h5 x hx).2⟩
end
def bal (A : List Arc) (en : Arc → Int × Int) (f : Arc → Int) (χ : Int → Int) : Int := (A.map fun a => f a * (χ (en a).1 - χ (en a).2)).sum
section
variable {A : List Arc} {en : Arc → Int × Int} {f : Arc → Int} {rm : Arc → Option Int} {S T : List Int}
theorem bal_sub (χ ψ : Int → Int) : bal A en f (fun v => χ v - ψ v) = bal A en f χ - bal A en f ψ := by
  unfold bal;induction A with
  | nil => rfl
  | cons y A ih =>
    simp only [List.map_cons, List.sum_cons, ih];have : f y * (χ (en y).1 - ψ (en y).1 - (χ (en y).2 - ψ (en y).2)) = f y * (χ (en y).1 - χ (en y).2) - f y * (ψ (en y).1 - ψ (en y).2) := by
      rw [← Int.mul_sub]; congr 1; omega
    rw [this]; omega
def stp (A : List Arc) (rm : Arc → Option Int) (en : Arc → Int × Int) (f : Arc → Int) (p : Int) : List (Arc × Int × Int) :=
  A.flatMap fun a => (if (en a).1 = p ∧ ¬ (rm a).map (fun r => r - f a) = some 0 then [(a, 1, (en a).2)] else []) ++ (if (en a).2 = p ∧ 0 < f a then [(a, -1, (en a).1)] else [])
def StR (A : List Arc) (rm : Arc → Option Int) (en : Arc → Int × Int) (f : Arc → Int) : StepR := fun b a t v => (a, t, v) ∈ stp A rm en f b
theorem str_iff {b t v : Int} {a : Arc} : StR A rm en f b a t v ↔ a ∈ A ∧ ((t = 1 ∧ en a = (b, v) ∧ ¬ (rm a).map (fun r => r - f a) = some 0) ∨ (t = -1 ∧ en a = (v, b) ∧ 0 < f a)) := by
  unfold StR stp;rw [List.mem_flatMap]
  constructor
  · rintro ⟨x, hx, h⟩;rcases List.mem_append.mp h with h | h
    · split at h
      · rename_i c
        have := List.mem_singleton.mp h
        obtain ⟨rfl, rfl, rfl⟩ : a = x ∧ t = 1 ∧ v = (en x).2 := by simpa using this
        exact ⟨hx, .inl ⟨rfl, Prod.ext c.1 rfl, c.2⟩⟩
      · cases h
    · split at h
      · rename_i c
        have := List.mem_singleton.mp h
        obtain ⟨rfl, rfl, rfl⟩ : a = x ∧ t = -1 ∧ v = (en x).1 := by simpa using this
        exact ⟨hx, .inr ⟨rfl, Prod.ext rfl c.1, c.2⟩⟩
      · cases h
  · rintro ⟨hx, ⟨rfl, e, c⟩ | ⟨rfl, e, c⟩⟩
    · refine ⟨a, hx, List.mem_append.mpr (.inl ?_)⟩;rw [if_pos ⟨by rw [e], c⟩, e]; simp
    · refine ⟨a, hx, List.mem_append.mpr (.inr ?_)⟩;rw [if_pos ⟨by rw [e], c⟩, e]; simp
structure Fl (A : List Arc) (rm : Arc → Option Int) (en : Arc → Int × Int) (S T : List Int) (f : Arc → Int) : Prop where
  pos : ∀ a ∈ A, 0 ≤ f a
  cap : ∀ a ∈ A, ∀ r, rm a = some r → f a ≤ r
  cons : ∀ χ : Int → Int, (∀ s ∈ S, χ s = 0) → (∀ t ∈ T, χ t = 0) → bal A en f χ = 0
def vlu (A : List Arc) (en : Arc → Int × Int) (S : List Int) (f : Arc → Int) : Int := bal A en f fun v => if v ∈ S then 1 else 0
def chi (L : Int → Bool) : Int → Int := fun v => if L v = true then 1 else 0
def out (en : Arc → Int × Int) (L : Int → Bool) (a : Arc) : Bool := L (en a).1 && !L (en a).2
def capO (A : List Arc) (rm : Arc → Option Int) (en : Arc → Int × Int) (L : Int → Bool) : Option Int := sumO (A.map fun a => if out en L a = true then rm a else some 0)
theorem Fl.chi (h : Fl A rm en S T f) {L : Int → Bool} (hST : ∀ t ∈ T, t ∉ S) (hS : ∀ s ∈ S, L s = true) (hT : ∀ t ∈ T, L t = false) : bal A en f (chi L) = vlu A en S f := by
  have := h.cons (fun v => PW.chi L v - if v ∈ S then 1 else 0) (fun s hs => by simp [PW.chi, hS s hs, hs]) (fun t ht => by simp [PW.chi, hT t ht, hST t ht])
  rw [bal_sub] at this;show _ = bal A en f _
  omega
theorem chi_t {L : Int → Bool} {v : Int} (h : L v = true) : chi L v = 1 := if_pos h
theorem chi_f {L : Int → Bool} {v : Int} (h : L v = false) : chi L v = 0 := if_neg (by rw [h]; simp)
theorem sumO_cons_some {x : Option Int} {xs : List (Option Int)} {c : Int} (h : sumO (x :: xs) = some c) : ∃ p q, x = some p ∧ sumO xs = some q ∧ c = p + q := by
  have h : addO x (sumO xs) = some c := h
  cases x with
  | none => simp at h
  | some p =>
    cases e : sumO xs with
    | none => rw [e] at h; simp at h
    | some q => rw [e] at h; exact ⟨p, q, rfl, rfl, by simpa using h.symm⟩
theorem term_le {rm' : Option Int} {L : Int → Bool} {a : Arc} {p : Int} (h0 : 0 ≤ f a) (h1 : ∀ r, rm' = some r → f a ≤ r) (h : (if out en L a = true then rm' else some 0) = some p) : f a * (chi L (en a).1 - chi L (en a).2) ≤ p := by
  unfold out at h;cases x : L (en a).1 <;> cases y : L (en a).2 <;> rw [x, y] at h <;> simp only [Bool.not_true, Bool.not_false, Bool.and_true, Bool.and_false, Bool.false_and, Bool.true_and, if_true, Bool.false_eq_true, if_false, reduceIte] at h
  · rw [chi_f x, chi_f y]; cases h; simp
  · rw [chi_f x, chi_t y]; cases h; omega
  · rw [chi_t x, chi_f y]; have := h1 p h; omega
  · rw [chi_t x, chi_t y]; cases h; simp
theorem bal_le {L : Int → Bool} {c : Int} (h0 : ∀ a ∈ A, 0 ≤ f a) (h1 : ∀ a ∈ A, ∀ r, rm a = some r → f a ≤ r) (h : capO A rm en L = some c) : bal A en f (chi L) ≤ c := by
  unfold bal capO at *
  induction A generalizing c with
  | nil => have h : some (0 : Int) = some c := h; cases h; exact Int.le_refl _
  | cons a A ih =>
    rw [List.map_cons] at h;obtain ⟨p, q, e1, e2, rfl⟩ := sumO_cons_some h
    rw [List.map_cons, List.sum_cons];have := ih (fun a ha => h0 a (by simp [ha])) (fun a ha => h1 a (by simp [ha])) e2
    have := term_le (h0 a (by simp)) (h1 a (by simp)) e1
    omega
theorem capO_none {L : Int → Bool} {a : Arc} (ha : a ∈ A) (ho : out en L a = true) (hr : rm a = none) : capO A rm en L = none := by
  cases e : capO A rm en L with
  | none => rfl
  | some c =>
    exfalso
    unfold capO at e;induction A generalizing c with
    | nil => cases ha
    | cons x A ih =>
      rw [List.map_cons] at e;obtain ⟨p, q, e1, e2, _⟩ := sumO_cons_some e
      rcases List.mem_cons.mp ha with rfl | ha
      · rw [if_pos ho, hr] at e1; cases e1
      · exact ih ha q e2
end
end PW
namespace PW
open PySem PySem.Spec PyProof.Rows L2 RL TL TP
/-- without what stands there twice -/
def dedL : List Int → List Int → List Int
  | acc, [] => acc
  | acc, s :: S => if s ∈ acc then dedL acc S else dedL (acc ++ [s]) S
theorem ded_nd : ∀ {S acc : List Int}, acc.Nodup → (dedL acc S).Nodup
  | [], acc, h => h
  | s :: S, acc, h => by
    unfold dedL;split
    · exact ded_nd h
    · rename_i q
      exact ded_nd (List.nodup_append.mpr ⟨h, by simp, fun a ha b hb e => q (by rw [List.mem_singleton.mp hb] at e; exact e ▸ ha)⟩)
theorem ded_mem {v : Int} : ∀ {S acc : List Int}, v ∈ dedL acc S ↔ v ∈ acc ∨ v ∈ S
  | [], acc => by simp [dedL]
  | s :: S, acc => by
    unfold dedL;split
    · rename_i q
      rw [ded_mem (S := S)];constructor
      · rintro (h | h)
        · exact .inl h
        · exact .inr (by simp [h])
      · rintro (h | h)
        · exact .inl h
        · rcases List.mem_cons.mp h with rfl | h
          · exact .inl q
          · exact .inr h
    · rw [ded_mem (S := S)];simp only [List.mem_append, List.mem_singleton, List.mem_cons, or_assoc, List.not_mem_nil, false_or]
theorem keys_src (S : List Int) : keysM (S.map fun s => (s, (none : Option (Int × Arc × Int)))) = S := by simp [keysM, Function.comp_def]
section
variable {A : List Arc} {rm : Arc → Option Int} {en : Arc → Int × Int} {S T : List Int} {c : Nat} {f : Arc → Int}
structure BI (St : StepR) (S : List Int) (c : Nat) (m : Met) (q : List Int) : Prop where
  mt : Mt St S m
  q : ∃ S' r, keysM m = S' ++ r ∧ q = S ++ r ∧ ∀ v, v ∈ S' ↔ v ∈ S
  rg : ∀ v ∈ keysM m, -1 ≤ v ∧ v < (c : Int)
theorem BI.len {St : StepR} {m : Met} {q : List Int} (h : BI St S c m q) : m.length ≤ c + 1 := by
  have nd := h.mt.nd;have := nodup_len (xs := (keysM m).map (· + 1)) (n := c + 1) ?_ ?_
  · simpa using this
  · rw [List.Nodup, List.pairwise_map];exact nd.imp fun h e => h (by omega)
  · intro x hx;obtain ⟨v, hv, rfl⟩ := List.mem_map.mp hx
    have := h.rg v hv
    push_cast; omega
theorem BI.start {St : StepR} (sr : ∀ s ∈ S, -1 ≤ s ∧ s < (c : Int)) : BI St S c ((dedL [] S).map fun s => (s, none)) S :=
  ⟨.src (ded_nd (by simp)) fun v => by rw [ded_mem]; simp, ⟨dedL [] S, [], by rw [keys_src]; simp, by simp, fun v => by rw [ded_mem]; simp⟩, fun v hv => by
    rw [keys_src, ded_mem] at hv;exact sr v (by simpa using hv)⟩
end
end PW
namespace PW
open PySem PySem.Spec PyProof.Rows L2 RL TL TP
end PW
namespace PW
open PySem PySem.Spec PyProof.Rows L2 RL TL TP
end PW
namespace PW
open PySem PySem.Spec PyProof.Rows L2 RL TL TP
def enW (w : TWeb) (a : Arc) : Int × Int := if a.2 = "save" then ((gateAt w a.1).2, (gateAt w a.1).1) else ((gateAt w a.1).1, (gateAt w a.1).2)
def rmW (pr : TPrices) (a : Arc) : Option Int := if a.2 = "save" then prAt pr.saves a.1 else prAt pr.backs a.1
def arcsN (w : TWeb) : Nat → List Arc
  | 0 => []
  | n + 1 => arcsN w n ++ if (gateAt w n).1 = (gateAt w n).2 then [] else [((n : Int), "back"), ((n : Int), "save")]
abbrev arcsW (w : TWeb) : List Arc := arcsN w (gatesL w).length
theorem mem_arcsN {w : TWeb} {a : Arc} : ∀ {n : Nat}, a ∈ arcsN w n ↔ (0 ≤ a.1 ∧ a.1 < (n : Int)) ∧ (a.2 = "back" ∨ a.2 = "save") ∧ ¬ (gateAt w a.1).1 = (gateAt w a.1).2
  | 0 => by
    simp only [arcsN, List.not_mem_nil, false_iff];rintro ⟨h, _⟩; omega
  | n + 1 => by
    unfold arcsN;rw [List.mem_append, mem_arcsN (n := n)]
    constructor
    · rintro (⟨h1, h2⟩ | h)
      · exact ⟨by omega, h2⟩
      · split at h
        · cases h
        · rename_i q
          simp only [List.mem_cons, List.not_mem_nil, or_false] at h;rcases h with rfl | rfl <;> exact ⟨by simp only; omega, by simp, q⟩
    · rintro ⟨h1, h2, h3⟩;by_cases e : a.1 = (n : Int)
      · refine .inr ?_;rw [e] at h3;rw [if_neg h3];rcases h2 with h2 | h2
        · simp [Prod.ext_iff, e, h2]
        · simp [Prod.ext_iff, e, h2]
      · exact .inl ⟨by omega, h2, h3⟩
theorem arcsN_nd (w : TWeb) : ∀ n, (arcsN w n).Nodup
  | 0 => by simp [arcsN]
  | n + 1 => by
    unfold arcsN;refine List.nodup_append.mpr ⟨arcsN_nd w n, by split <;> simp, fun a ha b hb e => ?_⟩
    subst e;have := (mem_arcsN.mp ha).1.2
    split at hb
    · cases hb
    · simp only [List.mem_cons, List.not_mem_nil, or_false] at hb;rcases hb with rfl | rfl <;> simp only at this <;> omega
/-- the arcs of a network -/
def netA (w : TWeb) (S T : List Int) : List Arc := (arcsW w).filter fun a => decide ((enW w a).2 ∉ S ∧ (enW w a).1 ∉ T)
section
variable {w : TWeb} {c : Nat} {pr : TPrices} {S K T : List Int}
theorem gate_rg (hw : WebOk w c) {g : Int} (h0 : 0 ≤ g) (h1 : g < (gatesL w).length) : (-1 ≤ (gateAt w g).1 ∧ (gateAt w g).1 < (c : Int)) ∧ -1 ≤ (gateAt w g).2 ∧ (gateAt w g).2 < (c : Int) := by
  have hm : gateAt w g ∈ gatesL w := by rw [← gateAt_e h0 h1]; exact List.getElem_mem _
  unfold gatesL at hm;have en := hw.en
  simp only [List.mem_append, List.mem_singleton, List.mem_map] at hm;rcases hm with (hm | hm) | ⟨x, hx, hm⟩
  · have := hw.er _ hm; omega
  · rw [hm]; simp only; omega
  · have := hw.xr x hx
    rw [← hm]; simp only; omega
theorem mem_netA {a : Arc} : a ∈ netA w S T ↔ a ∈ arcsW w ∧ (enW w a).2 ∉ S ∧ (enW w a).1 ∉ T := by
  unfold netA; rw [List.mem_filter, decide_eq_true_eq]
/-- what crosses the rim of a lot is what it costs -/
theorem sumO_filter {α : Type} {p : α → Bool} {g : α → Option Int} : ∀ {l : List α}, (∀ x ∈ l, p x = false → g x = some 0) → sumO ((l.filter p).map g) = sumO (l.map g)
  | [], _ => rfl
  | x :: l, h => by
    have ih := sumO_filter (p := p) (g := g) (l := l) fun y hy => h y (by simp [hy])
    rw [List.filter_cons];cases e : p x with
    | true =>
      rw [if_pos rfl, List.map_cons, List.map_cons];show addO _ (sumO _) = addO _ (sumO _)
      rw [ih]
    | false =>
      rw [if_neg (by simp), ih, List.map_cons, h x (by simp) e]
      show _ = addO (some 0) (sumO _)
      rw [addO_z]
theorem sumO_arcs (L : List Int) : ∀ n : Nat, sumO ((arcsN w n).map fun a => if out (enW w) (fun v => decide (v ∈ L)) a = true then rmW pr a else some 0) = sumO ((rngL 0 n).map (mPrice w pr.saves pr.backs L))
  | 0 => rfl
  | n + 1 => by
    rw [show rngL 0 (n + 1) = rngL 0 n ++ [(n : Int)] from by unfold rngL; rw [List.range_succ]; simp]
    unfold arcsN;rw [List.map_append, List.map_append, sumO_append, sumO_append, sumO_arcs L n]
    congr 1
    have m1 : sumO ([(n : Int)].map (mPrice w pr.saves pr.backs L)) = mPrice w pr.saves pr.backs L n := by
      show addO _ (some 0) = _
      rw [addO_z']
    rw [m1];unfold mPrice isSave isBack
    by_cases q : (gateAt w n).1 = (gateAt w n).2
    · rw [if_pos q, if_neg (by rw [q]; simp), if_neg (by rw [q]; simp)]; rfl
    · rw [if_neg q];show addO (if out (enW w) (fun v => decide (v ∈ L)) ((n : Int), "back") = true then rmW pr ((n : Int), "back") else some 0) (addO (if out (enW w) (fun v => decide (v ∈ L)) ((n : Int), "save") = true then rmW pr ((n : Int), "save") else some 0) (some 0)) = _
      rw [addO_z'];have e1 : enW w ((n : Int), "back") = gateAt w n := by unfold enW; rw [if_neg (show ¬ "back" = "save" by decide)]
      have e2 : enW w ((n : Int), "save") = ((gateAt w n).2, (gateAt w n).1) := by unfold enW; rw [if_pos rfl]
      have e3 : rmW pr ((n : Int), "back") = prAt pr.backs n := by unfold rmW; rw [if_neg (show ¬ "back" = "save" by decide)]
      have e4 : rmW pr ((n : Int), "save") = prAt pr.saves n := by unfold rmW; rw [if_pos rfl]
      unfold out;rw [e1, e2, e3, e4]
      by_cases x : (gateAt w n).1 ∈ L <;> by_cases y : (gateAt w n).2 ∈ L <;> simp [x, y, addO_z, addO_z']
theorem cap_cost {L : List Int} (hS : ∀ s ∈ S, s ∈ L) (hT : ∀ t ∈ T, t ∉ L) : capO (netA w S T) (rmW pr) (enW w) (fun v => decide (v ∈ L)) = costO w pr.saves pr.backs L := by
  unfold capO netA costO;rw [sumO_filter fun a ha q => ?_, sumO_arcs]
  rw [if_neg];unfold out
  have q : ¬ ((enW w a).2 ∉ S ∧ (enW w a).1 ∉ T) := by simpa using q
  intro h;have h : (enW w a).1 ∈ L ∧ (enW w a).2 ∉ L := by simpa using h
  exact q ⟨fun z => h.2 (hS _ z), fun z => hT _ z h.1⟩
end
end PW
namespace SP
noncomputable section
open PySem PySem.Spec PyProof.Rows L2 RL
@[simp] def t_least_u_0 (K : Fg) (ρ : PEnv) : SR := (setG 1 (frzG (makeM (He.ga K "Lot") (m_Lot_init_u K) (vlAg (vG (nmE 1)) nilAg)))) ρ
@[simp] def t_least_u_1 (K : Fg) (ρ : PEnv) : SR := (dropG (callM (m_check_places K) (vlAg (vG (nmE 0)) (vlAg (vG (nmE 1)) nilAg)))) ρ
@[simp] def t_least_u_2 (K : Fg) (ρ : PEnv) : SR := (dropG (callM (m_check_web K) (vlAg (vG (nmE 0)) (vlAg (vG (nmE 2)) nilAg)))) ρ
@[simp] def t_least_u_3 (K : Fg) (ρ : PEnv) : SR := (setG 3 (makeM (He.ga K "Network") (m_Network_init K) (vlAg (vG (nmE 2)) (vlAg (vG (bind1 (nmE 1) (fldP (He.ga K "Lot") "places"))) (vlAg (frzG (fG (bindA nilA displayT))) nilAg))))) ρ
@[simp] def t_least_u_4 (K : Fg) (ρ : PEnv) : SR := (setG 4 (frzG (callM (m_Network_fill K) (recvP (He.ga K "Network") "fill" 3 nilAg)))) ρ
@[simp] def t_least_u_5 (K : Fg) (ρ : PEnv) : SR := (retG (makeM (He.ga K "Least") (m_Least_init K) (vlAg (vG (fun _ => ER.ok (PV.sc V.non))) (vlAg (vG (fun _ => ER.ok (PV.sc V.non))) (vlAg (vG (fun _ => ER.ok (PV.sc V.non))) (vlAg (vG (nmE 4)) nilAg)))))) ρ
@[simp] def t_least_u_6 (K : Fg) (ρ : PEnv) : SR := (ifG (fun ρ => ((isnE true (nmE 4)) ρ).at ρ) (t_least_u_5 K)
    skipS) ρ
@[simp] def t_least_u_7 (K : Fg) (ρ : PEnv) : SR := (setG 5 (frzG (lendO 3 (dcKy 3 (He.ga K "Network") "rooms" (nmT 6) (fun ρ => ((bind2b (bind2 (bind1 (nmE 3) (fldP (He.ga K "Network") "numbers")) (nmE 6) ixU) (fun _ => ER.ok (PV.sc (V.int 0))) gtI) ρ).at ρ) (vG (nmE 6)) (vG (bind2 (bind1 (nmE 3) (fldP (He.ga K "Network") "numbers")) (nmE 6) ixU)) [6])))) ρ
@[simp] def t_least_u_8 (K : Fg) (ρ : PEnv) : SR := (retG (makeM (He.ga K "Least") (m_Least_init K) (vlAg (frzG (lendO 3 (callM (m_Network_value K) (recvM (He.ga K "Network") "value" (vG (nmE 3)) nilAg)))) (vlAg (frzG (makeM (He.ga K "Lot") (m_Lot_init_u K) (vlAg (frzG (lendO 3 (callM (m_Network_least_places K) (recvM (He.ga K "Network") "least_places" (vG (nmE 3)) nilAg)))) nilAg))) (vlAg (vG (nmE 5)) (vlAg (vG (fun _ => ER.ok (PV.sc V.non))) nilAg)))))) ρ
end
end SP
section
set_option maxHeartbeats 0
noncomputable section
namespace TP
open PySem PySem.Spec PyProof.Rows L2 RL SP TL
end TP
end
end
namespace PW
open PySem PySem.Spec PyProof.Rows L2 RL TL TP
/-- a lot that could be told: all the uses, not OUTSIDE -/
def Fit (S L : List Int) : Prop := (∀ u ∈ S, u ∈ L) ∧ -1 ∉ L
structure PrG (pr : TPrices) : Prop where
  s : ∀ p ∈ pr.saves, goodP p
  b : ∀ p ∈ pr.backs, goodP p
end PW
namespace PW
open PySem PySem.Spec PyProof.Rows L2 RL TL TP
/-- the least cost of the lots with all of S -/
def IsLc (w : TWeb) (pr : TPrices) (S : List Int) (o : Option Int) : Prop :=
  (o = none ∧ ∀ L, Fit S L → costO w pr.saves pr.backs L = none) ∨ ∃ v L, o = some v ∧ Fit S L ∧ (∀ x ∈ L, 0 ≤ x ∧ x < w.places) ∧ costO w pr.saves pr.backs L = some v ∧ ∀ L', Fit S L' → ∀ x, costO w pr.saves pr.backs L' = some x → v ≤ x
def leO (a b : Option Int) : Prop := ∀ y, b = some y → ∃ x, a = some x ∧ x ≤ y
section
variable {w : TWeb} {pr pq : TPrices} {S S' U L : List Int} {a b c : Option Int}
theorem Fit.sub (h : Fit S' L) (hs : ∀ x ∈ S, x ∈ S') : Fit S L := ⟨fun u hu => h.1 u (hs u hu), h.2⟩
theorem IsLc.mono (h : IsLc w pr S a) (h' : IsLc w pr S' b) (hs : ∀ x ∈ S, x ∈ S') : leO a b := by
  intro y hy;rcases h' with ⟨rfl, _⟩ | ⟨v, L, rfl, f, _, e, _⟩
  · cases hy
  · cases hy;rcases h with ⟨rfl, q⟩ | ⟨v', L', rfl, f', _, e', m'⟩
    · rw [q L (f.sub hs)] at e; cases e
    · exact ⟨v', rfl, m' L (f.sub hs) _ e⟩
theorem leO_anti (h : leO a b) (h' : leO b a) : a = b := by
  cases a with
  | none =>
    cases b with
    | none => rfl
    | some y => obtain ⟨x, e, _⟩ := h y rfl; cases e
  | some x =>
    obtain ⟨y, rfl, l⟩ := h' x rfl;obtain ⟨x', e, l'⟩ := h y rfl;cases e;congr 1; omega
theorem IsLc.ext (h : IsLc w pr S a) (h' : IsLc w pr S' b) (hs : ∀ x, x ∈ S ↔ x ∈ S') : a = b :=
  leO_anti (h.mono h' fun x hx => (hs x).mp hx) (h'.mono h fun x hx => (hs x).mpr hx)
theorem sumO_pos {α : Type} {f : α → Option Int} : ∀ {l : List α} {v : Int}, (∀ x ∈ l, posP (f x)) → sumO (l.map f) = some v → 0 ≤ v
  | [], v, _, h => by cases h; exact Int.le_refl _
  | x :: l, v, hp, h => by
    obtain ⟨p, q, e1, e2, rfl⟩ := sumO_cons_some h;have := sumO_pos (fun y hy => hp y (by simp [hy])) e2
    have := hp x (by simp) p e1
    omega
theorem mPrice_pos {sv bk : List (Option Int)} (hs : ∀ p ∈ sv, posP p) (hb : ∀ p ∈ bk, posP p) (g : Int) : posP (mPrice w sv bk L g) := by
  unfold mPrice;split
  · exact posP_at hs g
  · split
    · exact posP_at hb g
    · intro v hv; cases hv; exact Int.le_refl _
theorem goodP.pos {p : Option Int} (h : goodP p) : posP p := fun v hv => (h v hv).1
theorem cost_pos (hg : PrG pr) {v : Int} (h : costO w pr.saves pr.backs L = some v) : 0 ≤ v :=
  sumO_pos (fun g _ => mPrice_pos (fun p hp => (hg.s p hp).pos) (fun p hp => (hg.b p hp).pos) g) h
theorem IsLc.pos (hg : PrG pr) (h : IsLc w pr S a) : posP a := by
  intro v hv;rcases h with ⟨rfl, _⟩ | ⟨v', L, rfl, _, _, e, _⟩
  · cases hv
  · cases hv; exact cost_pos hg e
/-- the least cost by the sum of two prices -/
theorem IsLc.sum {pa : TPrices} (h : IsLc w pr S a) (h' : IsLc w pq S b) (hu : IsLc w pa S c) (hc : ∀ L, costO w pa.saves pa.backs L = addO (costO w pr.saves pr.backs L) (costO w pq.saves pq.backs L)) : leO (addO a b) c := by
  intro y hy;rcases hu with ⟨rfl, _⟩ | ⟨v2, L2, rfl, f2, _, e2, _⟩
  · cases hy
  cases hy;rw [hc] at e2
  cases e3 : costO w pr.saves pr.backs L2 with
  | none => rw [e3] at e2; simp at e2
  | some x =>
    cases e4 : costO w pq.saves pq.backs L2 with
    | none => rw [e3, e4] at e2; simp at e2
    | some z =>
      rw [e3, e4] at e2;have e2 : x + z = y := by simpa using e2
      rcases h with ⟨rfl, q⟩ | ⟨v, L, rfl, _, _, _, m⟩
      · rw [q _ f2] at e3; cases e3
      rcases h' with ⟨rfl, q⟩ | ⟨v', L', rfl, _, _, _, m'⟩
      · rw [q _ f2] at e4; cases e4
      have := m _ f2 _ e3
      have := m' _ f2 _ e4
      exact ⟨v + v', by simp, by omega⟩
theorem IsLc.all (h : IsLc w pr S a) (hS : ∀ x, x ∈ S ↔ 0 ≤ x ∧ x < w.places) : a = costO w pr.saves pr.backs S := by
  have fs : Fit S S := ⟨fun _ h => h, fun h => by have := (hS _).mp h; omega⟩
  rcases h with ⟨rfl, q⟩ | ⟨v, L, rfl, f, rg, e, m⟩
  · exact (q _ fs).symm
  · rw [← e];exact costO_ext fun x => ⟨fun hx => (hS x).mpr (rg x hx), fun hx => f.1 x hx⟩
end
end PW
noncomputable section
namespace TL
open PySem PySem.Spec PyProof.Rows L2 RL
end TL
namespace TP
open PySem PySem.Spec PyProof.Rows L2 RL SP TL
end TP
end
namespace SP
noncomputable section
open PySem PySem.Spec PyProof.Rows L2 RL
@[simp] def t_replaced_0 (K : Fg) (ρ : PEnv) : SR := (retG (fG (bindA (starA (frzE (slE (nmE 0) noPo (soPo (nmE 1)))) (consA (nmE 2) (starA (frzE (slE (nmE 0) (soPo (frzE (bind2 (nmE 1) (fun _ => ER.ok (PV.sc (V.int 1))) addU))) noPo)) nilA))) displayT))) ρ
def s_replaced (K : Fg) : PEnv → SR := (t_replaced_0 K)
def m_replaced (K : Fg) : List PV → FR := fnM 3 0 [0, 1, 2] (s_replaced K)
@[simp] def t_Prices_with_price_0 (K : Fg) (ρ : PEnv) : SR := (dropG (callM (m_check_gate K) (vlAg (vG (bind1 (nmE 0) (fldP (He.ga K "Prices") "web"))) (vlAg (vG (nmE 1)) nilAg)))) ρ
@[simp] def t_Prices_with_price_1 (K : Fg) (ρ : PEnv) : SR := (dropG (callM (m_check_word K) (vlAg (vG (nmE 2)) nilAg))) ρ
@[simp] def t_Prices_with_price_2 (K : Fg) (ρ : PEnv) : SR := (raiseG (He.ga K "BadPrice") "gate" (vG (nmE 1))) ρ
@[simp] def t_Prices_with_price_3 (K : Fg) (ρ : PEnv) : SR := (ifG (notG (truG (frzG (callM (m_good_price K) (vlAg (vG (nmE 3)) nilAg))))) (t_Prices_with_price_2 K)
    skipS) ρ
@[simp] def t_Prices_with_price_4 (K : Fg) (ρ : PEnv) : SR := (retG (makeM (He.ga K "Prices") (m_Prices_init K) (vlAg (vG (bind1 (nmE 0) (fldP (He.ga K "Prices") "web"))) (vlAg (frzG (callM (m_replaced K) (vlAg (vG (bind1 (nmE 0) (fldP (He.ga K "Prices") "saves"))) (vlAg (vG (nmE 1)) (vlAg (vG (nmE 3)) nilAg))))) (vlAg (vG (bind1 (nmE 0) (fldP (He.ga K "Prices") "backs"))) nilAg))))) ρ
@[simp] def t_Prices_with_price_5 (K : Fg) (ρ : PEnv) : SR := (ifG (fun ρ => ((bind2b (nmE 2) (fun _ => ER.ok (PV.sc (V.str ("save" : Str)))) eqP) ρ).at ρ) (t_Prices_with_price_4 K)
    skipS) ρ
@[simp] def t_Prices_with_price_6 (K : Fg) (ρ : PEnv) : SR := (retG (makeM (He.ga K "Prices") (m_Prices_init K) (vlAg (vG (bind1 (nmE 0) (fldP (He.ga K "Prices") "web"))) (vlAg (vG (bind1 (nmE 0) (fldP (He.ga K "Prices") "saves"))) (vlAg (frzG (callM (m_replaced K) (vlAg (vG (bind1 (nmE 0) (fldP (He.ga K "Prices") "backs"))) (vlAg (vG (nmE 1)) (vlAg (vG (nmE 3)) nilAg))))) nilAg))))) ρ
def s_Prices_with_price (K : Fg) : PEnv → SR := (seqS (t_Prices_with_price_0 K)
    (seqS (t_Prices_with_price_1 K)
    (seqS (t_Prices_with_price_3 K)
    (seqS (t_Prices_with_price_5 K)
    (t_Prices_with_price_6 K)))))
def m_Prices_with_price (K : Fg) : List PV → FR := fnM 4 0 [0, 1, 2, 3] (s_Prices_with_price K)
@[simp] def t_least_cost_0 (K : Fg) (ρ : PEnv) : SR := (retG (vG (fun _ => ER.ok (PV.sc V.non)))) ρ
@[simp] def t_least_cost_1 (K : Fg) (ρ : PEnv) : SR := (ifG (truG (frzG (bindGA (consG (frzG (compG (iterI (vG (nmE 1)) seqF) (nmT 3) yesG (vG (bind2s (nmE 3) (nmE 2) fun p q => ((inP false) p q).map V.bl)) [3])) nilG) anyA))) (t_least_cost_0 K)
    skipS) ρ
@[simp] def t_least_cost_2 (K : Fg) (ρ : PEnv) : SR := (setG 4 (makeM (He.ga K "Network") (m_Network_init K) (vlAg (vG (nmE 0)) (vlAg (vG (nmE 1)) (vlAg (vG (nmE 2)) nilAg))))) ρ
@[simp] def t_least_cost_3 (K : Fg) (ρ : PEnv) : SR := (retG (ifZ (isnG false (frzG (callM (m_Network_fill K) (recvP (He.ga K "Network") "fill" 4 nilAg)))) (lendO 4 (callM (m_Network_value K) (recvM (He.ga K "Network") "value" (vG (nmE 4)) nilAg))) (vG (fun _ => ER.ok (PV.sc V.non))))) ρ
def s_least_cost (K : Fg) : PEnv → SR := (seqS (t_least_cost_1 K)
    (seqS (t_least_cost_2 K)
    (t_least_cost_3 K)))
def m_least_cost (K : Fg) : List PV → FR := fnM 3 2 [0, 1, 2] (s_least_cost K)
@[simp] def t_lesser_0 (K : Fg) (ρ : PEnv) : SR := (retG (vG (ifE (isnE false (nmE 0)) (nmE 1) (nmE 0)))) ρ
@[simp] def t_lesser_1 (K : Fg) (ρ : PEnv) : SR := (ifG (fun ρ => ((orB (isnE false (nmE 0)) (isnE false (nmE 1))) ρ).at ρ) (t_lesser_0 K)
    skipS) ρ
@[simp] def t_lesser_2 (K : Fg) (ρ : PEnv) : SR := (retG (vG (ifE (bind2b (nmE 0) (nmE 1) ltI) (nmE 0) (nmE 1)))) ρ
def s_lesser (K : Fg) : PEnv → SR := (seqS (t_lesser_1 K)
    (t_lesser_2 K))
def m_lesser (K : Fg) : List PV → FR := fnM 2 0 [0, 1] (s_lesser K)
@[simp] def t_Bend_init_0 (K : Fg) (ρ : PEnv) : SR := (setFldG 0 (He.ga K "Bend") "paying" (vG (nmE 1))) ρ
@[simp] def t_Bend_init_1 (K : Fg) (ρ : PEnv) : SR := (setFldG 0 (He.ga K "Bend") "other" (vG (nmE 2))) ρ
def s_Bend_init (K : Fg) : PEnv → SR := (seqS (t_Bend_init_0 K)
    (t_Bend_init_1 K))
def m_Bend_init (K : Fg) : List PV → FR := fnM 3 0 [0, 1, 2] (s_Bend_init K)
@[simp] def t_Bend_price_0 (K : Fg) (ρ : PEnv) : SR := (retG (vG (fun _ => ER.ok (PV.sc V.non)))) ρ
@[simp] def t_Bend_price_1 (K : Fg) (ρ : PEnv) : SR := (ifG (fun ρ => ((isnE false (bind1 (nmE 0) (fldP (He.ga K "Bend") "other"))) ρ).at ρ) (t_Bend_price_0 K)
    skipS) ρ
@[simp] def t_Bend_price_2 (K : Fg) (ρ : PEnv) : SR := (retG (vG (fun _ => ER.ok (PV.sc (V.int 0))))) ρ
@[simp] def t_Bend_price_3 (K : Fg) (ρ : PEnv) : SR := (ifG (fun ρ => ((orB (isnE false (bind1 (nmE 0) (fldP (He.ga K "Bend") "paying"))) (bind2b (bind1 (nmE 0) (fldP (He.ga K "Bend") "paying")) (bind1 (nmE 0) (fldP (He.ga K "Bend") "other")) geI)) ρ).at ρ) (t_Bend_price_2 K)
    skipS) ρ
@[simp] def t_Bend_price_4 (K : Fg) (ρ : PEnv) : SR := (retG (vG (bind2s (bind1 (nmE 0) (fldP (He.ga K "Bend") "other")) (bind1 (nmE 0) (fldP (He.ga K "Bend") "paying")) subI))) ρ
@[simp] def t_Bend_at_0 (K : Fg) (ρ : PEnv) : SR := (retG (callM (m_lesser K) (vlAg (frzG (callM (m_added K) (vlAg (vG (bind1 (nmE 0) (fldP (He.ga K "Bend") "paying"))) (vlAg (vG (nmE 1)) nilAg)))) (vlAg (vG (bind1 (nmE 0) (fldP (He.ga K "Bend") "other"))) nilAg)))) ρ
@[simp] def t_paying_cost_0 (K : Fg) (ρ : PEnv) : SR := (retG (vG (fun _ => ER.ok (PV.sc V.non)))) ρ
@[simp] def t_paying_cost_1 (K : Fg) (ρ : PEnv) : SR := (ifG (fun ρ => ((orB (bind2b (nmE 2) (fun _ => ER.ok (PV.sc (V.int 0))) ltI) (bind2b (nmE 2) (nmE 3) eqP)) ρ).at ρ) (t_paying_cost_0 K)
    skipS) ρ
@[simp] def t_paying_cost_2 (K : Fg) (ρ : PEnv) : SR := (setG 4 (vG (ifE (bind2b (nmE 3) (fun _ => ER.ok (PV.sc (V.int 0))) geI) (frzE (bindA (consA (nmE 3) nilA) displayL)) (frzE (bindA nilA displayL))))) ρ
@[simp] def t_paying_cost_3 (K : Fg) (ρ : PEnv) : SR := (retG (callM (m_least_cost K) (vlAg (vG (nmE 0)) (vlAg (frzG (fG (bindA (starA (bind1 (nmE 1) (fldP (He.ga K "Lot") "places")) (consA (nmE 2) nilA)) displayL))) (vlAg (vG (nmE 4)) nilAg))))) ρ
def s_paying_cost (K : Fg) : PEnv → SR := (seqS (t_paying_cost_1 K)
    (seqS (t_paying_cost_2 K)
    (t_paying_cost_3 K)))
def m_paying_cost (K : Fg) : List PV → FR := fnM 4 1 [0, 1, 2, 3] (s_paying_cost K)
@[simp] def t_other_cost_0 (K : Fg) (ρ : PEnv) : SR := (setG 4 (frzG (ifZ (fun ρ => ((bind2b (nmE 2) (nmE 1) (owIn false (He.ga K "Lot") (m_Lot_contains K))) ρ).at ρ) (vG (fun _ => ER.ok (PV.sc V.non))) (callM (m_least_cost K) (vlAg (vG (nmE 0)) (vlAg (vG (bind1 (nmE 1) (fldP (He.ga K "Lot") "places"))) (vlAg (vG (ifE (bind2b (nmE 2) (fun _ => ER.ok (PV.sc (V.int 0))) geI) (frzE (bindA (consA (nmE 2) nilA) displayL)) (frzE (bindA nilA displayL)))) nilAg))))))) ρ
@[simp] def t_other_cost_1 (K : Fg) (ρ : PEnv) : SR := (retG (vG (nmE 4))) ρ
@[simp] def t_other_cost_2 (K : Fg) (ρ : PEnv) : SR := (ifG (fun ρ => ((bind2b (nmE 3) (fun _ => ER.ok (PV.sc (V.int 0))) ltI) ρ).at ρ) (t_other_cost_1 K)
    skipS) ρ
@[simp] def t_other_cost_3 (K : Fg) (ρ : PEnv) : SR := (retG (callM (m_lesser K) (vlAg (vG (nmE 4)) (vlAg (frzG (callM (m_least_cost K) (vlAg (vG (nmE 0)) (vlAg (frzG (fG (bindA (starA (bind1 (nmE 1) (fldP (He.ga K "Lot") "places")) (consA (nmE 3) nilA)) displayL))) (vlAg (frzG (fG (bindA nilA displayL))) nilAg))))) nilAg)))) ρ
def s_other_cost (K : Fg) : PEnv → SR := (seqS (t_other_cost_0 K)
    (seqS (t_other_cost_2 K)
    (t_other_cost_3 K)))
def m_other_cost (K : Fg) : List PV → FR := fnM 4 1 [0, 1, 2, 3] (s_other_cost K)
@[simp] def t_bend_u_0 (K : Fg) (ρ : PEnv) : SR := (setG 1 (frzG (makeM (He.ga K "Lot") (m_Lot_init_u K) (vlAg (vG (nmE 1)) nilAg)))) ρ
@[simp] def t_bend_u_1 (K : Fg) (ρ : PEnv) : SR := (dropG (callM (m_check_places K) (vlAg (vG (nmE 0)) (vlAg (vG (nmE 1)) nilAg)))) ρ
@[simp] def t_bend_u_2 (K : Fg) (ρ : PEnv) : SR := (dropG (callM (m_check_web K) (vlAg (vG (nmE 0)) (vlAg (vG (nmE 2)) nilAg)))) ρ
@[simp] def t_bend_u_3 (K : Fg) (ρ : PEnv) : SR := (dropG (callM (m_check_gate K) (vlAg (vG (nmE 0)) (vlAg (vG (nmE 3)) nilAg)))) ρ
@[simp] def t_bend_u_4 (K : Fg) (ρ : PEnv) : SR := (dropG (callM (m_check_word K) (vlAg (vG (nmE 4)) nilAg))) ρ
@[simp] def t_bend_u_5 (K : Fg) (ρ : PEnv) : SR := (asgG (tupT 2 (consT (nmT 5) (consT (nmT 6) nilT))) (frzG (callM (m_Web_ends K) (recvM (He.ga K "Web") "ends" (vG (nmE 0)) (vlAg (vG (nmE 3)) nilAg))))) ρ
@[simp] def t_bend_u_6 (K : Fg) (ρ : PEnv) : SR := (asgG (tupT 2 (consT (nmT 7) (consT (nmT 8) nilT))) (vG (ifE (bind2b (nmE 4) (fun _ => ER.ok (PV.sc (V.str ("save" : Str)))) eqP) (frzE (bindA (consA (nmE 6) (consA (nmE 5) nilA)) displayT)) (frzE (bindA (consA (nmE 5) (consA (nmE 6) nilA)) displayT))))) ρ
@[simp] def t_bend_u_7 (K : Fg) (ρ : PEnv) : SR := (setG 9 (frzG (callM (m_Prices_with_price K) (recvM (He.ga K "Prices") "with_price" (vG (nmE 2)) (vlAg (vG (nmE 3)) (vlAg (vG (nmE 4)) (vlAg (vG (fun _ => ER.ok (PV.sc (V.int 0)))) nilAg))))))) ρ
@[simp] def t_bend_u_8 (K : Fg) (ρ : PEnv) : SR := (retG (makeM (He.ga K "Bend") (m_Bend_init K) (vlAg (frzG (callM (m_paying_cost K) (vlAg (vG (nmE 9)) (vlAg (vG (nmE 1)) (vlAg (vG (nmE 7)) (vlAg (vG (nmE 8)) nilAg)))))) (vlAg (frzG (callM (m_other_cost K) (vlAg (vG (nmE 9)) (vlAg (vG (nmE 1)) (vlAg (vG (nmE 7)) (vlAg (vG (nmE 8)) nilAg)))))) nilAg)))) ρ
end
end SP
section
set_option maxHeartbeats 0
noncomputable section
namespace TP
open PySem PySem.Spec PyProof.Rows L2 RL SP TL
end TP
end
end
namespace PW
open PySem PySem.Spec PyProof.Rows L2 RL TL TP
/-- the least cost of the lots of which P says true -/
def IsMin (w : TWeb) (pr : TPrices) (P : List Int → Prop) (o : Option Int) : Prop :=
  (o = none ∧ ∀ L, P L → costO w pr.saves pr.backs L = none) ∨ ∃ v L, o = some v ∧ P L ∧ (∀ x ∈ L, 0 ≤ x ∧ x < w.places) ∧ costO w pr.saves pr.backs L = some v ∧ ∀ L', P L' → ∀ x, costO w pr.saves pr.backs L' = some x → v ≤ x
section
variable {w : TWeb} {pr pq : TPrices} {S K U L : List Int} {a b : Option Int} {c : Nat} {P Q : List Int → Prop}
theorem IsMin.lc (h : IsMin w pr (Fit S) a) : IsLc w pr S a := h
theorem IsMin.le (h : IsMin w pr P a) (h' : IsMin w pq Q b) (hq : ∀ L, Q L → P L) (hc : ∀ L, Q L → costO w pq.saves pq.backs L = costO w pr.saves pr.backs L) : leO a b := by
  intro y hy;rcases h' with ⟨rfl, _⟩ | ⟨v, L, rfl, f, _, e, _⟩
  · cases hy
  · cases hy;rw [hc L f] at e
    rcases h with ⟨rfl, q⟩ | ⟨v', L', rfl, f', _, e', m'⟩
    · rw [q L (hq L f)] at e; cases e
    · exact ⟨v', rfl, m' L (hq L f) _ e⟩
theorem IsMin.eq (h : IsMin w pr P a) (h' : IsMin w pq Q b) (hq : ∀ L, Q L ↔ P L) (hc : ∀ L, Q L → costO w pq.saves pq.backs L = costO w pr.saves pr.backs L) : a = b :=
  leO_anti (h.le h' (fun L => (hq L).mp) hc) (h'.le h (fun L => (hq L).mpr) fun L hL => (hc L ((hq L).mpr hL)).symm)
theorem IsMin.no (h : ∀ L, ¬ P L) : IsMin w pr P none := .inl ⟨rfl, fun L hL => absurd hL (h L)⟩
def lesO : Option Int → Option Int → Option Int
  | none, b => b
  | some x, none => some x
  | some x, some y => some (if x < y then x else y)
theorem IsMin.or (h : IsMin w pr P a) (h' : IsMin w pr Q b) : IsMin w pr (fun L => P L ∨ Q L) (lesO a b) := by
  rcases h with ⟨rfl, q⟩ | ⟨v, L, rfl, f, rg, e, m⟩
  · rcases h' with ⟨rfl, q'⟩ | ⟨v', L', rfl, f', rg', e', m'⟩
    · exact .inl ⟨rfl, fun L hL => hL.elim (q L) (q' L)⟩
    · refine .inr ⟨v', L', rfl, .inr f', rg', e', fun L2 h2 x hx => ?_⟩
      rcases h2 with h2 | h2
      · rw [q L2 h2] at hx; cases hx
      · exact m' L2 h2 x hx
  · rcases h' with ⟨rfl, q'⟩ | ⟨v', L', rfl, f', rg', e', m'⟩
    · refine .inr ⟨v, L, rfl, .inl f, rg, e, fun L2 h2 x hx => ?_⟩
      rcases h2 with h2 | h2
      · exact m L2 h2 x hx
      · rw [q' L2 h2] at hx; cases hx
    · by_cases l : v < v'
      · refine .inr ⟨v, L, by show some (if v < v' then v else v') = _; rw [if_pos l], .inl f, rg, e, fun L2 h2 x hx => ?_⟩
        rcases h2 with h2 | h2
        · exact m L2 h2 x hx
        · have := m' L2 h2 x hx; omega
      · refine .inr ⟨v', L', by show some (if v < v' then v else v') = _; rw [if_neg l], .inr f', rg', e', fun L2 h2 x hx => ?_⟩
        rcases h2 with h2 | h2
        · have := m L2 h2 x hx; omega
        · exact m' L2 h2 x hx
end
end PW
namespace SP
noncomputable section
open PySem PySem.Spec PyProof.Rows L2 RL
@[simp] def t_law_lots_v1_0 (K : Fg) (ρ : PEnv) : SR := (setG 2 (frzG (fG (bindA (consA (frzE (bindA nilA displayL)) nilA) displayL)))) ρ
@[simp] def t_law_lots_v1_1 (K : Fg) (ρ : PEnv) : SR := (setG 4 (frzG (compG (iterI (vG (nmE 2)) seqF) (nmT 5) yesG (frzG (fG (bind2 (nmE 5) (frzE (bindA (consA (nmE 3) nilA) displayL)) addU))) [5]))) ρ
@[simp] def t_law_lots_v1_2 (K : Fg) (ρ : PEnv) : SR := (setG 2 (vG (ifE (bind2b (nmE 3) (nmE 1) (inP false)) (nmE 4) (frzE (bind2 (nmE 2) (nmE 4) addU))))) ρ
@[simp] def t_law_lots_v1_3 (K : Fg) (ρ : PEnv) : SR := (forG (iterA (consG (vG (nmE 0)) nilG) rngK1) (nmT 3)
    (seqS (t_law_lots_v1_1 K)
    (t_law_lots_v1_2 K))) ρ
@[simp] def t_law_lots_v1_4 (K : Fg) (ρ : PEnv) : SR := (retG (vG (nmE 2))) ρ
@[simp] def t_law_uses_0 (K : Fg) (ρ : PEnv) : SR := (retG (compG (iterA (consG (vG (nmE 1)) nilG) rngK1) (nmT 2) (bindG2b (frzG (callM (m_law_take K) (plAg 0 (vlAg (vG (fun _ => ER.ok (PV.sc (V.int 3)))) nilAg)))) (vG (fun _ => ER.ok (PV.sc (V.int 0)))) eqP) (vG (nmE 2)) [2])) ρ
@[simp] def t_law_least_v1_0 (K : Fg) (ρ : PEnv) : SR := (setG 3 (vG (fun _ => ER.ok (PV.sc V.non)))) ρ
@[simp] def t_law_least_v1_1 (K : Fg) (ρ : PEnv) : SR := (setG 5 (frzG (callM (m_law_cost K) (vlAg (vG (nmE 0)) (vlAg (vG (nmE 1)) (vlAg (vG (nmE 4)) nilAg)))))) ρ
@[simp] def t_law_least_v1_2 (K : Fg) (ρ : PEnv) : SR := (setG 3 (vG (nmE 5))) ρ
@[simp] def t_law_least_v1_3 (K : Fg) (ρ : PEnv) : SR := (ifG (fun ρ => ((andB (isnE true (nmE 5)) (orB (isnE false (nmE 3)) (bind2b (nmE 5) (nmE 3) ltI))) ρ).at ρ) (t_law_least_v1_2 K)
    skipS) ρ
@[simp] def t_law_least_v1_4 (K : Fg) (ρ : PEnv) : SR := (forG (iterI (vG (nmE 2)) seqF) (nmT 4)
    (seqS (t_law_least_v1_1 K)
    (t_law_least_v1_3 K))) ρ
@[simp] def t_law_least_v1_5 (K : Fg) (ρ : PEnv) : SR := (retG (vG (nmE 3))) ρ
end
end SP
section
set_option maxHeartbeats 0
noncomputable section
namespace TP
open PySem PySem.Spec PyProof.Rows L2 RL SP TL
end TP
end
end
namespace PW
open PySem PySem.Spec PyProof.Rows L2 RL TL TP
/-- all lots with all the uses, as ascending lists -/
structure LotsOk (c : Nat) (U : List Int) (Ls : List (List Int)) : Prop where
  len : Ls.length ≤ 2 ^ c
  sub : ∀ l ∈ Ls, l.Sublist (rngL 0 c)
  use : ∀ l ∈ Ls, ∀ u ∈ U, 0 ≤ u → u < (c : Int) → u ∈ l
  all : ∀ L : List Int, (∀ u ∈ U, 0 ≤ u → u < (c : Int) → u ∈ L) → ∃ l ∈ Ls, ∀ x, x ∈ l ↔ (0 ≤ x ∧ x < (c : Int)) ∧ x ∈ L
/-- the least of what lots cost -/
def LeastL (w : TWeb) (pr : TPrices) (Ls : List (List Int)) (o : Option Int) : Prop :=
  (o = none ∧ ∀ l ∈ Ls, costO w pr.saves pr.backs l = none) ∨ ∃ v, o = some v ∧ (∃ l ∈ Ls, costO w pr.saves pr.backs l = some v) ∧ ∀ l ∈ Ls, ∀ x, costO w pr.saves pr.backs l = some x → v ≤ x
section
variable {w : TWeb} {c : Nat} {pr : TPrices} {U : List Int} {Ls : List (List Int)} {P : List Int → Prop} {a b : Option Int}
/-- costs ask only for places of the web -/
theorem cost_rg (hw : WebOk w c) {sv bk : List (Option Int)} {L L' : List Int} (h : ∀ x, 0 ≤ x → x < (c : Int) → (x ∈ L ↔ x ∈ L')) (n : -1 ∉ L) (n' : -1 ∉ L') : costO w sv bk L = costO w sv bk L' := by
  unfold costO;congr 1
  apply List.map_congr_left
  intro g hg;have hg := mem_rngL.mp hg
  have rg := gate_rg hw (g := g) (by omega) (by omega)
  have m : ∀ x : Int, -1 ≤ x → x < (c : Int) → (x ∈ L ↔ x ∈ L') := fun x x0 x1 => by
    by_cases e : x = -1
    · rw [e]; exact ⟨fun z => absurd z n, fun z => absurd z n'⟩
    · exact h x (by omega) x1
  have m1 := m _ rg.1.1 rg.1.2;have m2 := m _ rg.2.1 rg.2.2
  unfold mPrice isSave isBack;simp only [m1, m2]
/-- the least over the lots tried here is the least -/
theorem LeastL.min (hw : WebOk w c) (h : LeastL w pr Ls a) (h1 : ∀ l ∈ Ls, l.Sublist (rngL 0 c) ∧ P l) (h2 : ∀ L, P L → -1 ∉ L ∧ ∃ l ∈ Ls, ∀ x, x ∈ l ↔ (0 ≤ x ∧ x < (c : Int)) ∧ x ∈ L) : IsMin w pr P a := by
  have rg : ∀ l ∈ Ls, ∀ x ∈ l, 0 ≤ x ∧ x < (c : Int) := fun l hl x hx => by
    have := mem_rngL.mp ((h1 l hl).1.subset hx); omega
  have ce : ∀ L, P L → ∃ l ∈ Ls, costO w pr.saves pr.backs L = costO w pr.saves pr.backs l := fun L hL => by
    obtain ⟨n, l, q1, q2⟩ := h2 L hL;exact ⟨l, q1, cost_rg hw (fun x x0 x1 => by rw [q2]; exact ⟨fun z => ⟨⟨x0, x1⟩, z⟩, fun z => z.2⟩) n fun z => by have := rg l q1 _ z; omega⟩
  rcases h with ⟨rfl, h⟩ | ⟨v, rfl, ⟨l, q1, q2⟩, h3⟩
  · refine .inl ⟨rfl, fun L hL => ?_⟩
    obtain ⟨l, q1, q2⟩ := ce L hL;rw [q2]; exact h l q1
  · refine .inr ⟨v, l, rfl, (h1 l q1).2, fun x hx => by rw [hw.pc]; exact rg l q1 x hx, q2, fun L hL x hx => ?_⟩
    obtain ⟨l', q1', q2'⟩ := ce L hL;rw [q2'] at hx;exact h3 l' q1' x hx
end
end PW
noncomputable section
namespace TL
open PySem PySem.Spec PyProof.Rows L2 RL
end TL
end
namespace SP
noncomputable section
open PySem PySem.Spec PyProof.Rows L2 RL
@[simp] def t_Network_greatest_places_0 (K : Fg) (ρ : PEnv) : SR := (setG 1 (fG (bindA (consA (bind1 (nmE 0) (fldP (He.ga K "Network") "sinks")) nilA) listA))) ρ
@[simp] def t_Network_greatest_places_1 (K : Fg) (ρ : PEnv) : SR := (setG 2 (vG (fun _ => ER.ok (PV.sc (V.int 0))))) ρ
@[simp] def t_Network_greatest_places_2 (K : Fg) (ρ : PEnv) : SR := (ifG (fun ρ => ((bind2b (nmE 3) (nmE 1) (inP false)) ρ).at ρ) SR.ct
    skipS) ρ
@[simp] def t_Network_greatest_places_3 (K : Fg) (ρ : PEnv) : SR := (dropG (mutE 1 (consG (vG (nmE 3)) nilG) appA)) ρ
@[simp] def t_Network_greatest_places_4 (K : Fg) (ρ : PEnv) : SR := (ifG (truG (frzG (bindGA (consG (frzG (compG (iterI (frzG (callM (m_Network_steps_from K) (recvM (He.ga K "Network") "steps_from" (vG (nmE 0)) (vlAg (vG (nmE 3)) nilAg)))) seqF) (tupT 3 (consT (nmT 4) (consT (nmT 5) (consT (nmT 6) nilT)))) yesG (vG (bind2s (nmE 6) (bind2 (nmE 1) (nmE 2) ixP) fun p q => (eqP p q).map V.bl)) [4, 5, 6])) nilG) anyA))) (t_Network_greatest_places_3 K)
    skipS) ρ
@[simp] def t_Network_greatest_places_5 (K : Fg) (ρ : PEnv) : SR := (forG (iterA (consG (vG (bind1 (nmE 0) (fldP (He.ga K "Network") "places"))) nilG) rngK1) (nmT 3)
    (seqS (t_Network_greatest_places_2 K)
    (t_Network_greatest_places_4 K))) ρ
@[simp] def t_Network_greatest_places_6 (K : Fg) (ρ : PEnv) : SR := (setG 2 (bindG2s (vG (nmE 2)) (vG (fun _ => ER.ok (PV.sc (V.int 1)))) addI)) ρ
@[simp] def t_Network_greatest_places_7 (K : Fg) (ρ : PEnv) : SR := (whileG (fun ρ => ((bind2b (nmE 2) (frzE (bindA (consA (nmE 1) nilA) lenA)) ltI) ρ).at ρ) (seqS (t_Network_greatest_places_5 K)
    (t_Network_greatest_places_6 K))) ρ
@[simp] def t_Network_greatest_places_8 (K : Fg) (ρ : PEnv) : SR := (retG (compG (iterA (consG (vG (bind1 (nmE 0) (fldP (He.ga K "Network") "places"))) nilG) rngK1) (nmT 3) (fun ρ => ((bind2b (nmE 3) (nmE 1) (inP true)) ρ).at ρ) (vG (nmE 3)) [3])) ρ
def s_Network_greatest_places (K : Fg) : PEnv → SR := (seqS (t_Network_greatest_places_0 K)
    (seqS (t_Network_greatest_places_1 K)
    (seqS (t_Network_greatest_places_7 K)
    (t_Network_greatest_places_8 K))))
def m_Network_greatest_places (K : Fg) : List PV → FR := fnM 1 6 [0] (s_Network_greatest_places K)
@[simp] def t_best_lots_u_0 (K : Fg) (ρ : PEnv) : SR := (setG 1 (frzG (makeM (He.ga K "Lot") (m_Lot_init_u K) (vlAg (vG (nmE 1)) nilAg)))) ρ
@[simp] def t_best_lots_u_1 (K : Fg) (ρ : PEnv) : SR := (dropG (callM (m_check_places K) (vlAg (vG (nmE 0)) (vlAg (vG (nmE 1)) nilAg)))) ρ
@[simp] def t_best_lots_u_2 (K : Fg) (ρ : PEnv) : SR := (dropG (callM (m_check_web K) (vlAg (vG (nmE 0)) (vlAg (vG (nmE 2)) nilAg)))) ρ
@[simp] def t_best_lots_u_3 (K : Fg) (ρ : PEnv) : SR := (setG 3 (makeM (He.ga K "Network") (m_Network_init K) (vlAg (vG (nmE 2)) (vlAg (vG (bind1 (nmE 1) (fldP (He.ga K "Lot") "places"))) (vlAg (frzG (fG (bindA nilA displayT))) nilAg))))) ρ
@[simp] def t_best_lots_u_4 (K : Fg) (ρ : PEnv) : SR := (retG (vG (fun _ => ER.ok (PV.sc V.non)))) ρ
@[simp] def t_best_lots_u_5 (K : Fg) (ρ : PEnv) : SR := (ifG (isnG true (frzG (callM (m_Network_fill K) (recvP (He.ga K "Network") "fill" 3 nilAg)))) (t_best_lots_u_4 K)
    skipS) ρ
@[simp] def t_best_lots_u_6 (K : Fg) (ρ : PEnv) : SR := (retG (bindGA (consG (frzG (makeM (He.ga K "Lot") (m_Lot_init_u K) (vlAg (frzG (lendO 3 (callM (m_Network_least_places K) (recvM (He.ga K "Network") "least_places" (vG (nmE 3)) nilAg)))) nilAg))) (consG (frzG (makeM (He.ga K "Lot") (m_Lot_init_u K) (vlAg (frzG (lendO 3 (callM (m_Network_greatest_places K) (recvM (He.ga K "Network") "greatest_places" (vG (nmE 3)) nilAg)))) nilAg))) nilG)) displayT)) ρ
end
end SP
section
set_option maxHeartbeats 0
noncomputable section
namespace TP
open PySem PySem.Spec PyProof.Rows L2 RL SP TL
end TP
end
end
namespace PW
open PySem PySem.Spec PyProof.Rows L2 RL TL TP
section
variable {A : List Arc} {rm : Arc → Option Int} {en : Arc → Int × Int} {S T : List Int} {c : Nat} {f : Arc → Int}
theorem bal_eq {L : Int → Bool} (h0 : ∀ a ∈ A, 0 ≤ f a) (h1 : ∀ a ∈ A, ∀ r, rm a = some r → f a ≤ r) (h : capO A rm en L = some (bal A en f (chi L))) : ∀ a ∈ A, (out en L a = true → rm a = some (f a)) ∧ (L (en a).2 = true → L (en a).1 = false → f a = 0) := by
  induction A with
  | nil => intro a ha; cases ha
  | cons y A ih =>
    unfold capO at h;rw [List.map_cons] at h
    obtain ⟨p, q, e1, e2, e3⟩ := sumO_cons_some h;have l1 := term_le (h0 y (by simp)) (h1 y (by simp)) e1
    have l2 := bal_le (fun a ha => h0 a (by simp [ha])) (fun a ha => h1 a (by simp [ha])) e2
    have eb : bal (y :: A) en f (chi L) = f y * (chi L (en y).1 - chi L (en y).2) + bal A en f (chi L) := by unfold bal; rw [List.map_cons, List.sum_cons]
    rw [eb] at e3;have ep : p = f y * (chi L (en y).1 - chi L (en y).2) := by omega
    have eq : q = bal A en f (chi L) := by omega
    intro a ha;rcases List.mem_cons.mp ha with rfl | ha
    · refine ⟨fun ho => ?_, fun x z => ?_⟩
      · rw [if_pos ho] at e1;unfold out at ho
        have ho : L (en a).1 = true ∧ L (en a).2 = false := by simpa using ho
        rw [chi_t ho.1, chi_f ho.2] at ep;rw [e1, ep]; simp
      · have no : ¬ out en L a = true := by unfold out; rw [z]; simp
        rw [if_neg no] at e1;cases e1
        rw [chi_t x, chi_f z] at ep;omega
    · exact ih (fun a ha => h0 a (by simp [ha])) (fun a ha => h1 a (by simp [ha])) (by rw [← eq]; exact e2) a ha
theorem Fl.closed (h : Fl A rm en S T f) {L : Int → Bool} (hST : ∀ t ∈ T, t ∉ S) (hS : ∀ s ∈ S, L s = true) (hT : ∀ t ∈ T, L t = false) (hc : capO A rm en L = some (vlu A en S f)) : ∀ b a t v, StR A rm en f b a t v → L b = true → L v = true := by
  intro b a t v st hb;rw [← h.chi hST hS hT] at hc
  obtain ⟨ha, ⟨_, e, q⟩ | ⟨_, e, q⟩⟩ := str_iff.mp st
  · cases hv : L v with
    | true => rfl
    | false =>
      have := (bal_eq h.pos h.cap hc a ha).1 (by unfold out; rw [e]; simp [hb, hv])
      rw [this] at q;exact absurd (by simp) q
  · cases hv : L v with
    | true => rfl
    | false =>
      have := (bal_eq h.pos h.cap hc a ha).2 (by rw [e]; exact hb) (by rw [e]; exact hv)
      omega
end
section
variable {w : TWeb} {c : Nat} {pr : TPrices} {S S' : List Int}
theorem IsLc.some {v : Int} (h : IsLc w pr S (some v)) : (∃ L, Fit S L ∧ costO w pr.saves pr.backs L = Option.some v) ∧ ∀ L', Fit S L' → ∀ x, costO w pr.saves pr.backs L' = Option.some x → v ≤ x := by
  rcases h with ⟨e, _⟩ | ⟨v', L, e, f, _, c, m⟩
  · cases e
  · cases e; exact ⟨⟨L, f, c⟩, m⟩
end
end PW
noncomputable section
namespace TL
open PySem PySem.Spec PyProof.Rows L2 RL
end TL
end
noncomputable section
namespace TL
open PySem PySem.Spec PyProof.Rows L2 RL
end TL
end
namespace PW
open PySem PySem.Spec PyProof.Rows L2 RL TL TP
end PW
namespace SP
noncomputable section
open PySem PySem.Spec PyProof.Rows L2 RL
@[simp] def t_is_arc_0 (K : Fg) (ρ : PEnv) : SR := (retG (vG (fun _ => ER.ok (PV.sc (V.bl false))))) ρ
@[simp] def t_is_arc_1 (K : Fg) (ρ : PEnv) : SR := (ifG (orG (fun ρ => ((notE (truE (frzE (bindA (consA (nmE 1) (consA (fun _ => ER.ok (PV.sc (V.ty "tuple"))) nilA)) (isiA K []))))) ρ).at ρ) (orG (fun ρ => ((bind2b (frzE (bindA (consA (nmE 1) nilA) lenA)) (fun _ => ER.ok (PV.sc (V.int 2))) neP) ρ).at ρ) (notG (truG (frzG (callM (m_is_integer K) (vlAg (vG (bind2 (nmE 1) (fun _ => ER.ok (PV.sc (V.int 0))) ixP)) nilAg))))))) (t_is_arc_0 K)
    skipS) ρ
@[simp] def t_is_arc_2 (K : Fg) (ρ : PEnv) : SR := (retG (vG (fun _ => ER.ok (PV.sc (V.bl false))))) ρ
@[simp] def t_is_arc_3 (K : Fg) (ρ : PEnv) : SR := (ifG (fun ρ => ((orB (notE (truE (frzE (bindA (consA (bind2 (nmE 1) (fun _ => ER.ok (PV.sc (V.int 1))) ixP) (consA (fun _ => ER.ok (PV.sc (V.ty "str"))) nilA)) (isiA K []))))) (orB (bind2b (bind2 (nmE 1) (fun _ => ER.ok (PV.sc (V.int 1))) ixP) (tpkS ["save", "back"]) (inP true)) (notE (tstE (chainE (fun _ => ER.ok (PV.sc (V.int 0))) (bind2 (nmE 1) (fun _ => ER.ok (PV.sc (V.int 0))) ixP) (frzE (bind1 (nmE 0) (ow1 (He.ga K "Web") (m_Web_gates K)))) leI ltI))))) ρ).at ρ) (t_is_arc_2 K)
    skipS) ρ
@[simp] def t_is_arc_4 (K : Fg) (ρ : PEnv) : SR := (asgG (tupT 2 (consT (nmT 2) (consT (nmT 3) nilT))) (frzG (callM (m_Web_ends K) (recvM (He.ga K "Web") "ends" (vG (nmE 0)) (vlAg (vG (bind2 (nmE 1) (fun _ => ER.ok (PV.sc (V.int 0))) ixP)) nilAg))))) ρ
@[simp] def t_is_arc_5 (K : Fg) (ρ : PEnv) : SR := (retG (vG (bind2s (nmE 2) (nmE 3) fun p q => (neP p q).map V.bl))) ρ
def s_is_arc (K : Fg) : PEnv → SR := (seqS (t_is_arc_1 K)
    (seqS (t_is_arc_3 K)
    (seqS (t_is_arc_4 K)
    (t_is_arc_5 K))))
def m_is_arc (K : Fg) : List PV → FR := fnM 2 2 [0, 1] (s_is_arc K)
@[simp] def t_is_let_0 (K : Fg) (ρ : PEnv) : SR := (retG (vG (fun _ => ER.ok (PV.sc (V.bl false))))) ρ
@[simp] def t_is_let_1 (K : Fg) (ρ : PEnv) : SR := (ifG (orG (notG (truG (frzG (callM (m_is_integer K) (vlAg (vG (nmE 2)) nilAg))))) (orG (fun ρ => ((bind2b (nmE 2) (fun _ => ER.ok (PV.sc (V.int 0))) ltI) ρ).at ρ) (fun ρ => ((andB (isnE true (nmE 3)) (bind2b (nmE 2) (nmE 3) gtI)) ρ).at ρ))) (t_is_let_0 K)
    skipS) ρ
@[simp] def t_is_let_2 (K : Fg) (ρ : PEnv) : SR := (retG (vG (orE (bind2s (nmE 2) (fun _ => ER.ok (PV.sc (V.int 0))) fun p q => (eqP p q).map V.bl) (andE (frzE (bind2 (bind2 (nmE 1) (fun _ => ER.ok (PV.sc (V.int 1))) ixP) (nmE 0) fun p q => ((owIn true (He.ga K "Lot") (m_Lot_contains K)) p q).map PV.bl)) (bind2s (bind2 (nmE 1) (fun _ => ER.ok (PV.sc (V.int 0))) ixP) (fun _ => ER.ok (PV.sc (V.int (-1)))) fun p q => (neP p q).map V.bl))))) ρ
def s_is_let (K : Fg) : PEnv → SR := (seqS (t_is_let_1 K)
    (t_is_let_2 K))
def m_is_let (K : Fg) : List PV → FR := fnM 4 0 [0, 1, 2, 3] (s_is_let K)
@[simp] def t_kept_sums_0 (K : Fg) (ρ : PEnv) : SR := (retG (bindGA (consG (frzG (compG (iterA (consG (vG (bind1 (nmE 0) (fldP (He.ga K "Web") "places"))) nilG) rngK1) (nmT 3) (fun ρ => ((bind2b (nmE 3) (nmE 1) (owIn true (He.ga K "Lot") (m_Lot_contains K))) ρ).at ρ) (vG (bind2s (bind2 (nmE 2) (nmE 3) ixP) (fun _ => ER.ok (PV.sc (V.int 0))) fun p q => (eqP p q).map V.bl)) [3])) nilG) allA)) ρ
def s_kept_sums (K : Fg) : PEnv → SR := (t_kept_sums_0 K)
def m_kept_sums (K : Fg) : List PV → FR := fnM 3 1 [0, 1, 2] (s_kept_sums K)
@[simp] def t_flow_value_0 (K : Fg) (ρ : PEnv) : SR := (retG (vG (fun _ => ER.ok (PV.sc V.non)))) ρ
@[simp] def t_flow_value_1 (K : Fg) (ρ : PEnv) : SR := (ifG (fun ρ => ((notE (truE (frzE (bindA (consA (nmE 3) (consA (fun _ => ER.ok (PV.sc (V.ty "dict"))) nilA)) (isiA2 K []))))) ρ).at ρ) (t_flow_value_0 K)
    skipS) ρ
@[simp] def t_flow_value_2 (K : Fg) (ρ : PEnv) : SR := (setG 4 (fG (bind2 (frzE (bindA (consA (fun _ => ER.ok (PV.sc (V.int 0))) nilA) displayL)) (frzE (bind2 (bind1 (nmE 0) (fldP (He.ga K "Web") "places")) (fun _ => ER.ok (PV.sc (V.int 1))) addU)) repP))) ρ
@[simp] def t_flow_value_3 (K : Fg) (ρ : PEnv) : SR := (retG (vG (fun _ => ER.ok (PV.sc V.non)))) ρ
@[simp] def t_flow_value_4 (K : Fg) (ρ : PEnv) : SR := (ifG (orG (notG (truG (frzG (callM (m_is_arc K) (vlAg (vG (nmE 0)) (vlAg (vG (nmE 5)) nilAg)))))) (notG (truG (frzG (callM (m_is_let K) (vlAg (vG (nmE 1)) (vlAg (frzG (callM (m_ends_of_arc K) (vlAg (vG (nmE 0)) (vlAg (vG (nmE 5)) nilAg)))) (vlAg (vG (bind2 (nmE 3) (nmE 5) ixU)) (vlAg (frzG (fG (bind2 (nmE 2) (nmE 5) (owIx (He.ga K "Prices") (m_Prices_getitem K))))) nilAg))))))))) (t_flow_value_3 K)
    skipS) ρ
@[simp] def t_flow_value_5 (K : Fg) (ρ : PEnv) : SR := (asgG (tupT 2 (consT (nmT 6) (consT (nmT 7) nilT))) (frzG (callM (m_ends_of_arc K) (vlAg (vG (nmE 0)) (vlAg (vG (nmE 5)) nilAg))))) ρ
@[simp] def t_flow_value_6 (K : Fg) (ρ : PEnv) : SR := (augP 4 [] (nmE 6) (bind2 (nmE 3) (nmE 5) ixU) (fun i j => i + j)) ρ
@[simp] def t_flow_value_7 (K : Fg) (ρ : PEnv) : SR := (augP 4 [] (nmE 7) (bind2 (nmE 3) (nmE 5) ixU) (fun i j => i - j)) ρ
@[simp] def t_flow_value_8 (K : Fg) (ρ : PEnv) : SR := (forKn 3 (nmT 5)
    (seqS (t_flow_value_4 K)
    (seqS (t_flow_value_5 K)
    (seqS (t_flow_value_6 K)
    (t_flow_value_7 K))))) ρ
@[simp] def t_flow_value_9 (K : Fg) (ρ : PEnv) : SR := (retG (vG (fun _ => ER.ok (PV.sc V.non)))) ρ
@[simp] def t_flow_value_10 (K : Fg) (ρ : PEnv) : SR := (ifG (notG (truG (frzG (callM (m_kept_sums K) (vlAg (vG (nmE 0)) (vlAg (vG (nmE 1)) (plAg 4 nilAg))))))) (t_flow_value_9 K)
    skipS) ρ
@[simp] def t_flow_value_11 (K : Fg) (ρ : PEnv) : SR := (retG (bindGA (consG (frzG (compG (iterI (vG (bind1 (nmE 1) (fldP (He.ga K "Lot") "places"))) seqF) (nmT 8) yesG (vG (bind2 (nmE 4) (nmE 8) ixP)) [8])) nilG) sumA)) ρ
def s_flow_value (K : Fg) : PEnv → SR := (seqS (t_flow_value_1 K)
    (seqS (t_flow_value_2 K)
    (seqS (t_flow_value_8 K)
    (seqS (t_flow_value_10 K)
    (t_flow_value_11 K)))))
def m_flow_value (K : Fg) : List PV → FR := fnM 4 5 [0, 1, 2, 3] (s_flow_value K)
@[simp] def t_shows_least_u_0 (K : Fg) (ρ : PEnv) : SR := (parG 1 3 (consG (frzG (makeM (He.ga K "Lot") (m_Lot_init_u K) (vlAg (vG (nmE 1)) nilAg))) (consG (frzG (makeM (He.ga K "Lot") (m_Lot_init_u K) (vlAg (vG (nmE 3)) nilAg))) nilG))) ρ
@[simp] def t_shows_least_u_1 (K : Fg) (ρ : PEnv) : SR := (dropG (callM (m_check_places K) (vlAg (vG (nmE 0)) (vlAg (vG (nmE 1)) nilAg)))) ρ
@[simp] def t_shows_least_u_2 (K : Fg) (ρ : PEnv) : SR := (dropG (callM (m_check_web K) (vlAg (vG (nmE 0)) (vlAg (vG (nmE 2)) nilAg)))) ρ
@[simp] def t_shows_least_u_3 (K : Fg) (ρ : PEnv) : SR := (dropG (callM (m_check_places K) (vlAg (vG (nmE 0)) (vlAg (vG (nmE 3)) nilAg)))) ρ
@[simp] def t_shows_least_u_4 (K : Fg) (ρ : PEnv) : SR := (retG (vG (fun _ => ER.ok (PV.sc (V.bl false))))) ρ
@[simp] def t_shows_least_u_5 (K : Fg) (ρ : PEnv) : SR := (ifG (fun ρ => ((notE (bind2b (nmE 1) (nmE 3) (ow2b (He.ga K "Lot") (m_Lot_le K)))) ρ).at ρ) (t_shows_least_u_4 K)
    skipS) ρ
@[simp] def t_shows_least_u_6 (K : Fg) (ρ : PEnv) : SR := (setG 5 (frzG (callM (m_flow_value K) (vlAg (vG (nmE 0)) (vlAg (vG (nmE 1)) (vlAg (vG (nmE 2)) (vlAg (vG (nmE 4)) nilAg))))))) ρ
@[simp] def t_shows_least_u_7 (K : Fg) (ρ : PEnv) : SR := (retG (andZ (vG (bind1s (nmE 5) (isnV true))) (bindG2s (vG (nmE 5)) (frzG (callM (m_lot_cost_u K) (vlAg (vG (nmE 3)) (vlAg (vG (nmE 2)) nilAg)))) fun p q => (eqP p q).map V.bl))) ρ
@[simp] def t_shows_barred_u_0 (K : Fg) (ρ : PEnv) : SR := (setG 1 (frzG (makeM (He.ga K "Lot") (m_Lot_init_u K) (vlAg (vG (nmE 1)) nilAg)))) ρ
@[simp] def t_shows_barred_u_1 (K : Fg) (ρ : PEnv) : SR := (dropG (callM (m_check_places K) (vlAg (vG (nmE 0)) (vlAg (vG (nmE 1)) nilAg)))) ρ
@[simp] def t_shows_barred_u_2 (K : Fg) (ρ : PEnv) : SR := (dropG (callM (m_check_web K) (vlAg (vG (nmE 0)) (vlAg (vG (nmE 2)) nilAg)))) ρ
@[simp] def t_shows_barred_u_3 (K : Fg) (ρ : PEnv) : SR := (retG (vG (fun _ => ER.ok (PV.sc (V.bl false))))) ρ
@[simp] def t_shows_barred_u_4 (K : Fg) (ρ : PEnv) : SR := (ifG (orG (fun ρ => ((notE (truE (frzE (bindA (consA (nmE 3) (consA (fun _ => ER.ok (PV.sc (V.ty "tuple"))) nilA)) (isiA K []))))) ρ).at ρ) (orG (fun ρ => ((bind2b (frzE (bindA (consA (nmE 3) nilA) lenA)) (fun _ => ER.ok (PV.sc (V.int 0))) eqP) ρ).at ρ) (notG (truG (frzG (bindGA (consG (frzG (compG (iterI (vG (nmE 3)) seqF) (nmT 4) yesG (frzG (callM (m_is_arc K) (vlAg (vG (nmE 0)) (vlAg (vG (nmE 4)) nilAg)))) [4])) nilG) allA)))))) (t_shows_barred_u_3 K)
    skipS) ρ
@[simp] def t_shows_barred_u_5 (K : Fg) (ρ : PEnv) : SR := (setG 5 (bindG2 (frzG (callM (m_ends_of_arc K) (vlAg (vG (nmE 0)) (vlAg (vG (bind2 (nmE 3) (fun _ => ER.ok (PV.sc (V.int 0))) ixP)) nilAg)))) (vG (fun _ => ER.ok (PV.sc (V.int 0)))) ixP)) ρ
@[simp] def t_shows_barred_u_6 (K : Fg) (ρ : PEnv) : SR := (retG (vG (fun _ => ER.ok (PV.sc (V.bl false))))) ρ
@[simp] def t_shows_barred_u_7 (K : Fg) (ρ : PEnv) : SR := (ifG (fun ρ => ((bind2b (nmE 5) (nmE 1) (owIn true (He.ga K "Lot") (m_Lot_contains K))) ρ).at ρ) (t_shows_barred_u_6 K)
    skipS) ρ
@[simp] def t_shows_barred_u_8 (K : Fg) (ρ : PEnv) : SR := (asgG (tupT 2 (consT (nmT 6) (consT (nmT 7) nilT))) (frzG (callM (m_ends_of_arc K) (vlAg (vG (nmE 0)) (vlAg (vG (nmE 4)) nilAg))))) ρ
@[simp] def t_shows_barred_u_9 (K : Fg) (ρ : PEnv) : SR := (retG (vG (fun _ => ER.ok (PV.sc (V.bl false))))) ρ
@[simp] def t_shows_barred_u_10 (K : Fg) (ρ : PEnv) : SR := (ifG (fun ρ => ((orB (bind2b (nmE 6) (nmE 5) neP) (isnE true (frzE (bind2 (nmE 2) (nmE 4) (owIx (He.ga K "Prices") (m_Prices_getitem K)))))) ρ).at ρ) (t_shows_barred_u_9 K)
    skipS) ρ
@[simp] def t_shows_barred_u_11 (K : Fg) (ρ : PEnv) : SR := (setG 5 (vG (nmE 7))) ρ
@[simp] def t_shows_barred_u_12 (K : Fg) (ρ : PEnv) : SR := (forG (iterI (vG (nmE 3)) seqF) (nmT 4)
    (seqS (t_shows_barred_u_8 K)
    (seqS (t_shows_barred_u_10 K)
    (t_shows_barred_u_11 K)))) ρ
@[simp] def t_shows_barred_u_13 (K : Fg) (ρ : PEnv) : SR := (retG (vG (bind2s (nmE 5) (fun _ => ER.ok (PV.sc (V.int (-1)))) fun p q => (eqP p q).map V.bl))) ρ
end
end SP
section
set_option maxHeartbeats 0
noncomputable section
namespace TP
open PySem PySem.Spec PyProof.Rows L2 RL SP TL
end TP
end
end
namespace PW
open PySem PySem.Spec PyProof.Rows L2 RL TL TP
def ind (v : Int) : Int → Int := fun u => if u = v then 1 else 0
structure LetP (S : List Int) (en : Int × Int) (n : Int) (room : Option Int) : Prop where
  n0 : 0 ≤ n
  cap : ∀ r, room = some r → n ≤ r
  way : n = 0 ∨ (en.2 ∉ S ∧ en.1 ≠ -1)
/-- what a flow is -/
structure FlowOk (w : TWeb) (S : List Int) (pr : TPrices) (A : List Arc) (f : Arc → Int) : Prop where
  arc : ∀ a ∈ A, a ∈ arcsW w ∧ LetP S (enW w a) (f a) (rmW pr a)
  kept : ∀ v, 0 ≤ v → v < w.places → v ∉ S → bal A (enW w) f (ind v) = 0
/-- its value -/
def valF (w : TWeb) (S : List Int) (A : List Arc) (f : Arc → Int) : Int := bal A (enW w) f fun v => if v ∈ S then 1 else 0
section
variable {A D : List Arc} {en : Arc → Int × Int} {f f' : Arc → Int} {χ : Int → Int}
theorem bal_cons (a : Arc) : bal (a :: A) en f χ = f a * (χ (en a).1 - χ (en a).2) + bal A en f χ := by unfold bal; rw [List.map_cons, List.sum_cons]
theorem bal_perm {B : List Arc} (h : A.Perm B) : bal A en f χ = bal B en f χ := by
  unfold bal;induction h with
  | nil => rfl
  | cons x _ ih => simp only [List.map_cons, List.sum_cons, ih]
  | swap x y l => simp only [List.map_cons, List.sum_cons]; omega
  | trans _ _ h1 h2 => rw [h1, h2]
theorem bal_congr (h : ∀ a ∈ A, f a = f' a) : bal A en f χ = bal A en f' χ := by
  unfold bal;congr 1
  exact List.map_congr_left fun a ha => by rw [h a ha]
theorem bal_filter (p : Arc → Bool) (h : ∀ a ∈ A, p a = false → f a = 0) : bal (A.filter p) en f χ = bal A en f χ := by
  induction A with
  | nil => rfl
  | cons a A ih =>
    rw [bal_cons, List.filter_cons];have := ih fun x hx => h x (by simp [hx])
    cases hp : p a with
    | true => rw [if_pos rfl, bal_cons, this]
    | false => rw [if_neg (by simp), this, h a (by simp) hp]; simp
/-- numbers on other arcs are 0 -/
theorem bal_over {B : List Arc} (hA : A.Nodup) (hB : B.Nodup) (h : ∀ a ∈ A, f a ≠ 0 → a ∈ B) : bal A en f χ = bal B en (fun a => if a ∈ A then f a else 0) χ := by
  rw [← bal_filter (A := A) (fun a => decide (f a ≠ 0)) fun a _ q => by simpa using q]
  rw [← bal_filter (A := B) (fun a => decide (a ∈ A ∧ f a ≠ 0)) fun a _ q => by
    have q : ¬ (a ∈ A ∧ f a ≠ 0) := by simpa using q
    split
    · rename_i z; exact Classical.byContradiction fun n => q ⟨z, n⟩
    · rfl]
  have pm : (A.filter fun a => decide (f a ≠ 0)).Perm (B.filter fun a => decide (a ∈ A ∧ f a ≠ 0)) := (List.perm_ext_iff_of_nodup (hA.filter _) (hB.filter _)).mpr fun a => by
    rw [List.mem_filter, List.mem_filter, decide_eq_true_eq, decide_eq_true_eq];exact ⟨fun z => ⟨h a z.1 z.2, z⟩, fun z => z.2⟩
  rw [bal_perm pm];refine bal_congr fun a ha => ?_
  have := (List.mem_filter.mp ha).2
  have : a ∈ A ∧ f a ≠ 0 := by simpa using this
  rw [if_pos this.1]
theorem bal_add (χ ψ : Int → Int) : bal A en f (fun v => χ v + ψ v) = bal A en f χ + bal A en f ψ := by
  induction A with
  | nil => rfl
  | cons a A ih =>
    rw [bal_cons, bal_cons, bal_cons, ih];have : f a * (χ (en a).1 + ψ (en a).1 - (χ (en a).2 + ψ (en a).2)) = f a * (χ (en a).1 - χ (en a).2) + f a * (ψ (en a).1 - ψ (en a).2) := by
      rw [← Int.mul_add]; congr 1; omega
    omega
theorem bal_mul (k : Int) (χ : Int → Int) : bal A en f (fun v => k * χ v) = k * bal A en f χ := by
  induction A with
  | nil => simp [bal]
  | cons a A ih =>
    rw [bal_cons, bal_cons, ih, Int.mul_add];congr 1
    rw [← Int.mul_sub, Int.mul_left_comm]
theorem bal_zero : bal A en f (fun _ => 0) = 0 := by
  induction A with
  | nil => rfl
  | cons a A ih => rw [bal_cons, ih]; simp
/-- places told one by one -/
def wsum (V : List Int) (χ : Int → Int) : Int → Int := fun u => (V.map fun v => χ v * ind v u).sum
theorem wsum_e {V : List Int} (hn : V.Nodup) (u : Int) : wsum V χ u = if u ∈ V then χ u else 0 := by
  unfold wsum;induction V with
  | nil => rfl
  | cons v V ih =>
    have hn' := List.nodup_cons.mp hn;rw [List.map_cons, List.sum_cons, ih hn'.2];by_cases e : u = v
    · subst e;rw [if_neg hn'.1, if_pos (by simp)]
      simp [ind]
    · have : ind v u = 0 := if_neg e
      rw [this];by_cases h : u ∈ V
      · rw [if_pos h, if_pos (by simp [h])]; simp
      · rw [if_neg h, if_neg (by simp [h, e])]; simp
theorem bal_wsum (V : List Int) : bal A en f (wsum V χ) = (V.map fun v => χ v * bal A en f (ind v)).sum := by
  induction V with
  | nil => exact bal_zero
  | cons v V ih =>
    rw [List.map_cons, List.sum_cons, ← ih, ← bal_mul, ← bal_add];rfl
theorem bal_ends (χ ψ : Int → Int) (h : ∀ a ∈ A, χ (en a).1 = ψ (en a).1 ∧ χ (en a).2 = ψ (en a).2) : bal A en f χ = bal A en f ψ := by
  unfold bal;congr 1
  exact List.map_congr_left fun a ha => by rw [(h a ha).1, (h a ha).2]
theorem bal_dec {V : List Int} (hn : V.Nodup) (h : ∀ a ∈ A, (en a).1 ∈ V ∧ (en a).2 ∈ V) : bal A en f χ = (V.map fun v => χ v * bal A en f (ind v)).sum := by
  rw [← bal_wsum];refine bal_ends _ _ fun a ha => ?_
  rw [wsum_e hn, wsum_e hn, if_pos (h a ha).1, if_pos (h a ha).2];exact ⟨rfl, rfl⟩
end
section
variable {w : TWeb} {c : Nat} {pr : TPrices} {S L : List Int} {A : List Arc} {f : Arc → Int}
/-- a flow is one on the net -/
theorem FlowOk.fl (hw : WebOk w c) (h : FlowOk w S pr A f) (hA : A.Nodup) (hg : PrG pr) :
    Fl (netA w S [-1]) (rmW pr) (enW w) S [-1] (fun a => if a ∈ A then f a else 0) ∧ vlu (netA w S [-1]) (enW w) S (fun a => if a ∈ A then f a else 0) = valF w S A f := by
  have nd : (netA w S [-1]).Nodup := (arcsN_nd w _).filter _
  have ov : ∀ χ : Int → Int, bal A (enW w) f χ = bal (netA w S [-1]) (enW w) (fun a => if a ∈ A then f a else 0) χ := fun χ => bal_over hA nd fun a ha hz => by
    obtain ⟨h1, h2⟩ := h.arc a ha;rw [mem_netA];rcases h2.way with q | q
    · exact absurd q hz
    · exact ⟨h1, q.1, by simpa using q.2⟩
  have er : ∀ a ∈ A, (-1 ≤ (enW w a).1 ∧ (enW w a).1 < (c : Int)) ∧ -1 ≤ (enW w a).2 ∧ (enW w a).2 < (c : Int) := fun a ha => by
    have m := mem_arcsN.mp (h.arc a ha).1;have := gate_rg hw m.1.1 m.1.2
    unfold enW;split
    · exact ⟨this.2, this.1⟩
    · exact this
  refine ⟨⟨fun a ha => ?_, fun a ha r hr => ?_, fun χ hS hT => ?_⟩, (ov _).symm⟩
  · split
    · rename_i z; exact (h.arc a z).2.n0
    · exact Int.le_refl _
  · split
    · rename_i z; exact (h.arc a z).2.cap r hr
    · unfold rmW at hr;have m := mem_arcsN.mp (mem_netA.mp ha).1
      split at hr
      · exact posP_at (fun p hp => (hg.s p hp).pos) a.1 r hr
      · exact posP_at (fun p hp => (hg.b p hp).pos) a.1 r hr
  · rw [← ov, bal_dec (V := rngL (-1) (c + 1)) (rngL_nodup _ _) fun a ha => by
      have := er a ha
      rw [mem_rngL, mem_rngL]; push_cast; omega]
    have : ∀ v ∈ rngL (-1) (c + 1), χ v * bal A (enW w) f (ind v) = 0 := fun v hv => by
      have hv := mem_rngL.mp hv
      push_cast at hv
      by_cases e : v = -1
      · rw [e, hT (-1) (by simp)]; simp
      · by_cases q : v ∈ S
        · rw [hS v q]; simp
        · rw [h.kept v (by omega) (by rw [hw.pc]; omega) q]; simp
    rw [List.map_congr_left this];generalize rngL (-1) (c + 1) = V
    induction V with
    | nil => rfl
    | cons x V ih => simpa using ih
end
end PW
namespace PW
open PySem PySem.Spec PyProof.Rows L2 RL TL TP
/-- few enough marks for a placing to be laid -/
def Few (w : TWeb) (L : List Int) : Prop := (savesOf w L).length < 63 ∧ (backsOf w L).length < 63
theorem Few.ext {w : TWeb} {L L' : List Int} (h : Few w L) (hm : ∀ x, x ∈ L' ↔ x ∈ L) : Few w L' := by
  unfold Few savesOf backsOf at *
  rw [isSave_ext hm, isBack_ext hm];exact h
def barCh (w : TWeb) (pr : TPrices) : Int → List Arc → Prop
  | p, [] => p = -1
  | p, a :: r => (enW w a).1 = p ∧ rmW pr a = none ∧ barCh w pr (enW w a).2 r
/-- a row of arcs without bound from a use to OUTSIDE -/
def BarRow (w : TWeb) (S : List Int) (pr : TPrices) (row : List Arc) : Prop := row ≠ [] ∧ (∀ a ∈ row, a ∈ arcsW w) ∧ ∃ s ∈ S, barCh w pr s row
section
variable {w : TWeb} {c : Nat} {pr : TPrices} {S L : List Int} {A row : List Arc} {f : Arc → Int} {u l : TLot}
/-- no lot with all the uses costs a number -/
theorem BarRow.none (h : BarRow w S pr row) (hL : Fit S L) : costO w pr.saves pr.backs L = none := by
  obtain ⟨_, ha, s, hs, hb⟩ := h;have key : ∀ (row : List Arc) (p : Int), (∀ a ∈ row, a ∈ arcsW w) → barCh w pr p row → p ∈ L → ∃ a ∈ row, (enW w a).1 ∈ L ∧ (enW w a).2 ∉ L ∧ rmW pr a = Option.none := by
    intro row;induction row with
    | nil =>
      intro p _ hb hp;have hb : p = -1 := hb
      exact absurd (hb ▸ hp) hL.2
    | cons a row ih =>
      intro p ha hb hp;obtain ⟨b1, b2, b3⟩ := hb
      by_cases q : (enW w a).2 ∈ L
      · obtain ⟨x, hx, y⟩ := ih _ (fun x hx => ha x (by simp [hx])) b3 q
        exact ⟨x, by simp [hx], y⟩
      · exact ⟨a, by simp, by rw [b1]; exact hp, q, b2⟩
  obtain ⟨a, har, h1, h2, h3⟩ := key row s ha hb (hL.1 s hs);have cc := cap_cost (w := w) (pr := pr) (S := []) (T := []) (L := L) (by simp) (by simp)
  rw [← cc];refine capO_none (a := a) (mem_netA.mpr ⟨ha a har, by simp, by simp⟩) ?_ h3
  unfold out;simp [h1, h2]
end
end PW
noncomputable section
namespace TL
open PySem PySem.Spec PyProof.Rows L2 RL
end TL
end
noncomputable section
namespace TL
open PySem PySem.Spec PyProof.Rows L2 RL
end TL
end
section
set_option maxHeartbeats 0
noncomputable section
namespace TP
open PySem PySem.Spec PyProof.Rows L2 RL SP TL
end TP
end
end
namespace PW
open PySem PySem.Spec PyProof.Rows L2 RL TL TP
/-- the least cost over the tried lots is that of all lots -/
theorem LeastL.all {w : TWeb} {c : Nat} {pr : TPrices} {U S : List Int} {Ls : List (List Int)} {a : Option Int} (hw : WebOk w c) (hL : LotsOk c U Ls) (ur : ∀ u ∈ U, 0 ≤ u ∧ u < (c : Int)) (hS : ∀ x, x ∈ S ↔ x ∈ U) (ha : LeastL w pr Ls a) : IsLc w pr S a := by
  refine IsMin.lc (ha.min hw (P := Fit S) (fun l hl => ⟨hL.sub l hl, fun u hu => ?_, fun h => ?_⟩) fun L hf => ?_)
  · have hu := (hS u).mp hu;exact hL.use l hl u hu (ur u hu).1 (ur u hu).2
  · have := mem_rngL.mp ((hL.sub l hl).subset h); omega
  · obtain ⟨l, q1, q2⟩ := hL.all L fun u hu _ _ => hf.1 u ((hS u).mpr hu)
    exact ⟨hf.2, l, q1, q2⟩
end PW
namespace PW
open PySem PySem.Spec PyProof.Rows L2 RL TL TP
/-- least costs by costs that are never lower -/
theorem IsLc.le {w w' : TWeb} {pr pr' : TPrices} {S S' : List Int} {a b : Option Int} (h : IsLc w pr S a) (h' : IsLc w' pr' S' b) (hc : ∀ L, Fit S' L → (∀ x ∈ L, 0 ≤ x ∧ x < w'.places) → ∀ y, costO w' pr'.saves pr'.backs L = Option.some y → ∃ L0, Fit S L0 ∧ ∃ x, costO w pr.saves pr.backs L0 = Option.some x ∧ x ≤ y) : leO a b := by
  intro y hy;rcases h' with ⟨rfl, _⟩ | ⟨v, L, rfl, f, rg, e, _⟩
  · cases hy
  · cases hy;obtain ⟨L0, f0, x, e0, l0⟩ := hc L f rg _ e
    rcases h with ⟨rfl, q⟩ | ⟨v', L', rfl, f', _, e', m'⟩
    · rw [q L0 f0] at e0; cases e0
    · exact ⟨v', rfl, by have := m' L0 f0 _ e0; omega⟩
end PW
namespace PW
open PySem PySem.Spec PyProof.Rows L2 RL TL TP
structure WU (t : TTold) (c : Nat) (nums : List (List (Option Int))) (U : List Int) : Prop where
  tt : Told 79 t
  ce : t.1 = c
  c9 : c ≤ 9
  xe : exitsOf t.1 t.2.2.2 = t.2.2.2
  nu : NumOk (gatesL (webOf t)).length nums
  ur : ∀ u ∈ U, 0 ≤ u ∧ u < (c : Int)
def prU (t : TTold) (nums : List (List (Option Int))) : TPrices := ⟨webOf t, nums.getD 0 [], nums.getD 1 []⟩
section
variable {t t' : TTold} {c c' : Nat} {nums nums' : List (List (Option Int))} {U U' : List Int}
theorem WU.web (h : WU t c nums U) : WebOk (webOf t) c := WebOk.of h.tt (by omega) h.ce (by have := h.c9; omega)
theorem WU.pr (h : WU t c nums U) : PrOk (prU t nums) ∧ PrG (prU t nums) ∧ nums = [(prU t nums).saves, (prU t nums).backs] := by
  obtain ⟨sv, bk, rfl, ls, lb, hs, hb⟩ := h.nu.ex;exact ⟨⟨ls, lb⟩, ⟨hs, hb⟩, rfl⟩
/-- least costs alike by lots alike -/
theorem IsLc.same {w w' : TWeb} {pr pr' : TPrices} {S S' : List Int} {a b : Option Int} (h : IsLc w pr S a) (h' : IsLc w' pr' S' b)
    (h1 : ∀ L, Fit S L → (∀ x ∈ L, 0 ≤ x ∧ x < w.places) → ∀ y, costO w pr.saves pr.backs L = Option.some y → ∃ L', Fit S' L' ∧ costO w' pr'.saves pr'.backs L' = Option.some y)
    (h2 : ∀ L, Fit S' L → (∀ x ∈ L, 0 ≤ x ∧ x < w'.places) → ∀ y, costO w' pr'.saves pr'.backs L = Option.some y → ∃ L', Fit S L' ∧ costO w pr.saves pr.backs L' = Option.some y) : a = b :=
  leO_anti (h.le h' fun L hf hr y hy => by
    obtain ⟨L', f', e⟩ := h2 L hf hr y hy;exact ⟨L', f', y, e, Int.le_refl _⟩) (h'.le h fun L hf hr y hy => by
    obtain ⟨L', f', e⟩ := h1 L hf hr y hy;exact ⟨L', f', y, e, Int.le_refl _⟩)
end
end PW
namespace SP
noncomputable section
open PySem PySem.Spec PyProof.Rows L2 RL
open RG (gnM YR YT pln yldM forY seqM itY)
@[simp] def t_steps_of_0 (K : Fg) (ρ : PEnv) : SR := (dropG (callM (m_check_whole K) (vlAg (vG (nmE 0)) (vlAg (vG (nmE 1)) nilAg)))) ρ
@[simp] def t_steps_of_1 (K : Fg) (ρ : PEnv) : SR := (setG 2 (vG (bind1 (nmE 0) (fldP (He.ga K "Web") "entry")))) ρ
@[simp] def t_steps_of_2 (K : Fg) (ρ : PEnv) : SR := (setG 2 (vG (bind2 (bind2 (bind1 (nmE 0) (fldP (He.ga K "Web") "edges")) (nmE 3) ixP) (fun _ => ER.ok (PV.sc (V.int 1))) ixP))) ρ
def s_steps_of (K : Fg) : PEnv → RG.YR := (seqM (pln (t_steps_of_0 K))
    (seqM (yldM (frzG (bindGA (consG (vG (fun _ => ER.ok (PV.sc (V.str ("gate" : Str))))) (consG (frzG (callM (m_Web_gate_in K) (recvM (He.ga K "Web") "gate_in" (vG (nmE 0)) nilAg))) nilG)) displayT)))
    (seqM (pln (t_steps_of_1 K))
    (seqM (yldM (frzG (fG (bindA (consA (fun _ => ER.ok (PV.sc (V.str ("place" : Str)))) (consA (nmE 2) nilA)) displayT))))
    (seqM (forY (iterI (vG (nmE 1)) seqF) (nmT 3)
    (seqM (yldM (frzG (fG (bindA (consA (fun _ => ER.ok (PV.sc (V.str ("gate" : Str)))) (consA (nmE 3) nilA)) displayT))))
    (seqM (pln (t_steps_of_2 K))
    (yldM (frzG (fG (bindA (consA (fun _ => ER.ok (PV.sc (V.str ("place" : Str)))) (consA (nmE 2) nilA)) displayT)))))))
    (yldM (frzG (bindGA (consG (vG (fun _ => ER.ok (PV.sc (V.str ("gate" : Str))))) (consG (frzG (callM (m_Web_gate_out K) (recvM (He.ga K "Web") "gate_out" (vG (nmE 0)) (vlAg (vG (nmE 2)) nilAg)))) nilG)) displayT))))))))
def m_steps_of (K : Fg) : List PV → RG.YT := RG.gnM 2 2 (s_steps_of K)
end
end SP
namespace TP
open PySem PySem.Spec PyProof.Rows L2 RL SP TL
open RG (YR YT pln yldM forY seqM itY gnM yK)
end TP
namespace SP
noncomputable section
open PySem PySem.Spec PyProof.Rows L2 RL
open RG (gnM YR YT pln yldM forY seqM itY)
@[simp] def t_check_gates_0 (K : Fg) (ρ : PEnv) : SR := (raiseG (He.ga K "NoGate") "number" (vG (nmE 2))) ρ
@[simp] def t_check_gates_1 (K : Fg) (ρ : PEnv) : SR := (ifG (fun ρ => ((bind2b (nmE 2) (frzE (bind1 (nmE 0) (ow1 (He.ga K "Web") (m_Web_gates K)))) geI) ρ).at ρ) (t_check_gates_0 K)
    skipS) ρ
@[simp] def t_check_gates_2 (K : Fg) (ρ : PEnv) : SR := (forG (iterI (frzG (callM (m_ascending K) (vlAg (frzG (fG (bindA (starA (bind1 (nmE 1) (fldP (He.ga K "Placing") "saves")) (starA (bind1 (nmE 1) (fldP (He.ga K "Placing") "backs")) nilA)) displayL))) nilAg))) seqF) (nmT 2)
    (t_check_gates_1 K)) ρ
def s_check_gates (K : Fg) : PEnv → SR := (t_check_gates_2 K)
def m_check_gates (K : Fg) : List PV → FR := fnM 2 1 [0, 1] (s_check_gates K)
@[simp] def t_played_0 (K : Fg) (ρ : PEnv) : SR := (dropG (callM (m_check_places K) (vlAg (vG (nmE 0)) (vlAg (vG (nmE 1)) nilAg)))) ρ
@[simp] def t_played_1 (K : Fg) (ρ : PEnv) : SR := (dropG (callM (m_check_gates K) (vlAg (vG (nmE 0)) (vlAg (vG (nmE 2)) nilAg)))) ρ
@[simp] def t_played_2 (K : Fg) (ρ : PEnv) : SR := (dropG (callM (m_check_whole K) (vlAg (vG (nmE 0)) (vlAg (vG (nmE 3)) nilAg)))) ρ
@[simp] def t_played_3 (K : Fg) (ρ : PEnv) : SR := (setG 4 (vG (fun _ => ER.ok (PV.sc (V.bl false))))) ρ
@[simp] def t_played_4 (K : Fg) (ρ : PEnv) : SR := (setG 5 (vG (fun _ => ER.ok (PV.sc (V.int 0))))) ρ
@[simp] def t_played_5 (K : Fg) (ρ : PEnv) : SR := (retG (fG (bindA (consA (nmE 5) (consA (fun _ => ER.ok (PV.sc (V.str ("used" : Str)))) nilA)) displayT))) ρ
@[simp] def t_played_6 (K : Fg) (ρ : PEnv) : SR := (ifG (fun ρ => ((andB (bind2b (nmE 7) (bind1 (nmE 1) (fldP (He.ga K "Lot") "places")) (inP false)) (notE (truE (nmE 4)))) ρ).at ρ) (t_played_5 K)
    skipS) ρ
@[simp] def t_played_7 (K : Fg) (ρ : PEnv) : SR := (retG (fG (bindA (consA (nmE 5) (consA (fun _ => ER.ok (PV.sc (V.str ("saved twice" : Str)))) nilA)) displayT))) ρ
@[simp] def t_played_8 (K : Fg) (ρ : PEnv) : SR := (ifG (fun ρ => ((truE (nmE 4)) ρ).at ρ) (t_played_7 K)
    skipS) ρ
@[simp] def t_played_9 (K : Fg) (ρ : PEnv) : SR := (setG 4 (vG (fun _ => ER.ok (PV.sc (V.bl true))))) ρ
@[simp] def t_played_10 (K : Fg) (ρ : PEnv) : SR := (retG (fG (bindA (consA (nmE 5) (consA (fun _ => ER.ok (PV.sc (V.str ("not saved" : Str)))) nilA)) displayT))) ρ
@[simp] def t_played_11 (K : Fg) (ρ : PEnv) : SR := (ifG (fun ρ => ((notE (truE (nmE 4))) ρ).at ρ) (t_played_10 K)
    skipS) ρ
@[simp] def t_played_12 (K : Fg) (ρ : PEnv) : SR := (setG 4 (vG (fun _ => ER.ok (PV.sc (V.bl false))))) ρ
@[simp] def t_played_13 (K : Fg) (ρ : PEnv) : SR := (ifG (fun ρ => ((bind2b (nmE 7) (bind1 (nmE 2) (fldP (He.ga K "Placing") "backs")) (inP false)) ρ).at ρ) (seqS (t_played_11 K)
    (t_played_12 K))
    skipS) ρ
@[simp] def t_played_14 (K : Fg) (ρ : PEnv) : SR := (ifG (fun ρ => ((bind2b (nmE 7) (bind1 (nmE 2) (fldP (He.ga K "Placing") "saves")) (inP false)) ρ).at ρ) (seqS (t_played_8 K)
    (t_played_9 K))
    (t_played_13 K)) ρ
@[simp] def t_played_15 (K : Fg) (ρ : PEnv) : SR := (ifG (fun ρ => ((bind2b (nmE 6) (fun _ => ER.ok (PV.sc (V.str ("place" : Str)))) eqP) ρ).at ρ) (t_played_6 K)
    (t_played_14 K)) ρ
@[simp] def t_played_16 (K : Fg) (ρ : PEnv) : SR := (setG 5 (bindG2s (vG (nmE 5)) (vG (fun _ => ER.ok (PV.sc (V.int 1)))) addI)) ρ
@[simp] def t_played_17 (K : Fg) (ρ : PEnv) : SR := (forG (itY (m_steps_of K) (consG (vG (nmE 0)) (consG (vG (nmE 3)) nilG))) (tupT 2 (consT (nmT 6) (consT (nmT 7) nilT)))
    (seqS (t_played_15 K)
    (t_played_16 K))) ρ
@[simp] def t_played_18 (K : Fg) (ρ : PEnv) : SR := (retG (vG (ifE (truE (nmE 4)) (frzE (bindA (consA (nmE 5) (consA (fun _ => ER.ok (PV.sc (V.str ("left" : Str)))) nilA)) displayT)) (fun _ => ER.ok (PV.sc V.non))))) ρ
end
end SP
section
set_option maxHeartbeats 0
noncomputable section
namespace TP
open PySem PySem.Spec PyProof.Rows L2 RL SP TL
end TP
end
end
namespace PW
open PySem PySem.Spec PyProof.Rows L2 RL SP TL TP
/-- one step: the word of its fault, or whether the seat is saved behind it -/
def fstep (U S B : Int → Bool) (saved : Bool) (x : String × Int) : Except String Bool :=
  if x.1 = "place" then (if U x.2 = true ∧ saved = false then .error "used" else .ok saved)
  else if S x.2 = true then (if saved = true then .error "saved twice" else .ok true)
  else if B x.2 = true then (if saved = false then .error "not saved" else .ok false)
  else .ok saved
/-- the first fault along these steps -/
def fgo (U S B : Int → Bool) : List (String × Int) → Bool → Int → Option (Int × String)
  | [], saved, k => if saved = true then some (k, "left") else none
  | x :: xs, saved, k => match fstep U S B saved x with
    | .error w => some (k, w)
    | .ok s => fgo U S B xs s (k + 1)
/-- the state behind a beginning without a fault -/
def fst' (U S B : Int → Bool) : List (String × Int) → Bool → Option Bool
  | [], saved => some saved
  | x :: xs, saved => match fstep U S B saved x with
    | .error _ => none
    | .ok s => fst' U S B xs s
theorem fgo_app (U S B : Int → Bool) : ∀ (a b : List (String × Int)) (s s' : Bool) (k : Int), fst' U S B a s = some s' → fgo U S B (a ++ b) s k = fgo U S B b s' (k + a.length)
  | [], b, s, s', k, h => by
    simp only [fst', Option.some.injEq] at h;subst h; simp
  | x :: a, b, s, s', k, h => by
    simp only [fst'] at h;simp only [List.cons_append, fgo]
    cases e : fstep U S B s x with
    | error w => rw [e] at h; cases h
    | ok s1 =>
      rw [e] at h
      dsimp only at h ⊢
      rw [fgo_app U S B a b s1 s' (k + 1) h];congr 1
      simp; omega
end PW
namespace PW
open PySem PySem.Spec PyProof.Rows L2 RL SP TL TP
end PW
namespace PW
open PySem PySem.Spec PyProof.Rows L2 RL SP TL TP
end PW
namespace PW
open PySem PySem.Spec PyProof.Rows L2 RL SP TL TP
structure Tolw (m : Nat) (t : TTold) : Prop where
  pr : ∀ e ∈ t.2.1, (0 ≤ e.1 ∧ e.1 < t.1) ∧ 0 ≤ e.2 ∧ e.2 < t.1
  pl : t.2.1.length ≤ m
  og : 0 ≤ t.2.2.1 ∧ t.2.2.1 < t.1
  g0 : t.2.2.2 ≠ []
  gr : ∀ g ∈ t.2.2.2, 0 ≤ g ∧ g < t.1
  gn : t.2.2.2.Nodup
  bw : ∀ x, 0 ≤ x → x < t.1 → Rch (swp t.2.1) t.2.2.2 x
theorem Told.w {m : Nat} {t : TTold} (h : Told m t) {o : Int} (h0 : 0 ≤ o) (h1 : o < t.1) : Tolw m (t.1, t.2.1, o, t.2.2.2) := ⟨h.pr, h.pl, ⟨h0, h1⟩, h.g0, h.gr, h.gn, h.bw⟩
structure WG (N mo c m : Nat) (t : TTold) : Prop where
  ht : Tolw m t
  hN : N < 500000
  hm : m ≤ 250
  hc : t.1 = c
  c30 : c ≤ 30
  mo1 : mo ≤ 1000
theorem WG.pr {N mo c m : Nat} {t : TTold} (w : WG N mo c m t) : ∀ e ∈ t.2.1, (0 ≤ e.1 ∧ e.1 < (c : Int)) ∧ 0 ≤ e.2 ∧ e.2 < (c : Int) := fun e he => by have := w.ht.pr e he; have := w.hc; omega
theorem WG.fl {N mo c m : Nat} {t : TTold} (w : WG N mo c m t) : ∀ x, 0 ≤ x → x < (c : Int) → farN t.2.1 t.2.2.2 c x < c := fun x x0 x1 => far_lt (by omega) w.ht.g0 (fun g hg => by have := w.ht.gr g hg; have := w.hc; omega) w.pr (fun x x0 x1 => w.ht.bw x x0 (by have := w.hc; omega)) x0 x1
end PW
namespace PW
open PySem PySem.Spec PyProof.Rows L2 RL SP TL TP
/-- steps that lead from the state r to the state r': In tells the places' states, a gate leads from A to Z -/
def Pth (In A Z : Int → Bool) : List (String × Int) → Bool → Bool → Prop
  | [], r, r' => r = r'
  | x :: xs, r, r' => if x.1 = "place" then r = In x.2 ∧ Pth In A Z xs r r' else r = A x.2 ∧ Pth In A Z xs (Z x.2) r'
structure Marks (A Z S B : Int → Bool) : Prop where
  s : ∀ g, S g = true ↔ A g = false ∧ Z g = true
  b : ∀ g, B g = true ↔ A g = true ∧ Z g = false
theorem Marks.gate {A Z S B U : Int → Bool} (h : Marks A Z S B) {x : String × Int} (hx : ¬ x.1 = "place") : fstep U S B (A x.2) x = .ok (Z x.2) := by
  have h1 := h.s x.2;have h2 := h.b x.2
  unfold fstep;rw [if_neg hx]
  cases ha : A x.2 <;> cases hz : Z x.2 <;> cases hs : S x.2 <;> cases hb : B x.2 <;> simp_all
theorem Pth.fst {In A Z S B U : Int → Bool} (h : Marks A Z S B) : ∀ {Y : List (String × Int)} {r r' : Bool}, Pth In A Z Y r r' → (∀ y ∈ Y, y.1 = "place" → U y.2 = true → In y.2 = true) → fst' U S B Y r = some r'
  | [], r, r', hp, _ => by rw [show r = r' from hp]; rfl
  | x :: xs, r, r', hp, hU => by
    have hU' : ∀ y ∈ xs, y.1 = "place" → U y.2 = true → In y.2 = true := fun y hy => hU y (List.mem_cons_of_mem _ hy)
    unfold Pth at hp;unfold fst'
    by_cases c : x.1 = "place"
    · rw [if_pos c] at hp;have e : fstep U S B r x = .ok r := by
        unfold fstep;rw [if_pos c, if_neg]
        rintro ⟨h1, h2⟩;have := hU x List.mem_cons_self c h1
        rw [← hp.1, h2] at this; cases this
      rw [e];exact Pth.fst h hp.2 hU'
    · rw [if_neg c] at hp;rw [hp.1, h.gate c]
      exact Pth.fst h hp.2 hU'
theorem Pth.split {In A Z : Int → Bool} : ∀ {a b : List (String × Int)} {r r' : Bool}, Pth In A Z (a ++ b) r r' → ∃ s, Pth In A Z a r s ∧ Pth In A Z b s r'
  | [], b, r, r', h => ⟨r, rfl, h⟩
  | x :: a, b, r, r', h => by
    unfold Pth at h;simp only [List.cons_append] at h
    by_cases c : x.1 = "place"
    · rw [if_pos c] at h;obtain ⟨s, h1, h2⟩ := Pth.split h.2
      exact ⟨s, by unfold Pth; rw [if_pos c]; exact ⟨h.1, h1⟩, h2⟩
    · rw [if_neg c] at h;obtain ⟨s, h1, h2⟩ := Pth.split h.2
      exact ⟨s, by unfold Pth; rw [if_neg c]; exact ⟨h.1, h1⟩, h2⟩
/-- no fault -/
theorem Pth.none {In A Z S B U : Int → Bool} (h : Marks A Z S B) {Y : List (String × Int)} (hp : Pth In A Z Y false false) (hU : ∀ y ∈ Y, y.1 = "place" → U y.2 = true → In y.2 = true) (k : Int) : fgo U S B Y false k = Option.none := by
  have := fgo_app U S B Y [] false false k (hp.fst h hU)
  rw [List.append_nil] at this;rw [this]; rfl
def inA (w : TWeb) (I : List Int) (g : Int) : Bool := decide (0 ≤ g) && memL (gateAt w g).1 I
def inZ (w : TWeb) (I : List Int) (g : Int) : Bool := decide (0 ≤ g) && memL (gateAt w g).2 I
theorem gate_out {w : TWeb} {g : Int} (hg : ¬ g < (gatesL w).length) : gateAt w g = (0, 0) := by
  unfold gateAt;rw [List.getD_eq_getElem?_getD, List.getElem?_eq_none (by omega)]; rfl
theorem marks_of (w : TWeb) (I : List Int) : Marks (inA w I) (inZ w I) (fun x => memL x (savesOf w I)) (fun x => memL x (backsOf w I)) := by
  have key : ∀ (P : Int → Bool) (g : Int), (¬ g < (gatesL w).length → P g = false) → (memL g ((rngL 0 (gatesL w).length).filter P) = true ↔ 0 ≤ g ∧ P g = true) := fun P g hP => by
    simp only [memL, decide_eq_true_eq, List.mem_filter, mem_rngL];constructor
    · rintro ⟨⟨h1, _⟩, h2⟩; exact ⟨h1, h2⟩
    · rintro ⟨h1, h2⟩;by_cases hg : g < (gatesL w).length
      · exact ⟨⟨h1, by omega⟩, h2⟩
      · rw [hP hg] at h2; cases h2
  constructor
  · intro g;show memL g ((rngL 0 (gatesL w).length).filter (isSave w I)) = true ↔ _
    rw [key _ g fun hg => by unfold isSave; rw [gate_out hg]; simp]
    unfold inA inZ isSave;by_cases h0 : 0 ≤ g <;> simp [h0, memL]
  · intro g;show memL g ((rngL 0 (gatesL w).length).filter (isBack w I)) = true ↔ _
    rw [key _ g fun hg => by unfold isBack; rw [gate_out hg]; simp]
    unfold inA inZ isBack;by_cases h0 : 0 ≤ g <;> simp [h0, memL]
end PW
namespace PW
open PySem PySem.Spec PyProof.Rows L2 RL SP TL TP
end PW
namespace TP
open PySem PySem.Spec PyProof.Rows L2 RL SP TL
open RG (YR YT pln yldM forY seqM itY gnM yK)
end TP
namespace SP
noncomputable section
open PySem PySem.Spec PyProof.Rows L2 RL
open RG (gnM YR YT pln yldM forY seqM itY)
@[simp] def t_check_count_0 (K : Fg) (ρ : PEnv) : SR := (raiseG (He.ga K "TooMany") "count" (vG (bind1 (nmE 0) (fldP (He.ga K "Web") "places")))) ρ
@[simp] def t_check_count_1 (K : Fg) (ρ : PEnv) : SR := (ifG (fun ρ => ((bind2b (bind1 (nmE 0) (fldP (He.ga K "Web") "places")) (fun _ => ER.ok (PV.sc (V.int 12))) gtI) ρ).at ρ) (t_check_count_0 K)
    skipS) ρ
def s_check_count (K : Fg) : PEnv → SR := (t_check_count_1 K)
def m_check_count (K : Fg) : List PV → FR := fnM 1 0 [0] (s_check_count K)
@[simp] def t_lots_with_u_0 (K : Fg) (ρ : PEnv) : SR := (setG 2 (frzG (compG (iterA (consG (vG (bind1 (nmE 0) (fldP (He.ga K "Web") "places"))) nilG) rngK1) (nmT 3) (fun ρ => ((bind2b (nmE 3) (nmE 1) (owIn true (He.ga K "Lot") (m_Lot_contains K))) ρ).at ρ) (vG (nmE 3)) [3]))) ρ
def s_lots_with_u (K : Fg) : PEnv → RG.YR := (seqM (pln (t_lots_with_u_0 K))
    (forY (iterA (consG (vG (bind2s (fun _ => ER.ok (PV.sc (V.int 1))) (frzE (bindA (consA (nmE 2) nilA) lenA)) shlI)) nilG) rngK1) (nmT 4)
    (yldM (frzG (makeM (He.ga K "Lot") (m_Lot_init_u K) (vlAg (frzG (bindGA (starOG (He.ga K "Lot") "places" (m_Lot_len K) (vG (nmE 1)) (starG (frzG (compG (iterA (consG (vG (nmE 2)) nilG) enumK) (tupT 2 (consT (nmT 5) (consT (nmT 3) nilT))) (fun ρ => ((bind2b (bind2s (bind2s (nmE 4) (nmE 5) shrI) (fun _ => ER.ok (PV.sc (V.int 1))) andI) (fun _ => ER.ok (PV.sc (V.int 1))) eqP) ρ).at ρ) (vG (nmE 3)) [5, 3])) nilG)) displayL)) nilAg))))))
def m_lots_with_u (K : Fg) : List PV → RG.YT := RG.gnM 2 4 (s_lots_with_u K)
end
end SP
section
set_option maxHeartbeats 0
noncomputable section
namespace TP
open PySem PySem.Spec PyProof.Rows L2 RL SP TL
end TP
end
end
namespace TP
open PySem PySem.Spec PyProof.Rows L2 RL SP TL
open RG (YR YT pln yldM forY seqM itY gnM yK)
end TP
section
set_option maxHeartbeats 0
noncomputable section
namespace TP
open PySem PySem.Spec PyProof.Rows L2 RL SP TL
open RG (YR YT pln yldM forY seqM itY gnM yK)
variable {K : Fg}
theorem st_ok {f : GR (List PV)} {ρ' : PEnv} {xs : List PV} (h : (f.st fun xs ρ => SR.rt (.tup xs) ρ) = .rt (.tup xs) ρ') : f = .ok xs ρ' := by
  cases f with
  | ok q ρ1 => cases h; rfl
  | exc x ρ1 => cases h
  | stk => cases h
end TP
end
end
namespace PW
open PySem PySem.Spec PyProof.Rows L2 RL SP TL TP
end PW
noncomputable section
namespace TL
open PySem PySem.Spec PyProof.Rows L2 RL
section
variable {α β : Type} {f : α → PV} {ρ : PEnv}
@[irreducible] def getP (k : Int × Bool) (d : List ((Int × Bool) × α)) : Option α := (d.find? fun x => decide (x.1 = k)).map (·.2)
end
end TL
namespace TP
open PySem PySem.Spec PyProof.Rows L2 RL SP TL
end TP
end
noncomputable section
namespace TL
open PySem PySem.Spec PyProof.Rows L2 RL
end TL
end
namespace SP
noncomputable section
open PySem PySem.Spec PyProof.Rows L2 RL
open RG (gnM YR YT pln yldM forY seqM itY)
@[simp] def t_check_gates_u_0 (K : Fg) (ρ : PEnv) : SR := (raiseG (He.ga K "NoGate") "number" (vG (nmE 2))) ρ
@[simp] def t_check_gates_u_1 (K : Fg) (ρ : PEnv) : SR := (ifG (fun ρ => ((bind2b (nmE 2) (frzE (bind1 (nmE 0) (ow1 (He.ga K "Web") (m_Web_gates K)))) geI) ρ).at ρ) (t_check_gates_u_0 K)
    skipS) ρ
@[simp] def t_check_gates_u_2 (K : Fg) (ρ : PEnv) : SR := (forG (iterI (frzG (callM (m_ascending_u K) (vlAg (frzG (fG (bindA (starA (bind1 (nmE 1) (fldP (He.ga K "Placing") "saves")) (starA (bind1 (nmE 1) (fldP (He.ga K "Placing") "backs")) nilA)) displayL))) nilAg))) seqF) (nmT 2)
    (t_check_gates_u_1 K)) ρ
def s_check_gates_u (K : Fg) : PEnv → SR := (t_check_gates_u_2 K)
def m_check_gates_u (K : Fg) : List PV → FR := fnM 2 1 [0, 1] (s_check_gates_u K)
@[simp] def t_played_u_0 (K : Fg) (ρ : PEnv) : SR := (dropG (callM (m_check_places K) (vlAg (vG (nmE 0)) (vlAg (vG (nmE 1)) nilAg)))) ρ
@[simp] def t_played_u_1 (K : Fg) (ρ : PEnv) : SR := (dropG (callM (m_check_gates_u K) (vlAg (vG (nmE 0)) (vlAg (vG (nmE 2)) nilAg)))) ρ
@[simp] def t_played_u_2 (K : Fg) (ρ : PEnv) : SR := (dropG (callM (m_check_whole K) (vlAg (vG (nmE 0)) (vlAg (vG (nmE 3)) nilAg)))) ρ
@[simp] def t_played_u_3 (K : Fg) (ρ : PEnv) : SR := (setG 4 (vG (fun _ => ER.ok (PV.sc (V.bl false))))) ρ
@[simp] def t_played_u_4 (K : Fg) (ρ : PEnv) : SR := (setG 5 (vG (fun _ => ER.ok (PV.sc (V.int 0))))) ρ
@[simp] def t_played_u_5 (K : Fg) (ρ : PEnv) : SR := (retG (fG (bindA (consA (nmE 5) (consA (fun _ => ER.ok (PV.sc (V.str ("used" : Str)))) nilA)) displayT))) ρ
@[simp] def t_played_u_6 (K : Fg) (ρ : PEnv) : SR := (ifG (fun ρ => ((andB (bind2b (nmE 7) (bind1 (nmE 1) (fldP (He.ga K "Lot") "places")) (inP false)) (notE (truE (nmE 4)))) ρ).at ρ) (t_played_u_5 K)
    skipS) ρ
@[simp] def t_played_u_7 (K : Fg) (ρ : PEnv) : SR := (retG (fG (bindA (consA (nmE 5) (consA (fun _ => ER.ok (PV.sc (V.str ("saved twice" : Str)))) nilA)) displayT))) ρ
@[simp] def t_played_u_8 (K : Fg) (ρ : PEnv) : SR := (ifG (fun ρ => ((truE (nmE 4)) ρ).at ρ) (t_played_u_7 K)
    skipS) ρ
@[simp] def t_played_u_9 (K : Fg) (ρ : PEnv) : SR := (setG 4 (vG (fun _ => ER.ok (PV.sc (V.bl true))))) ρ
@[simp] def t_played_u_10 (K : Fg) (ρ : PEnv) : SR := (retG (fG (bindA (consA (nmE 5) (consA (fun _ => ER.ok (PV.sc (V.str ("not saved" : Str)))) nilA)) displayT))) ρ
@[simp] def t_played_u_11 (K : Fg) (ρ : PEnv) : SR := (ifG (fun ρ => ((notE (truE (nmE 4))) ρ).at ρ) (t_played_u_10 K)
    skipS) ρ
@[simp] def t_played_u_12 (K : Fg) (ρ : PEnv) : SR := (setG 4 (vG (fun _ => ER.ok (PV.sc (V.bl false))))) ρ
@[simp] def t_played_u_13 (K : Fg) (ρ : PEnv) : SR := (ifG (fun ρ => ((bind2b (nmE 7) (bind1 (nmE 2) (fldP (He.ga K "Placing") "backs")) (inP false)) ρ).at ρ) (seqS (t_played_u_11 K)
    (t_played_u_12 K))
    skipS) ρ
@[simp] def t_played_u_14 (K : Fg) (ρ : PEnv) : SR := (ifG (fun ρ => ((bind2b (nmE 7) (bind1 (nmE 2) (fldP (He.ga K "Placing") "saves")) (inP false)) ρ).at ρ) (seqS (t_played_u_8 K)
    (t_played_u_9 K))
    (t_played_u_13 K)) ρ
@[simp] def t_played_u_15 (K : Fg) (ρ : PEnv) : SR := (ifG (fun ρ => ((bind2b (nmE 6) (fun _ => ER.ok (PV.sc (V.str ("place" : Str)))) eqP) ρ).at ρ) (t_played_u_6 K)
    (t_played_u_14 K)) ρ
@[simp] def t_played_u_16 (K : Fg) (ρ : PEnv) : SR := (setG 5 (bindG2s (vG (nmE 5)) (vG (fun _ => ER.ok (PV.sc (V.int 1)))) addI)) ρ
@[simp] def t_played_u_17 (K : Fg) (ρ : PEnv) : SR := (forG (itY (m_steps_of K) (consG (vG (nmE 0)) (consG (vG (nmE 3)) nilG))) (tupT 2 (consT (nmT 6) (consT (nmT 7) nilT)))
    (seqS (t_played_u_15 K)
    (t_played_u_16 K))) ρ
@[simp] def t_played_u_18 (K : Fg) (ρ : PEnv) : SR := (retG (vG (ifE (truE (nmE 4)) (frzE (bindA (consA (nmE 5) (consA (fun _ => ER.ok (PV.sc (V.str ("left" : Str)))) nilA)) displayT)) (fun _ => ER.ok (PV.sc V.non))))) ρ
def s_played_u (K : Fg) : PEnv → SR := (seqS (t_played_u_0 K)
    (seqS (t_played_u_1 K)
    (seqS (t_played_u_2 K)
    (seqS (t_played_u_3 K)
    (seqS (t_played_u_4 K)
    (seqS (t_played_u_17 K)
    (t_played_u_18 K)))))))
def m_played_u (K : Fg) : List PV → FR := fnM 4 4 [0, 1, 2, 3] (s_played_u K)
@[simp] def t_Verdict_init_0 (K : Fg) (ρ : PEnv) : SR := (setFldG 0 (He.ga K "Verdict") "right" (vG (nmE 1))) ρ
@[simp] def t_Verdict_init_1 (K : Fg) (ρ : PEnv) : SR := (setFldG 0 (He.ga K "Verdict") "paper" (vG (nmE 2))) ρ
def s_Verdict_init (K : Fg) : PEnv → SR := (seqS (t_Verdict_init_0 K)
    (t_Verdict_init_1 K))
def m_Verdict_init (K : Fg) : List PV → FR := fnM 3 0 [0, 1, 2] (s_Verdict_init K)
@[simp] def t_Walker_init_0 (K : Fg) (ρ : PEnv) : SR := (setFldG 0 (He.ga K "Walker") "web" (vG (nmE 1))) ρ
@[simp] def t_Walker_init_1 (K : Fg) (ρ : PEnv) : SR := (setFldG 0 (He.ga K "Walker") "needs" (vG (nmE 2))) ρ
@[simp] def t_Walker_init_2 (K : Fg) (ρ : PEnv) : SR := (setFldG 0 (He.ga K "Walker") "placing" (vG (nmE 3))) ρ
@[simp] def t_Walker_init_3 (K : Fg) (ρ : PEnv) : SR := (setFldG 0 (He.ga K "Walker") "before" (fG (fun _ => ER.ok (PV.dtb true [] [])))) ρ
@[simp] def t_Walker_init_4 (K : Fg) (ρ : PEnv) : SR := (setFldG 0 (He.ga K "Walker") "waiting" (fG (bindA nilA displayL))) ρ
def s_Walker_init (K : Fg) : PEnv → SR := (seqS (t_Walker_init_0 K)
    (seqS (t_Walker_init_1 K)
    (seqS (t_Walker_init_2 K)
    (seqS (t_Walker_init_3 K)
    (t_Walker_init_4 K)))))
def m_Walker_init (K : Fg) : List PV → FR := fnM 4 0 [0, 1, 2, 3] (s_Walker_init K)
@[simp] def t_Walker_after_0 (K : Fg) (ρ : PEnv) : SR := (retG (vG (ifE (truE (nmE 2)) (fun _ => ER.ok (PV.sc V.non)) (fun _ => ER.ok (PV.sc (V.bl true)))))) ρ
@[simp] def t_Walker_after_1 (K : Fg) (ρ : PEnv) : SR := (ifG (fun ρ => ((bind2b (nmE 1) (bind1 (bind1 (nmE 0) (fldP (He.ga K "Walker") "placing")) (fldP (He.ga K "Placing") "saves")) (inP false)) ρ).at ρ) (t_Walker_after_0 K)
    skipS) ρ
@[simp] def t_Walker_after_2 (K : Fg) (ρ : PEnv) : SR := (retG (vG (ifE (truE (nmE 2)) (fun _ => ER.ok (PV.sc (V.bl false))) (fun _ => ER.ok (PV.sc V.non))))) ρ
@[simp] def t_Walker_after_3 (K : Fg) (ρ : PEnv) : SR := (ifG (fun ρ => ((bind2b (nmE 1) (bind1 (bind1 (nmE 0) (fldP (He.ga K "Walker") "placing")) (fldP (He.ga K "Placing") "backs")) (inP false)) ρ).at ρ) (t_Walker_after_2 K)
    skipS) ρ
@[simp] def t_Walker_after_4 (K : Fg) (ρ : PEnv) : SR := (retG (vG (nmE 2))) ρ
def s_Walker_after (K : Fg) : PEnv → SR := (seqS (t_Walker_after_1 K)
    (seqS (t_Walker_after_3 K)
    (t_Walker_after_4 K)))
def m_Walker_after (K : Fg) : List PV → FR := fnM 3 0 [0, 1, 2] (s_Walker_after K)
@[simp] def t_Walker_row_to_0 (K : Fg) (ρ : PEnv) : SR := (setG 2 (fG (bindA nilA displayL))) ρ
@[simp] def t_Walker_row_to_1 (K : Fg) (ρ : PEnv) : SR := (asgG (tupT 2 (consT (nmT 1) (consT (nmT 3) nilT))) (vG (bind2 (bind1 (nmE 0) (fldP (He.ga K "Walker") "before")) (nmE 1) ixU))) ρ
@[simp] def t_Walker_row_to_2 (K : Fg) (ρ : PEnv) : SR := (dropG (mutE 2 (consG (vG (nmE 3)) nilG) appA)) ρ
@[simp] def t_Walker_row_to_3 (K : Fg) (ρ : PEnv) : SR := (whileG (fun ρ => ((isnE true (bind2 (bind1 (nmE 0) (fldP (He.ga K "Walker") "before")) (nmE 1) ixU)) ρ).at ρ) (seqS (t_Walker_row_to_1 K)
    (t_Walker_row_to_2 K))) ρ
@[simp] def t_Walker_row_to_4 (K : Fg) (ρ : PEnv) : SR := (retG (fG (bindA (consA (frzE (bind1 (nmE 2) revP)) nilA) tupA))) ρ
def s_Walker_row_to (K : Fg) : PEnv → SR := (seqS (t_Walker_row_to_0 K)
    (seqS (t_Walker_row_to_3 K)
    (t_Walker_row_to_4 K)))
def m_Walker_row_to (K : Fg) : List PV → FR := fnM 2 2 [0] (s_Walker_row_to K)
@[simp] def t_Walker_to_exit_0 (K : Fg) (ρ : PEnv) : SR := (retG (callM (m_row_between K) (vlAg (vG (bind1 (nmE 0) (fldP (He.ga K "Walker") "web"))) (vlAg (vG (nmE 1)) (vlAg (vG (bind1 (bind1 (nmE 0) (fldP (He.ga K "Walker") "web")) (fldP (He.ga K "Web") "exits"))) nilAg))))) ρ
def s_Walker_to_exit (K : Fg) : PEnv → SR := (t_Walker_to_exit_0 K)
def m_Walker_to_exit (K : Fg) : List PV → FR := fnM 2 0 [0, 1] (s_Walker_to_exit K)
@[simp] def t_Walker_fails_at_0 (K : Fg) (ρ : PEnv) : SR := (asgG (tupW 2 (consT (nmT 2) (consT (nmT 3) nilT))) (vG (nmE 1))) ρ
@[simp] def t_Walker_fails_at_1 (K : Fg) (ρ : PEnv) : SR := (retG (vG (fun _ => ER.ok (PV.sc (V.bl true))))) ρ
@[simp] def t_Walker_fails_at_2 (K : Fg) (ρ : PEnv) : SR := (ifG (fun ρ => ((andB (bind2b (nmE 2) (bind1 (nmE 0) (fldP (He.ga K "Walker") "needs")) (owIn false (He.ga K "Lot") (m_Lot_contains K))) (notE (truE (nmE 3)))) ρ).at ρ) (t_Walker_fails_at_1 K)
    skipS) ρ
@[simp] def t_Walker_fails_at_3 (K : Fg) (ρ : PEnv) : SR := (retG (vG (fun _ => ER.ok (PV.sc (V.bl false))))) ρ
@[simp] def t_Walker_fails_at_4 (K : Fg) (ρ : PEnv) : SR := (ifG (fun ρ => ((bind2b (nmE 2) (bind1 (bind1 (nmE 0) (fldP (He.ga K "Walker") "web")) (fldP (He.ga K "Web") "exits")) (inP true)) ρ).at ρ) (t_Walker_fails_at_3 K)
    skipS) ρ
@[simp] def t_Walker_fails_at_5 (K : Fg) (ρ : PEnv) : SR := (retG (bindG2s (frzG (callM (m_Walker_after K) (recvM (He.ga K "Walker") "after" (vG (nmE 0)) (vlAg (frzG (callM (m_Web_gate_out K) (recvM (He.ga K "Web") "gate_out" (vG (bind1 (nmE 0) (fldP (He.ga K "Walker") "web"))) (vlAg (vG (nmE 2)) nilAg)))) (vlAg (vG (nmE 3)) nilAg))))) (vG (fun _ => ER.ok (PV.sc (V.bl false)))) fun p q => ((isBX true) p q).map V.bl)) ρ
def s_Walker_fails_at (K : Fg) : PEnv → SR := (seqS (t_Walker_fails_at_0 K)
    (seqS (t_Walker_fails_at_2 K)
    (seqS (t_Walker_fails_at_4 K)
    (t_Walker_fails_at_5 K))))
def m_Walker_fails_at (K : Fg) : List PV → FR := fnM 2 2 [0, 1] (s_Walker_fails_at K)
@[simp] def t_Walker_wrong_from_0 (K : Fg) (ρ : PEnv) : SR := (asgG (tupW 2 (consT (nmT 2) (consT (nmT 3) nilT))) (vG (nmE 1))) ρ
@[simp] def t_Walker_wrong_from_1 (K : Fg) (ρ : PEnv) : SR := (retG (bindG2 (frzG (lendW 0 (callM (m_Walker_row_to K) (recvM (He.ga K "Walker") "row_to" (vG (nmE 0)) (vlAg (vG (nmE 1)) nilAg))))) (frzG (lendW 0 (callM (m_Walker_to_exit K) (recvM (He.ga K "Walker") "to_exit" (vG (nmE 0)) (vlAg (vG (nmE 2)) nilAg))))) addU)) ρ
@[simp] def t_Walker_wrong_from_2 (K : Fg) (ρ : PEnv) : SR := (ifG (fun ρ => ((andB (bind2b (nmE 2) (bind1 (nmE 0) (fldP (He.ga K "Walker") "needs")) (owIn false (He.ga K "Lot") (m_Lot_contains K))) (notE (truE (nmE 3)))) ρ).at ρ) (t_Walker_wrong_from_1 K)
    skipS) ρ
@[simp] def t_Walker_wrong_from_3 (K : Fg) (ρ : PEnv) : SR := (retG (lendW 0 (callM (m_Walker_row_to K) (recvM (He.ga K "Walker") "row_to" (vG (nmE 0)) (vlAg (vG (nmE 1)) nilAg))))) ρ
@[simp] def t_Walker_wrong_from_4 (K : Fg) (ρ : PEnv) : SR := (ifG (truG (frzG (lendW 0 (callM (m_Walker_fails_at K) (recvM (He.ga K "Walker") "fails_at" (vG (nmE 0)) (vlAg (vG (nmE 1)) nilAg)))))) (t_Walker_wrong_from_3 K)
    skipS) ρ
@[simp] def t_Walker_wrong_from_5 (K : Fg) (ρ : PEnv) : SR := (ifG (fun ρ => ((bind2b (nmE 5) (nmE 2) neP) ρ).at ρ) SR.ct
    skipS) ρ
@[simp] def t_Walker_wrong_from_6 (K : Fg) (ρ : PEnv) : SR := (setG 7 (frzG (lendW 0 (callM (m_Walker_after K) (recvM (He.ga K "Walker") "after" (vG (nmE 0)) (vlAg (vG (nmE 4)) (vlAg (vG (nmE 3)) nilAg))))))) ρ
@[simp] def t_Walker_wrong_from_7 (K : Fg) (ρ : PEnv) : SR := (retG (bindGA (starG (frzG (lendW 0 (callM (m_Walker_row_to K) (recvM (He.ga K "Walker") "row_to" (vG (nmE 0)) (vlAg (vG (nmE 1)) nilAg))))) (consG (vG (nmE 4)) (starG (frzG (lendW 0 (callM (m_Walker_to_exit K) (recvM (He.ga K "Walker") "to_exit" (vG (nmE 0)) (vlAg (vG (nmE 6)) nilAg))))) nilG))) displayT)) ρ
@[simp] def t_Walker_wrong_from_8 (K : Fg) (ρ : PEnv) : SR := (ifG (fun ρ => ((isnE false (nmE 7)) ρ).at ρ) (t_Walker_wrong_from_7 K)
    skipS) ρ
@[simp] def t_Walker_wrong_from_9 (K : Fg) (ρ : PEnv) : SR := (setP 0 [((He.ga K "Walker"), "before")] (frzE (bindA (consA (nmE 6) (consA (nmE 7) nilA)) displayT)) (frzG (fG (bindA (consA (nmE 1) (consA (nmE 4) nilA)) displayT)))) ρ
@[simp] def t_Walker_wrong_from_10 (K : Fg) (ρ : PEnv) : SR := (dropG (mutP 0 [((He.ga K "Walker"), "waiting")] (consA (frzE (bindA (consA (nmE 6) (consA (nmE 7) nilA)) displayT)) nilA) appA)) ρ
@[simp] def t_Walker_wrong_from_11 (K : Fg) (ρ : PEnv) : SR := (ifG (fun ρ => ((bind2b (frzE (bindA (consA (nmE 6) (consA (nmE 7) nilA)) displayT)) (bind1 (nmE 0) (fldP (He.ga K "Walker") "before")) (inU true)) ρ).at ρ) (seqS (t_Walker_wrong_from_9 K)
    (t_Walker_wrong_from_10 K))
    skipS) ρ
@[simp] def t_Walker_wrong_from_12 (K : Fg) (ρ : PEnv) : SR := (forG (iterA (consG (vG (bind1 (bind1 (nmE 0) (fldP (He.ga K "Walker") "web")) (fldP (He.ga K "Web") "edges"))) nilG) enumK) (tupT 2 (consT (nmT 4) (consT (tupT 2 (consT (nmT 5) (consT (nmT 6) nilT))) nilT)))
    (seqS (t_Walker_wrong_from_5 K)
    (seqS (t_Walker_wrong_from_6 K)
    (seqS (t_Walker_wrong_from_8 K)
    (t_Walker_wrong_from_11 K))))) ρ
@[simp] def t_Walker_wrong_from_13 (K : Fg) (ρ : PEnv) : SR := (retG (vG (fun _ => ER.ok (PV.sc V.non)))) ρ
def s_Walker_wrong_from (K : Fg) : PEnv → SR := (seqS (t_Walker_wrong_from_0 K)
    (seqS (t_Walker_wrong_from_2 K)
    (seqS (t_Walker_wrong_from_4 K)
    (seqS (t_Walker_wrong_from_12 K)
    (t_Walker_wrong_from_13 K)))))
def m_Walker_wrong_from (K : Fg) : List PV → FR := fnM 2 6 [0, 1] (s_Walker_wrong_from K)
@[simp] def t_Walker_wrong_way_0 (K : Fg) (ρ : PEnv) : SR := (setG 1 (frzG (lendW 0 (callM (m_Walker_after K) (recvM (He.ga K "Walker") "after" (vG (nmE 0)) (vlAg (frzG (callM (m_Web_gate_in K) (recvM (He.ga K "Web") "gate_in" (vG (bind1 (nmE 0) (fldP (He.ga K "Walker") "web"))) nilAg))) (vlAg (vG (fun _ => ER.ok (PV.sc (V.bl false)))) nilAg))))))) ρ
@[simp] def t_Walker_wrong_way_1 (K : Fg) (ρ : PEnv) : SR := (retG (lendW 0 (callM (m_Walker_to_exit K) (recvM (He.ga K "Walker") "to_exit" (vG (nmE 0)) (vlAg (vG (bind1 (bind1 (nmE 0) (fldP (He.ga K "Walker") "web")) (fldP (He.ga K "Web") "entry"))) nilAg))))) ρ
@[simp] def t_Walker_wrong_way_2 (K : Fg) (ρ : PEnv) : SR := (ifG (fun ρ => ((isnE false (nmE 1)) ρ).at ρ) (t_Walker_wrong_way_1 K)
    skipS) ρ
@[simp] def t_Walker_wrong_way_3 (K : Fg) (ρ : PEnv) : SR := (setG 2 (frzG (fG (bindA (consA (bind1 (bind1 (nmE 0) (fldP (He.ga K "Walker") "web")) (fldP (He.ga K "Web") "entry")) (consA (nmE 1) nilA)) displayT)))) ρ
@[simp] def t_Walker_wrong_way_4 (K : Fg) (ρ : PEnv) : SR := (setP 0 [((He.ga K "Walker"), "before")] (nmE 2) (vG (fun _ => ER.ok (PV.sc V.non)))) ρ
@[simp] def t_Walker_wrong_way_5 (K : Fg) (ρ : PEnv) : SR := (dropG (mutP 0 [((He.ga K "Walker"), "waiting")] (consA (nmE 2) nilA) appA)) ρ
@[simp] def t_Walker_wrong_way_6 (K : Fg) (ρ : PEnv) : SR := (setG 3 (frzG (callM (m_Walker_wrong_from K) (recvP (He.ga K "Walker") "wrong_from" 0 (vlAg (mutP 0 [((He.ga K "Walker"), "waiting")] nilA popA) nilAg))))) ρ
@[simp] def t_Walker_wrong_way_7 (K : Fg) (ρ : PEnv) : SR := (retG (vG (nmE 3))) ρ
@[simp] def t_Walker_wrong_way_8 (K : Fg) (ρ : PEnv) : SR := (ifG (fun ρ => ((isnE true (nmE 3)) ρ).at ρ) (t_Walker_wrong_way_7 K)
    skipS) ρ
@[simp] def t_Walker_wrong_way_9 (K : Fg) (ρ : PEnv) : SR := (whileG (fun ρ => ((truE (bind1 (nmE 0) (fldP (He.ga K "Walker") "waiting"))) ρ).at ρ) (seqS (t_Walker_wrong_way_6 K)
    (t_Walker_wrong_way_8 K))) ρ
@[simp] def t_Walker_wrong_way_10 (K : Fg) (ρ : PEnv) : SR := (retG (vG (fun _ => ER.ok (PV.sc V.non)))) ρ
def s_Walker_wrong_way (K : Fg) : PEnv → SR := (seqS (t_Walker_wrong_way_0 K)
    (seqS (t_Walker_wrong_way_2 K)
    (seqS (t_Walker_wrong_way_3 K)
    (seqS (t_Walker_wrong_way_4 K)
    (seqS (t_Walker_wrong_way_5 K)
    (seqS (t_Walker_wrong_way_9 K)
    (t_Walker_wrong_way_10 K)))))))
def m_Walker_wrong_way (K : Fg) : List PV → FR := fnM 1 3 [0] (s_Walker_wrong_way K)
@[simp] def t_judge_u_0 (K : Fg) (ρ : PEnv) : SR := (setG 1 (frzG (makeM (He.ga K "Lot") (m_Lot_init_u K) (vlAg (vG (nmE 1)) nilAg)))) ρ
@[simp] def t_judge_u_1 (K : Fg) (ρ : PEnv) : SR := (dropG (callM (m_check_places K) (vlAg (vG (nmE 0)) (vlAg (vG (nmE 1)) nilAg)))) ρ
@[simp] def t_judge_u_2 (K : Fg) (ρ : PEnv) : SR := (dropG (callM (m_check_gates_u K) (vlAg (vG (nmE 0)) (vlAg (vG (nmE 2)) nilAg)))) ρ
@[simp] def t_judge_u_3 (K : Fg) (ρ : PEnv) : SR := (setG 3 (makeM (He.ga K "Walker") (m_Walker_init K) (vlAg (vG (nmE 0)) (vlAg (vG (nmE 1)) (vlAg (vG (nmE 2)) nilAg))))) ρ
@[simp] def t_judge_u_4 (K : Fg) (ρ : PEnv) : SR := (setG 4 (frzG (callM (m_Walker_wrong_way K) (recvP (He.ga K "Walker") "wrong_way" 3 nilAg)))) ρ
@[simp] def t_judge_u_5 (K : Fg) (ρ : PEnv) : SR := (retG (makeM (He.ga K "Verdict") (m_Verdict_init K) (vlAg (vG (fun _ => ER.ok (PV.sc (V.bl false)))) (vlAg (vG (nmE 4)) nilAg)))) ρ
@[simp] def t_judge_u_6 (K : Fg) (ρ : PEnv) : SR := (ifG (fun ρ => ((isnE true (nmE 4)) ρ).at ρ) (t_judge_u_5 K)
    skipS) ρ
@[simp] def t_judge_u_7 (K : Fg) (ρ : PEnv) : SR := (retG (makeM (He.ga K "Verdict") (m_Verdict_init K) (vlAg (vG (fun _ => ER.ok (PV.sc (V.bl true)))) (vlAg (frzG (makeM (He.ga K "Lot") (m_Lot_init_u K) (vlAg (frzG (lendW 3 (compKy 3 (He.ga K "Walker") "before" (tupT 2 (consT (nmT 5) (consT (nmT 6) nilT))) (fun ρ => ((truE (nmE 6)) ρ).at ρ) (vG (nmE 5)) [5, 6]))) nilAg))) nilAg)))) ρ
@[simp] def t_shows_right_u_0 (K : Fg) (ρ : PEnv) : SR := (parG 1 3 (consG (frzG (makeM (He.ga K "Lot") (m_Lot_init_u K) (vlAg (vG (nmE 1)) nilAg))) (consG (frzG (makeM (He.ga K "Lot") (m_Lot_init_u K) (vlAg (vG (nmE 3)) nilAg))) nilG))) ρ
@[simp] def t_shows_right_u_1 (K : Fg) (ρ : PEnv) : SR := (dropG (callM (m_check_places K) (vlAg (vG (nmE 0)) (vlAg (vG (nmE 1)) nilAg)))) ρ
@[simp] def t_shows_right_u_2 (K : Fg) (ρ : PEnv) : SR := (dropG (callM (m_check_gates_u K) (vlAg (vG (nmE 0)) (vlAg (vG (nmE 2)) nilAg)))) ρ
@[simp] def t_shows_right_u_3 (K : Fg) (ρ : PEnv) : SR := (dropG (callM (m_check_places K) (vlAg (vG (nmE 0)) (vlAg (vG (nmE 3)) nilAg)))) ρ
@[simp] def t_shows_right_u_4 (K : Fg) (ρ : PEnv) : SR := (retG (andZ (frzG (fG (bind2 (nmE 1) (nmE 3) fun p q => ((ow2b (He.ga K "Lot") (m_Lot_le K)) p q).map PV.bl))) (frzG (bindG2 (vG (nmE 2)) (frzG (callM (m_placing_of_u K) (vlAg (vG (nmE 0)) (vlAg (vG (nmE 3)) nilAg)))) fun p q => ((ow2b (He.ga K "Placing") (m_Placing_eq K)) p q).map PV.bl)))) ρ
@[simp] def t_shows_wrong_u_0 (K : Fg) (ρ : PEnv) : SR := (setG 1 (frzG (makeM (He.ga K "Lot") (m_Lot_init_u K) (vlAg (vG (nmE 1)) nilAg)))) ρ
@[simp] def t_shows_wrong_u_1 (K : Fg) (ρ : PEnv) : SR := (dropG (callM (m_check_places K) (vlAg (vG (nmE 0)) (vlAg (vG (nmE 1)) nilAg)))) ρ
@[simp] def t_shows_wrong_u_2 (K : Fg) (ρ : PEnv) : SR := (dropG (callM (m_check_gates_u K) (vlAg (vG (nmE 0)) (vlAg (vG (nmE 2)) nilAg)))) ρ
@[simp] def t_shows_wrong_u_3 (K : Fg) (ρ : PEnv) : SR := (retG (andZ (frzG (callM (m_is_whole K) (vlAg (vG (nmE 0)) (vlAg (vG (nmE 3)) nilAg)))) (bindG1s (frzG (callM (m_played_u K) (vlAg (vG (nmE 0)) (vlAg (vG (nmE 1)) (vlAg (vG (nmE 2)) (vlAg (vG (nmE 3)) nilAg)))))) (isnV true)))) ρ
@[simp] def t_law_gates_v2_0 (K : Fg) (ρ : PEnv) : SR := (asgG (tupW 4 (consT (nmT 1) (consT (nmT 2) (consT (nmT 3) (consT (nmT 4) nilT))))) (vG (nmE 0))) ρ
@[simp] def t_law_gates_v2_1 (K : Fg) (ρ : PEnv) : SR := (retG (bindG2 (frzG (fG (bind2 (frzE (bindA (consA (nmE 2) nilA) listA)) (frzE (bindA (consA (frzE (bindA (consA (bind1s (fun _ => ER.ok (PV.sc (V.int 1))) negV) (consA (nmE 3) nilA)) displayT)) nilA) displayL)) addU))) (frzG (compG (iterI (vG (nmE 4)) seqF) (nmT 5) yesG (frzG (fG (bindA (consA (nmE 5) (consA (bind1s (fun _ => ER.ok (PV.sc (V.int 1))) negV) nilA)) displayT))) [5])) addU)) ρ
@[simp] def t_law_after_v1_0 (K : Fg) (ρ : PEnv) : SR := (retG (vG (fun _ => ER.ok (PV.sc V.non)))) ρ
@[simp] def t_law_after_v1_1 (K : Fg) (ρ : PEnv) : SR := (ifG (fun ρ => ((truE (nmE 2)) ρ).at ρ) (t_law_after_v1_0 K)
    skipS) ρ
@[simp] def t_law_after_v1_2 (K : Fg) (ρ : PEnv) : SR := (retG (vG (fun _ => ER.ok (PV.sc (V.bl true))))) ρ
@[simp] def t_law_after_v1_3 (K : Fg) (ρ : PEnv) : SR := (ifG (fun ρ => ((bind2b (nmE 1) (bind2 (nmE 0) (fun _ => ER.ok (PV.sc (V.int 0))) ixP) (inP false)) ρ).at ρ) (seqS (t_law_after_v1_1 K)
    (t_law_after_v1_2 K))
    skipS) ρ
@[simp] def t_law_after_v1_4 (K : Fg) (ρ : PEnv) : SR := (retG (vG (fun _ => ER.ok (PV.sc (V.bl false))))) ρ
@[simp] def t_law_after_v1_5 (K : Fg) (ρ : PEnv) : SR := (ifG (fun ρ => ((truE (nmE 2)) ρ).at ρ) (t_law_after_v1_4 K)
    skipS) ρ
@[simp] def t_law_after_v1_6 (K : Fg) (ρ : PEnv) : SR := (retG (vG (fun _ => ER.ok (PV.sc V.non)))) ρ
@[simp] def t_law_after_v1_7 (K : Fg) (ρ : PEnv) : SR := (ifG (fun ρ => ((bind2b (nmE 1) (bind2 (nmE 0) (fun _ => ER.ok (PV.sc (V.int 1))) ixP) (inP false)) ρ).at ρ) (seqS (t_law_after_v1_5 K)
    (t_law_after_v1_6 K))
    skipS) ρ
@[simp] def t_law_after_v1_8 (K : Fg) (ρ : PEnv) : SR := (retG (vG (nmE 2))) ρ
def s_law_after_v1 (K : Fg) : PEnv → SR := (seqS (t_law_after_v1_3 K)
    (seqS (t_law_after_v1_7 K)
    (t_law_after_v1_8 K)))
def m_law_after_v1 (K : Fg) : List PV → FR := fnM 3 0 [0, 1, 2] (s_law_after_v1 K)
@[simp] def t_law_played_0 (K : Fg) (ρ : PEnv) : SR := (asgG (tupW 4 (consT (nmT 4) (consT (nmT 5) (consT (nmT 6) (consT (nmT 7) nilT))))) (vG (nmE 0))) ρ
@[simp] def t_law_played_1 (K : Fg) (ρ : PEnv) : SR := (setG 8 (vG (nmE 6))) ρ
@[simp] def t_law_played_2 (K : Fg) (ρ : PEnv) : SR := (setG 9 (frzG (callM (m_law_after_v1 K) (vlAg (vG (nmE 2)) (vlAg (frzG (fG (bindA (consA (nmE 5) nilA) lenA))) (vlAg (vG (fun _ => ER.ok (PV.sc (V.bl false)))) nilAg)))))) ρ
@[simp] def t_law_played_3 (K : Fg) (ρ : PEnv) : SR := (retG (fG (bindA (consA (fun _ => ER.ok (PV.sc (V.int 0))) (consA (fun _ => ER.ok (PV.sc (V.str ("not saved" : Str)))) nilA)) displayT))) ρ
@[simp] def t_law_played_4 (K : Fg) (ρ : PEnv) : SR := (ifG (fun ρ => ((isnE false (nmE 9)) ρ).at ρ) (t_law_played_3 K)
    skipS) ρ
@[simp] def t_law_played_5 (K : Fg) (ρ : PEnv) : SR := (retG (fG (bindA (consA (fun _ => ER.ok (PV.sc (V.int 1))) (consA (fun _ => ER.ok (PV.sc (V.str ("used" : Str)))) nilA)) displayT))) ρ
@[simp] def t_law_played_6 (K : Fg) (ρ : PEnv) : SR := (ifG (fun ρ => ((andB (bind2b (nmE 8) (nmE 1) (inP false)) (notE (truE (nmE 9)))) ρ).at ρ) (t_law_played_5 K)
    skipS) ρ
@[simp] def t_law_played_7 (K : Fg) (ρ : PEnv) : SR := (setG 11 (frzG (callM (m_law_after_v1 K) (vlAg (vG (nmE 2)) (vlAg (vG (bind2 (nmE 3) (nmE 10) ixP)) (vlAg (vG (nmE 9)) nilAg)))))) ρ
@[simp] def t_law_played_8 (K : Fg) (ρ : PEnv) : SR := (retG (fG (bindA (consA (frzE (bind2 (bind2s (fun _ => ER.ok (PV.sc (V.int 2))) (nmE 10) mulI) (fun _ => ER.ok (PV.sc (V.int 2))) addU)) (consA (bind2 (frzE (bindA (consA (fun _ => ER.ok (PV.sc (V.str ("not saved" : Str)))) (consA (fun _ => ER.ok (PV.sc (V.str ("saved twice" : Str)))) nilA)) displayT)) (frzE (bindA (consA (nmE 9) nilA) intA)) ixP) nilA)) displayT))) ρ
@[simp] def t_law_played_9 (K : Fg) (ρ : PEnv) : SR := (ifG (fun ρ => ((isnE false (nmE 11)) ρ).at ρ) (t_law_played_8 K)
    skipS) ρ
@[simp] def t_law_played_10 (K : Fg) (ρ : PEnv) : SR := (setG 9 (vG (nmE 11))) ρ
@[simp] def t_law_played_11 (K : Fg) (ρ : PEnv) : SR := (setG 8 (vG (bind2 (bind2 (nmE 5) (bind2 (nmE 3) (nmE 10) ixP) ixP) (fun _ => ER.ok (PV.sc (V.int 1))) ixP))) ρ
@[simp] def t_law_played_12 (K : Fg) (ρ : PEnv) : SR := (retG (fG (bindA (consA (frzE (bind2 (bind2s (fun _ => ER.ok (PV.sc (V.int 2))) (nmE 10) mulI) (fun _ => ER.ok (PV.sc (V.int 3))) addU)) (consA (fun _ => ER.ok (PV.sc (V.str ("used" : Str)))) nilA)) displayT))) ρ
@[simp] def t_law_played_13 (K : Fg) (ρ : PEnv) : SR := (ifG (fun ρ => ((andB (bind2b (nmE 8) (nmE 1) (inP false)) (notE (truE (nmE 9)))) ρ).at ρ) (t_law_played_12 K)
    skipS) ρ
@[simp] def t_law_played_14 (K : Fg) (ρ : PEnv) : SR := (forG (iterA (consG (frzG (fG (bindA (consA (nmE 3) nilA) lenA))) nilG) rngK1) (nmT 10)
    (seqS (t_law_played_7 K)
    (seqS (t_law_played_9 K)
    (seqS (t_law_played_10 K)
    (seqS (t_law_played_11 K)
    (t_law_played_13 K)))))) ρ
@[simp] def t_law_played_15 (K : Fg) (ρ : PEnv) : SR := (setG 12 (frzG (fG (bind2 (bind2s (fun _ => ER.ok (PV.sc (V.int 2))) (frzE (bindA (consA (nmE 3) nilA) lenA)) mulI) (fun _ => ER.ok (PV.sc (V.int 2))) addU)))) ρ
@[simp] def t_law_played_16 (K : Fg) (ρ : PEnv) : SR := (setG 11 (frzG (callM (m_law_after_v1 K) (vlAg (vG (nmE 2)) (vlAg (frzG (fG (bind2 (frzE (bind2 (frzE (bindA (consA (nmE 5) nilA) lenA)) (fun _ => ER.ok (PV.sc (V.int 1))) addU)) (ixoE (nmE 7) (nmE 8)) addU))) (vlAg (vG (nmE 9)) nilAg)))))) ρ
@[simp] def t_law_played_17 (K : Fg) (ρ : PEnv) : SR := (retG (fG (bindA (consA (nmE 12) (consA (bind2 (frzE (bindA (consA (fun _ => ER.ok (PV.sc (V.str ("not saved" : Str)))) (consA (fun _ => ER.ok (PV.sc (V.str ("saved twice" : Str)))) nilA)) displayT)) (frzE (bindA (consA (nmE 9) nilA) intA)) ixP) nilA)) displayT))) ρ
@[simp] def t_law_played_18 (K : Fg) (ρ : PEnv) : SR := (ifG (fun ρ => ((isnE false (nmE 11)) ρ).at ρ) (t_law_played_17 K)
    skipS) ρ
@[simp] def t_law_played_19 (K : Fg) (ρ : PEnv) : SR := (retG (fG (bindA (consA (frzE (bind2 (nmE 12) (fun _ => ER.ok (PV.sc (V.int 1))) addU)) (consA (fun _ => ER.ok (PV.sc (V.str ("left" : Str)))) nilA)) displayT))) ρ
@[simp] def t_law_played_20 (K : Fg) (ρ : PEnv) : SR := (ifG (fun ρ => ((truE (nmE 11)) ρ).at ρ) (t_law_played_19 K)
    skipS) ρ
@[simp] def t_law_played_21 (K : Fg) (ρ : PEnv) : SR := (retG (vG (fun _ => ER.ok (PV.sc V.non)))) ρ
@[simp] def t_law_placing_0 (K : Fg) (ρ : PEnv) : SR := (setG 3 (frzG (callM (m_law_draw_v1 K) (plAg 0 (vlAg (vG (fun _ => ER.ok (PV.sc (V.int 4)))) nilAg))))) ρ
@[simp] def t_law_placing_1 (K : Fg) (ρ : PEnv) : SR := (setG 4 (compG (iterI (vG (nmE 1)) seqF) (nmT 5) yesG (vG (fun _ => ER.ok (PV.sc (V.int 0)))) [5])) ρ
@[simp] def t_law_placing_2 (K : Fg) (ρ : PEnv) : SR := (asgG (tupT 2 (consT (nmT 6) (consT (nmT 7) nilT))) (frzG (callM (m_law_marks_v1 K) (vlAg (vG (nmE 1)) (vlAg (frzG (callM (m_law_some_v1 K) (plAg 0 (vlAg (vG (nmE 2)) nilAg)))) nilAg))))) ρ
@[simp] def t_law_placing_3 (K : Fg) (ρ : PEnv) : SR := (setG 4 (compG (iterA (consG (frzG (fG (bindA (consA (nmE 1) nilA) lenA))) nilG) rngK1) (nmT 8) yesG (frzG (fG (bind2 (frzE (bindA (consA (bind2s (nmE 8) (nmE 6) fun p q => ((inP false) p q).map V.bl) nilA) intA)) (bind2s (fun _ => ER.ok (PV.sc (V.int 2))) (frzE (bindA (consA (bind2s (nmE 8) (nmE 7) fun p q => ((inP false) p q).map V.bl) nilA) intA)) mulI) addU))) [8])) ρ
@[simp] def t_law_placing_4 (K : Fg) (ρ : PEnv) : SR := (setIxG 4 (frzG (callM (m_law_draw_v1 K) (plAg 0 (vlAg (frzG (fG (bindA (consA (nmE 1) nilA) lenA))) nilAg)))) (frzG (callM (m_law_draw_v1 K) (plAg 0 (vlAg (vG (fun _ => ER.ok (PV.sc (V.int 3)))) nilAg))))) ρ
@[simp] def t_law_placing_5 (K : Fg) (ρ : PEnv) : SR := (forG (iterA (consG (vG (nmE 3)) nilG) rngK1) (nmT 8)
    (t_law_placing_4 K)) ρ
@[simp] def t_law_placing_6 (K : Fg) (ρ : PEnv) : SR := (setG 4 (compG (iterI (vG (nmE 1)) seqF) (nmT 5) yesG (frzG (callM (m_law_draw_v1 K) (plAg 0 (vlAg (vG (fun _ => ER.ok (PV.sc (V.int 3)))) nilAg)))) [5])) ρ
@[simp] def t_law_placing_7 (K : Fg) (ρ : PEnv) : SR := (ifG (fun ρ => ((bind2b (nmE 3) (fun _ => ER.ok (PV.sc (V.int 3))) ltI) ρ).at ρ) (seqS (t_law_placing_2 K)
    (seqS (t_law_placing_3 K)
    (t_law_placing_5 K)))
    (t_law_placing_6 K)) ρ
@[simp] def t_law_placing_8 (K : Fg) (ρ : PEnv) : SR := (retG (bindGA (consG (frzG (compG (iterA (consG (frzG (fG (bindA (consA (nmE 1) nilA) lenA))) nilG) rngK1) (nmT 8) (fun ρ => ((bind2b (bind2 (nmE 4) (nmE 8) ixP) (fun _ => ER.ok (PV.sc (V.int 1))) eqP) ρ).at ρ) (vG (nmE 8)) [8])) (consG (frzG (compG (iterA (consG (frzG (fG (bindA (consA (nmE 1) nilA) lenA))) nilG) rngK1) (nmT 8) (fun ρ => ((bind2b (bind2 (nmE 4) (nmE 8) ixP) (fun _ => ER.ok (PV.sc (V.int 2))) eqP) ρ).at ρ) (vG (nmE 8)) [8])) nilG)) displayT)) ρ
end
end SP
section
set_option maxHeartbeats 0
noncomputable section
namespace TP
open PySem PySem.Spec PyProof.Rows L2 RL SP TL
end TP
end
end
namespace PW
open PySem PySem.Spec PyProof.Rows L2 RL SP TL TP
abbrev WSt := Int × Bool
abbrev WD := List (WSt × Option (WSt × Int))
/-- the seat behind a gate -/
def aft (S B : List Int) (g : Int) (s : Bool) : Option Bool := if memL g S = true then (if s = true then none else some true) else if memL g B = true then (if s = true then some false else none) else some s
theorem aft_fstep {U : Int → Bool} {S B : List Int} {g : Int} {s : Bool} : (∀ s', aft S B g s = some s' ↔ fstep U (fun x => memL x S) (fun x => memL x B) s ("gate", g) = .ok s') ∧ (aft S B g s = none ↔ ∃ wd, fstep U (fun x => memL x S) (fun x => memL x B) s ("gate", g) = .error wd) := by
  unfold aft fstep;rw [if_neg (show ¬ (("gate", g) : String × Int).1 = "place" by simp)]
  cases h1 : memL g S <;> cases h2 : memL g B <;> cases s <;> simp [h1, h2]
theorem getP_nil {α : Type} (k : WSt) : getP k ([] : List (WSt × α)) = none := by unfold getP; rfl
theorem getP_cons {α : Type} (k : WSt) (x : WSt × α) (d : List (WSt × α)) : getP k (x :: d) = if x.1 = k then some x.2 else getP k d := by
  unfold getP;by_cases h : x.1 = k <;> simp [h]
theorem getP_app {α : Type} {k : WSt} {o : α} {t : List (WSt × α)} : ∀ {d : List (WSt × α)}, getP k d = some o → getP k (d ++ t) = some o
  | [], h => by rw [getP_nil] at h; cases h
  | x :: d, h => by
    rw [List.cons_append, getP_cons];rw [getP_cons] at h
    by_cases c : x.1 = k
    · rw [if_pos c] at h ⊢; exact h
    · rw [if_neg c] at h ⊢; exact getP_app h
/-- the chain of edges to a state -/
inductive Chn (d : WD) : WSt → List Int → Prop where
  | nil {k : WSt} (h : getP k d = some none) : Chn d k []
  | snoc {k k' : WSt} {e : Int} {r : List Int} (h : getP k d = some (some (k', e))) (t : Chn d k' r) : Chn d k (r ++ [e])
theorem Chn.app {d t : WD} {k : WSt} {r : List Int} (h : Chn d k r) : Chn (d ++ t) k r := by
  induction h with
  | nil h => exact .nil (getP_app h)
  | snoc h _ ih => exact .snoc (getP_app h) ih
def run (S B : List Int) : List Int → Bool → Option Bool
  | [], s => some s
  | g :: r, s => (aft S B g s).bind (run S B r)
end PW
namespace PW
open PySem PySem.Spec PyProof.Rows L2 RL SP TL TP
def outW (w : TWeb) (e : Int) : Int := (w.edges.length : Int) + 1 + w.exits.idxOf e
def failsB (w : TWeb) (U S B : List Int) (k : WSt) : Bool := if (memL k.1 U && !k.2) = true then true else if memL k.1 w.exits = true then !(aft S B (outW w k.1) k.2 == some false) else false
abbrev keysW (d : WD) : List WSt := d.map (·.1)
structure DI (w : TWeb) (S B : List Int) (s0 : Bool) (c : Nat) (d : WD) : Prop where
  nd : (keysW d).Nodup
  rg : ∀ k ∈ keysW d, 0 ≤ k.1 ∧ k.1 < (c : Int)
  ch : ∀ k ∈ keysW d, ∃ r, Chn d k r ∧ r.length < d.length ∧ rowEnd w.edges w.entry r = some k.1 ∧ run S B r s0 = some k.2
  fi : (w.entry, s0) ∈ keysW d
def nK (k : WSt) : Int := 2 * k.1 + (if k.2 then 1 else 0)
theorem nK_inj {a b : WSt} (h : nK a = nK b) : a = b := by
  obtain ⟨p, x⟩ := a; obtain ⟨q, y⟩ := b;unfold nK at h;cases x <;> cases y <;> simp only [Bool.false_eq_true, if_false, if_true] at h
  · have : p = q := by omega
    rw [this]
  · omega
  · omega
  · have : p = q := by omega
    rw [this]
theorem DI.len {w : TWeb} {S B : List Int} {s0 : Bool} {c : Nat} {d : WD} (h : DI w S B s0 c d) : d.length ≤ 2 * c := by
  have h1 : ((keysW d).map nK).Nodup := h.nd.map _ fun a b hne z => hne (nK_inj z)
  have h2 := nodup_len (n := 2 * c) h1 fun x hx => by
    obtain ⟨k, hk, rfl⟩ := List.mem_map.mp hx;have := h.rg k hk;unfold nK;split <;> omega
  simpa using h2
structure Cl (w : TWeb) (U S B : List Int) (d : WD) (k : WSt) : Prop where
  nf : failsB w U S B k = false
  cl : ∀ i : Nat, i < w.edges.length → (edgeAt w.edges i).1 = k.1 → ∃ s', aft S B i k.2 = some s' ∧ ((edgeAt w.edges i).2, s') ∈ keysW d
theorem Cl.mono {w : TWeb} {U S B : List Int} {d d' : WD} {k : WSt} (h : Cl w U S B d k) (hs : ∀ x ∈ keysW d, x ∈ keysW d') : Cl w U S B d' k := ⟨h.nf, fun i hi he => by
  obtain ⟨s', h1, h2⟩ := h.cl i hi he;exact ⟨s', h1, hs _ h2⟩⟩
end PW
namespace PW
open PySem PySem.Spec PyProof.Rows L2 RL SP TL TP
theorem asc_nodup {l : List Int} (h : l.Pairwise (· < ·)) : l.Nodup := h.imp fun z => Int.ne_of_lt z
/-- a lot of a web -/
structure UsOk (c : Nat) (U : List Int) : Prop where
  as : U.Pairwise (· < ·)
  rg : ∀ x ∈ U, 0 ≤ x ∧ x < (c : Int)
theorem UsOk.len {c : Nat} {U : List Int} (h : UsOk c U) : U.length ≤ c := nodup_len (asc_nodup h.as) h.rg
/-- right with the lot J -/
structure RightP (w : TWeb) (c : Nat) (U : List Int) (pl : TPlacing) (J : List Int) : Prop where
  ok : UsOk c J
  us : ∀ x ∈ U, x ∈ J
  sv : pl.saves = savesOf w J
  bk : pl.backs = backsOf w J
end PW
namespace PW
open PySem PySem.Spec PyProof.Rows L2 RL SP TL TP
end PW
namespace PW
open PySem PySem.Spec PyProof.Rows L2 RL SP TL TP
structure Jw (t : TTold) (c : Nat) : Prop where
  W : WebOk (webOf t) c
  hc : t.1 = c
  nx : (webOf t).exits.Nodup
  hex : exitsOf t.1 t.2.2.2 = t.2.2.2
  g63 : (gatesL (webOf t)).length ≤ 62
  g1 : 1 ≤ (gatesL (webOf t)).length
  el : t.2.1.length ≤ 30
  xl : t.2.2.2.length ≤ 24
theorem Jw.exits {t : TTold} {c : Nat} (h : Jw t c) : (webOf t).exits = t.2.2.2 := h.hex
theorem Jw.of {m : Nat} {t : TTold} (ht : Told m t) (hm : m ≤ 30) (h24 : t.1 ≤ 24) (hex : exitsOf t.1 t.2.2.2 = t.2.2.2) : ∃ c, Jw t c := by
  have n1 := ht.n1;obtain ⟨c, hc⟩ : ∃ c : Nat, t.1 = c := ⟨t.1.toNat, by omega⟩
  have xl := exitsOf_len t.1 t.2.2.2;rw [hex] at xl;have pl := ht.pl
  have gl : (gatesL (webOf t)).length = t.2.1.length + 1 + t.2.2.2.length := by
    rw [gates_n]; show _ + 1 + (exitsOf t.1 t.2.2.2).length = _; rw [hex]
  refine ⟨c, WebOk.of ht (by omega) hc (by omega), hc, ?_, hex, by omega, by omega, by omega, by omega⟩
  show (exitsOf t.1 t.2.2.2).Nodup
  rw [hex]; exact ht.gn
theorem UsOk.of {c : Nat} {xs : List Int} (h : xs.Sublist (rngL 0 c)) : UsOk c xs := ⟨(rngL_asc 0 c).sublist h, fun x hx => by have := mem_rngL.mp (h.subset hx); omega⟩
end PW
namespace PW
open PySem PySem.Spec PyProof.Rows L2 RL SP TL TP
/-- the seat behind each gate, when the marks are those of a lot -/
theorem RightP.gate {w : TWeb} {c : Nat} {U J : List Int} {pl : TPlacing} (h : RightP w c U pl J) (g : Int) : aft pl.saves pl.backs g (inA w J g) = some (inZ w J g) := by
  rw [h.sv, h.bk];exact (aft_fstep (U := fun _ => false).1 _).mpr ((marks_of w J).gate (x := ("gate", g)) (by simp))
end PW
namespace PW
open PySem PySem.Spec PyProof.Rows L2 RL SP TL TP
end PW
noncomputable section
namespace TP
open PySem PySem.Spec PyProof.Rows L2 RL SP TL
end TP
end
noncomputable section
namespace TL
open PySem PySem.Spec PyProof.Rows L2 RL
end TL
end
noncomputable section
namespace TL
open PySem PySem.Spec PyProof.Rows L2 RL
end TL
end
noncomputable section
namespace TL
open PySem PySem.Spec PyProof.Rows L2 RL
end TL
namespace SP
noncomputable section
open PySem PySem.Spec PyProof.Rows L2 RL
open RG (gnM YR YT pln yldM forY seqM itY)
@[simp] def t_is_steady_u_0 (K : Fg) (ρ : PEnv) : SR := (setG 2 (bindG1 (frzG (callM (m_most_saves_u K) (vlAg (vG (nmE 0)) (vlAg (vG (nmE 1)) nilAg)))) (fldP (He.ga K "Most") "number"))) ρ
@[simp] def t_is_steady_u_1 (K : Fg) (ρ : PEnv) : SR := (retG (vG (andE (bind1s (nmE 2) (isnV true)) (bind2s (nmE 2) (fun _ => ER.ok (PV.sc (V.int 1))) fun p q => (leI p q).map V.bl)))) ρ
def s_is_steady_u (K : Fg) : PEnv → SR := (seqS (t_is_steady_u_0 K)
    (t_is_steady_u_1 K))
def m_is_steady_u (K : Fg) : List PV → FR := fnM 2 1 [0, 1] (s_is_steady_u K)
@[simp] def t_entered_u_0 (K : Fg) (ρ : PEnv) : SR := (retG (compG (iterI (bindG1 (frzG (callM (m_placing_of_u K) (vlAg (vG (nmE 0)) (vlAg (vG (nmE 1)) nilAg)))) (fldP (He.ga K "Placing") "saves")) seqF) (nmT 2) yesG (bindG2 (frzG (callM (m_Web_ends K) (recvM (He.ga K "Web") "ends" (vG (nmE 0)) (vlAg (vG (nmE 2)) nilAg)))) (vG (fun _ => ER.ok (PV.sc (V.int 1)))) ixP) [2])) ρ
def s_entered_u (K : Fg) : PEnv → SR := (t_entered_u_0 K)
def m_entered_u (K : Fg) : List PV → FR := fnM 2 1 [0, 1] (s_entered_u K)
@[simp] def t_is_keen_u_0 (K : Fg) (ρ : PEnv) : SR := (asgG (tupT 2 (consT (nmT 1) (consT (nmT 2) nilT))) (frzG (bindGA (consG (frzG (makeM (He.ga K "Lot") (m_Lot_init_u K) (vlAg (vG (nmE 1)) nilAg))) (consG (frzG (makeM (He.ga K "Lot") (m_Lot_init_u K) (vlAg (vG (nmE 2)) nilAg))) nilG)) displayT))) ρ
@[simp] def t_is_keen_u_1 (K : Fg) (ρ : PEnv) : SR := (dropG (callM (m_check_places K) (vlAg (vG (nmE 0)) (vlAg (vG (nmE 1)) nilAg)))) ρ
@[simp] def t_is_keen_u_2 (K : Fg) (ρ : PEnv) : SR := (dropG (callM (m_check_places K) (vlAg (vG (nmE 0)) (vlAg (vG (nmE 2)) nilAg)))) ρ
@[simp] def t_is_keen_u_3 (K : Fg) (ρ : PEnv) : SR := (setG 3 (frzG (compG (iterI (bindG1 (frzG (callM (m_placing_of_u K) (vlAg (vG (nmE 0)) (vlAg (vG (nmE 2)) nilAg)))) (fldP (He.ga K "Placing") "backs")) seqF) (nmT 4) yesG (bindG2 (frzG (callM (m_Web_ends K) (recvM (He.ga K "Web") "ends" (vG (nmE 0)) (vlAg (vG (nmE 4)) nilAg)))) (vG (fun _ => ER.ok (PV.sc (V.int 0)))) ixP) [4]))) ρ
@[simp] def t_is_keen_u_4 (K : Fg) (ρ : PEnv) : SR := (setG 5 (fG (fun _ => ER.ok (PV.dct true [] [])))) ρ
@[simp] def t_is_keen_u_5 (K : Fg) (ρ : PEnv) : SR := (setG 6 (callM (m_entered_u K) (vlAg (vG (nmE 0)) (vlAg (vG (nmE 2)) nilAg)))) ρ
@[simp] def t_is_keen_u_6 (K : Fg) (ρ : PEnv) : SR := (setG 7 (mutE 6 nilG popA)) ρ
@[simp] def t_is_keen_u_7 (K : Fg) (ρ : PEnv) : SR := (ifG (fun ρ => ((orB (bind2b (nmE 7) (nmE 5) (inU false)) (bind2b (nmE 7) (nmE 1) (owIn false (He.ga K "Lot") (m_Lot_contains K)))) ρ).at ρ) SR.ct
    skipS) ρ
@[simp] def t_is_keen_u_8 (K : Fg) (ρ : PEnv) : SR := (setP 5 [] (nmE 7) (vG (fun _ => ER.ok (PV.sc (V.bl true))))) ρ
@[simp] def t_is_keen_u_9 (K : Fg) (ρ : PEnv) : SR := (retG (vG (fun _ => ER.ok (PV.sc (V.bl false))))) ρ
@[simp] def t_is_keen_u_10 (K : Fg) (ρ : PEnv) : SR := (ifG (fun ρ => ((bind2b (nmE 7) (nmE 3) (inP false)) ρ).at ρ) (t_is_keen_u_9 K)
    skipS) ρ
@[simp] def t_is_keen_u_11 (K : Fg) (ρ : PEnv) : SR := (dropG (mutE 6 (consG (frzG (compG (iterI (vG (bind1 (nmE 0) (fldP (He.ga K "Web") "edges"))) seqF) (tupT 2 (consT (nmT 8) (consT (nmT 9) nilT))) (fun ρ => ((andB (bind2b (nmE 8) (nmE 7) eqP) (bind2b (nmE 9) (nmE 2) (owIn false (He.ga K "Lot") (m_Lot_contains K)))) ρ).at ρ) (vG (nmE 9)) [8, 9])) nilG) extA)) ρ
@[simp] def t_is_keen_u_12 (K : Fg) (ρ : PEnv) : SR := (whileG (fun ρ => ((truE (nmE 6)) ρ).at ρ) (seqS (t_is_keen_u_6 K)
    (seqS (t_is_keen_u_7 K)
    (seqS (t_is_keen_u_8 K)
    (seqS (t_is_keen_u_10 K)
    (t_is_keen_u_11 K)))))) ρ
@[simp] def t_is_keen_u_13 (K : Fg) (ρ : PEnv) : SR := (retG (vG (fun _ => ER.ok (PV.sc (V.bl true))))) ρ
def s_is_keen_u (K : Fg) : PEnv → SR := (seqS (t_is_keen_u_0 K)
    (seqS (t_is_keen_u_1 K)
    (seqS (t_is_keen_u_2 K)
    (seqS (t_is_keen_u_3 K)
    (seqS (t_is_keen_u_4 K)
    (seqS (t_is_keen_u_5 K)
    (seqS (t_is_keen_u_12 K)
    (t_is_keen_u_13 K))))))))
def m_is_keen_u (K : Fg) : List PV → FR := fnM 3 7 [0] (s_is_keen_u K)
@[simp] def t_is_better_0 (K : Fg) (ρ : PEnv) : SR := (setG 2 (frzG (fG (bindA (consA (bind2 (nmE 0) (fun _ => ER.ok (PV.sc (V.int 0))) ixP) (consA (frzE (bindA (consA (bind2 (nmE 0) (fun _ => ER.ok (PV.sc (V.int 1))) ixP) nilA) (owLen (He.ga K "Lot") (m_Lot_len K)))) (consA (bind1 (bind2 (nmE 0) (fun _ => ER.ok (PV.sc (V.int 1))) ixP) (fldP (He.ga K "Lot") "places")) nilA))) displayT)))) ρ
@[simp] def t_is_better_1 (K : Fg) (ρ : PEnv) : SR := (retG (vG (bind2s (nmE 2) (frzE (bindA (consA (bind2 (nmE 1) (fun _ => ER.ok (PV.sc (V.int 0))) ixP) (consA (frzE (bindA (consA (bind2 (nmE 1) (fun _ => ER.ok (PV.sc (V.int 1))) ixP) nilA) (owLen (He.ga K "Lot") (m_Lot_len K)))) (consA (bind1 (bind2 (nmE 1) (fun _ => ER.ok (PV.sc (V.int 1))) ixP) (fldP (He.ga K "Lot") "places")) nilA))) displayT)) fun p q => (ltU p q).map V.bl))) ρ
def s_is_better (K : Fg) : PEnv → SR := (seqS (t_is_better_0 K)
    (t_is_better_1 K))
def m_is_better (K : Fg) : List PV → FR := fnM 2 1 [0, 1] (s_is_better K)
@[simp] def t_least_tried_u_0 (K : Fg) (ρ : PEnv) : SR := (setG 1 (frzG (makeM (He.ga K "Lot") (m_Lot_init_u K) (vlAg (vG (nmE 1)) nilAg)))) ρ
@[simp] def t_least_tried_u_1 (K : Fg) (ρ : PEnv) : SR := (dropG (callM (m_check_places K) (vlAg (vG (nmE 0)) (vlAg (vG (nmE 1)) nilAg)))) ρ
@[simp] def t_least_tried_u_2 (K : Fg) (ρ : PEnv) : SR := (dropG (callM (m_check_web K) (vlAg (vG (nmE 0)) (vlAg (vG (nmE 2)) nilAg)))) ρ
@[simp] def t_least_tried_u_3 (K : Fg) (ρ : PEnv) : SR := (dropG (callM (m_check_count K) (vlAg (vG (nmE 0)) nilAg))) ρ
@[simp] def t_least_tried_u_4 (K : Fg) (ρ : PEnv) : SR := (setG 5 (vG (fun _ => ER.ok (PV.sc V.non)))) ρ
@[simp] def t_least_tried_u_5 (K : Fg) (ρ : PEnv) : SR := (setG 7 (frzG (callM (m_cost_u K) (vlAg (vG (nmE 0)) (vlAg (vG (nmE 6)) (vlAg (vG (nmE 2)) nilAg)))))) ρ
@[simp] def t_least_tried_u_6 (K : Fg) (ρ : PEnv) : SR := (ifG (orG (fun ρ => ((isnE false (nmE 7)) ρ).at ρ) (andG (fun ρ => ((isnE true (nmE 5)) ρ).at ρ) (notG (truG (frzG (callM (m_is_better K) (vlAg (frzG (fG (bindA (consA (nmE 7) (consA (nmE 6) nilA)) displayT))) (vlAg (vG (nmE 5)) nilAg)))))))) SR.ct
    skipS) ρ
@[simp] def t_least_tried_u_7 (K : Fg) (ρ : PEnv) : SR := (ifG (andG (fun ρ => ((truE (nmE 3)) ρ).at ρ) (notG (truG (frzG (callM (m_is_steady_u K) (vlAg (vG (nmE 0)) (vlAg (vG (nmE 6)) nilAg))))))) SR.ct
    skipS) ρ
@[simp] def t_least_tried_u_8 (K : Fg) (ρ : PEnv) : SR := (ifG (andG (fun ρ => ((truE (nmE 4)) ρ).at ρ) (notG (truG (frzG (callM (m_is_keen_u K) (vlAg (vG (nmE 0)) (vlAg (vG (nmE 1)) (vlAg (vG (nmE 6)) nilAg)))))))) SR.ct
    skipS) ρ
@[simp] def t_least_tried_u_9 (K : Fg) (ρ : PEnv) : SR := (setG 5 (frzG (fG (bindA (consA (nmE 7) (consA (nmE 6) nilA)) displayT)))) ρ
@[simp] def t_least_tried_u_10 (K : Fg) (ρ : PEnv) : SR := (forG (itY (m_lots_with_u K) (consG (vG (nmE 0)) (consG (vG (nmE 1)) nilG))) (nmT 6)
    (seqS (t_least_tried_u_5 K)
    (seqS (t_least_tried_u_6 K)
    (seqS (t_least_tried_u_7 K)
    (seqS (t_least_tried_u_8 K)
    (t_least_tried_u_9 K)))))) ρ
@[simp] def t_least_tried_u_11 (K : Fg) (ρ : PEnv) : SR := (retG (vG (nmE 5))) ρ
end
end SP
section
set_option maxHeartbeats 0
noncomputable section
namespace TP
open PySem PySem.Spec PyProof.Rows L2 RL SP TL
end TP
end
end
namespace PW
open PySem PySem.Spec PyProof.Rows L2 RL SP TL TP
end PW
noncomputable section
namespace TL
open PySem PySem.Spec PyProof.Rows L2 RL
end TL
noncomputable section
namespace TL
open PySem PySem.Spec PyProof.Rows L2 RL
end TL
namespace PW
open PySem PySem.Spec PyProof.Rows L2 RL TL TP
theorem str_eqb (a b : Str) : (a == b) = decide (a = b) := by
  by_cases h : a = b
  · subst h; simp
  · rw [decide_eq_false h];exact beq_eq_false_iff_ne.mpr h
theorem spl_ne (S : List Nat) : ∀ (l acc : List Nat) (k : Nat), TL.spl S k acc l ≠ []
  | [], acc, k => by rw [TL.spl_nil]; simp
  | c :: r, acc, 0 => by
    unfold TL.spl;split
    · simp
    · exact spl_ne S r _ 0
  | c :: r, acc, k + 1 => by
    unfold TL.spl;exact spl_ne S r _ k
theorem joinL_cons (S a : List Nat) {ws : List (List Nat)} (h : ws ≠ []) : TL.joinL S (a :: ws) = a ++ (S ++ TL.joinL S ws) := by
  cases ws with
  | nil => exact absurd rfl h
  | cons w ws => rfl
end PW
noncomputable section
namespace TL
open PySem PySem.Spec PyProof.Rows L2 RL
end TL
namespace PW
open PySem PySem.Spec PyProof.Rows L2 RL TL TP
theorem pre_s (s c : Nat) (r : List Nat) : TL.pre [s] (c :: r) = (c == s) := by
  unfold TL.pre;simp
theorem spl_hitS (s : Nat) (acc r : List Nat) : TL.spl [s] 0 acc (s :: r) = acc :: TL.spl [s] 0 [] r := TL.spl_hit (by rw [pre_s]; simp)
theorem spl_noS {s c : Nat} (acc r : List Nat) (h : c ≠ s) : TL.spl [s] 0 acc (c :: r) = TL.spl [s] 0 (acc ++ [c]) r := TL.spl_miss (by rw [pre_s]; simpa using h)
theorem spl_backS (s : Nat) : ∀ (l acc : List Nat), TL.joinL [s] (TL.spl [s] 0 acc l) = acc ++ l ∧ (∀ w ∈ TL.spl [s] 0 acc l, ∀ c ∈ w, c ∈ acc ++ l) ∧ (∀ w ∈ TL.spl [s] 0 acc l, w.length ≤ acc.length + l.length) ∧ (TL.spl [s] 0 acc l).length ≤ l.length + 1
  | [], acc => by
    rw [TL.spl_nil];exact ⟨by show acc = _; rw [List.append_nil], fun w hw c hc => by rw [List.mem_singleton.mp hw] at hc; simpa using hc, fun w hw => by rw [List.mem_singleton.mp hw]; simp, by simp⟩
  | c :: r, acc => by
    by_cases h : c = s
    · subst h;obtain ⟨h1, h2, h3, h4⟩ := spl_backS c r []
      rw [spl_hitS];refine ⟨?_, fun w hw x hx => ?_, fun w hw => ?_, ?_⟩
      · rw [joinL_cons _ _ (spl_ne _ _ _ _), h1]; rfl
      · rcases List.mem_cons.mp hw with e | hw
        · subst e; exact List.mem_append_left _ hx
        · have := h2 w hw x hx
          rw [List.nil_append] at this;exact List.mem_append_right _ (List.mem_cons_of_mem _ this)
      · rcases List.mem_cons.mp hw with e | hw
        · subst e; omega
        · have := h3 w hw
          simp only [List.length_nil, List.length_cons] at this ⊢
          omega
      · simp only [List.length_cons];omega
    · obtain ⟨h1, h2, h3, h4⟩ := spl_backS s r (acc ++ [c]);rw [spl_noS _ _ h];have e : acc ++ [c] ++ r = acc ++ c :: r := by simp
      rw [e] at h1 h2;refine ⟨h1, h2, fun w hw => ?_, ?_⟩
      · have := h3 w hw
        simp only [List.length_append, List.length_cons, List.length_nil] at this ⊢
        omega
      · simp only [List.length_cons];omega
/-- a sign that texts are cut at -/
structure Sep (y : Str) (s : Nat) : Prop where
  tl : TL.tl y = [s]
  kd : y.cps.all (· < 256) = true
  ne : (y.length == 0) = false
  l1 : y.length = 1
section
variable {y : Str} {s : Nat}
theorem Sep.split (S : Sep y s) (z : Str) : (Txt.split z y).map TL.tl = TL.spl [s] 0 [] (TL.tl z) := by
  have h := TL.split_spl z y (by rw [S.tl]; simp) (TL.kind_ok S.kd)
  rw [S.tl] at h;exact h
/-- the parts of a text -/
structure Prt (y : Str) (s : Nat) (z : Str) (ws : List Str) : Prop where
  tls : ws.map TL.tl = TL.spl [s] 0 [] (TL.tl z)
  ne : ws ≠ []
  len : ws.length ≤ (TL.tl z).length + 1
  wl : ∀ w ∈ ws, (TL.tl w).length ≤ (TL.tl z).length
  mem : ∀ w ∈ ws, ∀ c ∈ TL.tl w, c ∈ TL.tl z
  jn : Txt.join y ws = z
theorem Sep.parts (S : Sep y s) (z : Str) : Prt y s z (Txt.split z y) := by
  have e := S.split z;obtain ⟨h1, h2, h3, h4⟩ := spl_backS s (TL.tl z) [];rw [List.nil_append] at h1;refine ⟨e, fun h => ?_, ?_, fun w hw => ?_, fun w hw c hc => ?_, TL.ext_tl ?_⟩
  · rw [h] at e;exact spl_ne _ _ _ _ e.symm
  · have := congrArg List.length e
    rw [List.length_map] at this;omega
  · have := h3 (TL.tl w) (by rw [← e]; exact List.mem_map.mpr ⟨w, hw, rfl⟩)
    simpa using this
  · have := h2 (TL.tl w) (by rw [← e]; exact List.mem_map.mpr ⟨w, hw, rfl⟩) c hc
    simpa using this
  · rw [TL.join_eq, TL.tl_join, S.tl, e];exact h1
theorem Sep.back (S : Sep y s) {parts : List Str} (hne : parts ≠ []) (hp : ∀ p ∈ parts, s ∉ TL.tl p) : Txt.split (Txt.join y parts) y = parts := TL.split_join S.tl S.kd hne hp
end
end PW
noncomputable section
namespace TL
open PySem PySem.Spec PyProof.Rows L2 RL
end TL
namespace PW
open PySem PySem.Spec PyProof.Rows L2 RL TL TP
/-- the errors of a web -/
inductive WE where
  | places (n : Int)
  | edges (n : Int)
  | edge (k : Int)
  | entry (p : Int)
  | noEx
  | exit (p : Int)
  | idle (p : Int)
end PW
noncomputable section
namespace TL
open PySem PySem.Spec PyProof.Rows L2 RL
end TL
namespace TP
open PySem PySem.Spec PyProof.Rows L2 RL SP TL
end TP
namespace TL
open PySem PySem.Spec PyProof.Rows L2 RL
end TL
namespace TL
open PySem PySem.Spec PyProof.Rows L2 RL
end TL
section
set_option maxHeartbeats 0
namespace PW
open PySem PySem.Spec PyProof.Rows L2 RL TL TP
end PW
end
noncomputable section
namespace TL
open PySem PySem.Spec PyProof.Rows L2 RL
/-- what a lending leaves as it is -/
inductive OkN : PEnv → Prop
  | nil : OkN []
  | no {ρ : PEnv} (t : OkN ρ) : OkN (none :: ρ)
  | fz {p : PV} {ρ : PEnv} (h : p.fz = true) (t : OkN ρ) : OkN (some p :: ρ)
  | nl {p : PV} {ρ : PEnv} (h : p.noL = true) (t : OkN ρ) : OkN (some p :: ρ)
theorem OkN.cl : ∀ {ρ : PEnv}, OkN ρ → clN ρ ρ = ρ
  | _, .nil => rfl
  | _, .no (ρ := ρ) t => by
    show none :: clN (none :: ρ).tail ρ = _
    rw [show (none :: ρ).tail = ρ from rfl, t.cl]
  | _, .fz (p := p) (ρ := ρ) h t => by
    unfold clN;rw [if_pos (.inr ⟨rfl, h⟩), show (some p :: ρ).tail = ρ from rfl, t.cl]
  | _, .nl (p := p) (ρ := ρ) h t => by
    unfold clN;rw [if_pos (.inl h), show (some p :: ρ).tail = ρ from rfl, t.cl]
end TL
namespace TL
open PySem PySem.Spec PyProof.Rows L2 RL
end TL
namespace TP
open PySem PySem.Spec PyProof.Rows L2 RL SP TL
end TP
namespace TL
open PySem PySem.Spec PyProof.Rows L2 RL
end TL
noncomputable section
namespace TL
open PySem PySem.Spec PyProof.Rows L2 RL
end TL
end
noncomputable section
namespace TP
open PySem PySem.Spec PyProof.Rows L2 RL SP TL
end TP
end
noncomputable section
namespace TL
open PySem PySem.Spec PyProof.Rows L2 RL
end TL
end
noncomputable section
namespace TL
open PySem PySem.Spec PyProof.Rows L2 RL
end TL
end
section
set_option maxHeartbeats 0
namespace PW
open PySem PySem.Spec PyProof.Rows L2 RL TL TP
inductive At where
  | i (n : Int)
  | s (x : Str)
  | n
  deriving DecidableEq
def eAt : At → PV
  | .i n => .int n
  | .s x => .str x
  | .n => .non
def At.ok : At → Bool
  | .s x => PyData.strOk x
  | _ => true
theorem eAt_okD {n : Nat} {a : At} (h : a.ok = true) : okD n (eAt a) = true := by
  cases a with
  | i k => cases n <;> rfl
  | s x => cases n <;> exact h
  | n => cases n <;> rfl
theorem eAt_eqD {n : Nat} (a b : At) : eqD n (eAt a) (eAt b) = decide (a = b) := by
  cases a with
  | i k => cases b with
    | i l =>
      cases n <;> (show (k == l) = _; rw [Bool.eq_iff_iff]; simp)
    | s x => cases n <;> rfl
    | n => cases n <;> rfl
  | s x => cases b with
    | i l => cases n <;> rfl
    | s y => cases n <;> (show (x == y) = _; rw [str_eqb, Bool.eq_iff_iff]; simp)
    | n => cases n <;> rfl
  | n => cases b with
    | i l => cases n <;> rfl
    | s y => cases n <;> rfl
    | n => cases n <;> (show true = _; simp)
theorem eAts_ok {n : Nat} {l : List At} (h : l.all At.ok = true) : (l.map eAt).all (okD n) = true := by
  rw [List.all_map, List.all_eq_true];exact fun a ha => eAt_okD (List.all_eq_true.mp h a ha)
theorem eAts_eqL {n : Nat} : ∀ l l' : List At, eqDL (eqD n) (l.map eAt) (l'.map eAt) = decide (l = l')
  | [], [] => rfl
  | [], _ :: _ => rfl
  | _ :: _, [] => rfl
  | a :: l, b :: l' => by
    show (eqD n (eAt a) (eAt b) && eqDL (eqD n) (l.map eAt) (l'.map eAt)) = _
    rw [eAt_eqD, eAts_eqL l l', Bool.eq_iff_iff];simp
/-- such a row: a tuple, or a frozen list -/
def hE (b : Bool) (l : List At) : PV := if b then .lst false (l.map eAt) else .tup (l.map eAt)
theorem neP_at {a b : At} (ha : a.ok = true) (hb : b.ok = true) : neP (eAt a) (eAt b) = some (!decide (a = b)) := by
  unfold neP;rw [if_pos ⟨eAt_okD ha, eAt_okD hb⟩, eAt_eqD]
theorem neP_row {l l' : List At} (ha : l.all At.ok = true) (hb : l'.all At.ok = true) : neP (.tup (l.map eAt)) (.tup (l'.map eAt)) = some (!decide (l = l')) := by
  unfold neP;have h1 : okD dN (.tup (l.map eAt)) = true := eAts_ok (n := 5) ha
  have h2 : okD dN (.tup (l'.map eAt)) = true := eAts_ok (n := 5) hb
  rw [if_pos ⟨h1, h2⟩];show some (!eqDL (eqD 5) _ _) = _
  rw [eAts_eqL]
end PW
end
noncomputable section
namespace TL
open PySem PySem.Spec PyProof.Rows L2 RL
end TL
namespace TP
open PySem PySem.Spec PyProof.Rows L2 RL TL
end TP
end
section
set_option maxHeartbeats 0
namespace PW
open PySem PySem.Spec PyProof.Rows L2 RL TL
end PW
end
noncomputable section
namespace TL
open PySem PySem.Spec PyProof.Rows L2 RL
section
variable {L M A X S : Type} {c : EC L M A X} {E : S → PEnv → Prop} {ρ : PEnv} {b : PEnv → SR} {t : TS L M A X S}
theorem vG_e {f : PEnv → ER PV} {p : PV} (h : f ρ = .ok p) (hz : p.fz = true) : vG f ρ = .ok p ρ := by
  unfold vG;rw [h]
  simp only [ER.bind, chkF, hz, if_true];rfl
end
end TL
namespace TP
open PySem PySem.Spec PyProof.Rows L2 RL TL
end TP
end
noncomputable section
namespace TL
open PySem PySem.Spec PyProof.Rows L2 RL
end TL
end
noncomputable section
namespace TL
open PySem PySem.Spec PyProof.Rows L2 RL
end TL
section
set_option maxHeartbeats 2000000
noncomputable section
namespace TL
open PySem PySem.Spec PyProof.Rows L2 RL
end TL
end
end
section
set_option maxHeartbeats 2000000
noncomputable section
namespace TL
open PySem PySem.Spec PyProof.Rows L2 RL
end TL
end
end
section
set_option maxHeartbeats 2000000
noncomputable section
namespace TL
open PySem PySem.Spec PyProof.Rows L2 RL
variable {L M A X S : Type} {K : Fg}
/-- an exception that is a value -/
def eXv (K : Fg) (x : TX) : PV := .exo (He.ga K x.c) x.ns x.vs
theorem frz_xo (C : Addr) (ns : List Str) (vs : List PV) : (PV.exo C ns vs).frz = .exo C ns vs := by simp only [PV.frz]
def kExn (C : Addr) (fld : Str) (k : PV → PEnv → SR) : PV → PEnv → SR := fun p ρ => k (.exo C [fld] [p]) ρ
theorem g_exn {c : EC L M A X} {E : S → PEnv → Prop} {t : TS L M A X S} {ρ : PEnv} {k : PV → PEnv → SR} {C : Addr} {fld : Str} {f : PEnv → GR PV} (h : Sim c E ((f ρ).st (kExn C fld k)) t) : Sim c E ((exnG C fld f ρ).st k) t := by
  have e : (exnG C fld f ρ).st k = (f ρ).st (kExn C fld k) := by
    unfold exnG;cases f ρ <;> rfl
  rwa [e]
theorem k_exn {c : EC L M A X} {E : S → PEnv → Prop} {t : TS L M A X S} {ρ : PEnv} {k : PV → PEnv → SR} {a fld : Str} {p : PV} (h : Sim c E (k (eXv K ⟨a, [fld], [p]⟩) ρ) t) : Sim c E (kExn (He.ga K a) fld k p ρ) t := h
/-- its attribute -/
def xvO (N : List Str) (f : Str) (x : TX) : Option PV := if x.c ∈ N then lookN f x.ns x.vs else none
theorem o_exf {N : List Str} {f : Str} {x : TX} {p : PV} (h : xvO N f x = some p) : exfP (N.map (He.ga K)) f (eXv K x) = some p := by
  unfold xvO at h;split at h
  · rename_i hm
    show (if He.ga K x.c ∈ N.map (He.ga K) then _ else _) = _
    rw [if_pos (List.mem_map_of_mem hm)];exact h
  · cases h
/-- its class -/
def isXO (N : List Str) (d : Str) (x : TX) : Option Bool := if x.c ∈ N then some (decide (x.c = d)) else none
def isXT (N : List Str) (x : TX) : Option Bool := if x.c ∈ N then some true else none
theorem o_isX {N : List Str} {d : Str} {x : TX} {b : Bool} (hf : ∀ c ∈ N, PySem.W.kitOne K (.ref (He.ga K c)) (.ref (He.ga K d)) = some (decide (c = d))) (h : isXO N d x = some b) : isvA K (N.map (He.ga K)) [eXv K x, .sc (.ref (He.ga K d))] = some (.bl b) := by
  unfold isXO at h;split at h
  · rename_i hm
    cases h;show (if He.ga K x.c ∈ N.map (He.ga K) then _ else _) = _
    rw [if_pos (List.mem_map_of_mem hm)];show (PySem.W.kitOne K (.ref (He.ga K x.c)) (.ref (He.ga K d))).map PV.bl = _
    rw [hf _ hm]; rfl
  · cases h
theorem o_isXT {N : List Str} {d : Str} {x : TX} {b : Bool} (hf : ∀ c ∈ N, PySem.W.kitOne K (.ref (He.ga K c)) (.ref (He.ga K d)) = some true) (h : isXT N x = some b) : isvA K (N.map (He.ga K)) [eXv K x, .sc (.ref (He.ga K d))] = some (.bl b) := by
  unfold isXT at h;split at h
  · rename_i hm
    cases h;show (if He.ga K x.c ∈ N.map (He.ga K) then _ else _) = _
    rw [if_pos (List.mem_map_of_mem hm)];show (PySem.W.kitOne K (.ref (He.ga K x.c)) (.ref (He.ga K d))).map PV.bl = _
    rw [hf _ hm]; rfl
  · cases h
theorem o_isXy {N : List Str} {d : String} {x : TX} {b : Bool} (hf : ∀ c ∈ N, PySem.W.kitOne K (.ref (He.ga K c)) (.type d) = some true) (h : isXT N x = some b) : isvA K (N.map (He.ga K)) [eXv K x, .sc (.ty d)] = some (.bl b) := by
  unfold isXT at h;split at h
  · rename_i hm
    cases h;show (if He.ga K x.c ∈ N.map (He.ga K) then _ else _) = _
    rw [if_pos (List.mem_map_of_mem hm)];show (PySem.W.kitOne K (.ref (He.ga K x.c)) (.type d)).map PV.bl = _
    rw [hf _ hm]; rfl
  · cases h
end TL
end
end
section
set_option maxHeartbeats 0
namespace K86
noncomputable section
open PySem PySem.Spec PyProof.Rows L2 RL SP
/-- what the module says -/
structure Fs (K : Fg) (mg : Str → Option Value) : Prop where
  free_ValueError : mg "ValueError" = none
  free_abs : mg "abs" = none
  free_int : mg "int" = none
  free_isinstance : mg "isinstance" = none
  free_len : mg "len" = none
  free_range : mg "range" = none
  free_tuple : mg "tuple" = none
  glo_BadDeed : mg "BadDeed" = some (.ref (He.ga K "BadDeed"))
  glo_BadEdge : mg "BadEdge" = some (.ref (He.ga K "BadEdge"))
  glo_BadEdges : mg "BadEdges" = some (.ref (He.ga K "BadEdges"))
  glo_BadEdit : mg "BadEdit" = some (.ref (He.ga K "BadEdit"))
  glo_BadEntry : mg "BadEntry" = some (.ref (He.ga K "BadEntry"))
  glo_BadExit : mg "BadExit" = some (.ref (He.ga K "BadExit"))
  glo_BadLength : mg "BadLength" = some (.ref (He.ga K "BadLength"))
  glo_BadLine : mg "BadLine" = some (.ref (He.ga K "BadLine"))
  glo_BadMark : mg "BadMark" = some (.ref (He.ga K "BadMark"))
  glo_BadMenu : mg "BadMenu" = some (.ref (He.ga K "BadMenu"))
  glo_BadName : mg "BadName" = some (.ref (He.ga K "BadName"))
  glo_BadPlace : mg "BadPlace" = some (.ref (He.ga K "BadPlace"))
  glo_BadPlaces : mg "BadPlaces" = some (.ref (He.ga K "BadPlaces"))
  glo_BadPrice : mg "BadPrice" = some (.ref (He.ga K "BadPrice"))
  glo_BadSeats : mg "BadSeats" = some (.ref (He.ga K "BadSeats"))
  glo_BadWay : mg "BadWay" = some (.ref (He.ga K "BadWay"))
  glo_BadWord : mg "BadWord" = some (.ref (He.ga K "BadWord"))
  glo_Barred : mg "Barred" = some (.ref (He.ga K "Barred"))
  glo_Idle : mg "Idle" = some (.ref (He.ga K "Idle"))
  glo_NoExits : mg "NoExits" = some (.ref (He.ga K "NoExits"))
  glo_NoGate : mg "NoGate" = some (.ref (He.ga K "NoGate"))
  glo_NoSeat : mg "NoSeat" = some (.ref (He.ga K "NoSeat"))
  glo_NotWhole : mg "NotWhole" = some (.ref (He.ga K "NotWhole"))
  glo_OtherWeb : mg "OtherWeb" = some (.ref (He.ga K "OtherWeb"))
  glo_SeatError : mg "SeatError" = some (.ref (He.ga K "SeatError"))
  glo_TooMany : mg "TooMany" = some (.ref (He.ga K "TooMany"))
  glo_TwiceInMenu : mg "TwiceInMenu" = some (.ref (He.ga K "TwiceInMenu"))
  glo_TwoMarks : mg "TwoMarks" = some (.ref (He.ga K "TwoMarks"))
  noat_BadDeed_index : PySem.W.findIn K (.ref (He.ga K "BadDeed")) "index" = some none
  noat_BadEdge_index : PySem.W.findIn K (.ref (He.ga K "BadEdge")) "index" = some none
  noat_BadEdges_count : PySem.W.findIn K (.ref (He.ga K "BadEdges")) "count" = some none
  noat_BadEdit_change : PySem.W.findIn K (.ref (He.ga K "BadEdit")) "change" = some none
  noat_BadEntry_place : PySem.W.findIn K (.ref (He.ga K "BadEntry")) "place" = some none
  noat_BadExit_place : PySem.W.findIn K (.ref (He.ga K "BadExit")) "place" = some none
  noat_BadLength_count : PySem.W.findIn K (.ref (He.ga K "BadLength")) "count" = some none
  noat_BadLine_line : PySem.W.findIn K (.ref (He.ga K "BadLine")) "line" = some none
  noat_BadMark_number : PySem.W.findIn K (.ref (He.ga K "BadMark")) "number" = some none
  noat_BadMenu_count : PySem.W.findIn K (.ref (He.ga K "BadMenu")) "count" = some none
  noat_BadName_name : PySem.W.findIn K (.ref (He.ga K "BadName")) "name" = some none
  noat_BadPlace_number : PySem.W.findIn K (.ref (He.ga K "BadPlace")) "number" = some none
  noat_BadPlaces_count : PySem.W.findIn K (.ref (He.ga K "BadPlaces")) "count" = some none
  noat_BadPrice_gate : PySem.W.findIn K (.ref (He.ga K "BadPrice")) "gate" = some none
  noat_BadSeats_count : PySem.W.findIn K (.ref (He.ga K "BadSeats")) "count" = some none
  noat_BadWay_index : PySem.W.findIn K (.ref (He.ga K "BadWay")) "index" = some none
  noat_BadWord_word : PySem.W.findIn K (.ref (He.ga K "BadWord")) "word" = some none
  noat_Barred_index : PySem.W.findIn K (.ref (He.ga K "Barred")) "index" = some none
  noat_Idle_place : PySem.W.findIn K (.ref (He.ga K "Idle")) "place" = some none
  noat_NoGate_number : PySem.W.findIn K (.ref (He.ga K "NoGate")) "number" = some none
  noat_NoSeat_name : PySem.W.findIn K (.ref (He.ga K "NoSeat")) "name" = some none
  noat_NotWhole_place : PySem.W.findIn K (.ref (He.ga K "NotWhole")) "place" = some none
  noat_TooMany_count : PySem.W.findIn K (.ref (He.ga K "TooMany")) "count" = some none
  noat_TwiceInMenu_index : PySem.W.findIn K (.ref (He.ga K "TwiceInMenu")) "index" = some none
  noat_TwoMarks_number : PySem.W.findIn K (.ref (He.ga K "TwoMarks")) "number" = some none
  xfx_BadDeed : XfX K (He.ga K "BadDeed")
  xfx_BadEdge : XfX K (He.ga K "BadEdge")
  xfx_BadEdges : XfX K (He.ga K "BadEdges")
  xfx_BadEdit : XfX K (He.ga K "BadEdit")
  xfx_BadEntry : XfX K (He.ga K "BadEntry")
  xfx_BadExit : XfX K (He.ga K "BadExit")
  xfx_BadLength : XfX K (He.ga K "BadLength")
  xfx_BadLine : XfX K (He.ga K "BadLine")
  xfx_BadMark : XfX K (He.ga K "BadMark")
  xfx_BadMenu : XfX K (He.ga K "BadMenu")
  xfx_BadName : XfX K (He.ga K "BadName")
  xfx_BadPlace : XfX K (He.ga K "BadPlace")
  xfx_BadPlaces : XfX K (He.ga K "BadPlaces")
  xfx_BadPrice : XfX K (He.ga K "BadPrice")
  xfx_BadSeats : XfX K (He.ga K "BadSeats")
  xfx_BadWay : XfX K (He.ga K "BadWay")
  xfx_BadWord : XfX K (He.ga K "BadWord")
  xfx_Barred : XfX K (He.ga K "Barred")
  xfx_Idle : XfX K (He.ga K "Idle")
  xfx_NoExits : XfX K (He.ga K "NoExits")
  xfx_NoGate : XfX K (He.ga K "NoGate")
  xfx_NoSeat : XfX K (He.ga K "NoSeat")
  xfx_NotWhole : XfX K (He.ga K "NotWhole")
  xfx_OtherWeb : XfX K (He.ga K "OtherWeb")
  xfx_TooMany : XfX K (He.ga K "TooMany")
  xfx_TwiceInMenu : XfX K (He.ga K "TwiceInMenu")
  xfx_TwoMarks : XfX K (He.ga K "TwoMarks")
  exc0_NoExits : XC0 K (He.ga K "NoExits")
  exc0_OtherWeb : XC0 K (He.ga K "OtherWeb")
def exN : List Str := ["BadPlaces", "BadEdges", "BadEdge", "BadEntry", "NoExits", "BadExit", "Idle", "NoGate", "BadWay", "NotWhole", "BadPlace", "BadMark", "TwoMarks", "BadLength", "BadPrice", "BadWord", "OtherWeb", "TooMany", "Barred", "BadSeats", "BadName", "NoSeat", "BadEdit", "BadMenu", "TwiceInMenu", "BadDeed", "BadLine"]
def exL (K : Fg) : List Addr := exN.map (He.ga K)
theorem exL_ok {K : Fg} {mg : Str → Option Value} (Z : Fs K mg) : ∀ C ∈ exL K, XfX K C := (all_k1 Z.xfx_BadPlaces (all_k1 Z.xfx_BadEdges (all_k1 Z.xfx_BadEdge (all_k1 Z.xfx_BadEntry (all_k1 Z.xfx_NoExits (all_k1 Z.xfx_BadExit (all_k1 Z.xfx_Idle (all_k1 Z.xfx_NoGate (all_k1 Z.xfx_BadWay (all_k1 Z.xfx_NotWhole (all_k1 Z.xfx_BadPlace (all_k1 Z.xfx_BadMark (all_k1 Z.xfx_TwoMarks (all_k1 Z.xfx_BadLength (all_k1 Z.xfx_BadPrice (all_k1 Z.xfx_BadWord (all_k1 Z.xfx_OtherWeb (all_k1 Z.xfx_TooMany (all_k1 Z.xfx_Barred (all_k1 Z.xfx_BadSeats (all_k1 Z.xfx_BadName (all_k1 Z.xfx_NoSeat (all_k1 Z.xfx_BadEdit (all_k1 Z.xfx_BadMenu (all_k1 Z.xfx_TwiceInMenu (all_k1 Z.xfx_BadDeed (all_k1 Z.xfx_BadLine (fun _ z => nomatch z))))))))))))))))))))))))))))
section
variable {P : Program} {w : World} {K : Fg} {mg : Str → Option Value} {base : Heap} {f : Addr} {fd : FuncData}
theorem sc_law_pool : FnScope ["_law_script"] ["_law_script"] (defScope (top 30)) := ⟨rfl, rfl, rfl, by decide +kernel, rfl, by decide +kernel, by decide +kernel⟩
theorem fn_law_pool (Z : Fs K mg) (F : FunD K "_law_pool" "_law_pool" (defArgs (top 30)) (defBody (top 30)) (defScope (top 30)) [] [] f fd) : FnOk P w K mg base (L2.CX P w) 5 f fd ["_law_script"] (spR K (m_law_pool K)) :=
  fn_ok F sc_law_pool rfl fun cdv A outer s H E hr =>
    (rss_one (rs_ret (ge_fe (fe_lst (va_cons (ve_var (pv 0)) (va_cons (ve_c pe_int) (va_cons (ve_c pe_int) (va_cons (ve_c pe_int) (va_cons (ve_c pe_int) va_nil)))))))))
theorem sc_law_draw : FnScope ["_law_pool_here", "_law_limit", "_law_cell", "_law_digit", "_law_mixed"] ["_law_pool_here", "_law_limit"] (defScope (top 31)) := ⟨rfl, rfl, rfl, by decide +kernel, rfl, by decide +kernel, by decide +kernel⟩
theorem fn_law_draw (Z : Fs K mg) (F : FunD K "_law_draw" "_law_draw" (defArgs (top 31)) (defBody (top 31)) (defScope (top 31)) [] [] f fd) : FnOk P w K mg base (L2.CX P w) 5 f fd ["_law_pool_here", "_law_limit"] (spR K (m_law_draw K)) :=
  fn_ok F sc_law_draw rfl fun cdv A outer s H E hr =>
    (rss_cons (rs_setIx (gz_ge (ge_fe (fe_op op_addU o2_addU (ve_ix (ve_var (pv 0)) (ve_c pe_int)) (ve_c pe_int)))) (pv 0) (gz_ve (ve_c pe_int)))
      (rss_cons (rs_if (gt_vt (vt_w (vw_and (vt_cmp (op_eqD (Room.units hr)) o2_eq (ve_ix (ve_var (pv 0)) (ve_c pe_int)) (ve_c pe_int) rfl) (vw_and1 (vt_cmp op_lt o2_cmp (ve_ix (ve_var (pv 0)) (ve_c pe_int)) (ve_fe (fe_callB cr_len cg_len rfl Z.free_len (by decide +kernel) (va_cons (ve_ix (ve_var (pv 0)) (ve_c pe_int)) va_nil))) rfl))))) (rss_cons (rs_set sc_law_draw.nd rfl (by first | exact .inl rfl | exact .inr rfl) (by decide) (ge_gz (gz_ge (ge_fe (fe_callB call_abs cg_abs rfl Z.free_abs (by decide +kernel) (va_cons (ve_ix (ve_ix (ve_var (pv 0)) (ve_c pe_int)) (ve_ix (ve_var (pv 0)) (ve_c pe_int))) va_nil))))))
      (rss_cons (rs_setIx (gz_ge (ge_fe (fe_op op_addU o2_addU (ve_ix (ve_var (pv 0)) (ve_c pe_int)) (ve_c pe_int)))) (pv 0) (gz_ve (ve_c pe_int)))
      (rss_one (rs_if (gt_vt (vt_cmp op_ge o2_cmp (ve_var (pv 2)) (ve_op op_pow o2_pow (ve_c pe_int) (ve_c pe_int)) rfl)) (rss_one (rs_setIx (gz_ve (ve_var (pv 2))) (pv 0) (gz_ve (ve_c pe_int))))
      (rss_one (rs_setIx (gz_ve (ve_op op_mod o2_mod (ve_fe (fe_callTy call_int1 cg_int rfl Z.free_int (by decide +kernel) (va_cons (ve_op op_mul o2_mul (ve_fe (fe_op op_addU o2_addU (ve_fe (fe_op op_addU o2_addU (ve_ix (ve_var (pv 0)) (ve_c pe_int)) (ve_var (pv 2)))) (ve_c pe_int))) (ve_c pe_int)) va_nil))) (ve_c pe_int))) (pv 0) (gz_ve (ve_c pe_int))))))))
      rss_nil)
      (rss_cons (rs_if (gt_vt (vt_cmp op_gt o2_cmp (ve_ix (ve_var (pv 0)) (ve_c pe_int)) (ve_c pe_int) rfl)) (rss_cons (rs_set sc_law_draw.nd rfl (by first | exact .inl rfl | exact .inr rfl) (by decide) (ge_ve (ve_op op_mod o2_mod (ve_fe (fe_callTy call_int1 cg_int rfl Z.free_int (by decide +kernel) (va_cons (ve_ix (ve_var (pv 0)) (ve_c pe_int)) va_nil))) (ve_var (pv 1)))))
      (rss_cons (rs_setIx (gz_ve (ve_op op_fdivW o2_fdiv (ve_ix (ve_var (pv 0)) (ve_c pe_int)) (ve_var (pv 1)))) (pv 0) (gz_ve (ve_c pe_int)))
      (rss_one (rs_ret (ge_ve (ve_var (pv 3)))))))
      rss_nil)
      (rss_cons (rs_set sc_law_draw.nd rfl (by first | exact .inl rfl | exact .inr rfl) (by decide) (ge_ve (ve_op op_mod o2_mod (ve_fe (fe_callTy call_int1 cg_int rfl Z.free_int (by decide +kernel) (va_cons (ve_op op_pow o2_pow (ve_fe (fe_op op_addU o2_addU (ve_ix (ve_var (pv 0)) (ve_c pe_int)) (ve_op op_mul o2_mul (ve_ix (ve_var (pv 0)) (ve_c pe_int)) (ve_c pe_int)))) (ve_c pe_int)) va_nil))) (ve_c pe_int))))
      (rss_one (rs_ret (ge_ve (ve_op op_mod o2_mod (ve_fe (fe_callTy call_int1 cg_int rfl Z.free_int (by decide +kernel) (va_cons (ve_op op_fdivW o2_fdiv (ve_var (pv 4)) (ve_c pe_int)) va_nil))) (ve_var (pv 1))))))))))
@[simp] def t_law_first_v2_0 (K : Fg) (ρ : PEnv) : SR := (setG 4 (frzG (exnG (He.ga K "BadPlaces") "count" (vG (nmE 1))))) ρ
@[simp] def t_law_first_v2_1 (K : Fg) (ρ : PEnv) : SR := (retG (fG (bindA (consA (nmE 4) (consA (bind1 (nmE 4) (exfP [(He.ga K "BadPlaces"), (He.ga K "BadEdges"), (He.ga K "BadLength"), (He.ga K "TooMany"), (He.ga K "BadSeats"), (He.ga K "BadMenu")] "count")) (consA (nmE 1) nilA))) displayT))) ρ
@[simp] def t_law_first_v2_2 (K : Fg) (ρ : PEnv) : SR := (ifG (fun ρ => ((bind2b (nmE 0) (fun _ => ER.ok (PV.sc (V.int 0))) eqP) ρ).at ρ) (seqS (t_law_first_v2_0 K)
    (t_law_first_v2_1 K))
    skipS) ρ
@[simp] def t_law_first_v2_3 (K : Fg) (ρ : PEnv) : SR := (setG 4 (frzG (exnG (He.ga K "BadEdges") "count" (vG (nmE 1))))) ρ
@[simp] def t_law_first_v2_4 (K : Fg) (ρ : PEnv) : SR := (retG (fG (bindA (consA (nmE 4) (consA (bind1 (nmE 4) (exfP [(He.ga K "BadPlaces"), (He.ga K "BadEdges"), (He.ga K "BadLength"), (He.ga K "TooMany"), (He.ga K "BadSeats"), (He.ga K "BadMenu")] "count")) (consA (nmE 1) nilA))) displayT))) ρ
@[simp] def t_law_first_v2_5 (K : Fg) (ρ : PEnv) : SR := (ifG (fun ρ => ((bind2b (nmE 0) (fun _ => ER.ok (PV.sc (V.int 1))) eqP) ρ).at ρ) (seqS (t_law_first_v2_3 K)
    (t_law_first_v2_4 K))
    skipS) ρ
@[simp] def t_law_first_v2_6 (K : Fg) (ρ : PEnv) : SR := (setG 4 (frzG (exnG (He.ga K "BadEdge") "index" (vG (nmE 1))))) ρ
@[simp] def t_law_first_v2_7 (K : Fg) (ρ : PEnv) : SR := (retG (fG (bindA (consA (nmE 4) (consA (bind1 (nmE 4) (exfP [(He.ga K "BadEdge"), (He.ga K "BadWay"), (He.ga K "Barred"), (He.ga K "TwiceInMenu"), (He.ga K "BadDeed")] "index")) (consA (nmE 1) nilA))) displayT))) ρ
@[simp] def t_law_first_v2_8 (K : Fg) (ρ : PEnv) : SR := (ifG (fun ρ => ((bind2b (nmE 0) (fun _ => ER.ok (PV.sc (V.int 2))) eqP) ρ).at ρ) (seqS (t_law_first_v2_6 K)
    (t_law_first_v2_7 K))
    skipS) ρ
@[simp] def t_law_first_v2_9 (K : Fg) (ρ : PEnv) : SR := (setG 4 (frzG (exnG (He.ga K "BadEntry") "place" (vG (nmE 1))))) ρ
@[simp] def t_law_first_v2_10 (K : Fg) (ρ : PEnv) : SR := (retG (fG (bindA (consA (nmE 4) (consA (bind1 (nmE 4) (exfP [(He.ga K "BadEntry"), (He.ga K "BadExit"), (He.ga K "Idle"), (He.ga K "NotWhole")] "place")) (consA (nmE 1) nilA))) displayT))) ρ
@[simp] def t_law_first_v2_11 (K : Fg) (ρ : PEnv) : SR := (ifG (fun ρ => ((bind2b (nmE 0) (fun _ => ER.ok (PV.sc (V.int 3))) eqP) ρ).at ρ) (seqS (t_law_first_v2_9 K)
    (t_law_first_v2_10 K))
    skipS) ρ
@[simp] def t_law_first_v2_12 (K : Fg) (ρ : PEnv) : SR := (retG (fG (bindA (consA (frzE (fun _ => ER.ok (PV.exo (He.ga K "NoExits") [] []))) (consA (fun _ => ER.ok (PV.sc (V.int 0))) (consA (fun _ => ER.ok (PV.sc (V.int 0))) nilA))) displayT))) ρ
@[simp] def t_law_first_v2_13 (K : Fg) (ρ : PEnv) : SR := (ifG (fun ρ => ((bind2b (nmE 0) (fun _ => ER.ok (PV.sc (V.int 4))) eqP) ρ).at ρ) (t_law_first_v2_12 K)
    skipS) ρ
@[simp] def t_law_first_v2_14 (K : Fg) (ρ : PEnv) : SR := (setG 4 (frzG (exnG (He.ga K "BadExit") "place" (vG (nmE 1))))) ρ
@[simp] def t_law_first_v2_15 (K : Fg) (ρ : PEnv) : SR := (retG (fG (bindA (consA (nmE 4) (consA (bind1 (nmE 4) (exfP [(He.ga K "BadEntry"), (He.ga K "BadExit"), (He.ga K "Idle"), (He.ga K "NotWhole")] "place")) (consA (nmE 1) nilA))) displayT))) ρ
@[simp] def t_law_first_v2_16 (K : Fg) (ρ : PEnv) : SR := (ifG (fun ρ => ((bind2b (nmE 0) (fun _ => ER.ok (PV.sc (V.int 5))) eqP) ρ).at ρ) (seqS (t_law_first_v2_14 K)
    (t_law_first_v2_15 K))
    skipS) ρ
@[simp] def t_law_first_v2_17 (K : Fg) (ρ : PEnv) : SR := (setG 4 (frzG (exnG (He.ga K "Idle") "place" (vG (nmE 1))))) ρ
@[simp] def t_law_first_v2_18 (K : Fg) (ρ : PEnv) : SR := (retG (fG (bindA (consA (nmE 4) (consA (bind1 (nmE 4) (exfP [(He.ga K "BadEntry"), (He.ga K "BadExit"), (He.ga K "Idle"), (He.ga K "NotWhole")] "place")) (consA (nmE 1) nilA))) displayT))) ρ
@[simp] def t_law_first_v2_19 (K : Fg) (ρ : PEnv) : SR := (ifG (fun ρ => ((bind2b (nmE 0) (fun _ => ER.ok (PV.sc (V.int 6))) eqP) ρ).at ρ) (seqS (t_law_first_v2_17 K)
    (t_law_first_v2_18 K))
    skipS) ρ
@[simp] def t_law_first_v2_20 (K : Fg) (ρ : PEnv) : SR := (setG 4 (frzG (exnG (He.ga K "NoGate") "number" (vG (nmE 1))))) ρ
@[simp] def t_law_first_v2_21 (K : Fg) (ρ : PEnv) : SR := (retG (fG (bindA (consA (nmE 4) (consA (bind1 (nmE 4) (exfP [(He.ga K "NoGate"), (He.ga K "BadPlace"), (He.ga K "BadMark"), (He.ga K "TwoMarks")] "number")) (consA (nmE 1) nilA))) displayT))) ρ
@[simp] def t_law_first_v2_22 (K : Fg) (ρ : PEnv) : SR := (ifG (fun ρ => ((bind2b (nmE 0) (fun _ => ER.ok (PV.sc (V.int 7))) eqP) ρ).at ρ) (seqS (t_law_first_v2_20 K)
    (t_law_first_v2_21 K))
    skipS) ρ
@[simp] def t_law_first_v2_23 (K : Fg) (ρ : PEnv) : SR := (setG 4 (frzG (exnG (He.ga K "BadWay") "index" (vG (nmE 1))))) ρ
@[simp] def t_law_first_v2_24 (K : Fg) (ρ : PEnv) : SR := (retG (fG (bindA (consA (nmE 4) (consA (bind1 (nmE 4) (exfP [(He.ga K "BadEdge"), (He.ga K "BadWay"), (He.ga K "Barred"), (He.ga K "TwiceInMenu"), (He.ga K "BadDeed")] "index")) (consA (nmE 1) nilA))) displayT))) ρ
def s_law_first_v2 (K : Fg) : PEnv → SR := (seqS (t_law_first_v2_2 K)
    (seqS (t_law_first_v2_5 K)
    (seqS (t_law_first_v2_8 K)
    (seqS (t_law_first_v2_11 K)
    (seqS (t_law_first_v2_13 K)
    (seqS (t_law_first_v2_16 K)
    (seqS (t_law_first_v2_19 K)
    (seqS (t_law_first_v2_22 K)
    (seqS (t_law_first_v2_23 K)
    (t_law_first_v2_24 K))))))))))
def m_law_first_v2 (K : Fg) : List PV → FR := fnM 4 1 [0, 1, 2, 3] (s_law_first_v2 K)
theorem sc_law_first_v2 : FnScope ["_law_k", "_law_number", "_law_several", "_law_word", "_law_e"] ["_law_k", "_law_number", "_law_several", "_law_word"] (defScope (top 32)) := ⟨rfl, rfl, rfl, by decide +kernel, rfl, by decide +kernel, by decide +kernel⟩
theorem fn_law_first_v2 (Z : Fs K mg) (x_BadPlaces : XCallee P w K mg base 2 "BadPlaces" (He.ga K "BadPlaces") "count") (x_BadEdges : XCallee P w K mg base 2 "BadEdges" (He.ga K "BadEdges") "count") (x_BadEdge : XCallee P w K mg base 2 "BadEdge" (He.ga K "BadEdge") "index") (x_BadEntry : XCallee P w K mg base 2 "BadEntry" (He.ga K "BadEntry") "place") (x_BadExit : XCallee P w K mg base 2 "BadExit" (He.ga K "BadExit") "place") (x_Idle : XCallee P w K mg base 2 "Idle" (He.ga K "Idle") "place") (x_NoGate : XCallee P w K mg base 2 "NoGate" (He.ga K "NoGate") "number") (x_BadWay : XCallee P w K mg base 2 "BadWay" (He.ga K "BadWay") "index") (F : FunD K "_law_first" "_law_first" (defArgs (top 32)) (defBody (top 32)) (defScope (top 32)) [] [] f fd) : FnOk P w K mg base (L2.CX P w) 5 f fd ["_law_k", "_law_number", "_law_several", "_law_word"] (spR K (m_law_first_v2 K)) :=
  fn_ok F sc_law_first_v2 rfl fun cdv A outer s H E hr =>
    (rss_cons (rs_if (gt_vt (vt_cmp (op_eqD (Room.units hr)) o2_eq (ve_var (pv 0)) (ve_c pe_int) rfl)) (rss_cons (rs_set sc_law_first_v2.nd rfl (by first | exact .inl rfl | exact .inr rfl) (by decide) (ge_gz (gz_ge (ge_exn x_BadPlaces hr (by decide) rfl (gz_ve (ve_var (pv 1)))))))
      (rss_one (rs_ret (ge_fe (fe_tup (va_cons (ve_var (pv 4)) (va_cons (ve_xfv (Cs := [(He.ga K "BadPlaces"), (He.ga K "BadEdges"), (He.ga K "BadLength"), (He.ga K "TooMany"), (He.ga K "BadSeats"), (He.ga K "BadMenu")]) (all_k1 ⟨Z.xfx_BadPlaces, Z.noat_BadPlaces_count⟩ (all_k1 ⟨Z.xfx_BadEdges, Z.noat_BadEdges_count⟩ (all_k1 ⟨Z.xfx_BadLength, Z.noat_BadLength_count⟩ (all_k1 ⟨Z.xfx_TooMany, Z.noat_TooMany_count⟩ (all_k1 ⟨Z.xfx_BadSeats, Z.noat_BadSeats_count⟩ (all_k1 ⟨Z.xfx_BadMenu, Z.noat_BadMenu_count⟩ (fun _ z => nomatch z))))))) (ve_var (pv 4))) (va_cons (ve_var (pv 1)) va_nil))))))))
      rss_nil)
      (rss_cons (rs_if (gt_vt (vt_cmp (op_eqD (Room.units hr)) o2_eq (ve_var (pv 0)) (ve_c pe_int) rfl)) (rss_cons (rs_set sc_law_first_v2.nd rfl (by first | exact .inl rfl | exact .inr rfl) (by decide) (ge_gz (gz_ge (ge_exn x_BadEdges hr (by decide) rfl (gz_ve (ve_var (pv 1)))))))
      (rss_one (rs_ret (ge_fe (fe_tup (va_cons (ve_var (pv 4)) (va_cons (ve_xfv (Cs := [(He.ga K "BadPlaces"), (He.ga K "BadEdges"), (He.ga K "BadLength"), (He.ga K "TooMany"), (He.ga K "BadSeats"), (He.ga K "BadMenu")]) (all_k1 ⟨Z.xfx_BadPlaces, Z.noat_BadPlaces_count⟩ (all_k1 ⟨Z.xfx_BadEdges, Z.noat_BadEdges_count⟩ (all_k1 ⟨Z.xfx_BadLength, Z.noat_BadLength_count⟩ (all_k1 ⟨Z.xfx_TooMany, Z.noat_TooMany_count⟩ (all_k1 ⟨Z.xfx_BadSeats, Z.noat_BadSeats_count⟩ (all_k1 ⟨Z.xfx_BadMenu, Z.noat_BadMenu_count⟩ (fun _ z => nomatch z))))))) (ve_var (pv 4))) (va_cons (ve_var (pv 1)) va_nil))))))))
      rss_nil)
      (rss_cons (rs_if (gt_vt (vt_cmp (op_eqD (Room.units hr)) o2_eq (ve_var (pv 0)) (ve_c pe_int) rfl)) (rss_cons (rs_set sc_law_first_v2.nd rfl (by first | exact .inl rfl | exact .inr rfl) (by decide) (ge_gz (gz_ge (ge_exn x_BadEdge hr (by decide) rfl (gz_ve (ve_var (pv 1)))))))
      (rss_one (rs_ret (ge_fe (fe_tup (va_cons (ve_var (pv 4)) (va_cons (ve_xfv (Cs := [(He.ga K "BadEdge"), (He.ga K "BadWay"), (He.ga K "Barred"), (He.ga K "TwiceInMenu"), (He.ga K "BadDeed")]) (all_k1 ⟨Z.xfx_BadEdge, Z.noat_BadEdge_index⟩ (all_k1 ⟨Z.xfx_BadWay, Z.noat_BadWay_index⟩ (all_k1 ⟨Z.xfx_Barred, Z.noat_Barred_index⟩ (all_k1 ⟨Z.xfx_TwiceInMenu, Z.noat_TwiceInMenu_index⟩ (all_k1 ⟨Z.xfx_BadDeed, Z.noat_BadDeed_index⟩ (fun _ z => nomatch z)))))) (ve_var (pv 4))) (va_cons (ve_var (pv 1)) va_nil))))))))
      rss_nil)
      (rss_cons (rs_if (gt_vt (vt_cmp (op_eqD (Room.units hr)) o2_eq (ve_var (pv 0)) (ve_c pe_int) rfl)) (rss_cons (rs_set sc_law_first_v2.nd rfl (by first | exact .inl rfl | exact .inr rfl) (by decide) (ge_gz (gz_ge (ge_exn x_BadEntry hr (by decide) rfl (gz_ve (ve_var (pv 1)))))))
      (rss_one (rs_ret (ge_fe (fe_tup (va_cons (ve_var (pv 4)) (va_cons (ve_xfv (Cs := [(He.ga K "BadEntry"), (He.ga K "BadExit"), (He.ga K "Idle"), (He.ga K "NotWhole")]) (all_k1 ⟨Z.xfx_BadEntry, Z.noat_BadEntry_place⟩ (all_k1 ⟨Z.xfx_BadExit, Z.noat_BadExit_place⟩ (all_k1 ⟨Z.xfx_Idle, Z.noat_Idle_place⟩ (all_k1 ⟨Z.xfx_NotWhole, Z.noat_NotWhole_place⟩ (fun _ z => nomatch z))))) (ve_var (pv 4))) (va_cons (ve_var (pv 1)) va_nil))))))))
      rss_nil)
      (rss_cons (rs_if (gt_vt (vt_cmp (op_eqD (Room.units hr)) o2_eq (ve_var (pv 0)) (ve_c pe_int) rfl)) (rss_one (rs_ret (ge_fe (fe_tup (va_cons (ve_fe (fe_exn0 Z.exc0_NoExits Z.glo_NoExits rfl)) (va_cons (ve_c pe_int) (va_cons (ve_c pe_int) va_nil)))))))
      rss_nil)
      (rss_cons (rs_if (gt_vt (vt_cmp (op_eqD (Room.units hr)) o2_eq (ve_var (pv 0)) (ve_c pe_int) rfl)) (rss_cons (rs_set sc_law_first_v2.nd rfl (by first | exact .inl rfl | exact .inr rfl) (by decide) (ge_gz (gz_ge (ge_exn x_BadExit hr (by decide) rfl (gz_ve (ve_var (pv 1)))))))
      (rss_one (rs_ret (ge_fe (fe_tup (va_cons (ve_var (pv 4)) (va_cons (ve_xfv (Cs := [(He.ga K "BadEntry"), (He.ga K "BadExit"), (He.ga K "Idle"), (He.ga K "NotWhole")]) (all_k1 ⟨Z.xfx_BadEntry, Z.noat_BadEntry_place⟩ (all_k1 ⟨Z.xfx_BadExit, Z.noat_BadExit_place⟩ (all_k1 ⟨Z.xfx_Idle, Z.noat_Idle_place⟩ (all_k1 ⟨Z.xfx_NotWhole, Z.noat_NotWhole_place⟩ (fun _ z => nomatch z))))) (ve_var (pv 4))) (va_cons (ve_var (pv 1)) va_nil))))))))
      rss_nil)
      (rss_cons (rs_if (gt_vt (vt_cmp (op_eqD (Room.units hr)) o2_eq (ve_var (pv 0)) (ve_c pe_int) rfl)) (rss_cons (rs_set sc_law_first_v2.nd rfl (by first | exact .inl rfl | exact .inr rfl) (by decide) (ge_gz (gz_ge (ge_exn x_Idle hr (by decide) rfl (gz_ve (ve_var (pv 1)))))))
      (rss_one (rs_ret (ge_fe (fe_tup (va_cons (ve_var (pv 4)) (va_cons (ve_xfv (Cs := [(He.ga K "BadEntry"), (He.ga K "BadExit"), (He.ga K "Idle"), (He.ga K "NotWhole")]) (all_k1 ⟨Z.xfx_BadEntry, Z.noat_BadEntry_place⟩ (all_k1 ⟨Z.xfx_BadExit, Z.noat_BadExit_place⟩ (all_k1 ⟨Z.xfx_Idle, Z.noat_Idle_place⟩ (all_k1 ⟨Z.xfx_NotWhole, Z.noat_NotWhole_place⟩ (fun _ z => nomatch z))))) (ve_var (pv 4))) (va_cons (ve_var (pv 1)) va_nil))))))))
      rss_nil)
      (rss_cons (rs_if (gt_vt (vt_cmp (op_eqD (Room.units hr)) o2_eq (ve_var (pv 0)) (ve_c pe_int) rfl)) (rss_cons (rs_set sc_law_first_v2.nd rfl (by first | exact .inl rfl | exact .inr rfl) (by decide) (ge_gz (gz_ge (ge_exn x_NoGate hr (by decide) rfl (gz_ve (ve_var (pv 1)))))))
      (rss_one (rs_ret (ge_fe (fe_tup (va_cons (ve_var (pv 4)) (va_cons (ve_xfv (Cs := [(He.ga K "NoGate"), (He.ga K "BadPlace"), (He.ga K "BadMark"), (He.ga K "TwoMarks")]) (all_k1 ⟨Z.xfx_NoGate, Z.noat_NoGate_number⟩ (all_k1 ⟨Z.xfx_BadPlace, Z.noat_BadPlace_number⟩ (all_k1 ⟨Z.xfx_BadMark, Z.noat_BadMark_number⟩ (all_k1 ⟨Z.xfx_TwoMarks, Z.noat_TwoMarks_number⟩ (fun _ z => nomatch z))))) (ve_var (pv 4))) (va_cons (ve_var (pv 1)) va_nil))))))))
      rss_nil)
      (rss_cons (rs_set sc_law_first_v2.nd rfl (by first | exact .inl rfl | exact .inr rfl) (by decide) (ge_gz (gz_ge (ge_exn x_BadWay hr (by decide) rfl (gz_ve (ve_var (pv 1)))))))
      (rss_one (rs_ret (ge_fe (fe_tup (va_cons (ve_var (pv 4)) (va_cons (ve_xfv (Cs := [(He.ga K "BadEdge"), (He.ga K "BadWay"), (He.ga K "Barred"), (He.ga K "TwiceInMenu"), (He.ga K "BadDeed")]) (all_k1 ⟨Z.xfx_BadEdge, Z.noat_BadEdge_index⟩ (all_k1 ⟨Z.xfx_BadWay, Z.noat_BadWay_index⟩ (all_k1 ⟨Z.xfx_Barred, Z.noat_Barred_index⟩ (all_k1 ⟨Z.xfx_TwiceInMenu, Z.noat_TwiceInMenu_index⟩ (all_k1 ⟨Z.xfx_BadDeed, Z.noat_BadDeed_index⟩ (fun _ z => nomatch z)))))) (ve_var (pv 4))) (va_cons (ve_var (pv 1)) va_nil))))))))))))))))
@[simp] def t_law_second_0 (K : Fg) (ρ : PEnv) : SR := (setG 4 (frzG (exnG (He.ga K "NotWhole") "place" (vG (nmE 1))))) ρ
@[simp] def t_law_second_1 (K : Fg) (ρ : PEnv) : SR := (retG (fG (bindA (consA (nmE 4) (consA (bind1 (nmE 4) (exfP [(He.ga K "BadEntry"), (He.ga K "BadExit"), (He.ga K "Idle"), (He.ga K "NotWhole")] "place")) (consA (nmE 1) nilA))) displayT))) ρ
@[simp] def t_law_second_2 (K : Fg) (ρ : PEnv) : SR := (ifG (fun ρ => ((bind2b (nmE 0) (fun _ => ER.ok (PV.sc (V.int 9))) eqP) ρ).at ρ) (seqS (t_law_second_0 K)
    (t_law_second_1 K))
    skipS) ρ
@[simp] def t_law_second_3 (K : Fg) (ρ : PEnv) : SR := (setG 4 (frzG (exnG (He.ga K "BadPlace") "number" (vG (nmE 1))))) ρ
@[simp] def t_law_second_4 (K : Fg) (ρ : PEnv) : SR := (retG (fG (bindA (consA (nmE 4) (consA (bind1 (nmE 4) (exfP [(He.ga K "NoGate"), (He.ga K "BadPlace"), (He.ga K "BadMark"), (He.ga K "TwoMarks")] "number")) (consA (nmE 1) nilA))) displayT))) ρ
@[simp] def t_law_second_5 (K : Fg) (ρ : PEnv) : SR := (ifG (fun ρ => ((bind2b (nmE 0) (fun _ => ER.ok (PV.sc (V.int 10))) eqP) ρ).at ρ) (seqS (t_law_second_3 K)
    (t_law_second_4 K))
    skipS) ρ
@[simp] def t_law_second_6 (K : Fg) (ρ : PEnv) : SR := (setG 4 (frzG (exnG (He.ga K "BadMark") "number" (vG (nmE 1))))) ρ
@[simp] def t_law_second_7 (K : Fg) (ρ : PEnv) : SR := (retG (fG (bindA (consA (nmE 4) (consA (bind1 (nmE 4) (exfP [(He.ga K "NoGate"), (He.ga K "BadPlace"), (He.ga K "BadMark"), (He.ga K "TwoMarks")] "number")) (consA (nmE 1) nilA))) displayT))) ρ
@[simp] def t_law_second_8 (K : Fg) (ρ : PEnv) : SR := (ifG (fun ρ => ((bind2b (nmE 0) (fun _ => ER.ok (PV.sc (V.int 11))) eqP) ρ).at ρ) (seqS (t_law_second_6 K)
    (t_law_second_7 K))
    skipS) ρ
@[simp] def t_law_second_9 (K : Fg) (ρ : PEnv) : SR := (setG 4 (frzG (exnG (He.ga K "TwoMarks") "number" (vG (nmE 1))))) ρ
@[simp] def t_law_second_10 (K : Fg) (ρ : PEnv) : SR := (retG (fG (bindA (consA (nmE 4) (consA (bind1 (nmE 4) (exfP [(He.ga K "NoGate"), (He.ga K "BadPlace"), (He.ga K "BadMark"), (He.ga K "TwoMarks")] "number")) (consA (nmE 1) nilA))) displayT))) ρ
@[simp] def t_law_second_11 (K : Fg) (ρ : PEnv) : SR := (ifG (fun ρ => ((bind2b (nmE 0) (fun _ => ER.ok (PV.sc (V.int 12))) eqP) ρ).at ρ) (seqS (t_law_second_9 K)
    (t_law_second_10 K))
    skipS) ρ
@[simp] def t_law_second_12 (K : Fg) (ρ : PEnv) : SR := (setG 4 (frzG (exnG (He.ga K "BadLength") "count" (vG (nmE 1))))) ρ
@[simp] def t_law_second_13 (K : Fg) (ρ : PEnv) : SR := (retG (fG (bindA (consA (nmE 4) (consA (bind1 (nmE 4) (exfP [(He.ga K "BadPlaces"), (He.ga K "BadEdges"), (He.ga K "BadLength"), (He.ga K "TooMany"), (He.ga K "BadSeats"), (He.ga K "BadMenu")] "count")) (consA (nmE 1) nilA))) displayT))) ρ
@[simp] def t_law_second_14 (K : Fg) (ρ : PEnv) : SR := (ifG (fun ρ => ((bind2b (nmE 0) (fun _ => ER.ok (PV.sc (V.int 13))) eqP) ρ).at ρ) (seqS (t_law_second_12 K)
    (t_law_second_13 K))
    skipS) ρ
@[simp] def t_law_second_15 (K : Fg) (ρ : PEnv) : SR := (setG 4 (frzG (exnG (He.ga K "BadPrice") "gate" (vG (nmE 1))))) ρ
@[simp] def t_law_second_16 (K : Fg) (ρ : PEnv) : SR := (retG (fG (bindA (consA (nmE 4) (consA (bind1 (nmE 4) (exfP [(He.ga K "BadPrice")] "gate")) (consA (nmE 1) nilA))) displayT))) ρ
@[simp] def t_law_second_17 (K : Fg) (ρ : PEnv) : SR := (ifG (fun ρ => ((bind2b (nmE 0) (fun _ => ER.ok (PV.sc (V.int 14))) eqP) ρ).at ρ) (seqS (t_law_second_15 K)
    (t_law_second_16 K))
    skipS) ρ
@[simp] def t_law_second_18 (K : Fg) (ρ : PEnv) : SR := (setG 4 (frzG (exnG (He.ga K "BadWord") "word" (vG (nmE 3))))) ρ
@[simp] def t_law_second_19 (K : Fg) (ρ : PEnv) : SR := (retG (fG (bindA (consA (nmE 4) (consA (bind1 (nmE 4) (exfP [(He.ga K "BadWord")] "word")) (consA (nmE 3) nilA))) displayT))) ρ
@[simp] def t_law_second_20 (K : Fg) (ρ : PEnv) : SR := (ifG (fun ρ => ((bind2b (nmE 0) (fun _ => ER.ok (PV.sc (V.int 15))) eqP) ρ).at ρ) (seqS (t_law_second_18 K)
    (t_law_second_19 K))
    skipS) ρ
@[simp] def t_law_second_21 (K : Fg) (ρ : PEnv) : SR := (retG (fG (bindA (consA (frzE (fun _ => ER.ok (PV.exo (He.ga K "OtherWeb") [] []))) (consA (fun _ => ER.ok (PV.sc (V.int 0))) (consA (fun _ => ER.ok (PV.sc (V.int 0))) nilA))) displayT))) ρ
@[simp] def t_law_second_22 (K : Fg) (ρ : PEnv) : SR := (ifG (fun ρ => ((bind2b (nmE 0) (fun _ => ER.ok (PV.sc (V.int 16))) eqP) ρ).at ρ) (t_law_second_21 K)
    skipS) ρ
@[simp] def t_law_second_23 (K : Fg) (ρ : PEnv) : SR := (setG 4 (frzG (exnG (He.ga K "TooMany") "count" (vG (nmE 1))))) ρ
@[simp] def t_law_second_24 (K : Fg) (ρ : PEnv) : SR := (retG (fG (bindA (consA (nmE 4) (consA (bind1 (nmE 4) (exfP [(He.ga K "BadPlaces"), (He.ga K "BadEdges"), (He.ga K "BadLength"), (He.ga K "TooMany"), (He.ga K "BadSeats"), (He.ga K "BadMenu")] "count")) (consA (nmE 1) nilA))) displayT))) ρ
def s_law_second (K : Fg) : PEnv → SR := (seqS (t_law_second_2 K)
    (seqS (t_law_second_5 K)
    (seqS (t_law_second_8 K)
    (seqS (t_law_second_11 K)
    (seqS (t_law_second_14 K)
    (seqS (t_law_second_17 K)
    (seqS (t_law_second_20 K)
    (seqS (t_law_second_22 K)
    (seqS (t_law_second_23 K)
    (t_law_second_24 K))))))))))
def m_law_second (K : Fg) : List PV → FR := fnM 4 1 [0, 1, 2, 3] (s_law_second K)
theorem sc_law_second : FnScope ["_law_k", "_law_number", "_law_several", "_law_word", "_law_e"] ["_law_k", "_law_number", "_law_several", "_law_word"] (defScope (top 33)) := ⟨rfl, rfl, rfl, by decide +kernel, rfl, by decide +kernel, by decide +kernel⟩
theorem fn_law_second (Z : Fs K mg) (x_NotWhole : XCallee P w K mg base 2 "NotWhole" (He.ga K "NotWhole") "place") (x_BadPlace : XCallee P w K mg base 2 "BadPlace" (He.ga K "BadPlace") "number") (x_BadMark : XCallee P w K mg base 2 "BadMark" (He.ga K "BadMark") "number") (x_TwoMarks : XCallee P w K mg base 2 "TwoMarks" (He.ga K "TwoMarks") "number") (x_BadLength : XCallee P w K mg base 2 "BadLength" (He.ga K "BadLength") "count") (x_BadPrice : XCallee P w K mg base 2 "BadPrice" (He.ga K "BadPrice") "gate") (x_BadWord : XCallee P w K mg base 2 "BadWord" (He.ga K "BadWord") "word") (x_TooMany : XCallee P w K mg base 2 "TooMany" (He.ga K "TooMany") "count") (F : FunD K "_law_second" "_law_second" (defArgs (top 33)) (defBody (top 33)) (defScope (top 33)) [] [] f fd) : FnOk P w K mg base (L2.CX P w) 5 f fd ["_law_k", "_law_number", "_law_several", "_law_word"] (spR K (m_law_second K)) :=
  fn_ok F sc_law_second rfl fun cdv A outer s H E hr =>
    (rss_cons (rs_if (gt_vt (vt_cmp (op_eqD (Room.units hr)) o2_eq (ve_var (pv 0)) (ve_c pe_int) rfl)) (rss_cons (rs_set sc_law_second.nd rfl (by first | exact .inl rfl | exact .inr rfl) (by decide) (ge_gz (gz_ge (ge_exn x_NotWhole hr (by decide) rfl (gz_ve (ve_var (pv 1)))))))
      (rss_one (rs_ret (ge_fe (fe_tup (va_cons (ve_var (pv 4)) (va_cons (ve_xfv (Cs := [(He.ga K "BadEntry"), (He.ga K "BadExit"), (He.ga K "Idle"), (He.ga K "NotWhole")]) (all_k1 ⟨Z.xfx_BadEntry, Z.noat_BadEntry_place⟩ (all_k1 ⟨Z.xfx_BadExit, Z.noat_BadExit_place⟩ (all_k1 ⟨Z.xfx_Idle, Z.noat_Idle_place⟩ (all_k1 ⟨Z.xfx_NotWhole, Z.noat_NotWhole_place⟩ (fun _ z => nomatch z))))) (ve_var (pv 4))) (va_cons (ve_var (pv 1)) va_nil))))))))
      rss_nil)
      (rss_cons (rs_if (gt_vt (vt_cmp (op_eqD (Room.units hr)) o2_eq (ve_var (pv 0)) (ve_c pe_int) rfl)) (rss_cons (rs_set sc_law_second.nd rfl (by first | exact .inl rfl | exact .inr rfl) (by decide) (ge_gz (gz_ge (ge_exn x_BadPlace hr (by decide) rfl (gz_ve (ve_var (pv 1)))))))
      (rss_one (rs_ret (ge_fe (fe_tup (va_cons (ve_var (pv 4)) (va_cons (ve_xfv (Cs := [(He.ga K "NoGate"), (He.ga K "BadPlace"), (He.ga K "BadMark"), (He.ga K "TwoMarks")]) (all_k1 ⟨Z.xfx_NoGate, Z.noat_NoGate_number⟩ (all_k1 ⟨Z.xfx_BadPlace, Z.noat_BadPlace_number⟩ (all_k1 ⟨Z.xfx_BadMark, Z.noat_BadMark_number⟩ (all_k1 ⟨Z.xfx_TwoMarks, Z.noat_TwoMarks_number⟩ (fun _ z => nomatch z))))) (ve_var (pv 4))) (va_cons (ve_var (pv 1)) va_nil))))))))
      rss_nil)
      (rss_cons (rs_if (gt_vt (vt_cmp (op_eqD (Room.units hr)) o2_eq (ve_var (pv 0)) (ve_c pe_int) rfl)) (rss_cons (rs_set sc_law_second.nd rfl (by first | exact .inl rfl | exact .inr rfl) (by decide) (ge_gz (gz_ge (ge_exn x_BadMark hr (by decide) rfl (gz_ve (ve_var (pv 1)))))))
      (rss_one (rs_ret (ge_fe (fe_tup (va_cons (ve_var (pv 4)) (va_cons (ve_xfv (Cs := [(He.ga K "NoGate"), (He.ga K "BadPlace"), (He.ga K "BadMark"), (He.ga K "TwoMarks")]) (all_k1 ⟨Z.xfx_NoGate, Z.noat_NoGate_number⟩ (all_k1 ⟨Z.xfx_BadPlace, Z.noat_BadPlace_number⟩ (all_k1 ⟨Z.xfx_BadMark, Z.noat_BadMark_number⟩ (all_k1 ⟨Z.xfx_TwoMarks, Z.noat_TwoMarks_number⟩ (fun _ z => nomatch z))))) (ve_var (pv 4))) (va_cons (ve_var (pv 1)) va_nil))))))))
      rss_nil)
      (rss_cons (rs_if (gt_vt (vt_cmp (op_eqD (Room.units hr)) o2_eq (ve_var (pv 0)) (ve_c pe_int) rfl)) (rss_cons (rs_set sc_law_second.nd rfl (by first | exact .inl rfl | exact .inr rfl) (by decide) (ge_gz (gz_ge (ge_exn x_TwoMarks hr (by decide) rfl (gz_ve (ve_var (pv 1)))))))
      (rss_one (rs_ret (ge_fe (fe_tup (va_cons (ve_var (pv 4)) (va_cons (ve_xfv (Cs := [(He.ga K "NoGate"), (He.ga K "BadPlace"), (He.ga K "BadMark"), (He.ga K "TwoMarks")]) (all_k1 ⟨Z.xfx_NoGate, Z.noat_NoGate_number⟩ (all_k1 ⟨Z.xfx_BadPlace, Z.noat_BadPlace_number⟩ (all_k1 ⟨Z.xfx_BadMark, Z.noat_BadMark_number⟩ (all_k1 ⟨Z.xfx_TwoMarks, Z.noat_TwoMarks_number⟩ (fun _ z => nomatch z))))) (ve_var (pv 4))) (va_cons (ve_var (pv 1)) va_nil))))))))
      rss_nil)
      (rss_cons (rs_if (gt_vt (vt_cmp (op_eqD (Room.units hr)) o2_eq (ve_var (pv 0)) (ve_c pe_int) rfl)) (rss_cons (rs_set sc_law_second.nd rfl (by first | exact .inl rfl | exact .inr rfl) (by decide) (ge_gz (gz_ge (ge_exn x_BadLength hr (by decide) rfl (gz_ve (ve_var (pv 1)))))))
      (rss_one (rs_ret (ge_fe (fe_tup (va_cons (ve_var (pv 4)) (va_cons (ve_xfv (Cs := [(He.ga K "BadPlaces"), (He.ga K "BadEdges"), (He.ga K "BadLength"), (He.ga K "TooMany"), (He.ga K "BadSeats"), (He.ga K "BadMenu")]) (all_k1 ⟨Z.xfx_BadPlaces, Z.noat_BadPlaces_count⟩ (all_k1 ⟨Z.xfx_BadEdges, Z.noat_BadEdges_count⟩ (all_k1 ⟨Z.xfx_BadLength, Z.noat_BadLength_count⟩ (all_k1 ⟨Z.xfx_TooMany, Z.noat_TooMany_count⟩ (all_k1 ⟨Z.xfx_BadSeats, Z.noat_BadSeats_count⟩ (all_k1 ⟨Z.xfx_BadMenu, Z.noat_BadMenu_count⟩ (fun _ z => nomatch z))))))) (ve_var (pv 4))) (va_cons (ve_var (pv 1)) va_nil))))))))
      rss_nil)
      (rss_cons (rs_if (gt_vt (vt_cmp (op_eqD (Room.units hr)) o2_eq (ve_var (pv 0)) (ve_c pe_int) rfl)) (rss_cons (rs_set sc_law_second.nd rfl (by first | exact .inl rfl | exact .inr rfl) (by decide) (ge_gz (gz_ge (ge_exn x_BadPrice hr (by decide) rfl (gz_ve (ve_var (pv 1)))))))
      (rss_one (rs_ret (ge_fe (fe_tup (va_cons (ve_var (pv 4)) (va_cons (ve_xfv (Cs := [(He.ga K "BadPrice")]) (all_k1 ⟨Z.xfx_BadPrice, Z.noat_BadPrice_gate⟩ (fun _ z => nomatch z)) (ve_var (pv 4))) (va_cons (ve_var (pv 1)) va_nil))))))))
      rss_nil)
      (rss_cons (rs_if (gt_vt (vt_cmp (op_eqD (Room.units hr)) o2_eq (ve_var (pv 0)) (ve_c pe_int) rfl)) (rss_cons (rs_set sc_law_second.nd rfl (by first | exact .inl rfl | exact .inr rfl) (by decide) (ge_gz (gz_ge (ge_exn x_BadWord hr (by decide) rfl (gz_ve (ve_var (pv 3)))))))
      (rss_one (rs_ret (ge_fe (fe_tup (va_cons (ve_var (pv 4)) (va_cons (ve_xfv (Cs := [(He.ga K "BadWord")]) (all_k1 ⟨Z.xfx_BadWord, Z.noat_BadWord_word⟩ (fun _ z => nomatch z)) (ve_var (pv 4))) (va_cons (ve_var (pv 3)) va_nil))))))))
      rss_nil)
      (rss_cons (rs_if (gt_vt (vt_cmp (op_eqD (Room.units hr)) o2_eq (ve_var (pv 0)) (ve_c pe_int) rfl)) (rss_one (rs_ret (ge_fe (fe_tup (va_cons (ve_fe (fe_exn0 Z.exc0_OtherWeb Z.glo_OtherWeb rfl)) (va_cons (ve_c pe_int) (va_cons (ve_c pe_int) va_nil)))))))
      rss_nil)
      (rss_cons (rs_set sc_law_second.nd rfl (by first | exact .inl rfl | exact .inr rfl) (by decide) (ge_gz (gz_ge (ge_exn x_TooMany hr (by decide) rfl (gz_ve (ve_var (pv 1)))))))
      (rss_one (rs_ret (ge_fe (fe_tup (va_cons (ve_var (pv 4)) (va_cons (ve_xfv (Cs := [(He.ga K "BadPlaces"), (He.ga K "BadEdges"), (He.ga K "BadLength"), (He.ga K "TooMany"), (He.ga K "BadSeats"), (He.ga K "BadMenu")]) (all_k1 ⟨Z.xfx_BadPlaces, Z.noat_BadPlaces_count⟩ (all_k1 ⟨Z.xfx_BadEdges, Z.noat_BadEdges_count⟩ (all_k1 ⟨Z.xfx_BadLength, Z.noat_BadLength_count⟩ (all_k1 ⟨Z.xfx_TooMany, Z.noat_TooMany_count⟩ (all_k1 ⟨Z.xfx_BadSeats, Z.noat_BadSeats_count⟩ (all_k1 ⟨Z.xfx_BadMenu, Z.noat_BadMenu_count⟩ (fun _ z => nomatch z))))))) (ve_var (pv 4))) (va_cons (ve_var (pv 1)) va_nil))))))))))))))))
@[simp] def t_law_third_v1_0 (K : Fg) (ρ : PEnv) : SR := (setG 4 (frzG (exnG (He.ga K "Barred") "index" (vG (nmE 1))))) ρ
@[simp] def t_law_third_v1_1 (K : Fg) (ρ : PEnv) : SR := (retG (fG (bindA (consA (nmE 4) (consA (bind1 (nmE 4) (exfP [(He.ga K "BadEdge"), (He.ga K "BadWay"), (He.ga K "Barred"), (He.ga K "TwiceInMenu"), (He.ga K "BadDeed")] "index")) (consA (nmE 1) nilA))) displayT))) ρ
@[simp] def t_law_third_v1_2 (K : Fg) (ρ : PEnv) : SR := (ifG (fun ρ => ((bind2b (nmE 0) (fun _ => ER.ok (PV.sc (V.int 18))) eqP) ρ).at ρ) (seqS (t_law_third_v1_0 K)
    (t_law_third_v1_1 K))
    skipS) ρ
@[simp] def t_law_third_v1_3 (K : Fg) (ρ : PEnv) : SR := (setG 4 (frzG (exnG (He.ga K "BadSeats") "count" (vG (nmE 1))))) ρ
@[simp] def t_law_third_v1_4 (K : Fg) (ρ : PEnv) : SR := (retG (fG (bindA (consA (nmE 4) (consA (bind1 (nmE 4) (exfP [(He.ga K "BadPlaces"), (He.ga K "BadEdges"), (He.ga K "BadLength"), (He.ga K "TooMany"), (He.ga K "BadSeats"), (He.ga K "BadMenu")] "count")) (consA (nmE 1) nilA))) displayT))) ρ
@[simp] def t_law_third_v1_5 (K : Fg) (ρ : PEnv) : SR := (ifG (fun ρ => ((bind2b (nmE 0) (fun _ => ER.ok (PV.sc (V.int 19))) eqP) ρ).at ρ) (seqS (t_law_third_v1_3 K)
    (t_law_third_v1_4 K))
    skipS) ρ
@[simp] def t_law_third_v1_6 (K : Fg) (ρ : PEnv) : SR := (setG 4 (frzG (exnG (He.ga K "BadName") "name" (vG (nmE 3))))) ρ
@[simp] def t_law_third_v1_7 (K : Fg) (ρ : PEnv) : SR := (retG (fG (bindA (consA (nmE 4) (consA (bind1 (nmE 4) (exfP [(He.ga K "BadName"), (He.ga K "NoSeat")] "name")) (consA (nmE 3) nilA))) displayT))) ρ
@[simp] def t_law_third_v1_8 (K : Fg) (ρ : PEnv) : SR := (ifG (fun ρ => ((bind2b (nmE 0) (fun _ => ER.ok (PV.sc (V.int 20))) eqP) ρ).at ρ) (seqS (t_law_third_v1_6 K)
    (t_law_third_v1_7 K))
    skipS) ρ
@[simp] def t_law_third_v1_9 (K : Fg) (ρ : PEnv) : SR := (setG 4 (frzG (exnG (He.ga K "NoSeat") "name" (vG (nmE 3))))) ρ
@[simp] def t_law_third_v1_10 (K : Fg) (ρ : PEnv) : SR := (retG (fG (bindA (consA (nmE 4) (consA (bind1 (nmE 4) (exfP [(He.ga K "BadName"), (He.ga K "NoSeat")] "name")) (consA (nmE 3) nilA))) displayT))) ρ
@[simp] def t_law_third_v1_11 (K : Fg) (ρ : PEnv) : SR := (ifG (fun ρ => ((bind2b (nmE 0) (fun _ => ER.ok (PV.sc (V.int 21))) eqP) ρ).at ρ) (seqS (t_law_third_v1_9 K)
    (t_law_third_v1_10 K))
    skipS) ρ
@[simp] def t_law_third_v1_12 (K : Fg) (ρ : PEnv) : SR := (setG 4 (frzG (exnG (He.ga K "BadEdit") "change" (vG (nmE 2))))) ρ
@[simp] def t_law_third_v1_13 (K : Fg) (ρ : PEnv) : SR := (retG (fG (bindA (consA (nmE 4) (consA (bind1 (nmE 4) (exfP [(He.ga K "BadEdit")] "change")) (consA (nmE 2) nilA))) displayT))) ρ
@[simp] def t_law_third_v1_14 (K : Fg) (ρ : PEnv) : SR := (ifG (fun ρ => ((bind2b (nmE 0) (fun _ => ER.ok (PV.sc (V.int 22))) eqP) ρ).at ρ) (seqS (t_law_third_v1_12 K)
    (t_law_third_v1_13 K))
    skipS) ρ
@[simp] def t_law_third_v1_15 (K : Fg) (ρ : PEnv) : SR := (setG 4 (frzG (exnG (He.ga K "BadMenu") "count" (vG (nmE 1))))) ρ
@[simp] def t_law_third_v1_16 (K : Fg) (ρ : PEnv) : SR := (retG (fG (bindA (consA (nmE 4) (consA (bind1 (nmE 4) (exfP [(He.ga K "BadPlaces"), (He.ga K "BadEdges"), (He.ga K "BadLength"), (He.ga K "TooMany"), (He.ga K "BadSeats"), (He.ga K "BadMenu")] "count")) (consA (nmE 1) nilA))) displayT))) ρ
@[simp] def t_law_third_v1_17 (K : Fg) (ρ : PEnv) : SR := (ifG (fun ρ => ((bind2b (nmE 0) (fun _ => ER.ok (PV.sc (V.int 23))) eqP) ρ).at ρ) (seqS (t_law_third_v1_15 K)
    (t_law_third_v1_16 K))
    skipS) ρ
@[simp] def t_law_third_v1_18 (K : Fg) (ρ : PEnv) : SR := (setG 4 (frzG (exnG (He.ga K "TwiceInMenu") "index" (vG (nmE 1))))) ρ
@[simp] def t_law_third_v1_19 (K : Fg) (ρ : PEnv) : SR := (retG (fG (bindA (consA (nmE 4) (consA (bind1 (nmE 4) (exfP [(He.ga K "BadEdge"), (He.ga K "BadWay"), (He.ga K "Barred"), (He.ga K "TwiceInMenu"), (He.ga K "BadDeed")] "index")) (consA (nmE 1) nilA))) displayT))) ρ
@[simp] def t_law_third_v1_20 (K : Fg) (ρ : PEnv) : SR := (ifG (fun ρ => ((bind2b (nmE 0) (fun _ => ER.ok (PV.sc (V.int 24))) eqP) ρ).at ρ) (seqS (t_law_third_v1_18 K)
    (t_law_third_v1_19 K))
    skipS) ρ
@[simp] def t_law_third_v1_21 (K : Fg) (ρ : PEnv) : SR := (setG 4 (frzG (exnG (He.ga K "BadDeed") "index" (vG (nmE 1))))) ρ
@[simp] def t_law_third_v1_22 (K : Fg) (ρ : PEnv) : SR := (retG (fG (bindA (consA (nmE 4) (consA (bind1 (nmE 4) (exfP [(He.ga K "BadEdge"), (He.ga K "BadWay"), (He.ga K "Barred"), (He.ga K "TwiceInMenu"), (He.ga K "BadDeed")] "index")) (consA (nmE 1) nilA))) displayT))) ρ
@[simp] def t_law_third_v1_23 (K : Fg) (ρ : PEnv) : SR := (ifG (fun ρ => ((bind2b (nmE 0) (fun _ => ER.ok (PV.sc (V.int 25))) eqP) ρ).at ρ) (seqS (t_law_third_v1_21 K)
    (t_law_third_v1_22 K))
    skipS) ρ
@[simp] def t_law_third_v1_24 (K : Fg) (ρ : PEnv) : SR := (setG 4 (frzG (exnG (He.ga K "BadLine") "line" (vG (nmE 1))))) ρ
@[simp] def t_law_third_v1_25 (K : Fg) (ρ : PEnv) : SR := (retG (fG (bindA (consA (nmE 4) (consA (bind1 (nmE 4) (exfP [(He.ga K "BadLine")] "line")) (consA (nmE 1) nilA))) displayT))) ρ
def s_law_third_v1 (K : Fg) : PEnv → SR := (seqS (t_law_third_v1_2 K)
    (seqS (t_law_third_v1_5 K)
    (seqS (t_law_third_v1_8 K)
    (seqS (t_law_third_v1_11 K)
    (seqS (t_law_third_v1_14 K)
    (seqS (t_law_third_v1_17 K)
    (seqS (t_law_third_v1_20 K)
    (seqS (t_law_third_v1_23 K)
    (seqS (t_law_third_v1_24 K)
    (t_law_third_v1_25 K))))))))))
def m_law_third_v1 (K : Fg) : List PV → FR := fnM 4 1 [0, 1, 2, 3] (s_law_third_v1 K)
theorem sc_law_third_v1 : FnScope ["_law_k", "_law_number", "_law_several", "_law_word", "_law_e"] ["_law_k", "_law_number", "_law_several", "_law_word"] (defScope (top 34)) := ⟨rfl, rfl, rfl, by decide +kernel, rfl, by decide +kernel, by decide +kernel⟩
theorem fn_law_third_v1 (Z : Fs K mg) (x_Barred : XCallee P w K mg base 2 "Barred" (He.ga K "Barred") "index") (x_BadSeats : XCallee P w K mg base 2 "BadSeats" (He.ga K "BadSeats") "count") (x_BadName : XCallee P w K mg base 2 "BadName" (He.ga K "BadName") "name") (x_NoSeat : XCallee P w K mg base 2 "NoSeat" (He.ga K "NoSeat") "name") (x_BadEdit : XCallee P w K mg base 2 "BadEdit" (He.ga K "BadEdit") "change") (x_BadMenu : XCallee P w K mg base 2 "BadMenu" (He.ga K "BadMenu") "count") (x_TwiceInMenu : XCallee P w K mg base 2 "TwiceInMenu" (He.ga K "TwiceInMenu") "index") (x_BadDeed : XCallee P w K mg base 2 "BadDeed" (He.ga K "BadDeed") "index") (x_BadLine : XCallee P w K mg base 2 "BadLine" (He.ga K "BadLine") "line") (F : FunD K "_law_third" "_law_third" (defArgs (top 34)) (defBody (top 34)) (defScope (top 34)) [] [] f fd) : FnOk P w K mg base (L2.CX P w) 5 f fd ["_law_k", "_law_number", "_law_several", "_law_word"] (spR K (m_law_third_v1 K)) :=
  fn_ok F sc_law_third_v1 rfl fun cdv A outer s H E hr =>
    (rss_cons (rs_if (gt_vt (vt_cmp (op_eqD (Room.units hr)) o2_eq (ve_var (pv 0)) (ve_c pe_int) rfl)) (rss_cons (rs_set sc_law_third_v1.nd rfl (by first | exact .inl rfl | exact .inr rfl) (by decide) (ge_gz (gz_ge (ge_exn x_Barred hr (by decide) rfl (gz_ve (ve_var (pv 1)))))))
      (rss_one (rs_ret (ge_fe (fe_tup (va_cons (ve_var (pv 4)) (va_cons (ve_xfv (Cs := [(He.ga K "BadEdge"), (He.ga K "BadWay"), (He.ga K "Barred"), (He.ga K "TwiceInMenu"), (He.ga K "BadDeed")]) (all_k1 ⟨Z.xfx_BadEdge, Z.noat_BadEdge_index⟩ (all_k1 ⟨Z.xfx_BadWay, Z.noat_BadWay_index⟩ (all_k1 ⟨Z.xfx_Barred, Z.noat_Barred_index⟩ (all_k1 ⟨Z.xfx_TwiceInMenu, Z.noat_TwiceInMenu_index⟩ (all_k1 ⟨Z.xfx_BadDeed, Z.noat_BadDeed_index⟩ (fun _ z => nomatch z)))))) (ve_var (pv 4))) (va_cons (ve_var (pv 1)) va_nil))))))))
      rss_nil)
      (rss_cons (rs_if (gt_vt (vt_cmp (op_eqD (Room.units hr)) o2_eq (ve_var (pv 0)) (ve_c pe_int) rfl)) (rss_cons (rs_set sc_law_third_v1.nd rfl (by first | exact .inl rfl | exact .inr rfl) (by decide) (ge_gz (gz_ge (ge_exn x_BadSeats hr (by decide) rfl (gz_ve (ve_var (pv 1)))))))
      (rss_one (rs_ret (ge_fe (fe_tup (va_cons (ve_var (pv 4)) (va_cons (ve_xfv (Cs := [(He.ga K "BadPlaces"), (He.ga K "BadEdges"), (He.ga K "BadLength"), (He.ga K "TooMany"), (He.ga K "BadSeats"), (He.ga K "BadMenu")]) (all_k1 ⟨Z.xfx_BadPlaces, Z.noat_BadPlaces_count⟩ (all_k1 ⟨Z.xfx_BadEdges, Z.noat_BadEdges_count⟩ (all_k1 ⟨Z.xfx_BadLength, Z.noat_BadLength_count⟩ (all_k1 ⟨Z.xfx_TooMany, Z.noat_TooMany_count⟩ (all_k1 ⟨Z.xfx_BadSeats, Z.noat_BadSeats_count⟩ (all_k1 ⟨Z.xfx_BadMenu, Z.noat_BadMenu_count⟩ (fun _ z => nomatch z))))))) (ve_var (pv 4))) (va_cons (ve_var (pv 1)) va_nil))))))))
      rss_nil)
      (rss_cons (rs_if (gt_vt (vt_cmp (op_eqD (Room.units hr)) o2_eq (ve_var (pv 0)) (ve_c pe_int) rfl)) (rss_cons (rs_set sc_law_third_v1.nd rfl (by first | exact .inl rfl | exact .inr rfl) (by decide) (ge_gz (gz_ge (ge_exn x_BadName hr (by decide) rfl (gz_ve (ve_var (pv 3)))))))
      (rss_one (rs_ret (ge_fe (fe_tup (va_cons (ve_var (pv 4)) (va_cons (ve_xfv (Cs := [(He.ga K "BadName"), (He.ga K "NoSeat")]) (all_k1 ⟨Z.xfx_BadName, Z.noat_BadName_name⟩ (all_k1 ⟨Z.xfx_NoSeat, Z.noat_NoSeat_name⟩ (fun _ z => nomatch z))) (ve_var (pv 4))) (va_cons (ve_var (pv 3)) va_nil))))))))
      rss_nil)
      (rss_cons (rs_if (gt_vt (vt_cmp (op_eqD (Room.units hr)) o2_eq (ve_var (pv 0)) (ve_c pe_int) rfl)) (rss_cons (rs_set sc_law_third_v1.nd rfl (by first | exact .inl rfl | exact .inr rfl) (by decide) (ge_gz (gz_ge (ge_exn x_NoSeat hr (by decide) rfl (gz_ve (ve_var (pv 3)))))))
      (rss_one (rs_ret (ge_fe (fe_tup (va_cons (ve_var (pv 4)) (va_cons (ve_xfv (Cs := [(He.ga K "BadName"), (He.ga K "NoSeat")]) (all_k1 ⟨Z.xfx_BadName, Z.noat_BadName_name⟩ (all_k1 ⟨Z.xfx_NoSeat, Z.noat_NoSeat_name⟩ (fun _ z => nomatch z))) (ve_var (pv 4))) (va_cons (ve_var (pv 3)) va_nil))))))))
      rss_nil)
      (rss_cons (rs_if (gt_vt (vt_cmp (op_eqD (Room.units hr)) o2_eq (ve_var (pv 0)) (ve_c pe_int) rfl)) (rss_cons (rs_set sc_law_third_v1.nd rfl (by first | exact .inl rfl | exact .inr rfl) (by decide) (ge_gz (gz_ge (ge_exn x_BadEdit hr (by decide) rfl (gz_ve (ve_var (pv 2)))))))
      (rss_one (rs_ret (ge_fe (fe_tup (va_cons (ve_var (pv 4)) (va_cons (ve_xfv (Cs := [(He.ga K "BadEdit")]) (all_k1 ⟨Z.xfx_BadEdit, Z.noat_BadEdit_change⟩ (fun _ z => nomatch z)) (ve_var (pv 4))) (va_cons (ve_var (pv 2)) va_nil))))))))
      rss_nil)
      (rss_cons (rs_if (gt_vt (vt_cmp (op_eqD (Room.units hr)) o2_eq (ve_var (pv 0)) (ve_c pe_int) rfl)) (rss_cons (rs_set sc_law_third_v1.nd rfl (by first | exact .inl rfl | exact .inr rfl) (by decide) (ge_gz (gz_ge (ge_exn x_BadMenu hr (by decide) rfl (gz_ve (ve_var (pv 1)))))))
      (rss_one (rs_ret (ge_fe (fe_tup (va_cons (ve_var (pv 4)) (va_cons (ve_xfv (Cs := [(He.ga K "BadPlaces"), (He.ga K "BadEdges"), (He.ga K "BadLength"), (He.ga K "TooMany"), (He.ga K "BadSeats"), (He.ga K "BadMenu")]) (all_k1 ⟨Z.xfx_BadPlaces, Z.noat_BadPlaces_count⟩ (all_k1 ⟨Z.xfx_BadEdges, Z.noat_BadEdges_count⟩ (all_k1 ⟨Z.xfx_BadLength, Z.noat_BadLength_count⟩ (all_k1 ⟨Z.xfx_TooMany, Z.noat_TooMany_count⟩ (all_k1 ⟨Z.xfx_BadSeats, Z.noat_BadSeats_count⟩ (all_k1 ⟨Z.xfx_BadMenu, Z.noat_BadMenu_count⟩ (fun _ z => nomatch z))))))) (ve_var (pv 4))) (va_cons (ve_var (pv 1)) va_nil))))))))
      rss_nil)
      (rss_cons (rs_if (gt_vt (vt_cmp (op_eqD (Room.units hr)) o2_eq (ve_var (pv 0)) (ve_c pe_int) rfl)) (rss_cons (rs_set sc_law_third_v1.nd rfl (by first | exact .inl rfl | exact .inr rfl) (by decide) (ge_gz (gz_ge (ge_exn x_TwiceInMenu hr (by decide) rfl (gz_ve (ve_var (pv 1)))))))
      (rss_one (rs_ret (ge_fe (fe_tup (va_cons (ve_var (pv 4)) (va_cons (ve_xfv (Cs := [(He.ga K "BadEdge"), (He.ga K "BadWay"), (He.ga K "Barred"), (He.ga K "TwiceInMenu"), (He.ga K "BadDeed")]) (all_k1 ⟨Z.xfx_BadEdge, Z.noat_BadEdge_index⟩ (all_k1 ⟨Z.xfx_BadWay, Z.noat_BadWay_index⟩ (all_k1 ⟨Z.xfx_Barred, Z.noat_Barred_index⟩ (all_k1 ⟨Z.xfx_TwiceInMenu, Z.noat_TwiceInMenu_index⟩ (all_k1 ⟨Z.xfx_BadDeed, Z.noat_BadDeed_index⟩ (fun _ z => nomatch z)))))) (ve_var (pv 4))) (va_cons (ve_var (pv 1)) va_nil))))))))
      rss_nil)
      (rss_cons (rs_if (gt_vt (vt_cmp (op_eqD (Room.units hr)) o2_eq (ve_var (pv 0)) (ve_c pe_int) rfl)) (rss_cons (rs_set sc_law_third_v1.nd rfl (by first | exact .inl rfl | exact .inr rfl) (by decide) (ge_gz (gz_ge (ge_exn x_BadDeed hr (by decide) rfl (gz_ve (ve_var (pv 1)))))))
      (rss_one (rs_ret (ge_fe (fe_tup (va_cons (ve_var (pv 4)) (va_cons (ve_xfv (Cs := [(He.ga K "BadEdge"), (He.ga K "BadWay"), (He.ga K "Barred"), (He.ga K "TwiceInMenu"), (He.ga K "BadDeed")]) (all_k1 ⟨Z.xfx_BadEdge, Z.noat_BadEdge_index⟩ (all_k1 ⟨Z.xfx_BadWay, Z.noat_BadWay_index⟩ (all_k1 ⟨Z.xfx_Barred, Z.noat_Barred_index⟩ (all_k1 ⟨Z.xfx_TwiceInMenu, Z.noat_TwiceInMenu_index⟩ (all_k1 ⟨Z.xfx_BadDeed, Z.noat_BadDeed_index⟩ (fun _ z => nomatch z)))))) (ve_var (pv 4))) (va_cons (ve_var (pv 1)) va_nil))))))))
      rss_nil)
      (rss_cons (rs_set sc_law_third_v1.nd rfl (by first | exact .inl rfl | exact .inr rfl) (by decide) (ge_gz (gz_ge (ge_exn x_BadLine hr (by decide) rfl (gz_ve (ve_var (pv 1)))))))
      (rss_one (rs_ret (ge_fe (fe_tup (va_cons (ve_var (pv 4)) (va_cons (ve_xfv (Cs := [(He.ga K "BadLine")]) (all_k1 ⟨Z.xfx_BadLine, Z.noat_BadLine_line⟩ (fun _ z => nomatch z)) (ve_var (pv 4))) (va_cons (ve_var (pv 1)) va_nil))))))))))))))))
@[simp] def t_law_kinds_0 (K : Fg) (ρ : PEnv) : SR := (setG 1 (frzG (fG (bindA nilA displayL)))) ρ
@[simp] def t_law_kinds_1 (K : Fg) (ρ : PEnv) : SR := (setG 1 (frzG (fG (bind2 (nmE 1) (frzE (bindA (consA (frzE (bindA (consA (nmE 0) (consA (fun _ => ER.ok (PV.sc (V.ref (He.ga K "BadPlaces")))) nilA)) (isvA K (exL K)))) (consA (frzE (bindA (consA (nmE 0) (consA (fun _ => ER.ok (PV.sc (V.ref (He.ga K "BadEdges")))) nilA)) (isvA K (exL K)))) (consA (frzE (bindA (consA (nmE 0) (consA (fun _ => ER.ok (PV.sc (V.ref (He.ga K "BadEdge")))) nilA)) (isvA K (exL K)))) nilA))) displayL)) addU)))) ρ
@[simp] def t_law_kinds_2 (K : Fg) (ρ : PEnv) : SR := (setG 1 (frzG (fG (bind2 (nmE 1) (frzE (bindA (consA (frzE (bindA (consA (nmE 0) (consA (fun _ => ER.ok (PV.sc (V.ref (He.ga K "BadEntry")))) nilA)) (isvA K (exL K)))) (consA (frzE (bindA (consA (nmE 0) (consA (fun _ => ER.ok (PV.sc (V.ref (He.ga K "NoExits")))) nilA)) (isvA K (exL K)))) (consA (frzE (bindA (consA (nmE 0) (consA (fun _ => ER.ok (PV.sc (V.ref (He.ga K "BadExit")))) nilA)) (isvA K (exL K)))) nilA))) displayL)) addU)))) ρ
@[simp] def t_law_kinds_3 (K : Fg) (ρ : PEnv) : SR := (setG 1 (frzG (fG (bind2 (nmE 1) (frzE (bindA (consA (frzE (bindA (consA (nmE 0) (consA (fun _ => ER.ok (PV.sc (V.ref (He.ga K "Idle")))) nilA)) (isvA K (exL K)))) (consA (frzE (bindA (consA (nmE 0) (consA (fun _ => ER.ok (PV.sc (V.ref (He.ga K "NoGate")))) nilA)) (isvA K (exL K)))) (consA (frzE (bindA (consA (nmE 0) (consA (fun _ => ER.ok (PV.sc (V.ref (He.ga K "BadWay")))) nilA)) (isvA K (exL K)))) nilA))) displayL)) addU)))) ρ
@[simp] def t_law_kinds_4 (K : Fg) (ρ : PEnv) : SR := (setG 1 (frzG (fG (bind2 (nmE 1) (frzE (bindA (consA (frzE (bindA (consA (nmE 0) (consA (fun _ => ER.ok (PV.sc (V.ref (He.ga K "NotWhole")))) nilA)) (isvA K (exL K)))) (consA (frzE (bindA (consA (nmE 0) (consA (fun _ => ER.ok (PV.sc (V.ref (He.ga K "BadPlace")))) nilA)) (isvA K (exL K)))) (consA (frzE (bindA (consA (nmE 0) (consA (fun _ => ER.ok (PV.sc (V.ref (He.ga K "BadMark")))) nilA)) (isvA K (exL K)))) nilA))) displayL)) addU)))) ρ
@[simp] def t_law_kinds_5 (K : Fg) (ρ : PEnv) : SR := (setG 1 (frzG (fG (bind2 (nmE 1) (frzE (bindA (consA (frzE (bindA (consA (nmE 0) (consA (fun _ => ER.ok (PV.sc (V.ref (He.ga K "TwoMarks")))) nilA)) (isvA K (exL K)))) (consA (frzE (bindA (consA (nmE 0) (consA (fun _ => ER.ok (PV.sc (V.ref (He.ga K "BadLength")))) nilA)) (isvA K (exL K)))) (consA (frzE (bindA (consA (nmE 0) (consA (fun _ => ER.ok (PV.sc (V.ref (He.ga K "BadPrice")))) nilA)) (isvA K (exL K)))) nilA))) displayL)) addU)))) ρ
@[simp] def t_law_kinds_6 (K : Fg) (ρ : PEnv) : SR := (setG 1 (frzG (fG (bind2 (nmE 1) (frzE (bindA (consA (frzE (bindA (consA (nmE 0) (consA (fun _ => ER.ok (PV.sc (V.ref (He.ga K "BadWord")))) nilA)) (isvA K (exL K)))) (consA (frzE (bindA (consA (nmE 0) (consA (fun _ => ER.ok (PV.sc (V.ref (He.ga K "OtherWeb")))) nilA)) (isvA K (exL K)))) (consA (frzE (bindA (consA (nmE 0) (consA (fun _ => ER.ok (PV.sc (V.ref (He.ga K "TooMany")))) nilA)) (isvA K (exL K)))) nilA))) displayL)) addU)))) ρ
@[simp] def t_law_kinds_7 (K : Fg) (ρ : PEnv) : SR := (setG 1 (frzG (fG (bind2 (nmE 1) (frzE (bindA (consA (frzE (bindA (consA (nmE 0) (consA (fun _ => ER.ok (PV.sc (V.ref (He.ga K "Barred")))) nilA)) (isvA K (exL K)))) (consA (frzE (bindA (consA (nmE 0) (consA (fun _ => ER.ok (PV.sc (V.ref (He.ga K "BadSeats")))) nilA)) (isvA K (exL K)))) (consA (frzE (bindA (consA (nmE 0) (consA (fun _ => ER.ok (PV.sc (V.ref (He.ga K "BadName")))) nilA)) (isvA K (exL K)))) nilA))) displayL)) addU)))) ρ
@[simp] def t_law_kinds_8 (K : Fg) (ρ : PEnv) : SR := (setG 1 (frzG (fG (bind2 (nmE 1) (frzE (bindA (consA (frzE (bindA (consA (nmE 0) (consA (fun _ => ER.ok (PV.sc (V.ref (He.ga K "NoSeat")))) nilA)) (isvA K (exL K)))) (consA (frzE (bindA (consA (nmE 0) (consA (fun _ => ER.ok (PV.sc (V.ref (He.ga K "BadEdit")))) nilA)) (isvA K (exL K)))) (consA (frzE (bindA (consA (nmE 0) (consA (fun _ => ER.ok (PV.sc (V.ref (He.ga K "BadMenu")))) nilA)) (isvA K (exL K)))) nilA))) displayL)) addU)))) ρ
@[simp] def t_law_kinds_9 (K : Fg) (ρ : PEnv) : SR := (setG 1 (frzG (fG (bind2 (nmE 1) (frzE (bindA (consA (frzE (bindA (consA (nmE 0) (consA (fun _ => ER.ok (PV.sc (V.ref (He.ga K "TwiceInMenu")))) nilA)) (isvA K (exL K)))) (consA (frzE (bindA (consA (nmE 0) (consA (fun _ => ER.ok (PV.sc (V.ref (He.ga K "BadDeed")))) nilA)) (isvA K (exL K)))) (consA (frzE (bindA (consA (nmE 0) (consA (fun _ => ER.ok (PV.sc (V.ref (He.ga K "BadLine")))) nilA)) (isvA K (exL K)))) nilA))) displayL)) addU)))) ρ
@[simp] def t_law_kinds_10 (K : Fg) (ρ : PEnv) : SR := (retG (vG (nmE 1))) ρ
def s_law_kinds (K : Fg) : PEnv → SR := (seqS (t_law_kinds_0 K)
    (seqS (t_law_kinds_1 K)
    (seqS (t_law_kinds_2 K)
    (seqS (t_law_kinds_3 K)
    (seqS (t_law_kinds_4 K)
    (seqS (t_law_kinds_5 K)
    (seqS (t_law_kinds_6 K)
    (seqS (t_law_kinds_7 K)
    (seqS (t_law_kinds_8 K)
    (seqS (t_law_kinds_9 K)
    (t_law_kinds_10 K)))))))))))
def m_law_kinds (K : Fg) : List PV → FR := fnM 1 1 [0] (s_law_kinds K)
theorem sc_law_kinds : FnScope ["_law_e", "_law_kinds_here"] ["_law_e"] (defScope (top 35)) := ⟨rfl, rfl, rfl, by decide +kernel, rfl, by decide +kernel, by decide +kernel⟩
theorem fn_law_kinds (Z : Fs K mg) (F : FunD K "_law_kinds" "_law_kinds" (defArgs (top 35)) (defBody (top 35)) (defScope (top 35)) [] [] f fd) : FnOk P w K mg base (L2.CX P w) 5 f fd ["_law_e"] (spR K (m_law_kinds K)) :=
  fn_ok F sc_law_kinds rfl fun cdv A outer s H E hr =>
    (rss_cons (rs_set sc_law_kinds.nd rfl (by first | exact .inl rfl | exact .inr rfl) (by decide) (ge_gz (gz_ge (ge_fe (fe_lst va_nil)))))
      (rss_cons (rs_set sc_law_kinds.nd rfl (by first | exact .inl rfl | exact .inr rfl) (by decide) (ge_gz (gz_ge (ge_fe (fe_op op_addU o2_addU (ve_var (pv 1)) (ve_fe (fe_lst (va_cons (ve_fe (fe_isv (exL_ok Z) rfl Z.free_isinstance (by decide +kernel) (va_cons (ve_var (pv 0)) (va_cons (ve_c (pe_glob rfl Z.glo_BadPlaces rfl)) va_nil)))) (va_cons (ve_fe (fe_isv (exL_ok Z) rfl Z.free_isinstance (by decide +kernel) (va_cons (ve_var (pv 0)) (va_cons (ve_c (pe_glob rfl Z.glo_BadEdges rfl)) va_nil)))) (va_cons (ve_fe (fe_isv (exL_ok Z) rfl Z.free_isinstance (by decide +kernel) (va_cons (ve_var (pv 0)) (va_cons (ve_c (pe_glob rfl Z.glo_BadEdge rfl)) va_nil)))) va_nil))))))))))
      (rss_cons (rs_set sc_law_kinds.nd rfl (by first | exact .inl rfl | exact .inr rfl) (by decide) (ge_gz (gz_ge (ge_fe (fe_op op_addU o2_addU (ve_var (pv 1)) (ve_fe (fe_lst (va_cons (ve_fe (fe_isv (exL_ok Z) rfl Z.free_isinstance (by decide +kernel) (va_cons (ve_var (pv 0)) (va_cons (ve_c (pe_glob rfl Z.glo_BadEntry rfl)) va_nil)))) (va_cons (ve_fe (fe_isv (exL_ok Z) rfl Z.free_isinstance (by decide +kernel) (va_cons (ve_var (pv 0)) (va_cons (ve_c (pe_glob rfl Z.glo_NoExits rfl)) va_nil)))) (va_cons (ve_fe (fe_isv (exL_ok Z) rfl Z.free_isinstance (by decide +kernel) (va_cons (ve_var (pv 0)) (va_cons (ve_c (pe_glob rfl Z.glo_BadExit rfl)) va_nil)))) va_nil))))))))))
      (rss_cons (rs_set sc_law_kinds.nd rfl (by first | exact .inl rfl | exact .inr rfl) (by decide) (ge_gz (gz_ge (ge_fe (fe_op op_addU o2_addU (ve_var (pv 1)) (ve_fe (fe_lst (va_cons (ve_fe (fe_isv (exL_ok Z) rfl Z.free_isinstance (by decide +kernel) (va_cons (ve_var (pv 0)) (va_cons (ve_c (pe_glob rfl Z.glo_Idle rfl)) va_nil)))) (va_cons (ve_fe (fe_isv (exL_ok Z) rfl Z.free_isinstance (by decide +kernel) (va_cons (ve_var (pv 0)) (va_cons (ve_c (pe_glob rfl Z.glo_NoGate rfl)) va_nil)))) (va_cons (ve_fe (fe_isv (exL_ok Z) rfl Z.free_isinstance (by decide +kernel) (va_cons (ve_var (pv 0)) (va_cons (ve_c (pe_glob rfl Z.glo_BadWay rfl)) va_nil)))) va_nil))))))))))
      (rss_cons (rs_set sc_law_kinds.nd rfl (by first | exact .inl rfl | exact .inr rfl) (by decide) (ge_gz (gz_ge (ge_fe (fe_op op_addU o2_addU (ve_var (pv 1)) (ve_fe (fe_lst (va_cons (ve_fe (fe_isv (exL_ok Z) rfl Z.free_isinstance (by decide +kernel) (va_cons (ve_var (pv 0)) (va_cons (ve_c (pe_glob rfl Z.glo_NotWhole rfl)) va_nil)))) (va_cons (ve_fe (fe_isv (exL_ok Z) rfl Z.free_isinstance (by decide +kernel) (va_cons (ve_var (pv 0)) (va_cons (ve_c (pe_glob rfl Z.glo_BadPlace rfl)) va_nil)))) (va_cons (ve_fe (fe_isv (exL_ok Z) rfl Z.free_isinstance (by decide +kernel) (va_cons (ve_var (pv 0)) (va_cons (ve_c (pe_glob rfl Z.glo_BadMark rfl)) va_nil)))) va_nil))))))))))
      (rss_cons (rs_set sc_law_kinds.nd rfl (by first | exact .inl rfl | exact .inr rfl) (by decide) (ge_gz (gz_ge (ge_fe (fe_op op_addU o2_addU (ve_var (pv 1)) (ve_fe (fe_lst (va_cons (ve_fe (fe_isv (exL_ok Z) rfl Z.free_isinstance (by decide +kernel) (va_cons (ve_var (pv 0)) (va_cons (ve_c (pe_glob rfl Z.glo_TwoMarks rfl)) va_nil)))) (va_cons (ve_fe (fe_isv (exL_ok Z) rfl Z.free_isinstance (by decide +kernel) (va_cons (ve_var (pv 0)) (va_cons (ve_c (pe_glob rfl Z.glo_BadLength rfl)) va_nil)))) (va_cons (ve_fe (fe_isv (exL_ok Z) rfl Z.free_isinstance (by decide +kernel) (va_cons (ve_var (pv 0)) (va_cons (ve_c (pe_glob rfl Z.glo_BadPrice rfl)) va_nil)))) va_nil))))))))))
      (rss_cons (rs_set sc_law_kinds.nd rfl (by first | exact .inl rfl | exact .inr rfl) (by decide) (ge_gz (gz_ge (ge_fe (fe_op op_addU o2_addU (ve_var (pv 1)) (ve_fe (fe_lst (va_cons (ve_fe (fe_isv (exL_ok Z) rfl Z.free_isinstance (by decide +kernel) (va_cons (ve_var (pv 0)) (va_cons (ve_c (pe_glob rfl Z.glo_BadWord rfl)) va_nil)))) (va_cons (ve_fe (fe_isv (exL_ok Z) rfl Z.free_isinstance (by decide +kernel) (va_cons (ve_var (pv 0)) (va_cons (ve_c (pe_glob rfl Z.glo_OtherWeb rfl)) va_nil)))) (va_cons (ve_fe (fe_isv (exL_ok Z) rfl Z.free_isinstance (by decide +kernel) (va_cons (ve_var (pv 0)) (va_cons (ve_c (pe_glob rfl Z.glo_TooMany rfl)) va_nil)))) va_nil))))))))))
      (rss_cons (rs_set sc_law_kinds.nd rfl (by first | exact .inl rfl | exact .inr rfl) (by decide) (ge_gz (gz_ge (ge_fe (fe_op op_addU o2_addU (ve_var (pv 1)) (ve_fe (fe_lst (va_cons (ve_fe (fe_isv (exL_ok Z) rfl Z.free_isinstance (by decide +kernel) (va_cons (ve_var (pv 0)) (va_cons (ve_c (pe_glob rfl Z.glo_Barred rfl)) va_nil)))) (va_cons (ve_fe (fe_isv (exL_ok Z) rfl Z.free_isinstance (by decide +kernel) (va_cons (ve_var (pv 0)) (va_cons (ve_c (pe_glob rfl Z.glo_BadSeats rfl)) va_nil)))) (va_cons (ve_fe (fe_isv (exL_ok Z) rfl Z.free_isinstance (by decide +kernel) (va_cons (ve_var (pv 0)) (va_cons (ve_c (pe_glob rfl Z.glo_BadName rfl)) va_nil)))) va_nil))))))))))
      (rss_cons (rs_set sc_law_kinds.nd rfl (by first | exact .inl rfl | exact .inr rfl) (by decide) (ge_gz (gz_ge (ge_fe (fe_op op_addU o2_addU (ve_var (pv 1)) (ve_fe (fe_lst (va_cons (ve_fe (fe_isv (exL_ok Z) rfl Z.free_isinstance (by decide +kernel) (va_cons (ve_var (pv 0)) (va_cons (ve_c (pe_glob rfl Z.glo_NoSeat rfl)) va_nil)))) (va_cons (ve_fe (fe_isv (exL_ok Z) rfl Z.free_isinstance (by decide +kernel) (va_cons (ve_var (pv 0)) (va_cons (ve_c (pe_glob rfl Z.glo_BadEdit rfl)) va_nil)))) (va_cons (ve_fe (fe_isv (exL_ok Z) rfl Z.free_isinstance (by decide +kernel) (va_cons (ve_var (pv 0)) (va_cons (ve_c (pe_glob rfl Z.glo_BadMenu rfl)) va_nil)))) va_nil))))))))))
      (rss_cons (rs_set sc_law_kinds.nd rfl (by first | exact .inl rfl | exact .inr rfl) (by decide) (ge_gz (gz_ge (ge_fe (fe_op op_addU o2_addU (ve_var (pv 1)) (ve_fe (fe_lst (va_cons (ve_fe (fe_isv (exL_ok Z) rfl Z.free_isinstance (by decide +kernel) (va_cons (ve_var (pv 0)) (va_cons (ve_c (pe_glob rfl Z.glo_TwiceInMenu rfl)) va_nil)))) (va_cons (ve_fe (fe_isv (exL_ok Z) rfl Z.free_isinstance (by decide +kernel) (va_cons (ve_var (pv 0)) (va_cons (ve_c (pe_glob rfl Z.glo_BadDeed rfl)) va_nil)))) (va_cons (ve_fe (fe_isv (exL_ok Z) rfl Z.free_isinstance (by decide +kernel) (va_cons (ve_var (pv 0)) (va_cons (ve_c (pe_glob rfl Z.glo_BadLine rfl)) va_nil)))) va_nil))))))))))
      (rss_one (rs_ret (ge_ve (ve_var (pv 1)))))))))))))))
@[simp] def t_law_made_v3_0 (K : Fg) (ρ : PEnv) : SR := (retG (callM (m_law_first_v2 K) (vlAg (vG (nmE 0)) (vlAg (vG (nmE 1)) (vlAg (vG (nmE 2)) (vlAg (vG (nmE 3)) nilAg)))))) ρ
@[simp] def t_law_made_v3_1 (K : Fg) (ρ : PEnv) : SR := (ifG (fun ρ => ((bind2b (nmE 0) (fun _ => ER.ok (PV.sc (V.int 9))) ltI) ρ).at ρ) (t_law_made_v3_0 K)
    skipS) ρ
@[simp] def t_law_made_v3_2 (K : Fg) (ρ : PEnv) : SR := (retG (callM (m_law_second K) (vlAg (vG (nmE 0)) (vlAg (vG (nmE 1)) (vlAg (vG (nmE 2)) (vlAg (vG (nmE 3)) nilAg)))))) ρ
@[simp] def t_law_made_v3_3 (K : Fg) (ρ : PEnv) : SR := (ifG (fun ρ => ((bind2b (nmE 0) (fun _ => ER.ok (PV.sc (V.int 18))) ltI) ρ).at ρ) (t_law_made_v3_2 K)
    skipS) ρ
@[simp] def t_law_made_v3_4 (K : Fg) (ρ : PEnv) : SR := (retG (callM (m_law_third_v1 K) (vlAg (vG (nmE 0)) (vlAg (vG (nmE 1)) (vlAg (vG (nmE 2)) (vlAg (vG (nmE 3)) nilAg)))))) ρ
def s_law_made_v3 (K : Fg) : PEnv → SR := (seqS (t_law_made_v3_1 K)
    (seqS (t_law_made_v3_3 K)
    (t_law_made_v3_4 K)))
def m_law_made_v3 (K : Fg) : List PV → FR := fnM 4 0 [0, 1, 2, 3] (s_law_made_v3 K)
theorem sc_law_made_v3 : FnScope ["_law_k", "_law_number", "_law_several", "_law_word"] ["_law_k", "_law_number", "_law_several", "_law_word"] (defScope (top 36)) := ⟨rfl, rfl, rfl, by decide +kernel, rfl, by decide +kernel, by decide +kernel⟩
theorem fn_law_made_v3 (Z : Fs K mg) (c_law_first_v2 : Callee P w K mg base 5 "_law_first" ["_law_k", "_law_number", "_law_several", "_law_word"] (m_law_first_v2 K)) (c_law_second : Callee P w K mg base 5 "_law_second" ["_law_k", "_law_number", "_law_several", "_law_word"] (m_law_second K)) (c_law_third_v1 : Callee P w K mg base 5 "_law_third" ["_law_k", "_law_number", "_law_several", "_law_word"] (m_law_third_v1 K)) (F : FunD K "_law_made" "_law_made" (defArgs (top 36)) (defBody (top 36)) (defScope (top 36)) [] [] f fd) : FnOk P w K mg base (L2.CX P w) 8 f fd ["_law_k", "_law_number", "_law_several", "_law_word"] (spR K (m_law_made_v3 K)) :=
  fn_ok F sc_law_made_v3 rfl fun cdv A outer s H E hr =>
    (rss_cons (rs_if (gt_vt (vt_cmp op_lt o2_cmp (ve_var (pv 0)) (ve_c pe_int) rfl)) (rss_one (rs_ret (ge_call c_law_first_v2 hr (by decide) tk_cx rfl (ag_vl (gz_ve (ve_var (pv 0))) (ag_vl (gz_ve (ve_var (pv 1))) (ag_vl (gz_ve (ve_var (pv 2))) (ag_vl (gz_ve (ve_var (pv 3))) ag_nil)))))))
      rss_nil)
      (rss_cons (rs_if (gt_vt (vt_cmp op_lt o2_cmp (ve_var (pv 0)) (ve_c pe_int) rfl)) (rss_one (rs_ret (ge_call c_law_second hr (by decide) tk_cx rfl (ag_vl (gz_ve (ve_var (pv 0))) (ag_vl (gz_ve (ve_var (pv 1))) (ag_vl (gz_ve (ve_var (pv 2))) (ag_vl (gz_ve (ve_var (pv 3))) ag_nil)))))))
      rss_nil)
      (rss_one (rs_ret (ge_call c_law_third_v1 hr (by decide) tk_cx rfl (ag_vl (gz_ve (ve_var (pv 0))) (ag_vl (gz_ve (ve_var (pv 1))) (ag_vl (gz_ve (ve_var (pv 2))) (ag_vl (gz_ve (ve_var (pv 3))) ag_nil)))))))))
@[simp] def t_law_0 (K : Fg) (ρ : PEnv) : SR := (setG 1 (callM (m_law_pool K) (vlAg (vG (nmE 0)) nilAg))) ρ
@[simp] def t_law_1 (K : Fg) (ρ : PEnv) : SR := (setG 3 (frzG (bindG2 (bindG2s (frzG (callM (m_law_draw K) (plAg 1 (vlAg (vG (bind2s (bind2s (fun _ => ER.ok (PV.sc (V.int 2))) (bind2s (fun _ => ER.ok (PV.sc (V.int 10))) (fun _ => ER.ok (PV.sc (V.int 30))) powI) mulI) (fun _ => ER.ok (PV.sc (V.int 1))) subI)) nilAg)))) (vG (bind2s (fun _ => ER.ok (PV.sc (V.int 10))) (fun _ => ER.ok (PV.sc (V.int 30))) powI)) subI) (vG (fun _ => ER.ok (PV.sc (V.int 1)))) addU))) ρ
@[simp] def t_law_2 (K : Fg) (ρ : PEnv) : SR := (setG 4 (frzG (bindGA (consG (frzG (compG (iterA (consG (frzG (callM (m_law_draw K) (plAg 1 (vlAg (vG (fun _ => ER.ok (PV.sc (V.int 4)))) nilAg)))) nilG) rngK1) (nmT 5) yesG (frzG (callM (m_law_draw K) (plAg 1 (vlAg (vG (bind2s (fun _ => ER.ok (PV.sc (V.int 10))) (fun _ => ER.ok (PV.sc (V.int 30))) powI)) nilAg)))) [5])) nilG) tupA))) ρ
@[simp] def t_law_3 (K : Fg) (ρ : PEnv) : SR := (setG 6 (bindG2 (frzG (fG (bindA (consA (fun _ => ER.ok (PV.sc (V.str ("save" : Str)))) (consA (fun _ => ER.ok (PV.sc (V.str ("give" : Str)))) (consA (fun _ => ER.ok (PV.sc (V.str ("a" : Str)))) (consA (fun _ => ER.ok (PV.sc (V.str ("seat" : Str)))) (consA (fun _ => ER.ok (PV.sc (V.str ("" : Str)))) (consA (fun _ => ER.ok (PV.sc (V.str ("use" : Str)))) nilA)))))) displayL))) (frzG (callM (m_law_draw K) (plAg 1 (vlAg (vG (fun _ => ER.ok (PV.sc (V.int 6)))) nilAg)))) ixP)) ρ
@[simp] def t_law_4 (K : Fg) (ρ : PEnv) : SR := (asgG (tupT 3 (consT (nmT 7) (consT (nmT 8) (consT (nmT 9) nilT)))) (frzG (callM (m_law_made_v3 K) (vlAg (vG (nmE 2)) (vlAg (vG (nmE 3)) (vlAg (vG (nmE 4)) (vlAg (vG (nmE 6)) nilAg))))))) ρ
@[simp] def t_law_5 (K : Fg) (ρ : PEnv) : SR := (retG (vG (fun _ => ER.ok (PV.sc (V.bl false))))) ρ
@[simp] def t_law_6 (K : Fg) (ρ : PEnv) : SR := (ifG (fun ρ => ((orB (bind2b (nmE 8) (nmE 9) neP) (orB (notE (truE (frzE (bindA (consA (nmE 7) (consA (fun _ => ER.ok (PV.sc (V.ref (He.ga K "SeatError")))) nilA)) (isvA K (exL K)))))) (notE (truE (frzE (bindA (consA (nmE 7) (consA (fun _ => ER.ok (PV.sc (V.ty "ValueError"))) nilA)) (isvA K (exL K)))))))) ρ).at ρ) (t_law_5 K)
    skipS) ρ
@[simp] def t_law_7 (K : Fg) (ρ : PEnv) : SR := (retG (vG (fun _ => ER.ok (PV.sc (V.bl false))))) ρ
@[simp] def t_law_8 (K : Fg) (ρ : PEnv) : SR := (ifG (bindG2b (frzG (callM (m_law_kinds K) (vlAg (vG (nmE 7)) nilAg))) (frzG (compG (iterA (consG (vG (fun _ => ER.ok (PV.sc (V.int 27)))) nilG) rngK1) (nmT 5) yesG (vG (bind2s (nmE 5) (nmE 2) fun p q => (eqP p q).map V.bl)) [5])) neP) (t_law_7 K)
    skipS) ρ
@[simp] def t_law_9 (K : Fg) (ρ : PEnv) : SR := (forG (iterA (consG (vG (fun _ => ER.ok (PV.sc (V.int 27)))) nilG) rngK1) (nmT 2)
    (seqS (t_law_1 K)
    (seqS (t_law_2 K)
    (seqS (t_law_3 K)
    (seqS (t_law_4 K)
    (seqS (t_law_6 K)
    (t_law_8 K))))))) ρ
@[simp] def t_law_10 (K : Fg) (ρ : PEnv) : SR := (retG (vG (fun _ => ER.ok (PV.sc (V.bl true))))) ρ
def s_law (K : Fg) : PEnv → SR := (seqS (t_law_0 K)
    (seqS (t_law_9 K)
    (t_law_10 K)))
def m_law (K : Fg) : List PV → FR := fnM 1 9 [0] (s_law K)
theorem sc_law : FnScope ["_law_script", "_law_pool_here", "_law_k", "_law_number", "_law_several", "_law_at", "_law_word", "_law_error", "_law_told", "_law_due"] ["_law_script"] (defScope (top 37)) := ⟨rfl, rfl, rfl, by decide +kernel, rfl, by decide +kernel, by decide +kernel⟩
theorem fn_law (Z : Fs K mg) (c_law_pool : Callee P w K mg base 5 "_law_pool" ["_law_script"] (m_law_pool K)) (c_law_draw : Callee P w K mg base 5 "_law_draw" ["_law_pool_here", "_law_limit"] (m_law_draw K)) (c_law_made_v3 : Callee P w K mg base 8 "_law_made" ["_law_k", "_law_number", "_law_several", "_law_word"] (m_law_made_v3 K)) (c_law_kinds : Callee P w K mg base 5 "_law_kinds" ["_law_e"] (m_law_kinds K)) (F : FunD K "law" "law" (defArgs (top 37)) (defBody (top 37)) (defScope (top 37)) [] [] f fd) : FnOk P w K mg base (L2.CX P w) 11 f fd ["_law_script"] (spR K (m_law K)) :=
  fn_ok F sc_law rfl fun cdv A outer s H E hr =>
    (rss_cons (rs_set sc_law.nd rfl (by first | exact .inl rfl | exact .inr rfl) (by decide) (ge_call c_law_pool hr (by decide) tk_cx rfl (ag_vl (gz_ve (ve_var (pv 0))) ag_nil)))
      (rss_cons (rs_for ps_cx rfl (ri_rng1 rfl Z.free_range (ga_cons (gz_ve (ve_c pe_int)) ga_nil)) (rg_nm sc_law.nd rfl (by first | exact .inl rfl | exact .inr rfl) (by decide))
      (rss_cons (rs_set sc_law.nd rfl (by first | exact .inl rfl | exact .inr rfl) (by decide) (ge_gz (gz_ge (ge_op op_addU o2_addU (gz_op op_sub o2_i0 (gz_ge (ge_call c_law_draw hr (by decide) tk_cx rfl (ag_pl (pv 1) (ag_vl (gz_ve (ve_op op_sub o2_i0 (ve_op op_mul o2_mul (ve_c pe_int) (ve_op op_pow o2_pow (ve_c pe_int) (ve_c pe_int))) (ve_c pe_int))) ag_nil)))) (gz_ve (ve_op op_pow o2_pow (ve_c pe_int) (ve_c pe_int)))) (gz_ve (ve_c pe_int))))))
      (rss_cons (rs_set sc_law.nd rfl (by first | exact .inl rfl | exact .inr rfl) (by decide) (ge_gz (gz_ge (ge_callTy call_tuple_of cg_tup rfl Z.free_tuple (by decide +kernel) (ga_cons (gz_ge (ge_lc (own := [("_law_at", 5)]) (n := 10) rfl rfl sc_law.nd (ri_rng1 rfl Z.free_range (ga_cons (gz_ge (ge_call c_law_draw hr (by decide) tk_cx rfl (ag_pl (pv 1) (ag_vl (gz_ve (ve_c pe_int)) ag_nil)))) ga_nil)) (blk_of ["_law_script", "_law_pool_here", "_law_k", "_law_number", "_law_several", "_law_at", "_law_word", "_law_error", "_law_told", "_law_due"] (defScope (top 37)) rfl rfl (by decide +kernel)) (fun _ _ _ _ _ => (rg_nm sc_law.nd rfl (by first | exact .inl rfl | exact .inr rfl) (by decide))) (fun _ _ _ _ _ => gts_nil) (fun _ _ _ _ _ => (gz_ge (ge_call c_law_draw hr (by decide) takesW0 rfl (ag_pl (pv 1) (ag_vl (gz_ve (ve_op op_pow o2_pow (ve_c pe_int) (ve_c pe_int))) ag_nil))))))) ga_nil)))))
      (rss_cons (rs_set sc_law.nd rfl (by first | exact .inl rfl | exact .inr rfl) (by decide) (ge_gz (gz_ix (gz_ge (ge_fe (fe_lst (va_cons (ve_c pe_str) (va_cons (ve_c pe_str) (va_cons (ve_c pe_str) (va_cons (ve_c pe_str) (va_cons (ve_c pe_str) (va_cons (ve_c pe_str) va_nil))))))))) (gz_ge (ge_call c_law_draw hr (by decide) tk_cx rfl (ag_pl (pv 1) (ag_vl (gz_ve (ve_c pe_int)) ag_nil)))))))
      (rss_cons (rs_asg (gz_ge (ge_call c_law_made_v3 hr (by decide) tk_cx rfl (ag_vl (gz_ve (ve_var (pv 2))) (ag_vl (gz_ve (ve_var (pv 3))) (ag_vl (gz_ve (ve_var (pv 4))) (ag_vl (gz_ve (ve_var (pv 6))) ag_nil)))))) (rg_tup rfl (rg_cons (rg_nm sc_law.nd rfl (by first | exact .inl rfl | exact .inr rfl) (by decide)) (rg_cons (rg_nm sc_law.nd rfl (by first | exact .inl rfl | exact .inr rfl) (by decide)) (rg_cons (rg_nm sc_law.nd rfl (by first | exact .inl rfl | exact .inr rfl) (by decide)) rg_nil)))))
      (rss_cons (rs_if (gt_vt (vt_w (vw_or (vt_cmp (op_neD (Room.units hr)) o2_ne (ve_var (pv 8)) (ve_var (pv 9)) rfl) (vw_or (vt_not (vt_tru (ve_fe (fe_isv (exL_ok Z) rfl Z.free_isinstance (by decide +kernel) (va_cons (ve_var (pv 7)) (va_cons (ve_c (pe_glob rfl Z.glo_SeatError rfl)) va_nil)))))) (vw_or1 (vt_not (vt_tru (ve_fe (fe_isv (exL_ok Z) rfl Z.free_isinstance (by decide +kernel) (va_cons (ve_var (pv 7)) (va_cons (ve_c (pe_bltn rfl Z.free_ValueError (by decide +kernel) rfl)) va_nil))))))))))) (rss_one (rs_ret (ge_ve (ve_c pe_bl))))
      rss_nil)
      (rss_one (rs_if (gt_cmp (op_neD (Room.units hr)) o2_ne (gz_ge (ge_call c_law_kinds hr (by decide) tk_cx rfl (ag_vl (gz_ve (ve_var (pv 7))) ag_nil))) (gz_ge (ge_lc (own := [("_law_at", 5)]) (n := 10) rfl rfl sc_law.nd (ri_rng1 rfl Z.free_range (ga_cons (gz_ve (ve_c pe_int)) ga_nil)) (blk_of ["_law_script", "_law_pool_here", "_law_k", "_law_number", "_law_several", "_law_at", "_law_word", "_law_error", "_law_told", "_law_due"] (defScope (top 37)) rfl rfl (by decide +kernel)) (fun _ _ _ _ _ => (rg_nm sc_law.nd rfl (by first | exact .inl rfl | exact .inr rfl) (by decide))) (fun _ _ _ _ _ => gts_nil) (fun _ _ _ _ _ => (gz_ve (ve_cmp (op_eqD (Room.units hr)) o2_eq (ve_var (pv 5)) (ve_var (pv 2)) rfl))))) rfl) (rss_one (rs_ret (ge_ve (ve_c pe_bl))))
      rss_nil))))))))
      (rss_one (rs_ret (ge_ve (ve_c pe_bl))))))
end
end
end K86
end
section
set_option maxHeartbeats 0
noncomputable section
namespace K86
open PySem PySem.Spec PyProof.Rows L2 RL SP TL TP
variable {K : Fg}
class F_x_all_all (K : Fg) : Prop where
  h : ∀ c ∈ exN, ∀ d ∈ exN, PySem.W.kitOne K (.ref (He.ga K c)) (.ref (He.ga K d)) = some (decide (c = d))
class F_x_seat_SeatError (K : Fg) : Prop where
  h : ∀ c ∈ exN, PySem.W.kitOne K (.ref (He.ga K c)) (.ref (He.ga K "SeatError")) = some true
class F_x_val_ValueError (K : Fg) : Prop where
  h : ∀ c ∈ exN, PySem.W.kitOne K (.ref (He.ga K c)) (.type "ValueError") = some true
@[irreducible] def T_law_first_v2 (q11 : Int) (q13 : Int) (q16 : (List Int)) (q17 : String) : FT (Unit) (Unit) (TX × PV × Int) :=
  runE (M := Unit) (X := Unit) (if (decide ((q11 : Int) = 0)) = true then (letT (⟨("BadPlaces" : Str), [("count" : Str)], [(PV.int q13)]⟩ : TX) fun v1 : TX => (oB (xvO [("BadPlaces" : Str), ("BadEdges" : Str), ("BadLength" : Str), ("TooMany" : Str), ("BadSeats" : Str), ("BadMenu" : Str)] "count" v1) fun y2 => (oB (fzO y2) fun u4 => (.rt () (v1, y2, q13))))) else (if (decide ((q11 : Int) = 1)) = true then (letT (⟨("BadEdges" : Str), [("count" : Str)], [(PV.int q13)]⟩ : TX) fun v6 : TX => (oB (xvO [("BadPlaces" : Str), ("BadEdges" : Str), ("BadLength" : Str), ("TooMany" : Str), ("BadSeats" : Str), ("BadMenu" : Str)] "count" v6) fun y7 => (oB (fzO y7) fun u9 => (.rt () (v6, y7, q13))))) else (if (decide ((q11 : Int) = 2)) = true then (letT (⟨("BadEdge" : Str), [("index" : Str)], [(PV.int q13)]⟩ : TX) fun v11 : TX => (oB (xvO [("BadEdge" : Str), ("BadWay" : Str), ("Barred" : Str), ("TwiceInMenu" : Str), ("BadDeed" : Str)] "index" v11) fun y12 => (oB (fzO y12) fun u14 => (.rt () (v11, y12, q13))))) else (if (decide ((q11 : Int) = 3)) = true then (letT (⟨("BadEntry" : Str), [("place" : Str)], [(PV.int q13)]⟩ : TX) fun v16 : TX => (oB (xvO [("BadEntry" : Str), ("BadExit" : Str), ("Idle" : Str), ("NotWhole" : Str)] "place" v16) fun y17 => (oB (fzO y17) fun u19 => (.rt () (v16, y17, q13))))) else (if (decide ((q11 : Int) = 4)) = true then (.rt () ((⟨("NoExits" : Str), [], []⟩ : TX), (PV.int 0), 0)) else (if (decide ((q11 : Int) = 5)) = true then (letT (⟨("BadExit" : Str), [("place" : Str)], [(PV.int q13)]⟩ : TX) fun v21 : TX => (oB (xvO [("BadEntry" : Str), ("BadExit" : Str), ("Idle" : Str), ("NotWhole" : Str)] "place" v21) fun y22 => (oB (fzO y22) fun u24 => (.rt () (v21, y22, q13))))) else (if (decide ((q11 : Int) = 6)) = true then (letT (⟨("Idle" : Str), [("place" : Str)], [(PV.int q13)]⟩ : TX) fun v26 : TX => (oB (xvO [("BadEntry" : Str), ("BadExit" : Str), ("Idle" : Str), ("NotWhole" : Str)] "place" v26) fun y27 => (oB (fzO y27) fun u29 => (.rt () (v26, y27, q13))))) else (if (decide ((q11 : Int) = 7)) = true then (letT (⟨("NoGate" : Str), [("number" : Str)], [(PV.int q13)]⟩ : TX) fun v31 : TX => (oB (xvO [("NoGate" : Str), ("BadPlace" : Str), ("BadMark" : Str), ("TwoMarks" : Str)] "number" v31) fun y32 => (oB (fzO y32) fun u34 => (.rt () (v31, y32, q13))))) else (letT (⟨("BadWay" : Str), [("index" : Str)], [(PV.int q13)]⟩ : TX) fun v36 : TX => (oB (xvO [("BadEdge" : Str), ("BadWay" : Str), ("Barred" : Str), ("TwiceInMenu" : Str), ("BadDeed" : Str)] "index" v36) fun y37 => (oB (fzO y37) fun u39 => (.rt () (v36, y37, q13)))))))))))))
theorem w_law_first_v2 {q11 : Int} {q13 : Int} {q16 : (List Int)} {q17 : String} : SimF K (m_law_first_v2 K [(PV.int q11), (PV.int q13), (PV.tup (List.map PV.int q16)), (eS q17)]) (T_law_first_v2 q11 q13 q16 q17) (fun x : (TX × PV × Int) => (PV.tup [(eXv K x.1), x.2.1, (PV.int x.2.2)])) (fun m => [(PV.int q11), (PV.int q13), (PV.tup (List.map PV.int q16)), (eS q17)]) (fun m os => os = [(PV.int q11), (PV.int q13), (PV.tup (List.map PV.int q16)), (eS q17)]) :=
  by
  unfold T_law_first_v2 m_law_first_v2;refine f_E' (ρ0 := [some (PV.int q11), some (PV.int q13), some (PV.tup (List.map PV.int q16)), some (eS q17), none]) (by rfl) (by rfl) ?_
  refine s_seq (s_if (g_at (e_2b (e_nm rfl) rfl ((Eq2.int 6).eqP q11 0)) ?_));refine k_ifx (fun _ => ?_) (fun _ => ?_)
  · refine s_seq (s_set (g_frz (g_exn (g_v (e_nm rfl) rfl ?_))));refine k_exn (k_frz (frz_xo _ _ _) ?_);refine k_setL (v := (⟨("BadPlaces" : Str), [("count" : Str)], [(PV.int q13)]⟩ : TX)) (eXv K) (fun v1 => [some (PV.int q11), some (PV.int q13), some (PV.tup (List.map PV.int q16)), some (eS q17), some (eXv K v1)]) (fun _ => rfl) fun v1 => ?_
    refine s_last (s_ret ?_);refine s_oB fun y2 h3 => (s_oB fun u4 h5 => (g_f (e_A (e_cons (e_nm rfl) (e_cons (e_1 (e_nm rfl) (o_exf (N := [("BadPlaces" : Str), ("BadEdges" : Str), ("BadLength" : Str), ("TooMany" : Str), ("BadSeats" : Str), ("BadMenu" : Str)]) h3)) (e_cons (e_nm rfl) e_nil))) (o_disT (fzl_cons rfl (fzl_cons (fz_of h5) (fzl_cons rfl fzl_nil))) rfl)) ?_))
    exact k_rt (And.intro rfl rfl)
  · refine s_skip (s_seq (s_if (g_at (e_2b (e_nm rfl) rfl ((Eq2.int 6).eqP q11 1)) ?_)));refine k_ifx (fun _ => ?_) (fun _ => ?_)
    · refine s_seq (s_set (g_frz (g_exn (g_v (e_nm rfl) rfl ?_))));refine k_exn (k_frz (frz_xo _ _ _) ?_);refine k_setL (v := (⟨("BadEdges" : Str), [("count" : Str)], [(PV.int q13)]⟩ : TX)) (eXv K) (fun v6 => [some (PV.int q11), some (PV.int q13), some (PV.tup (List.map PV.int q16)), some (eS q17), some (eXv K v6)]) (fun _ => rfl) fun v6 => ?_
      refine s_last (s_ret ?_);refine s_oB fun y7 h8 => (s_oB fun u9 h10 => (g_f (e_A (e_cons (e_nm rfl) (e_cons (e_1 (e_nm rfl) (o_exf (N := [("BadPlaces" : Str), ("BadEdges" : Str), ("BadLength" : Str), ("TooMany" : Str), ("BadSeats" : Str), ("BadMenu" : Str)]) h8)) (e_cons (e_nm rfl) e_nil))) (o_disT (fzl_cons rfl (fzl_cons (fz_of h10) (fzl_cons rfl fzl_nil))) rfl)) ?_))
      exact k_rt (And.intro rfl rfl)
    · refine s_skip (s_seq (s_if (g_at (e_2b (e_nm rfl) rfl ((Eq2.int 6).eqP q11 2)) ?_)));refine k_ifx (fun _ => ?_) (fun _ => ?_)
      · refine s_seq (s_set (g_frz (g_exn (g_v (e_nm rfl) rfl ?_))));refine k_exn (k_frz (frz_xo _ _ _) ?_);refine k_setL (v := (⟨("BadEdge" : Str), [("index" : Str)], [(PV.int q13)]⟩ : TX)) (eXv K) (fun v11 => [some (PV.int q11), some (PV.int q13), some (PV.tup (List.map PV.int q16)), some (eS q17), some (eXv K v11)]) (fun _ => rfl) fun v11 => ?_
        refine s_last (s_ret ?_);refine s_oB fun y12 h13 => (s_oB fun u14 h15 => (g_f (e_A (e_cons (e_nm rfl) (e_cons (e_1 (e_nm rfl) (o_exf (N := [("BadEdge" : Str), ("BadWay" : Str), ("Barred" : Str), ("TwiceInMenu" : Str), ("BadDeed" : Str)]) h13)) (e_cons (e_nm rfl) e_nil))) (o_disT (fzl_cons rfl (fzl_cons (fz_of h15) (fzl_cons rfl fzl_nil))) rfl)) ?_))
        exact k_rt (And.intro rfl rfl)
      · refine s_skip (s_seq (s_if (g_at (e_2b (e_nm rfl) rfl ((Eq2.int 6).eqP q11 3)) ?_)));refine k_ifx (fun _ => ?_) (fun _ => ?_)
        · refine s_seq (s_set (g_frz (g_exn (g_v (e_nm rfl) rfl ?_))));refine k_exn (k_frz (frz_xo _ _ _) ?_);refine k_setL (v := (⟨("BadEntry" : Str), [("place" : Str)], [(PV.int q13)]⟩ : TX)) (eXv K) (fun v16 => [some (PV.int q11), some (PV.int q13), some (PV.tup (List.map PV.int q16)), some (eS q17), some (eXv K v16)]) (fun _ => rfl) fun v16 => ?_
          refine s_last (s_ret ?_);refine s_oB fun y17 h18 => (s_oB fun u19 h20 => (g_f (e_A (e_cons (e_nm rfl) (e_cons (e_1 (e_nm rfl) (o_exf (N := [("BadEntry" : Str), ("BadExit" : Str), ("Idle" : Str), ("NotWhole" : Str)]) h18)) (e_cons (e_nm rfl) e_nil))) (o_disT (fzl_cons rfl (fzl_cons (fz_of h20) (fzl_cons rfl fzl_nil))) rfl)) ?_))
          exact k_rt (And.intro rfl rfl)
        · refine s_skip (s_seq (s_if (g_at (e_2b (e_nm rfl) rfl ((Eq2.int 6).eqP q11 4)) ?_)));refine k_ifx (fun _ => ?_) (fun _ => ?_)
          · refine s_last (s_ret (g_f (e_A (e_cons (e_frz rfl (frz_xo _ _ _)) (e_cons rfl (e_cons rfl e_nil))) (o_disT rfl rfl)) ?_));exact k_rt (And.intro rfl rfl)
          · refine s_skip (s_seq (s_if (g_at (e_2b (e_nm rfl) rfl ((Eq2.int 6).eqP q11 5)) ?_)));refine k_ifx (fun _ => ?_) (fun _ => ?_)
            · refine s_seq (s_set (g_frz (g_exn (g_v (e_nm rfl) rfl ?_))));refine k_exn (k_frz (frz_xo _ _ _) ?_);refine k_setL (v := (⟨("BadExit" : Str), [("place" : Str)], [(PV.int q13)]⟩ : TX)) (eXv K) (fun v21 => [some (PV.int q11), some (PV.int q13), some (PV.tup (List.map PV.int q16)), some (eS q17), some (eXv K v21)]) (fun _ => rfl) fun v21 => ?_
              refine s_last (s_ret ?_);refine s_oB fun y22 h23 => (s_oB fun u24 h25 => (g_f (e_A (e_cons (e_nm rfl) (e_cons (e_1 (e_nm rfl) (o_exf (N := [("BadEntry" : Str), ("BadExit" : Str), ("Idle" : Str), ("NotWhole" : Str)]) h23)) (e_cons (e_nm rfl) e_nil))) (o_disT (fzl_cons rfl (fzl_cons (fz_of h25) (fzl_cons rfl fzl_nil))) rfl)) ?_))
              exact k_rt (And.intro rfl rfl)
            · refine s_skip (s_seq (s_if (g_at (e_2b (e_nm rfl) rfl ((Eq2.int 6).eqP q11 6)) ?_)));refine k_ifx (fun _ => ?_) (fun _ => ?_)
              · refine s_seq (s_set (g_frz (g_exn (g_v (e_nm rfl) rfl ?_))));refine k_exn (k_frz (frz_xo _ _ _) ?_);refine k_setL (v := (⟨("Idle" : Str), [("place" : Str)], [(PV.int q13)]⟩ : TX)) (eXv K) (fun v26 => [some (PV.int q11), some (PV.int q13), some (PV.tup (List.map PV.int q16)), some (eS q17), some (eXv K v26)]) (fun _ => rfl) fun v26 => ?_
                refine s_last (s_ret ?_);refine s_oB fun y27 h28 => (s_oB fun u29 h30 => (g_f (e_A (e_cons (e_nm rfl) (e_cons (e_1 (e_nm rfl) (o_exf (N := [("BadEntry" : Str), ("BadExit" : Str), ("Idle" : Str), ("NotWhole" : Str)]) h28)) (e_cons (e_nm rfl) e_nil))) (o_disT (fzl_cons rfl (fzl_cons (fz_of h30) (fzl_cons rfl fzl_nil))) rfl)) ?_))
                exact k_rt (And.intro rfl rfl)
              · refine s_skip (s_seq (s_if (g_at (e_2b (e_nm rfl) rfl ((Eq2.int 6).eqP q11 7)) ?_)));refine k_ifx (fun _ => ?_) (fun _ => ?_)
                · refine s_seq (s_set (g_frz (g_exn (g_v (e_nm rfl) rfl ?_))));refine k_exn (k_frz (frz_xo _ _ _) ?_);refine k_setL (v := (⟨("NoGate" : Str), [("number" : Str)], [(PV.int q13)]⟩ : TX)) (eXv K) (fun v31 => [some (PV.int q11), some (PV.int q13), some (PV.tup (List.map PV.int q16)), some (eS q17), some (eXv K v31)]) (fun _ => rfl) fun v31 => ?_
                  refine s_last (s_ret ?_);refine s_oB fun y32 h33 => (s_oB fun u34 h35 => (g_f (e_A (e_cons (e_nm rfl) (e_cons (e_1 (e_nm rfl) (o_exf (N := [("NoGate" : Str), ("BadPlace" : Str), ("BadMark" : Str), ("TwoMarks" : Str)]) h33)) (e_cons (e_nm rfl) e_nil))) (o_disT (fzl_cons rfl (fzl_cons (fz_of h35) (fzl_cons rfl fzl_nil))) rfl)) ?_))
                  exact k_rt (And.intro rfl rfl)
                · refine s_skip (s_seq (s_set (g_frz (g_exn (g_v (e_nm rfl) rfl ?_)))));refine k_exn (k_frz (frz_xo _ _ _) ?_);refine k_setL (v := (⟨("BadWay" : Str), [("index" : Str)], [(PV.int q13)]⟩ : TX)) (eXv K) (fun v36 => [some (PV.int q11), some (PV.int q13), some (PV.tup (List.map PV.int q16)), some (eS q17), some (eXv K v36)]) (fun _ => rfl) fun v36 => ?_
                  refine s_last (s_ret ?_);refine s_oB fun y37 h38 => (s_oB fun u39 h40 => (g_f (e_A (e_cons (e_nm rfl) (e_cons (e_1 (e_nm rfl) (o_exf (N := [("BadEdge" : Str), ("BadWay" : Str), ("Barred" : Str), ("TwiceInMenu" : Str), ("BadDeed" : Str)]) h38)) (e_cons (e_nm rfl) e_nil))) (o_disT (fzl_cons rfl (fzl_cons (fz_of h40) (fzl_cons rfl fzl_nil))) rfl)) ?_))
                  exact k_rt (And.intro rfl rfl)
@[irreducible] def T_law_second (q11 : Int) (q13 : Int) (q16 : (List Int)) (q17 : String) : FT (Unit) (Unit) (TX × PV × PV) :=
  runE (M := Unit) (X := Unit) (if (decide ((q11 : Int) = 9)) = true then (letT (⟨("NotWhole" : Str), [("place" : Str)], [(PV.int q13)]⟩ : TX) fun v1 : TX => (oB (xvO [("BadEntry" : Str), ("BadExit" : Str), ("Idle" : Str), ("NotWhole" : Str)] "place" v1) fun y2 => (oB (fzO y2) fun u4 => (.rt () (v1, y2, (PV.int q13)))))) else (if (decide ((q11 : Int) = 10)) = true then (letT (⟨("BadPlace" : Str), [("number" : Str)], [(PV.int q13)]⟩ : TX) fun v6 : TX => (oB (xvO [("NoGate" : Str), ("BadPlace" : Str), ("BadMark" : Str), ("TwoMarks" : Str)] "number" v6) fun y7 => (oB (fzO y7) fun u9 => (.rt () (v6, y7, (PV.int q13)))))) else (if (decide ((q11 : Int) = 11)) = true then (letT (⟨("BadMark" : Str), [("number" : Str)], [(PV.int q13)]⟩ : TX) fun v11 : TX => (oB (xvO [("NoGate" : Str), ("BadPlace" : Str), ("BadMark" : Str), ("TwoMarks" : Str)] "number" v11) fun y12 => (oB (fzO y12) fun u14 => (.rt () (v11, y12, (PV.int q13)))))) else (if (decide ((q11 : Int) = 12)) = true then (letT (⟨("TwoMarks" : Str), [("number" : Str)], [(PV.int q13)]⟩ : TX) fun v16 : TX => (oB (xvO [("NoGate" : Str), ("BadPlace" : Str), ("BadMark" : Str), ("TwoMarks" : Str)] "number" v16) fun y17 => (oB (fzO y17) fun u19 => (.rt () (v16, y17, (PV.int q13)))))) else (if (decide ((q11 : Int) = 13)) = true then (letT (⟨("BadLength" : Str), [("count" : Str)], [(PV.int q13)]⟩ : TX) fun v21 : TX => (oB (xvO [("BadPlaces" : Str), ("BadEdges" : Str), ("BadLength" : Str), ("TooMany" : Str), ("BadSeats" : Str), ("BadMenu" : Str)] "count" v21) fun y22 => (oB (fzO y22) fun u24 => (.rt () (v21, y22, (PV.int q13)))))) else (if (decide ((q11 : Int) = 14)) = true then (letT (⟨("BadPrice" : Str), [("gate" : Str)], [(PV.int q13)]⟩ : TX) fun v26 : TX => (oB (xvO [("BadPrice" : Str)] "gate" v26) fun y27 => (oB (fzO y27) fun u29 => (.rt () (v26, y27, (PV.int q13)))))) else (if (decide ((q11 : Int) = 15)) = true then (letT (⟨("BadWord" : Str), [("word" : Str)], [(eS q17)]⟩ : TX) fun v31 : TX => (oB (xvO [("BadWord" : Str)] "word" v31) fun y32 => (oB (fzO y32) fun u34 => (.rt () (v31, y32, (eS q17)))))) else (if (decide ((q11 : Int) = 16)) = true then (.rt () ((⟨("OtherWeb" : Str), [], []⟩ : TX), (PV.int 0), (PV.int 0))) else (letT (⟨("TooMany" : Str), [("count" : Str)], [(PV.int q13)]⟩ : TX) fun v36 : TX => (oB (xvO [("BadPlaces" : Str), ("BadEdges" : Str), ("BadLength" : Str), ("TooMany" : Str), ("BadSeats" : Str), ("BadMenu" : Str)] "count" v36) fun y37 => (oB (fzO y37) fun u39 => (.rt () (v36, y37, (PV.int q13))))))))))))))
theorem w_law_second {q11 : Int} {q13 : Int} {q16 : (List Int)} {q17 : String} : SimF K (m_law_second K [(PV.int q11), (PV.int q13), (PV.tup (List.map PV.int q16)), (eS q17)]) (T_law_second q11 q13 q16 q17) (fun x : (TX × PV × PV) => (PV.tup [(eXv K x.1), x.2.1, x.2.2])) (fun m => [(PV.int q11), (PV.int q13), (PV.tup (List.map PV.int q16)), (eS q17)]) (fun m os => os = [(PV.int q11), (PV.int q13), (PV.tup (List.map PV.int q16)), (eS q17)]) :=
  by
  unfold T_law_second m_law_second;refine f_E' (ρ0 := [some (PV.int q11), some (PV.int q13), some (PV.tup (List.map PV.int q16)), some (eS q17), none]) (by rfl) (by rfl) ?_
  refine s_seq (s_if (g_at (e_2b (e_nm rfl) rfl ((Eq2.int 6).eqP q11 9)) ?_));refine k_ifx (fun _ => ?_) (fun _ => ?_)
  · refine s_seq (s_set (g_frz (g_exn (g_v (e_nm rfl) rfl ?_))));refine k_exn (k_frz (frz_xo _ _ _) ?_);refine k_setL (v := (⟨("NotWhole" : Str), [("place" : Str)], [(PV.int q13)]⟩ : TX)) (eXv K) (fun v1 => [some (PV.int q11), some (PV.int q13), some (PV.tup (List.map PV.int q16)), some (eS q17), some (eXv K v1)]) (fun _ => rfl) fun v1 => ?_
    refine s_last (s_ret ?_);refine s_oB fun y2 h3 => (s_oB fun u4 h5 => (g_f (e_A (e_cons (e_nm rfl) (e_cons (e_1 (e_nm rfl) (o_exf (N := [("BadEntry" : Str), ("BadExit" : Str), ("Idle" : Str), ("NotWhole" : Str)]) h3)) (e_cons (e_nm rfl) e_nil))) (o_disT (fzl_cons rfl (fzl_cons (fz_of h5) (fzl_cons rfl fzl_nil))) rfl)) ?_))
    exact k_rt (And.intro rfl rfl)
  · refine s_skip (s_seq (s_if (g_at (e_2b (e_nm rfl) rfl ((Eq2.int 6).eqP q11 10)) ?_)));refine k_ifx (fun _ => ?_) (fun _ => ?_)
    · refine s_seq (s_set (g_frz (g_exn (g_v (e_nm rfl) rfl ?_))));refine k_exn (k_frz (frz_xo _ _ _) ?_);refine k_setL (v := (⟨("BadPlace" : Str), [("number" : Str)], [(PV.int q13)]⟩ : TX)) (eXv K) (fun v6 => [some (PV.int q11), some (PV.int q13), some (PV.tup (List.map PV.int q16)), some (eS q17), some (eXv K v6)]) (fun _ => rfl) fun v6 => ?_
      refine s_last (s_ret ?_);refine s_oB fun y7 h8 => (s_oB fun u9 h10 => (g_f (e_A (e_cons (e_nm rfl) (e_cons (e_1 (e_nm rfl) (o_exf (N := [("NoGate" : Str), ("BadPlace" : Str), ("BadMark" : Str), ("TwoMarks" : Str)]) h8)) (e_cons (e_nm rfl) e_nil))) (o_disT (fzl_cons rfl (fzl_cons (fz_of h10) (fzl_cons rfl fzl_nil))) rfl)) ?_))
      exact k_rt (And.intro rfl rfl)
    · refine s_skip (s_seq (s_if (g_at (e_2b (e_nm rfl) rfl ((Eq2.int 6).eqP q11 11)) ?_)));refine k_ifx (fun _ => ?_) (fun _ => ?_)
      · refine s_seq (s_set (g_frz (g_exn (g_v (e_nm rfl) rfl ?_))));refine k_exn (k_frz (frz_xo _ _ _) ?_);refine k_setL (v := (⟨("BadMark" : Str), [("number" : Str)], [(PV.int q13)]⟩ : TX)) (eXv K) (fun v11 => [some (PV.int q11), some (PV.int q13), some (PV.tup (List.map PV.int q16)), some (eS q17), some (eXv K v11)]) (fun _ => rfl) fun v11 => ?_
        refine s_last (s_ret ?_);refine s_oB fun y12 h13 => (s_oB fun u14 h15 => (g_f (e_A (e_cons (e_nm rfl) (e_cons (e_1 (e_nm rfl) (o_exf (N := [("NoGate" : Str), ("BadPlace" : Str), ("BadMark" : Str), ("TwoMarks" : Str)]) h13)) (e_cons (e_nm rfl) e_nil))) (o_disT (fzl_cons rfl (fzl_cons (fz_of h15) (fzl_cons rfl fzl_nil))) rfl)) ?_))
        exact k_rt (And.intro rfl rfl)
      · refine s_skip (s_seq (s_if (g_at (e_2b (e_nm rfl) rfl ((Eq2.int 6).eqP q11 12)) ?_)));refine k_ifx (fun _ => ?_) (fun _ => ?_)
        · refine s_seq (s_set (g_frz (g_exn (g_v (e_nm rfl) rfl ?_))));refine k_exn (k_frz (frz_xo _ _ _) ?_);refine k_setL (v := (⟨("TwoMarks" : Str), [("number" : Str)], [(PV.int q13)]⟩ : TX)) (eXv K) (fun v16 => [some (PV.int q11), some (PV.int q13), some (PV.tup (List.map PV.int q16)), some (eS q17), some (eXv K v16)]) (fun _ => rfl) fun v16 => ?_
          refine s_last (s_ret ?_);refine s_oB fun y17 h18 => (s_oB fun u19 h20 => (g_f (e_A (e_cons (e_nm rfl) (e_cons (e_1 (e_nm rfl) (o_exf (N := [("NoGate" : Str), ("BadPlace" : Str), ("BadMark" : Str), ("TwoMarks" : Str)]) h18)) (e_cons (e_nm rfl) e_nil))) (o_disT (fzl_cons rfl (fzl_cons (fz_of h20) (fzl_cons rfl fzl_nil))) rfl)) ?_))
          exact k_rt (And.intro rfl rfl)
        · refine s_skip (s_seq (s_if (g_at (e_2b (e_nm rfl) rfl ((Eq2.int 6).eqP q11 13)) ?_)));refine k_ifx (fun _ => ?_) (fun _ => ?_)
          · refine s_seq (s_set (g_frz (g_exn (g_v (e_nm rfl) rfl ?_))));refine k_exn (k_frz (frz_xo _ _ _) ?_);refine k_setL (v := (⟨("BadLength" : Str), [("count" : Str)], [(PV.int q13)]⟩ : TX)) (eXv K) (fun v21 => [some (PV.int q11), some (PV.int q13), some (PV.tup (List.map PV.int q16)), some (eS q17), some (eXv K v21)]) (fun _ => rfl) fun v21 => ?_
            refine s_last (s_ret ?_);refine s_oB fun y22 h23 => (s_oB fun u24 h25 => (g_f (e_A (e_cons (e_nm rfl) (e_cons (e_1 (e_nm rfl) (o_exf (N := [("BadPlaces" : Str), ("BadEdges" : Str), ("BadLength" : Str), ("TooMany" : Str), ("BadSeats" : Str), ("BadMenu" : Str)]) h23)) (e_cons (e_nm rfl) e_nil))) (o_disT (fzl_cons rfl (fzl_cons (fz_of h25) (fzl_cons rfl fzl_nil))) rfl)) ?_))
            exact k_rt (And.intro rfl rfl)
          · refine s_skip (s_seq (s_if (g_at (e_2b (e_nm rfl) rfl ((Eq2.int 6).eqP q11 14)) ?_)));refine k_ifx (fun _ => ?_) (fun _ => ?_)
            · refine s_seq (s_set (g_frz (g_exn (g_v (e_nm rfl) rfl ?_))));refine k_exn (k_frz (frz_xo _ _ _) ?_);refine k_setL (v := (⟨("BadPrice" : Str), [("gate" : Str)], [(PV.int q13)]⟩ : TX)) (eXv K) (fun v26 => [some (PV.int q11), some (PV.int q13), some (PV.tup (List.map PV.int q16)), some (eS q17), some (eXv K v26)]) (fun _ => rfl) fun v26 => ?_
              refine s_last (s_ret ?_);refine s_oB fun y27 h28 => (s_oB fun u29 h30 => (g_f (e_A (e_cons (e_nm rfl) (e_cons (e_1 (e_nm rfl) (o_exf (N := [("BadPrice" : Str)]) h28)) (e_cons (e_nm rfl) e_nil))) (o_disT (fzl_cons rfl (fzl_cons (fz_of h30) (fzl_cons rfl fzl_nil))) rfl)) ?_))
              exact k_rt (And.intro rfl rfl)
            · refine s_skip (s_seq (s_if (g_at (e_2b (e_nm rfl) rfl ((Eq2.int 6).eqP q11 15)) ?_)));refine k_ifx (fun _ => ?_) (fun _ => ?_)
              · refine s_seq (s_set (g_frz (g_exn (g_v (e_nm rfl) rfl ?_))));refine k_exn (k_frz (frz_xo _ _ _) ?_);refine k_setL (v := (⟨("BadWord" : Str), [("word" : Str)], [(eS q17)]⟩ : TX)) (eXv K) (fun v31 => [some (PV.int q11), some (PV.int q13), some (PV.tup (List.map PV.int q16)), some (eS q17), some (eXv K v31)]) (fun _ => rfl) fun v31 => ?_
                refine s_last (s_ret ?_);refine s_oB fun y32 h33 => (s_oB fun u34 h35 => (g_f (e_A (e_cons (e_nm rfl) (e_cons (e_1 (e_nm rfl) (o_exf (N := [("BadWord" : Str)]) h33)) (e_cons (e_nm rfl) e_nil))) (o_disT (fzl_cons rfl (fzl_cons (fz_of h35) (fzl_cons rfl fzl_nil))) rfl)) ?_))
                exact k_rt (And.intro rfl rfl)
              · refine s_skip (s_seq (s_if (g_at (e_2b (e_nm rfl) rfl ((Eq2.int 6).eqP q11 16)) ?_)));refine k_ifx (fun _ => ?_) (fun _ => ?_)
                · refine s_last (s_ret (g_f (e_A (e_cons (e_frz rfl (frz_xo _ _ _)) (e_cons rfl (e_cons rfl e_nil))) (o_disT rfl rfl)) ?_));exact k_rt (And.intro rfl rfl)
                · refine s_skip (s_seq (s_set (g_frz (g_exn (g_v (e_nm rfl) rfl ?_)))));refine k_exn (k_frz (frz_xo _ _ _) ?_);refine k_setL (v := (⟨("TooMany" : Str), [("count" : Str)], [(PV.int q13)]⟩ : TX)) (eXv K) (fun v36 => [some (PV.int q11), some (PV.int q13), some (PV.tup (List.map PV.int q16)), some (eS q17), some (eXv K v36)]) (fun _ => rfl) fun v36 => ?_
                  refine s_last (s_ret ?_);refine s_oB fun y37 h38 => (s_oB fun u39 h40 => (g_f (e_A (e_cons (e_nm rfl) (e_cons (e_1 (e_nm rfl) (o_exf (N := [("BadPlaces" : Str), ("BadEdges" : Str), ("BadLength" : Str), ("TooMany" : Str), ("BadSeats" : Str), ("BadMenu" : Str)]) h38)) (e_cons (e_nm rfl) e_nil))) (o_disT (fzl_cons rfl (fzl_cons (fz_of h40) (fzl_cons rfl fzl_nil))) rfl)) ?_))
                  exact k_rt (And.intro rfl rfl)
@[irreducible] def T_law_third_v1 (q11 : Int) (q13 : Int) (q16 : (List Int)) (q17 : String) : FT (Unit) (Unit) (TX × PV × PV) :=
  runE (M := Unit) (X := Unit) (if (decide ((q11 : Int) = 18)) = true then (letT (⟨("Barred" : Str), [("index" : Str)], [(PV.int q13)]⟩ : TX) fun v1 : TX => (oB (xvO [("BadEdge" : Str), ("BadWay" : Str), ("Barred" : Str), ("TwiceInMenu" : Str), ("BadDeed" : Str)] "index" v1) fun y2 => (oB (fzO y2) fun u4 => (.rt () (v1, y2, (PV.int q13)))))) else (if (decide ((q11 : Int) = 19)) = true then (letT (⟨("BadSeats" : Str), [("count" : Str)], [(PV.int q13)]⟩ : TX) fun v6 : TX => (oB (xvO [("BadPlaces" : Str), ("BadEdges" : Str), ("BadLength" : Str), ("TooMany" : Str), ("BadSeats" : Str), ("BadMenu" : Str)] "count" v6) fun y7 => (oB (fzO y7) fun u9 => (.rt () (v6, y7, (PV.int q13)))))) else (if (decide ((q11 : Int) = 20)) = true then (letT (⟨("BadName" : Str), [("name" : Str)], [(eS q17)]⟩ : TX) fun v11 : TX => (oB (xvO [("BadName" : Str), ("NoSeat" : Str)] "name" v11) fun y12 => (oB (fzO y12) fun u14 => (.rt () (v11, y12, (eS q17)))))) else (if (decide ((q11 : Int) = 21)) = true then (letT (⟨("NoSeat" : Str), [("name" : Str)], [(eS q17)]⟩ : TX) fun v16 : TX => (oB (xvO [("BadName" : Str), ("NoSeat" : Str)] "name" v16) fun y17 => (oB (fzO y17) fun u19 => (.rt () (v16, y17, (eS q17)))))) else (if (decide ((q11 : Int) = 22)) = true then (letT (⟨("BadEdit" : Str), [("change" : Str)], [(PV.tup (List.map PV.int q16))]⟩ : TX) fun v21 : TX => (oB (xvO [("BadEdit" : Str)] "change" v21) fun y22 => (oB (fzO y22) fun u24 => (.rt () (v21, y22, (PV.tup (List.map PV.int q16))))))) else (if (decide ((q11 : Int) = 23)) = true then (letT (⟨("BadMenu" : Str), [("count" : Str)], [(PV.int q13)]⟩ : TX) fun v26 : TX => (oB (xvO [("BadPlaces" : Str), ("BadEdges" : Str), ("BadLength" : Str), ("TooMany" : Str), ("BadSeats" : Str), ("BadMenu" : Str)] "count" v26) fun y27 => (oB (fzO y27) fun u29 => (.rt () (v26, y27, (PV.int q13)))))) else (if (decide ((q11 : Int) = 24)) = true then (letT (⟨("TwiceInMenu" : Str), [("index" : Str)], [(PV.int q13)]⟩ : TX) fun v31 : TX => (oB (xvO [("BadEdge" : Str), ("BadWay" : Str), ("Barred" : Str), ("TwiceInMenu" : Str), ("BadDeed" : Str)] "index" v31) fun y32 => (oB (fzO y32) fun u34 => (.rt () (v31, y32, (PV.int q13)))))) else (if (decide ((q11 : Int) = 25)) = true then (letT (⟨("BadDeed" : Str), [("index" : Str)], [(PV.int q13)]⟩ : TX) fun v36 : TX => (oB (xvO [("BadEdge" : Str), ("BadWay" : Str), ("Barred" : Str), ("TwiceInMenu" : Str), ("BadDeed" : Str)] "index" v36) fun y37 => (oB (fzO y37) fun u39 => (.rt () (v36, y37, (PV.int q13)))))) else (letT (⟨("BadLine" : Str), [("line" : Str)], [(PV.int q13)]⟩ : TX) fun v41 : TX => (oB (xvO [("BadLine" : Str)] "line" v41) fun y42 => (oB (fzO y42) fun u44 => (.rt () (v41, y42, (PV.int q13))))))))))))))
theorem w_law_third_v1 {q11 : Int} {q13 : Int} {q16 : (List Int)} {q17 : String} : SimF K (m_law_third_v1 K [(PV.int q11), (PV.int q13), (PV.tup (List.map PV.int q16)), (eS q17)]) (T_law_third_v1 q11 q13 q16 q17) (fun x : (TX × PV × PV) => (PV.tup [(eXv K x.1), x.2.1, x.2.2])) (fun m => [(PV.int q11), (PV.int q13), (PV.tup (List.map PV.int q16)), (eS q17)]) (fun m os => os = [(PV.int q11), (PV.int q13), (PV.tup (List.map PV.int q16)), (eS q17)]) :=
  by
  unfold T_law_third_v1 m_law_third_v1;refine f_E' (ρ0 := [some (PV.int q11), some (PV.int q13), some (PV.tup (List.map PV.int q16)), some (eS q17), none]) (by rfl) (by rfl) ?_
  refine s_seq (s_if (g_at (e_2b (e_nm rfl) rfl ((Eq2.int 6).eqP q11 18)) ?_));refine k_ifx (fun _ => ?_) (fun _ => ?_)
  · refine s_seq (s_set (g_frz (g_exn (g_v (e_nm rfl) rfl ?_))));refine k_exn (k_frz (frz_xo _ _ _) ?_);refine k_setL (v := (⟨("Barred" : Str), [("index" : Str)], [(PV.int q13)]⟩ : TX)) (eXv K) (fun v1 => [some (PV.int q11), some (PV.int q13), some (PV.tup (List.map PV.int q16)), some (eS q17), some (eXv K v1)]) (fun _ => rfl) fun v1 => ?_
    refine s_last (s_ret ?_);refine s_oB fun y2 h3 => (s_oB fun u4 h5 => (g_f (e_A (e_cons (e_nm rfl) (e_cons (e_1 (e_nm rfl) (o_exf (N := [("BadEdge" : Str), ("BadWay" : Str), ("Barred" : Str), ("TwiceInMenu" : Str), ("BadDeed" : Str)]) h3)) (e_cons (e_nm rfl) e_nil))) (o_disT (fzl_cons rfl (fzl_cons (fz_of h5) (fzl_cons rfl fzl_nil))) rfl)) ?_))
    exact k_rt (And.intro rfl rfl)
  · refine s_skip (s_seq (s_if (g_at (e_2b (e_nm rfl) rfl ((Eq2.int 6).eqP q11 19)) ?_)));refine k_ifx (fun _ => ?_) (fun _ => ?_)
    · refine s_seq (s_set (g_frz (g_exn (g_v (e_nm rfl) rfl ?_))));refine k_exn (k_frz (frz_xo _ _ _) ?_);refine k_setL (v := (⟨("BadSeats" : Str), [("count" : Str)], [(PV.int q13)]⟩ : TX)) (eXv K) (fun v6 => [some (PV.int q11), some (PV.int q13), some (PV.tup (List.map PV.int q16)), some (eS q17), some (eXv K v6)]) (fun _ => rfl) fun v6 => ?_
      refine s_last (s_ret ?_);refine s_oB fun y7 h8 => (s_oB fun u9 h10 => (g_f (e_A (e_cons (e_nm rfl) (e_cons (e_1 (e_nm rfl) (o_exf (N := [("BadPlaces" : Str), ("BadEdges" : Str), ("BadLength" : Str), ("TooMany" : Str), ("BadSeats" : Str), ("BadMenu" : Str)]) h8)) (e_cons (e_nm rfl) e_nil))) (o_disT (fzl_cons rfl (fzl_cons (fz_of h10) (fzl_cons rfl fzl_nil))) rfl)) ?_))
      exact k_rt (And.intro rfl rfl)
    · refine s_skip (s_seq (s_if (g_at (e_2b (e_nm rfl) rfl ((Eq2.int 6).eqP q11 20)) ?_)));refine k_ifx (fun _ => ?_) (fun _ => ?_)
      · refine s_seq (s_set (g_frz (g_exn (g_v (e_nm rfl) rfl ?_))));refine k_exn (k_frz (frz_xo _ _ _) ?_);refine k_setL (v := (⟨("BadName" : Str), [("name" : Str)], [(eS q17)]⟩ : TX)) (eXv K) (fun v11 => [some (PV.int q11), some (PV.int q13), some (PV.tup (List.map PV.int q16)), some (eS q17), some (eXv K v11)]) (fun _ => rfl) fun v11 => ?_
        refine s_last (s_ret ?_);refine s_oB fun y12 h13 => (s_oB fun u14 h15 => (g_f (e_A (e_cons (e_nm rfl) (e_cons (e_1 (e_nm rfl) (o_exf (N := [("BadName" : Str), ("NoSeat" : Str)]) h13)) (e_cons (e_nm rfl) e_nil))) (o_disT (fzl_cons rfl (fzl_cons (fz_of h15) (fzl_cons rfl fzl_nil))) rfl)) ?_))
        exact k_rt (And.intro rfl rfl)
      · refine s_skip (s_seq (s_if (g_at (e_2b (e_nm rfl) rfl ((Eq2.int 6).eqP q11 21)) ?_)));refine k_ifx (fun _ => ?_) (fun _ => ?_)
        · refine s_seq (s_set (g_frz (g_exn (g_v (e_nm rfl) rfl ?_))));refine k_exn (k_frz (frz_xo _ _ _) ?_);refine k_setL (v := (⟨("NoSeat" : Str), [("name" : Str)], [(eS q17)]⟩ : TX)) (eXv K) (fun v16 => [some (PV.int q11), some (PV.int q13), some (PV.tup (List.map PV.int q16)), some (eS q17), some (eXv K v16)]) (fun _ => rfl) fun v16 => ?_
          refine s_last (s_ret ?_);refine s_oB fun y17 h18 => (s_oB fun u19 h20 => (g_f (e_A (e_cons (e_nm rfl) (e_cons (e_1 (e_nm rfl) (o_exf (N := [("BadName" : Str), ("NoSeat" : Str)]) h18)) (e_cons (e_nm rfl) e_nil))) (o_disT (fzl_cons rfl (fzl_cons (fz_of h20) (fzl_cons rfl fzl_nil))) rfl)) ?_))
          exact k_rt (And.intro rfl rfl)
        · refine s_skip (s_seq (s_if (g_at (e_2b (e_nm rfl) rfl ((Eq2.int 6).eqP q11 22)) ?_)));refine k_ifx (fun _ => ?_) (fun _ => ?_)
          · refine s_seq (s_set (g_frz (g_exn (g_v (e_nm rfl) rfl ?_))));refine k_exn (k_frz (frz_xo _ _ _) ?_);refine k_setL (v := (⟨("BadEdit" : Str), [("change" : Str)], [(PV.tup (List.map PV.int q16))]⟩ : TX)) (eXv K) (fun v21 => [some (PV.int q11), some (PV.int q13), some (PV.tup (List.map PV.int q16)), some (eS q17), some (eXv K v21)]) (fun _ => rfl) fun v21 => ?_
            refine s_last (s_ret ?_);refine s_oB fun y22 h23 => (s_oB fun u24 h25 => (g_f (e_A (e_cons (e_nm rfl) (e_cons (e_1 (e_nm rfl) (o_exf (N := [("BadEdit" : Str)]) h23)) (e_cons (e_nm rfl) e_nil))) (o_disT (fzl_cons rfl (fzl_cons (fz_of h25) (fzl_cons rfl fzl_nil))) rfl)) ?_))
            exact k_rt (And.intro rfl rfl)
          · refine s_skip (s_seq (s_if (g_at (e_2b (e_nm rfl) rfl ((Eq2.int 6).eqP q11 23)) ?_)));refine k_ifx (fun _ => ?_) (fun _ => ?_)
            · refine s_seq (s_set (g_frz (g_exn (g_v (e_nm rfl) rfl ?_))));refine k_exn (k_frz (frz_xo _ _ _) ?_);refine k_setL (v := (⟨("BadMenu" : Str), [("count" : Str)], [(PV.int q13)]⟩ : TX)) (eXv K) (fun v26 => [some (PV.int q11), some (PV.int q13), some (PV.tup (List.map PV.int q16)), some (eS q17), some (eXv K v26)]) (fun _ => rfl) fun v26 => ?_
              refine s_last (s_ret ?_);refine s_oB fun y27 h28 => (s_oB fun u29 h30 => (g_f (e_A (e_cons (e_nm rfl) (e_cons (e_1 (e_nm rfl) (o_exf (N := [("BadPlaces" : Str), ("BadEdges" : Str), ("BadLength" : Str), ("TooMany" : Str), ("BadSeats" : Str), ("BadMenu" : Str)]) h28)) (e_cons (e_nm rfl) e_nil))) (o_disT (fzl_cons rfl (fzl_cons (fz_of h30) (fzl_cons rfl fzl_nil))) rfl)) ?_))
              exact k_rt (And.intro rfl rfl)
            · refine s_skip (s_seq (s_if (g_at (e_2b (e_nm rfl) rfl ((Eq2.int 6).eqP q11 24)) ?_)));refine k_ifx (fun _ => ?_) (fun _ => ?_)
              · refine s_seq (s_set (g_frz (g_exn (g_v (e_nm rfl) rfl ?_))));refine k_exn (k_frz (frz_xo _ _ _) ?_);refine k_setL (v := (⟨("TwiceInMenu" : Str), [("index" : Str)], [(PV.int q13)]⟩ : TX)) (eXv K) (fun v31 => [some (PV.int q11), some (PV.int q13), some (PV.tup (List.map PV.int q16)), some (eS q17), some (eXv K v31)]) (fun _ => rfl) fun v31 => ?_
                refine s_last (s_ret ?_);refine s_oB fun y32 h33 => (s_oB fun u34 h35 => (g_f (e_A (e_cons (e_nm rfl) (e_cons (e_1 (e_nm rfl) (o_exf (N := [("BadEdge" : Str), ("BadWay" : Str), ("Barred" : Str), ("TwiceInMenu" : Str), ("BadDeed" : Str)]) h33)) (e_cons (e_nm rfl) e_nil))) (o_disT (fzl_cons rfl (fzl_cons (fz_of h35) (fzl_cons rfl fzl_nil))) rfl)) ?_))
                exact k_rt (And.intro rfl rfl)
              · refine s_skip (s_seq (s_if (g_at (e_2b (e_nm rfl) rfl ((Eq2.int 6).eqP q11 25)) ?_)));refine k_ifx (fun _ => ?_) (fun _ => ?_)
                · refine s_seq (s_set (g_frz (g_exn (g_v (e_nm rfl) rfl ?_))));refine k_exn (k_frz (frz_xo _ _ _) ?_);refine k_setL (v := (⟨("BadDeed" : Str), [("index" : Str)], [(PV.int q13)]⟩ : TX)) (eXv K) (fun v36 => [some (PV.int q11), some (PV.int q13), some (PV.tup (List.map PV.int q16)), some (eS q17), some (eXv K v36)]) (fun _ => rfl) fun v36 => ?_
                  refine s_last (s_ret ?_);refine s_oB fun y37 h38 => (s_oB fun u39 h40 => (g_f (e_A (e_cons (e_nm rfl) (e_cons (e_1 (e_nm rfl) (o_exf (N := [("BadEdge" : Str), ("BadWay" : Str), ("Barred" : Str), ("TwiceInMenu" : Str), ("BadDeed" : Str)]) h38)) (e_cons (e_nm rfl) e_nil))) (o_disT (fzl_cons rfl (fzl_cons (fz_of h40) (fzl_cons rfl fzl_nil))) rfl)) ?_))
                  exact k_rt (And.intro rfl rfl)
                · refine s_skip (s_seq (s_set (g_frz (g_exn (g_v (e_nm rfl) rfl ?_)))));refine k_exn (k_frz (frz_xo _ _ _) ?_);refine k_setL (v := (⟨("BadLine" : Str), [("line" : Str)], [(PV.int q13)]⟩ : TX)) (eXv K) (fun v41 => [some (PV.int q11), some (PV.int q13), some (PV.tup (List.map PV.int q16)), some (eS q17), some (eXv K v41)]) (fun _ => rfl) fun v41 => ?_
                  refine s_last (s_ret ?_);refine s_oB fun y42 h43 => (s_oB fun u44 h45 => (g_f (e_A (e_cons (e_nm rfl) (e_cons (e_1 (e_nm rfl) (o_exf (N := [("BadLine" : Str)]) h43)) (e_cons (e_nm rfl) e_nil))) (o_disT (fzl_cons rfl (fzl_cons (fz_of h45) (fzl_cons rfl fzl_nil))) rfl)) ?_))
                  exact k_rt (And.intro rfl rfl)
@[irreducible] def T_law_made_v3 (q11 : Int) (q13 : Int) (q16 : (List Int)) (q17 : String) : FT (Unit) (Unit) (TX × PV × PV) :=
  runE (M := Unit) (X := Unit) (if (decide (q11 < 9)) = true then (callT (T_law_first_v2 q11 q13 q16 q17) (fun m1 => ()) fun m1 a2 => (.rt () (a2.1, a2.2.1, (PV.int a2.2.2)))) else (if (decide (q11 < 18)) = true then (callT (T_law_second q11 q13 q16 q17) (fun m3 => ()) fun m3 a4 => (.rt () a4)) else (callT (T_law_third_v1 q11 q13 q16 q17) (fun m5 => ()) fun m5 a6 => (.rt () a6))))
theorem w_law_made_v3 {q11 : Int} {q13 : Int} {q16 : (List Int)} {q17 : String} : SimF K (m_law_made_v3 K [(PV.int q11), (PV.int q13), (PV.tup (List.map PV.int q16)), (eS q17)]) (T_law_made_v3 q11 q13 q16 q17) (fun x : (TX × PV × PV) => (PV.tup [(eXv K x.1), x.2.1, x.2.2])) (fun m => [(PV.int q11), (PV.int q13), (PV.tup (List.map PV.int q16)), (eS q17)]) (fun m os => os = [(PV.int q11), (PV.int q13), (PV.tup (List.map PV.int q16)), (eS q17)]) :=
  by
  unfold T_law_made_v3 m_law_made_v3;refine f_E' (ρ0 := [some (PV.int q11), some (PV.int q13), some (PV.tup (List.map PV.int q16)), some (eS q17)]) (by rfl) (by rfl) ?_
  refine s_seq (s_if (g_at (e_2b (e_nm rfl) rfl (o_lt _ _)) ?_));refine k_ifx (fun _ => ?_) (fun _ => ?_)
  · refine s_last (s_ret (g_call (g_vl (g_v (e_nm rfl) rfl ?_))));refine k_vl (g_vl (g_v (e_nm rfl) rfl ?_));refine k_vl (g_vl (g_v (e_nm rfl) rfl ?_));refine k_vl (g_vl (g_v (e_nm rfl) rfl ?_))
    refine k_vl (g_nilAg (k_vlB (k_vlB (k_vlB (k_vlB (k_call (fun m1 => [some (PV.int q11), some (PV.int q13), some (PV.tup (List.map PV.int q16)), some (eS q17)]) rfl w_law_first_v2 (fun _ => rfl) (fun m1 a2 => ?_) (fun m1 _ hx => by first | (cases hx; exact rfl) | trivial)))))))
    exact k_rt (And.intro rfl rfl)
  · refine s_skip (s_seq (s_if (g_at (e_2b (e_nm rfl) rfl (o_lt _ _)) ?_)));refine k_ifx (fun _ => ?_) (fun _ => ?_)
    · refine s_last (s_ret (g_call (g_vl (g_v (e_nm rfl) rfl ?_))));refine k_vl (g_vl (g_v (e_nm rfl) rfl ?_));refine k_vl (g_vl (g_v (e_nm rfl) rfl ?_));refine k_vl (g_vl (g_v (e_nm rfl) rfl ?_))
      refine k_vl (g_nilAg (k_vlB (k_vlB (k_vlB (k_vlB (k_call (fun m3 => [some (PV.int q11), some (PV.int q13), some (PV.tup (List.map PV.int q16)), some (eS q17)]) rfl w_law_second (fun _ => rfl) (fun m3 a4 => ?_) (fun m3 _ hx => by first | (cases hx; exact rfl) | trivial)))))))
      exact k_rt (And.intro rfl rfl)
    · refine s_skip (s_last (s_ret (g_call (g_vl (g_v (e_nm rfl) rfl ?_)))));refine k_vl (g_vl (g_v (e_nm rfl) rfl ?_));refine k_vl (g_vl (g_v (e_nm rfl) rfl ?_))
      refine k_vl (g_vl (g_v (e_nm rfl) rfl ?_));refine k_vl (g_nilAg (k_vlB (k_vlB (k_vlB (k_vlB (k_call (fun m5 => [some (PV.int q11), some (PV.int q13), some (PV.tup (List.map PV.int q16)), some (eS q17)]) rfl w_law_third_v1 (fun _ => rfl) (fun m5 a6 => ?_) (fun m5 _ hx => by first | (cases hx; exact rfl) | trivial)))))))
      exact k_rt (And.intro rfl rfl)
@[irreducible] def T_law_kinds (q10 : TX) : FT (Unit) (Unit) (List Bool) :=
  runE (M := Unit) (X := Unit) (oB (isXO exN ("BadPlaces" : Str) q10) fun y1 => (oB (isXO exN ("BadEdges" : Str) q10) fun y3 => (oB (isXO exN ("BadEdge" : Str) q10) fun y5 => (oB (catO ([] : List Bool) [y1, y3, y5]) fun y7 => (oB (isXO exN ("BadEntry" : Str) q10) fun y9 => (oB (isXO exN ("NoExits" : Str) q10) fun y11 => (oB (isXO exN ("BadExit" : Str) q10) fun y13 => (oB (catO (y7 : List Bool) [y9, y11, y13]) fun y15 => (oB (isXO exN ("Idle" : Str) q10) fun y17 => (oB (isXO exN ("NoGate" : Str) q10) fun y19 => (oB (isXO exN ("BadWay" : Str) q10) fun y21 => (oB (catO (y15 : List Bool) [y17, y19, y21]) fun y23 => (oB (isXO exN ("NotWhole" : Str) q10) fun y25 => (oB (isXO exN ("BadPlace" : Str) q10) fun y27 => (oB (isXO exN ("BadMark" : Str) q10) fun y29 => (oB (catO (y23 : List Bool) [y25, y27, y29]) fun y31 => (oB (isXO exN ("TwoMarks" : Str) q10) fun y33 => (oB (isXO exN ("BadLength" : Str) q10) fun y35 => (oB (isXO exN ("BadPrice" : Str) q10) fun y37 => (oB (catO (y31 : List Bool) [y33, y35, y37]) fun y39 => (oB (isXO exN ("BadWord" : Str) q10) fun y41 => (oB (isXO exN ("OtherWeb" : Str) q10) fun y43 => (oB (isXO exN ("TooMany" : Str) q10) fun y45 => (oB (catO (y39 : List Bool) [y41, y43, y45]) fun y47 => (oB (isXO exN ("Barred" : Str) q10) fun y49 => (oB (isXO exN ("BadSeats" : Str) q10) fun y51 => (oB (isXO exN ("BadName" : Str) q10) fun y53 => (oB (catO (y47 : List Bool) [y49, y51, y53]) fun y55 => (oB (isXO exN ("NoSeat" : Str) q10) fun y57 => (oB (isXO exN ("BadEdit" : Str) q10) fun y59 => (oB (isXO exN ("BadMenu" : Str) q10) fun y61 => (oB (catO (y55 : List Bool) [y57, y59, y61]) fun y63 => (oB (isXO exN ("TwiceInMenu" : Str) q10) fun y65 => (oB (isXO exN ("BadDeed" : Str) q10) fun y67 => (oB (isXO exN ("BadLine" : Str) q10) fun y69 => (oB (catO (y63 : List Bool) [y65, y67, y69]) fun y71 => (.rt () y71)))))))))))))))))))))))))))))))))))))
theorem w_law_kinds [F_x_all_all K] {q10 : TX} : SimF K (m_law_kinds K [(eXv K q10)]) (T_law_kinds q10) (fun x : (List Bool) => (PV.lst false (List.map PV.bl x))) (fun m => [(eXv K q10)]) (fun m os => os = [(eXv K q10)]) :=
  by
  unfold T_law_kinds m_law_kinds;refine f_E' (ρ0 := [some (eXv K q10), none]) (by rfl) (by rfl) ?_
  refine s_seq (s_set (g_frz (g_f (e_A e_nil (o_disL rfl rfl)) ?_)));refine k_frz (z_lst (f := PV.int) (fun _ => frz_sc _) _ []) ?_
  refine k_set (ρ' := [some (eXv K q10), some (PV.lst false [])]) rfl ?_;refine s_seq (s_set (g_frz ?_));refine s_oB fun y1 h2 => (s_oB fun y3 h4 => (s_oB fun y5 h6 => (s_oB fun y7 h8 => (g_f (e_2 (e_nm rfl) (e_frz (e_A (e_cons (e_frz (e_A (e_cons (e_nm rfl) (e_cons rfl e_nil)) (o_isX (N := exN) (fun c hc => F_x_all_all.h c hc ("BadPlaces" : Str) (by decide)) h2)) (frz_sc _)) (e_cons (e_frz (e_A (e_cons (e_nm rfl) (e_cons rfl e_nil)) (o_isX (N := exN) (fun c hc => F_x_all_all.h c hc ("BadEdges" : Str) (by decide)) h4)) (frz_sc _)) (e_cons (e_frz (e_A (e_cons (e_nm rfl) (e_cons rfl e_nil)) (o_isX (N := exN) (fun c hc => F_x_all_all.h c hc ("BadEdge" : Str) (by decide)) h6)) (frz_sc _)) e_nil))) (o_disL rfl rfl)) (z_lst (f := PV.bl) (fun _ => frz_sc _) _ [y1, y3, y5])) (o_cat (f := PV.bl) _ _ (fun _ => rfl) h8)) ?_))))
  refine k_frz (z_lst (f := PV.bl) (fun _ => frz_sc _) _ y7) ?_
  refine k_set (ρ' := [some (eXv K q10), some (PV.lst false (List.map PV.bl y7))]) rfl ?_;refine s_seq (s_set (g_frz ?_));refine s_oB fun y9 h10 => (s_oB fun y11 h12 => (s_oB fun y13 h14 => (s_oB fun y15 h16 => (g_f (e_2 (e_nm rfl) (e_frz (e_A (e_cons (e_frz (e_A (e_cons (e_nm rfl) (e_cons rfl e_nil)) (o_isX (N := exN) (fun c hc => F_x_all_all.h c hc ("BadEntry" : Str) (by decide)) h10)) (frz_sc _)) (e_cons (e_frz (e_A (e_cons (e_nm rfl) (e_cons rfl e_nil)) (o_isX (N := exN) (fun c hc => F_x_all_all.h c hc ("NoExits" : Str) (by decide)) h12)) (frz_sc _)) (e_cons (e_frz (e_A (e_cons (e_nm rfl) (e_cons rfl e_nil)) (o_isX (N := exN) (fun c hc => F_x_all_all.h c hc ("BadExit" : Str) (by decide)) h14)) (frz_sc _)) e_nil))) (o_disL rfl rfl)) (z_lst (f := PV.bl) (fun _ => frz_sc _) _ [y9, y11, y13])) (o_cat (f := PV.bl) _ _ (fun _ => rfl) h16)) ?_))))
  refine k_frz (z_lst (f := PV.bl) (fun _ => frz_sc _) _ y15) ?_
  refine k_set (ρ' := [some (eXv K q10), some (PV.lst false (List.map PV.bl y15))]) rfl ?_;refine s_seq (s_set (g_frz ?_));refine s_oB fun y17 h18 => (s_oB fun y19 h20 => (s_oB fun y21 h22 => (s_oB fun y23 h24 => (g_f (e_2 (e_nm rfl) (e_frz (e_A (e_cons (e_frz (e_A (e_cons (e_nm rfl) (e_cons rfl e_nil)) (o_isX (N := exN) (fun c hc => F_x_all_all.h c hc ("Idle" : Str) (by decide)) h18)) (frz_sc _)) (e_cons (e_frz (e_A (e_cons (e_nm rfl) (e_cons rfl e_nil)) (o_isX (N := exN) (fun c hc => F_x_all_all.h c hc ("NoGate" : Str) (by decide)) h20)) (frz_sc _)) (e_cons (e_frz (e_A (e_cons (e_nm rfl) (e_cons rfl e_nil)) (o_isX (N := exN) (fun c hc => F_x_all_all.h c hc ("BadWay" : Str) (by decide)) h22)) (frz_sc _)) e_nil))) (o_disL rfl rfl)) (z_lst (f := PV.bl) (fun _ => frz_sc _) _ [y17, y19, y21])) (o_cat (f := PV.bl) _ _ (fun _ => rfl) h24)) ?_))))
  refine k_frz (z_lst (f := PV.bl) (fun _ => frz_sc _) _ y23) ?_
  refine k_set (ρ' := [some (eXv K q10), some (PV.lst false (List.map PV.bl y23))]) rfl ?_;refine s_seq (s_set (g_frz ?_));refine s_oB fun y25 h26 => (s_oB fun y27 h28 => (s_oB fun y29 h30 => (s_oB fun y31 h32 => (g_f (e_2 (e_nm rfl) (e_frz (e_A (e_cons (e_frz (e_A (e_cons (e_nm rfl) (e_cons rfl e_nil)) (o_isX (N := exN) (fun c hc => F_x_all_all.h c hc ("NotWhole" : Str) (by decide)) h26)) (frz_sc _)) (e_cons (e_frz (e_A (e_cons (e_nm rfl) (e_cons rfl e_nil)) (o_isX (N := exN) (fun c hc => F_x_all_all.h c hc ("BadPlace" : Str) (by decide)) h28)) (frz_sc _)) (e_cons (e_frz (e_A (e_cons (e_nm rfl) (e_cons rfl e_nil)) (o_isX (N := exN) (fun c hc => F_x_all_all.h c hc ("BadMark" : Str) (by decide)) h30)) (frz_sc _)) e_nil))) (o_disL rfl rfl)) (z_lst (f := PV.bl) (fun _ => frz_sc _) _ [y25, y27, y29])) (o_cat (f := PV.bl) _ _ (fun _ => rfl) h32)) ?_))))
  refine k_frz (z_lst (f := PV.bl) (fun _ => frz_sc _) _ y31) ?_
  refine k_set (ρ' := [some (eXv K q10), some (PV.lst false (List.map PV.bl y31))]) rfl ?_;refine s_seq (s_set (g_frz ?_));refine s_oB fun y33 h34 => (s_oB fun y35 h36 => (s_oB fun y37 h38 => (s_oB fun y39 h40 => (g_f (e_2 (e_nm rfl) (e_frz (e_A (e_cons (e_frz (e_A (e_cons (e_nm rfl) (e_cons rfl e_nil)) (o_isX (N := exN) (fun c hc => F_x_all_all.h c hc ("TwoMarks" : Str) (by decide)) h34)) (frz_sc _)) (e_cons (e_frz (e_A (e_cons (e_nm rfl) (e_cons rfl e_nil)) (o_isX (N := exN) (fun c hc => F_x_all_all.h c hc ("BadLength" : Str) (by decide)) h36)) (frz_sc _)) (e_cons (e_frz (e_A (e_cons (e_nm rfl) (e_cons rfl e_nil)) (o_isX (N := exN) (fun c hc => F_x_all_all.h c hc ("BadPrice" : Str) (by decide)) h38)) (frz_sc _)) e_nil))) (o_disL rfl rfl)) (z_lst (f := PV.bl) (fun _ => frz_sc _) _ [y33, y35, y37])) (o_cat (f := PV.bl) _ _ (fun _ => rfl) h40)) ?_))))
  refine k_frz (z_lst (f := PV.bl) (fun _ => frz_sc _) _ y39) ?_
  refine k_set (ρ' := [some (eXv K q10), some (PV.lst false (List.map PV.bl y39))]) rfl ?_;refine s_seq (s_set (g_frz ?_));refine s_oB fun y41 h42 => (s_oB fun y43 h44 => (s_oB fun y45 h46 => (s_oB fun y47 h48 => (g_f (e_2 (e_nm rfl) (e_frz (e_A (e_cons (e_frz (e_A (e_cons (e_nm rfl) (e_cons rfl e_nil)) (o_isX (N := exN) (fun c hc => F_x_all_all.h c hc ("BadWord" : Str) (by decide)) h42)) (frz_sc _)) (e_cons (e_frz (e_A (e_cons (e_nm rfl) (e_cons rfl e_nil)) (o_isX (N := exN) (fun c hc => F_x_all_all.h c hc ("OtherWeb" : Str) (by decide)) h44)) (frz_sc _)) (e_cons (e_frz (e_A (e_cons (e_nm rfl) (e_cons rfl e_nil)) (o_isX (N := exN) (fun c hc => F_x_all_all.h c hc ("TooMany" : Str) (by decide)) h46)) (frz_sc _)) e_nil))) (o_disL rfl rfl)) (z_lst (f := PV.bl) (fun _ => frz_sc _) _ [y41, y43, y45])) (o_cat (f := PV.bl) _ _ (fun _ => rfl) h48)) ?_))))
  refine k_frz (z_lst (f := PV.bl) (fun _ => frz_sc _) _ y47) ?_
  refine k_set (ρ' := [some (eXv K q10), some (PV.lst false (List.map PV.bl y47))]) rfl ?_;refine s_seq (s_set (g_frz ?_));refine s_oB fun y49 h50 => (s_oB fun y51 h52 => (s_oB fun y53 h54 => (s_oB fun y55 h56 => (g_f (e_2 (e_nm rfl) (e_frz (e_A (e_cons (e_frz (e_A (e_cons (e_nm rfl) (e_cons rfl e_nil)) (o_isX (N := exN) (fun c hc => F_x_all_all.h c hc ("Barred" : Str) (by decide)) h50)) (frz_sc _)) (e_cons (e_frz (e_A (e_cons (e_nm rfl) (e_cons rfl e_nil)) (o_isX (N := exN) (fun c hc => F_x_all_all.h c hc ("BadSeats" : Str) (by decide)) h52)) (frz_sc _)) (e_cons (e_frz (e_A (e_cons (e_nm rfl) (e_cons rfl e_nil)) (o_isX (N := exN) (fun c hc => F_x_all_all.h c hc ("BadName" : Str) (by decide)) h54)) (frz_sc _)) e_nil))) (o_disL rfl rfl)) (z_lst (f := PV.bl) (fun _ => frz_sc _) _ [y49, y51, y53])) (o_cat (f := PV.bl) _ _ (fun _ => rfl) h56)) ?_))))
  refine k_frz (z_lst (f := PV.bl) (fun _ => frz_sc _) _ y55) ?_
  refine k_set (ρ' := [some (eXv K q10), some (PV.lst false (List.map PV.bl y55))]) rfl ?_;refine s_seq (s_set (g_frz ?_));refine s_oB fun y57 h58 => (s_oB fun y59 h60 => (s_oB fun y61 h62 => (s_oB fun y63 h64 => (g_f (e_2 (e_nm rfl) (e_frz (e_A (e_cons (e_frz (e_A (e_cons (e_nm rfl) (e_cons rfl e_nil)) (o_isX (N := exN) (fun c hc => F_x_all_all.h c hc ("NoSeat" : Str) (by decide)) h58)) (frz_sc _)) (e_cons (e_frz (e_A (e_cons (e_nm rfl) (e_cons rfl e_nil)) (o_isX (N := exN) (fun c hc => F_x_all_all.h c hc ("BadEdit" : Str) (by decide)) h60)) (frz_sc _)) (e_cons (e_frz (e_A (e_cons (e_nm rfl) (e_cons rfl e_nil)) (o_isX (N := exN) (fun c hc => F_x_all_all.h c hc ("BadMenu" : Str) (by decide)) h62)) (frz_sc _)) e_nil))) (o_disL rfl rfl)) (z_lst (f := PV.bl) (fun _ => frz_sc _) _ [y57, y59, y61])) (o_cat (f := PV.bl) _ _ (fun _ => rfl) h64)) ?_))))
  refine k_frz (z_lst (f := PV.bl) (fun _ => frz_sc _) _ y63) ?_
  refine k_set (ρ' := [some (eXv K q10), some (PV.lst false (List.map PV.bl y63))]) rfl ?_;refine s_seq (s_set (g_frz ?_));refine s_oB fun y65 h66 => (s_oB fun y67 h68 => (s_oB fun y69 h70 => (s_oB fun y71 h72 => (g_f (e_2 (e_nm rfl) (e_frz (e_A (e_cons (e_frz (e_A (e_cons (e_nm rfl) (e_cons rfl e_nil)) (o_isX (N := exN) (fun c hc => F_x_all_all.h c hc ("TwiceInMenu" : Str) (by decide)) h66)) (frz_sc _)) (e_cons (e_frz (e_A (e_cons (e_nm rfl) (e_cons rfl e_nil)) (o_isX (N := exN) (fun c hc => F_x_all_all.h c hc ("BadDeed" : Str) (by decide)) h68)) (frz_sc _)) (e_cons (e_frz (e_A (e_cons (e_nm rfl) (e_cons rfl e_nil)) (o_isX (N := exN) (fun c hc => F_x_all_all.h c hc ("BadLine" : Str) (by decide)) h70)) (frz_sc _)) e_nil))) (o_disL rfl rfl)) (z_lst (f := PV.bl) (fun _ => frz_sc _) _ [y65, y67, y69])) (o_cat (f := PV.bl) _ _ (fun _ => rfl) h72)) ?_))))
  refine k_frz (z_lst (f := PV.bl) (fun _ => frz_sc _) _ y71) ?_
  refine k_set (ρ' := [some (eXv K q10), some (PV.lst false (List.map PV.bl y71))]) rfl ?_;refine s_last (s_ret (g_v (e_nm rfl) rfl ?_));exact k_rt (And.intro rfl rfl)
@[irreducible] def T_law (q15 : (List Int)) : FT (Unit) (Unit) Bool :=
  runE (M := Unit) (X := Unit) (callT (T_law_pool q15) (fun m1 => ()) fun m1 a2 => (oB (rg1 27) fun r3 => (TS.bind (forT (r3 : List Int) (a2 : (((List Int) × Int × Int × Int × Int))) fun x6 l5 => (callT (T_law_draw l5 ((2 * ((10 : Int) ^ (Int.toNat 30))) - 1)) (fun m14 => ()) fun m14 a15 => (letT ((a15 - ((10 : Int) ^ (Int.toNat 30))) + 1) fun v16 : Int => (callT (T_law_draw m14 4) (fun m17 => ()) fun m17 a18 => (oB (rg1 a18) fun r19 => (compT (r19 : List Int) (m17 : (((List Int) × Int × Int × Int × Int))) (fun x22 l21 => (callT (T_law_draw l21 ((10 : Int) ^ (Int.toNat 30))) (fun m23 => ()) fun m23 a24 => (.rt m23 (some a24)))) fun l25 ys26 => (callT (T_law_draw l25 6) (fun m27 => ()) fun m27 a28 => (oB (atI ["save", "give", "a", "seat", "", "use"] a28) fun y29 => (callT (T_law_made_v3 x6 v16 ys26 y29) (fun m31 => ()) fun m31 a32 => (oB (neP a32.2.1 a32.2.2) fun y33 => (oB (if y33 = true then some true else (Option.bind (isXT exN a32.1) fun y35 => (Option.bind (if (!y35) = true then some true else (Option.bind (isXT exN a32.1) fun y37 => (some (!y37)))) fun b39 => (some b39)))) fun b41 => (if b41 = true then (.rt () false) else (callT (T_law_kinds a32.1) (fun m43 => ()) fun m43 a44 => (oB (rg1 27) fun r45 => (compT (r45 : List Int) (() : (Unit)) (fun x48 l47 => (.rt () (some (decide ((x48 : Int) = x6))))) fun l49 ys50 => (if (!(decide ((a44 : (List Bool)) = ys50))) = true then (.rt () false) else (.nx m27))))))))))))))))) fun l51 => (.rt () true))))
theorem w_law [F_x_all_all K] [F_x_seat_SeatError K] [F_x_val_ValueError K] {a1 : Addr} {q15 : (List Int)} : SimF K (m_law K [(PV.lsk a1 (List.map PV.int q15))]) (T_law q15) PV.bl (fun m => [(PV.lsk a1 (List.map PV.int q15))]) (fun m os => os = [(PV.lsk a1 (List.map PV.int q15))]) :=
  by
  unfold T_law m_law;refine f_E' (ρ0 := [some (PV.lsk a1 (List.map PV.int q15)), none, none, none, none, none, none, none, none, none]) (by rfl) (by rfl) ?_
  refine s_seq (s_set (g_call (g_vl (g_v (e_nm rfl) rfl ?_))));refine k_vl (g_nilAg (k_vlB (k_call (fun m1 => [some (PV.lsk a1 (List.map PV.int q15)), none, none, none, none, none, none, none, none, none]) rfl w_law_pool (fun _ => rfl) (fun m1 a2 => ?_) (fun m1 _ hx => by first | (cases hx; exact rfl) | trivial))))
  refine k_set (ρ' := [some (PV.lsk a1 (List.map PV.int q15)), some (PV.lst true [(PV.lsk a1 (List.map PV.int a2.1)), (PV.int a2.2.1), (PV.int a2.2.2.1), (PV.int a2.2.2.2.1), (PV.int a2.2.2.2.2)]), none, none, none, none, none, none, none, none]) rfl ?_
  refine s_seq (s_for (g_itA (g_cons (g_v rfl rfl ?_))));refine k_cons (g_nil (k_consB ?_));refine s_oB fun r3 h4 => k_itA (o_rng1 h4) ?_
  refine k_for (E1 := (fun (l5 : (((List Int) × Int × Int × Int × Int))) (ρ : PEnv) => ∃ o7 o8 o9 o10 o11 o12 o13 : Option PV, ρ = [some (PV.lsk a1 (List.map PV.int q15)), some (PV.lst true [(PV.lsk a1 (List.map PV.int l5.1)), (PV.int l5.2.1), (PV.int l5.2.2.1), (PV.int l5.2.2.2.1), (PV.int l5.2.2.2.2)]), o7, o8, o9, none, o10, o11, o12, o13])) (f := PV.int) rfl ⟨_, _, _, _, _, _, _, rfl⟩ (fun x6 l5 rr hE => ?_) (fun l51 rr hE => ?_)
  · obtain ⟨o7, o8, o9, o10, o11, o12, o13, rfl⟩ := hE;refine ⟨[some (PV.lsk a1 (List.map PV.int q15)), some (PV.lst true [(PV.lsk a1 (List.map PV.int l5.1)), (PV.int l5.2.1), (PV.int l5.2.2.1), (PV.int l5.2.2.2.1), (PV.int l5.2.2.2.2)]), some (PV.int x6), o8, o9, none, o10, o11, o12, o13], rfl, ?_⟩
    refine s_seq (s_set (g_frz (g_2 (g_2s (g_frz (g_call (g_pl rfl ?_)))))));refine g_vl (g_v (e_2s (e_2s rfl (e_2s rfl rfl (o_powL _ _ (by decide))) (o_mulR _ _ (by decide))) rfl (o_sub _ _)) rfl ?_)
    refine k_vl (g_nilAg (k_vlB (k_vlB ?_)));refine k_call (fun m14 => [some (PV.lsk a1 (List.map PV.int q15)), some (PV.lst true [(PV.lsk a1 (List.map PV.int m14.1)), (PV.int m14.2.1), (PV.int m14.2.2.1), (PV.int m14.2.2.2.1), (PV.int m14.2.2.2.2)]), some (PV.int x6), o8, o9, none, o10, o11, o12, o13]) rfl w_law_draw (fun _ => rfl) (fun m14 a15 => ?_) (fun m14 _ hx => by first | (cases hx; exact rfl) | trivial)
    refine k_frz (frz_sc _) ?_;refine k_2a (g_v (e_2s rfl rfl (o_powL _ _ (by decide))) rfl ?_)
    refine k_op2s (o_sub _ _) ?_;refine k_2a (g_v rfl rfl ?_);refine k_op2 (o_add _ _) ?_;refine k_frz (frz_sc _) ?_;refine k_setL (v := ((a15 - ((10 : Int) ^ (Int.toNat 30))) + 1)) PV.int (fun v16 => [some (PV.lsk a1 (List.map PV.int q15)), some (PV.lst true [(PV.lsk a1 (List.map PV.int m14.1)), (PV.int m14.2.1), (PV.int m14.2.2.1), (PV.int m14.2.2.2.1), (PV.int m14.2.2.2.2)]), some (PV.int x6), some (PV.int v16), o9, none, o10, o11, o12, o13]) (fun _ => rfl) fun v16 => ?_
    refine s_seq (s_set (g_frz (g_A (g_cons (g_frz (g_comp (g_itA (g_cons (g_frz (g_call (g_pl rfl ?_)))))))))));refine g_vl (g_v rfl rfl ?_);refine k_vl (g_nilAg (k_vlB (k_vlB ?_)))
    refine k_call (fun m17 => [some (PV.lsk a1 (List.map PV.int q15)), some (PV.lst true [(PV.lsk a1 (List.map PV.int m17.1)), (PV.int m17.2.1), (PV.int m17.2.2.1), (PV.int m17.2.2.2.1), (PV.int m17.2.2.2.2)]), some (PV.int x6), some (PV.int v16), o9, none, o10, o11, o12, o13]) rfl w_law_draw (fun _ => rfl) (fun m17 a18 => ?_) (fun m17 _ hx => by first | (cases hx; exact rfl) | trivial)
    refine k_frz (frz_sc _) ?_;refine k_cons (g_nil (k_consB ?_));refine s_oB fun r19 h20 => k_itA (o_rng1 h20) ?_
    refine k_comp (f := PV.int) (fy := PV.int) (fun l21 => [some (PV.lsk a1 (List.map PV.int q15)), some (PV.lst true [(PV.lsk a1 (List.map PV.int l21.1)), (PV.int l21.2.1), (PV.int l21.2.2.1), (PV.int l21.2.2.2.1), (PV.int l21.2.2.2.2)]), some (PV.int x6), some (PV.int v16), o9, none, o10, o11, o12, o13]) rfl rfl (fun x22 l21 => ⟨[some (PV.lsk a1 (List.map PV.int q15)), some (PV.lst true [(PV.lsk a1 (List.map PV.int l21.1)), (PV.int l21.2.1), (PV.int l21.2.2.1), (PV.int l21.2.2.2.1), (PV.int l21.2.2.2.2)]), some (PV.int x6), some (PV.int v16), o9, some (PV.int x22), o10, o11, o12, o13], rfl, (g_item' ?_)⟩) (fun l25 => [some (PV.lsk a1 (List.map PV.int q15)), some (PV.lst true [(PV.lsk a1 (List.map PV.int l25.1)), (PV.int l25.2.1), (PV.int l25.2.2.1), (PV.int l25.2.2.2.1), (PV.int l25.2.2.2.2)]), some (PV.int x6), some (PV.int v16), o9, none, o10, o11, o12, o13]) (fun _ => rfl) (fun l25 ys26 => ?_)
    · refine g_yes (k_itY (g_frz (g_call (g_pl rfl ?_))));refine g_vl (g_v (e_2s rfl rfl (o_powL _ _ (by decide))) rfl ?_)
      refine k_vl (g_nilAg (k_vlB (k_vlB ?_)));refine k_call (fun m23 => [some (PV.lsk a1 (List.map PV.int q15)), some (PV.lst true [(PV.lsk a1 (List.map PV.int m23.1)), (PV.int m23.2.1), (PV.int m23.2.2.1), (PV.int m23.2.2.2.1), (PV.int m23.2.2.2.2)]), some (PV.int x6), some (PV.int v16), o9, some (PV.int x22), o10, o11, o12, o13]) rfl w_law_draw (fun _ => rfl) (fun m23 a24 => ?_) (fun m23 _ hx => by first | (cases hx; exact trivial) | trivial)
      refine k_frz (frz_sc _) ?_;exact k_itE (fy := PV.int) (y := a24) (And.intro rfl rfl)
    · refine k_frz (z_lst (f := PV.int) (fun _ => frz_sc _) _ ys26) ?_
      refine k_cons (g_nil (k_consB (k_opL (o_tupL _ (fun _ => rfl)) ?_)))
      refine k_frz (frz_tup _) ?_;refine k_set (ρ' := [some (PV.lsk a1 (List.map PV.int q15)), some (PV.lst true [(PV.lsk a1 (List.map PV.int l25.1)), (PV.int l25.2.1), (PV.int l25.2.2.1), (PV.int l25.2.2.2.1), (PV.int l25.2.2.2.2)]), some (PV.int x6), some (PV.int v16), some (PV.tup (List.map PV.int ys26)), none, o10, o11, o12, o13]) rfl ?_
      refine s_seq (s_set (g_2 (g_frz (g_f (e_A (e_cons rfl (e_cons rfl (e_cons rfl (e_cons rfl (e_cons rfl (e_cons rfl e_nil)))))) (o_disL rfl rfl)) ?_))));refine k_frz (z_lst (f := eS) (fun _ => frz_sc _) _ ["save", "give", "a", "seat", "", "use"]) ?_
      refine k_2a (g_frz (g_call (g_pl rfl ?_)));refine g_vl (g_v rfl rfl ?_);refine k_vl (g_nilAg (k_vlB (k_vlB ?_)));refine k_call (fun m27 => [some (PV.lsk a1 (List.map PV.int q15)), some (PV.lst true [(PV.lsk a1 (List.map PV.int m27.1)), (PV.int m27.2.1), (PV.int m27.2.2.1), (PV.int m27.2.2.2.1), (PV.int m27.2.2.2.2)]), some (PV.int x6), some (PV.int v16), some (PV.tup (List.map PV.int ys26)), none, o10, o11, o12, o13]) rfl w_law_draw (fun _ => rfl) (fun m27 a28 => ?_) (fun m27 _ hx => by first | (cases hx; exact rfl) | trivial)
      refine k_frz (frz_sc _) ?_;refine s_oB fun y29 h30 => (k_op2 (o_ixL false h30) ?_)
      refine k_set (ρ' := [some (PV.lsk a1 (List.map PV.int q15)), some (PV.lst true [(PV.lsk a1 (List.map PV.int m27.1)), (PV.int m27.2.1), (PV.int m27.2.2.1), (PV.int m27.2.2.2.1), (PV.int m27.2.2.2.2)]), some (PV.int x6), some (PV.int v16), some (PV.tup (List.map PV.int ys26)), none, some (eS y29), o11, o12, o13]) rfl ?_
      refine s_seq (s_asg (g_frz (g_call (g_vl (g_v (e_nm rfl) rfl ?_)))));refine k_vl (g_vl (g_v (e_nm rfl) rfl ?_));refine k_vl (g_vl (g_v (e_nm rfl) rfl ?_))
      refine k_vl (g_vl (g_v (e_nm rfl) rfl ?_));refine k_vl (g_nilAg (k_vlB (k_vlB (k_vlB (k_vlB ?_)))));refine k_call (fun m31 => [some (PV.lsk a1 (List.map PV.int q15)), some (PV.lst true [(PV.lsk a1 (List.map PV.int m27.1)), (PV.int m27.2.1), (PV.int m27.2.2.1), (PV.int m27.2.2.2.1), (PV.int m27.2.2.2.2)]), some (PV.int x6), some (PV.int v16), some (PV.tup (List.map PV.int ys26)), none, some (eS y29), o11, o12, o13]) rfl w_law_made_v3 (fun _ => rfl) (fun m31 a32 => ?_) (fun m31 _ hx => by first | (cases hx; exact rfl) | trivial)
      refine k_frz (frz_tup _) ?_;refine k_asg (ρ' := [some (PV.lsk a1 (List.map PV.int q15)), some (PV.lst true [(PV.lsk a1 (List.map PV.int m27.1)), (PV.int m27.2.1), (PV.int m27.2.2.1), (PV.int m27.2.2.2.1), (PV.int m27.2.2.2.2)]), some (PV.int x6), some (PV.int v16), some (PV.tup (List.map PV.int ys26)), none, some (eS y29), some (eXv K a32.1), some a32.2.1, some a32.2.2]) rfl ?_
      refine s_seq (s_if ?_);refine s_oB fun y33 h34 => (s_oB fun b41 h42 => (g_at (e_orP (e_2b (e_nm rfl) (e_nm rfl) h34) (q0 fun y35 h36 => (q0 fun b39 h40 => (q20 (e_orP (e_not (e_tru (e_frz (e_A (e_cons (e_nm rfl) (e_cons rfl e_nil)) (o_isXT (N := exN) F_x_seat_SeatError.h h36)) (frz_sc _)) rfl)) (q0 fun y37 h38 => (q20 (e_not (e_tru (e_frz (e_A (e_cons (e_nm rfl) (e_cons rfl e_nil)) (o_isXy (N := exN) F_x_val_ValueError.h h38)) (frz_sc _)) rfl)))) h40)))) h42) ?_))
      refine k_ifx (fun _ => ?_) (fun _ => ?_)
      · refine s_last (s_ret (g_v rfl rfl ?_));exact k_rt (And.intro rfl rfl)
      · refine s_skip (s_last (s_if (g_2b (g_frz (g_call (g_vl (g_v (e_nm rfl) rfl ?_)))))));refine k_vl (g_nilAg (k_vlB ?_));refine k_call (fun m43 => [some (PV.lsk a1 (List.map PV.int q15)), some (PV.lst true [(PV.lsk a1 (List.map PV.int m27.1)), (PV.int m27.2.1), (PV.int m27.2.2.1), (PV.int m27.2.2.2.1), (PV.int m27.2.2.2.2)]), some (PV.int x6), some (PV.int v16), some (PV.tup (List.map PV.int ys26)), none, some (eS y29), some (eXv K a32.1), some a32.2.1, some a32.2.2]) rfl w_law_kinds (fun _ => rfl) (fun m43 a44 => ?_) (fun m43 _ hx => by first | (cases hx; exact rfl) | trivial)
        refine k_frz (z_lst (f := PV.bl) (fun _ => frz_sc _) _ a44) ?_
        refine k_2a (g_frz (g_comp (g_itA (g_cons (g_v rfl rfl ?_)))));refine k_cons (g_nil (k_consB ?_));refine s_oB fun r45 h46 => k_itA (o_rng1 h46) ?_
        refine k_comp (f := PV.int) (fy := PV.bl) (fun l47 => [some (PV.lsk a1 (List.map PV.int q15)), some (PV.lst true [(PV.lsk a1 (List.map PV.int m27.1)), (PV.int m27.2.1), (PV.int m27.2.2.1), (PV.int m27.2.2.2.1), (PV.int m27.2.2.2.2)]), some (PV.int x6), some (PV.int v16), some (PV.tup (List.map PV.int ys26)), none, some (eS y29), some (eXv K a32.1), some a32.2.1, some a32.2.2]) rfl rfl (fun x48 l47 => ⟨[some (PV.lsk a1 (List.map PV.int q15)), some (PV.lst true [(PV.lsk a1 (List.map PV.int m27.1)), (PV.int m27.2.1), (PV.int m27.2.2.1), (PV.int m27.2.2.2.1), (PV.int m27.2.2.2.2)]), some (PV.int x6), some (PV.int v16), some (PV.tup (List.map PV.int ys26)), some (PV.int x48), some (eS y29), some (eXv K a32.1), some a32.2.1, some a32.2.2], rfl, (g_item' ?_)⟩) (fun l49 => [some (PV.lsk a1 (List.map PV.int q15)), some (PV.lst true [(PV.lsk a1 (List.map PV.int m27.1)), (PV.int m27.2.1), (PV.int m27.2.2.1), (PV.int m27.2.2.2.1), (PV.int m27.2.2.2.2)]), some (PV.int x6), some (PV.int v16), some (PV.tup (List.map PV.int ys26)), none, some (eS y29), some (eXv K a32.1), some a32.2.1, some a32.2.2]) (fun _ => rfl) (fun l49 ys50 => ?_)
        · refine g_yes (k_itY (g_v (e_2m (e_nm rfl) (e_nm rfl) ((Eq2.int 6).eqP x48 x6)) rfl ?_));exact k_itE (fy := PV.bl) (y := (decide ((x48 : Int) = x6))) (And.intro rfl rfl)
        · refine k_frz (z_lst (f := PV.bl) (fun _ => frz_sc _) _ ys50) ?_
          refine k_op2b (((Eq2.bl 5).ll false false).neP a44 ys50) ?_;refine k_ifx (fun _ => ?_) (fun _ => ?_)
          · refine s_last (s_ret (g_v rfl rfl ?_));exact k_rt (And.intro rfl rfl)
          · exact s_skip (s_end ⟨_, _, _, _, _, _, _, rfl⟩)
  · obtain ⟨o52, o53, o54, o55, o56, o57, o58, rfl⟩ := hE;refine s_last (s_ret (g_v rfl rfl ?_));exact k_rt (And.intro rfl rfl)
end K86
end
end
section
set_option maxHeartbeats 0
namespace K86
open PySem PySem.Spec PyProof.Rows L2 RL SP TL TP PW
variable {n : Int} {sv : List Int} {w : String}
theorem made_0 : T_law_made_v3 0 n sv w = .ok () ((⟨"BadPlaces", ["count"], [(PV.int n)]⟩ : TX), (PV.int n), (PV.int n)) := by
  unfold T_law_made_v3 T_law_first_v2
  kernel_rfl
theorem made_1 : T_law_made_v3 1 n sv w = .ok () ((⟨"BadEdges", ["count"], [(PV.int n)]⟩ : TX), (PV.int n), (PV.int n)) := by
  unfold T_law_made_v3 T_law_first_v2
  kernel_rfl
theorem made_2 : T_law_made_v3 2 n sv w = .ok () ((⟨"BadEdge", ["index"], [(PV.int n)]⟩ : TX), (PV.int n), (PV.int n)) := by
  unfold T_law_made_v3 T_law_first_v2
  kernel_rfl
theorem made_3 : T_law_made_v3 3 n sv w = .ok () ((⟨"BadEntry", ["place"], [(PV.int n)]⟩ : TX), (PV.int n), (PV.int n)) := by
  unfold T_law_made_v3 T_law_first_v2
  kernel_rfl
theorem made_4 : T_law_made_v3 4 n sv w = .ok () ((⟨"NoExits", [], []⟩ : TX), (PV.int 0), (PV.int 0)) := by
  unfold T_law_made_v3 T_law_first_v2
  kernel_rfl
theorem made_5 : T_law_made_v3 5 n sv w = .ok () ((⟨"BadExit", ["place"], [(PV.int n)]⟩ : TX), (PV.int n), (PV.int n)) := by
  unfold T_law_made_v3 T_law_first_v2
  kernel_rfl
theorem made_6 : T_law_made_v3 6 n sv w = .ok () ((⟨"Idle", ["place"], [(PV.int n)]⟩ : TX), (PV.int n), (PV.int n)) := by
  unfold T_law_made_v3 T_law_first_v2
  kernel_rfl
theorem made_7 : T_law_made_v3 7 n sv w = .ok () ((⟨"NoGate", ["number"], [(PV.int n)]⟩ : TX), (PV.int n), (PV.int n)) := by
  unfold T_law_made_v3 T_law_first_v2
  kernel_rfl
theorem made_8 : T_law_made_v3 8 n sv w = .ok () ((⟨"BadWay", ["index"], [(PV.int n)]⟩ : TX), (PV.int n), (PV.int n)) := by
  unfold T_law_made_v3 T_law_first_v2
  kernel_rfl
theorem made_9 : T_law_made_v3 9 n sv w = .ok () ((⟨"NotWhole", ["place"], [(PV.int n)]⟩ : TX), (PV.int n), (PV.int n)) := by
  unfold T_law_made_v3 T_law_second
  kernel_rfl
theorem made_10 : T_law_made_v3 10 n sv w = .ok () ((⟨"BadPlace", ["number"], [(PV.int n)]⟩ : TX), (PV.int n), (PV.int n)) := by
  unfold T_law_made_v3 T_law_second
  kernel_rfl
theorem made_11 : T_law_made_v3 11 n sv w = .ok () ((⟨"BadMark", ["number"], [(PV.int n)]⟩ : TX), (PV.int n), (PV.int n)) := by
  unfold T_law_made_v3 T_law_second
  kernel_rfl
theorem made_12 : T_law_made_v3 12 n sv w = .ok () ((⟨"TwoMarks", ["number"], [(PV.int n)]⟩ : TX), (PV.int n), (PV.int n)) := by
  unfold T_law_made_v3 T_law_second
  kernel_rfl
theorem made_13 : T_law_made_v3 13 n sv w = .ok () ((⟨"BadLength", ["count"], [(PV.int n)]⟩ : TX), (PV.int n), (PV.int n)) := by
  unfold T_law_made_v3 T_law_second
  kernel_rfl
theorem made_14 : T_law_made_v3 14 n sv w = .ok () ((⟨"BadPrice", ["gate"], [(PV.int n)]⟩ : TX), (PV.int n), (PV.int n)) := by
  unfold T_law_made_v3 T_law_second
  kernel_rfl
theorem made_15 : T_law_made_v3 15 n sv w = .ok () ((⟨"BadWord", ["word"], [(eS w)]⟩ : TX), (eS w), (eS w)) := by
  unfold T_law_made_v3 T_law_second
  kernel_rfl
theorem made_16 : T_law_made_v3 16 n sv w = .ok () ((⟨"OtherWeb", [], []⟩ : TX), (PV.int 0), (PV.int 0)) := by
  unfold T_law_made_v3 T_law_second
  kernel_rfl
theorem made_17 : T_law_made_v3 17 n sv w = .ok () ((⟨"TooMany", ["count"], [(PV.int n)]⟩ : TX), (PV.int n), (PV.int n)) := by
  unfold T_law_made_v3 T_law_second
  kernel_rfl
theorem made_18 : T_law_made_v3 18 n sv w = .ok () ((⟨"Barred", ["index"], [(PV.int n)]⟩ : TX), (PV.int n), (PV.int n)) := by
  unfold T_law_made_v3 T_law_third_v1
  kernel_rfl
theorem made_19 : T_law_made_v3 19 n sv w = .ok () ((⟨"BadSeats", ["count"], [(PV.int n)]⟩ : TX), (PV.int n), (PV.int n)) := by
  unfold T_law_made_v3 T_law_third_v1
  kernel_rfl
theorem made_20 : T_law_made_v3 20 n sv w = .ok () ((⟨"BadName", ["name"], [(eS w)]⟩ : TX), (eS w), (eS w)) := by
  unfold T_law_made_v3 T_law_third_v1
  kernel_rfl
theorem made_21 : T_law_made_v3 21 n sv w = .ok () ((⟨"NoSeat", ["name"], [(eS w)]⟩ : TX), (eS w), (eS w)) := by
  unfold T_law_made_v3 T_law_third_v1
  kernel_rfl
theorem made_22 : T_law_made_v3 22 n sv w = .ok () ((⟨"BadEdit", ["change"], [(PV.tup (List.map PV.int sv))]⟩ : TX), (PV.tup (List.map PV.int sv)), (PV.tup (List.map PV.int sv))) := by
  unfold T_law_made_v3 T_law_third_v1
  kernel_rfl
theorem made_23 : T_law_made_v3 23 n sv w = .ok () ((⟨"BadMenu", ["count"], [(PV.int n)]⟩ : TX), (PV.int n), (PV.int n)) := by
  unfold T_law_made_v3 T_law_third_v1
  kernel_rfl
theorem made_24 : T_law_made_v3 24 n sv w = .ok () ((⟨"TwiceInMenu", ["index"], [(PV.int n)]⟩ : TX), (PV.int n), (PV.int n)) := by
  unfold T_law_made_v3 T_law_third_v1
  kernel_rfl
theorem made_25 : T_law_made_v3 25 n sv w = .ok () ((⟨"BadDeed", ["index"], [(PV.int n)]⟩ : TX), (PV.int n), (PV.int n)) := by
  unfold T_law_made_v3 T_law_third_v1
  kernel_rfl
theorem made_26 : T_law_made_v3 26 n sv w = .ok () ((⟨"BadLine", ["line"], [(PV.int n)]⟩ : TX), (PV.int n), (PV.int n)) := by
  unfold T_law_made_v3 T_law_third_v1
  kernel_rfl
end K86
end
section
set_option maxHeartbeats 0
namespace K86
open PySem PySem.Spec PyProof.Rows L2 RL SP TL TP PW
variable {n : Int} {sv : List Int} {w : String}
theorem ne_n (i : Int) : neP (PV.int i) (PV.int i) = some false := by
  have := neP_at (a := .i i) (b := .i i) rfl rfl
  show neP (eAt (.i i)) (eAt (.i i)) = _
  rw [this]; simp
theorem ne_w (hw : PyData.strOk (w : Str) = true) : neP (eS w) (eS w) = some false := by
  have := neP_at (a := .s (w : Str)) (b := .s (w : Str)) hw hw
  show neP (eAt (.s (w : Str))) (eAt (.s (w : Str))) = _
  rw [this]; simp
theorem ints_ok (xs : List Int) : (xs.map At.i).all At.ok = true := by
  rw [List.all_map, List.all_eq_true];exact fun _ _ => rfl
theorem ne_t (xs : List Int) : neP (PV.tup (List.map PV.int xs)) (PV.tup (List.map PV.int xs)) = some false := by
  have e : PV.tup (List.map PV.int xs) = .tup ((xs.map At.i).map eAt) := by rw [List.map_map]; rfl
  rw [e, neP_row (ints_ok xs) (ints_ok xs)];simp
structure MkE (k : Nat) (n : Int) (sv : List Int) (w : String) (r : TX × PV × PV) : Prop where
  mde : T_law_made_v3 k n sv w = .ok () r
  ne : neP r.2.1 r.2.2 = some false
  is : isXT exN r.1 = some true
  kd : T_law_kinds r.1 = .ok () ((rngL 0 27).map fun x => decide ((x : Int) = (k : Int)))
theorem kinds_0 {vs : List PV} : T_law_kinds (⟨"BadPlaces", ["count"], vs⟩ : TX) = .ok () ((rngL 0 27).map fun x => decide ((x : Int) = ((0 : Nat) : Int))) := by
  unfold T_law_kinds
  kernel_rfl
theorem is_0 {vs : List PV} : isXT exN (⟨"BadPlaces", ["count"], vs⟩ : TX) = some true := by kernel_rfl
theorem kinds_1 {vs : List PV} : T_law_kinds (⟨"BadEdges", ["count"], vs⟩ : TX) = .ok () ((rngL 0 27).map fun x => decide ((x : Int) = ((1 : Nat) : Int))) := by
  unfold T_law_kinds
  kernel_rfl
theorem is_1 {vs : List PV} : isXT exN (⟨"BadEdges", ["count"], vs⟩ : TX) = some true := by kernel_rfl
theorem kinds_2 {vs : List PV} : T_law_kinds (⟨"BadEdge", ["index"], vs⟩ : TX) = .ok () ((rngL 0 27).map fun x => decide ((x : Int) = ((2 : Nat) : Int))) := by
  unfold T_law_kinds
  kernel_rfl
theorem is_2 {vs : List PV} : isXT exN (⟨"BadEdge", ["index"], vs⟩ : TX) = some true := by kernel_rfl
theorem kinds_3 {vs : List PV} : T_law_kinds (⟨"BadEntry", ["place"], vs⟩ : TX) = .ok () ((rngL 0 27).map fun x => decide ((x : Int) = ((3 : Nat) : Int))) := by
  unfold T_law_kinds
  kernel_rfl
theorem is_3 {vs : List PV} : isXT exN (⟨"BadEntry", ["place"], vs⟩ : TX) = some true := by kernel_rfl
theorem kinds_4 {vs : List PV} : T_law_kinds (⟨"NoExits", [], vs⟩ : TX) = .ok () ((rngL 0 27).map fun x => decide ((x : Int) = ((4 : Nat) : Int))) := by
  unfold T_law_kinds
  kernel_rfl
theorem is_4 {vs : List PV} : isXT exN (⟨"NoExits", [], vs⟩ : TX) = some true := by kernel_rfl
theorem kinds_5 {vs : List PV} : T_law_kinds (⟨"BadExit", ["place"], vs⟩ : TX) = .ok () ((rngL 0 27).map fun x => decide ((x : Int) = ((5 : Nat) : Int))) := by
  unfold T_law_kinds
  kernel_rfl
theorem is_5 {vs : List PV} : isXT exN (⟨"BadExit", ["place"], vs⟩ : TX) = some true := by kernel_rfl
theorem kinds_6 {vs : List PV} : T_law_kinds (⟨"Idle", ["place"], vs⟩ : TX) = .ok () ((rngL 0 27).map fun x => decide ((x : Int) = ((6 : Nat) : Int))) := by
  unfold T_law_kinds
  kernel_rfl
theorem is_6 {vs : List PV} : isXT exN (⟨"Idle", ["place"], vs⟩ : TX) = some true := by kernel_rfl
theorem kinds_7 {vs : List PV} : T_law_kinds (⟨"NoGate", ["number"], vs⟩ : TX) = .ok () ((rngL 0 27).map fun x => decide ((x : Int) = ((7 : Nat) : Int))) := by
  unfold T_law_kinds
  kernel_rfl
theorem is_7 {vs : List PV} : isXT exN (⟨"NoGate", ["number"], vs⟩ : TX) = some true := by kernel_rfl
theorem kinds_8 {vs : List PV} : T_law_kinds (⟨"BadWay", ["index"], vs⟩ : TX) = .ok () ((rngL 0 27).map fun x => decide ((x : Int) = ((8 : Nat) : Int))) := by
  unfold T_law_kinds
  kernel_rfl
theorem is_8 {vs : List PV} : isXT exN (⟨"BadWay", ["index"], vs⟩ : TX) = some true := by kernel_rfl
theorem kinds_9 {vs : List PV} : T_law_kinds (⟨"NotWhole", ["place"], vs⟩ : TX) = .ok () ((rngL 0 27).map fun x => decide ((x : Int) = ((9 : Nat) : Int))) := by
  unfold T_law_kinds
  kernel_rfl
theorem is_9 {vs : List PV} : isXT exN (⟨"NotWhole", ["place"], vs⟩ : TX) = some true := by kernel_rfl
theorem kinds_10 {vs : List PV} : T_law_kinds (⟨"BadPlace", ["number"], vs⟩ : TX) = .ok () ((rngL 0 27).map fun x => decide ((x : Int) = ((10 : Nat) : Int))) := by
  unfold T_law_kinds
  kernel_rfl
theorem is_10 {vs : List PV} : isXT exN (⟨"BadPlace", ["number"], vs⟩ : TX) = some true := by kernel_rfl
theorem kinds_11 {vs : List PV} : T_law_kinds (⟨"BadMark", ["number"], vs⟩ : TX) = .ok () ((rngL 0 27).map fun x => decide ((x : Int) = ((11 : Nat) : Int))) := by
  unfold T_law_kinds
  kernel_rfl
theorem is_11 {vs : List PV} : isXT exN (⟨"BadMark", ["number"], vs⟩ : TX) = some true := by kernel_rfl
theorem kinds_12 {vs : List PV} : T_law_kinds (⟨"TwoMarks", ["number"], vs⟩ : TX) = .ok () ((rngL 0 27).map fun x => decide ((x : Int) = ((12 : Nat) : Int))) := by
  unfold T_law_kinds
  kernel_rfl
theorem is_12 {vs : List PV} : isXT exN (⟨"TwoMarks", ["number"], vs⟩ : TX) = some true := by kernel_rfl
theorem kinds_13 {vs : List PV} : T_law_kinds (⟨"BadLength", ["count"], vs⟩ : TX) = .ok () ((rngL 0 27).map fun x => decide ((x : Int) = ((13 : Nat) : Int))) := by
  unfold T_law_kinds
  kernel_rfl
theorem is_13 {vs : List PV} : isXT exN (⟨"BadLength", ["count"], vs⟩ : TX) = some true := by kernel_rfl
theorem kinds_14 {vs : List PV} : T_law_kinds (⟨"BadPrice", ["gate"], vs⟩ : TX) = .ok () ((rngL 0 27).map fun x => decide ((x : Int) = ((14 : Nat) : Int))) := by
  unfold T_law_kinds
  kernel_rfl
theorem is_14 {vs : List PV} : isXT exN (⟨"BadPrice", ["gate"], vs⟩ : TX) = some true := by kernel_rfl
theorem kinds_15 {vs : List PV} : T_law_kinds (⟨"BadWord", ["word"], vs⟩ : TX) = .ok () ((rngL 0 27).map fun x => decide ((x : Int) = ((15 : Nat) : Int))) := by
  unfold T_law_kinds
  kernel_rfl
theorem is_15 {vs : List PV} : isXT exN (⟨"BadWord", ["word"], vs⟩ : TX) = some true := by kernel_rfl
theorem kinds_16 {vs : List PV} : T_law_kinds (⟨"OtherWeb", [], vs⟩ : TX) = .ok () ((rngL 0 27).map fun x => decide ((x : Int) = ((16 : Nat) : Int))) := by
  unfold T_law_kinds
  kernel_rfl
theorem is_16 {vs : List PV} : isXT exN (⟨"OtherWeb", [], vs⟩ : TX) = some true := by kernel_rfl
theorem kinds_17 {vs : List PV} : T_law_kinds (⟨"TooMany", ["count"], vs⟩ : TX) = .ok () ((rngL 0 27).map fun x => decide ((x : Int) = ((17 : Nat) : Int))) := by
  unfold T_law_kinds
  kernel_rfl
theorem is_17 {vs : List PV} : isXT exN (⟨"TooMany", ["count"], vs⟩ : TX) = some true := by kernel_rfl
theorem kinds_18 {vs : List PV} : T_law_kinds (⟨"Barred", ["index"], vs⟩ : TX) = .ok () ((rngL 0 27).map fun x => decide ((x : Int) = ((18 : Nat) : Int))) := by
  unfold T_law_kinds
  kernel_rfl
theorem is_18 {vs : List PV} : isXT exN (⟨"Barred", ["index"], vs⟩ : TX) = some true := by kernel_rfl
theorem kinds_19 {vs : List PV} : T_law_kinds (⟨"BadSeats", ["count"], vs⟩ : TX) = .ok () ((rngL 0 27).map fun x => decide ((x : Int) = ((19 : Nat) : Int))) := by
  unfold T_law_kinds
  kernel_rfl
theorem is_19 {vs : List PV} : isXT exN (⟨"BadSeats", ["count"], vs⟩ : TX) = some true := by kernel_rfl
theorem kinds_20 {vs : List PV} : T_law_kinds (⟨"BadName", ["name"], vs⟩ : TX) = .ok () ((rngL 0 27).map fun x => decide ((x : Int) = ((20 : Nat) : Int))) := by
  unfold T_law_kinds
  kernel_rfl
theorem is_20 {vs : List PV} : isXT exN (⟨"BadName", ["name"], vs⟩ : TX) = some true := by kernel_rfl
theorem kinds_21 {vs : List PV} : T_law_kinds (⟨"NoSeat", ["name"], vs⟩ : TX) = .ok () ((rngL 0 27).map fun x => decide ((x : Int) = ((21 : Nat) : Int))) := by
  unfold T_law_kinds
  kernel_rfl
theorem is_21 {vs : List PV} : isXT exN (⟨"NoSeat", ["name"], vs⟩ : TX) = some true := by kernel_rfl
theorem kinds_22 {vs : List PV} : T_law_kinds (⟨"BadEdit", ["change"], vs⟩ : TX) = .ok () ((rngL 0 27).map fun x => decide ((x : Int) = ((22 : Nat) : Int))) := by
  unfold T_law_kinds
  kernel_rfl
theorem is_22 {vs : List PV} : isXT exN (⟨"BadEdit", ["change"], vs⟩ : TX) = some true := by kernel_rfl
theorem kinds_23 {vs : List PV} : T_law_kinds (⟨"BadMenu", ["count"], vs⟩ : TX) = .ok () ((rngL 0 27).map fun x => decide ((x : Int) = ((23 : Nat) : Int))) := by
  unfold T_law_kinds
  kernel_rfl
theorem is_23 {vs : List PV} : isXT exN (⟨"BadMenu", ["count"], vs⟩ : TX) = some true := by kernel_rfl
theorem kinds_24 {vs : List PV} : T_law_kinds (⟨"TwiceInMenu", ["index"], vs⟩ : TX) = .ok () ((rngL 0 27).map fun x => decide ((x : Int) = ((24 : Nat) : Int))) := by
  unfold T_law_kinds
  kernel_rfl
theorem is_24 {vs : List PV} : isXT exN (⟨"TwiceInMenu", ["index"], vs⟩ : TX) = some true := by kernel_rfl
theorem kinds_25 {vs : List PV} : T_law_kinds (⟨"BadDeed", ["index"], vs⟩ : TX) = .ok () ((rngL 0 27).map fun x => decide ((x : Int) = ((25 : Nat) : Int))) := by
  unfold T_law_kinds
  kernel_rfl
theorem is_25 {vs : List PV} : isXT exN (⟨"BadDeed", ["index"], vs⟩ : TX) = some true := by kernel_rfl
theorem kinds_26 {vs : List PV} : T_law_kinds (⟨"BadLine", ["line"], vs⟩ : TX) = .ok () ((rngL 0 27).map fun x => decide ((x : Int) = ((26 : Nat) : Int))) := by
  unfold T_law_kinds
  kernel_rfl
theorem is_26 {vs : List PV} : isXT exN (⟨"BadLine", ["line"], vs⟩ : TX) = some true := by kernel_rfl
end K86
end
section
set_option maxHeartbeats 0
namespace K86
open PySem PySem.Spec PyProof.Rows L2 RL SP TL TP PW
variable {n : Int} {sv : List Int} {w : String}
theorem all_ok (hw : PyData.strOk (w : Str) = true) : ∀ k : Nat, k < 27 → ∃ r, MkE k n sv w r
  | 0, _ => ⟨_, made_0, (ne_n _), is_0, kinds_0⟩
  | 1, _ => ⟨_, made_1, (ne_n _), is_1, kinds_1⟩
  | 2, _ => ⟨_, made_2, (ne_n _), is_2, kinds_2⟩
  | 3, _ => ⟨_, made_3, (ne_n _), is_3, kinds_3⟩
  | 4, _ => ⟨_, made_4, (ne_n _), is_4, kinds_4⟩
  | 5, _ => ⟨_, made_5, (ne_n _), is_5, kinds_5⟩
  | 6, _ => ⟨_, made_6, (ne_n _), is_6, kinds_6⟩
  | 7, _ => ⟨_, made_7, (ne_n _), is_7, kinds_7⟩
  | 8, _ => ⟨_, made_8, (ne_n _), is_8, kinds_8⟩
  | 9, _ => ⟨_, made_9, (ne_n _), is_9, kinds_9⟩
  | 10, _ => ⟨_, made_10, (ne_n _), is_10, kinds_10⟩
  | 11, _ => ⟨_, made_11, (ne_n _), is_11, kinds_11⟩
  | 12, _ => ⟨_, made_12, (ne_n _), is_12, kinds_12⟩
  | 13, _ => ⟨_, made_13, (ne_n _), is_13, kinds_13⟩
  | 14, _ => ⟨_, made_14, (ne_n _), is_14, kinds_14⟩
  | 15, _ => ⟨_, made_15, (ne_w hw), is_15, kinds_15⟩
  | 16, _ => ⟨_, made_16, (ne_n _), is_16, kinds_16⟩
  | 17, _ => ⟨_, made_17, (ne_n _), is_17, kinds_17⟩
  | 18, _ => ⟨_, made_18, (ne_n _), is_18, kinds_18⟩
  | 19, _ => ⟨_, made_19, (ne_n _), is_19, kinds_19⟩
  | 20, _ => ⟨_, made_20, (ne_w hw), is_20, kinds_20⟩
  | 21, _ => ⟨_, made_21, (ne_w hw), is_21, kinds_21⟩
  | 22, _ => ⟨_, made_22, (ne_t _), is_22, kinds_22⟩
  | 23, _ => ⟨_, made_23, (ne_n _), is_23, kinds_23⟩
  | 24, _ => ⟨_, made_24, (ne_n _), is_24, kinds_24⟩
  | 25, _ => ⟨_, made_25, (ne_n _), is_25, kinds_25⟩
  | 26, _ => ⟨_, made_26, (ne_n _), is_26, kinds_26⟩
  | k + 27, h => absurd h (by omega)
end K86
end
section
set_option maxHeartbeats 0
namespace K86
open PySem PySem.Spec PyProof.Rows L2 RL SP TL TP PW
variable {n : Int} {sv : List Int} {w : String}
theorem words_ok : ∀ w ∈ (["save", "give", "a", "seat", "", "use"] : List String), PyData.strOk (w : Str) = true := by decide +kernel
theorem law_ok (ns : List Int) : ok (T_law ns) fun _ v => v = true := by
  unfold T_law;refine ok_E ?_
  rw [pool_e, wp_callOk];refine wp_oB (rng1_n (n := 27) (by omega)) ?_
  rw [wp_bind];refine wp_for0 (fun i l => PO (10 * i) l) (PO_0 ns) ?_ (fun _ _ => rfl)
  intro i p0 hi hp0;have e30 : (10 : Int) ^ (Int.toNat 30) = 1000000000000000000000000000000 := by decide +kernel
  rw [e30];refine wp_call (draw_ok hp0 (by omega) (by omega) (by omega)) ?_
  rintro p1 z ⟨z0, z1, hp1⟩;rw [wp_let]
  refine wp_call (draw_ok hp1 (by omega) (by omega) (by omega)) ?_
  rintro p2 m ⟨m0, m1, hp2⟩;refine wp_oB (rng1_e m0 (by omega)) ?_
  refine wp_comp (fun a g _ => PO (10 * i + 1 + 1 + a.length) g) hp2 (by rw [rngL_len]; omega) ?_ ?_
  · rintro a x b g acc e hg;have la := congrArg List.length e
    rw [rngL_len] at la;simp at la
    refine wp_call (draw_ok hg (by omega) (by omega) (by omega)) ?_
    rintro p3 y ⟨_, _, hp3⟩;rw [wp_rt]
    show PO (10 * i + 1 + 1 + (a ++ [x]).length) p3
    exact PO.mono hp3 (by simp; omega)
  rintro p3 sv hp3;rw [rngL_len] at hp3
  refine wp_call (draw_ok hp3 (by omega) (by omega) (by omega)) ?_
  rintro p4 t ⟨t0, t1, hp4⟩;have ht : t.toNat < (["save", "give", "a", "seat", "", "use"] : List String).length := by show t.toNat < 6; omega
  refine wp_oB (a := (["save", "give", "a", "seat", "", "use"] : List String)[t.toNat]) (at_e t0 (by show t < 6; omega)) ?_
  obtain ⟨r, R⟩ := all_ok (n := z - 1000000000000000000000000000000 + 1) (sv := sv) (words_ok _ (List.getElem_mem ht)) i hi;refine wp_callE R.mde ?_;refine wp_oB R.ne ?_
  refine wp_oB (a := false) (by rw [R.is]; rfl) ?_
  rw [wp_f (by simp)]
  refine wp_callE R.kd ?_;generalize hw : rngL 0 27 = ws;have e27 : rg1 27 = some ws := by rw [← hw]; exact rng1_n (n := 27) (by omega)
  have l27 : ws.length = 27 := by rw [← hw, rngL_len]
  refine wp_oB e27 ?_;refine wp_map (fun x => decide ((x : Int) = (i : Int))) (fun x hx => rfl) (by rw [l27]; decide) ?_
  rw [wp_f (by simp), wp_nx]
  exact PO.mono hp4 (by omega)
end K86
end
namespace K86
open PySem PySem.Spec PyProof.Rows L2 RL TL TP PW
structure Pl0 (K : Fg) : Prop where
  x_all_all : ∀ c ∈ exN, ∀ d ∈ exN, PySem.W.kitOne K (.ref (He.ga K c)) (.ref (He.ga K d)) = some (decide (c = d))
  x_seat_SeatError : ∀ c ∈ exN, PySem.W.kitOne K (.ref (He.ga K c)) (.ref (He.ga K "SeatError")) = some true
  x_val_ValueError : ∀ c ∈ exN, PySem.W.kitOne K (.ref (He.ga K c)) (.type "ValueError") = some true
theorem plain {K : Fg} (sb : Addr) (c : Pl0 K) (ns : List Int) (hl : ns.length ≤ 63) (hb : ∀ z ∈ ns, Builtin.Int.intBits z ≤ 1048576) : ∃ os, m_law K [.lsk sb (ns.map PV.int)] = .ok (.bl true) os := by
  haveI : F_x_all_all K := ⟨c.x_all_all⟩
  haveI : F_x_seat_SeatError K := ⟨c.x_seat_SeatError⟩
  haveI : F_x_val_ValueError K := ⟨c.x_val_ValueError⟩
  obtain ⟨m, a, e, rfl⟩ := ok_ex (law_ok ns);have h := w_law (K := K) (a1 := sb) (q15 := ns);rw [e] at h;exact ⟨_, h⟩
end K86
section
set_option maxHeartbeats 0
namespace K86
open PySem PySem.Spec PyProof.Rows L2 RL SP
section
variable {P : Program} {w : World} {K : Fg} {mg : Str → Option Value} {base h : Heap}
theorem pl_of (c : He.SaysX fa fn [] [] ex w h K) : Pl0 K := by
  have hx : ex K = true := c.more
  exact ⟨of_decide_eq_true (He.ba (He.ba (He.ba (He.ba (He.ba (He.ba (He.ba (He.ba (He.ba (He.ba (He.ba (He.ba (He.ba (He.ba (He.ba (He.ba (He.ba (He.ba (He.ba (He.ba (He.ba (He.ba (He.ba (He.ba (He.ba (He.ba (He.ba (He.ba (He.ba (He.ba (He.ba (He.ba (He.ba (He.ba (He.ba (He.ba (He.ba (He.ba (He.ba (He.ba (He.ba (He.ba (He.ba (He.ba (He.ba (He.ba (He.ba (He.ba (He.ba (He.ba (He.ba (He.ba (He.ba hx).2).2).2).2).2).2).2).2).2).2).2).2).2).2).2).2).2).2).2).2).2).2).2).2).2).2).2).2).2).2).2).2).2).2).2).2).2).2).2).2).2).2).2).2).2).2).2).2).2).2).2).2).1, of_decide_eq_true (He.ba (He.ba (He.ba (He.ba (He.ba (He.ba (He.ba (He.ba (He.ba (He.ba (He.ba (He.ba (He.ba (He.ba (He.ba (He.ba (He.ba (He.ba (He.ba (He.ba (He.ba (He.ba (He.ba (He.ba (He.ba (He.ba (He.ba (He.ba (He.ba (He.ba (He.ba (He.ba (He.ba (He.ba (He.ba (He.ba (He.ba (He.ba (He.ba (He.ba (He.ba (He.ba (He.ba (He.ba (He.ba (He.ba (He.ba (He.ba (He.ba (He.ba (He.ba (He.ba (He.ba (He.ba hx).2).2).2).2).2).2).2).2).2).2).2).2).2).2).2).2).2).2).2).2).2).2).2).2).2).2).2).2).2).2).2).2).2).2).2).2).2).2).2).2).2).2).2).2).2).2).2).2).2).2).2).2).2).1, of_decide_eq_true (He.ba (He.ba (He.ba (He.ba (He.ba (He.ba (He.ba (He.ba (He.ba (He.ba (He.ba (He.ba (He.ba (He.ba (He.ba (He.ba (He.ba (He.ba (He.ba (He.ba (He.ba (He.ba (He.ba (He.ba (He.ba (He.ba (He.ba (He.ba (He.ba (He.ba (He.ba (He.ba (He.ba (He.ba (He.ba (He.ba (He.ba (He.ba (He.ba (He.ba (He.ba (He.ba (He.ba (He.ba (He.ba (He.ba (He.ba (He.ba (He.ba (He.ba (He.ba (He.ba (He.ba (He.ba (He.ba hx).2).2).2).2).2).2).2).2).2).2).2).2).2).2).2).2).2).2).2).2).2).2).2).2).2).2).2).2).2).2).2).2).2).2).2).2).2).2).2).2).2).2).2).2).2).2).2).2).2).2).2).2).2).2).1⟩
theorem fs_of (X : K.In h) (G : h.Ns mainGlobals mg) (c : He.SaysX fa fn [] [] ex w h K) : Fs K mg where
  free_ValueError := He.free_ok X G (c.t.d.fact 0 (f := .free "ValueError") rfl)
  free_abs := He.free_ok X G (c.t.d.fact 1 (f := .free "abs") rfl)
  free_int := He.free_ok X G (c.t.d.fact 2 (f := .free "int") rfl)
  free_isinstance := He.free_ok X G (c.t.d.fact 3 (f := .free "isinstance") rfl)
  free_len := He.free_ok X G (c.t.d.fact 4 (f := .free "len") rfl)
  free_range := He.free_ok X G (c.t.d.fact 5 (f := .free "range") rfl)
  free_tuple := He.free_ok X G (c.t.d.fact 6 (f := .free "tuple") rfl)
  glo_BadDeed := He.glo_ok X G (c.t.d.fact 7 (f := .glo "BadDeed") rfl)
  glo_BadEdge := He.glo_ok X G (c.t.d.fact 8 (f := .glo "BadEdge") rfl)
  glo_BadEdges := He.glo_ok X G (c.t.d.fact 9 (f := .glo "BadEdges") rfl)
  glo_BadEdit := He.glo_ok X G (c.t.d.fact 10 (f := .glo "BadEdit") rfl)
  glo_BadEntry := He.glo_ok X G (c.t.d.fact 11 (f := .glo "BadEntry") rfl)
  glo_BadExit := He.glo_ok X G (c.t.d.fact 12 (f := .glo "BadExit") rfl)
  glo_BadLength := He.glo_ok X G (c.t.d.fact 13 (f := .glo "BadLength") rfl)
  glo_BadLine := He.glo_ok X G (c.t.d.fact 14 (f := .glo "BadLine") rfl)
  glo_BadMark := He.glo_ok X G (c.t.d.fact 15 (f := .glo "BadMark") rfl)
  glo_BadMenu := He.glo_ok X G (c.t.d.fact 16 (f := .glo "BadMenu") rfl)
  glo_BadName := He.glo_ok X G (c.t.d.fact 17 (f := .glo "BadName") rfl)
  glo_BadPlace := He.glo_ok X G (c.t.d.fact 18 (f := .glo "BadPlace") rfl)
  glo_BadPlaces := He.glo_ok X G (c.t.d.fact 19 (f := .glo "BadPlaces") rfl)
  glo_BadPrice := He.glo_ok X G (c.t.d.fact 20 (f := .glo "BadPrice") rfl)
  glo_BadSeats := He.glo_ok X G (c.t.d.fact 21 (f := .glo "BadSeats") rfl)
  glo_BadWay := He.glo_ok X G (c.t.d.fact 22 (f := .glo "BadWay") rfl)
  glo_BadWord := He.glo_ok X G (c.t.d.fact 23 (f := .glo "BadWord") rfl)
  glo_Barred := He.glo_ok X G (c.t.d.fact 24 (f := .glo "Barred") rfl)
  glo_Idle := He.glo_ok X G (c.t.d.fact 25 (f := .glo "Idle") rfl)
  glo_NoExits := He.glo_ok X G (c.t.d.fact 26 (f := .glo "NoExits") rfl)
  glo_NoGate := He.glo_ok X G (c.t.d.fact 27 (f := .glo "NoGate") rfl)
  glo_NoSeat := He.glo_ok X G (c.t.d.fact 28 (f := .glo "NoSeat") rfl)
  glo_NotWhole := He.glo_ok X G (c.t.d.fact 29 (f := .glo "NotWhole") rfl)
  glo_OtherWeb := He.glo_ok X G (c.t.d.fact 30 (f := .glo "OtherWeb") rfl)
  glo_SeatError := He.glo_ok X G (c.t.d.fact 31 (f := .glo "SeatError") rfl)
  glo_TooMany := He.glo_ok X G (c.t.d.fact 32 (f := .glo "TooMany") rfl)
  glo_TwiceInMenu := He.glo_ok X G (c.t.d.fact 33 (f := .glo "TwiceInMenu") rfl)
  glo_TwoMarks := He.glo_ok X G (c.t.d.fact 34 (f := .glo "TwoMarks") rfl)
  noat_BadDeed_index := He.noat_ok (c.t.d.fact 43 (f := .noat "BadDeed" "index") rfl)
  noat_BadEdge_index := He.noat_ok (c.t.d.fact 44 (f := .noat "BadEdge" "index") rfl)
  noat_BadEdges_count := He.noat_ok (c.t.d.fact 45 (f := .noat "BadEdges" "count") rfl)
  noat_BadEdit_change := He.noat_ok (c.t.d.fact 46 (f := .noat "BadEdit" "change") rfl)
  noat_BadEntry_place := He.noat_ok (c.t.d.fact 47 (f := .noat "BadEntry" "place") rfl)
  noat_BadExit_place := He.noat_ok (c.t.d.fact 48 (f := .noat "BadExit" "place") rfl)
  noat_BadLength_count := He.noat_ok (c.t.d.fact 49 (f := .noat "BadLength" "count") rfl)
  noat_BadLine_line := He.noat_ok (c.t.d.fact 50 (f := .noat "BadLine" "line") rfl)
  noat_BadMark_number := He.noat_ok (c.t.d.fact 51 (f := .noat "BadMark" "number") rfl)
  noat_BadMenu_count := He.noat_ok (c.t.d.fact 52 (f := .noat "BadMenu" "count") rfl)
  noat_BadName_name := He.noat_ok (c.t.d.fact 53 (f := .noat "BadName" "name") rfl)
  noat_BadPlace_number := He.noat_ok (c.t.d.fact 54 (f := .noat "BadPlace" "number") rfl)
  noat_BadPlaces_count := He.noat_ok (c.t.d.fact 55 (f := .noat "BadPlaces" "count") rfl)
  noat_BadPrice_gate := He.noat_ok (c.t.d.fact 56 (f := .noat "BadPrice" "gate") rfl)
  noat_BadSeats_count := He.noat_ok (c.t.d.fact 57 (f := .noat "BadSeats" "count") rfl)
  noat_BadWay_index := He.noat_ok (c.t.d.fact 58 (f := .noat "BadWay" "index") rfl)
  noat_BadWord_word := He.noat_ok (c.t.d.fact 59 (f := .noat "BadWord" "word") rfl)
  noat_Barred_index := He.noat_ok (c.t.d.fact 60 (f := .noat "Barred" "index") rfl)
  noat_Idle_place := He.noat_ok (c.t.d.fact 61 (f := .noat "Idle" "place") rfl)
  noat_NoGate_number := He.noat_ok (c.t.d.fact 62 (f := .noat "NoGate" "number") rfl)
  noat_NoSeat_name := He.noat_ok (c.t.d.fact 63 (f := .noat "NoSeat" "name") rfl)
  noat_NotWhole_place := He.noat_ok (c.t.d.fact 64 (f := .noat "NotWhole" "place") rfl)
  noat_TooMany_count := He.noat_ok (c.t.d.fact 65 (f := .noat "TooMany" "count") rfl)
  noat_TwiceInMenu_index := He.noat_ok (c.t.d.fact 66 (f := .noat "TwiceInMenu" "index") rfl)
  noat_TwoMarks_number := He.noat_ok (c.t.d.fact 67 (f := .noat "TwoMarks" "number") rfl)
  xfx_BadDeed := xfx_ok (by have hx : ex K = true := c.more; exact (He.ba (He.ba (He.ba (He.ba (He.ba (He.ba (He.ba (He.ba (He.ba (He.ba (He.ba (He.ba (He.ba (He.ba (He.ba (He.ba (He.ba (He.ba (He.ba (He.ba (He.ba (He.ba (He.ba (He.ba (He.ba (He.ba hx).2).2).2).2).2).2).2).2).2).2).2).2).2).2).2).2).2).2).2).2).2).2).2).2).2).1)
  xfx_BadEdge := xfx_ok (by have hx : ex K = true := c.more; exact (He.ba (He.ba (He.ba (He.ba (He.ba (He.ba (He.ba (He.ba (He.ba (He.ba (He.ba (He.ba (He.ba (He.ba (He.ba (He.ba (He.ba (He.ba (He.ba (He.ba (He.ba (He.ba (He.ba (He.ba (He.ba (He.ba (He.ba hx).2).2).2).2).2).2).2).2).2).2).2).2).2).2).2).2).2).2).2).2).2).2).2).2).2).2).1)
  xfx_BadEdges := xfx_ok (by have hx : ex K = true := c.more; exact (He.ba (He.ba (He.ba (He.ba (He.ba (He.ba (He.ba (He.ba (He.ba (He.ba (He.ba (He.ba (He.ba (He.ba (He.ba (He.ba (He.ba (He.ba (He.ba (He.ba (He.ba (He.ba (He.ba (He.ba (He.ba (He.ba (He.ba (He.ba hx).2).2).2).2).2).2).2).2).2).2).2).2).2).2).2).2).2).2).2).2).2).2).2).2).2).2).2).1)
  xfx_BadEdit := xfx_ok (by have hx : ex K = true := c.more; exact (He.ba (He.ba (He.ba (He.ba (He.ba (He.ba (He.ba (He.ba (He.ba (He.ba (He.ba (He.ba (He.ba (He.ba (He.ba (He.ba (He.ba (He.ba (He.ba (He.ba (He.ba (He.ba (He.ba (He.ba (He.ba (He.ba (He.ba (He.ba (He.ba hx).2).2).2).2).2).2).2).2).2).2).2).2).2).2).2).2).2).2).2).2).2).2).2).2).2).2).2).2).1)
  xfx_BadEntry := xfx_ok (by have hx : ex K = true := c.more; exact (He.ba (He.ba (He.ba (He.ba (He.ba (He.ba (He.ba (He.ba (He.ba (He.ba (He.ba (He.ba (He.ba (He.ba (He.ba (He.ba (He.ba (He.ba (He.ba (He.ba (He.ba (He.ba (He.ba (He.ba (He.ba (He.ba (He.ba (He.ba (He.ba (He.ba hx).2).2).2).2).2).2).2).2).2).2).2).2).2).2).2).2).2).2).2).2).2).2).2).2).2).2).2).2).2).1)
  xfx_BadExit := xfx_ok (by have hx : ex K = true := c.more; exact (He.ba (He.ba (He.ba (He.ba (He.ba (He.ba (He.ba (He.ba (He.ba (He.ba (He.ba (He.ba (He.ba (He.ba (He.ba (He.ba (He.ba (He.ba (He.ba (He.ba (He.ba (He.ba (He.ba (He.ba (He.ba (He.ba (He.ba (He.ba (He.ba (He.ba (He.ba hx).2).2).2).2).2).2).2).2).2).2).2).2).2).2).2).2).2).2).2).2).2).2).2).2).2).2).2).2).2).2).1)
  xfx_BadLength := xfx_ok (by have hx : ex K = true := c.more; exact (He.ba (He.ba (He.ba (He.ba (He.ba (He.ba (He.ba (He.ba (He.ba (He.ba (He.ba (He.ba (He.ba (He.ba (He.ba (He.ba (He.ba (He.ba (He.ba (He.ba (He.ba (He.ba (He.ba (He.ba (He.ba (He.ba (He.ba (He.ba (He.ba (He.ba (He.ba (He.ba hx).2).2).2).2).2).2).2).2).2).2).2).2).2).2).2).2).2).2).2).2).2).2).2).2).2).2).2).2).2).2).2).1)
  xfx_BadLine := xfx_ok (by have hx : ex K = true := c.more; exact (He.ba (He.ba (He.ba (He.ba (He.ba (He.ba (He.ba (He.ba (He.ba (He.ba (He.ba (He.ba (He.ba (He.ba (He.ba (He.ba (He.ba (He.ba (He.ba (He.ba (He.ba (He.ba (He.ba (He.ba (He.ba (He.ba (He.ba (He.ba (He.ba (He.ba (He.ba (He.ba (He.ba hx).2).2).2).2).2).2).2).2).2).2).2).2).2).2).2).2).2).2).2).2).2).2).2).2).2).2).2).2).2).2).2).2).1)
  xfx_BadMark := xfx_ok (by have hx : ex K = true := c.more; exact (He.ba (He.ba (He.ba (He.ba (He.ba (He.ba (He.ba (He.ba (He.ba (He.ba (He.ba (He.ba (He.ba (He.ba (He.ba (He.ba (He.ba (He.ba (He.ba (He.ba (He.ba (He.ba (He.ba (He.ba (He.ba (He.ba (He.ba (He.ba (He.ba (He.ba (He.ba (He.ba (He.ba (He.ba hx).2).2).2).2).2).2).2).2).2).2).2).2).2).2).2).2).2).2).2).2).2).2).2).2).2).2).2).2).2).2).2).2).2).1)
  xfx_BadMenu := xfx_ok (by have hx : ex K = true := c.more; exact (He.ba (He.ba (He.ba (He.ba (He.ba (He.ba (He.ba (He.ba (He.ba (He.ba (He.ba (He.ba (He.ba (He.ba (He.ba (He.ba (He.ba (He.ba (He.ba (He.ba (He.ba (He.ba (He.ba (He.ba (He.ba (He.ba (He.ba (He.ba (He.ba (He.ba (He.ba (He.ba (He.ba (He.ba (He.ba hx).2).2).2).2).2).2).2).2).2).2).2).2).2).2).2).2).2).2).2).2).2).2).2).2).2).2).2).2).2).2).2).2).2).2).1)
  xfx_BadName := xfx_ok (by have hx : ex K = true := c.more; exact (He.ba (He.ba (He.ba (He.ba (He.ba (He.ba (He.ba (He.ba (He.ba (He.ba (He.ba (He.ba (He.ba (He.ba (He.ba (He.ba (He.ba (He.ba (He.ba (He.ba (He.ba (He.ba (He.ba (He.ba (He.ba (He.ba (He.ba (He.ba (He.ba (He.ba (He.ba (He.ba (He.ba (He.ba (He.ba (He.ba hx).2).2).2).2).2).2).2).2).2).2).2).2).2).2).2).2).2).2).2).2).2).2).2).2).2).2).2).2).2).2).2).2).2).2).2).1)
  xfx_BadPlace := xfx_ok (by have hx : ex K = true := c.more; exact (He.ba (He.ba (He.ba (He.ba (He.ba (He.ba (He.ba (He.ba (He.ba (He.ba (He.ba (He.ba (He.ba (He.ba (He.ba (He.ba (He.ba (He.ba (He.ba (He.ba (He.ba (He.ba (He.ba (He.ba (He.ba (He.ba (He.ba (He.ba (He.ba (He.ba (He.ba (He.ba (He.ba (He.ba (He.ba (He.ba (He.ba hx).2).2).2).2).2).2).2).2).2).2).2).2).2).2).2).2).2).2).2).2).2).2).2).2).2).2).2).2).2).2).2).2).2).2).2).2).1)
  xfx_BadPlaces := xfx_ok (by have hx : ex K = true := c.more; exact (He.ba (He.ba (He.ba (He.ba (He.ba (He.ba (He.ba (He.ba (He.ba (He.ba (He.ba (He.ba (He.ba (He.ba (He.ba (He.ba (He.ba (He.ba (He.ba (He.ba (He.ba (He.ba (He.ba (He.ba (He.ba (He.ba (He.ba (He.ba (He.ba (He.ba (He.ba (He.ba (He.ba (He.ba (He.ba (He.ba (He.ba (He.ba hx).2).2).2).2).2).2).2).2).2).2).2).2).2).2).2).2).2).2).2).2).2).2).2).2).2).2).2).2).2).2).2).2).2).2).2).2).2).1)
  xfx_BadPrice := xfx_ok (by have hx : ex K = true := c.more; exact (He.ba (He.ba (He.ba (He.ba (He.ba (He.ba (He.ba (He.ba (He.ba (He.ba (He.ba (He.ba (He.ba (He.ba (He.ba (He.ba (He.ba (He.ba (He.ba (He.ba (He.ba (He.ba (He.ba (He.ba (He.ba (He.ba (He.ba (He.ba (He.ba (He.ba (He.ba (He.ba (He.ba (He.ba (He.ba (He.ba (He.ba (He.ba (He.ba hx).2).2).2).2).2).2).2).2).2).2).2).2).2).2).2).2).2).2).2).2).2).2).2).2).2).2).2).2).2).2).2).2).2).2).2).2).2).2).1)
  xfx_BadSeats := xfx_ok (by have hx : ex K = true := c.more; exact (He.ba (He.ba (He.ba (He.ba (He.ba (He.ba (He.ba (He.ba (He.ba (He.ba (He.ba (He.ba (He.ba (He.ba (He.ba (He.ba (He.ba (He.ba (He.ba (He.ba (He.ba (He.ba (He.ba (He.ba (He.ba (He.ba (He.ba (He.ba (He.ba (He.ba (He.ba (He.ba (He.ba (He.ba (He.ba (He.ba (He.ba (He.ba (He.ba (He.ba hx).2).2).2).2).2).2).2).2).2).2).2).2).2).2).2).2).2).2).2).2).2).2).2).2).2).2).2).2).2).2).2).2).2).2).2).2).2).2).2).1)
  xfx_BadWay := xfx_ok (by have hx : ex K = true := c.more; exact (He.ba (He.ba (He.ba (He.ba (He.ba (He.ba (He.ba (He.ba (He.ba (He.ba (He.ba (He.ba (He.ba (He.ba (He.ba (He.ba (He.ba (He.ba (He.ba (He.ba (He.ba (He.ba (He.ba (He.ba (He.ba (He.ba (He.ba (He.ba (He.ba (He.ba (He.ba (He.ba (He.ba (He.ba (He.ba (He.ba (He.ba (He.ba (He.ba (He.ba (He.ba hx).2).2).2).2).2).2).2).2).2).2).2).2).2).2).2).2).2).2).2).2).2).2).2).2).2).2).2).2).2).2).2).2).2).2).2).2).2).2).2).2).1)
  xfx_BadWord := xfx_ok (by have hx : ex K = true := c.more; exact (He.ba (He.ba (He.ba (He.ba (He.ba (He.ba (He.ba (He.ba (He.ba (He.ba (He.ba (He.ba (He.ba (He.ba (He.ba (He.ba (He.ba (He.ba (He.ba (He.ba (He.ba (He.ba (He.ba (He.ba (He.ba (He.ba (He.ba (He.ba (He.ba (He.ba (He.ba (He.ba (He.ba (He.ba (He.ba (He.ba (He.ba (He.ba (He.ba (He.ba (He.ba (He.ba hx).2).2).2).2).2).2).2).2).2).2).2).2).2).2).2).2).2).2).2).2).2).2).2).2).2).2).2).2).2).2).2).2).2).2).2).2).2).2).2).2).2).1)
  xfx_Barred := xfx_ok (by have hx : ex K = true := c.more; exact (He.ba (He.ba (He.ba (He.ba (He.ba (He.ba (He.ba (He.ba (He.ba (He.ba (He.ba (He.ba (He.ba (He.ba (He.ba (He.ba (He.ba (He.ba (He.ba (He.ba (He.ba (He.ba (He.ba (He.ba (He.ba (He.ba (He.ba (He.ba (He.ba (He.ba (He.ba (He.ba (He.ba (He.ba (He.ba (He.ba (He.ba (He.ba (He.ba (He.ba (He.ba (He.ba (He.ba hx).2).2).2).2).2).2).2).2).2).2).2).2).2).2).2).2).2).2).2).2).2).2).2).2).2).2).2).2).2).2).2).2).2).2).2).2).2).2).2).2).2).2).1)
  xfx_Idle := xfx_ok (by have hx : ex K = true := c.more; exact (He.ba (He.ba (He.ba (He.ba (He.ba (He.ba (He.ba (He.ba (He.ba (He.ba (He.ba (He.ba (He.ba (He.ba (He.ba (He.ba (He.ba (He.ba (He.ba (He.ba (He.ba (He.ba (He.ba (He.ba (He.ba (He.ba (He.ba (He.ba (He.ba (He.ba (He.ba (He.ba (He.ba (He.ba (He.ba (He.ba (He.ba (He.ba (He.ba (He.ba (He.ba (He.ba (He.ba (He.ba hx).2).2).2).2).2).2).2).2).2).2).2).2).2).2).2).2).2).2).2).2).2).2).2).2).2).2).2).2).2).2).2).2).2).2).2).2).2).2).2).2).2).2).2).1)
  xfx_NoExits := xfx_ok (by have hx : ex K = true := c.more; exact (He.ba (He.ba (He.ba (He.ba (He.ba (He.ba (He.ba (He.ba (He.ba (He.ba (He.ba (He.ba (He.ba (He.ba (He.ba (He.ba (He.ba (He.ba (He.ba (He.ba (He.ba (He.ba (He.ba (He.ba (He.ba (He.ba (He.ba (He.ba (He.ba (He.ba (He.ba (He.ba (He.ba (He.ba (He.ba (He.ba (He.ba (He.ba (He.ba (He.ba (He.ba (He.ba (He.ba (He.ba (He.ba hx).2).2).2).2).2).2).2).2).2).2).2).2).2).2).2).2).2).2).2).2).2).2).2).2).2).2).2).2).2).2).2).2).2).2).2).2).2).2).2).2).2).2).2).2).1)
  xfx_NoGate := xfx_ok (by have hx : ex K = true := c.more; exact (He.ba (He.ba (He.ba (He.ba (He.ba (He.ba (He.ba (He.ba (He.ba (He.ba (He.ba (He.ba (He.ba (He.ba (He.ba (He.ba (He.ba (He.ba (He.ba (He.ba (He.ba (He.ba (He.ba (He.ba (He.ba (He.ba (He.ba (He.ba (He.ba (He.ba (He.ba (He.ba (He.ba (He.ba (He.ba (He.ba (He.ba (He.ba (He.ba (He.ba (He.ba (He.ba (He.ba (He.ba (He.ba (He.ba hx).2).2).2).2).2).2).2).2).2).2).2).2).2).2).2).2).2).2).2).2).2).2).2).2).2).2).2).2).2).2).2).2).2).2).2).2).2).2).2).2).2).2).2).2).2).1)
  xfx_NoSeat := xfx_ok (by have hx : ex K = true := c.more; exact (He.ba (He.ba (He.ba (He.ba (He.ba (He.ba (He.ba (He.ba (He.ba (He.ba (He.ba (He.ba (He.ba (He.ba (He.ba (He.ba (He.ba (He.ba (He.ba (He.ba (He.ba (He.ba (He.ba (He.ba (He.ba (He.ba (He.ba (He.ba (He.ba (He.ba (He.ba (He.ba (He.ba (He.ba (He.ba (He.ba (He.ba (He.ba (He.ba (He.ba (He.ba (He.ba (He.ba (He.ba (He.ba (He.ba (He.ba hx).2).2).2).2).2).2).2).2).2).2).2).2).2).2).2).2).2).2).2).2).2).2).2).2).2).2).2).2).2).2).2).2).2).2).2).2).2).2).2).2).2).2).2).2).2).2).1)
  xfx_NotWhole := xfx_ok (by have hx : ex K = true := c.more; exact (He.ba (He.ba (He.ba (He.ba (He.ba (He.ba (He.ba (He.ba (He.ba (He.ba (He.ba (He.ba (He.ba (He.ba (He.ba (He.ba (He.ba (He.ba (He.ba (He.ba (He.ba (He.ba (He.ba (He.ba (He.ba (He.ba (He.ba (He.ba (He.ba (He.ba (He.ba (He.ba (He.ba (He.ba (He.ba (He.ba (He.ba (He.ba (He.ba (He.ba (He.ba (He.ba (He.ba (He.ba (He.ba (He.ba (He.ba (He.ba hx).2).2).2).2).2).2).2).2).2).2).2).2).2).2).2).2).2).2).2).2).2).2).2).2).2).2).2).2).2).2).2).2).2).2).2).2).2).2).2).2).2).2).2).2).2).2).2).1)
  xfx_OtherWeb := xfx_ok (by have hx : ex K = true := c.more; exact (He.ba (He.ba (He.ba (He.ba (He.ba (He.ba (He.ba (He.ba (He.ba (He.ba (He.ba (He.ba (He.ba (He.ba (He.ba (He.ba (He.ba (He.ba (He.ba (He.ba (He.ba (He.ba (He.ba (He.ba (He.ba (He.ba (He.ba (He.ba (He.ba (He.ba (He.ba (He.ba (He.ba (He.ba (He.ba (He.ba (He.ba (He.ba (He.ba (He.ba (He.ba (He.ba (He.ba (He.ba (He.ba (He.ba (He.ba (He.ba (He.ba hx).2).2).2).2).2).2).2).2).2).2).2).2).2).2).2).2).2).2).2).2).2).2).2).2).2).2).2).2).2).2).2).2).2).2).2).2).2).2).2).2).2).2).2).2).2).2).2).2).1)
  xfx_TooMany := xfx_ok (by have hx : ex K = true := c.more; exact (He.ba (He.ba (He.ba (He.ba (He.ba (He.ba (He.ba (He.ba (He.ba (He.ba (He.ba (He.ba (He.ba (He.ba (He.ba (He.ba (He.ba (He.ba (He.ba (He.ba (He.ba (He.ba (He.ba (He.ba (He.ba (He.ba (He.ba (He.ba (He.ba (He.ba (He.ba (He.ba (He.ba (He.ba (He.ba (He.ba (He.ba (He.ba (He.ba (He.ba (He.ba (He.ba (He.ba (He.ba (He.ba (He.ba (He.ba (He.ba (He.ba (He.ba hx).2).2).2).2).2).2).2).2).2).2).2).2).2).2).2).2).2).2).2).2).2).2).2).2).2).2).2).2).2).2).2).2).2).2).2).2).2).2).2).2).2).2).2).2).2).2).2).2).2).1)
  xfx_TwiceInMenu := xfx_ok (by have hx : ex K = true := c.more; exact (He.ba (He.ba (He.ba (He.ba (He.ba (He.ba (He.ba (He.ba (He.ba (He.ba (He.ba (He.ba (He.ba (He.ba (He.ba (He.ba (He.ba (He.ba (He.ba (He.ba (He.ba (He.ba (He.ba (He.ba (He.ba (He.ba (He.ba (He.ba (He.ba (He.ba (He.ba (He.ba (He.ba (He.ba (He.ba (He.ba (He.ba (He.ba (He.ba (He.ba (He.ba (He.ba (He.ba (He.ba (He.ba (He.ba (He.ba (He.ba (He.ba (He.ba (He.ba hx).2).2).2).2).2).2).2).2).2).2).2).2).2).2).2).2).2).2).2).2).2).2).2).2).2).2).2).2).2).2).2).2).2).2).2).2).2).2).2).2).2).2).2).2).2).2).2).2).2).2).1)
  xfx_TwoMarks := xfx_ok (by have hx : ex K = true := c.more; exact (He.ba (He.ba (He.ba (He.ba (He.ba (He.ba (He.ba (He.ba (He.ba (He.ba (He.ba (He.ba (He.ba (He.ba (He.ba (He.ba (He.ba (He.ba (He.ba (He.ba (He.ba (He.ba (He.ba (He.ba (He.ba (He.ba (He.ba (He.ba (He.ba (He.ba (He.ba (He.ba (He.ba (He.ba (He.ba (He.ba (He.ba (He.ba (He.ba (He.ba (He.ba (He.ba (He.ba (He.ba (He.ba (He.ba (He.ba (He.ba (He.ba (He.ba (He.ba (He.ba hx).2).2).2).2).2).2).2).2).2).2).2).2).2).2).2).2).2).2).2).2).2).2).2).2).2).2).2).2).2).2).2).2).2).2).2).2).2).2).2).2).2).2).2).2).2).2).2).2).2).2).2).1)
  exc0_NoExits := by obtain ⟨e1, e2, e3, e4⟩ := He.exc_ok (c.t.d.fact 68 (f := .exc "NoExits") rfl); exact ⟨e1, e2, e3, e4⟩
  exc0_OtherWeb := by obtain ⟨e1, e2, e3, e4⟩ := He.exc_ok (c.t.d.fact 69 (f := .exc "OtherWeb") rfl); exact ⟨e1, e2, e3, e4⟩
theorem law_of (X : K.In h) (G : h.Ns mainGlobals mg) (c : He.SaysX fa fn [] [] ex w h K) (cp : prs.map (fun p => fnWa K (pA K p.1.1 p.1.2)) = prs.map fun p => p.2.val) (Xb : K.In base) (Gb : base.Ns mainGlobals mg) : FnOk P w K mg base (L2.CX P w) 11 (He.ga K "law") (Classical.choose (c.t.d.def_ 32 (d := dLaw) rfl)) ["_law_script"] (spR K (m_law K)) := by
  have Z := fs_of X G c;have hx : ex K = true := c.more
  obtain ⟨fd_BadPlaces_init, F_BadPlaces_init⟩ := c.t.d.def_ 0 (d := (⟨("BadPlaces", some "__init__"), "__init__", "BadPlaces.__init__", defArgs (sub (top 2) 0), defBody (sub (top 2) 0), defScope (sub (top 2) 0), [], []⟩ : He.DefD)) rfl
  have x_BadPlaces : XCallee P w K mg base 2 "BadPlaces" (He.ga K "BadPlaces") "count" := ⟨_, fd_BadPlaces_init, ["self", "count"], init_ok (N := ["self", "count"]) F_BadPlaces_init ⟨rfl, rfl, rfl, by decide +kernel, rfl, by decide +kernel, by decide +kernel⟩ rfl rfl (oexB_ok (He.ba (He.ba (He.ba (He.ba (He.ba (He.ba (He.ba (He.ba (He.ba (He.ba (He.ba (He.ba (He.ba hx).2).2).2).2).2).2).2).2).2).2).2).2).1) (He.noat_ok (c.t.d.fact 55 (f := .noat "BadPlaces" "count") rfl)) (fun cdv A outer s H E => pss_one (ps_ost (pv 0) (pv 1))), oexB_ok (He.ba (He.ba (He.ba (He.ba (He.ba (He.ba (He.ba (He.ba (He.ba (He.ba (He.ba (He.ba (He.ba hx).2).2).2).2).2).2).2).2).2).2).2).2).1, (He.meth_ok (c.t.d.fact 70 (f := .meth "BadPlaces" "__init__") rfl)).at_, beq_iff_eq.mp (He.meth_ok (c.t.d.fact 70 (f := .meth "BadPlaces" "__init__") rfl)).fn, F_BadPlaces_init.bindsN (fun _ _ _ _ _ _ us hl => match us, hl with | [_, _], _ => rfl), Z.glo_BadPlaces⟩
  obtain ⟨fd_BadEdges_init, F_BadEdges_init⟩ := c.t.d.def_ 1 (d := (⟨("BadEdges", some "__init__"), "__init__", "BadEdges.__init__", defArgs (sub (top 3) 0), defBody (sub (top 3) 0), defScope (sub (top 3) 0), [], []⟩ : He.DefD)) rfl
  have x_BadEdges : XCallee P w K mg base 2 "BadEdges" (He.ga K "BadEdges") "count" := ⟨_, fd_BadEdges_init, ["self", "count"], init_ok (N := ["self", "count"]) F_BadEdges_init ⟨rfl, rfl, rfl, by decide +kernel, rfl, by decide +kernel, by decide +kernel⟩ rfl rfl (oexB_ok (He.ba (He.ba (He.ba hx).2).2).1) (He.noat_ok (c.t.d.fact 45 (f := .noat "BadEdges" "count") rfl)) (fun cdv A outer s H E => pss_one (ps_ost (pv 0) (pv 1))), oexB_ok (He.ba (He.ba (He.ba hx).2).2).1, (He.meth_ok (c.t.d.fact 71 (f := .meth "BadEdges" "__init__") rfl)).at_, beq_iff_eq.mp (He.meth_ok (c.t.d.fact 71 (f := .meth "BadEdges" "__init__") rfl)).fn, F_BadEdges_init.bindsN (fun _ _ _ _ _ _ us hl => match us, hl with | [_, _], _ => rfl), Z.glo_BadEdges⟩
  obtain ⟨fd_BadEdge_init, F_BadEdge_init⟩ := c.t.d.def_ 2 (d := (⟨("BadEdge", some "__init__"), "__init__", "BadEdge.__init__", defArgs (sub (top 4) 0), defBody (sub (top 4) 0), defScope (sub (top 4) 0), [], []⟩ : He.DefD)) rfl
  have x_BadEdge : XCallee P w K mg base 2 "BadEdge" (He.ga K "BadEdge") "index" := ⟨_, fd_BadEdge_init, ["self", "index"], init_ok (N := ["self", "index"]) F_BadEdge_init ⟨rfl, rfl, rfl, by decide +kernel, rfl, by decide +kernel, by decide +kernel⟩ rfl rfl (oexB_ok (He.ba (He.ba hx).2).1) (He.noat_ok (c.t.d.fact 44 (f := .noat "BadEdge" "index") rfl)) (fun cdv A outer s H E => pss_one (ps_ost (pv 0) (pv 1))), oexB_ok (He.ba (He.ba hx).2).1, (He.meth_ok (c.t.d.fact 72 (f := .meth "BadEdge" "__init__") rfl)).at_, beq_iff_eq.mp (He.meth_ok (c.t.d.fact 72 (f := .meth "BadEdge" "__init__") rfl)).fn, F_BadEdge_init.bindsN (fun _ _ _ _ _ _ us hl => match us, hl with | [_, _], _ => rfl), Z.glo_BadEdge⟩
  obtain ⟨fd_BadEntry_init, F_BadEntry_init⟩ := c.t.d.def_ 3 (d := (⟨("BadEntry", some "__init__"), "__init__", "BadEntry.__init__", defArgs (sub (top 5) 0), defBody (sub (top 5) 0), defScope (sub (top 5) 0), [], []⟩ : He.DefD)) rfl
  have x_BadEntry : XCallee P w K mg base 2 "BadEntry" (He.ga K "BadEntry") "place" := ⟨_, fd_BadEntry_init, ["self", "place"], init_ok (N := ["self", "place"]) F_BadEntry_init ⟨rfl, rfl, rfl, by decide +kernel, rfl, by decide +kernel, by decide +kernel⟩ rfl rfl (oexB_ok (He.ba (He.ba (He.ba (He.ba (He.ba hx).2).2).2).2).1) (He.noat_ok (c.t.d.fact 47 (f := .noat "BadEntry" "place") rfl)) (fun cdv A outer s H E => pss_one (ps_ost (pv 0) (pv 1))), oexB_ok (He.ba (He.ba (He.ba (He.ba (He.ba hx).2).2).2).2).1, (He.meth_ok (c.t.d.fact 73 (f := .meth "BadEntry" "__init__") rfl)).at_, beq_iff_eq.mp (He.meth_ok (c.t.d.fact 73 (f := .meth "BadEntry" "__init__") rfl)).fn, F_BadEntry_init.bindsN (fun _ _ _ _ _ _ us hl => match us, hl with | [_, _], _ => rfl), Z.glo_BadEntry⟩
  obtain ⟨fd_BadExit_init, F_BadExit_init⟩ := c.t.d.def_ 4 (d := (⟨("BadExit", some "__init__"), "__init__", "BadExit.__init__", defArgs (sub (top 7) 0), defBody (sub (top 7) 0), defScope (sub (top 7) 0), [], []⟩ : He.DefD)) rfl
  have x_BadExit : XCallee P w K mg base 2 "BadExit" (He.ga K "BadExit") "place" := ⟨_, fd_BadExit_init, ["self", "place"], init_ok (N := ["self", "place"]) F_BadExit_init ⟨rfl, rfl, rfl, by decide +kernel, rfl, by decide +kernel, by decide +kernel⟩ rfl rfl (oexB_ok (He.ba (He.ba (He.ba (He.ba (He.ba (He.ba hx).2).2).2).2).2).1) (He.noat_ok (c.t.d.fact 48 (f := .noat "BadExit" "place") rfl)) (fun cdv A outer s H E => pss_one (ps_ost (pv 0) (pv 1))), oexB_ok (He.ba (He.ba (He.ba (He.ba (He.ba (He.ba hx).2).2).2).2).2).1, (He.meth_ok (c.t.d.fact 74 (f := .meth "BadExit" "__init__") rfl)).at_, beq_iff_eq.mp (He.meth_ok (c.t.d.fact 74 (f := .meth "BadExit" "__init__") rfl)).fn, F_BadExit_init.bindsN (fun _ _ _ _ _ _ us hl => match us, hl with | [_, _], _ => rfl), Z.glo_BadExit⟩
  obtain ⟨fd_Idle_init, F_Idle_init⟩ := c.t.d.def_ 5 (d := (⟨("Idle", some "__init__"), "__init__", "Idle.__init__", defArgs (sub (top 8) 0), defBody (sub (top 8) 0), defScope (sub (top 8) 0), [], []⟩ : He.DefD)) rfl
  have x_Idle : XCallee P w K mg base 2 "Idle" (He.ga K "Idle") "place" := ⟨_, fd_Idle_init, ["self", "place"], init_ok (N := ["self", "place"]) F_Idle_init ⟨rfl, rfl, rfl, by decide +kernel, rfl, by decide +kernel, by decide +kernel⟩ rfl rfl (oexB_ok (He.ba (He.ba (He.ba (He.ba (He.ba (He.ba (He.ba (He.ba (He.ba (He.ba (He.ba (He.ba (He.ba (He.ba (He.ba (He.ba (He.ba (He.ba (He.ba hx).2).2).2).2).2).2).2).2).2).2).2).2).2).2).2).2).2).2).1) (He.noat_ok (c.t.d.fact 61 (f := .noat "Idle" "place") rfl)) (fun cdv A outer s H E => pss_one (ps_ost (pv 0) (pv 1))), oexB_ok (He.ba (He.ba (He.ba (He.ba (He.ba (He.ba (He.ba (He.ba (He.ba (He.ba (He.ba (He.ba (He.ba (He.ba (He.ba (He.ba (He.ba (He.ba (He.ba hx).2).2).2).2).2).2).2).2).2).2).2).2).2).2).2).2).2).2).1, (He.meth_ok (c.t.d.fact 75 (f := .meth "Idle" "__init__") rfl)).at_, beq_iff_eq.mp (He.meth_ok (c.t.d.fact 75 (f := .meth "Idle" "__init__") rfl)).fn, F_Idle_init.bindsN (fun _ _ _ _ _ _ us hl => match us, hl with | [_, _], _ => rfl), Z.glo_Idle⟩
  obtain ⟨fd_NoGate_init, F_NoGate_init⟩ := c.t.d.def_ 6 (d := (⟨("NoGate", some "__init__"), "__init__", "NoGate.__init__", defArgs (sub (top 9) 0), defBody (sub (top 9) 0), defScope (sub (top 9) 0), [], []⟩ : He.DefD)) rfl
  have x_NoGate : XCallee P w K mg base 2 "NoGate" (He.ga K "NoGate") "number" := ⟨_, fd_NoGate_init, ["self", "number"], init_ok (N := ["self", "number"]) F_NoGate_init ⟨rfl, rfl, rfl, by decide +kernel, rfl, by decide +kernel, by decide +kernel⟩ rfl rfl (oexB_ok (He.ba (He.ba (He.ba (He.ba (He.ba (He.ba (He.ba (He.ba (He.ba (He.ba (He.ba (He.ba (He.ba (He.ba (He.ba (He.ba (He.ba (He.ba (He.ba (He.ba hx).2).2).2).2).2).2).2).2).2).2).2).2).2).2).2).2).2).2).2).1) (He.noat_ok (c.t.d.fact 62 (f := .noat "NoGate" "number") rfl)) (fun cdv A outer s H E => pss_one (ps_ost (pv 0) (pv 1))), oexB_ok (He.ba (He.ba (He.ba (He.ba (He.ba (He.ba (He.ba (He.ba (He.ba (He.ba (He.ba (He.ba (He.ba (He.ba (He.ba (He.ba (He.ba (He.ba (He.ba (He.ba hx).2).2).2).2).2).2).2).2).2).2).2).2).2).2).2).2).2).2).2).1, (He.meth_ok (c.t.d.fact 76 (f := .meth "NoGate" "__init__") rfl)).at_, beq_iff_eq.mp (He.meth_ok (c.t.d.fact 76 (f := .meth "NoGate" "__init__") rfl)).fn, F_NoGate_init.bindsN (fun _ _ _ _ _ _ us hl => match us, hl with | [_, _], _ => rfl), Z.glo_NoGate⟩
  obtain ⟨fd_BadWay_init, F_BadWay_init⟩ := c.t.d.def_ 7 (d := (⟨("BadWay", some "__init__"), "__init__", "BadWay.__init__", defArgs (sub (top 10) 0), defBody (sub (top 10) 0), defScope (sub (top 10) 0), [], []⟩ : He.DefD)) rfl
  have x_BadWay : XCallee P w K mg base 2 "BadWay" (He.ga K "BadWay") "index" := ⟨_, fd_BadWay_init, ["self", "index"], init_ok (N := ["self", "index"]) F_BadWay_init ⟨rfl, rfl, rfl, by decide +kernel, rfl, by decide +kernel, by decide +kernel⟩ rfl rfl (oexB_ok (He.ba (He.ba (He.ba (He.ba (He.ba (He.ba (He.ba (He.ba (He.ba (He.ba (He.ba (He.ba (He.ba (He.ba (He.ba (He.ba hx).2).2).2).2).2).2).2).2).2).2).2).2).2).2).2).1) (He.noat_ok (c.t.d.fact 58 (f := .noat "BadWay" "index") rfl)) (fun cdv A outer s H E => pss_one (ps_ost (pv 0) (pv 1))), oexB_ok (He.ba (He.ba (He.ba (He.ba (He.ba (He.ba (He.ba (He.ba (He.ba (He.ba (He.ba (He.ba (He.ba (He.ba (He.ba (He.ba hx).2).2).2).2).2).2).2).2).2).2).2).2).2).2).2).1, (He.meth_ok (c.t.d.fact 77 (f := .meth "BadWay" "__init__") rfl)).at_, beq_iff_eq.mp (He.meth_ok (c.t.d.fact 77 (f := .meth "BadWay" "__init__") rfl)).fn, F_BadWay_init.bindsN (fun _ _ _ _ _ _ us hl => match us, hl with | [_, _], _ => rfl), Z.glo_BadWay⟩
  obtain ⟨fd_NotWhole_init, F_NotWhole_init⟩ := c.t.d.def_ 8 (d := (⟨("NotWhole", some "__init__"), "__init__", "NotWhole.__init__", defArgs (sub (top 11) 0), defBody (sub (top 11) 0), defScope (sub (top 11) 0), [], []⟩ : He.DefD)) rfl
  have x_NotWhole : XCallee P w K mg base 2 "NotWhole" (He.ga K "NotWhole") "place" := ⟨_, fd_NotWhole_init, ["self", "place"], init_ok (N := ["self", "place"]) F_NotWhole_init ⟨rfl, rfl, rfl, by decide +kernel, rfl, by decide +kernel, by decide +kernel⟩ rfl rfl (oexB_ok (He.ba (He.ba (He.ba (He.ba (He.ba (He.ba (He.ba (He.ba (He.ba (He.ba (He.ba (He.ba (He.ba (He.ba (He.ba (He.ba (He.ba (He.ba (He.ba (He.ba (He.ba (He.ba hx).2).2).2).2).2).2).2).2).2).2).2).2).2).2).2).2).2).2).2).2).2).1) (He.noat_ok (c.t.d.fact 64 (f := .noat "NotWhole" "place") rfl)) (fun cdv A outer s H E => pss_one (ps_ost (pv 0) (pv 1))), oexB_ok (He.ba (He.ba (He.ba (He.ba (He.ba (He.ba (He.ba (He.ba (He.ba (He.ba (He.ba (He.ba (He.ba (He.ba (He.ba (He.ba (He.ba (He.ba (He.ba (He.ba (He.ba (He.ba hx).2).2).2).2).2).2).2).2).2).2).2).2).2).2).2).2).2).2).2).2).2).1, (He.meth_ok (c.t.d.fact 78 (f := .meth "NotWhole" "__init__") rfl)).at_, beq_iff_eq.mp (He.meth_ok (c.t.d.fact 78 (f := .meth "NotWhole" "__init__") rfl)).fn, F_NotWhole_init.bindsN (fun _ _ _ _ _ _ us hl => match us, hl with | [_, _], _ => rfl), Z.glo_NotWhole⟩
  obtain ⟨fd_BadPlace_init, F_BadPlace_init⟩ := c.t.d.def_ 9 (d := (⟨("BadPlace", some "__init__"), "__init__", "BadPlace.__init__", defArgs (sub (top 12) 0), defBody (sub (top 12) 0), defScope (sub (top 12) 0), [], []⟩ : He.DefD)) rfl
  have x_BadPlace : XCallee P w K mg base 2 "BadPlace" (He.ga K "BadPlace") "number" := ⟨_, fd_BadPlace_init, ["self", "number"], init_ok (N := ["self", "number"]) F_BadPlace_init ⟨rfl, rfl, rfl, by decide +kernel, rfl, by decide +kernel, by decide +kernel⟩ rfl rfl (oexB_ok (He.ba (He.ba (He.ba (He.ba (He.ba (He.ba (He.ba (He.ba (He.ba (He.ba (He.ba (He.ba hx).2).2).2).2).2).2).2).2).2).2).2).1) (He.noat_ok (c.t.d.fact 54 (f := .noat "BadPlace" "number") rfl)) (fun cdv A outer s H E => pss_one (ps_ost (pv 0) (pv 1))), oexB_ok (He.ba (He.ba (He.ba (He.ba (He.ba (He.ba (He.ba (He.ba (He.ba (He.ba (He.ba (He.ba hx).2).2).2).2).2).2).2).2).2).2).2).1, (He.meth_ok (c.t.d.fact 79 (f := .meth "BadPlace" "__init__") rfl)).at_, beq_iff_eq.mp (He.meth_ok (c.t.d.fact 79 (f := .meth "BadPlace" "__init__") rfl)).fn, F_BadPlace_init.bindsN (fun _ _ _ _ _ _ us hl => match us, hl with | [_, _], _ => rfl), Z.glo_BadPlace⟩
  obtain ⟨fd_BadMark_init, F_BadMark_init⟩ := c.t.d.def_ 10 (d := (⟨("BadMark", some "__init__"), "__init__", "BadMark.__init__", defArgs (sub (top 13) 0), defBody (sub (top 13) 0), defScope (sub (top 13) 0), [], []⟩ : He.DefD)) rfl
  have x_BadMark : XCallee P w K mg base 2 "BadMark" (He.ga K "BadMark") "number" := ⟨_, fd_BadMark_init, ["self", "number"], init_ok (N := ["self", "number"]) F_BadMark_init ⟨rfl, rfl, rfl, by decide +kernel, rfl, by decide +kernel, by decide +kernel⟩ rfl rfl (oexB_ok (He.ba (He.ba (He.ba (He.ba (He.ba (He.ba (He.ba (He.ba (He.ba hx).2).2).2).2).2).2).2).2).1) (He.noat_ok (c.t.d.fact 51 (f := .noat "BadMark" "number") rfl)) (fun cdv A outer s H E => pss_one (ps_ost (pv 0) (pv 1))), oexB_ok (He.ba (He.ba (He.ba (He.ba (He.ba (He.ba (He.ba (He.ba (He.ba hx).2).2).2).2).2).2).2).2).1, (He.meth_ok (c.t.d.fact 80 (f := .meth "BadMark" "__init__") rfl)).at_, beq_iff_eq.mp (He.meth_ok (c.t.d.fact 80 (f := .meth "BadMark" "__init__") rfl)).fn, F_BadMark_init.bindsN (fun _ _ _ _ _ _ us hl => match us, hl with | [_, _], _ => rfl), Z.glo_BadMark⟩
  obtain ⟨fd_TwoMarks_init, F_TwoMarks_init⟩ := c.t.d.def_ 11 (d := (⟨("TwoMarks", some "__init__"), "__init__", "TwoMarks.__init__", defArgs (sub (top 14) 0), defBody (sub (top 14) 0), defScope (sub (top 14) 0), [], []⟩ : He.DefD)) rfl
  have x_TwoMarks : XCallee P w K mg base 2 "TwoMarks" (He.ga K "TwoMarks") "number" := ⟨_, fd_TwoMarks_init, ["self", "number"], init_ok (N := ["self", "number"]) F_TwoMarks_init ⟨rfl, rfl, rfl, by decide +kernel, rfl, by decide +kernel, by decide +kernel⟩ rfl rfl (oexB_ok (He.ba (He.ba (He.ba (He.ba (He.ba (He.ba (He.ba (He.ba (He.ba (He.ba (He.ba (He.ba (He.ba (He.ba (He.ba (He.ba (He.ba (He.ba (He.ba (He.ba (He.ba (He.ba (He.ba (He.ba (He.ba hx).2).2).2).2).2).2).2).2).2).2).2).2).2).2).2).2).2).2).2).2).2).2).2).2).1) (He.noat_ok (c.t.d.fact 67 (f := .noat "TwoMarks" "number") rfl)) (fun cdv A outer s H E => pss_one (ps_ost (pv 0) (pv 1))), oexB_ok (He.ba (He.ba (He.ba (He.ba (He.ba (He.ba (He.ba (He.ba (He.ba (He.ba (He.ba (He.ba (He.ba (He.ba (He.ba (He.ba (He.ba (He.ba (He.ba (He.ba (He.ba (He.ba (He.ba (He.ba (He.ba hx).2).2).2).2).2).2).2).2).2).2).2).2).2).2).2).2).2).2).2).2).2).2).2).2).1, (He.meth_ok (c.t.d.fact 81 (f := .meth "TwoMarks" "__init__") rfl)).at_, beq_iff_eq.mp (He.meth_ok (c.t.d.fact 81 (f := .meth "TwoMarks" "__init__") rfl)).fn, F_TwoMarks_init.bindsN (fun _ _ _ _ _ _ us hl => match us, hl with | [_, _], _ => rfl), Z.glo_TwoMarks⟩
  obtain ⟨fd_BadLength_init, F_BadLength_init⟩ := c.t.d.def_ 12 (d := (⟨("BadLength", some "__init__"), "__init__", "BadLength.__init__", defArgs (sub (top 15) 0), defBody (sub (top 15) 0), defScope (sub (top 15) 0), [], []⟩ : He.DefD)) rfl
  have x_BadLength : XCallee P w K mg base 2 "BadLength" (He.ga K "BadLength") "count" := ⟨_, fd_BadLength_init, ["self", "count"], init_ok (N := ["self", "count"]) F_BadLength_init ⟨rfl, rfl, rfl, by decide +kernel, rfl, by decide +kernel, by decide +kernel⟩ rfl rfl (oexB_ok (He.ba (He.ba (He.ba (He.ba (He.ba (He.ba (He.ba hx).2).2).2).2).2).2).1) (He.noat_ok (c.t.d.fact 49 (f := .noat "BadLength" "count") rfl)) (fun cdv A outer s H E => pss_one (ps_ost (pv 0) (pv 1))), oexB_ok (He.ba (He.ba (He.ba (He.ba (He.ba (He.ba (He.ba hx).2).2).2).2).2).2).1, (He.meth_ok (c.t.d.fact 82 (f := .meth "BadLength" "__init__") rfl)).at_, beq_iff_eq.mp (He.meth_ok (c.t.d.fact 82 (f := .meth "BadLength" "__init__") rfl)).fn, F_BadLength_init.bindsN (fun _ _ _ _ _ _ us hl => match us, hl with | [_, _], _ => rfl), Z.glo_BadLength⟩
  obtain ⟨fd_BadPrice_init, F_BadPrice_init⟩ := c.t.d.def_ 13 (d := (⟨("BadPrice", some "__init__"), "__init__", "BadPrice.__init__", defArgs (sub (top 16) 0), defBody (sub (top 16) 0), defScope (sub (top 16) 0), [], []⟩ : He.DefD)) rfl
  have x_BadPrice : XCallee P w K mg base 2 "BadPrice" (He.ga K "BadPrice") "gate" := ⟨_, fd_BadPrice_init, ["self", "gate"], init_ok (N := ["self", "gate"]) F_BadPrice_init ⟨rfl, rfl, rfl, by decide +kernel, rfl, by decide +kernel, by decide +kernel⟩ rfl rfl (oexB_ok (He.ba (He.ba (He.ba (He.ba (He.ba (He.ba (He.ba (He.ba (He.ba (He.ba (He.ba (He.ba (He.ba (He.ba hx).2).2).2).2).2).2).2).2).2).2).2).2).2).1) (He.noat_ok (c.t.d.fact 56 (f := .noat "BadPrice" "gate") rfl)) (fun cdv A outer s H E => pss_one (ps_ost (pv 0) (pv 1))), oexB_ok (He.ba (He.ba (He.ba (He.ba (He.ba (He.ba (He.ba (He.ba (He.ba (He.ba (He.ba (He.ba (He.ba (He.ba hx).2).2).2).2).2).2).2).2).2).2).2).2).2).1, (He.meth_ok (c.t.d.fact 83 (f := .meth "BadPrice" "__init__") rfl)).at_, beq_iff_eq.mp (He.meth_ok (c.t.d.fact 83 (f := .meth "BadPrice" "__init__") rfl)).fn, F_BadPrice_init.bindsN (fun _ _ _ _ _ _ us hl => match us, hl with | [_, _], _ => rfl), Z.glo_BadPrice⟩
  obtain ⟨fd_BadWord_init, F_BadWord_init⟩ := c.t.d.def_ 14 (d := (⟨("BadWord", some "__init__"), "__init__", "BadWord.__init__", defArgs (sub (top 17) 0), defBody (sub (top 17) 0), defScope (sub (top 17) 0), [], []⟩ : He.DefD)) rfl
  have x_BadWord : XCallee P w K mg base 2 "BadWord" (He.ga K "BadWord") "word" := ⟨_, fd_BadWord_init, ["self", "word"], init_ok (N := ["self", "word"]) F_BadWord_init ⟨rfl, rfl, rfl, by decide +kernel, rfl, by decide +kernel, by decide +kernel⟩ rfl rfl (oexB_ok (He.ba (He.ba (He.ba (He.ba (He.ba (He.ba (He.ba (He.ba (He.ba (He.ba (He.ba (He.ba (He.ba (He.ba (He.ba (He.ba (He.ba hx).2).2).2).2).2).2).2).2).2).2).2).2).2).2).2).2).1) (He.noat_ok (c.t.d.fact 59 (f := .noat "BadWord" "word") rfl)) (fun cdv A outer s H E => pss_one (ps_ost (pv 0) (pv 1))), oexB_ok (He.ba (He.ba (He.ba (He.ba (He.ba (He.ba (He.ba (He.ba (He.ba (He.ba (He.ba (He.ba (He.ba (He.ba (He.ba (He.ba (He.ba hx).2).2).2).2).2).2).2).2).2).2).2).2).2).2).2).2).1, (He.meth_ok (c.t.d.fact 84 (f := .meth "BadWord" "__init__") rfl)).at_, beq_iff_eq.mp (He.meth_ok (c.t.d.fact 84 (f := .meth "BadWord" "__init__") rfl)).fn, F_BadWord_init.bindsN (fun _ _ _ _ _ _ us hl => match us, hl with | [_, _], _ => rfl), Z.glo_BadWord⟩
  obtain ⟨fd_TooMany_init, F_TooMany_init⟩ := c.t.d.def_ 15 (d := (⟨("TooMany", some "__init__"), "__init__", "TooMany.__init__", defArgs (sub (top 19) 0), defBody (sub (top 19) 0), defScope (sub (top 19) 0), [], []⟩ : He.DefD)) rfl
  have x_TooMany : XCallee P w K mg base 2 "TooMany" (He.ga K "TooMany") "count" := ⟨_, fd_TooMany_init, ["self", "count"], init_ok (N := ["self", "count"]) F_TooMany_init ⟨rfl, rfl, rfl, by decide +kernel, rfl, by decide +kernel, by decide +kernel⟩ rfl rfl (oexB_ok (He.ba (He.ba (He.ba (He.ba (He.ba (He.ba (He.ba (He.ba (He.ba (He.ba (He.ba (He.ba (He.ba (He.ba (He.ba (He.ba (He.ba (He.ba (He.ba (He.ba (He.ba (He.ba (He.ba hx).2).2).2).2).2).2).2).2).2).2).2).2).2).2).2).2).2).2).2).2).2).2).1) (He.noat_ok (c.t.d.fact 65 (f := .noat "TooMany" "count") rfl)) (fun cdv A outer s H E => pss_one (ps_ost (pv 0) (pv 1))), oexB_ok (He.ba (He.ba (He.ba (He.ba (He.ba (He.ba (He.ba (He.ba (He.ba (He.ba (He.ba (He.ba (He.ba (He.ba (He.ba (He.ba (He.ba (He.ba (He.ba (He.ba (He.ba (He.ba (He.ba hx).2).2).2).2).2).2).2).2).2).2).2).2).2).2).2).2).2).2).2).2).2).2).1, (He.meth_ok (c.t.d.fact 85 (f := .meth "TooMany" "__init__") rfl)).at_, beq_iff_eq.mp (He.meth_ok (c.t.d.fact 85 (f := .meth "TooMany" "__init__") rfl)).fn, F_TooMany_init.bindsN (fun _ _ _ _ _ _ us hl => match us, hl with | [_, _], _ => rfl), Z.glo_TooMany⟩
  obtain ⟨fd_Barred_init, F_Barred_init⟩ := c.t.d.def_ 16 (d := (⟨("Barred", some "__init__"), "__init__", "Barred.__init__", defArgs (sub (top 20) 0), defBody (sub (top 20) 0), defScope (sub (top 20) 0), [], []⟩ : He.DefD)) rfl
  have x_Barred : XCallee P w K mg base 2 "Barred" (He.ga K "Barred") "index" := ⟨_, fd_Barred_init, ["self", "index"], init_ok (N := ["self", "index"]) F_Barred_init ⟨rfl, rfl, rfl, by decide +kernel, rfl, by decide +kernel, by decide +kernel⟩ rfl rfl (oexB_ok (He.ba (He.ba (He.ba (He.ba (He.ba (He.ba (He.ba (He.ba (He.ba (He.ba (He.ba (He.ba (He.ba (He.ba (He.ba (He.ba (He.ba (He.ba hx).2).2).2).2).2).2).2).2).2).2).2).2).2).2).2).2).2).1) (He.noat_ok (c.t.d.fact 60 (f := .noat "Barred" "index") rfl)) (fun cdv A outer s H E => pss_one (ps_ost (pv 0) (pv 1))), oexB_ok (He.ba (He.ba (He.ba (He.ba (He.ba (He.ba (He.ba (He.ba (He.ba (He.ba (He.ba (He.ba (He.ba (He.ba (He.ba (He.ba (He.ba (He.ba hx).2).2).2).2).2).2).2).2).2).2).2).2).2).2).2).2).2).1, (He.meth_ok (c.t.d.fact 86 (f := .meth "Barred" "__init__") rfl)).at_, beq_iff_eq.mp (He.meth_ok (c.t.d.fact 86 (f := .meth "Barred" "__init__") rfl)).fn, F_Barred_init.bindsN (fun _ _ _ _ _ _ us hl => match us, hl with | [_, _], _ => rfl), Z.glo_Barred⟩
  obtain ⟨fd_BadSeats_init, F_BadSeats_init⟩ := c.t.d.def_ 17 (d := (⟨("BadSeats", some "__init__"), "__init__", "BadSeats.__init__", defArgs (sub (top 21) 0), defBody (sub (top 21) 0), defScope (sub (top 21) 0), [], []⟩ : He.DefD)) rfl
  have x_BadSeats : XCallee P w K mg base 2 "BadSeats" (He.ga K "BadSeats") "count" := ⟨_, fd_BadSeats_init, ["self", "count"], init_ok (N := ["self", "count"]) F_BadSeats_init ⟨rfl, rfl, rfl, by decide +kernel, rfl, by decide +kernel, by decide +kernel⟩ rfl rfl (oexB_ok (He.ba (He.ba (He.ba (He.ba (He.ba (He.ba (He.ba (He.ba (He.ba (He.ba (He.ba (He.ba (He.ba (He.ba (He.ba hx).2).2).2).2).2).2).2).2).2).2).2).2).2).2).1) (He.noat_ok (c.t.d.fact 57 (f := .noat "BadSeats" "count") rfl)) (fun cdv A outer s H E => pss_one (ps_ost (pv 0) (pv 1))), oexB_ok (He.ba (He.ba (He.ba (He.ba (He.ba (He.ba (He.ba (He.ba (He.ba (He.ba (He.ba (He.ba (He.ba (He.ba (He.ba hx).2).2).2).2).2).2).2).2).2).2).2).2).2).2).1, (He.meth_ok (c.t.d.fact 87 (f := .meth "BadSeats" "__init__") rfl)).at_, beq_iff_eq.mp (He.meth_ok (c.t.d.fact 87 (f := .meth "BadSeats" "__init__") rfl)).fn, F_BadSeats_init.bindsN (fun _ _ _ _ _ _ us hl => match us, hl with | [_, _], _ => rfl), Z.glo_BadSeats⟩
  obtain ⟨fd_BadName_init, F_BadName_init⟩ := c.t.d.def_ 18 (d := (⟨("BadName", some "__init__"), "__init__", "BadName.__init__", defArgs (sub (top 22) 0), defBody (sub (top 22) 0), defScope (sub (top 22) 0), [], []⟩ : He.DefD)) rfl
  have x_BadName : XCallee P w K mg base 2 "BadName" (He.ga K "BadName") "name" := ⟨_, fd_BadName_init, ["self", "name"], init_ok (N := ["self", "name"]) F_BadName_init ⟨rfl, rfl, rfl, by decide +kernel, rfl, by decide +kernel, by decide +kernel⟩ rfl rfl (oexB_ok (He.ba (He.ba (He.ba (He.ba (He.ba (He.ba (He.ba (He.ba (He.ba (He.ba (He.ba hx).2).2).2).2).2).2).2).2).2).2).1) (He.noat_ok (c.t.d.fact 53 (f := .noat "BadName" "name") rfl)) (fun cdv A outer s H E => pss_one (ps_ost (pv 0) (pv 1))), oexB_ok (He.ba (He.ba (He.ba (He.ba (He.ba (He.ba (He.ba (He.ba (He.ba (He.ba (He.ba hx).2).2).2).2).2).2).2).2).2).2).1, (He.meth_ok (c.t.d.fact 88 (f := .meth "BadName" "__init__") rfl)).at_, beq_iff_eq.mp (He.meth_ok (c.t.d.fact 88 (f := .meth "BadName" "__init__") rfl)).fn, F_BadName_init.bindsN (fun _ _ _ _ _ _ us hl => match us, hl with | [_, _], _ => rfl), Z.glo_BadName⟩
  obtain ⟨fd_NoSeat_init, F_NoSeat_init⟩ := c.t.d.def_ 19 (d := (⟨("NoSeat", some "__init__"), "__init__", "NoSeat.__init__", defArgs (sub (top 23) 0), defBody (sub (top 23) 0), defScope (sub (top 23) 0), [], []⟩ : He.DefD)) rfl
  have x_NoSeat : XCallee P w K mg base 2 "NoSeat" (He.ga K "NoSeat") "name" := ⟨_, fd_NoSeat_init, ["self", "name"], init_ok (N := ["self", "name"]) F_NoSeat_init ⟨rfl, rfl, rfl, by decide +kernel, rfl, by decide +kernel, by decide +kernel⟩ rfl rfl (oexB_ok (He.ba (He.ba (He.ba (He.ba (He.ba (He.ba (He.ba (He.ba (He.ba (He.ba (He.ba (He.ba (He.ba (He.ba (He.ba (He.ba (He.ba (He.ba (He.ba (He.ba (He.ba hx).2).2).2).2).2).2).2).2).2).2).2).2).2).2).2).2).2).2).2).2).1) (He.noat_ok (c.t.d.fact 63 (f := .noat "NoSeat" "name") rfl)) (fun cdv A outer s H E => pss_one (ps_ost (pv 0) (pv 1))), oexB_ok (He.ba (He.ba (He.ba (He.ba (He.ba (He.ba (He.ba (He.ba (He.ba (He.ba (He.ba (He.ba (He.ba (He.ba (He.ba (He.ba (He.ba (He.ba (He.ba (He.ba (He.ba hx).2).2).2).2).2).2).2).2).2).2).2).2).2).2).2).2).2).2).2).2).1, (He.meth_ok (c.t.d.fact 89 (f := .meth "NoSeat" "__init__") rfl)).at_, beq_iff_eq.mp (He.meth_ok (c.t.d.fact 89 (f := .meth "NoSeat" "__init__") rfl)).fn, F_NoSeat_init.bindsN (fun _ _ _ _ _ _ us hl => match us, hl with | [_, _], _ => rfl), Z.glo_NoSeat⟩
  obtain ⟨fd_BadEdit_init, F_BadEdit_init⟩ := c.t.d.def_ 20 (d := (⟨("BadEdit", some "__init__"), "__init__", "BadEdit.__init__", defArgs (sub (top 24) 0), defBody (sub (top 24) 0), defScope (sub (top 24) 0), [], []⟩ : He.DefD)) rfl
  have x_BadEdit : XCallee P w K mg base 2 "BadEdit" (He.ga K "BadEdit") "change" := ⟨_, fd_BadEdit_init, ["self", "change"], init_ok (N := ["self", "change"]) F_BadEdit_init ⟨rfl, rfl, rfl, by decide +kernel, rfl, by decide +kernel, by decide +kernel⟩ rfl rfl (oexB_ok (He.ba (He.ba (He.ba (He.ba hx).2).2).2).1) (He.noat_ok (c.t.d.fact 46 (f := .noat "BadEdit" "change") rfl)) (fun cdv A outer s H E => pss_one (ps_ost (pv 0) (pv 1))), oexB_ok (He.ba (He.ba (He.ba (He.ba hx).2).2).2).1, (He.meth_ok (c.t.d.fact 90 (f := .meth "BadEdit" "__init__") rfl)).at_, beq_iff_eq.mp (He.meth_ok (c.t.d.fact 90 (f := .meth "BadEdit" "__init__") rfl)).fn, F_BadEdit_init.bindsN (fun _ _ _ _ _ _ us hl => match us, hl with | [_, _], _ => rfl), Z.glo_BadEdit⟩
  obtain ⟨fd_BadMenu_init, F_BadMenu_init⟩ := c.t.d.def_ 21 (d := (⟨("BadMenu", some "__init__"), "__init__", "BadMenu.__init__", defArgs (sub (top 25) 0), defBody (sub (top 25) 0), defScope (sub (top 25) 0), [], []⟩ : He.DefD)) rfl
  have x_BadMenu : XCallee P w K mg base 2 "BadMenu" (He.ga K "BadMenu") "count" := ⟨_, fd_BadMenu_init, ["self", "count"], init_ok (N := ["self", "count"]) F_BadMenu_init ⟨rfl, rfl, rfl, by decide +kernel, rfl, by decide +kernel, by decide +kernel⟩ rfl rfl (oexB_ok (He.ba (He.ba (He.ba (He.ba (He.ba (He.ba (He.ba (He.ba (He.ba (He.ba hx).2).2).2).2).2).2).2).2).2).1) (He.noat_ok (c.t.d.fact 52 (f := .noat "BadMenu" "count") rfl)) (fun cdv A outer s H E => pss_one (ps_ost (pv 0) (pv 1))), oexB_ok (He.ba (He.ba (He.ba (He.ba (He.ba (He.ba (He.ba (He.ba (He.ba (He.ba hx).2).2).2).2).2).2).2).2).2).1, (He.meth_ok (c.t.d.fact 91 (f := .meth "BadMenu" "__init__") rfl)).at_, beq_iff_eq.mp (He.meth_ok (c.t.d.fact 91 (f := .meth "BadMenu" "__init__") rfl)).fn, F_BadMenu_init.bindsN (fun _ _ _ _ _ _ us hl => match us, hl with | [_, _], _ => rfl), Z.glo_BadMenu⟩
  obtain ⟨fd_TwiceInMenu_init, F_TwiceInMenu_init⟩ := c.t.d.def_ 22 (d := (⟨("TwiceInMenu", some "__init__"), "__init__", "TwiceInMenu.__init__", defArgs (sub (top 26) 0), defBody (sub (top 26) 0), defScope (sub (top 26) 0), [], []⟩ : He.DefD)) rfl
  have x_TwiceInMenu : XCallee P w K mg base 2 "TwiceInMenu" (He.ga K "TwiceInMenu") "index" := ⟨_, fd_TwiceInMenu_init, ["self", "index"], init_ok (N := ["self", "index"]) F_TwiceInMenu_init ⟨rfl, rfl, rfl, by decide +kernel, rfl, by decide +kernel, by decide +kernel⟩ rfl rfl (oexB_ok (He.ba (He.ba (He.ba (He.ba (He.ba (He.ba (He.ba (He.ba (He.ba (He.ba (He.ba (He.ba (He.ba (He.ba (He.ba (He.ba (He.ba (He.ba (He.ba (He.ba (He.ba (He.ba (He.ba (He.ba hx).2).2).2).2).2).2).2).2).2).2).2).2).2).2).2).2).2).2).2).2).2).2).2).1) (He.noat_ok (c.t.d.fact 66 (f := .noat "TwiceInMenu" "index") rfl)) (fun cdv A outer s H E => pss_one (ps_ost (pv 0) (pv 1))), oexB_ok (He.ba (He.ba (He.ba (He.ba (He.ba (He.ba (He.ba (He.ba (He.ba (He.ba (He.ba (He.ba (He.ba (He.ba (He.ba (He.ba (He.ba (He.ba (He.ba (He.ba (He.ba (He.ba (He.ba (He.ba hx).2).2).2).2).2).2).2).2).2).2).2).2).2).2).2).2).2).2).2).2).2).2).2).1, (He.meth_ok (c.t.d.fact 92 (f := .meth "TwiceInMenu" "__init__") rfl)).at_, beq_iff_eq.mp (He.meth_ok (c.t.d.fact 92 (f := .meth "TwiceInMenu" "__init__") rfl)).fn, F_TwiceInMenu_init.bindsN (fun _ _ _ _ _ _ us hl => match us, hl with | [_, _], _ => rfl), Z.glo_TwiceInMenu⟩
  obtain ⟨fd_BadDeed_init, F_BadDeed_init⟩ := c.t.d.def_ 23 (d := (⟨("BadDeed", some "__init__"), "__init__", "BadDeed.__init__", defArgs (sub (top 27) 0), defBody (sub (top 27) 0), defScope (sub (top 27) 0), [], []⟩ : He.DefD)) rfl
  have x_BadDeed : XCallee P w K mg base 2 "BadDeed" (He.ga K "BadDeed") "index" := ⟨_, fd_BadDeed_init, ["self", "index"], init_ok (N := ["self", "index"]) F_BadDeed_init ⟨rfl, rfl, rfl, by decide +kernel, rfl, by decide +kernel, by decide +kernel⟩ rfl rfl (oexB_ok (He.ba hx).1) (He.noat_ok (c.t.d.fact 43 (f := .noat "BadDeed" "index") rfl)) (fun cdv A outer s H E => pss_one (ps_ost (pv 0) (pv 1))), oexB_ok (He.ba hx).1, (He.meth_ok (c.t.d.fact 93 (f := .meth "BadDeed" "__init__") rfl)).at_, beq_iff_eq.mp (He.meth_ok (c.t.d.fact 93 (f := .meth "BadDeed" "__init__") rfl)).fn, F_BadDeed_init.bindsN (fun _ _ _ _ _ _ us hl => match us, hl with | [_, _], _ => rfl), Z.glo_BadDeed⟩
  obtain ⟨fd_BadLine_init, F_BadLine_init⟩ := c.t.d.def_ 24 (d := (⟨("BadLine", some "__init__"), "__init__", "BadLine.__init__", defArgs (sub (top 28) 0), defBody (sub (top 28) 0), defScope (sub (top 28) 0), [], []⟩ : He.DefD)) rfl
  have x_BadLine : XCallee P w K mg base 2 "BadLine" (He.ga K "BadLine") "line" := ⟨_, fd_BadLine_init, ["self", "line"], init_ok (N := ["self", "line"]) F_BadLine_init ⟨rfl, rfl, rfl, by decide +kernel, rfl, by decide +kernel, by decide +kernel⟩ rfl rfl (oexB_ok (He.ba (He.ba (He.ba (He.ba (He.ba (He.ba (He.ba (He.ba hx).2).2).2).2).2).2).2).1) (He.noat_ok (c.t.d.fact 50 (f := .noat "BadLine" "line") rfl)) (fun cdv A outer s H E => pss_one (ps_ost (pv 0) (pv 1))), oexB_ok (He.ba (He.ba (He.ba (He.ba (He.ba (He.ba (He.ba (He.ba hx).2).2).2).2).2).2).2).1, (He.meth_ok (c.t.d.fact 94 (f := .meth "BadLine" "__init__") rfl)).at_, beq_iff_eq.mp (He.meth_ok (c.t.d.fact 94 (f := .meth "BadLine" "__init__") rfl)).fn, F_BadLine_init.bindsN (fun _ _ _ _ _ _ us hl => match us, hl with | [_, _], _ => rfl), Z.glo_BadLine⟩
  obtain ⟨fd_law_pool, F_law_pool⟩ := c.t.d.def_ 25 (d := (⟨("_law_pool", none), "_law_pool", "_law_pool", defArgs (top 30), defBody (top 30), defScope (top 30), [], []⟩ : He.DefD)) rfl
  have c_law_pool : Callee P w K mg base 5 "_law_pool" ["_law_script"] (m_law_pool K) := ⟨_, fd_law_pool, fn_law_pool Z F_law_pool, He.glo_ok X G (c.t.d.fact 39 (f := .glo "_law_pool") rfl), F_law_pool.kp, F_law_pool.bindsN (fun _ _ _ _ _ _ us hl => match us, hl with | [_], _ => rfl)⟩
  obtain ⟨fd_law_draw, F_law_draw⟩ := c.t.d.def_ 26 (d := (⟨("_law_draw", none), "_law_draw", "_law_draw", defArgs (top 31), defBody (top 31), defScope (top 31), [], []⟩ : He.DefD)) rfl
  have c_law_draw : Callee P w K mg base 5 "_law_draw" ["_law_pool_here", "_law_limit"] (m_law_draw K) := ⟨_, fd_law_draw, fn_law_draw Z F_law_draw, He.glo_ok X G (c.t.d.fact 35 (f := .glo "_law_draw") rfl), F_law_draw.kp, F_law_draw.bindsN (fun _ _ _ _ _ _ us hl => match us, hl with | [_, _], _ => rfl)⟩
  obtain ⟨fd_law_first_v2, F_law_first_v2⟩ := c.t.d.def_ 27 (d := (⟨("_law_first", none), "_law_first", "_law_first", defArgs (top 32), defBody (top 32), defScope (top 32), [], []⟩ : He.DefD)) rfl
  have c_law_first_v2 : Callee P w K mg base 5 "_law_first" ["_law_k", "_law_number", "_law_several", "_law_word"] (m_law_first_v2 K) := ⟨_, fd_law_first_v2, fn_law_first_v2 Z x_BadPlaces x_BadEdges x_BadEdge x_BadEntry x_BadExit x_Idle x_NoGate x_BadWay F_law_first_v2, He.glo_ok X G (c.t.d.fact 36 (f := .glo "_law_first") rfl), F_law_first_v2.kp, F_law_first_v2.bindsN (fun _ _ _ _ _ _ us hl => match us, hl with | [_, _, _, _], _ => rfl)⟩
  obtain ⟨fd_law_second, F_law_second⟩ := c.t.d.def_ 28 (d := (⟨("_law_second", none), "_law_second", "_law_second", defArgs (top 33), defBody (top 33), defScope (top 33), [], []⟩ : He.DefD)) rfl
  have c_law_second : Callee P w K mg base 5 "_law_second" ["_law_k", "_law_number", "_law_several", "_law_word"] (m_law_second K) := ⟨_, fd_law_second, fn_law_second Z x_NotWhole x_BadPlace x_BadMark x_TwoMarks x_BadLength x_BadPrice x_BadWord x_TooMany F_law_second, He.glo_ok X G (c.t.d.fact 40 (f := .glo "_law_second") rfl), F_law_second.kp, F_law_second.bindsN (fun _ _ _ _ _ _ us hl => match us, hl with | [_, _, _, _], _ => rfl)⟩
  obtain ⟨fd_law_third_v1, F_law_third_v1⟩ := c.t.d.def_ 29 (d := (⟨("_law_third", none), "_law_third", "_law_third", defArgs (top 34), defBody (top 34), defScope (top 34), [], []⟩ : He.DefD)) rfl
  have c_law_third_v1 : Callee P w K mg base 5 "_law_third" ["_law_k", "_law_number", "_law_several", "_law_word"] (m_law_third_v1 K) := ⟨_, fd_law_third_v1, fn_law_third_v1 Z x_Barred x_BadSeats x_BadName x_NoSeat x_BadEdit x_BadMenu x_TwiceInMenu x_BadDeed x_BadLine F_law_third_v1, He.glo_ok X G (c.t.d.fact 41 (f := .glo "_law_third") rfl), F_law_third_v1.kp, F_law_third_v1.bindsN (fun _ _ _ _ _ _ us hl => match us, hl with | [_, _, _, _], _ => rfl)⟩
  obtain ⟨fd_law_kinds, F_law_kinds⟩ := c.t.d.def_ 30 (d := (⟨("_law_kinds", none), "_law_kinds", "_law_kinds", defArgs (top 35), defBody (top 35), defScope (top 35), [], []⟩ : He.DefD)) rfl
  have c_law_kinds : Callee P w K mg base 5 "_law_kinds" ["_law_e"] (m_law_kinds K) := ⟨_, fd_law_kinds, fn_law_kinds Z F_law_kinds, He.glo_ok X G (c.t.d.fact 37 (f := .glo "_law_kinds") rfl), F_law_kinds.kp, F_law_kinds.bindsN (fun _ _ _ _ _ _ us hl => match us, hl with | [_], _ => rfl)⟩
  obtain ⟨fd_law_made_v3, F_law_made_v3⟩ := c.t.d.def_ 31 (d := (⟨("_law_made", none), "_law_made", "_law_made", defArgs (top 36), defBody (top 36), defScope (top 36), [], []⟩ : He.DefD)) rfl
  have c_law_made_v3 : Callee P w K mg base 8 "_law_made" ["_law_k", "_law_number", "_law_several", "_law_word"] (m_law_made_v3 K) := ⟨_, fd_law_made_v3, fn_law_made_v3 Z c_law_first_v2 c_law_second c_law_third_v1 F_law_made_v3, He.glo_ok X G (c.t.d.fact 38 (f := .glo "_law_made") rfl), F_law_made_v3.kp, F_law_made_v3.bindsN (fun _ _ _ _ _ _ us hl => match us, hl with | [_, _, _, _], _ => rfl)⟩
  exact fn_law Z c_law_pool c_law_draw c_law_made_v3 c_law_kinds (Classical.choose_spec (c.t.d.def_ 32 (d := dLaw) rfl))
end
end K86
open PySem PySem.W PySem.Calls PyProof.Rows
theorem PySem.Challenge.cw_savedseats_k86_each_error_holds : PySem.Challenge.rw_savedseats_k86_each_error.Holds := by
  w_on; o_law
  refine HandSHeadRun.head_any (r := OpenLaw.row PySem.Challenge.rw_savedseats_k86_each_error) (q := view (OpenLaw.row PySem.Challenge.rw_savedseats_k86_each_error).prog [37]) (H := K86.hk) (ob := K86.ob) (M := 30000) (loose := [("_law_pool" : PySem.Str), ("_law_draw" : PySem.Str), ("_law_first" : PySem.Str), ("_law_second" : PySem.Str), ("_law_third" : PySem.Str), ("_law_kinds" : PySem.Str), ("_law_made" : PySem.Str), ("SeatError" : PySem.Str), ("BadPlaces" : PySem.Str), ("BadEdges" : PySem.Str), ("BadEdge" : PySem.Str), ("BadEntry" : PySem.Str), ("NoExits" : PySem.Str), ("BadExit" : PySem.Str), ("Idle" : PySem.Str), ("NoGate" : PySem.Str), ("BadWay" : PySem.Str), ("NotWhole" : PySem.Str), ("BadPlace" : PySem.Str), ("BadMark" : PySem.Str), ("TwoMarks" : PySem.Str), ("BadLength" : PySem.Str), ("BadPrice" : PySem.Str), ("BadWord" : PySem.Str), ("OtherWeb" : PySem.Str), ("TooMany" : PySem.Str), ("Barred" : PySem.Str), ("BadSeats" : PySem.Str), ("BadName" : PySem.Str), ("NoSeat" : PySem.Str), ("BadEdit" : PySem.Str), ("BadMenu" : PySem.Str), ("TwiceInMenu" : PySem.Str), ("BadDeed" : PySem.Str), ("BadLine" : PySem.Str)]) (d := HandSHeadRun.topDef (OpenLaw.row PySem.Challenge.rw_savedseats_k86_each_error).prog 37) (kwd := []) K86.ob_eq
    (by kernel_rfl) (fun s => by kernel_rfl) K86.run (by kernel_rfl) (by kernel_rfl) (by kernel_rfl) (by rfl) (by first | assumption | decide +kernel) (by decide +kernel) ⟨rfl, rfl, rfl, rfl, rfl, by decide +kernel⟩ ?hw ?hc
  case hw => w_witness2
  case hc =>
    refine LamX.walk_ofTsE (l := PySem.Challenge.rw_savedseats_k86_each_error) (n := 63) (k := 11) (x := "_law_script") (CX := fun w => L2.CX (PySem.Challenge.rw_savedseats_k86_each_error).prog w) rfl (by decide) (by kernel_rfl) ⟨rfl, by decide, by decide⟩ ?F (fun _ _ _ _ _ z => RL.cx_no z)
    intro w mg fa h Y G hmg0;obtain ⟨K, KX, c, cp⟩ := Y
    have hmg : mg ("law" : PySem.Str) = some (.ref fa) := by
      have e : (HandSHeadRun.topDef (OpenLaw.row PySem.Challenge.rw_savedseats_k86_each_error).prog 37).name = ("law" : PySem.Str) := by kernel_rfl
      rw [← e];exact hmg0
    have e := hmg.symm.trans (He.glo_ok KX G (c.t.d.fact 42 (f := .glo "law") rfl));cases e;refine ⟨K, KX, _, [], RL.spR K (K86.m_law K), (fun p hp => absurd hp (by simp)), (fun p hp => absurd hp (by simp)), (fun p hp => absurd hp (by simp)), ?_, ?_, fun base Xb Gb _ => K86.law_of KX G c cp Xb Gb⟩
    · have b := L2.FunD.bindsA (ps := ["_law_script"]) (Classical.choose_spec (c.t.d.def_ 32 (d := K86.dLaw) rfl)) fun _ _ _ _ _ _ us hl => match us, hl with | [_], _ => rfl
      exact fun s v => b s [v] rfl
    · intro H a ns hl hbits _ hS;obtain ⟨os', ho⟩ := K86.plain a (K86.pl_of c) ns hl hbits
      refine ⟨H, [.lsk a (ns.map RL.PV.int)], [], fun _ _ z => z, .cons (l := []) (ls := []) (.lsk hS (RL.owl_ints ns)) .nil, List.nodup_nil, (fun _ z => absurd z (by simp)), ?_⟩
      rw [ho];intro v F' H' fp' l _ _ ov
      cases ov;rfl
end
